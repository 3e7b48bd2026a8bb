import PyProof.Rows.All
import Wide.All
import OpenK.AllK
import Wide.FinOn
import HandS.Base
import HandS.Call
import HandS.List
import HandS.Comp
import HandS.Dict
import HandS.Iter
import HandS.Ends
import HandS.Words
import HandS.Flow
import HandS.Defaults
import HandS.IsInst
import HandS.Zip
import HandS.Text
import HandS.TupAny
import HandS.NoneIn
import HandS.Sort
import HandS.Small
import HandS.More
import HandS.HeadEnd
import HandS.Head0
import HandS.Head1
import HandS.Head2
import HandS.HeadHook1
import HandS.HeadHook2
import HandS.DictComp
import HandS.Rev
import HandS.SetKeys
import HandS.Strs
import HandS.Style
import KE.KStateDown
import PySem.Challenge.RW_faultward_k88_whole_houses_at_other_time
import KE.DataEq
set_option Elab.async false
set_option linter.all false
set_option maxRecDepth 100000
set_option maxHeartbeats 0
/-! A pure semantics for the part of Python that the program uses: values (tuples by value), a store of lists, dicts, instances; how it lies in the hand layer's heap. -/
namespace Mi
open PySem L2

inductive Va where
  | non | bl (b : Bool) | int (i : Int) | str (x : Str) | tup (xs : List Va) | fro (xs : List Va) | ref (n : Nat)
deriving Inhabited
inductive Ob where
  | lst (xs : List Va)
  | dic (kvs : List (Key × Va))
  | ins (C : Nat) (fs : List (Nat × Va))
  | frd (kvs : List (Key × Va))
deriving Inhabited

/-! ### the store: a tree by the bits of the address -/
inductive Tr where
  | nil
  | node (o : Option Ob) (l r : Tr)
def Tr.get : Tr → Nat → Option Ob
  | .nil, _ => none
  | .node o l r, i => match Nat.beq i 0 with
    | true => o
    | false => match Nat.beq (i % 2) 1 with
      | true => l.get ((i - 1) / 2)
      | false => r.get ((i - 1) / 2)
def Tr.put : Nat → Tr → Nat → Ob → Tr
  | 0, t, _, _ => t
  | f + 1, .nil, i, o => match Nat.beq i 0 with
    | true => .node (some o) .nil .nil
    | false => match Nat.beq (i % 2) 1 with
      | true => .node none (Tr.put f .nil ((i - 1) / 2) o) .nil
      | false => .node none .nil (Tr.put f .nil ((i - 1) / 2) o)
  | f + 1, .node p l r, i, o => match Nat.beq i 0 with
    | true => .node (some o) l r
    | false => match Nat.beq (i % 2) 1 with
      | true => .node p (Tr.put f l ((i - 1) / 2) o) r
      | false => .node p l (Tr.put f r ((i - 1) / 2) o)
theorem beqT {i j : Nat} (h : i = j) : Nat.beq i j = true := by
  subst h
  exact Nat.beq_refl i
theorem beqF {i j : Nat} (h : i ≠ j) : Nat.beq i j = false := by
  cases e : Nat.beq i j with
  | false => rfl
  | true => exact absurd (Nat.eq_of_beq_eq_true e) h
theorem Tr.get_nil (i : Nat) : Tr.get .nil i = none := rfl
theorem Tr.get_put_same : ∀ (f : Nat) (t : Tr) (i : Nat) (o : Ob), i < f → (Tr.put f t i o).get i = some o
  | 0, _, _, _, h => absurd h (Nat.not_lt_zero _)
  | f + 1, .nil, i, o, h => by
    unfold Tr.put
    by_cases h0 : i = 0
    · rw [beqT h0]; subst h0; rfl
    · rw [beqF h0]
      by_cases h1 : i % 2 = 1
      · rw [beqT h1]
        show (match Nat.beq i 0 with | true => none | false => match Nat.beq (i % 2) 1 with | true => (Tr.put f .nil ((i - 1) / 2) o).get ((i - 1) / 2) | false => _) = _
        rw [beqF h0, beqT h1]
        exact Tr.get_put_same f _ _ _ (by omega)
      · rw [beqF h1]
        show (match Nat.beq i 0 with | true => none | false => match Nat.beq (i % 2) 1 with | true => _ | false => (Tr.put f .nil ((i - 1) / 2) o).get ((i - 1) / 2)) = _
        rw [beqF h0, beqF h1]
        exact Tr.get_put_same f _ _ _ (by omega)
  | f + 1, .node p l r, i, o, h => by
    unfold Tr.put
    by_cases h0 : i = 0
    · rw [beqT h0]; subst h0; rfl
    · rw [beqF h0]
      by_cases h1 : i % 2 = 1
      · rw [beqT h1]
        show (match Nat.beq i 0 with | true => p | false => match Nat.beq (i % 2) 1 with | true => (Tr.put f l ((i - 1) / 2) o).get ((i - 1) / 2) | false => _) = _
        rw [beqF h0, beqT h1]
        exact Tr.get_put_same f _ _ _ (by omega)
      · rw [beqF h1]
        show (match Nat.beq i 0 with | true => p | false => match Nat.beq (i % 2) 1 with | true => _ | false => (Tr.put f r ((i - 1) / 2) o).get ((i - 1) / 2)) = _
        rw [beqF h0, beqF h1]
        exact Tr.get_put_same f _ _ _ (by omega)
theorem Tr.get_put_ne : ∀ (f : Nat) (t : Tr) (i j : Nat) (o : Ob), i ≠ j → (Tr.put f t i o).get j = t.get j
  | 0, _, _, _, _, _ => rfl
  | f + 1, .nil, i, j, o, h => by
    unfold Tr.put
    by_cases h0 : i = 0
    · rw [beqT h0]
      show (match Nat.beq j 0 with | true => some o | false => match Nat.beq (j % 2) 1 with | true => none | false => none) = none
      rw [beqF (by omega)]
      cases Nat.beq (j % 2) 1 <;> rfl
    · rw [beqF h0]
      by_cases h1 : i % 2 = 1
      · rw [beqT h1]
        show (match Nat.beq j 0 with | true => none | false => match Nat.beq (j % 2) 1 with | true => (Tr.put f .nil ((i - 1) / 2) o).get ((j - 1) / 2) | false => none) = none
        by_cases j0 : j = 0
        · rw [beqT j0]
        · rw [beqF j0]
          by_cases j1 : j % 2 = 1
          · rw [beqT j1]
            exact Tr.get_put_ne f .nil _ _ o (by omega)
          · rw [beqF j1]
      · rw [beqF h1]
        show (match Nat.beq j 0 with | true => none | false => match Nat.beq (j % 2) 1 with | true => none | false => (Tr.put f .nil ((i - 1) / 2) o).get ((j - 1) / 2)) = none
        by_cases j0 : j = 0
        · rw [beqT j0]
        · rw [beqF j0]
          by_cases j1 : j % 2 = 1
          · rw [beqT j1]
          · rw [beqF j1]
            exact Tr.get_put_ne f .nil _ _ o (by omega)
  | f + 1, .node p l r, i, j, o, h => by
    unfold Tr.put
    by_cases h0 : i = 0
    · rw [beqT h0]
      show (match Nat.beq j 0 with | true => some o | false => match Nat.beq (j % 2) 1 with | true => l.get ((j - 1) / 2) | false => r.get ((j - 1) / 2)) = (match Nat.beq j 0 with | true => p | false => match Nat.beq (j % 2) 1 with | true => l.get ((j - 1) / 2) | false => r.get ((j - 1) / 2))
      rw [beqF (show j ≠ 0 by omega)]
    · rw [beqF h0]
      by_cases h1 : i % 2 = 1
      · rw [beqT h1]
        show (match Nat.beq j 0 with | true => p | false => match Nat.beq (j % 2) 1 with | true => (Tr.put f l ((i - 1) / 2) o).get ((j - 1) / 2) | false => r.get ((j - 1) / 2)) = (match Nat.beq j 0 with | true => p | false => match Nat.beq (j % 2) 1 with | true => l.get ((j - 1) / 2) | false => r.get ((j - 1) / 2))
        by_cases j0 : j = 0
        · rw [beqT j0]
        · rw [beqF j0]
          by_cases j1 : j % 2 = 1
          · rw [beqT j1]
            exact Tr.get_put_ne f l _ _ o (by omega)
          · rw [beqF j1]
      · rw [beqF h1]
        show (match Nat.beq j 0 with | true => p | false => match Nat.beq (j % 2) 1 with | true => l.get ((j - 1) / 2) | false => (Tr.put f r ((i - 1) / 2) o).get ((j - 1) / 2)) = (match Nat.beq j 0 with | true => p | false => match Nat.beq (j % 2) 1 with | true => l.get ((j - 1) / 2) | false => r.get ((j - 1) / 2))
        by_cases j0 : j = 0
        · rw [beqT j0]
        · rw [beqF j0]
          by_cases j1 : j % 2 = 1
          · rw [beqT j1]
          · rw [beqF j1]
            exact Tr.get_put_ne f r _ _ o (by omega)

structure Sto where
  n : Nat
  t : Tr
def Sto.get (S : Sto) (i : Nat) : Option Ob := match Nat.blt i S.n with
  | true => S.t.get i
  | false => none
/-- the object at i becomes o -/
def Sto.set (S : Sto) (i : Nat) (o : Ob) : Sto := ⟨S.n, Tr.put (i + 1) S.t i o⟩
/-- a new object, at S.n -/
def Sto.new (S : Sto) (o : Ob) : Sto := ⟨S.n + 1, Tr.put (S.n + 1) S.t S.n o⟩
theorem bltT {i j : Nat} (h : i < j) : Nat.blt i j = true := Nat.ble_eq_true_of_le h
theorem bltF {i j : Nat} (h : ¬ i < j) : Nat.blt i j = false := by
  cases e : Nat.blt i j with
  | false => rfl
  | true => exact absurd (Nat.le_of_ble_eq_true e) h
theorem Sto.lt {S : Sto} {i : Nat} {o : Ob} (h : S.get i = some o) : i < S.n := by
  unfold Sto.get at h
  by_cases e : i < S.n
  · exact e
  · rw [bltF e] at h; cases h
theorem Sto.get_set {S : Sto} {i : Nat} {o : Ob} (h : i < S.n) : (S.set i o).get i = some o := by
  unfold Sto.get
  rw [show (S.set i o).n = S.n from rfl, bltT h]
  exact Tr.get_put_same _ _ _ _ (Nat.lt_succ_self i)
theorem Sto.get_set_ne {S : Sto} {i j : Nat} {o : Ob} (h : i ≠ j) : (S.set i o).get j = S.get j := by
  unfold Sto.get
  rw [show (S.set i o).n = S.n from rfl, show (S.set i o).t.get j = S.t.get j from Tr.get_put_ne _ _ _ _ _ h]
theorem Sto.get_new {S : Sto} {o : Ob} : (S.new o).get S.n = some o := by
  unfold Sto.get
  rw [show (S.new o).n = S.n + 1 from rfl, bltT (Nat.lt_succ_self _)]
  exact Tr.get_put_same _ _ _ _ (Nat.lt_succ_self _)
theorem Sto.get_new_ne {S : Sto} {j : Nat} {o : Ob} (h : j ≠ S.n) : (S.new o).get j = S.get j := by
  unfold Sto.get
  rw [show (S.new o).n = S.n + 1 from rfl, show (S.new o).t.get j = S.t.get j from Tr.get_put_ne _ _ _ _ _ (Ne.symm h)]
  by_cases e : j < S.n
  · rw [bltT e, bltT (Nat.lt_succ_of_lt e)]
  · rw [bltF e, bltF (by omega)]
theorem Sto.get_new_of {S : Sto} {j : Nat} {o u : Ob} (h : S.get j = some u) : (S.new o).get j = some u := by
  rw [Sto.get_new_ne (Nat.ne_of_lt (Sto.lt h)), h]
theorem Sto.set_n {S : Sto} {i : Nat} {o : Ob} : (S.set i o).n = S.n := rfl
theorem Sto.new_n {S : Sto} {o : Ob} : (S.new o).n = S.n + 1 := rfl

/-! ### results -/
inductive R (α : Type) where
  | ok (a : α) (S : Sto)
  | bad
def R.bind {α β : Type} (r : R α) (k : α → Sto → R β) : R β := match r with
  | .ok a S => k a S
  | .bad => .bad

/-! ### how values and stores lie in the heap -/
/-- names: the classes' addresses, the fields' names, which fields a class's instances may have -/
structure Cf where
  K : PySem.W.Frag
  cA : Nat → Addr
  fN : Nat → Str
  na : Nat → Nat → Bool
structure Cf.Ok (G : Cf) : Prop where
  inj : ∀ i j, G.fN i = G.fN j → i = j
  na : ∀ C j, G.na C j = true → NoAttr G.K (G.cA C) (G.fN j)

/-- a list that nobody writes -/
def SqF (K : PySem.W.Frag) (H : Hp) (a : Addr) (xs : List V) : Prop :=
  (∃ o, H a = some (.frz o (.lst xs))) ∨
    ∃ (o : PySem.Obj) (its : Array Value) (n : Nat), K.lookup a = some o ∧ o.cls = .type "list" ∧ o.dict = none ∧ o.data = .seq its n ∧ its.size ≤ sizeLine ∧ Vals xs its.toList
theorem SqF.sq {K : PySem.W.Frag} {H : Hp} {a : Addr} {xs : List V} (h : SqF K H a xs) : SqL K H a xs := by
  rcases h with ⟨o, h⟩ | h
  · exact .inl (.inr ⟨o, h⟩)
  · exact .inr h

section
variable (G : Cf) (ρ : List Addr) (H : Hp)
mutual
inductive Rep : V → Va → Prop
  | non : Rep .non .non
  | bl (b : Bool) : Rep (.bl b) (.bl b)
  | int (i : Int) : Rep (.int i) (.int i)
  | str (x : Str) : Rep (.str x) (.str x)
  | ref {n : Nat} {a : Addr} : ρ[n]? = some a → Rep (.ref a) (.ref n)
  | tup {p : Addr} {ys : List V} {xs : List Va} : SqT G.K H p ys → Reps ys xs → Rep (.ref p) (.tup xs)
  | fro {p : Addr} {ys : List V} {xs : List Va} : SqF G.K H p ys → Reps ys xs → Rep (.ref p) (.fro xs)
inductive Reps : List V → List Va → Prop
  | nil : Reps [] []
  | cons {v : V} {vs : List V} {x : Va} {xs : List Va} : Rep v x → Reps vs xs → Reps (v :: vs) (x :: xs)
end
/-- pairs: keys alike, values told -/
inductive RepK {κ : Type} : List (κ × V) → List (κ × Va) → Prop
  | nil : RepK [] []
  | cons {k : κ} {v : V} {vs : List (κ × V)} {x : Va} {xs : List (κ × Va)} : Rep G ρ H v x → RepK vs xs → RepK ((k, v) :: vs) ((k, x) :: xs)
/-- fields -/
inductive RepF : List (Str × V) → List (Nat × Va) → Prop
  | nil : RepF [] []
  | cons {j : Nat} {v : V} {vs : List (Str × V)} {x : Va} {xs : List (Nat × Va)} : Rep G ρ H v x → RepF vs xs → RepF ((G.fN j, v) :: vs) ((j, x) :: xs)
def RepO (a : Addr) : Ob → Prop
  | .lst xs => ∃ ys, H a = some (.lst ys) ∧ Reps G ρ H ys xs
  | .dic kvs => ∃ ks, H a = some (.dK ks) ∧ RepK G ρ H ks kvs
  | .ins C fs => ∃ dx gs, H a = some (.ins (G.cA C) dx gs) ∧ RepF G ρ H gs fs ∧ Cls G.K (G.cA C) ∧ (∀ q ∈ fs, G.na C q.1 = true) ∧ fs.length ≤ 100
  | .frd kvs => ∃ ks od, H a = some (.frz od (.dK ks)) ∧ RepK G ρ H ks kvs
end

structure Rel (G : Cf) (ρ : List Addr) (S : Sto) (H : Hp) : Prop where
  len : ρ.length = S.n
  nd : ρ.Nodup
  ob : ∀ (i : Nat) (a : Addr), ρ[i]? = some a → ∃ o, S.get i = some o ∧ RepO G ρ H a o

/-- later: more addresses, all tuples and locked lists as they were -/
structure Ext (G : Cf) (ρ : List Addr) (H : Hp) (ρ' : List Addr) (H' : Hp) : Prop where
  more : ∃ l, ρ' = ρ ++ l
  tup : ∀ p ys, SqT G.K H p ys → SqT G.K H' p ys
  fro : ∀ p ys, SqF G.K H p ys → SqF G.K H' p ys
  frz : ∀ p o ks, H p = some (.frz o (.dK ks)) → H' p = some (.frz o (.dK ks))

section
variable {G : Cf} {ρ ρ1 ρ2 : List Addr} {H H1 H2 : Hp} {S : Sto}
theorem Ext.refl : Ext G ρ H ρ H := ⟨⟨[], by simp⟩, fun _ _ h => h, fun _ _ h => h, fun _ _ _ h => h⟩
theorem Ext.trans (a : Ext G ρ H ρ1 H1) (b : Ext G ρ1 H1 ρ2 H2) : Ext G ρ H ρ2 H2 := by
  obtain ⟨⟨l, rfl⟩, t, f, z⟩ := a
  obtain ⟨⟨l2, rfl⟩, t2, f2, z2⟩ := b
  exact ⟨⟨l ++ l2, by simp⟩, fun p ys h => t2 p ys (t p ys h), fun p ys h => f2 p ys (f p ys h), fun p o ks h => z2 p o ks (z p o ks h)⟩
theorem Ext.at (e : Ext G ρ H ρ1 H1) {n : Nat} {a : Addr} (h : ρ[n]? = some a) : ρ1[n]? = some a := by
  obtain ⟨⟨l, rfl⟩, _, _, _⟩ := e
  rw [List.getElem?_append_left (List.getElem?_eq_some_iff.mp h).1]
  exact h
mutual
theorem Rep.mono (e : Ext G ρ H ρ1 H1) : ∀ {v : V} {x : Va}, Rep G ρ H v x → Rep G ρ1 H1 v x
  | _, _, .non => .non
  | _, _, .bl b => .bl b
  | _, _, .int i => .int i
  | _, _, .str x => .str x
  | _, _, .ref h => .ref (e.at h)
  | _, _, .tup h r => .tup (e.tup _ _ h) (Reps.mono e r)
  | _, _, .fro h r => .fro (e.fro _ _ h) (Reps.mono e r)
theorem Reps.mono (e : Ext G ρ H ρ1 H1) : ∀ {vs : List V} {xs : List Va}, Reps G ρ H vs xs → Reps G ρ1 H1 vs xs
  | _, _, .nil => .nil
  | _, _, .cons a b => .cons (Rep.mono e a) (Reps.mono e b)
end
theorem RepK.mono {κ : Type} (e : Ext G ρ H ρ1 H1) : ∀ {vs : List (κ × V)} {xs : List (κ × Va)}, RepK G ρ H vs xs → RepK G ρ1 H1 vs xs
  | _, _, .nil => .nil
  | _, _, .cons a b => .cons (a.mono e) (RepK.mono e b)
theorem RepF.mono (e : Ext G ρ H ρ1 H1) : ∀ {vs : List (Str × V)} {xs : List (Nat × Va)}, RepF G ρ H vs xs → RepF G ρ1 H1 vs xs
  | _, _, .nil => .nil
  | _, _, .cons a b => .cons (a.mono e) (RepF.mono e b)
theorem Reps.length : ∀ {vs : List V} {xs : List Va}, Reps G ρ H vs xs → vs.length = xs.length
  | _, _, .nil => rfl
  | _, _, .cons _ b => by rw [List.length_cons, List.length_cons, Reps.length b]
theorem RepF.length : ∀ {vs : List (Str × V)} {xs : List (Nat × Va)}, RepF G ρ H vs xs → vs.length = xs.length
  | _, _, .nil => rfl
  | _, _, .cons _ b => by rw [List.length_cons, List.length_cons, RepF.length b]
theorem RepK.length {κ : Type} : ∀ {vs : List (κ × V)} {xs : List (κ × Va)}, RepK G ρ H vs xs → vs.length = xs.length
  | _, _, .nil => rfl
  | _, _, .cons _ b => by rw [List.length_cons, List.length_cons, RepK.length b]
theorem Reps.append : ∀ {vs ws : List V} {xs ys : List Va}, Reps G ρ H vs xs → Reps G ρ H ws ys → Reps G ρ H (vs ++ ws) (xs ++ ys)
  | _, _, _, _, .nil, h => h
  | _, _, _, _, .cons a b, h => .cons a (Reps.append b h)
theorem Reps.get : ∀ {vs : List V} {xs : List Va} {i : Nat} {x : Va}, Reps G ρ H vs xs → xs[i]? = some x → ∃ v, vs[i]? = some v ∧ Rep G ρ H v x
  | _, _, _, _, .nil, h => by simp at h
  | _, _, 0, x, .cons a b, h => by simp at h; subst h; exact ⟨_, rfl, a⟩
  | _, _, i + 1, x, .cons a b, h => by
    obtain ⟨v, h1, h2⟩ := Reps.get (i := i) (x := x) b (by simpa using h)
    exact ⟨v, by simpa using h1, h2⟩
theorem Reps.none : ∀ {vs : List V} {xs : List Va} {i : Nat}, Reps G ρ H vs xs → xs[i]? = Option.none → vs[i]? = Option.none := fun r h => by
  have e := r.length
  rw [List.getElem?_eq_none_iff] at h ⊢
  omega
theorem Reps.take : ∀ {vs : List V} {xs : List Va} (n : Nat), Reps G ρ H vs xs → Reps G ρ H (vs.take n) (xs.take n)
  | _, _, 0, _ => .nil
  | _, _, _ + 1, .nil => .nil
  | _, _, n + 1, .cons a b => .cons a (Reps.take n b)
theorem Reps.drop : ∀ {vs : List V} {xs : List Va} (n : Nat), Reps G ρ H vs xs → Reps G ρ H (vs.drop n) (xs.drop n)
  | _, _, 0, h => h
  | _, _, _ + 1, .nil => .nil
  | _, _, n + 1, .cons _ b => Reps.drop n b
theorem Reps.set : ∀ {vs : List V} {xs : List Va} {v : V} {x : Va} (n : Nat), Rep G ρ H v x → Reps G ρ H vs xs → Reps G ρ H (vs.set n v) (xs.set n x)
  | _, _, _, _, _, _, .nil => .nil
  | _, _, _, _, 0, h, .cons _ b => .cons h b
  | _, _, _, _, n + 1, h, .cons a b => .cons a (Reps.set n h b)
theorem Reps.cons_inv {vs : List V} {x : Va} {xs : List Va} (h : Reps G ρ H vs (x :: xs)) : ∃ v r, vs = v :: r ∧ Rep G ρ H v x ∧ Reps G ρ H r xs := by
  cases h with
  | cons a b => exact ⟨_, _, rfl, a, b⟩
theorem Reps.nil_inv {vs : List V} (h : Reps G ρ H vs []) : vs = [] := by
  cases h
  rfl

/-! ### heaps that grow, objects that change -/
theorem sqT_ext {K : PySem.W.Frag} (h : ∀ b o, H b = some o → H1 b = some o) {p : Addr} {ys : List V} (q : SqT K H p ys) : SqT K H1 p ys := by
  rcases q with (q | ⟨o, q⟩) | q
  · exact .inl (.inl (h _ _ q))
  · exact .inl (.inr ⟨o, h _ _ q⟩)
  · exact .inr q
theorem sqF_ext {K : PySem.W.Frag} (h : ∀ b o, H b = some o → H1 b = some o) {p : Addr} {ys : List V} (q : SqF K H p ys) : SqF K H1 p ys := by
  rcases q with ⟨o, q⟩ | q
  · exact .inl ⟨o, h _ _ q⟩
  · exact .inr q
theorem Ext.same (h : ∀ b o, H b = some o → H1 b = some o) : Ext G ρ H ρ H1 := ⟨⟨[], by simp⟩, fun _ _ q => sqT_ext h q, fun _ _ q => sqF_ext h q, fun _ _ _ q => h _ _ q⟩
theorem Ext.same' (h : ∀ b o, H b = some o → H1 b = some o) (l : List Addr) : Ext G ρ H (ρ ++ l) H1 := ⟨⟨l, rfl⟩, fun _ _ q => sqT_ext h q, fun _ _ q => sqF_ext h q, fun _ _ _ q => h _ _ q⟩
theorem same_upd {p : Addr} {o : HO} (hp : H p = none) : ∀ b u, H b = some u → upd H p o b = some u := fun b u e => by
  rw [upd_ne (ne_of_none e hp)]
  exact e
theorem RepO.keep (h : ∀ b o, H b = some o → H1 b = some o) (e : Ext G ρ H ρ1 H1) {a : Addr} {o : Ob} (r : RepO G ρ H a o) : RepO G ρ1 H1 a o := by
  cases o with
  | lst xs =>
    obtain ⟨ys, q, r⟩ := r
    exact ⟨ys, h _ _ q, r.mono e⟩
  | dic kvs =>
    obtain ⟨ks, q, r⟩ := r
    exact ⟨ks, h _ _ q, r.mono e⟩
  | ins C fs =>
    obtain ⟨dx, gs, q, r, c, n⟩ := r
    exact ⟨dx, gs, h _ _ q, r.mono e, c, n⟩
  | frd kvs =>
    obtain ⟨ks, od, q, r⟩ := r
    exact ⟨ks, od, h _ _ q, r.mono e⟩
/-- no tuple, no locked list -/
def Mu : HO → Prop
  | .tup _ => False
  | .frz _ (.tup _) => False
  | .frz _ (.lst _) => False
  | _ => True
/-- no locked dict -/
def Wr : HO → Prop
  | .frz _ (.dK _) => False
  | _ => True
theorem RepO.some {a : Addr} {o : Ob} (r : RepO G ρ H a o) : ∃ u, H a = Option.some u ∧ Mu u := by
  cases o with
  | lst xs =>
    obtain ⟨ys, q, r⟩ := r
    exact ⟨_, q, trivial⟩
  | dic kvs =>
    obtain ⟨ks, q, r⟩ := r
    exact ⟨_, q, trivial⟩
  | ins C fs =>
    obtain ⟨dx, gs, q, r, c, n⟩ := r
    exact ⟨_, q, trivial⟩
  | frd kvs =>
    obtain ⟨ks, od, q, r⟩ := r
    exact ⟨_, q, trivial⟩
/-- the heap grows by what the store doesn't speak of -/
theorem Rel.same (r : Rel G ρ S H) (h : ∀ b o, H b = some o → H1 b = some o) : Rel G ρ S H1 :=
  ⟨r.len, r.nd, fun i a e => by
    obtain ⟨o, q, x⟩ := r.ob i a e
    exact ⟨o, q, x.keep h (Ext.same h)⟩⟩
theorem Rel.at (r : Rel G ρ S H) {i : Nat} {o : Ob} (h : S.get i = some o) : ∃ a, ρ[i]? = some a ∧ RepO G ρ H a o := by
  have hl := Sto.lt h
  rw [← r.len] at hl
  obtain ⟨u, q, x⟩ := r.ob i ρ[i] (List.getElem?_eq_getElem hl)
  rw [h] at q
  cases q
  exact ⟨_, List.getElem?_eq_getElem hl, x⟩
theorem Rel.ob_of (r : Rel G ρ S H) {i : Nat} {a : Addr} {o : Ob} (h : S.get i = some o) (e : ρ[i]? = some a) : RepO G ρ H a o := by
  obtain ⟨b, q, x⟩ := r.at h
  rw [e] at q
  cases q
  exact x
theorem Rel.notin (r : Rel G ρ S H) {p : Addr} (hp : H p = none) : p ∉ ρ := fun h => by
  obtain ⟨i, hi, e⟩ := List.mem_iff_getElem.mp h
  obtain ⟨o, _, x⟩ := r.ob i p (by rw [List.getElem?_eq_getElem hi, e])
  obtain ⟨u, q, _⟩ := x.some
  rw [hp] at q
  cases q
/-- a new object at p -/
theorem Rel.new (r : Rel G ρ S H) {p : Addr} {o : Ob} (hp : H p = none) (h : ∀ b u, H b = some u → H1 b = some u) (x : RepO G (ρ ++ [p]) H1 p o) :
    Rel G (ρ ++ [p]) (S.new o) H1 ∧ Ext G ρ H (ρ ++ [p]) H1 := by
  have e : Ext G ρ H (ρ ++ [p]) H1 := Ext.same' h [p]
  refine ⟨⟨by rw [List.length_append, r.len]; rfl, ?_, fun i a q => ?_⟩, e⟩
  · refine List.nodup_append.mpr ⟨r.nd, by simp, fun a ha b hb z => ?_⟩
    have z2 : b = p := by simpa using hb
    subst z2
    subst z
    exact r.notin hp ha
  · by_cases hi : i < ρ.length
    · rw [List.getElem?_append_left hi] at q
      obtain ⟨u, q1, x1⟩ := r.ob i a q
      exact ⟨u, Sto.get_new_of q1, x1.keep h e⟩
    · have hi2 : i = ρ.length := by
        have := (List.getElem?_eq_some_iff.mp q).1
        rw [List.length_append, List.length_singleton] at this
        omega
      subst hi2
      rw [List.getElem?_append_right (Nat.le_refl _), Nat.sub_self] at q
      cases q
      refine ⟨o, ?_, x⟩
      rw [r.len]
      exact Sto.get_new
/-- the object at the i-th address is another one -/
theorem Rel.set (r : Rel G ρ S H) {i : Nat} {a : Addr} {o : Ob} {u : HO} (ha : ρ[i]? = some a) (x : ∀ e : Ext G ρ H ρ (upd H a u), RepO G ρ (upd H a u) a o) (e : Ext G ρ H ρ (upd H a u)) :
    Rel G ρ (S.set i o) (upd H a u) := by
  obtain ⟨o0, q0, x0⟩ := r.ob i a ha
  refine ⟨r.len, r.nd, fun j b hb => ?_⟩
  by_cases hij : i = j
  · subst hij
    rw [ha] at hb
    cases hb
    exact ⟨o, Sto.get_set (Sto.lt q0), x e⟩
  · obtain ⟨o1, q1, x1⟩ := r.ob j b hb
    have nab : b ≠ a := by
      rintro rfl
      obtain ⟨h1, e1⟩ := List.getElem?_eq_some_iff.mp ha
      obtain ⟨h2, e2⟩ := List.getElem?_eq_some_iff.mp hb
      exact hij ((List.getElem_inj r.nd).mp (e1.trans e2.symm))
    refine ⟨o1, by rw [Sto.get_set_ne hij]; exact q1, ?_⟩
    cases o1 with
    | lst xs =>
      obtain ⟨ys, q, r⟩ := x1
      exact ⟨ys, by rw [upd_ne nab]; exact q, r.mono e⟩
    | dic kvs =>
      obtain ⟨ks, q, r⟩ := x1
      exact ⟨ks, by rw [upd_ne nab]; exact q, r.mono e⟩
    | ins C fs =>
      obtain ⟨dx, gs, q, r, c, n⟩ := x1
      exact ⟨dx, gs, by rw [upd_ne nab]; exact q, r.mono e, c, n⟩
    | frd kvs =>
      obtain ⟨ks, od, q, r⟩ := x1
      exact ⟨ks, od, by rw [upd_ne nab]; exact q, r.mono e⟩
/-- the object at the i-th address is written -/
theorem Rel.put (r : Rel G ρ S H) {i : Nat} {a : Addr} {o : Ob} {u : HO} (ha : ρ[i]? = some a) (hz : ∃ w, H a = some w ∧ Wr w) (x : ∀ e : Ext G ρ H ρ (upd H a u), RepO G ρ (upd H a u) a o) :
    Rel G ρ (S.set i o) (upd H a u) ∧ Ext G ρ H ρ (upd H a u) := by
  obtain ⟨o0, q0, x0⟩ := r.ob i a ha
  obtain ⟨u0, hu0, m0⟩ := x0.some
  have e : Ext G ρ H ρ (upd H a u) := by
    refine ⟨⟨[], by simp⟩, fun p ys q => ?_, fun p ys q => ?_, fun p o ks q => ?_⟩
    · rcases q with (q | ⟨o, q⟩) | q
      · refine .inl (.inl ?_)
        rw [upd_ne (by rintro rfl; rw [hu0] at q; cases q; exact m0)]
        exact q
      · refine .inl (.inr ⟨o, ?_⟩)
        rw [upd_ne (by rintro rfl; rw [hu0] at q; cases q; exact m0)]
        exact q
      · exact .inr q
    · rcases q with ⟨o, q⟩ | q
      · refine .inl ⟨o, ?_⟩
        rw [upd_ne (by rintro rfl; rw [hu0] at q; cases q; exact m0)]
        exact q
      · exact .inr q
    · obtain ⟨w, hw, nw⟩ := hz
      rw [upd_ne (by rintro rfl; rw [hw] at q; cases q; exact nw)]
      exact q
  exact ⟨r.set ha x e, e⟩
end
end Mi
/-! Judgements: a piece of Python does what a function over stores says; one theorem a construct (expressions). -/
namespace Mi
open PySem L2

abbrev Ev := List (Option Va)
abbrev EF := Ev → Sto → R Va
abbrev BF := Ev → Sto → R Bool
abbrev AF := Ev → Sto → R (List Va)

structure RepE (G : Cf) (ρ : List Addr) (H : Hp) (σ : L2.St) (env : Ev) : Prop where
  len : σ.length = env.length
  at_ : ∀ (i : Nat) (x : Va), env[i]? = some (some x) → ∃ v, σ[i]? = some (some v) ∧ Rep G ρ H v x
theorem RepE.mono {G : Cf} {ρ ρ1 : List Addr} {H H1 : Hp} {σ : L2.St} {env : Ev} (e : Ext G ρ H ρ1 H1) (r : RepE G ρ H σ env) : RepE G ρ1 H1 σ env :=
  ⟨r.len, fun i x h => by
    obtain ⟨v, a, b⟩ := r.at_ i x h
    exact ⟨v, a, b.mono e⟩⟩
theorem RepE.set {G : Cf} {ρ : List Addr} {H : Hp} {σ : L2.St} {env : Ev} {v : V} {x : Va} (r : RepE G ρ H σ env) (h : Rep G ρ H v x) (i : Nat) : RepE G ρ H (σ.set i (some v)) (env.set i (some x)) :=
  ⟨by rw [List.length_set, List.length_set, r.len], fun j y hy => by
    by_cases e : i = j
    · subst e
      have hl : i < env.length := by
        have := (List.getElem?_eq_some_iff.mp hy).1
        rwa [List.length_set] at this
      rw [List.getElem?_set_self hl] at hy
      cases hy
      exact ⟨v, List.getElem?_set_self (by rw [r.len]; exact hl), h⟩
    · rw [List.getElem?_set_ne e] at hy
      obtain ⟨u, a, b⟩ := r.at_ j y hy
      exact ⟨u, by rw [List.getElem?_set_ne e]; exact a, b⟩⟩

/-! ### what is wanted behind a piece -/
def Out {α β : Type} (G : Cf) (P : List Addr → Hp → β → α → Prop) (ρ : List Addr) (H : Hp) (r : R α) (Q : β → Hp → Prop) : Prop := match r with
  | .ok a S' => ∀ (ρ' : List Addr) (H' : Hp) (b : β), Ext G ρ H ρ' H' → Rel G ρ' S' H' → P ρ' H' b a → Q b H'
  | .bad => False
section
variable {α β γ δ : Type} {G : Cf} {P : List Addr → Hp → β → α → Prop} {P2 : List Addr → Hp → δ → γ → Prop} {ρ ρ1 : List Addr} {H H1 : Hp} {r : R α} {Q : β → Hp → Prop} {Q2 : δ → Hp → Prop}
theorem Out.mono (e : Ext G ρ H ρ1 H1) (h : Out G P ρ H r Q) : Out G P ρ1 H1 r Q := by
  cases r with
  | bad => exact h
  | ok a S => exact fun ρ' H' b e' rel p => h ρ' H' b (e.trans e') rel p
theorem Out.ok {a : α} {b : β} {S : Sto} (h : Out G P ρ H (.ok a S) Q) (rel : Rel G ρ S H) (p : P ρ H b a) : Q b H := h ρ H b Ext.refl rel p
theorem Out.bind {k : α → Sto → R γ} (h : Out G P2 ρ H (r.bind k) Q2)
    (c : ∀ (a : α) (S' : Sto) (ρ' : List Addr) (H' : Hp) (b : β), r = .ok a S' → Ext G ρ H ρ' H' → Rel G ρ' S' H' → P ρ' H' b a → Out G P2 ρ' H' (k a S') Q2 → Q b H') : Out G P ρ H r Q := by
  cases r with
  | bad => exact h.elim
  | ok a S => exact fun ρ' H' b e rel p => c a S ρ' H' b rfl e rel p (Out.mono e h)
theorem Out.imp (h : Out G P ρ H r Q) {Q' : β → Hp → Prop} (i : ∀ b H', Q b H' → Q' b H') : Out G P ρ H r Q' := by
  cases r with
  | bad => exact h
  | ok a S => exact fun ρ' H' b e rel p => i _ _ (h ρ' H' b e rel p)
end
abbrev PV (G : Cf) : List Addr → Hp → V → Va → Prop := fun ρ H v x => Rep G ρ H v x
abbrev PVs (G : Cf) : List Addr → Hp → List V → List Va → Prop := fun ρ H v x => Reps G ρ H v x
abbrev PB : List Addr → Hp → Bool → Bool → Prop := fun _ _ b c => b = c

/-! ### the pieces' own weakest wants -/
def PEw (X : Cx) (e : Expr) : TE := fun σ H Q => ∀ pins s, Inv X pins σ H s → wpAny (model X.prog X.w) X.A (eval e X.env) (EP X pins σ Q) X.xe s
def PTw (X : Cx) (e : Expr) : TT := fun σ H Q => ∀ pins s, Inv X pins σ H s → wpAny (model X.prog X.w) X.A (isTrue e X.env (eval e X.env)) (TP X pins σ Q) X.xe s
def PWw (X : Cx) (e : Expr) : TT := fun σ H Q => ∀ whole pins s, Inv X pins σ H s → wpAny (model X.prog X.w) X.A (isTrue e X.env whole) (TP X pins σ Q) X.xe s
def PCw (X : Cx) (op : CmpOp) (a b : Expr) : TE := fun σ H Q => ∀ pins s, Inv X pins σ H s →
  wpAny (model X.prog X.w) X.A (eval a X.env) (fun v s₁ => wpAny (model X.prog X.w) X.A (eval b X.env) (fun u s₂ => wpAny (model X.prog X.w) X.A (compareOp op v u) (EP X pins σ Q) X.xe s₂) X.xe s₁) X.xe s
def PAw (X : Cx) (es : List Expr) : TA := fun σ H Q => ∀ pos pins s, Inv X pins σ H s → wpAny (model X.prog X.w) X.A (spliced (backTo pos (starEach es X.env))) (AP X pins σ Q) X.xe s
theorem pew {X : Cx} {e : Expr} : PE X e (PEw X e) := ⟨fun pins s _ _ _ I h => h pins s I⟩
theorem ptw {X : Cx} {e : Expr} : PT X e (PTw X e) := ⟨fun pins s _ _ _ I h => h pins s I⟩
theorem pww {X : Cx} {e : Expr} : PW X e (PWw X e) := ⟨fun wh pins s _ _ _ I h => h wh pins s I⟩
theorem pcw {X : Cx} {op : CmpOp} {a b : Expr} : PC X op a b (PCw X op a b) := ⟨fun pins s _ _ _ I h => h pins s I⟩
theorem paw {X : Cx} {es : List Expr} : PA X es (PAw X es) := ⟨fun pos pins s _ _ _ I h => h pos pins s I⟩
theorem PEw.by {X : Cx} {e : Expr} {t : TE} {σ : L2.St} {H : Hp} {Q : VK} (h : PE X e t) (q : t σ H Q) : PEw X e σ H Q := fun pins s I => h.run pins s σ H Q I q
theorem PTw.by {X : Cx} {e : Expr} {t : TT} {σ : L2.St} {H : Hp} {Q : Bool → Hp → Prop} (h : PT X e t) (q : t σ H Q) : PTw X e σ H Q := fun pins s I => h.run pins s σ H Q I q
theorem PWw.by {X : Cx} {e : Expr} {t : TT} {σ : L2.St} {H : Hp} {Q : Bool → Hp → Prop} (h : PW X e t) (q : t σ H Q) : PWw X e σ H Q := fun wh pins s I => h.run wh pins s σ H Q I q
theorem PCw.by {X : Cx} {op : CmpOp} {a b : Expr} {t : TE} {σ : L2.St} {H : Hp} {Q : VK} (h : PC X op a b t) (q : t σ H Q) : PCw X op a b σ H Q := fun pins s I => h.run pins s σ H Q I q
theorem PAw.by {X : Cx} {es : List Expr} {t : TA} {σ : L2.St} {H : Hp} {Q : List V → Hp → Prop} (h : PA X es t) (q : t σ H Q) : PAw X es σ H Q := fun pos pins s I => h.run pos pins s σ H Q I q

/-! ### what a context must have -/
structure GX (G : Cf) (X : Cx) : Prop where
  ok : G.Ok
  hK : X.K = G.K
  nd : X.N.Nodup
  calm : X.calm = true
  hu : X.A.units + 65 < cLine

def SE (G : Cf) (X : Cx) (e : Expr) (f : EF) : Prop := ∀ (env : Ev) (S : Sto) (ρ : List Addr) (σ : L2.St) (H : Hp) (Q : VK), RepE G ρ H σ env → Rel G ρ S H → Out G (PV G) ρ H (f env S) Q → PEw X e σ H Q
def SC (G : Cf) (X : Cx) (op : CmpOp) (a b : Expr) (f : EF) : Prop := ∀ (env : Ev) (S : Sto) (ρ : List Addr) (σ : L2.St) (H : Hp) (Q : VK), RepE G ρ H σ env → Rel G ρ S H → Out G (PV G) ρ H (f env S) Q → PCw X op a b σ H Q
def ST (G : Cf) (X : Cx) (e : Expr) (f : BF) : Prop := ∀ (env : Ev) (S : Sto) (ρ : List Addr) (σ : L2.St) (H : Hp) (Q : Bool → Hp → Prop), RepE G ρ H σ env → Rel G ρ S H → Out G PB ρ H (f env S) Q → PTw X e σ H Q
def SW (G : Cf) (X : Cx) (e : Expr) (f : BF) : Prop := ∀ (env : Ev) (S : Sto) (ρ : List Addr) (σ : L2.St) (H : Hp) (Q : Bool → Hp → Prop), RepE G ρ H σ env → Rel G ρ S H → Out G PB ρ H (f env S) Q → PWw X e σ H Q
def SA (G : Cf) (X : Cx) (es : List Expr) (f : AF) : Prop := ∀ (env : Ev) (S : Sto) (ρ : List Addr) (σ : L2.St) (H : Hp) (Q : List V → Hp → Prop), RepE G ρ H σ env → Rel G ρ S H → Out G (PVs G) ρ H (f env S) Q → PAw X es σ H Q

/-! ### names, constants -/
def mVar (i : Nat) : EF := fun env S => match env[i]? with
  | some (some v) => .ok v S
  | _ => .bad
def mC (v : Va) : EF := fun _ S => .ok v S
section
variable {G : Cf} {X : Cx} {a b c e : Expr} {es : List Expr} {fa fb fc : EF} {pos : Pos}
theorem se_var {i : Nat} {x : Str} (hN : X.N[i]? = some x) (hv : Vis X.env.scope x) (hd : (x == ("__debug__" : Str)) = false) (hcd : (x == ("__classdict__" : Str)) = false) : SE G X (.Name x pos) (mVar i) := by
  intro env S ρ σ H Q he hr h
  unfold mVar at h
  cases q : env[i]? with
  | none => rw [q] at h; exact h.elim
  | some o =>
    rw [q] at h
    cases o with
    | none => exact h.elim
    | some v =>
      obtain ⟨u, hu, ru⟩ := he.at_ i v q
      exact PEw.by (pe_var hN hv hd hcd) ⟨u, hu, Out.ok h hr ru⟩
theorem se_int {i : Int} {j : Nat} : SE G X (.Constant (.int i) j pos) (mC (.int i)) := fun env S ρ σ H Q he hr h => PEw.by pe_int (Out.ok h hr (.int i))
theorem se_bl {i : Bool} {j : Nat} : SE G X (.Constant (.bool i) j pos) (mC (.bl i)) := fun env S ρ σ H Q he hr h => PEw.by pe_bl (Out.ok h hr (.bl i))
theorem se_non {j : Nat} : SE G X (.Constant .none j pos) (mC .non) := fun env S ρ σ H Q he hr h => PEw.by pe_non (Out.ok h hr .non)
theorem se_str {x y : Str} {j : Nat} (e : x = y) : SE G X (.Constant (.str x) j pos) (mC (.str y)) := by
  subst e
  exact fun env S ρ σ H Q he hr h => PEw.by pe_str (Out.ok h hr (.str x))
/-- a module's constant: an int, a text -/
theorem se_gint {x : Str} {i : Int} (hg : Gl X x) (hm : ∃ t, X.mg x = some (.int i t)) (hd : (x == ("__debug__" : Str)) = false) : SE G X (.Name x pos) (mC (.int i)) := by
  obtain ⟨t, hm⟩ := hm
  exact fun env S ρ σ H Q he hr h => PEw.by (pe_glob hg hm (v := .int i) ⟨t, rfl⟩ hd) (Out.ok h hr (.int i))
theorem se_gstr {x y : Str} (hg : Gl X x) (hm : ∃ t, X.mg x = some (.str y t)) (hd : (x == ("__debug__" : Str)) = false) : SE G X (.Name x pos) (mC (.str y)) := by
  obtain ⟨t, hm⟩ := hm
  exact fun env S ρ σ H Q he hr h => PEw.by (pe_glob hg hm (v := .str y) ⟨t, rfl⟩ hd) (Out.ok h hr (.str y))
/-- a module's constant that is a tuple -/
theorem se_gtup {x : Str} {p : Addr} {ys : List V} {xs : List Va} (hK : X.K = G.K) (hg : Gl X x) (hm : X.mg x = some (.ref p)) (ht : ∀ H, SqT G.K H p ys) (hr : ∀ ρ H, Reps G ρ H ys xs) (hd : (x == ("__debug__" : Str)) = false) : SE G X (.Name x pos) (mC (.tup xs)) :=
  fun env S ρ σ H Q he rl h => PEw.by (pe_glob hg hm (v := .ref p) rfl hd) (Out.ok h rl (.tup (ht H) (hr ρ H)))

/-! ### two-place operations -/
abbrev G2 := Va → Va → Sto → R Va
def mBin (g : G2) (a b : EF) : EF := fun env S => (a env S).bind fun x S1 => (b env S1).bind fun y S2 => g x y S2
def OpW (X : Cx) (f : Value → Value → Sem Value) : R2 := fun x y H Q => ∀ pins s σ v u, Inv X pins σ H s → RelV x v → RelV y u → wpAny (model X.prog X.w) X.A (f v u) (EP X pins σ Q) X.xe s
theorem opw {f : Value → Value → Sem Value} : OpR X f (OpW X f) := fun pins s σ H x y v u Q I rx ry h => h pins s σ v u I rx ry
theorem OpW.by {f : Value → Value → Sem Value} {r : R2} (h : OpR X f r) {x y : V} {H : Hp} {Q : VK} (q : r x y H Q) : OpW X f x y H Q := fun pins s σ v u I rx ry => h pins s σ H x y v u Q I rx ry q
def OpS (G : Cf) (X : Cx) (f : Value → Value → Sem Value) (g : G2) : Prop := ∀ (x y : Va) (v u : V) (S : Sto) (ρ : List Addr) (H : Hp) (Q : VK), Rel G ρ S H → Rep G ρ H v x → Rep G ρ H u y → Out G (PV G) ρ H (g x y S) Q → OpW X f v u H Q
theorem se_bin {op : Operator} {g : G2} (ho : OpS G X (binaryOp op) g) (ha : SE G X a fa) (hb : SE G X b fb) : SE G X (.BinOp a op b pos) (mBin g fa fb) := by
  intro env S ρ σ H Q he hr h
  refine PEw.by (pe_op opw pew pew) (ha env S ρ σ H _ he hr (Out.bind h fun x S1 ρ1 H1 v _ e1 r1 p1 h1 => ?_))
  refine hb env S1 ρ1 σ H1 _ (he.mono e1) r1 (Out.bind h1 fun y S2 ρ2 H2 u _ e2 r2 p2 h2 => ?_)
  exact ho x y v u S2 ρ2 H2 Q r2 (p1.mono e2) p2 h2
theorem sc_op {op : CmpOp} {g : G2} (ho : OpS G X (compareOp op) g) (ha : SE G X a fa) (hb : SE G X b fb) : SC G X op a b (mBin g fa fb) := by
  intro env S ρ σ H Q he hr h pins s I
  refine thn (ha env S ρ σ H (fun v H1 => ∀ s, Inv X pins σ H1 s → ∀ u, RelV v u → wpAny (model X.prog X.w) X.A (eval b X.env) (fun u' s₂ => wpAny (model X.prog X.w) X.A (compareOp op u u') (EP X pins σ Q) X.xe s₂) X.xe s) he hr (Out.bind h fun x S1 ρ1 H1 v _ e1 r1 p1 h1 => ?_) pins s I)
    fun u s1 ⟨v, H1, I1, r1, q1⟩ => q1 s1 I1 u r1
  intro s1 I1 u ru
  refine thn (hb env S1 ρ1 σ H1 (fun v' H2 => OpW X (compareOp op) v v' H2 Q) (he.mono e1) r1 (Out.bind h1 fun y S2 ρ2 H2 u2 _ e2 r2 p2 h2 => ?_) pins s1 I1) fun u' s2 ⟨v', H2, I2, r2, q2⟩ => q2 pins s2 σ _ _ I2 ru r2
  exact ho x y v u2 S2 ρ2 H2 Q r2 (p1.mono e2) p2 h2
theorem se_cmp {op : CmpOp} (h : SC G X op a b fa) (hm : behindInMarks op b = false) : SE G X (.Compare a [op] [b] pos) fa := fun env S ρ σ H Q he hr q => PEw.by (pe_cmp pcw hm) (h env S ρ σ H Q he hr q)
def mBool (f : EF) : BF := fun env S => (f env S).bind fun x S1 => match x with
  | .bl k => .ok k S1
  | _ => .bad
theorem st_cmp {op : CmpOp} (h : SC G X op a b fa) (hm : behindInMarks op b = false) : ST G X (.Compare a [op] [b] pos) (mBool fa) := by
  intro env S ρ σ H Q he hr q
  refine PTw.by (pt_cmp pcw hm) (h env S ρ σ H _ he hr (Out.bind q fun x S1 ρ1 H1 v _ e1 r1 p1 h1 => ?_))
  cases p1 with
  | bl k => exact ⟨k, rfl, Out.ok h1 r1 rfl⟩
  | _ => exact h1.elim

/-- a op b op' c -/
def mChain (g g' : G2) (a b c : EF) : EF := fun env S => (a env S).bind fun x S1 => (b env S1).bind fun y S2 => (g x y S2).bind fun z S3 => match z with
  | .bl true => (c env S3).bind fun w S4 => g' y w S4
  | .bl false => .ok (.bl false) S3
  | _ => .bad
theorem se_chain {op op' : CmpOp} {g g' : G2} (ho : OpS G X (compareOp op) g) (ho' : OpS G X (compareOp op') g') (ha : SE G X a fa) (hb : SE G X b fb) (hc : SE G X c fc) (h1 : behindInMarks op b = false) (h2 : behindInMarks op' c = false)
    (hpe : ∀ {r r' : R2} {ta tb tc : TE}, OpR X (compareOp op) r → OpR X (compareOp op') r' → PE X a ta → PE X b tb → PE X c tc → PE X (.Compare a [op, op'] [b, c] pos) (tChain r r' ta tb tc)) : SE G X (.Compare a [op, op'] [b, c] pos) (mChain g g' fa fb fc) := by
  intro env S ρ σ H Q he hr h
  refine PEw.by (hpe opw opw pew pew pew) (ha env S ρ σ H _ he hr (Out.bind h fun x S1 ρ1 H1 v _ e1 r1 p1 h1 => ?_))
  refine hb env S1 ρ1 σ H1 _ (he.mono e1) r1 (Out.bind h1 fun y S2 ρ2 H2 u _ e2 r2 p2 h2 => ?_)
  refine ho x y v u S2 ρ2 H2 _ r2 (p1.mono e2) p2 (Out.bind h2 fun z S3 ρ3 H3 t _ e3 r3 p3 h3 => ?_)
  cases p3 with
  | bl k =>
    refine ⟨k, rfl, ?_⟩
    cases k with
    | false => exact Out.ok h3 r3 (.bl false)
    | true =>
      refine hc env S3 ρ3 σ H3 _ (he.mono ((e1.trans e2).trans e3)) r3 (Out.bind h3 fun w S4 ρ4 H4 t4 _ e4 r4 p4 h4 => ?_)
      exact ho' y w u t4 S4 ρ4 H4 Q r4 (p2.mono (e3.trans e4)) p4 h4
  | _ => exact h3.elim

theorem st_chain {op op' : CmpOp} {g g' : G2} (ho : OpS G X (compareOp op) g) (ho' : OpS G X (compareOp op') g') (ha : SE G X a fa) (hb : SE G X b fb) (hc : SE G X c fc)
    (hpt : ∀ {r r' : R2} {ta tb tc : TE}, OpR X (compareOp op) r → OpR X (compareOp op') r' → PE X a ta → PE X b tb → PE X c tc → PT X (.Compare a [op, op'] [b, c] pos) (tTest (tChain r r' ta tb tc))) : ST G X (.Compare a [op, op'] [b, c] pos) (mBool (mChain g g' fa fb fc)) := by
  intro env S ρ σ H Q he hr h
  have fin : ∀ {ρ1 : List Addr} {H1 : Hp} {z : Va} {S1 : Sto} {v : V}, Rel G ρ1 S1 H1 → Rep G ρ1 H1 v z → Out G PB ρ1 H1 (match z with | .bl k => R.ok k S1 | _ => .bad) Q → ∃ k, v = .bl k ∧ Q k H1 := by
    intro ρ1 H1 z S1 v r1 p h
    cases p with
    | bl k => exact ⟨k, rfl, Out.ok h r1 rfl⟩
    | _ => exact h.elim
  have h0 : Out G PB ρ H ((fa env S).bind fun x S1 => ((fb env S1).bind fun y S2 => (g x y S2).bind fun z S3 => match z with | .bl true => (fc env S3).bind fun w S4 => g' y w S4 | .bl false => .ok (.bl false) S3 | _ => .bad).bind fun z S5 => match z with | .bl k => .ok k S5 | _ => .bad) Q := by
    unfold mBool mChain at h
    cases q : fa env S with
    | bad => rw [q] at h; exact h
    | ok x S1 => rw [q] at h; exact h
  refine PTw.by (hpt opw opw pew pew pew) (ha env S ρ σ H _ he hr (Out.bind h0 fun x S1 ρ1 H1 v _ e1 r1 p1 h1 => ?_))
  have h1' : Out G PB ρ1 H1 ((fb env S1).bind fun y S2 => ((g x y S2).bind fun z S3 => match z with | .bl true => (fc env S3).bind fun w S4 => g' y w S4 | .bl false => .ok (.bl false) S3 | _ => .bad).bind fun z S5 => match z with | .bl k => .ok k S5 | _ => .bad) Q := by
    cases q : fb env S1 with
    | bad => rw [q] at h1; exact h1
    | ok y S2 => rw [q] at h1; exact h1
  refine hb env S1 ρ1 σ H1 _ (he.mono e1) r1 (Out.bind h1' fun y S2 ρ2 H2 u _ e2 r2 p2 h2 => ?_)
  have h2' : Out G PB ρ2 H2 ((g x y S2).bind fun z S3 => (match z with | .bl true => (fc env S3).bind fun w S4 => g' y w S4 | .bl false => .ok (.bl false) S3 | _ => .bad).bind fun z S5 => match z with | .bl k => .ok k S5 | _ => .bad) Q := by
    cases q : g x y S2 with
    | bad => rw [q] at h2; exact h2
    | ok z S3 => rw [q] at h2; exact h2
  refine ho x y v u S2 ρ2 H2 _ r2 (p1.mono e2) p2 (Out.bind h2' fun z S3 ρ3 H3 t _ e3 r3 p3 h3 => ?_)
  cases p3 with
  | bl k =>
    refine ⟨k, rfl, ?_⟩
    cases k with
    | false => exact ⟨false, rfl, Out.ok h3 r3 rfl⟩
    | true =>
      have h3' : Out G PB ρ3 H3 ((fc env S3).bind fun w S4 => (g' y w S4).bind fun z S5 => match z with | .bl k => .ok k S5 | _ => .bad) Q := by
        cases q : fc env S3 with
        | bad =>
          have h3a : Out G PB ρ3 H3 (((fc env S3).bind fun w S4 => g' y w S4).bind fun z S5 => match z with | .bl k => .ok k S5 | _ => .bad) Q := h3
          rw [q] at h3a; exact h3a
        | ok w S4 =>
          have h3a : Out G PB ρ3 H3 (((fc env S3).bind fun w S4 => g' y w S4).bind fun z S5 => match z with | .bl k => .ok k S5 | _ => .bad) Q := h3
          rw [q] at h3a; exact h3a
      refine hc env S3 ρ3 σ H3 _ (he.mono ((e1.trans e2).trans e3)) r3 (Out.bind h3' fun w S4 ρ4 H4 t4 _ e4 r4 p4 h4 => ?_)
      refine ho' y w u t4 S4 ρ4 H4 _ r4 (p2.mono (e3.trans e4)) p4 (Out.bind h4 fun z S5 ρ5 H5 t5 _ e5 r5 p5 h5 => ?_)
      exact fin r5 p5 h5
  | _ => exact h3.elim

/-! ### truth -/
def truth (x : Va) (S : Sto) : Option Bool := match x with
  | .non => some false
  | .bl b => some b
  | .int i => some (i != 0)
  | .str y => if y.length ≤ sizeLine then some ((y.length : Int) != 0) else none
  | .tup xs => some (!xs.isEmpty)
  | .fro xs => some (!xs.isEmpty)
  | .ref n => match S.get n with
    | some (.lst xs) => some (!xs.isEmpty)
    | some (.dic kvs) => some (!kvs.isEmpty)
    | _ => none
theorem isEmpty_len {α β : Type} {a : List α} {b : List β} (h : a.length = b.length) : a.isEmpty = b.isEmpty := by
  cases a <;> cases b <;> simp_all
theorem truV {ρ : List Addr} {H : Hp} {S : Sto} {v : V} {x : Va} {k : Bool} (hr : Rel G ρ S H) (p : Rep G ρ H v x) (h : truth x S = some k) : TruV G.K v H k := by
  cases p with
  | non => exact (Option.some.inj h).symm
  | bl b => exact (Option.some.inj h).symm
  | int i => exact (Option.some.inj h).symm
  | str y =>
    have h' : (if y.length ≤ sizeLine then some ((y.length : Int) != 0) else none) = some k := h
    by_cases e : y.length ≤ sizeLine
    · rw [if_pos e] at h'
      exact ⟨e, (Option.some.inj h').symm⟩
    · rw [if_neg e] at h'; cases h'
  | tup q r => exact .inr (.inl ⟨_, q, by rw [isEmpty_len r.length]; exact (Option.some.inj h).symm⟩)
  | fro q r => exact .inl ⟨_, q.sq, by rw [isEmpty_len r.length]; exact (Option.some.inj h).symm⟩
  | ref q =>
    rename_i n a
    have h' : (match S.get n with | some (.lst xs) => some (!xs.isEmpty) | some (.dic kvs) => some (!kvs.isEmpty) | _ => none) = some k := h
    cases g : S.get n with
    | none => rw [g] at h'; cases h'
    | some o =>
      rw [g] at h'
      have x := hr.ob_of g q
      cases o with
      | lst xs =>
        obtain ⟨ys, e, r⟩ := x
        exact .inl ⟨ys, SqL.of e, by rw [isEmpty_len r.length]; exact (Option.some.inj h').symm⟩
      | dic kvs =>
        obtain ⟨ys, e, r⟩ := x
        exact .inr (.inr ⟨ys, e, by rw [isEmpty_len r.length]; exact (Option.some.inj h').symm⟩)
      | ins C fs => cases h'
      | frd kvs => cases h'
def mTru (f : EF) : BF := fun env S => (f env S).bind fun x S1 => match truth x S1 with
  | some k => .ok k S1
  | none => .bad
theorem st_tru (gx : GX G X) (ha : SE G X a fa) (he : ∀ whole, isTrue a X.env whole = (do let v ← whole; standAt a.pos; holding [v] (truthy v))) : ST G X a (mTru fa) := by
  intro env S ρ σ H Q hv hr h
  refine PTw.by (pt_truth pew he) (ha env S ρ σ H _ hv hr (Out.bind h fun x S1 ρ1 H1 v _ e1 r1 p1 h1 => ?_))
  cases q : truth x S1 with
  | none => rw [q] at h1; exact h1.elim
  | some k =>
    rw [q] at h1
    exact ⟨k, by rw [gx.hK]; exact truV r1 p1 q, Out.ok h1 r1 rfl⟩
def mNotB (f : BF) : BF := fun env S => (f env S).bind fun k S1 => .ok (!k) S1
theorem st_not {f : BF} (ha : ST G X a f) : ST G X (.UnaryOp .Not a pos) (mNotB f) := by
  intro env S ρ σ H Q hv hr h
  refine PTw.by (pt_not ptw) (ha env S ρ σ H _ hv hr (Out.bind h fun x S1 ρ1 H1 v _ e1 r1 p1 h1 => ?_))
  subst p1
  exact Out.ok h1 r1 rfl
def mAndB (f g : BF) : BF := fun env S => (f env S).bind fun k S1 => match k with
  | true => g env S1
  | false => .ok false S1
def mOrB (f g : BF) : BF := fun env S => (f env S).bind fun k S1 => match k with
  | true => .ok true S1
  | false => g env S1
theorem sw_and1 {f : BF} (ha : ST G X a f) : SW G X (.BoolOp .And [a] pos) f := fun env S ρ σ H Q hv hr h => PWw.by (pw_and1 ptw) (ha env S ρ σ H Q hv hr h)
theorem sw_or1 {f : BF} (ha : ST G X a f) : SW G X (.BoolOp .Or [a] pos) f := fun env S ρ σ H Q hv hr h => PWw.by (pw_or1 ptw) (ha env S ρ σ H Q hv hr h)
theorem sw_and {f g : BF} {rest : List Expr} (ha : ST G X a f) (hb : SW G X (.BoolOp .And (b :: rest) pos) g) : SW G X (.BoolOp .And (a :: b :: rest) pos) (mAndB f g) := by
  intro env S ρ σ H Q hv hr h
  refine PWw.by (pw_and ptw pww) (ha env S ρ σ H _ hv hr (Out.bind h fun x S1 ρ1 H1 v _ e1 r1 p1 h1 => ?_))
  subst p1
  cases v with
  | true => exact hb env S1 ρ1 σ H1 Q (hv.mono e1) r1 h1
  | false => exact Out.ok h1 r1 rfl
theorem sw_or {f g : BF} {rest : List Expr} (ha : ST G X a f) (hb : SW G X (.BoolOp .Or (b :: rest) pos) g) : SW G X (.BoolOp .Or (a :: b :: rest) pos) (mOrB f g) := by
  intro env S ρ σ H Q hv hr h
  refine PWw.by (pw_or ptw pww) (ha env S ρ σ H _ hv hr (Out.bind h fun x S1 ρ1 H1 v _ e1 r1 p1 h1 => ?_))
  subst p1
  cases v with
  | false => exact hb env S1 ρ1 σ H1 Q (hv.mono e1) r1 h1
  | true => exact Out.ok h1 r1 rfl
theorem st_w {f : BF} (h : SW G X a f) : ST G X a f := fun env S ρ σ H Q hv hr q => PTw.by (PW.pt pww) (h env S ρ σ H Q hv hr q)

/-! ### and, or, not as values; a if t else b -/
def mAndV (f g : EF) : EF := fun env S => (f env S).bind fun x S1 => match truth x S1 with
  | some true => g env S1
  | some false => .ok x S1
  | none => .bad
def mOrV (f g : EF) : EF := fun env S => (f env S).bind fun x S1 => match truth x S1 with
  | some true => .ok x S1
  | some false => g env S1
  | none => .bad
def mNotV (f : EF) : EF := fun env S => (f env S).bind fun x S1 => match truth x S1 with
  | some k => .ok (.bl (!k)) S1
  | none => .bad
theorem se_one {op : BoolOp} (ha : SE G X a fa) : SE G X (.BoolOp op [a] pos) fa := fun env S ρ σ H Q hv hr q => PEw.by (pe_one pew) (ha env S ρ σ H Q hv hr q)
theorem se_and {rest : List Expr} (gx : GX G X) (ha : SE G X a fa) (hb : SE G X (.BoolOp .And (b :: rest) pos) fb) : SE G X (.BoolOp .And (a :: b :: rest) pos) (mAndV fa fb) := by
  intro env S ρ σ H Q hv hr h
  refine PEw.by (pe_andT pew pew) (ha env S ρ σ H _ hv hr (Out.bind h fun x S1 ρ1 H1 v _ e1 r1 p1 h1 => ?_))
  cases q : truth x S1 with
  | none => rw [q] at h1; exact h1.elim
  | some k =>
    rw [q] at h1
    refine ⟨k, by rw [gx.hK]; exact truV r1 p1 q, ?_⟩
    cases k with
    | true => exact hb env S1 ρ1 σ H1 Q (hv.mono e1) r1 h1
    | false => exact Out.ok h1 r1 p1
theorem se_or {rest : List Expr} (gx : GX G X) (ha : SE G X a fa) (hb : SE G X (.BoolOp .Or (b :: rest) pos) fb) : SE G X (.BoolOp .Or (a :: b :: rest) pos) (mOrV fa fb) := by
  intro env S ρ σ H Q hv hr h
  refine PEw.by (pe_orT pew pew) (ha env S ρ σ H _ hv hr (Out.bind h fun x S1 ρ1 H1 v _ e1 r1 p1 h1 => ?_))
  cases q : truth x S1 with
  | none => rw [q] at h1; exact h1.elim
  | some k =>
    rw [q] at h1
    refine ⟨k, by rw [gx.hK]; exact truV r1 p1 q, ?_⟩
    cases k with
    | false => exact hb env S1 ρ1 σ H1 Q (hv.mono e1) r1 h1
    | true => exact Out.ok h1 r1 p1
theorem se_not (gx : GX G X) (ha : SE G X a fa) : SE G X (.UnaryOp .Not a pos) (mNotV fa) := by
  intro env S ρ σ H Q hv hr h
  refine PEw.by (pe_notT pew) (ha env S ρ σ H _ hv hr (Out.bind h fun x S1 ρ1 H1 v _ e1 r1 p1 h1 => ?_))
  cases q : truth x S1 with
  | none => rw [q] at h1; exact h1.elim
  | some k =>
    rw [q] at h1
    exact ⟨k, by rw [gx.hK]; exact truV r1 p1 q, Out.ok h1 r1 (.bl (!k))⟩
def mIf (t : BF) (a b : EF) : EF := fun env S => (t env S).bind fun k S1 => match k with
  | true => a env S1
  | false => b env S1
theorem se_if {f : BF} (hc : ST G X c f) (ha : SE G X a fa) (hb : SE G X b fb) : SE G X (.IfExp c a b pos) (mIf f fa fb) := by
  intro env S ρ σ H Q hv hr h
  refine PEw.by (pe_ifExp ptw pew pew) (hc env S ρ σ H _ hv hr (Out.bind h fun x S1 ρ1 H1 v _ e1 r1 p1 h1 => ?_))
  subst p1
  cases v with
  | true => exact ha env S1 ρ1 σ H1 Q (hv.mono e1) r1 h1
  | false => exact hb env S1 ρ1 σ H1 Q (hv.mono e1) r1 h1

/-! ### argument lists, displays -/
def mNil : AF := fun _ S => .ok [] S
def mCons (f : EF) (g : AF) : AF := fun env S => (f env S).bind fun x S1 => (g env S1).bind fun xs S2 => .ok (x :: xs) S2
theorem sa_nil : SA G X [] mNil := fun env S ρ σ H Q hv hr h => PAw.by pa_nil (Out.ok h hr .nil)
theorem sa_cons {f : AF} (ha : SE G X a fa) (hb : SA G X es f) (hs : starEach (a :: es) X.env = (false, eval a X.env) :: starEach es X.env) : SA G X (a :: es) (mCons fa f) := by
  intro env S ρ σ H Q hv hr h
  refine PAw.by (pa_cons pew paw hs) (ha env S ρ σ H _ hv hr (Out.bind h fun x S1 ρ1 H1 v _ e1 r1 p1 h1 => ?_))
  refine hb env S1 ρ1 σ H1 _ (hv.mono e1) r1 (Out.bind h1 fun xs S2 ρ2 H2 vs _ e2 r2 p2 h2 => ?_)
  exact Out.ok h2 r2 (.cons (p1.mono e2) p2)
def mTup (f : AF) : EF := fun env S => (f env S).bind fun xs S1 => match Nat.ble xs.length 1000 with
  | true => .ok (.tup xs) S1
  | false => .bad
def mLst (f : AF) : EF := fun env S => (f env S).bind fun xs S1 => match Nat.ble xs.length 1000 with
  | true => .ok (.ref S1.n) (S1.new (.lst xs))
  | false => .bad
theorem le1000 {n : Nat} (h : Nat.ble n 1000 = true) : n ≤ sizeLine := Nat.le_trans (Nat.le_of_ble_eq_true h) (by decide)
/-- a value that is a new tuple -/
theorem Out.tup {ρ : List Addr} {H : Hp} {S : Sto} {xs : List Va} {ys : List V} {Q : VK} (h : Out G (PV G) ρ H (.ok (.tup xs) S) Q) (hr : Rel G ρ S H) (r : Reps G ρ H ys xs) (p : Addr) (hp : H p = none) : Q (.ref p) (upd H p (.tup ys)) :=
  h ρ _ _ (Ext.same (same_upd hp)) (hr.same (same_upd hp)) (.tup (.inl (.inl upd_same)) (r.mono (Ext.same (same_upd hp))))
/-- a value that is a new list -/
theorem Out.lst {ρ : List Addr} {H : Hp} {S : Sto} {xs : List Va} {ys : List V} {Q : VK} (h : Out G (PV G) ρ H (.ok (.ref S.n) (S.new (.lst xs))) Q) (hr : Rel G ρ S H) (r : Reps G ρ H ys xs) (p : Addr) (hp : H p = none) : Q (.ref p) (upd H p (.lst ys)) := by
  obtain ⟨r1, e1⟩ := hr.new (o := .lst xs) hp (same_upd (o := .lst ys) hp) ⟨ys, upd_same, r.mono (Ext.same' (same_upd hp) [p])⟩
  refine h _ _ _ e1 r1 (.ref ?_)
  rw [← hr.len]
  simp
/-- a value that is a new dict -/
theorem Out.dic {ρ : List Addr} {H : Hp} {S : Sto} {xs : List (Key × Va)} {ys : List (Key × V)} {Q : VK} (h : Out G (PV G) ρ H (.ok (.ref S.n) (S.new (.dic xs))) Q) (hr : Rel G ρ S H) (r : RepK G ρ H ys xs) (p : Addr) (hp : H p = none) : Q (.ref p) (upd H p (.dK ys)) := by
  obtain ⟨r1, e1⟩ := hr.new (o := .dic xs) hp (same_upd (o := .dK ys) hp) ⟨ys, upd_same, r.mono (Ext.same' (same_upd hp) [p])⟩
  refine h _ _ _ e1 r1 (.ref ?_)
  rw [← hr.len]
  simp
theorem se_tup {f : AF} {x1 : Nat} (ha : SA G X es f) : SE G X (.Tuple es x1 pos) (mTup f) := by
  intro env S ρ σ H Q hv hr h
  refine PEw.by (pe_tup paw) (ha env S ρ σ H _ hv hr (Out.bind h fun xs S1 ρ1 H1 vs _ e1 r1 p1 h1 => ?_))
  cases q : Nat.ble xs.length 1000 with
  | false => rw [q] at h1; exact h1.elim
  | true =>
    rw [q] at h1
    exact ⟨by rw [p1.length]; exact le1000 q, fun p hp => Out.tup h1 r1 p1 p hp⟩
theorem se_lst {f : AF} (ha : SA G X es f) : SE G X (.List es pos) (mLst f) := by
  intro env S ρ σ H Q hv hr h
  refine PEw.by (pe_lst paw) (ha env S ρ σ H _ hv hr (Out.bind h fun xs S1 ρ1 H1 vs _ e1 r1 p1 h1 => ?_))
  cases q : Nat.ble xs.length 1000 with
  | false => rw [q] at h1; exact h1.elim
  | true =>
    rw [q] at h1
    exact ⟨by rw [p1.length]; exact le1000 q, fun p hp => Out.lst h1 r1 p1 p hp⟩
/-! ### -n -/
def mNeg (f : EF) : EF := fun env S => (f env S).bind fun x S1 => match x with
  | .int i => .ok (.int (-i)) S1
  | _ => .bad
theorem se_neg (ha : SE G X a fa) : SE G X (.UnaryOp .USub a pos) (mNeg fa) := by
  intro env S ρ σ H Q hv hr h
  refine PEw.by (pe_un un_neg pew) (ha env S ρ σ H _ hv hr (Out.bind h fun x S1 ρ1 H1 v _ e1 r1 p1 h1 => ?_))
  cases p1 with
  | int i => exact ⟨i, rfl, Out.ok h1 r1 (.int _)⟩
  | _ => exact h1.elim
end
end Mi
/-! Operators, comparisons, subscripts, slices by values. -/
namespace Mi
open PySem L2
section
variable {G : Cf} {X : Cx} {a b c e : Expr} {es : List Expr} {fa fb fc : EF} {pos : Pos}

/-! ### ints -/
def okMul (i j : Int) : Bool := (decide (-(2 ^ 64) < i) && decide (i < 2 ^ 64)) || (decide (-(2 ^ 64) < j) && decide (j < 2 ^ 64))
def okDiv (j : Int) : Bool := decide (0 < j) && decide (j < 1073741824)
def okPow (i j : Int) : Bool := decide (0 ≤ j) && (decide (j ≤ 1000000) && decide (i.natAbs < 2 ^ 64))
def gAdd : G2 := fun x y S => match x, y with
  | .int i, .int j => .ok (.int (i + j)) S
  | .str i, .str j => match Nat.ble (i.length + j.length) 16777216 with
    | true => .ok (.str (i ++ j)) S
    | false => .bad
  | .tup i, .tup j => match Nat.ble (i.length + j.length) 16777216 with
    | true => .ok (.tup (i ++ j)) S
    | false => .bad
  | .ref n, .ref m => match S.get n, S.get m with
    | some (.lst i), some (.lst j) => match Nat.ble (i.length + j.length) 16777216 with
      | true => .ok (.ref S.n) (S.new (.lst (i ++ j)))
      | false => .bad
    | _, _ => .bad
  | _, _ => .bad
def gSub : G2 := fun x y S => match x, y with
  | .int i, .int j => .ok (.int (i - j)) S
  | _, _ => .bad
def gMul : G2 := fun x y S => match x, y with
  | .int i, .int j => match okMul i j with
    | true => .ok (.int (i * j)) S
    | false => .bad
  | .ref n, .int k => match S.get n with
    | some (.lst xs) => match decide (-(2 ^ 63) ≤ k) && (decide (k < 2 ^ 63) && Nat.ble (xs.length * k.toNat) 16777216) with
      | true => .ok (.ref S.n) (S.new (.lst (List.replicate k.toNat xs).flatten))
      | false => .bad
    | _ => .bad
  | _, _ => .bad
def gDiv : G2 := fun x y S => match x, y with
  | .int i, .int j => match okDiv j with
    | true => .ok (.int (i / j)) S
    | false => .bad
  | _, _ => .bad
def gMod : G2 := fun x y S => match x, y with
  | .int i, .int j => match decide (0 < j) with
    | true => .ok (.int (i % j)) S
    | false => .bad
  | _, _ => .bad
def gPow : G2 := fun x y S => match x, y with
  | .int i, .int j => match okPow i j with
    | true => .ok (.int (i ^ j.toNat)) S
    | false => .bad
  | _, _ => .bad
theorem ble_line {n : Nat} (h : Nat.ble n 16777216 = true) : n ≤ sizeLine := Nat.le_trans (Nat.le_of_ble_eq_true h) (by rw [sizeLine_eq]; exact Nat.le_refl _)
theorem Reps.replicate {ρ : List Addr} {H : Hp} {ys : List V} {xs : List Va} (r : Reps G ρ H ys xs) : ∀ n : Nat, Reps G ρ H (List.replicate n ys).flatten (List.replicate n xs).flatten
  | 0 => .nil
  | n + 1 => by
    rw [List.replicate_succ, List.replicate_succ, List.flatten_cons, List.flatten_cons]
    exact r.append (Reps.replicate r n)
theorem reps_nil {ρ : List Addr} {H : Hp} {ys : List V} {xs : List Va} (r : Reps G ρ H ys xs) : ys = [] ↔ xs = [] := by
  cases r <;> simp
theorem Rel.lst {S : Sto} {ρ : List Addr} {H : Hp} {n : Nat} {p : Addr} {xs : List Va} (hr : Rel G ρ S H) (h : S.get n = some (.lst xs)) (e : ρ[n]? = some p) : ∃ ys, H p = some (.lst ys) ∧ Reps G ρ H ys xs := hr.ob_of h e
theorem ops_add (gx : GX G X) : OpS G X (binaryOp .Add) gAdd := by
  intro x y v u S ρ H Q hr px py h
  cases px with
  | int i => cases py with
    | int j => exact OpW.by op_add ⟨i, j, rfl, rfl, Out.ok h hr (.int _)⟩
    | _ => exact h.elim
  | str i => cases py with
    | str j =>
      have h' : Out G (PV G) ρ H (match Nat.ble (i.length + j.length) 16777216 with | true => .ok (.str (i ++ j)) S | false => .bad) Q := h
      cases q : Nat.ble (i.length + j.length) 16777216 with
      | false => rw [q] at h'; exact h'.elim
      | true => rw [q] at h'; exact OpW.by op_add_str ⟨i, j, rfl, rfl, ble_line q, Out.ok h' hr (.str _)⟩
    | _ => exact h.elim
  | tup t1 r1 =>
    cases py with
    | tup t2 r2 =>
      rename_i p ys xs p2 ys2 xs2
      have h' : Out G (PV G) ρ H (match Nat.ble (xs.length + xs2.length) 16777216 with | true => .ok (.tup (xs ++ xs2)) S | false => .bad) Q := h
      cases q : Nat.ble (xs.length + xs2.length) 16777216 with
      | false => rw [q] at h'; exact h'.elim
      | true =>
        rw [q] at h'
        refine OpW.by op_catA ⟨_, _, _, _, rfl, rfl, by rw [gx.hK]; exact t1, by rw [gx.hK]; exact t2, by rw [r1.length, r2.length]; exact ble_line q, fun e => ?_, fun e1 e2 => ?_, fun _ _ p hp => Out.tup h' hr (r1.append r2) p hp⟩
        · have e' := (reps_nil r1).mp e
          subst e'
          exact Out.ok h' hr (.tup t2 r2)
        · have e' := (reps_nil r2).mp e2
          subst e'
          rw [List.append_nil] at h'
          exact Out.ok h' hr (.tup t1 r1)
    | _ => exact h.elim
  | ref e1 =>
    cases py with
    | ref e2 =>
      rename_i n p m p2
      have h' : Out G (PV G) ρ H (match S.get n, S.get m with | some (.lst i), some (.lst j) => (match Nat.ble (i.length + j.length) 16777216 with | true => .ok (.ref S.n) (S.new (.lst (i ++ j))) | false => .bad) | _, _ => .bad) Q := h
      cases g1 : S.get n with
      | none => rw [g1] at h'; exact h'.elim
      | some o1 =>
        rw [g1] at h'
        cases o1 with
        | lst i =>
          cases g2 : S.get m with
          | none => rw [g2] at h'; exact h'.elim
          | some o2 =>
            rw [g2] at h'
            cases o2 with
            | lst j =>
              have h2 : Out G (PV G) ρ H (match Nat.ble (i.length + j.length) 16777216 with | true => .ok (.ref S.n) (S.new (.lst (i ++ j))) | false => .bad) Q := h'
              obtain ⟨ys1, f1, r1⟩ := hr.lst g1 e1
              obtain ⟨ys2, f2, r2⟩ := hr.lst g2 e2
              cases q : Nat.ble (i.length + j.length) 16777216 with
              | false => rw [q] at h2; exact h2.elim
              | true =>
                rw [q] at h2
                exact OpW.by op_cat ⟨_, _, _, _, rfl, rfl, f1, f2, by rw [r1.length, r2.length]; exact ble_line q, fun p hp => Out.lst h2 hr (r1.append r2) p hp⟩
            | _ => exact h'.elim
        | _ => exact h'.elim
    | _ => exact h.elim
  | _ => exact h.elim
theorem ops_sub : OpS G X (binaryOp .Sub) gSub := by
  intro x y v u S ρ H Q hr px py h
  cases px with
  | int i => cases py with
    | int j => exact OpW.by op_sub ⟨i, j, rfl, rfl, Out.ok h hr (.int _)⟩
    | _ => exact h.elim
  | _ => exact h.elim
theorem ops_mul : OpS G X (binaryOp .Mult) gMul := by
  intro x y v u S ρ H Q hr px py h
  cases px with
  | int i => cases py with
    | int j =>
      have h' : Out G (PV G) ρ H (match okMul i j with | true => .ok (.int (i * j)) S | false => .bad) Q := h
      cases q : okMul i j with
      | false => rw [q] at h'; exact h'.elim
      | true =>
        rw [q] at h'
        refine OpW.by op_mul ⟨i, j, rfl, rfl, ?_, Out.ok h' hr (.int _)⟩
        unfold okMul at q
        simp only [Bool.or_eq_true, Bool.and_eq_true, decide_eq_true_eq] at q
        exact q
    | _ => exact h.elim
  | ref e1 => cases py with
    | int k =>
      rename_i n p
      have h' : Out G (PV G) ρ H (match S.get n with | some (.lst xs) => (match decide (-(2 ^ 63) ≤ k) && (decide (k < 2 ^ 63) && Nat.ble (xs.length * k.toNat) 16777216) with | true => .ok (.ref S.n) (S.new (.lst (List.replicate k.toNat xs).flatten)) | false => .bad) | _ => .bad) Q := h
      cases g1 : S.get n with
      | none => rw [g1] at h'; exact h'.elim
      | some o1 =>
        rw [g1] at h'
        cases o1 with
        | lst xs =>
          have h2 : Out G (PV G) ρ H (match decide (-(2 ^ 63) ≤ k) && (decide (k < 2 ^ 63) && Nat.ble (xs.length * k.toNat) 16777216) with | true => .ok (.ref S.n) (S.new (.lst (List.replicate k.toNat xs).flatten)) | false => .bad) Q := h'
          obtain ⟨ys1, f1, r1⟩ := hr.lst g1 e1
          cases q : decide (-(2 ^ 63) ≤ k) && (decide (k < 2 ^ 63) && Nat.ble (xs.length * k.toNat) 16777216) with
          | false => rw [q] at h2; exact h2.elim
          | true =>
            rw [q] at h2
            simp only [Bool.and_eq_true, decide_eq_true_eq] at q
            exact OpW.by op_rep ⟨_, _, _, rfl, rfl, f1, q.1, q.2.1, by rw [r1.length]; exact ble_line q.2.2, fun p hp => Out.lst h2 hr (r1.replicate _) p hp⟩
        | _ => exact h'.elim
    | _ => exact h.elim
  | _ => exact h.elim
theorem ops_div : OpS G X (binaryOp .FloorDiv) gDiv := by
  intro x y v u S ρ H Q hr px py h
  cases px with
  | int i => cases py with
    | int j =>
      have h' : Out G (PV G) ρ H (match okDiv j with | true => .ok (.int (i / j)) S | false => .bad) Q := h
      cases q : okDiv j with
      | false => rw [q] at h'; exact h'.elim
      | true =>
        rw [q] at h'
        refine OpW.by op_fdiv ⟨i, j, rfl, rfl, ?_, Out.ok h' hr (.int _)⟩
        unfold okDiv at q
        simp only [Bool.and_eq_true, decide_eq_true_eq] at q
        exact q
    | _ => exact h.elim
  | _ => exact h.elim
theorem ops_mod : OpS G X (binaryOp .Mod) gMod := by
  intro x y v u S ρ H Q hr px py h
  cases px with
  | int i => cases py with
    | int j =>
      have h' : Out G (PV G) ρ H (match decide (0 < j) with | true => .ok (.int (i % j)) S | false => .bad) Q := h
      cases q : decide (0 < j) with
      | false => rw [q] at h'; exact h'.elim
      | true =>
        rw [q] at h'
        exact OpW.by op_mod ⟨i, j, rfl, rfl, of_decide_eq_true q, Out.ok h' hr (.int _)⟩
    | _ => exact h.elim
  | _ => exact h.elim
theorem ops_pow : OpS G X (binaryOp .Pow) gPow := by
  intro x y v u S ρ H Q hr px py h
  cases px with
  | int i => cases py with
    | int j =>
      have h' : Out G (PV G) ρ H (match okPow i j with | true => .ok (.int (i ^ j.toNat)) S | false => .bad) Q := h
      cases q : okPow i j with
      | false => rw [q] at h'; exact h'.elim
      | true =>
        rw [q] at h'
        refine OpW.by op_pow ⟨i, j, rfl, rfl, ?_, Out.ok h' hr (.int _)⟩
        unfold okPow at q
        simp only [Bool.and_eq_true, decide_eq_true_eq] at q
        exact q
    | _ => exact h.elim
  | _ => exact h.elim

/-! ### order -/
def gLt : G2 := fun x y S => match x, y with
  | .int i, .int j => .ok (.bl (decide (i < j))) S
  | .str i, .str j => .ok (.bl (decide (i.cps.toList < j.cps.toList))) S
  | _, _ => .bad
def gLe : G2 := fun x y S => match x, y with
  | .int i, .int j => .ok (.bl (decide (i ≤ j))) S
  | _, _ => .bad
def gGt : G2 := fun x y S => match x, y with
  | .int i, .int j => .ok (.bl (decide (j < i))) S
  | _, _ => .bad
def gGe : G2 := fun x y S => match x, y with
  | .int i, .int j => .ok (.bl (decide (j ≤ i))) S
  | _, _ => .bad
theorem ops_lt : OpS G X (compareOp .Lt) gLt := by
  intro x y v u S ρ H Q hr px py h
  cases px with
  | int i => cases py with
    | int j => exact OpW.by op_lt ⟨i, j, rfl, rfl, Out.ok h hr (.bl _)⟩
    | _ => exact h.elim
  | str i => cases py with
    | str j => exact OpW.by op_lt_str ⟨i, j, rfl, rfl, Out.ok h hr (.bl _)⟩
    | _ => exact h.elim
  | _ => exact h.elim
theorem ops_le : OpS G X (compareOp .LtE) gLe := by
  intro x y v u S ρ H Q hr px py h
  cases px with
  | int i => cases py with
    | int j => exact OpW.by op_le ⟨i, j, rfl, rfl, Out.ok h hr (.bl _)⟩
    | _ => exact h.elim
  | _ => exact h.elim
theorem ops_gt : OpS G X (compareOp .Gt) gGt := by
  intro x y v u S ρ H Q hr px py h
  cases px with
  | int i => cases py with
    | int j => exact OpW.by op_gt ⟨i, j, rfl, rfl, Out.ok h hr (.bl _)⟩
    | _ => exact h.elim
  | _ => exact h.elim
theorem ops_ge : OpS G X (compareOp .GtE) gGe := by
  intro x y v u S ρ H Q hr px py h
  cases px with
  | int i => cases py with
    | int j => exact OpW.by op_ge ⟨i, j, rfl, rfl, Out.ok h hr (.bl _)⟩
    | _ => exact h.elim
  | _ => exact h.elim

/-! ### is None -/
def isNon : Va → Bool
  | .non => true
  | _ => false
def gIsN : G2 := fun x y S => match y with
  | .non => .ok (.bl (isNon x)) S
  | _ => .bad
def gNotN : G2 := fun x y S => match y with
  | .non => .ok (.bl (!isNon x)) S
  | _ => .bad
theorem isNon_dec {ρ : List Addr} {H : Hp} {v : V} {x : Va} (p : Rep G ρ H v x) : isNon x = decide (v = .non) := by
  cases p <;> simp [isNon]
theorem ops_isN : OpS G X (compareOp .Is) gIsN := by
  intro x y v u S ρ H Q hr px py h
  cases py with
  | non => exact OpW.by op_isN ⟨rfl, by rw [← isNon_dec px]; exact Out.ok h hr (.bl _)⟩
  | _ => exact h.elim
theorem ops_notN : OpS G X (compareOp .IsNot) gNotN := by
  intro x y v u S ρ H Q hr px py h
  cases py with
  | non => exact OpW.by op_notN ⟨rfl, by rw [← isNon_dec px]; exact Out.ok h hr (.bl _)⟩
  | _ => exact h.elim

/-! ### equality -/
def mapO {α β : Type} (f : α → Option β) : List α → Option (List β)
  | [] => some []
  | a :: r => match f a with
    | none => none
    | some b => match mapO f r with
      | none => none
      | some bs => some (b :: bs)
theorem mapO_cons {α β : Type} {f : α → Option β} {a : α} {r : List α} {ds : List β} (e : mapO f (a :: r) = some ds) : ∃ b bs, f a = some b ∧ mapO f r = some bs ∧ ds = b :: bs := by
  rw [mapO] at e
  cases q : f a with
  | none => rw [q] at e; cases e
  | some b =>
    rw [q] at e
    cases q2 : mapO f r with
    | none => rw [q2] at e; cases e
    | some bs =>
      rw [q2] at e
      cases e
      exact ⟨b, bs, rfl, rfl, rfl⟩
def toD : Nat → Sto → Va → Option PyData
  | 0, _, _ => none
  | n + 1, S, x => match x with
    | .non => some .none
    | .bl b => some (.bool b)
    | .int i => some (.int i)
    | .str y => some (.str y)
    | .tup xs => match mapO (toD n S) xs with
      | some ds => some (.tuple ds)
      | none => none
    | .fro xs => match mapO (toD n S) xs with
      | some ds => some (.list ds)
      | none => none
    | .ref k => match S.get k with
      | some (.lst xs) => match mapO (toD n S) xs with
        | some ds => some (.list ds)
        | none => none
      | _ => none
theorem dpAll_of {ρ : List Addr} {H : Hp} {f : Va → Option PyData} (hf : ∀ v x d, Rep G ρ H v x → f x = some d → Dp G.K H v d) : ∀ {vs : List V} {xs : List Va} {ds : List PyData}, Reps G ρ H vs xs → mapO f xs = some ds → DpAll G.K H vs ds
  | _, _, _, .nil, e => by
    have e' : some [] = some _ := e
    cases e'
    exact .nil
  | _, _, ds, .cons (x := x) (xs := xs) p r, e => by
    obtain ⟨b, bs, q, q2, rfl⟩ := mapO_cons e
    exact .cons (hf _ _ _ p q) (dpAll_of hf r q2)
theorem toD_dp {ρ : List Addr} {S : Sto} {H : Hp} (hr : Rel G ρ S H) : ∀ (n : Nat) (v : V) (x : Va) (d : PyData), Rep G ρ H v x → toD n S x = some d → Dp G.K H v d
  | 0, _, _, _, _, e => by cases e
  | n + 1, v, x, d, p, e => by
    cases p with
    | non => cases e; exact .non
    | bl b => cases e; exact .bl b
    | int i => cases e; exact .int i
    | str y => cases e; exact .str y
    | tup t r =>
      rename_i xs
      have e' : (match mapO (toD n S) xs with | some ds => some (PyData.tuple ds) | none => none) = some d := e
      cases q : mapO (toD n S) xs with
      | none => rw [q] at e'; cases e'
      | some ds =>
        rw [q] at e'
        cases e'
        exact .tup t (dpAll_of (toD_dp hr n) r q)
    | fro t r =>
      rename_i xs
      have e' : (match mapO (toD n S) xs with | some ds => some (PyData.list ds) | none => none) = some d := e
      cases q : mapO (toD n S) xs with
      | none => rw [q] at e'; cases e'
      | some ds =>
        rw [q] at e'
        cases e'
        exact .lst t.sq (dpAll_of (toD_dp hr n) r q)
    | ref i =>
      rename_i k p
      have e' : (match S.get k with | some (.lst xs) => (match mapO (toD n S) xs with | some ds => some (PyData.list ds) | none => none) | _ => none) = some d := e
      cases g : S.get k with
      | none => rw [g] at e'; cases e'
      | some o =>
        rw [g] at e'
        cases o with
        | lst xs =>
          have e2 : (match mapO (toD n S) xs with | some ds => some (PyData.list ds) | none => none) = some d := e'
          obtain ⟨ys, f1, r1⟩ := hr.lst g i
          cases q : mapO (toD n S) xs with
          | none => rw [q] at e2; cases e2
          | some ds =>
            rw [q] at e2
            cases e2
            exact .lst (SqL.of f1) (dpAll_of (toD_dp hr n) r1 q)
        | _ => cases e'
/-- flat values -/
def sEq : Va → Va → Option Bool
  | .non, .non => some true
  | .non, .int _ => some false
  | .int _, .non => some false
  | .non, .bl _ => some false
  | .bl _, .non => some false
  | .non, .str _ => some false
  | .str _, .non => some false
  | .int i, .int j => some (decide (i = j))
  | .bl i, .bl j => some (decide (i = j))
  | .str i, .str j => some (decide (i = j))
  | .int _, .str _ => some false
  | .str _, .int _ => some false
  | .bl _, .str _ => some false
  | .str _, .bl _ => some false
  | _, _ => none
def veq (S : Sto) (x y : Va) : Option Bool := match sEq x y with
  | some k => some k
  | none => match toD 66 S x, toD 66 S y with
    | some d, some e => match SeqAt.shaped d && SeqAt.shaped e with
      | true => some (PyData.eqv d e)
      | false => none
    | _, _ => none
theorem sEq_ok {ρ : List Addr} {H : Hp} {v u : V} {x y : Va} {k : Bool} (px : Rep G ρ H v x) (py : Rep G ρ H u y) (h : sEq x y = some k) : scal v u = true ∧ decide (v = u) = k := by
  cases px <;> cases py <;> first
    | (cases h; exact ⟨rfl, by simp⟩)
    | (cases h; refine ⟨rfl, ?_⟩; rename_i i j; cases i <;> cases j <;> rfl)
    | cases h
def gEq : G2 := fun x y S => match veq S x y with
  | some k => .ok (.bl k) S
  | none => .bad
def gNe : G2 := fun x y S => match veq S x y with
  | some k => .ok (.bl (!k)) S
  | none => .bad
theorem veq_cases {S : Sto} {x y : Va} {k : Bool} (h : veq S x y = some k) : sEq x y = some k ∨ ∃ d e, toD 66 S x = some d ∧ toD 66 S y = some e ∧ SeqAt.shaped d = true ∧ SeqAt.shaped e = true ∧ k = PyData.eqv d e := by
  unfold veq at h
  cases q : sEq x y with
  | some k' =>
    rw [q] at h
    cases h
    exact .inl rfl
  | none =>
    rw [q] at h
    have h1 : (match toD 66 S x, toD 66 S y with | some d, some e => (match SeqAt.shaped d && SeqAt.shaped e with | true => some (PyData.eqv d e) | false => none) | _, _ => none) = some k := h
    cases q1 : toD 66 S x with
    | none => rw [q1] at h1; cases h1
    | some d =>
      cases q2 : toD 66 S y with
      | none => rw [q1, q2] at h1; cases h1
      | some e =>
        rw [q1, q2] at h1
        have h2 : (match SeqAt.shaped d && SeqAt.shaped e with | true => some (PyData.eqv d e) | false => none) = some k := h1
        cases q3 : SeqAt.shaped d && SeqAt.shaped e with
        | false => rw [q3] at h2; cases h2
        | true =>
          rw [q3] at h2
          cases h2
          obtain ⟨s1, s2⟩ := Bool.and_eq_true_iff.mp q3
          exact .inr ⟨d, e, rfl, rfl, s1, s2, rfl⟩
theorem ops_eq (gx : GX G X) : OpS G X (compareOp .Eq) gEq := by
  intro x y v u S ρ H Q hr px py h
  unfold gEq at h
  cases q : veq S x y with
  | none => rw [q] at h; exact h.elim
  | some k =>
    rw [q] at h
    rcases veq_cases q with q | ⟨d, e, hd, he, s1, s2, rfl⟩
    · obtain ⟨h1, h2⟩ := sEq_ok px py q
      exact OpW.by op_eq ⟨h1, by rw [h2]; exact Out.ok h hr (.bl _)⟩
    · exact OpW.by (op_eqD (by have := gx.hu; omega)) ⟨d, e, by rw [gx.hK]; exact toD_dp hr _ _ _ _ px hd, by rw [gx.hK]; exact toD_dp hr _ _ _ _ py he, s1, s2, Out.ok h hr (.bl _)⟩
theorem ops_ne (gx : GX G X) : OpS G X (compareOp .NotEq) gNe := by
  intro x y v u S ρ H Q hr px py h
  unfold gNe at h
  cases q : veq S x y with
  | none => rw [q] at h; exact h.elim
  | some k =>
    rw [q] at h
    rcases veq_cases q with q | ⟨d, e, hd, he, s1, s2, rfl⟩
    · obtain ⟨h1, h2⟩ := sEq_ok px py q
      exact OpW.by op_ne ⟨h1, by rw [h2]; exact Out.ok h hr (.bl _)⟩
    · exact OpW.by (op_neD (by have := gx.hu; omega)) ⟨d, e, by rw [gx.hK]; exact toD_dp hr _ _ _ _ px hd, by rw [gx.hK]; exact toD_dp hr _ _ _ _ py he, s1, s2, Out.ok h hr (.bl _)⟩
end
end Mi
/-! Membership, subscripts, slices, fields, calls. -/
namespace Mi
open PySem PySem.Spec PyProof.Rows L2

/-! ### dicts by keys -/
def dGet {β : Type} (kvs : List (Key × β)) (k : Key) : Option β := match kvs with
  | [] => none
  | (h, v) :: r => match decide (h = k) with
    | true => some v
    | false => dGet r k
def dPut {β : Type} (kvs : List (Key × β)) (k : Key) (v : β) : List (Key × β) := match kvs.any fun kv => decide (kv.1 = k) with
  | true => kvs.map fun kv => match decide (kv.1 = k) with
    | true => (kv.1, v)
    | false => kv
  | false => kvs ++ [(k, v)]
def dDrop {β : Type} (kvs : List (Key × β)) (k : Key) : List (Key × β) := kvs.filter fun kv => !decide (kv.1 = k)
def keyOf : Va → Option Key
  | .int i => some (.inl i)
  | .str x => some (.inr x)
  | _ => none
def vaK : Key → Va
  | .inl i => .int i
  | .inr x => .str x
section
variable {G : Cf} {ρ : List Addr} {H : Hp}
theorem keyOf_rep {v : V} {x : Va} {k : Key} (p : Rep G ρ H v x) (h : keyOf x = some k) : v = kV k := by
  cases p with
  | int i => cases h; rfl
  | str i => cases h; rfl
  | _ => cases h
theorem rep_key (k : Key) : Rep G ρ H (kV k) (vaK k) := by
  cases k with
  | inl i => exact .int i
  | inr x => exact .str x
theorem dGet_rep : ∀ {ks : List (Key × V)} {kvs : List (Key × Va)} (k : Key), RepK G ρ H ks kvs → (∀ x, dGet kvs k = some x → ∃ v, valV ks k = some v ∧ Rep G ρ H v x) ∧ (dGet kvs k = none → valV ks k = none)
  | _, _, k, .nil => ⟨fun x h => (by cases h), fun _ => rfl⟩
  | _, _, k, .cons (k := h) (v := v) (vs := vs) (x := x) (xs := xs) a b => by
    obtain ⟨h1, h2⟩ := dGet_rep k b
    by_cases e : h = k
    · have e1 : dGet ((h, x) :: xs) k = some x := by rw [dGet, decide_eq_true e]
      have e2 : valV ((h, v) :: vs) k = some v := valV_pos e
      rw [e1, e2]
      exact ⟨fun y q => (by cases q; exact ⟨v, rfl, a⟩), fun q => (by cases q)⟩
    · have e1 : dGet ((h, x) :: xs) k = dGet xs k := by rw [dGet, decide_eq_false e]
      have e2 : valV ((h, v) :: vs) k = valV vs k := valV_neg e
      rw [e1, e2]
      exact ⟨h1, h2⟩
theorem repK_any : ∀ {ks : List (Key × V)} {kvs : List (Key × Va)} (k : Key), RepK G ρ H ks kvs → (ks.any fun kv => decide (kv.1 = k)) = kvs.any fun kv => decide (kv.1 = k)
  | _, _, _, .nil => rfl
  | _, _, k, .cons a b => by rw [List.any_cons, List.any_cons, repK_any k b]
theorem repK_map {v : V} {x : Va} (p : Rep G ρ H v x) : ∀ {ks : List (Key × V)} {kvs : List (Key × Va)} (k : Key), RepK G ρ H ks kvs → RepK G ρ H (ks.map fun kv => if kv.1 = k then (kv.1, v) else kv) (kvs.map fun kv => match decide (kv.1 = k) with | true => (kv.1, x) | false => kv)
  | _, _, _, .nil => .nil
  | _, _, k, .cons (k := h) a b => by
    rw [List.map_cons, List.map_cons]
    by_cases e : h = k
    · rw [if_pos e, decide_eq_true e]
      exact .cons p (repK_map p k b)
    · rw [if_neg e, decide_eq_false e]
      exact .cons a (repK_map p k b)
theorem repK_append : ∀ {ks ls : List (Key × V)} {kvs lvs : List (Key × Va)}, RepK G ρ H ks kvs → RepK G ρ H ls lvs → RepK G ρ H (ks ++ ls) (kvs ++ lvs)
  | _, _, _, _, .nil, h => h
  | _, _, _, _, .cons a b, h => .cons a (repK_append b h)
theorem dPut_rep {v : V} {x : Va} {ks : List (Key × V)} {kvs : List (Key × Va)} (k : Key) (r : RepK G ρ H ks kvs) (p : Rep G ρ H v x) : RepK G ρ H (putK ks k v) (dPut kvs k x) := by
  unfold putK dPut
  rw [repK_any k r]
  cases q : kvs.any fun kv => decide (kv.1 = k) with
  | true =>
    rw [if_pos rfl]
    exact repK_map p k r
  | false =>
    rw [if_neg Bool.false_ne_true]
    exact repK_append r (.cons p .nil)
theorem dDrop_rep : ∀ {ks : List (Key × V)} {kvs : List (Key × Va)} (k : Key), RepK G ρ H ks kvs → RepK G ρ H (dropK ks k) (dDrop kvs k)
  | _, _, _, .nil => .nil
  | _, _, k, .cons (k := h) (vs := vs) (xs := xs) a b => by
    unfold dropK dDrop
    by_cases e : h = k
    · rw [List.filter_cons_of_neg (by simp [e]), List.filter_cons_of_neg (by simp [e])]
      exact dDrop_rep k b
    · rw [List.filter_cons_of_pos (by simp [e]), List.filter_cons_of_pos (by simp [e])]
      exact .cons a (dDrop_rep k b)
end

section
variable {G : Cf} {X : Cx} {a b c e : Expr} {es : List Expr} {fa fb fc : EF} {pos : Pos}

/-! ### x in y -/
def flatA : Va → Bool
  | .non => true
  | .bl _ => true
  | .int _ => true
  | .str _ => true
  | _ => false
def eqA : Va → Va → Bool
  | .non, .non => true
  | .bl a, .bl b => a == b
  | .bl a, .int b => (if a then 1 else 0) == b
  | .int a, .bl b => a == (if b then 1 else 0)
  | .int a, .int b => a == b
  | .str a, .str b => a == b
  | _, _ => false
def inA (x : Va) (xs : List Va) : Option Bool := match flatA x && xs.all flatA with
  | true => some (xs.any fun y => eqA y x)
  | false => none
theorem flat_rep {ρ : List Addr} {H : Hp} {v : V} {x : Va} (p : Rep G ρ H v x) (h : flatA x = true) : flatV v = true := by
  cases p <;> first | rfl | cases h
theorem eqA_rep {ρ : List Addr} {H : Hp} {v u : V} {x y : Va} (p : Rep G ρ H v x) (q : Rep G ρ H u y) (hx : flatA x = true) (hy : flatA y = true) : eqV v u = eqA x y := by
  cases p <;> cases q <;> first | rfl | cases hx | cases hy
theorem inA_rep {ρ : List Addr} {H : Hp} {v : V} {x : Va} (p : Rep G ρ H v x) (hx : flatA x = true) : ∀ {vs : List V} {xs : List Va}, Reps G ρ H vs xs → xs.all flatA = true → vs.all flatV = true ∧ inV v vs = xs.any fun y => eqA y x
  | _, _, .nil, _ => ⟨rfl, rfl⟩
  | _, _, .cons a b, h => by
    rw [List.all_cons, Bool.and_eq_true] at h
    obtain ⟨h1, h2⟩ := inA_rep p hx b h.2
    refine ⟨?_, ?_⟩
    · rw [List.all_cons, flat_rep a h.1, h1]; rfl
    · unfold inV at h2 ⊢
      rw [List.any_cons, List.any_cons, h2, eqA_rep a p h.1 hx]
def inStr (x z : Str) : Bool := match x.cps.toList with
  | [c] => decide (c ∈ z.cps.toList)
  | _ => !(Builtin.Str.occurrences z x 0 z.length 1).isEmpty
def isInO (o : Option Ob) (x : Va) : Option Bool := match o with
  | some (.lst ys) => inA x ys
  | some (.dic kvs) => match x with
    | .non => some false
    | x => match keyOf x with
      | some k => some (dGet kvs k).isSome
      | none => none
  | _ => none
def isIn (S : Sto) (x y : Va) : Option Bool := match y with
  | .tup ys => inA x ys
  | .fro ys => inA x ys
  | .str z => match x with
    | .str t => some (inStr t z)
    | _ => none
  | .ref n => isInO (S.get n) x
  | _ => none
def mIn (neg : Bool) (a b : EF) : EF := fun env S => (a env S).bind fun x S1 => (b env S1).bind fun y S2 => match isIn S2 x y with
  | some k => .ok (.bl (if neg then !k else k)) S2
  | none => .bad
theorem some_false {o : Option V} (h : o = none) : o.isSome = false := by
  subst h
  rfl
/-- what x in y gives, by the right rule -/
theorem isIn_ok (gx : GX G X) {x y : Va} {v u : V} {S : Sto} {ρ : List Addr} {H : Hp} {k : Bool} (hr : Rel G ρ S H) (px : Rep G ρ H v x) (py : Rep G ρ H u y) (h : isIn S x y = some k) :
    (∃ n kvs, y = .ref n ∧ S.get n = some (.dic kvs)) ∨ (∀ Q : VK, Q (.bl k) H → OpW X (compareOp .In) v u H Q) ∧ (∀ Q : VK, Q (.bl (!k)) H → OpW X (compareOp .NotIn) v u H Q) := by
  have seq : ∀ (p : Addr) (ys : List V) (xs : List Va), u = .ref p → (SqL G.K H p ys ∨ SqT G.K H p ys) → Reps G ρ H ys xs → inA x xs = some k → (∀ Q : VK, Q (.bl k) H → OpW X (compareOp .In) v u H Q) ∧ (∀ Q : VK, Q (.bl (!k)) H → OpW X (compareOp .NotIn) v u H Q) := by
    intro p ys xs e hs r hi
    subst e
    unfold inA at hi
    cases q : flatA x && xs.all flatA with
    | false => rw [q] at hi; cases hi
    | true =>
      rw [q] at hi
      obtain ⟨q1, q2⟩ := Bool.and_eq_true_iff.mp q
      obtain ⟨h1, h2⟩ := inA_rep px q1 r q2
      have hi2 : inV v ys = k := by rw [h2]; exact Option.some.inj hi
      refine ⟨fun Q hq => OpW.by op_in_seq ⟨p, ys, rfl, by rw [gx.hK]; exact hs, flat_rep px q1, h1, ?_⟩, fun Q hq => OpW.by op_notIn_seq ⟨p, ys, rfl, by rw [gx.hK]; exact hs, flat_rep px q1, h1, ?_⟩⟩
      · rw [hi2]; exact hq
      · rw [hi2]; exact hq
  cases py with
  | tup t r => exact .inr (seq _ _ _ rfl (.inr t) r h)
  | fro t r => exact .inr (seq _ _ _ rfl (.inl t.sq) r h)
  | str z =>
    cases px with
    | str t =>
      have h' : some (inStr t z) = some k := h
      unfold inStr at h'
      cases q : t.cps.toList with
      | nil =>
        rw [q] at h'
        have h2 : (!(Builtin.Str.occurrences z t 0 z.length 1).isEmpty) = k := Option.some.inj h'
        exact .inr ⟨fun Q hq => OpW.by op_in_str ⟨t, z, rfl, rfl, by rw [h2]; exact hq⟩, fun Q hq => OpW.by op_notIn_str ⟨t, z, rfl, rfl, by rw [h2]; exact hq⟩⟩
      | cons c r =>
        cases r with
        | nil =>
          rw [q] at h'
          have h2 : decide (c ∈ z.cps.toList) = k := Option.some.inj h'
          have et : t = ⟨#[c]⟩ := by
            obtain ⟨cps⟩ := t
            have : cps = #[c] := by
              have q' : cps.toList = [c] := q
              rw [← Array.toArray_toList (xs := cps), q']
            rw [this]
          subst et
          exact .inr ⟨fun Q hq => OpW.by op_in_sign ⟨c, z, rfl, rfl, by rw [h2]; exact hq⟩, fun Q hq => OpW.by op_notIn_sign ⟨c, z, rfl, rfl, by rw [h2]; exact hq⟩⟩
        | cons d r =>
          rw [q] at h'
          have h2 : (!(Builtin.Str.occurrences z t 0 z.length 1).isEmpty) = k := Option.some.inj h'
          exact .inr ⟨fun Q hq => OpW.by op_in_str ⟨t, z, rfl, rfl, by rw [h2]; exact hq⟩, fun Q hq => OpW.by op_notIn_str ⟨t, z, rfl, rfl, by rw [h2]; exact hq⟩⟩
    | _ => cases h
  | ref e1 =>
    rename_i n p
    have h' : isInO (S.get n) x = some k := h
    cases g1 : S.get n with
    | none => rw [g1] at h'; cases h'
    | some o1 =>
      rw [g1] at h'
      cases o1 with
      | lst xs =>
        obtain ⟨ys, f1, r1⟩ := hr.lst g1 e1
        exact .inr (seq _ _ _ rfl (.inl (SqL.of f1)) r1 h')
      | dic kvs => exact .inl ⟨n, kvs, rfl, g1⟩
      | ins C fs => cases h'
      | frd kvs => cases h'
  | _ => cases h
theorem Rel.dic {S : Sto} {ρ : List Addr} {H : Hp} {n : Nat} {p : Addr} {xs : List (Key × Va)} (hr : Rel G ρ S H) (h : S.get n = some (.dic xs)) (e : ρ[n]? = some p) : ∃ ys, H p = some (.dK ys) ∧ RepK G ρ H ys xs := hr.ob_of h e
theorem isIn_dic {x : Va} {v : V} {S : Sto} {ρ : List Addr} {H : Hp} {k : Bool} {n : Nat} {p : Addr} {kvs : List (Key × Va)} (hr : Rel G ρ S H) (px : Rep G ρ H v x) (hp : ρ[n]? = some p) (g : S.get n = some (.dic kvs)) (h : isIn S x (.ref n) = some k) :
    (∃ o, DGet H p v o ∧ o.isSome = k) ∨ ∃ ks, v = .non ∧ Rd H p (.dK ks) ∧ k = false := by
  obtain ⟨ks, f, r⟩ := hr.dic g hp
  have h' : isInO (S.get n) x = some k := h
  rw [g] at h'
  have key : ∀ kk, keyOf x = some kk → (dGet kvs kk).isSome = k → ∃ o, DGet H p v o ∧ o.isSome = k := fun kk e1 e2 => by
    rw [keyOf_rep px e1]
    refine ⟨_, DGet.k f, ?_⟩
    obtain ⟨h1, h2⟩ := dGet_rep kk r
    cases q : dGet kvs kk with
    | none => rw [h2 q]; rw [q] at e2; exact e2
    | some z =>
      obtain ⟨w, hw, _⟩ := h1 z q
      rw [hw]; rw [q] at e2; exact e2
  cases px with
  | non => exact .inr ⟨ks, rfl, .inl f, (Option.some.inj h').symm⟩
  | int i => exact .inl (key (.inl i) rfl (Option.some.inj h'))
  | str i => exact .inl (key (.inr i) rfl (Option.some.inj h'))
  | _ => cases h'
theorem sc_in (gx : GX G X) (ha : SE G X a fa) (hb : SE G X b fb) : SC G X .In a b (mIn false fa fb) := by
  intro env S ρ σ H Q he hr h
  have hu : X.A.units + 1 < cLine := by have := gx.hu; omega
  by_cases hd : ∃ x S1 y S2 n kvs, fa env S = .ok x S1 ∧ fb env S1 = .ok y S2 ∧ y = .ref n ∧ S2.get n = some (.dic kvs)
  · obtain ⟨x0, S01, y0, S02, n, kvs, q1, q2, q3, q4⟩ := hd
    refine PCw.by (pc_dinN hu pew pew) (ha env S ρ σ H _ he hr (Out.bind h fun x S1 ρ1 H1 v w1 e1 r1 p1 h1 => ?_))
    have w1' := q1.symm.trans w1
    injection w1' with w1a w1b
    subst w1a w1b
    refine hb env S01 ρ1 σ H1 _ (he.mono e1) r1 (Out.bind h1 fun y S2 ρ2 H2 u w2 e2 r2 p2 h2 => ?_)
    have w2' := q2.symm.trans w2
    injection w2' with w2a w2b
    subst w2a w2b
    subst q3
    cases q : isIn S02 x0 (.ref n) with
    | none => rw [q] at h2; exact h2.elim
    | some k =>
      rw [q] at h2
      cases p2 with
      | ref hp =>
        rcases isIn_dic r2 (p1.mono e2) hp q4 q with ⟨o, g, e⟩ | ⟨ks, e, g, e'⟩
        · exact .inl ⟨_, o, rfl, g, by rw [e]; exact Out.ok h2 r2 (.bl k)⟩
        · exact .inr ⟨_, ks, rfl, e, g, by subst e'; exact Out.ok h2 r2 (.bl false)⟩
  · intro pins s I
    refine thn (ha env S ρ σ H (fun v H1 => ∀ s, Inv X pins σ H1 s → ∀ u, RelV v u → wpAny (model X.prog X.w) X.A (eval b X.env) (fun u' s₂ => wpAny (model X.prog X.w) X.A (compareOp .In u u') (EP X pins σ Q) X.xe s₂) X.xe s) he hr (Out.bind h fun x S1 ρ1 H1 v w1 e1 r1 p1 h1 => ?_) pins s I)
      fun u s1 ⟨v, H1, I1, r1, q1⟩ => q1 s1 I1 u r1
    intro s1 I1 u ru
    refine thn (hb env S1 ρ1 σ H1 (fun v' H2 => OpW X (compareOp .In) v v' H2 Q) (he.mono e1) r1 (Out.bind h1 fun y S2 ρ2 H2 u2 w2 e2 r2 p2 h2 => ?_) pins s1 I1) fun u' s2 ⟨v', H2, I2, r2, q2⟩ => q2 pins s2 σ _ _ I2 ru r2
    cases q : isIn S2 x y with
    | none => rw [q] at h2; exact h2.elim
    | some k =>
      rw [q] at h2
      rcases isIn_ok gx r2 (p1.mono e2) p2 q with ⟨n, kvs, e, g⟩ | ⟨f, _⟩
      · exact (hd ⟨x, S1, y, S2, n, kvs, w1, w2, e, g⟩).elim
      · exact f Q (Out.ok h2 r2 (.bl k))
theorem sc_notin (gx : GX G X) (ha : SE G X a fa) (hb : SE G X b fb) : SC G X .NotIn a b (mIn true fa fb) := by
  intro env S ρ σ H Q he hr h
  have hu : X.A.units + 1 < cLine := by have := gx.hu; omega
  by_cases hd : ∃ x S1 y S2 n kvs, fa env S = .ok x S1 ∧ fb env S1 = .ok y S2 ∧ y = .ref n ∧ S2.get n = some (.dic kvs)
  · obtain ⟨x0, S01, y0, S02, n, kvs, q1, q2, q3, q4⟩ := hd
    refine PCw.by (pc_dnotinN hu pew pew) (ha env S ρ σ H _ he hr (Out.bind h fun x S1 ρ1 H1 v w1 e1 r1 p1 h1 => ?_))
    have w1' := q1.symm.trans w1
    injection w1' with w1a w1b
    subst w1a w1b
    refine hb env S01 ρ1 σ H1 _ (he.mono e1) r1 (Out.bind h1 fun y S2 ρ2 H2 u w2 e2 r2 p2 h2 => ?_)
    have w2' := q2.symm.trans w2
    injection w2' with w2a w2b
    subst w2a w2b
    subst q3
    cases q : isIn S02 x0 (.ref n) with
    | none => rw [q] at h2; exact h2.elim
    | some k =>
      rw [q] at h2
      cases p2 with
      | ref hp =>
        rcases isIn_dic r2 (p1.mono e2) hp q4 q with ⟨o, g, e⟩ | ⟨ks, e, g, e'⟩
        · exact .inl ⟨_, o, rfl, g, by rw [e]; exact Out.ok h2 r2 (.bl (!k))⟩
        · exact .inr ⟨_, ks, rfl, e, g, by subst e'; exact Out.ok h2 r2 (.bl true)⟩
  · intro pins s I
    refine thn (ha env S ρ σ H (fun v H1 => ∀ s, Inv X pins σ H1 s → ∀ u, RelV v u → wpAny (model X.prog X.w) X.A (eval b X.env) (fun u' s₂ => wpAny (model X.prog X.w) X.A (compareOp .NotIn u u') (EP X pins σ Q) X.xe s₂) X.xe s) he hr (Out.bind h fun x S1 ρ1 H1 v w1 e1 r1 p1 h1 => ?_) pins s I)
      fun u s1 ⟨v, H1, I1, r1, q1⟩ => q1 s1 I1 u r1
    intro s1 I1 u ru
    refine thn (hb env S1 ρ1 σ H1 (fun v' H2 => OpW X (compareOp .NotIn) v v' H2 Q) (he.mono e1) r1 (Out.bind h1 fun y S2 ρ2 H2 u2 w2 e2 r2 p2 h2 => ?_) pins s1 I1) fun u' s2 ⟨v', H2, I2, r2, q2⟩ => q2 pins s2 σ _ _ I2 ru r2
    cases q : isIn S2 x y with
    | none => rw [q] at h2; exact h2.elim
    | some k =>
      rw [q] at h2
      rcases isIn_ok gx r2 (p1.mono e2) p2 q with ⟨n, kvs, e, g⟩ | ⟨_, f⟩
      · exact (hd ⟨x, S1, y, S2, n, kvs, w1, w2, e, g⟩).elim
      · exact f Q (Out.ok h2 r2 (.bl (!k)))

/-! ### x[y] -/
def atA (xs : List Va) (i : Int) : Option Va := (ixN xs.length i).bind fun j => xs[j]?
def gIxO (o : Option Ob) (y : Va) : Option Va := match o with
  | some (.lst xs) => match y with
    | .int i => atA xs i
    | _ => none
  | some (.dic kvs) => match keyOf y with
    | some k => dGet kvs k
    | none => none
  | some (.frd kvs) => match keyOf y with
    | some k => dGet kvs k
    | none => none
  | _ => none
def gIx (x y : Va) (S : Sto) : Option Va := match x with
  | .tup xs => match y with
    | .int i => atA xs i
    | _ => none
  | .fro xs => match y with
    | .int i => atA xs i
    | _ => none
  | .str z => match y with
    | .int i => match Nat.ble z.length 16777216 with
      | true => match atI z.cps.toList i with
        | some c => some (.str ⟨#[c]⟩)
        | none => none
      | false => none
    | _ => none
  | .ref n => gIxO (S.get n) y
  | _ => none
def mIx (a b : EF) : EF := fun env S => (a env S).bind fun x S1 => (b env S1).bind fun y S2 => match gIx x y S2 with
  | some v => .ok v S2
  | none => .bad
theorem atA_rep {ρ : List Addr} {H : Hp} {vs : List V} {xs : List Va} {i : Int} {x : Va} (r : Reps G ρ H vs xs) (h : atA xs i = some x) : ∃ v, atI vs i = some v ∧ Rep G ρ H v x := by
  unfold atA at h
  unfold atI
  rw [r.length]
  cases q : ixN xs.length i with
  | none => rw [q] at h; cases h
  | some j =>
    rw [q] at h
    exact r.get (i := j) h
def IxW (X : Cx) : R2 := fun x y H Q => ∀ (value slice : Expr) pins s σ v u, Inv X pins σ H s → RelV x v → RelV y u → subscripted slice false v u = operate [v, u] (getItem v u) → wpAny (model X.prog X.w) X.A (subscriptTail value slice v u) (EP X pins σ Q) X.xe s
theorem ixw : IxR X (IxW X) := fun value slice pins s σ H x y v u Q I rx ry h hs => h value slice pins s σ v u I rx ry hs
theorem IxW.by {r : R2} (h : IxR X r) {x y : V} {H : Hp} {Q : VK} (q : r x y H Q) : IxW X x y H Q := fun value slice pins s σ v u I rx ry hs => h value slice pins s σ H x y v u Q I rx ry q hs
theorem se_ix (gx : GX G X) (ha : SE G X a fa) (hb : SE G X b fb) (hs : PlainIx b) : SE G X (.Subscript a b pos) (mIx fa fb) := by
  intro env S ρ σ H Q he hr h
  have hu : X.A.units + 1 < cLine := by have := gx.hu; omega
  by_cases hd : ∃ x S1 y S2 n kvs, fa env S = .ok x S1 ∧ fb env S1 = .ok y S2 ∧ x = .ref n ∧ (S2.get n = some (.dic kvs) ∨ S2.get n = some (.frd kvs))
  · obtain ⟨x0, S01, y0, S02, n, kvs, q1, q2, q3, q4⟩ := hd
    refine PEw.by (pe_dget hu pew pew hs) (ha env S ρ σ H _ he hr (Out.bind h fun x S1 ρ1 H1 v w1 e1 r1 p1 h1 => ?_))
    have w1' := q1.symm.trans w1
    injection w1' with w1a w1b
    subst w1a w1b
    refine hb env S01 ρ1 σ H1 _ (he.mono e1) r1 (Out.bind h1 fun y S2 ρ2 H2 u w2 e2 r2 p2 h2 => ?_)
    have w2' := q2.symm.trans w2
    injection w2' with w2a w2b
    subst w2a w2b
    subst q3
    have e3 : gIx (.ref n) y0 S02 = (match keyOf y0 with | some k => dGet kvs k | none => none) := by
      show gIxO (S02.get n) y0 = _
      rcases q4 with q4 | q4 <;> rw [q4] <;> rfl
    rw [e3] at h2
    cases qk : keyOf y0 with
    | none => rw [qk] at h2; exact h2.elim
    | some k =>
      rw [qk] at h2
      have h3 : Out G (PV G) ρ2 H2 (match dGet kvs k with | some v => .ok v S02 | none => .bad) Q := h2
      cases qd : dGet kvs k with
      | none => rw [qd] at h3; exact h3.elim
      | some z =>
        rw [qd] at h3
        cases (p1.mono e2) with
        | ref hp =>
          rename_i pa
          have hrd : ∃ ks, Rd H2 pa (.dK ks) ∧ RepK G ρ2 H2 ks kvs := by
            rcases q4 with q4 | q4
            · obtain ⟨ks, f, r⟩ := r2.dic q4 hp
              exact ⟨ks, .inl f, r⟩
            · obtain ⟨ks, od, f, r⟩ := r2.ob_of q4 hp
              exact ⟨ks, .inr ⟨od, f⟩, r⟩
          obtain ⟨ks, f, r⟩ := hrd
          obtain ⟨w, hw, rw'⟩ := (dGet_rep k r).1 z qd
          refine ⟨_, w, rfl, ?_, Out.ok h3 r2 rw'⟩
          rw [keyOf_rep p2 qk, ← hw]
          exact .inl ⟨ks, k, f, rfl, rfl⟩
  · refine PEw.by (pe_ix ixw pew pew hs) (ha env S ρ σ H _ he hr (Out.bind h fun x S1 ρ1 H1 v w1 e1 r1 p1 h1 => ?_))
    refine hb env S1 ρ1 σ H1 _ (he.mono e1) r1 (Out.bind h1 fun y S2 ρ2 H2 u w2 e2 r2 p2 h2 => ?_)
    cases q : gIx x y S2 with
    | none => rw [q] at h2; exact h2.elim
    | some z =>
      rw [q] at h2
      cases (p1.mono e2) with
      | tup t r =>
        cases p2 with
        | int i =>
          obtain ⟨w, hw, rw'⟩ := atA_rep r q
          exact IxW.by ix_tup ⟨_, _, i, w, rfl, rfl, by rw [gx.hK]; exact t, hw, Out.ok h2 r2 rw'⟩
        | _ => cases q
      | fro t r =>
        cases p2 with
        | int i =>
          obtain ⟨w, hw, rw'⟩ := atA_rep r q
          exact IxW.by ix_list ⟨_, _, i, w, rfl, rfl, by rw [gx.hK]; exact t.sq, hw, Out.ok h2 r2 rw'⟩
        | _ => cases q
      | str t =>
        cases p2 with
        | int i =>
          have q' : (match Nat.ble t.length 16777216 with | true => (match atI t.cps.toList i with | some c => some (Va.str ⟨#[c]⟩) | none => none) | false => none) = some z := q
          cases qb : Nat.ble t.length 16777216 with
          | false => rw [qb] at q'; cases q'
          | true =>
            rw [qb] at q'
            have q2 : (match atI t.cps.toList i with | some c => some (Va.str ⟨#[c]⟩) | none => none) = some z := q'
            cases qa : atI t.cps.toList i with
            | none => rw [qa] at q2; cases q2
            | some c =>
              rw [qa] at q2
              cases q2
              exact IxW.by ix_str ⟨t, i, c, rfl, rfl, ble_line qb, qa, Out.ok h2 r2 (.str _)⟩
        | _ => cases q
      | ref hp =>
        rename_i n p
        have q' : gIxO (S2.get n) y = some z := q
        cases g : S2.get n with
        | none => rw [g] at q'; cases q'
        | some o =>
          rw [g] at q'
          cases o with
          | lst xs =>
            obtain ⟨ys, f1, r1'⟩ := r2.lst g hp
            cases p2 with
            | int i =>
              obtain ⟨w, hw, rw'⟩ := atA_rep r1' q'
              exact IxW.by ix_list ⟨_, _, i, w, rfl, rfl, by rw [gx.hK]; exact SqL.of f1, hw, Out.ok h2 r2 rw'⟩
            | _ => cases q'
          | dic kvs => exact (hd ⟨_, S1, y, S2, n, kvs, w1, w2, rfl, .inl g⟩).elim
          | frd kvs => exact (hd ⟨_, S1, y, S2, n, kvs, w1, w2, rfl, .inr g⟩).elim
          | ins C fs => cases q'
      | _ => cases q

/-! ### x[lo:hi] -/
abbrev OF := Ev → Sto → R (Option Int)
def POw (X : Cx) (o : Option Expr) : TO := fun σ H Q => ∀ t, PO X o t → True
def mNoP : OF := fun _ S => .ok none S
def mPart (f : EF) : OF := fun env S => (f env S).bind fun x S1 => match x with
  | .int i => .ok (some i) S1
  | _ => .bad
abbrev PI0 : List Addr → Hp → Option Int → Option Int → Prop := fun _ _ b c => b = c
/-- an optional part of a slice: some reading that the function answers -/
def SO (G : Cf) (X : Cx) (o : Option Expr) (f : OF) : Prop := ∃ t : TO, PO X o t ∧ ∀ (env : Ev) (S : Sto) (ρ : List Addr) (σ : L2.St) (H : Hp) (Q : Option Int → Hp → Prop), RepE G ρ H σ env → Rel G ρ S H → Out G PI0 ρ H (f env S) Q → t σ H Q
theorem so_none : SO G X none mNoP := ⟨tNoPart, po_none, fun env S ρ σ H Q he hr h => Out.ok h hr rfl⟩
theorem so_some (ha : SE G X a fa) : SO G X (some a) (mPart fa) := by
  refine ⟨tPart (PEw X a), po_some pew, fun env S ρ σ H Q he hr h => ?_⟩
  refine ha env S ρ σ H _ he hr (Out.bind h fun x S1 ρ1 H1 v w1 e1 r1 p1 h1 => ?_)
  cases p1 with
  | int i => exact ⟨i, rfl, Out.ok h1 r1 rfl⟩
  | _ => exact h1.elim
def cutA (xs : List Va) (lo hi : Option Int) : List Va := (xs.drop (HT.sIx xs.length 0 lo)).take (HT.sIx xs.length xs.length hi - HT.sIx xs.length 0 lo)
theorem cutA_rep {ρ : List Addr} {H : Hp} {vs : List V} {xs : List Va} (r : Reps G ρ H vs xs) (lo hi : Option Int) : Reps G ρ H (cutV vs lo hi) (cutA xs lo hi) := by
  unfold cutV cutA
  rw [r.length]
  exact (r.drop _).take _
def mSl (a : EF) (lo hi : OF) : EF := fun env S => (a env S).bind fun x S1 => (lo env S1).bind fun l S2 => (hi env S2).bind fun h S3 => match x with
  | .tup xs => .ok (.tup (cutA xs l h)) S3
  | .fro xs => .ok (.ref S3.n) (S3.new (.lst (cutA xs l h)))
  | .str z => match Nat.ble z.length 16777216 with
    | true => .ok (.str (cutS z l h)) S3
    | false => .bad
  | .ref n => match S3.get n with
    | some (.lst xs) => .ok (.ref S3.n) (S3.new (.lst (cutA xs l h)))
    | _ => .bad
  | _ => .bad
def SlW (X : Cx) : V → Option Int → Option Int → Hp → VK → Prop := fun x lo hi H Q => ∀ pins s σ v vl vu sl, Inv X pins σ H s → RelV x v → s.heap.IsSliceOf sl vl vu .none → IsPart vl lo → IsPart vu hi →
    ∃ T id, typeLookup (.type T) "__getitem__" = pure (some (.builtin id)) ∧ s.TypeIs v T ∧ wpAny (model X.prog X.w) X.A (getItem v (.ref sl)) (EP X pins σ Q) X.xe s
theorem slw : SlR X (SlW X) := fun pins s σ H x v vl vu lo hi sl Q I rx hs pl pu q => q pins s σ v vl vu sl I rx hs pl pu
theorem SlW.by {r : V → Option Int → Option Int → Hp → VK → Prop} (h : SlR X r) {x : V} {lo hi : Option Int} {H : Hp} {Q : VK} (q : r x lo hi H Q) : SlW X x lo hi H Q := fun pins s σ v vl vu sl I rx hs pl pu => h pins s σ H x v vl vu lo hi sl Q I rx hs pl pu q
theorem cut_whole {xs : List Va} {lo hi : Option Int} (h : HT.sIx xs.length 0 lo = 0 ∧ HT.sIx xs.length xs.length hi = xs.length) : cutA xs lo hi = xs := by
  unfold cutA
  rw [h.1, h.2, Nat.sub_zero, List.drop_zero, List.take_length]
theorem se_sl {lo hi : Option Expr} {fl fh : OF} {p2 : Pos} (gx : GX G X) (ha : SE G X a fa) (hl : SO G X lo fl) (hh : SO G X hi fh) : SE G X (.Subscript a (.Slice lo hi none p2) pos) (mSl fa fl fh) := by
  intro env S ρ σ H Q he hr h
  obtain ⟨tl, pl, hl⟩ := hl
  obtain ⟨th, ph, hh⟩ := hh
  refine PEw.by (pe_slice slw pew pl ph) (ha env S ρ σ H _ he hr (Out.bind h fun x S1 ρ1 H1 v w1 e1 r1 p1 h1 => ?_))
  refine hl env S1 ρ1 σ H1 _ (he.mono e1) r1 (Out.bind h1 fun l S2 ρ2 H2 l' w2 e2 r2 p2 h2 => ?_)
  subst p2
  refine hh env S2 ρ2 σ H2 _ (he.mono (e1.trans e2)) r2 (Out.bind h2 fun u S3 ρ3 H3 u' w3 e3 r3 p3 h3 => ?_)
  subst p3
  cases (p1.mono (e2.trans e3)) with
  | tup t r =>
    refine SlW.by sl_tupA ⟨_, _, rfl, by rw [gx.hK]; exact t, fun hw => ?_, fun hw p hp => Out.tup h3 r3 (cutA_rep r _ _) p hp⟩
    rw [r.length] at hw
    have h4 : Out G (PV G) ρ3 H3 (.ok (.tup (cutA _ l' u')) S3) Q := h3
    rw [cut_whole hw] at h4
    exact Out.ok h4 r3 (.tup t r)
  | fro t r => exact SlW.by sl_list ⟨_, _, rfl, by rw [gx.hK]; exact t.sq, fun p hp => Out.lst h3 r3 (cutA_rep r _ _) p hp⟩
  | str z =>
    have h4 : Out G (PV G) ρ3 H3 (match Nat.ble z.length 16777216 with | true => .ok (.str (cutS z l' u')) S3 | false => .bad) Q := h3
    cases qb : Nat.ble z.length 16777216 with
    | false => rw [qb] at h4; exact h4.elim
    | true =>
      rw [qb] at h4
      exact SlW.by sl_str ⟨z, rfl, ble_line qb, Out.ok h4 r3 (.str _)⟩
  | ref hp =>
    rename_i n p
    have h4 : Out G (PV G) ρ3 H3 (match S3.get n with | some (.lst xs) => .ok (.ref S3.n) (S3.new (.lst (cutA xs l' u'))) | _ => .bad) Q := h3
    cases g : S3.get n with
    | none => rw [g] at h4; exact h4.elim
    | some o =>
      rw [g] at h4
      cases o with
      | lst xs =>
        obtain ⟨ys, f1, r1'⟩ := r3.lst g hp
        exact SlW.by sl_list ⟨_, _, rfl, by rw [gx.hK]; exact SqL.of f1, fun p hp => Out.lst h4 r3 (cutA_rep r1' _ _) p hp⟩
      | _ => exact h4.elim
  | _ => exact h3.elim
end
end Mi
/-! Fields, calls of defs, methods and classes, built-in functions. -/
namespace Mi
open PySem PySem.Spec PyProof.Rows L2

/-- what a call of the j-th def gives -/
abbrev CO := Nat → List Va → Sto → R Va
/-- the j-th def's promise: it does what the function says -/
def spOf (G : Cf) (C : CO) (n j : Nat) : Sp := fun vs H Q _ => vs.length = n ∧ ∃ (ρ : List Addr) (S : Sto) (args : List Va), Rel G ρ S H ∧ Reps G ρ H vs args ∧ Out G (PV G) ρ H (C j args S) Q

section
variable {G : Cf} {X : Cx} {a b c e o : Expr} {es : List Expr} {fa fb fc fo : EF} {fs : AF} {pos : Pos}
/-! ### fields -/
def fGet (fs : List (Nat × Va)) (j : Nat) : Option Va := match fs with
  | [] => none
  | (h, v) :: r => match Nat.beq h j with
    | true => some v
    | false => fGet r j
def fPut (fs : List (Nat × Va)) (j : Nat) (v : Va) : List (Nat × Va) := match fs with
  | [] => [(j, v)]
  | (h, u) :: r => match Nat.beq h j with
    | true => (j, v) :: r
    | false => (h, u) :: fPut r j v
def gFld (j : Nat) (x : Va) (S : Sto) : Option Va := match x with
  | .ref n => match S.get n with
    | some (.ins _ fs) => fGet fs j
    | _ => none
  | _ => none
def mFld (j : Nat) (f : EF) : EF := fun env S => (f env S).bind fun x S1 => match gFld j x S1 with
  | some v => .ok v S1
  | none => .bad
theorem fGet_rep {ρ : List Addr} {H : Hp} (hi : ∀ i j, G.fN i = G.fN j → i = j) : ∀ {gs : List (Str × V)} {fs : List (Nat × Va)} {j : Nat} {x : Va}, RepF G ρ H gs fs → fGet fs j = some x → ∃ v, gs.lookup (G.fN j) = some v ∧ Rep G ρ H v x
  | _, _, _, _, .nil, h => by cases h
  | _, _, j, x, .cons (j := k) (x := y) (xs := xs) p r, h => by
    by_cases q : k = j
    · subst q
      have e : fGet ((k, y) :: xs) k = some y := by rw [fGet, beqT rfl]
      rw [e] at h
      cases h
      exact ⟨_, by rw [List.lookup_cons, beq_self_eq_true], p⟩
    · have e : fGet ((k, y) :: xs) j = fGet xs j := by rw [fGet, beqF q]
      rw [e] at h
      obtain ⟨v, h1, h2⟩ := fGet_rep hi r h
      refine ⟨v, ?_, h2⟩
      rw [List.lookup_cons, beq_eq_false_iff_ne.mpr fun z => q (hi _ _ z.symm)]
      exact h1
theorem fPut_rep {ρ : List Addr} {H : Hp} (hi : ∀ i j, G.fN i = G.fN j → i = j) {j : Nat} {v : V} {x : Va} (p : Rep G ρ H v x) : ∀ {gs : List (Str × V)} {fs : List (Nat × Va)}, RepF G ρ H gs fs → RepF G ρ H (putF (G.fN j) v gs) (fPut fs j x)
  | _, _, .nil => .cons p .nil
  | _, _, .cons (j := k) (v := u) (vs := vs) (x := y) (xs := xs) q r => by
    by_cases e : k = j
    · subst e
      have e1 : fPut ((k, y) :: xs) k x = (k, x) :: xs := by rw [fPut, beqT rfl]
      have e2 : putF (G.fN k) v ((G.fN k, u) :: vs) = (G.fN k, v) :: vs := by rw [putF, if_pos rfl]
      rw [e1, e2]
      exact .cons p r
    · have e1 : fPut ((k, y) :: xs) j x = (k, y) :: fPut xs j x := by rw [fPut, beqF e]
      have e2 : putF (G.fN j) v ((G.fN k, u) :: vs) = (G.fN k, u) :: putF (G.fN j) v vs := by
        rw [putF, if_neg fun z => e (hi _ _ z)]
      rw [e1, e2]
      exact .cons q (fPut_rep hi p r)
theorem fPut_mem {j : Nat} {x : Va} : ∀ {fs : List (Nat × Va)} {q : Nat × Va}, q ∈ fPut fs j x → q.1 = j ∨ ∃ z, (q.1, z) ∈ fs
  | [], q, h => by
    have h' : q ∈ [(j, x)] := h
    rw [List.mem_singleton] at h'
    exact .inl (by rw [h'])
  | (k, y) :: xs, q, h => by
    by_cases e : k = j
    · subst e
      have e1 : fPut ((k, y) :: xs) k x = (k, x) :: xs := by rw [fPut, beqT rfl]
      rw [e1] at h
      rcases List.mem_cons.mp h with h | h
      · exact .inl (by rw [h])
      · exact .inr ⟨q.2, List.mem_cons_of_mem _ h⟩
    · have e1 : fPut ((k, y) :: xs) j x = (k, y) :: fPut xs j x := by rw [fPut, beqF e]
      rw [e1] at h
      rcases List.mem_cons.mp h with h | h
      · exact .inr ⟨y, by rw [h]; exact List.mem_cons_self⟩
      · rcases fPut_mem h with h | ⟨z, h⟩
        · exact .inl h
        · exact .inr ⟨z, List.mem_cons_of_mem _ h⟩
theorem fPut_len {j : Nat} {x : Va} : ∀ {fs : List (Nat × Va)}, (fPut fs j x).length ≤ fs.length + 1
  | [] => Nat.le_refl _
  | (k, y) :: xs => by
    by_cases e : k = j
    · subst e
      rw [fPut, beqT rfl]
      exact Nat.le_succ _
    · rw [fPut, beqF e]
      exact Nat.succ_le_succ fPut_len
theorem Rel.ins {S : Sto} {ρ : List Addr} {H : Hp} {n C : Nat} {p : Addr} {fs : List (Nat × Va)} (hr : Rel G ρ S H) (h : S.get n = some (.ins C fs)) (e : ρ[n]? = some p) :
    ∃ dx gs, H p = some (.ins (G.cA C) dx gs) ∧ RepF G ρ H gs fs ∧ Cls G.K (G.cA C) ∧ (∀ q ∈ fs, G.na C q.1 = true) ∧ fs.length ≤ 100 := hr.ob_of h e
theorem fGet_mem {j : Nat} {x : Va} : ∀ {fs : List (Nat × Va)}, fGet fs j = some x → (j, x) ∈ fs
  | [], h => by cases h
  | (k, y) :: xs, h => by
    by_cases e : k = j
    · subst e
      have e1 : fGet ((k, y) :: xs) k = some y := by rw [fGet, beqT rfl]
      rw [e1] at h
      cases h
      exact List.mem_cons_self
    · have e1 : fGet ((k, y) :: xs) j = fGet xs j := by rw [fGet, beqF e]
      rw [e1] at h
      exact List.mem_cons_of_mem _ (fGet_mem h)
theorem se_fld {f : Str} {j : Nat} (gx : GX G X) (ha : SE G X e fa) (hf : f = G.fN j) (hb : attributeBase e f X.env (eval e X.env) = eval e X.env) : SE G X (.Attribute e f pos) (mFld j fa) := by
  subst hf
  intro env S ρ σ H Q he hr h
  refine PEw.by (pe_fld pew hb) (ha env S ρ σ H _ he hr (Out.bind h fun x S1 ρ1 H1 v w1 e1 r1 p1 h1 => ?_))
  cases q : gFld j x S1 with
  | none => rw [q] at h1; exact h1.elim
  | some z =>
    rw [q] at h1
    cases p1 with
    | ref hp =>
      rename_i n p
      have q' : (match S1.get n with | some (.ins _ fs) => fGet fs j | _ => none) = some z := q
      cases g : S1.get n with
      | none => rw [g] at q'; cases q'
      | some ob =>
        rw [g] at q'
        cases ob with
        | ins C fs =>
          obtain ⟨dx, gs, f1, rf, cl, na, _⟩ := r1.ins g hp
          have q2 : fGet fs j = some z := q'
          obtain ⟨w, hw, rw'⟩ := fGet_rep gx.ok.inj rf q2
          exact ⟨p, G.cA C, dx, gs, w, rfl, f1, by rw [gx.hK]; exact cl, by rw [gx.hK]; exact gx.ok.na C j (na _ (fGet_mem q2)), hw, Out.ok h1 r1 rw'⟩
        | _ => cases q'
    | _ => cases q

/-! ### calls -/
variable {C : CO} {k : Nat} {f : Addr} {fd : FuncData} {ps : List Str} {dvs : List V} {ds : List Value} {x : Str} {p apos : Pos}
/-- defaults: flat values -/
def flatD : Va → V
  | .bl b => .bl b
  | .int i => .int i
  | .str x => .str x
  | _ => .non
theorem reps_flat {ρ : List Addr} {H : Hp} : ∀ {dx : List Va}, dx.all flatA = true → Reps G ρ H (dx.map flatD) dx
  | [], _ => .nil
  | x :: xs, h => by
    rw [List.all_cons, Bool.and_eq_true] at h
    refine .cons ?_ (reps_flat h.2)
    cases x <;> first | exact .non | exact .bl _ | exact .int _ | exact .str _ | cases h.1
/-- what a def needs to be called, with its defaults -/
structure Cal (G : Cf) (X : Cx) (C : CO) (k j : Nat) (f : Addr) (dx : List Va) : Prop where
  ex : ∃ (fd : FuncData) (ps : List Str) (n : Nat) (ds : List Value), FnOk X.prog X.w X.K X.mg X.base CX0 k f fd ps (spOf G C n j) ∧ Binds X.K fd ps ds ∧ Vals (dx.map flatD) ds ∧ (∀ args S a S', C j args S = .ok a S' → args.length = n)
  flat : dx.all flatA = true
/-- the text's table: the defs' addresses, defaults, global names; methods (class, name, def); classes' names; built-ins' names that nothing shadows; constants -/
structure Tab where
  fA : Nat → Addr
  dx : Nat → List Va
  fname : Nat → Option Str
  mth : Nat → Option (Nat × Str × Nat)
  cname : Nat → Option Str
  init : Nat → Nat
  free : Nat → Option Str
  cv : Nat → Option (Str × Va)
  has : Nat → Bool
/-- a module's constant: an int, a text, a tuple of such -/
def CvOk (G : Cf) (mg : Str → Option Value) (x : Str) (v : Va) : Prop := match v with
  | .int i => ∃ t, mg x = some (.int i t)
  | .str y => ∃ t, mg x = some (.str y t)
  | .tup xs => ∃ p ys, mg x = some (.ref p) ∧ (∀ H, SqT G.K H p ys) ∧ ∀ ρ H, Reps G ρ H ys xs
  | _ => False
structure GC (G : Cf) (X : Cx) (C : CO) (k : Nat) (T : Tab) : Prop where
  gx : GX G X
  room : Room (k + 1) X.A
  cal : ∀ j, T.has j = true → Cal G X C k j (T.fA j) (T.dx j)
  fn : ∀ j x, T.fname j = some x → T.has j = true ∧ X.mg x = some (.ref (T.fA j)) ∧ PySem.W.keepIn X.K (.ref (T.fA j)) = true
  mt : ∀ i c m j, T.mth i = some (c, m, j) → T.has j = true ∧ Meth X.K (G.cA c) m (T.fA j) ∧ (∀ i, G.fN i ≠ m) ∧ Cls G.K (G.cA c)
  mker : ∀ c x, T.cname c = some x → T.has (T.init c) = true ∧ X.mg x = some (.ref (G.cA c)) ∧ Mk X.K (G.cA c) (T.fA (T.init c)) ∧ Cls G.K (G.cA c)
  fr : ∀ i x, T.free i = some x → X.mg x = none
  cv : ∀ i x v, T.cv i = some (x, v) → CvOk G X.mg x v
theorem se_cv {C : CO} {k : Nat} {T : Tab} {x : Str} {v : Va} (gc : GC G X C k T) (i : Nat) (h : T.cv i = some (x, v)) (hg : Gl X x) (hd : (x == ("__debug__" : Str)) = false) : SE G X (.Name x pos) (mC v) := by
  have q := gc.cv i x v h
  cases v with
  | int i => exact se_gint hg q hd
  | str y => exact se_gstr hg q hd
  | tup xs =>
    obtain ⟨p, ys, q1, q2, q3⟩ := q
    exact se_gtup gc.gx.hK hg q1 q2 q3 hd
  | _ => exact q.elim
theorem Out.len {P : List Addr → Hp → V → Va → Prop} {ρ : List Addr} {H : Hp} {Q : VK} {j n : Nat} {args : List Va} {S : Sto} (hn : ∀ args S a S', C j args S = .ok a S' → args.length = n) (h : Out G P ρ H (C j args S) Q) : args.length = n := by
  cases q : C j args S with
  | bad => rw [q] at h; exact h.elim
  | ok a S' => exact hn _ _ _ _ q
variable {T : Tab}
def mCall (C : CO) (j : Nat) (fs : AF) (dx : List Va) : EF := fun env S => (fs env S).bind fun xs S1 => C j (xs ++ dx) S1
theorem se_call {j : Nat} (gc : GC G X C k T) (hj : T.fname j = some x) (hg : Gl X x) (ha : SA G X (e :: es) fs)
    (hdb : (x == ("__debug__" : Str)) = false) (hs : starEach (e :: es) X.env = (false, eval e X.env) :: starEach es X.env) (hpl : (backTo pos (starEach es X.env)).any (·.1) = false) :
    SE G X (.Call (.Name x p) (e :: es) [] pos) (mCall C j fs (T.dx j)) := by
  intro env S ρ σ H Q he hrl h
  obtain ⟨hh, hm, hk⟩ := gc.fn j x hj
  obtain ⟨⟨fd, ps, n, ds, F, hb, hd, hn⟩, fl⟩ := gc.cal j hh
  refine PEw.by (pe_call F (gc.room.mono (Nat.le_succ k)) hg hm hk hb hd (pass0 (X := X)) paw hdb hs hpl) (ha env S ρ σ H _ he hrl (Out.bind h fun xs S1 ρ1 H1 vs w1 e1 r1 p1 h1 => ?_))
  have rr : Reps G ρ1 H1 (vs ++ (T.dx j).map flatD) (xs ++ T.dx j) := p1.append (reps_flat fl)
  exact ⟨by rw [rr.length]; exact Out.len hn h1, ρ1, S1, xs ++ T.dx j, r1, rr, h1⟩
theorem se_call0 {j : Nat} (gc : GC G X C k T) (hj : T.fname j = some x) (hg : Gl X x) (hdb : (x == ("__debug__" : Str)) = false) : SE G X (.Call (.Name x p) [] [] pos) (mCall C j mNil (T.dx j)) := by
  intro env S ρ σ H Q he hrl h
  obtain ⟨hh, hm, hk⟩ := gc.fn j x hj
  obtain ⟨⟨fd, ps, n, ds, F, hb, hd, hn⟩, fl⟩ := gc.cal j hh
  refine PEw.by (pe_call0 F (gc.room.mono (Nat.le_succ k)) hg hm hk hb hd (pass0 (X := X)) hdb) ?_
  have h1 : Out G (PV G) ρ H (C j ([] ++ T.dx j) S) Q := h
  have rr : Reps G ρ H ([] ++ (T.dx j).map flatD) ([] ++ T.dx j) := reps_flat fl
  exact ⟨by rw [rr.length]; exact Out.len hn h1, ρ, S, [] ++ T.dx j, hrl, rr, h1⟩
/-- the class of an instance -/
def clsOf (x : Va) (S : Sto) : Option Nat := match x with
  | .ref n => match S.get n with
    | some (.ins c _) => some c
    | _ => none
  | _ => none
theorem clsOf_rep {ρ : List Addr} {H : Hp} {S : Sto} {v : V} {y : Va} {c : Nat} (hr : Rel G ρ S H) (p : Rep G ρ H v y) (h : clsOf y S = some c) :
    ∃ a dx gs fs, v = .ref a ∧ H a = some (.ins (G.cA c) dx gs) ∧ RepF G ρ H gs fs ∧ Cls G.K (G.cA c) := by
  cases p with
  | ref hp =>
    rename_i n a
    have q' : (match S.get n with | some (.ins c _) => some c | _ => none) = some c := h
    cases g : S.get n with
    | none => rw [g] at q'; cases q'
    | some ob =>
      rw [g] at q'
      cases ob with
      | ins C fs =>
        have e : C = c := Option.some.inj q'
        subst e
        obtain ⟨dx, gs, f1, rf, cl, na, _⟩ := hr.ins g hp
        exact ⟨a, dx, gs, fs, rfl, f1, rf, cl⟩
      | _ => cases q'
  | _ => cases h
theorem repF_no {ρ : List Addr} {H : Hp} {m : Str} (hm : ∀ i, G.fN i ≠ m) : ∀ {gs : List (Str × V)} {fs : List (Nat × Va)}, RepF G ρ H gs fs → gs.lookup m = none
  | _, _, .nil => rfl
  | _, _, .cons _ r => by
    rw [List.lookup_cons, beq_eq_false_iff_ne.mpr fun z => hm _ z.symm]
    exact repF_no hm r
/-- o.m(..): the def by the class -/
def mMeth (C : CO) (T : Nat → Option (Nat × List Va)) (o : EF) (fs : AF) : EF := fun env S => (o env S).bind fun x S1 => match clsOf x S1 with
  | some c => match T c with
    | some (j, dx) => (fs env S1).bind fun xs S2 => C j (x :: (xs ++ dx)) S2
    | none => .bad
  | none => .bad
/-- a method of one class, or of another too -/
def M1 (c j : Nat) (dx : List Va) : Nat → Option (Nat × List Va) := fun c' => match Nat.beq c' c with
  | true => some (j, dx)
  | false => none
def MO (M N : Nat → Option (Nat × List Va)) : Nat → Option (Nat × List Va) := fun c => match M c with
  | some q => some q
  | none => N c
def MOk (T : Tab) (m : Str) (M : Nat → Option (Nat × List Va)) : Prop := ∀ c j dx, M c = some (j, dx) → ∃ i, T.mth i = some (c, m, j) ∧ dx = T.dx j
theorem mok1 {T : Tab} {m : Str} {c j : Nat} (i : Nat) (h : T.mth i = some (c, m, j)) : MOk T m (M1 c j (T.dx j)) := fun c' j' dx q => by
  unfold M1 at q
  cases e : Nat.beq c' c with
  | false => rw [e] at q; cases q
  | true =>
    rw [e] at q
    cases q
    have e' := Nat.eq_of_beq_eq_true e
    subst e'
    exact ⟨i, h, rfl⟩
theorem mokO {T : Tab} {m : Str} {M N : Nat → Option (Nat × List Va)} (h1 : MOk T m M) (h2 : MOk T m N) : MOk T m (MO M N) := fun c j dx q => by
  unfold MO at q
  cases e : M c with
  | some z =>
    rw [e] at q
    exact h1 c j dx (by rw [e]; exact q)
  | none =>
    rw [e] at q
    exact h2 c j dx q
theorem se_meth {m : Str} {M : Nat → Option (Nat × List Va)} (gc : GC G X C k T) (hM : MOk T m M) (ho : SE G X o fo) (ha : SA G X (e :: es) fs)
    (hpe : ∀ {to : TE} {t : TA} {D f : Addr} {fd : FuncData} {ps : List Str} {sp : Sp} {dvs : List V} {ds : List Value}, PE X o to → PA X (e :: es) t → Cls X.K D → Meth X.K D m f → FnOk X.prog X.w X.K X.mg X.base CX0 k f fd ps sp → Room k X.A → Binds X.K fd ps ds → Vals dvs ds →
      PE X (.Call (.Attribute o m apos) (e :: es) [] pos) (tMeth D m sp dvs E0 to t)) : SE G X (.Call (.Attribute o m apos) (e :: es) [] pos) (mMeth C M fo fs) := by
  intro env S ρ σ H Q he hrl h
  cases q0 : fo env S with
  | bad =>
    have h' : Out G (PV G) ρ H ((fo env S).bind fun x S1 => match clsOf x S1 with | some c => (match M c with | some (j, dx) => (fs env S1).bind fun xs S2 => C j (x :: (xs ++ dx)) S2 | none => .bad) | none => .bad) Q := h
    rw [q0] at h'
    exact h'.elim
  | ok x0 S0 =>
    have h' : Out G (PV G) ρ H ((fo env S).bind fun x S1 => match clsOf x S1 with | some c => (match M c with | some (j, dx) => (fs env S1).bind fun xs S2 => C j (x :: (xs ++ dx)) S2 | none => .bad) | none => .bad) Q := h
    have h'' := h'
    rw [q0] at h''
    have h2 : Out G (PV G) ρ H (match clsOf x0 S0 with | some c => (match M c with | some (j, dx) => (fs env S0).bind fun xs S2 => C j (x0 :: (xs ++ dx)) S2 | none => .bad) | none => .bad) Q := h''
    cases q1 : clsOf x0 S0 with
    | none => rw [q1] at h2; exact h2.elim
    | some c =>
      rw [q1] at h2
      have h3 : Out G (PV G) ρ H (match M c with | some (j, dx) => (fs env S0).bind fun xs S2 => C j (x0 :: (xs ++ dx)) S2 | none => .bad) Q := h2
      cases q2 : M c with
      | none => rw [q2] at h3; exact h3.elim
      | some jd =>
        obtain ⟨j, dx⟩ := jd
        obtain ⟨i0, q3, rfl⟩ := hM c j dx q2
        obtain ⟨hh, hm, hno, hc⟩ := gc.mt i0 c m j q3
        obtain ⟨⟨fd, ps, n, ds, F, hb, hd, hn⟩, fl⟩ := gc.cal j hh
        refine PEw.by (hpe pew paw (by rw [gc.gx.hK]; exact hc) hm F (gc.room.mono (Nat.le_succ k)) hb hd) (ho env S ρ σ H _ he hrl (Out.bind h' fun x S1 ρ1 H1 v w1 ex r1 p1 h1 => ?_))
        have w1' := q0.symm.trans w1
        injection w1' with wa wb
        subst wa wb
        obtain ⟨a, dx, gs, gf, ev, ha1, rf, cl⟩ := clsOf_rep r1 p1 q1
        subst ev
        refine ⟨a, dx, gs, rfl, ha1, repF_no hno rf, ?_⟩
        rw [q1] at h1
        have h4 : Out G (PV G) ρ1 H1 (match M c with | some (j, dx) => (fs env S0).bind fun xs S2 => C j (x0 :: (xs ++ dx)) S2 | none => .bad) Q := h1
        rw [q2] at h4
        refine ha env S0 ρ1 σ H1 _ (he.mono ex) r1 (Out.bind h4 fun xs S2 ρ2 H2 vs w2 ey r2 p2 h5 => ?_)
        have rr : Reps G ρ2 H2 (V.ref a :: (vs ++ (T.dx j).map flatD)) (x0 :: (xs ++ T.dx j)) := .cons (p1.mono ey) (p2.append (reps_flat fl))
        exact ⟨by rw [rr.length]; exact Out.len hn h5, ρ2, S2, _, r2, rr, h5⟩
theorem se_meth0 {m : Str} {M : Nat → Option (Nat × List Va)} (gc : GC G X C k T) (hM : MOk T m M) (ho : SE G X o fo)
    (hpe : ∀ {to : TE} {D f : Addr} {fd : FuncData} {ps : List Str} {sp : Sp} {dvs : List V} {ds : List Value}, PE X o to → Cls X.K D → Meth X.K D m f → FnOk X.prog X.w X.K X.mg X.base CX0 k f fd ps sp → Room k X.A → Binds X.K fd ps ds → Vals dvs ds →
      PE X (.Call (.Attribute o m apos) [] [] pos) (tMeth D m sp dvs E0 to tNil)) : SE G X (.Call (.Attribute o m apos) [] [] pos) (mMeth C M fo mNil) := by
  intro env S ρ σ H Q he hrl h
  have h' : Out G (PV G) ρ H ((fo env S).bind fun x S1 => match clsOf x S1 with | some c => (match M c with | some (j, dx) => (mNil env S1).bind fun xs S2 => C j (x :: (xs ++ dx)) S2 | none => .bad) | none => .bad) Q := h
  cases q0 : fo env S with
  | bad =>
    rw [q0] at h'
    exact h'.elim
  | ok x0 S0 =>
    have h'' := h'
    rw [q0] at h''
    have h2 : Out G (PV G) ρ H (match clsOf x0 S0 with | some c => (match M c with | some (j, dx) => (mNil env S0).bind fun xs S2 => C j (x0 :: (xs ++ dx)) S2 | none => .bad) | none => .bad) Q := h''
    cases q1 : clsOf x0 S0 with
    | none => rw [q1] at h2; exact h2.elim
    | some c =>
      rw [q1] at h2
      have h3 : Out G (PV G) ρ H (match M c with | some (j, dx) => (mNil env S0).bind fun xs S2 => C j (x0 :: (xs ++ dx)) S2 | none => .bad) Q := h2
      cases q2 : M c with
      | none => rw [q2] at h3; exact h3.elim
      | some jd =>
        obtain ⟨j, dx⟩ := jd
        obtain ⟨i0, q3, rfl⟩ := hM c j dx q2
        obtain ⟨hh, hm, hno, hc⟩ := gc.mt i0 c m j q3
        obtain ⟨⟨fd, ps, n, ds, F, hb, hd, hn⟩, fl⟩ := gc.cal j hh
        refine PEw.by (hpe pew (by rw [gc.gx.hK]; exact hc) hm F (gc.room.mono (Nat.le_succ k)) hb hd) (ho env S ρ σ H _ he hrl (Out.bind h' fun x S1 ρ1 H1 v w1 ex r1 p1 h1 => ?_))
        have w1' := q0.symm.trans w1
        injection w1' with wa wb
        subst wa wb
        obtain ⟨a, dx, gs, gf, ev, ha1, rf, cl⟩ := clsOf_rep r1 p1 q1
        subst ev
        refine ⟨a, dx, gs, rfl, ha1, repF_no hno rf, ?_⟩
        rw [q1] at h1
        have h4 : Out G (PV G) ρ1 H1 (match M c with | some (j, dx) => (mNil env S0).bind fun xs S2 => C j (x0 :: (xs ++ dx)) S2 | none => .bad) Q := h1
        rw [q2] at h4
        have h5 : Out G (PV G) ρ1 H1 (C j (x0 :: ([] ++ T.dx j)) S0) Q := h4
        have rr : Reps G ρ1 H1 (V.ref a :: ([] ++ (T.dx j).map flatD)) (x0 :: ([] ++ T.dx j)) := .cons p1 (reps_flat fl)
        exact ⟨by rw [rr.length]; exact Out.len hn h5, ρ1, S0, _, r1, rr, h5⟩

/-! ### a new instance -/
theorem same_made {H : Hp} {x dx C : Addr} (nx : H x = none) (nd : H dx = none) (hne : dx ≠ x) : ∀ b u, H b = some u → upd (upd H dx (.own x)) x (.ins C dx []) b = some u := fun b u e => by
  rw [upd_ne (ne_of_none e nx), upd_ne (ne_of_none e nd)]
  exact e
def mMake (C : CO) (c j : Nat) (fs : AF) (dx : List Va) : EF := fun env S => (fs env S).bind fun xs S1 => (C j (.ref S1.n :: (xs ++ dx)) (S1.new (.ins c []))).bind fun v S2 => match v with
  | .non => .ok (.ref S1.n) S2
  | _ => .bad
theorem make_out {c : Nat} {j : Nat} {xs : List Va} {vs : List V} {S1 : Sto} {ρ : List Addr} {H : Hp} {Q : VK} {n : Nat} {dx : List Va} (hc : Cls G.K (G.cA c)) (hn : ∀ args S a S', C j args S = .ok a S' → args.length = n) (fl : dx.all flatA = true) (hr : Rel G ρ S1 H) (p : Reps G ρ H vs xs)
    (h : Out G (PV G) ρ H ((C j (.ref S1.n :: (xs ++ dx)) (S1.new (.ins c []))).bind fun v S2 => match v with | .non => .ok (.ref S1.n) S2 | _ => .bad) Q) (x dxa : Addr) (nx : H x = none) (nd : H dxa = none) (hne : dxa ≠ x) :
    spOf G C n j (.ref x :: (vs ++ dx.map flatD)) (upd (upd H dxa (.own x)) x (.ins (G.cA c) dxa [])) (fun v H2 => v = .non ∧ Q (.ref x) H2) E0 := by
  obtain ⟨r1, e1⟩ := hr.new (o := .ins c []) nx (same_made (C := G.cA c) nx nd hne) ⟨dxa, [], upd_same, .nil, hc, fun q hq => (nomatch hq), Nat.zero_le _⟩
  have hx : (ρ ++ [x])[S1.n]? = some x := by rw [← hr.len]; simp
  have rr : Reps G (ρ ++ [x]) (upd (upd H dxa (.own x)) x (.ins (G.cA c) dxa [])) (V.ref x :: (vs ++ dx.map flatD)) (Va.ref S1.n :: (xs ++ dx)) := .cons (.ref hx) ((p.mono e1).append (reps_flat fl))
  have h1 := Out.mono e1 h
  refine ⟨?_, _, _, _, r1, rr, Out.bind h1 fun v S2 ρ2 H2 w w1 e2 r2 p2 h2 => ?_⟩
  · rw [rr.length]
    cases q : C j (.ref S1.n :: (xs ++ dx)) (S1.new (.ins c [])) with
    | bad => rw [q] at h1; exact h1.elim
    | ok a S' => exact hn _ _ _ _ q
  · cases p2 with
    | non => exact ⟨rfl, Out.ok h2 r2 (.ref (e2.at hx))⟩
    | _ => exact h2.elim
theorem se_make {c : Nat} (gc : GC G X C k T) (hj : T.cname c = some x) (hg : Gl X x) (ha : SA G X (e :: es) fs)
    (hdb : (x == ("__debug__" : Str)) = false) (hs : starEach (e :: es) X.env = (false, eval e X.env) :: starEach es X.env) (hpl : (backTo pos (starEach es X.env)).any (·.1) = false) :
    SE G X (.Call (.Name x p) (e :: es) [] pos) (mMake C c (T.init c) fs (T.dx (T.init c))) := by
  intro env S ρ σ H Q he hrl h
  obtain ⟨hh, hm, mk, cl⟩ := gc.mker c x hj
  obtain ⟨⟨fd, ps, n, ds, F, hb, hd, hn⟩, fl⟩ := gc.cal (T.init c) hh
  refine PEw.by (pe_make mk F gc.room hg hm hb hd (pass0 (X := X)) paw hdb hs hpl) (ha env S ρ σ H _ he hrl (Out.bind h fun xs S1 ρ1 H1 vs w1 e1 r1 p1 h1 => ?_))
  exact fun x dxa nx nd hne => make_out cl hn fl r1 p1 h1 x dxa nx nd hne
theorem se_make0 {c : Nat} (gc : GC G X C k T) (hj : T.cname c = some x) (hg : Gl X x) (hdb : (x == ("__debug__" : Str)) = false) : SE G X (.Call (.Name x p) [] [] pos) (mMake C c (T.init c) mNil (T.dx (T.init c))) := by
  intro env S ρ σ H Q he hrl h
  obtain ⟨hh, hm, mk, cl⟩ := gc.mker c x hj
  obtain ⟨⟨fd, ps, n, ds, F, hb, hd, hn⟩, fl⟩ := gc.cal (T.init c) hh
  refine PEw.by (pe_make0 mk F gc.room hg hm hb hd (pass0 (X := X)) hdb) ?_
  exact fun x dxa nx nd hne => make_out (xs := []) cl hn fl hrl .nil h x dxa nx nd hne

/-! ### built-in functions and classes, by values -/
def CallW (X : Cx) (f : Value) : List V → Hp → VK → Prop := fun xs H Q => ∀ pins s σ us, Inv X pins σ H s → Vals xs us → wpAny (model X.prog X.w) X.A (call f us) (EP X pins σ Q) X.xe s
theorem callw {f : Value} : CallR X f (CallW X f) := fun pins s σ H xs us Q I r h => h pins s σ us I r
theorem CallW.by {f : Value} {r : List V → Hp → VK → Prop} (h : CallR X f r) {xs : List V} {H : Hp} {Q : VK} (q : r xs H Q) : CallW X f xs H Q := fun pins s σ us I rv => h pins s σ H xs us Q I rv q
abbrev GL := List Va → Sto → R Va
def CallS (G : Cf) (X : Cx) (f : Value) (g : GL) : Prop := ∀ (xs : List Va) (vs : List V) (S : Sto) (ρ : List Addr) (H : Hp) (Q : VK), Rel G ρ S H → Reps G ρ H vs xs → Out G (PV G) ρ H (g xs S) Q → CallW X f vs H Q
def mBi (g : GL) (fs : AF) : EF := fun env S => (fs env S).bind fun xs S1 => g xs S1
theorem se_bi {id : String} {g : GL} (hc : CallS G X (.builtin id) g) (hg : Gl X x) (hm : X.mg x = none) (hv : bootBuiltins x = some (.builtin id)) (ha : SA G X (e :: es) fs) (hn : x ≠ "__name__") (hdb : (x == ("__debug__" : Str)) = false)
    (hs : starEach (e :: es) X.env = (false, eval e X.env) :: starEach es X.env) (hpl : (backTo pos (starEach es X.env)).any (·.1) = false) : SE G X (.Call (.Name x p) (e :: es) [] pos) (mBi g fs) := by
  intro env S ρ σ H Q he hrl h
  refine PEw.by (pe_callB callw hg hm hv paw hn hdb hs hpl) (ha env S ρ σ H _ he hrl (Out.bind h fun xs S1 ρ1 H1 vs w1 e1 r1 p1 h1 => ?_))
  exact hc xs vs S1 ρ1 H1 Q r1 p1 h1
theorem se_ty {id : String} {g : GL} (hc : CallS G X (.type id) g) (hg : Gl X x) (hm : X.mg x = none) (hv : bootBuiltins x = some (.type id)) (ha : SA G X (e :: es) fs) (hn : x ≠ "__name__") (hdb : (x == ("__debug__" : Str)) = false)
    (hs : starEach (e :: es) X.env = (false, eval e X.env) :: starEach es X.env) (hpl : (backTo pos (starEach es X.env)).any (·.1) = false) : SE G X (.Call (.Name x p) (e :: es) [] pos) (mBi g fs) := by
  intro env S ρ σ H Q he hrl h
  refine PEw.by (pe_callTy callw hg hm hv paw hn hdb hs hpl) (ha env S ρ σ H _ he hrl (Out.bind h fun xs S1 ρ1 H1 vs w1 e1 r1 p1 h1 => ?_))
  exact hc xs vs S1 ρ1 H1 Q r1 p1 h1
/-- a list or a tuple: its items -/
def seqOf (x : Va) (S : Sto) : Option (List Va) := match x with
  | .tup xs => some xs
  | .fro xs => some xs
  | .ref n => match S.get n with
    | some (.lst xs) => some xs
    | _ => none
  | _ => none
theorem seq_rep {ρ : List Addr} {H : Hp} {S : Sto} {v : V} {x : Va} {xs : List Va} (hr : Rel G ρ S H) (p : Rep G ρ H v x) (h : seqOf x S = some xs) : ∃ q ys, v = .ref q ∧ (SqL G.K H q ys ∨ SqT G.K H q ys) ∧ Reps G ρ H ys xs := by
  cases p with
  | tup t r => cases h; exact ⟨_, _, rfl, .inr t, r⟩
  | fro t r => cases h; exact ⟨_, _, rfl, .inl t.sq, r⟩
  | ref hp =>
    rename_i n a
    have q' : (match S.get n with | some (.lst xs) => some xs | _ => none) = some xs := h
    cases g : S.get n with
    | none => rw [g] at q'; cases q'
    | some ob =>
      rw [g] at q'
      cases ob with
      | lst ys =>
        have e : ys = xs := Option.some.inj q'
        subst e
        obtain ⟨zs, f1, r1⟩ := hr.lst g hp
        exact ⟨_, _, rfl, .inl (SqL.of f1), r1⟩
      | _ => cases q'
  | _ => cases h
/-- a list (no tuple): its items -/
def lstOf (x : Va) (S : Sto) : Option (List Va) := match x with
  | .fro xs => some xs
  | .ref n => match S.get n with
    | some (.lst xs) => some xs
    | _ => none
  | _ => none
theorem lst_rep {ρ : List Addr} {H : Hp} {S : Sto} {v : V} {x : Va} {xs : List Va} (hr : Rel G ρ S H) (p : Rep G ρ H v x) (h : lstOf x S = some xs) : ∃ q ys, v = .ref q ∧ SqL G.K H q ys ∧ Reps G ρ H ys xs := by
  cases p with
  | fro t r => cases h; exact ⟨_, _, rfl, t.sq, r⟩
  | ref hp =>
    rename_i n a
    have q' : (match S.get n with | some (.lst xs) => some xs | _ => none) = some xs := h
    cases g : S.get n with
    | none => rw [g] at q'; cases q'
    | some ob =>
      rw [g] at q'
      cases ob with
      | lst ys =>
        have e : ys = xs := Option.some.inj q'
        subst e
        obtain ⟨zs, f1, r1⟩ := hr.lst g hp
        exact ⟨_, _, rfl, SqL.of f1, r1⟩
      | _ => cases q'
  | _ => cases h
def intsOf : List Va → Option (List Int)
  | [] => some []
  | .int i :: r => match intsOf r with
    | some is => some (i :: is)
    | none => none
  | _ :: _ => none
def blsOf : List Va → Option (List Bool)
  | [] => some []
  | .bl i :: r => match blsOf r with
    | some is => some (i :: is)
    | none => none
  | _ :: _ => none
theorem ints_rep {ρ : List Addr} {H : Hp} : ∀ {vs : List V} {xs : List Va} {is : List Int}, Reps G ρ H vs xs → intsOf xs = some is → vs = is.map V.int
  | _, _, _, .nil, h => by cases h; rfl
  | _, _, is, .cons (x := x) (xs := xs) p r, h => by
    cases p with
    | int i =>
      rw [intsOf] at h
      cases q : intsOf xs with
      | none => rw [q] at h; cases h
      | some js =>
        rw [q] at h
        cases h
        rw [ints_rep r q] <;> rfl
    | _ => cases h
theorem bls_rep {ρ : List Addr} {H : Hp} : ∀ {vs : List V} {xs : List Va} {is : List Bool}, Reps G ρ H vs xs → blsOf xs = some is → vs = is.map V.bl
  | _, _, _, .nil, h => by cases h; rfl
  | _, _, is, .cons (x := x) (xs := xs) p r, h => by
    cases p with
    | bl i =>
      rw [blsOf] at h
      cases q : blsOf xs with
      | none => rw [q] at h; cases h
      | some js =>
        rw [q] at h
        cases h
        rw [bls_rep r q] <;> rfl
    | _ => cases h
theorem reps1 {ρ : List Addr} {H : Hp} {vs : List V} {x : Va} (h : Reps G ρ H vs [x]) : ∃ v, vs = [v] ∧ Rep G ρ H v x := by
  obtain ⟨v, r, e, a, b⟩ := h.cons_inv
  rw [b.nil_inv] at e
  exact ⟨v, e, a⟩
theorem reps2 {ρ : List Addr} {H : Hp} {vs : List V} {x y : Va} (h : Reps G ρ H vs [x, y]) : ∃ v u, vs = [v, u] ∧ Rep G ρ H v x ∧ Rep G ρ H u y := by
  obtain ⟨v, r, e, a, b⟩ := h.cons_inv
  obtain ⟨u, e2, b2⟩ := reps1 b
  rw [e2] at e
  exact ⟨v, u, e, a, b2⟩
/-- a built-in of one argument: by cases on what it is -/
def g1 (g : Va → Sto → R Va) : GL := fun xs S => match xs with
  | [x] => g x S
  | _ => .bad
def g2 (g : Va → Va → Sto → R Va) : GL := fun xs S => match xs with
  | [x, y] => g x y S
  | _ => .bad
theorem calls1 {f : Value} {g : Va → Sto → R Va} (h : ∀ (x : Va) (v : V) (S : Sto) (ρ : List Addr) (H : Hp) (Q : VK), Rel G ρ S H → Rep G ρ H v x → Out G (PV G) ρ H (g x S) Q → CallW X f [v] H Q) : CallS G X f (g1 g) := by
  intro xs vs S ρ H Q hr rs q
  match xs, rs, q with
  | [], _, q => exact q.elim
  | [x], rs, q =>
    obtain ⟨v, e, p⟩ := reps1 rs
    subst e
    exact h x v S ρ H Q hr p q
  | _ :: _ :: _, _, q => exact q.elim
theorem calls2 {f : Value} {g : Va → Va → Sto → R Va} (h : ∀ (x y : Va) (v u : V) (S : Sto) (ρ : List Addr) (H : Hp) (Q : VK), Rel G ρ S H → Rep G ρ H v x → Rep G ρ H u y → Out G (PV G) ρ H (g x y S) Q → CallW X f [v, u] H Q) : CallS G X f (g2 g) := by
  intro xs vs S ρ H Q hr rs q
  match xs, rs, q with
  | [], _, q => exact q.elim
  | [_], _, q => exact q.elim
  | [x, y], rs, q =>
    obtain ⟨v, u, e, p, p2⟩ := reps2 rs
    subst e
    exact h x y v u S ρ H Q hr p p2 q
  | _ :: _ :: _ :: _, _, q => exact q.elim
def gLen : GL := g1 fun x S => match x with
  | .str y => match Nat.ble y.length 16777216 with
    | true => .ok (.int y.length) S
    | false => .bad
  | x => match seqOf x S with
    | some xs => .ok (.int xs.length) S
    | none => .bad
theorem calls_len (gx : GX G X) : CallS G X (.builtin "len") gLen := calls1 fun x v S ρ H Q hr p h => by
  have seq : ∀ xs, seqOf x S = some xs → Out G (PV G) ρ H (.ok (.int xs.length) S) Q → CallW X (.builtin "len") [v] H Q := fun xs q h => by
    obtain ⟨q1, ys, rfl, hs, r⟩ := seq_rep hr p q
    refine CallW.by call_len_seq ⟨q1, ys, rfl, by rw [gx.hK]; exact hs, ?_⟩
    rw [r.length]
    exact Out.ok h hr (.int _)
  have gen : (match seqOf x S with | some xs => R.ok (Va.int xs.length) S | none => .bad) ≠ R.bad → True := fun _ => trivial
  have fin : ∀ (h : Out G (PV G) ρ H (match seqOf x S with | some xs => R.ok (Va.int xs.length) S | none => .bad) Q), CallW X (.builtin "len") [v] H Q := fun h => by
    cases q : seqOf x S with
    | none => rw [q] at h; exact h.elim
    | some xs => rw [q] at h; exact seq xs q h
  cases p with
  | str y =>
    have h' : Out G (PV G) ρ H (match Nat.ble y.length 16777216 with | true => R.ok (Va.int y.length) S | false => .bad) Q := h
    cases qb : Nat.ble y.length 16777216 with
    | false => rw [qb] at h'; exact h'.elim
    | true =>
      rw [qb] at h'
      exact CallW.by call_len ⟨.str y, y.length, rfl, ⟨ble_line qb, rfl⟩, Out.ok h' hr (.int _)⟩
  | tup t r => exact fin h
  | fro t r => exact fin h
  | ref e => exact fin h
  | _ => exact h.elim
def gList : GL := g1 fun x S => match seqOf x S with
  | some xs => .ok (.ref S.n) (S.new (.lst xs))
  | none => .bad
theorem calls_list (gx : GX G X) : CallS G X (.type "list") gList := calls1 fun x v S ρ H Q hr p h => by
  cases q : seqOf x S with
  | none => rw [q] at h; exact h.elim
  | some xs =>
    rw [q] at h
    obtain ⟨q1, ys, rfl, hs, r⟩ := seq_rep hr p q
    exact CallW.by call_list_of ⟨q1, ys, rfl, by rw [gx.hK]; exact hs, fun l hl => Out.lst h hr r l hl⟩
def gTuple : GL := g1 fun x S => match seqOf x S with
  | some xs => .ok (.tup xs) S
  | none => .bad
theorem calls_tuple (gx : GX G X) : CallS G X (.type "tuple") gTuple := calls1 fun x v S ρ H Q hr p h => by
  cases q : seqOf x S with
  | none => rw [q] at h; exact h.elim
  | some xs =>
    rw [q] at h
    obtain ⟨q1, ys, rfl, hs, r⟩ := seq_rep hr p q
    refine CallW.by call_tuple_of ⟨q1, ys, rfl, ?_⟩
    rcases hs with hs | hs
    · exact .inl ⟨by rw [gx.hK]; exact hs, fun l hl => Out.tup h hr r l hl⟩
    · exact .inr ⟨by rw [gx.hK]; exact hs, Out.ok h hr (.tup hs r)⟩
def gSum : GL := g1 fun x S => match lstOf x S with
  | some xs => match intsOf xs with
    | some is => .ok (.int is.sum) S
    | none => .bad
  | none => .bad
theorem calls_sum (gx : GX G X) : CallS G X (.builtin "sum") gSum := calls1 fun x v S ρ H Q hr p h => by
  cases q : lstOf x S with
  | none => rw [q] at h; exact h.elim
  | some xs =>
    rw [q] at h
    have h' : Out G (PV G) ρ H (match intsOf xs with | some is => R.ok (Va.int is.sum) S | none => .bad) Q := h
    cases q2 : intsOf xs with
    | none => rw [q2] at h'; exact h'.elim
    | some is =>
      rw [q2] at h'
      obtain ⟨q1, ys, rfl, hs, r⟩ := lst_rep hr p q
      have e := ints_rep r q2
      subst e
      exact CallW.by (cr_sum gx.calm) ⟨q1, is, rfl, by rw [gx.hK]; exact hs, Out.ok h' hr (.int _)⟩
def gAll : GL := g1 fun x S => match lstOf x S with
  | some xs => match blsOf xs with
    | some bs => .ok (.bl (bs.all id)) S
    | none => .bad
  | none => .bad
def gAny : GL := g1 fun x S => match lstOf x S with
  | some xs => match blsOf xs with
    | some bs => .ok (.bl (bs.any id)) S
    | none => .bad
  | none => .bad
theorem calls_all (gx : GX G X) : CallS G X (.builtin "all") gAll := calls1 fun x v S ρ H Q hr p h => by
  cases q : lstOf x S with
  | none => rw [q] at h; exact h.elim
  | some xs =>
    rw [q] at h
    have h' : Out G (PV G) ρ H (match blsOf xs with | some bs => R.ok (Va.bl (bs.all id)) S | none => .bad) Q := h
    cases q2 : blsOf xs with
    | none => rw [q2] at h'; exact h'.elim
    | some is =>
      rw [q2] at h'
      obtain ⟨q1, ys, rfl, hs, r⟩ := lst_rep hr p q
      have e := bls_rep r q2
      subst e
      exact CallW.by (cr_all gx.calm) ⟨q1, is, rfl, by rw [gx.hK]; exact hs, Out.ok h' hr (.bl _)⟩
theorem calls_any (gx : GX G X) : CallS G X (.builtin "any") gAny := calls1 fun x v S ρ H Q hr p h => by
  cases q : lstOf x S with
  | none => rw [q] at h; exact h.elim
  | some xs =>
    rw [q] at h
    have h' : Out G (PV G) ρ H (match blsOf xs with | some bs => R.ok (Va.bl (bs.any id)) S | none => .bad) Q := h
    cases q2 : blsOf xs with
    | none => rw [q2] at h'; exact h'.elim
    | some is =>
      rw [q2] at h'
      obtain ⟨q1, ys, rfl, hs, r⟩ := lst_rep hr p q
      have e := bls_rep r q2
      subst e
      exact CallW.by (cr_any gx.calm) ⟨q1, is, rfl, by rw [gx.hK]; exact hs, Out.ok h' hr (.bl _)⟩
def gMax2 : GL := g2 fun x y S => match x, y with
  | .int i, .int j => .ok (.int (if j > i then j else i)) S
  | _, _ => .bad
def gMin2 : GL := g2 fun x y S => match x, y with
  | .int i, .int j => .ok (.int (if j < i then j else i)) S
  | _, _ => .bad
theorem calls_max2 (gx : GX G X) : CallS G X (.builtin "max") gMax2 := calls2 fun x y v u S ρ H Q hr p p2 h => by
  cases p with
  | int i => cases p2 with
    | int j => exact CallW.by (call_max2 gx.calm) ⟨i, j, rfl, Out.ok h hr (.int _)⟩
    | _ => exact h.elim
  | _ => exact h.elim
theorem calls_min2 (gx : GX G X) : CallS G X (.builtin "min") gMin2 := calls2 fun x y v u S ρ H Q hr p p2 h => by
  cases p with
  | int i => cases p2 with
    | int j => exact CallW.by (call_min2 gx.calm) ⟨i, j, rfl, Out.ok h hr (.int _)⟩
    | _ => exact h.elim
  | _ => exact h.elim
def gInt : GL := g1 fun x S => match x with
  | .int i => .ok (.int i) S
  | .bl b => .ok (.int (if b then 1 else 0)) S
  | _ => .bad
theorem calls_int : CallS G X (.type "int") gInt := calls1 fun x v S ρ H Q hr p h => by
  cases p with
  | int i => exact CallW.by call_int1 (.inl ⟨i, rfl, Out.ok h hr (.int _)⟩)
  | bl b => exact CallW.by call_int1 (.inr ⟨b, rfl, Out.ok h hr (.int _)⟩)
  | _ => exact h.elim
/-! ### isinstance of a built-in class -/
def tyN (x : Va) (S : Sto) : Option String := match x with
  | .non => some "NoneType"
  | .bl _ => some "bool"
  | .int _ => some "int"
  | .str _ => some "str"
  | .tup _ => some "tuple"
  | .fro _ => some "list"
  | .ref n => match S.get n with
    | some (.lst _) => some "list"
    | some (.dic _) => some "dict"
    | _ => none
theorem tyN_rep {ρ : List Addr} {H : Hp} {S : Sto} {v : V} {x : Va} {t : String} (hr : Rel G ρ S H) (p : Rep G ρ H v x) (h : tyN x S = some t) : TyX G.K H v (.type t) := by
  cases p with
  | non => cases h; exact .base .non
  | bl b => cases h; exact .base (.bl b)
  | int i => cases h; exact .base (.int i)
  | str i => cases h; exact .base (.str i)
  | tup q r =>
    cases h
    rcases q with (q | ⟨o, q⟩) | ⟨o, its, n, k, c, _⟩
    · exact .base (.tup q)
    · exact .fTuple q
    · exact .kTuple k c
  | fro q r =>
    cases h
    rcases q with ⟨o, q⟩ | ⟨o, its, n, k, c, _⟩
    · exact .base (.frz q)
    · exact .kList k c
  | ref hp =>
    rename_i n a
    have q' : (match S.get n with | some (.lst _) => some "list" | some (.dic _) => some "dict" | _ => none) = some t := h
    cases g : S.get n with
    | none => rw [g] at q'; cases q'
    | some ob =>
      rw [g] at q'
      cases ob with
      | lst ys =>
        cases q'
        obtain ⟨zs, f1, r1⟩ := hr.lst g hp
        exact .base (.lst f1)
      | dic ys =>
        cases q'
        obtain ⟨zs, f1, r1⟩ := hr.dic g hp
        exact .base (.dK f1)
      | ins c fs => cases q'
      | frd kvs => cases q'
/-- by the six kinds -/
structure IsT where
  n : Bool
  b : Bool
  i : Bool
  s : Bool
  t : Bool
  l : Bool
  d : Bool
def isTy (q : IsT) (x : Va) (S : Sto) : Option Bool := match x with
  | .non => some q.n
  | .bl _ => some q.b
  | .int _ => some q.i
  | .str _ => some q.s
  | .tup _ => some q.t
  | .fro _ => some q.l
  | .ref n => match S.get n with
    | some (.lst _) => some q.l
    | some (.dic _) => some q.d
    | _ => none
def IsT.ok (q : IsT) (T : String) : Prop := kitB "NoneType" T = some q.n ∧ kitB "bool" T = some q.b ∧ kitB "int" T = some q.i ∧ kitB "str" T = some q.s ∧ kitB "tuple" T = some q.t ∧ kitB "list" T = some q.l ∧ kitB "dict" T = some q.d
theorem isTy_ok {q : IsT} {T : String} (ok : q.ok T) {x : Va} {S : Sto} {b : Bool} (h : isTy q x S = some b) : ∃ t, tyN x S = some t ∧ kitB t T = some b := by
  obtain ⟨k1, k2, k3, k4, k5, k6, k7⟩ := ok
  cases x with
  | non => cases h; exact ⟨_, rfl, k1⟩
  | bl _ => cases h; exact ⟨_, rfl, k2⟩
  | int _ => cases h; exact ⟨_, rfl, k3⟩
  | str _ => cases h; exact ⟨_, rfl, k4⟩
  | tup _ => cases h; exact ⟨_, rfl, k5⟩
  | fro _ => cases h; exact ⟨_, rfl, k6⟩
  | ref n =>
    have q' : (match S.get n with | some (.lst _) => some q.l | some (.dic _) => some q.d | _ => none) = some b := h
    show ∃ t, (match S.get n with | some (.lst _) => some "list" | some (.dic _) => some "dict" | _ => none) = some t ∧ kitB t T = some b
    cases g : S.get n with
    | none => rw [g] at q'; cases q'
    | some ob =>
      rw [g] at q'
      cases ob with
      | lst ys => cases q'; exact ⟨_, rfl, k6⟩
      | dic ys => cases q'; exact ⟨_, rfl, k7⟩
      | ins c fs => cases q'
      | frd kvs => cases q'
def mIsi (q : IsT) (f : EF) : EF := fun env S => (f env S).bind fun x S1 => match isTy q x S1 with
  | some b => .ok (.bl b) S1
  | none => .bad
theorem se_isi {q : IsT} {tx : Str} {n : String} {p2 : Pos} (gx : GX G X) (ok : q.ok n) (hg : Gl X "isinstance") (hm : X.mg "isinstance" = none) (hg2 : Gl X tx) (hm2 : X.mg tx = none) (hv2 : bootBuiltins tx = some (.type n)) (hn2 : tx ≠ "__name__") (hd2 : (tx == ("__debug__" : Str)) = false) (ha : SE G X e fa)
    (hs : starEach [e, .Name tx p2] X.env = (false, eval e X.env) :: starEach [.Name tx p2] X.env) (hs2 : starEach [.Name tx p2] X.env = [(false, eval (.Name tx p2) X.env)]) (hpl : (backTo pos (starEach [.Name tx p2] X.env)).any (·.1) = false) :
    SE G X (.Call (.Name "isinstance" p) [e, .Name tx p2] [] pos) (mIsi q fa) := by
  intro env S ρ σ H Q he hrl h
  refine PEw.by (pe_callB call_isi hg hm (by decide +kernel) (pa_cons pew (pa_cons (pe_bltn (v := .ty n) hg2 hm2 hv2 rfl hn2 hd2) pa_nil (by rw [hs2] <;> rfl)) hs) (by decide) (by decide) hs hpl) (ha env S ρ σ H _ he hrl (Out.bind h fun x S1 ρ1 H1 v w1 e1 r1 p1 h1 => ?_))
  cases qq : isTy q x S1 with
  | none => rw [qq] at h1; exact h1.elim
  | some b =>
    rw [qq] at h1
    obtain ⟨t, h2, h3⟩ := isTy_ok ok qq
    exact ⟨v, .ty n, .type t, .type n, b, rfl, .ty n, by rw [gx.hK]; exact tyN_rep r1 p1 h2, by rw [gx.hK]; exact kit_ty h3, Out.ok h1 r1 (.bl b)⟩
def isTInt : IsT := ⟨false, true, true, false, false, false, false⟩
def isTBool : IsT := ⟨false, true, false, false, false, false, false⟩
def isTStr : IsT := ⟨false, false, false, true, false, false, false⟩
def isTTuple : IsT := ⟨false, false, false, false, true, false, false⟩
def isTList : IsT := ⟨false, false, false, false, false, true, false⟩
theorem isTInt_ok : isTInt.ok "int" := ⟨by decide +kernel, by decide +kernel, by decide +kernel, by decide +kernel, by decide +kernel, by decide +kernel, by decide +kernel⟩
theorem isTBool_ok : isTBool.ok "bool" := ⟨by decide +kernel, by decide +kernel, by decide +kernel, by decide +kernel, by decide +kernel, by decide +kernel, by decide +kernel⟩
theorem isTStr_ok : isTStr.ok "str" := ⟨by decide +kernel, by decide +kernel, by decide +kernel, by decide +kernel, by decide +kernel, by decide +kernel, by decide +kernel⟩
theorem isTTuple_ok : isTTuple.ok "tuple" := ⟨by decide +kernel, by decide +kernel, by decide +kernel, by decide +kernel, by decide +kernel, by decide +kernel, by decide +kernel⟩
theorem isTList_ok : isTList.ok "list" := ⟨by decide +kernel, by decide +kernel, by decide +kernel, by decide +kernel, by decide +kernel, by decide +kernel, by decide +kernel⟩
end
end Mi
/-! Statements, targets, loops, list comprehensions. -/
namespace Mi
open PySem PySem.Spec PyProof.Rows L2

inductive Fl where
  | nx (env : Ev) | bk (env : Ev) | ct (env : Ev) | rt (v : Va)
abbrev SF := Ev → Sto → R Fl
def OutS (G : Cf) (ρ : List Addr) (H : Hp) (r : R Fl) (D : Ends) : Prop := match r with
  | .ok (.nx env) S => ∀ ρ' H' σ', Ext G ρ H ρ' H' → Rel G ρ' S H' → RepE G ρ' H' σ' env → D.nx σ' H'
  | .ok (.bk env) S => ∀ ρ' H' σ', Ext G ρ H ρ' H' → Rel G ρ' S H' → RepE G ρ' H' σ' env → D.bk σ' H'
  | .ok (.ct env) S => ∀ ρ' H' σ', Ext G ρ H ρ' H' → Rel G ρ' S H' → RepE G ρ' H' σ' env → D.ct σ' H'
  | .ok (.rt v) S => ∀ ρ' H' u, Ext G ρ H ρ' H' → Rel G ρ' S H' → Rep G ρ' H' u v → D.rt u H'
  | .bad => False
theorem OutS.mono {G : Cf} {ρ ρ1 : List Addr} {H H1 : Hp} {r : R Fl} {D : Ends} (e : Ext G ρ H ρ1 H1) (h : OutS G ρ H r D) : OutS G ρ1 H1 r D := by
  cases r with
  | bad => exact h
  | ok f S => cases f with
    | rt v => exact fun ρ' H' u e' => h ρ' H' u (e.trans e')
    | nx env => exact fun ρ' H' u e' => h ρ' H' u (e.trans e')
    | bk env => exact fun ρ' H' u e' => h ρ' H' u (e.trans e')
    | ct env => exact fun ρ' H' u e' => h ρ' H' u (e.trans e')
theorem OutS.bind {α β : Type} {G : Cf} {P : List Addr → Hp → β → α → Prop} {ρ : List Addr} {H : Hp} {r : R α} {k : α → Sto → R Fl} {D : Ends} {Q : β → Hp → Prop} (h : OutS G ρ H (r.bind k) D)
    (c : ∀ (a : α) (S' : Sto) (ρ' : List Addr) (H' : Hp) (b : β), r = .ok a S' → Ext G ρ H ρ' H' → Rel G ρ' S' H' → P ρ' H' b a → OutS G ρ' H' (k a S') D → Q b H') : Out G P ρ H r Q := by
  cases r with
  | bad => exact h.elim
  | ok a S => exact fun ρ' H' b e rel p => c a S ρ' H' b rfl e rel p (OutS.mono e h)

def PSw (X : Cx) (st : Stmt) : TS := fun D σ H => ∀ pins s, Inv X pins σ H s → wpAny (model X.prog X.w) X.A (exec st X.env) (SP X pins D) X.xe s
def PSsw (X : Cx) (st : List Stmt) : TS := fun D σ H => ∀ pins s, Inv X pins σ H s → wpAny (model X.prog X.w) X.A (execs st X.env) (SP X pins D) X.xe s
theorem psw {X : Cx} {e : Stmt} : PS X e (PSw X e) := ⟨fun pins s _ _ _ I h => h pins s I⟩
theorem pssw {X : Cx} {e : List Stmt} : PSs X e (PSsw X e) := ⟨fun pins s _ _ _ I h => h pins s I⟩
theorem PSw.by {X : Cx} {e : Stmt} {t : TS} {σ : L2.St} {H : Hp} {D : Ends} (h : PS X e t) (q : t D σ H) : PSw X e D σ H := fun pins s I => h.run pins s σ H D I q
theorem PSsw.by {X : Cx} {e : List Stmt} {t : TS} {σ : L2.St} {H : Hp} {D : Ends} (h : PSs X e t) (q : t D σ H) : PSsw X e D σ H := fun pins s I => h.run pins s σ H D I q
def SS (G : Cf) (X : Cx) (st : Stmt) (f : SF) : Prop := ∀ (env : Ev) (S : Sto) (ρ : List Addr) (σ : L2.St) (H : Hp) (D : Ends), RepE G ρ H σ env → Rel G ρ S H → OutS G ρ H (f env S) D → PSw X st D σ H
def SSs (G : Cf) (X : Cx) (st : List Stmt) (f : SF) : Prop := ∀ (env : Ev) (S : Sto) (ρ : List Addr) (σ : L2.St) (H : Hp) (D : Ends), RepE G ρ H σ env → Rel G ρ S H → OutS G ρ H (f env S) D → PSsw X st D σ H

section
variable {G : Cf} {X : Cx} {a b c e o : Expr} {es : List Expr} {st : Stmt} {rest body orelse : List Stmt} {fa fb fc fo : EF} {fs : AF} {f g : SF} {pos : Pos}
def mEnd : SF := fun env S => .ok (.nx env) S
def mSeq (f g : SF) : SF := fun env S => match f env S with
  | .ok (.nx env') S' => g env' S'
  | r => r
theorem ss_nil : SSs G X [] mEnd := fun env S ρ σ H D he hr h => PSsw.by pss_nil (h ρ H σ Ext.refl hr he)
theorem ss_cons (h1 : SS G X st f) (h2 : SSs G X rest g) : SSs G X (st :: rest) (mSeq f g) := by
  intro env S ρ σ H D he hr h
  refine PSsw.by (pss_cons psw pssw) (h1 env S ρ σ H _ he hr ?_)
  unfold mSeq at h
  cases q : f env S with
  | bad => rw [q] at h; exact h.elim
  | ok fl S1 =>
    rw [q] at h
    cases fl with
    | nx env1 => exact fun ρ1 H1 σ1 e1 r1 he1 => h2 env1 S1 ρ1 σ1 H1 D he1 r1 (OutS.mono e1 h)
    | bk env1 => exact h
    | ct env1 => exact h
    | rt v => exact h
theorem ss_one (h1 : SS G X st f) : SSs G X [st] f := fun env S ρ σ H D he hr h => PSsw.by (pss_one psw) (h1 env S ρ σ H D he hr h)
def mBreak : SF := fun env S => .ok (.bk env) S
def mCont : SF := fun env S => .ok (.ct env) S
def mNever : SF := fun _ _ => .bad
theorem ss_pass : SS G X (.Pass pos) mEnd := fun env S ρ σ H D he hr h => PSw.by ps_pass (h ρ H σ Ext.refl hr he)
theorem ss_break : SS G X (.Break pos) mBreak := fun env S ρ σ H D he hr h => PSw.by ps_break (h ρ H σ Ext.refl hr he)
theorem ss_cont : SS G X (.Continue pos) mCont := fun env S ρ σ H D he hr h => PSw.by ps_continue (h ρ H σ Ext.refl hr he)
theorem ss_never : SS G X st mNever := fun env S ρ σ H D he hr h => h.elim
def mExpr (a : EF) : SF := fun env S => (a env S).bind fun _ S1 => .ok (.nx env) S1
theorem ss_expr (ha : SE G X a fa) (hs : swapsWith a none pos.line X.env = pure false) : SS G X (.Expr a pos) (mExpr fa) := by
  intro env S ρ σ H D he hr h
  refine PSw.by (ps_expr pew hs) (ha env S ρ σ H _ he hr (OutS.bind h fun x S1 ρ1 H1 v w1 e1 r1 p1 h1 => ?_))
  exact h1 ρ1 H1 σ Ext.refl r1 (he.mono e1)
def mRet (a : EF) : SF := fun env S => (a env S).bind fun x S1 => .ok (.rt x) S1
theorem ss_ret (ha : SE G X a fa) : SS G X (.Return (some a) pos) (mRet fa) := by
  intro env S ρ σ H D he hr h
  refine PSw.by (ps_ret pew) (ha env S ρ σ H _ he hr (OutS.bind h fun x S1 ρ1 H1 v w1 e1 r1 p1 h1 => ?_))
  exact h1 ρ1 H1 v Ext.refl r1 p1
def mRetN : SF := fun _ S => .ok (.rt .non) S
theorem ss_retN : SS G X (.Return none pos) mRetN := fun env S ρ σ H D he hr h => PSw.by ps_retN (h ρ H .non Ext.refl hr .non)
def mIfS (t : BF) (f g : SF) : SF := fun env S => (t env S).bind fun k S1 => match k with
  | true => f env S1
  | false => g env S1
theorem ss_if {t : BF} (hc : ST G X c t) (ha : SSs G X body f) (hb : SSs G X orelse g) : SS G X (.If c body orelse pos) (mIfS t f g) := by
  intro env S ρ σ H D he hr h
  refine PSw.by (ps_if ptw pssw pssw) (hc env S ρ σ H _ he hr (OutS.bind h fun x S1 ρ1 H1 v w1 e1 r1 p1 h1 => ?_))
  subst p1
  cases v with
  | true => exact ha env S1 ρ1 σ H1 D (he.mono e1) r1 h1
  | false => exact hb env S1 ρ1 σ H1 D (he.mono e1) r1 h1

/-! ### targets -/
abbrev TF := Va → Ev → Sto → Option Ev
/-- a target of names: what is stored, at the slots ids alone -/
def PGw (X : Cx) (tg : Expr) : TG := fun v σ H Q => ∀ pins s u, Inv X pins σ H s → RelV v u → wpAny (model X.prog X.w) X.A (assign tg X.env u) (fun _ s' => ∃ σ' H', Inv X pins σ' H' s' ∧ Q σ' H') X.xe s
def PGsw (X : Cx) (tg : List Expr) : TGs := fun vs σ H Q => ∀ pins s us, Inv X pins σ H s → Vals vs us → wpAny (model X.prog X.w) X.A (assignInOrder ((assignEach tg X.env).map (·.2)) us) (fun _ s' => ∃ σ' H', Inv X pins σ' H' s' ∧ Q σ' H') X.xe s
theorem pgw {X : Cx} {tg : Expr} : PG X tg (PGw X tg) := ⟨fun pins s _ _ _ u _ I r h => h pins s u I r⟩
theorem pgsw {X : Cx} {tg : List Expr} : PGs X tg (PGsw X tg) := ⟨fun pins s _ _ _ us _ I r h => h pins s us I r⟩
theorem PGw.by {X : Cx} {tg : Expr} {t : TG} {v : V} {σ : L2.St} {H : Hp} {Q : L2.St → Hp → Prop} (h : PG X tg t) (q : t v σ H Q) : PGw X tg v σ H Q := fun pins s u I r => h.run pins s σ H v u Q I r q
theorem PGsw.by {X : Cx} {tg : List Expr} {t : TGs} {v : List V} {σ : L2.St} {H : Hp} {Q : L2.St → Hp → Prop} (h : PGs X tg t) (q : t v σ H Q) : PGsw X tg v σ H Q := fun pins s u I r => h.run pins s σ H v u Q I r q
structure Kept (ids : List Nat) (σ σ' : L2.St) : Prop where
  len : σ'.length = σ.length
  same : ∀ j, j ∉ ids → σ'[j]? = σ[j]?
def SG (G : Cf) (X : Cx) (tg : Expr) (t : TF) (ids : List Nat) : Prop := ∀ (x : Va) (v : V) (env env' : Ev) (S : Sto) (ρ : List Addr) (σ : L2.St) (H : Hp) (Q : L2.St → Hp → Prop), RepE G ρ H σ env → Rel G ρ S H → Rep G ρ H v x → t x env S = some env' →
  (∀ σ', RepE G ρ H σ' env' → Kept ids σ σ' → Q σ' H) → PGw X tg v σ H Q
abbrev TFs := List Va → Ev → Sto → Option Ev
def SGs (G : Cf) (X : Cx) (tg : List Expr) (t : TFs) (ids : List Nat) : Prop := ∀ (x : List Va) (v : List V) (env env' : Ev) (S : Sto) (ρ : List Addr) (σ : L2.St) (H : Hp) (Q : L2.St → Hp → Prop), RepE G ρ H σ env → Rel G ρ S H → Reps G ρ H v x → t x env S = some env' →
  (∀ σ', RepE G ρ H σ' env' → Kept ids σ σ' → Q σ' H) → PGsw X tg v σ H Q
def tNm (i : Nat) : TF := fun v env _ => some (env.set i (some v))
theorem sg_name {i : Nat} {x : Str} (gx : GX G X) (hi : X.N[i]? = some x) (hx : Loc X.env.scope x) (hf : X.fn x = true ∨ X.env.scope.names.lookup x = some .local) : SG G X (.Name x pos) (tNm i) [i] := by
  intro x v env env' S ρ σ H Q he hr p h q
  cases h
  refine PGw.by (pg_name gx.nd hi hx hf) (q _ (he.set p i) ⟨List.length_set, fun j hj => ?_⟩)
  rw [List.getElem?_set_ne (fun z => hj (by rw [z]; exact List.mem_singleton.mpr rfl))]
def tsNil : TFs := fun vs env _ => match vs with
  | [] => some env
  | _ => none
def tsCons (t : TF) (u : TFs) : TFs := fun vs env S => match vs with
  | [] => none
  | v :: r => match t v env S with
    | some env1 => u r env1 S
    | none => none
theorem sgs_nil : SGs G X [] tsNil [] := by
  intro x v env env' S ρ σ H Q he hr p h q
  cases x with
  | nil =>
    cases h
    exact PGsw.by pgs_nil ⟨p.nil_inv, q σ he ⟨rfl, fun _ _ => rfl⟩⟩
  | cons _ _ => cases h
theorem sgs_cons {t : TF} {u : TFs} {i1 i2 : List Nat} (h1 : SG G X e t i1) (h2 : SGs G X es u i2) (hs : (assignEach (e :: es) X.env).map (·.2) = assign e X.env :: (assignEach es X.env).map (·.2)) : SGs G X (e :: es) (tsCons t u) (i1 ++ i2) := by
  intro x v env env' S ρ σ H Q he hr p h q
  cases x with
  | nil => cases h
  | cons y ys =>
    obtain ⟨w, r, ev, pw, pr⟩ := p.cons_inv
    have h' : (match t y env S with | some env1 => u ys env1 S | none => none) = some env' := h
    cases q1 : t y env S with
    | none => rw [q1] at h'; cases h'
    | some env1 =>
      rw [q1] at h'
      refine PGsw.by (pgs_cons pgw pgsw hs) ⟨w, r, ev, h1 y w env env1 S ρ σ H _ he hr pw q1 fun σ1 he1 k1 => ?_⟩
      refine h2 ys r env1 env' S ρ σ1 H Q he1 hr pr h' fun σ2 he2 k2 => q σ2 he2 ⟨k2.len.trans k1.len, fun j hj => ?_⟩
      rw [k2.same j fun z => hj (List.mem_append_right _ z), k1.same j fun z => hj (List.mem_append_left _ z)]
def tTp (n : Nat) (u : TFs) : TF := fun v env S => match v with
  | .tup xs => match Nat.beq xs.length n with
    | true => u xs env S
    | false => none
  | _ => none
theorem sg_tup {k n : Nat} {u : TFs} {ids : List Nat} (gx : GX G X) (h1 : SGs G X es u ids) (hn : (assignEach es X.env).length = n) (hst : (assignEach es X.env).findIdx? (·.1) = none) : SG G X (.Tuple es k pos) (tTp n u) ids := by
  intro x v env env' S ρ σ H Q he hr p h q
  cases p with
  | tup t r =>
    rename_i pp ys xs
    have h' : (match Nat.beq xs.length n with | true => u xs env S | false => none) = some env' := h
    cases qb : Nat.beq xs.length n with
    | false => rw [qb] at h'; cases h'
    | true =>
      rw [qb] at h'
      exact PGw.by (pg_tup gx.calm pgsw hn hst) ⟨_, _, rfl, by rw [gx.hK]; exact t, by rw [r.length]; exact Nat.eq_of_beq_eq_true qb, h1 xs ys env env' S ρ σ H Q he hr r h' q⟩
  | _ => cases h

/-! ### assignments -/
def mSet (t : TF) (a : EF) : SF := fun env S => (a env S).bind fun x S1 => match t x env S1 with
  | some env' => .ok (.nx env') S1
  | none => .bad
theorem ss_asg {tg : Expr} {t : TF} {ids : List Nat} (ha : SE G X a fa) (hg : SG G X tg t ids) (hs : swapsWithSole [tg] a pos.line X.env = pure false) (hw : swappedStores [tg] a X.env = pure none) (h1 : (assignEach [tg] X.env).map (·.2) = [assign tg X.env]) :
    SS G X (.Assign [tg] a pos) (mSet t fa) := by
  intro env S ρ σ H D he hr h
  refine PSw.by (ps_asg pew pgw hs hw h1) (ha env S ρ σ H _ he hr (OutS.bind h fun x S1 ρ1 H1 v w1 e1 r1 p1 h1 => ?_))
  cases q : t x env S1 with
  | none => rw [q] at h1; exact h1.elim
  | some env' =>
    rw [q] at h1
    exact hg x v env env' S1 ρ1 σ H1 _ (he.mono e1) r1 p1 q fun σ' he' _ => h1 ρ1 H1 σ' Ext.refl r1 he'
theorem ss_set {i : Nat} {x : Str} {pos' : Pos} (gx : GX G X) (hi : X.N[i]? = some x) (hx : Loc X.env.scope x) (ha : SE G X a fa) (hs : swapsWith a (some (.Name x pos')) pos.line X.env = pure false) (hf : X.fn x = true ∨ X.env.scope.names.lookup x = some .local) :
    SS G X (.Assign [.Name x pos'] a pos) (mSet (tNm i) fa) := by
  intro env S ρ σ H D he hr h
  refine PSw.by (ps_set gx.nd hi hx pew hs hf) (ha env S ρ σ H _ he hr (OutS.bind h fun x S1 ρ1 H1 v w1 e1 r1 p1 h1 => ?_))
  exact h1 ρ1 H1 _ Ext.refl r1 ((he.mono e1).set p1 i)
/-- a, b = x, y -/
def mPar (i j : Nat) (f : AF) : SF := fun env S => (f env S).bind fun xs S1 => match xs with
  | [v, w] => .ok (.nx ((env.set i (some v)).set j (some w))) S1
  | _ => .bad
theorem ss_par {i j : Nat} {x y : Str} {px py pt : Pos} {kt k2 : Nat} {pt2 : Pos} (gx : GX G X) (hi : X.N[i]? = some x) (hj : X.N[j]? = some y) (hij : i ≠ j) (hx : X.env.scope.names.lookup x = some .local) (hy : X.env.scope.names.lookup y = some .local) (ha : SA G X [a, b] fs)
    (hw : swappedStores [.Tuple [.Name x px, .Name y py] kt pt] (.Tuple [a, b] k2 pt2) X.env = pure (some [x, y])) (hs : swapsWithSole [.Tuple [.Name x px, .Name y py] kt pt] (.Tuple [a, b] k2 pt2) pos.line X.env = pure false) :
    SS G X (.Assign [.Tuple [.Name x px, .Name y py] kt pt] (.Tuple [a, b] k2 pt2) pos) (mPar i j fs) := by
  intro env S ρ σ H D he hr h
  refine PSw.by (ps_par gx.calm gx.nd hi hj hij hx hy paw hw hs) (ha env S ρ σ H _ he hr (OutS.bind h fun xs S1 ρ1 H1 vs w1 e1 r1 p1 h1 => ?_))
  match xs, p1, h1 with
  | [], _, h1 => exact h1.elim
  | [_], _, h1 => exact h1.elim
  | [v, w], p1, h1 =>
    obtain ⟨u1, u2, e, q1, q2⟩ := reps2 p1
    exact ⟨u1, u2, e, h1 ρ1 H1 _ Ext.refl r1 (((he.mono e1).set q1 i).set q2 j)⟩
  | _ :: _ :: _ :: _, _, h1 => exact h1.elim
/-- o[i] = e: a list, a dict -/
def gSetIx (o i v : Va) (S : Sto) : Option Sto := match o with
  | .ref n => match S.get n with
    | some (.lst xs) => match i with
      | .int k => match ixN xs.length k with
        | some j => some (S.set n (.lst (xs.set j v)))
        | none => none
      | _ => none
    | some (.dic kvs) => match keyOf i with
      | some k => match Nat.blt kvs.length 1000000 with
        | true => some (S.set n (.dic (dPut kvs k v)))
        | false => none
      | none => none
    | _ => none
  | _ => none
def mSetIx (o i a : EF) : SF := fun env S => (a env S).bind fun v S1 => (o env S1).bind fun x S2 => (i env S2).bind fun y S3 => match gSetIx x y v S3 with
  | some S4 => .ok (.nx env) S4
  | none => .bad
def PSetW (X : Cx) : TSet := fun o i v H Q => ∀ pins s σ ov iv u, Inv X pins σ H s → RelV o ov → RelV i iv → RelV v u → wpAny (model X.prog X.w) X.A (setItem ov iv u) (fun _ s' => ∃ H', Inv X pins σ H' s' ∧ Q H') X.xe s
theorem psetw : PSet X (PSetW X) := fun pins s σ H o i v ov iv u Q I r1 r2 r3 h => h pins s σ ov iv u I r1 r2 r3
theorem PSetW.by {t : TSet} (h : PSet X t) {o i v : V} {H : Hp} {Q : Hp → Prop} (q : t o i v H Q) : PSetW X o i v H Q := fun pins s σ ov iv u I r1 r2 r3 => h pins s σ H o i v ov iv u Q I r1 r2 r3 q

/-- a written object: what follows -/
theorem Out.put {ρ : List Addr} {H : Hp} {S : Sto} {n : Nat} {p : Addr} {ob : Ob} {ho : HO} {x : Va} {v : V} {Q : VK} (h : Out G (PV G) ρ H (.ok x (S.set n ob)) Q) (hr : Rel G ρ S H) (hp : ρ[n]? = some p) (hz : ∃ w, H p = some w ∧ Wr w) (ro : ∀ e : Ext G ρ H ρ (upd H p ho), RepO G ρ (upd H p ho) p ob) (rv : Rep G ρ H v x) : Q v (upd H p ho) := by
  obtain ⟨r1, e1⟩ := hr.put hp hz ro
  exact h ρ _ v e1 r1 (rv.mono e1)
theorem ss_setIx (gx : GX G X) (ho : SE G X o fo) (hb : SE G X b fb) (ha : SE G X a fa)
    (hps : ∀ {te : TE} {g : TG}, PE X a te → PG X (.Subscript o b pos) g → PS X st (tAsg te g)) (hpg : ∀ {to ti : TE} {t : TSet}, PE X o to → PE X b ti → PSet X t → PG X (.Subscript o b pos) (L2.gSub to ti t)) : SS G X st (mSetIx fo fb fa) := by
  intro env S ρ σ H D he hr h
  refine PSw.by (hps pew (hpg pew pew psetw)) (ha env S ρ σ H _ he hr (OutS.bind h fun x S1 ρ1 H1 v w1 e1 r1 p1 h1 => ?_))
  refine ho env S1 ρ1 σ H1 _ (he.mono e1) r1 (OutS.bind h1 fun y S2 ρ2 H2 u w2 e2 r2 p2 h2 => ?_)
  refine hb env S2 ρ2 σ H2 _ (he.mono (e1.trans e2)) r2 (OutS.bind h2 fun z S3 ρ3 H3 t w3 e3 r3 p3 h3 => ?_)
  cases q : gSetIx y z x S3 with
  | none => rw [q] at h3; exact h3.elim
  | some S4 =>
    rw [q] at h3
    cases (p2.mono e3) with
    | ref hp =>
      rename_i n p
      unfold gSetIx at q
      dsimp only at q
      cases g : S3.get n with
      | none => rw [g] at q; cases q
      | some ob =>
        rw [g] at q
        have rv := p1.mono (e2.trans e3)
        cases ob with
        | lst xs =>
          obtain ⟨ys, f1, r1'⟩ := r3.lst g hp
          cases p3 with
          | int k =>
            have q' : (match ixN xs.length k with | some j => some (S3.set n (.lst (xs.set j x))) | none => none) = some S4 := q
            cases qj : ixN xs.length k with
            | none => rw [qj] at q'; cases q'
            | some j =>
              rw [qj] at q'
              cases q'
              refine PSetW.by set_list ⟨p, ys, k, j, rfl, rfl, f1, by rw [r1'.length]; exact qj, ?_⟩
              obtain ⟨r4, e4⟩ := r3.put (o := .lst (xs.set j x)) (u := .lst (ys.set j v)) hp ⟨_, f1, trivial⟩ fun e => ⟨_, upd_same, (r1'.set j rv).mono e⟩
              exact h3 ρ3 _ σ e4 r4 (he.mono (((e1.trans e2).trans e3).trans e4))
          | _ => cases q
        | dic kvs =>
          obtain ⟨ks, f1, r1'⟩ := r3.dic g hp
          have q' : (match keyOf z with | some k => (match Nat.blt kvs.length 1000000 with | true => some (S3.set n (.dic (dPut kvs k x))) | false => none) | none => none) = some S4 := q
          cases qk : keyOf z with
          | none => rw [qk] at q'; cases q'
          | some k =>
            rw [qk] at q'
            have q2 : (match Nat.blt kvs.length 1000000 with | true => some (S3.set n (.dic (dPut kvs k x))) | false => none) = some S4 := q'
            cases qb : Nat.blt kvs.length 1000000 with
            | false => rw [qb] at q2; cases q2
            | true =>
              rw [qb] at q2
              cases q2
              have hlt : ks.length < sizeLine := by
                rw [r1'.length]
                exact Nat.lt_of_lt_of_le (Nat.le_of_ble_eq_true qb) (by rw [sizeLine_eq]; decide)
              refine PSetW.by (set_dict (by have := gx.hu; omega)) ⟨p, upd H3 p (.dK (putK ks k v)), rfl, ?_, ?_⟩
              · rw [keyOf_rep p3 qk]
                exact DPut.k f1 hlt
              · obtain ⟨r4, e4⟩ := r3.put (o := .dic (dPut kvs k x)) (u := .dK (putK ks k v)) hp ⟨_, f1, trivial⟩ fun e => ⟨_, upd_same, (dPut_rep k r1' rv).mono e⟩
                exact h3 ρ3 _ σ e4 r4 (he.mono (((e1.trans e2).trans e3).trans e4))
        | ins c fs => cases q
        | frd kvs => cases q
    | _ => cases q
/-- o.f = e -/
def gSetFld (na : Nat → Nat → Bool) (j : Nat) (o v : Va) (S : Sto) : Option Sto := match o with
  | .ref n => match S.get n with
    | some (.ins c fs) => match na c j && Nat.blt fs.length 100 with
      | true => some (S.set n (.ins c (fPut fs j v)))
      | false => none
    | _ => none
  | _ => none
def mSetFld (na : Nat → Nat → Bool) (j : Nat) (o a : EF) : SF := fun env S => (a env S).bind fun v S1 => (o env S1).bind fun x S2 => match gSetFld na j x v S2 with
  | some S4 => .ok (.nx env) S4
  | none => .bad
theorem ss_setFld {f : Str} {j : Nat} {pos' : Pos} (gx : GX G X) (ho : SE G X o fo) (ha : SE G X a fa) (hf : f = G.fN j) (hs : swapsWith a (some (.Attribute o f pos')) pos.line X.env = pure false) : SS G X (.Assign [.Attribute o f pos'] a pos) (mSetFld G.na j fo fa) := by
  subst hf
  intro env S ρ σ H D he hr h
  refine PSw.by (ps_fld pew pew hs) (ha env S ρ σ H _ he hr (OutS.bind h fun x S1 ρ1 H1 v w1 e1 r1 p1 h1 => ?_))
  refine ho env S1 ρ1 σ H1 _ (he.mono e1) r1 (OutS.bind h1 fun y S2 ρ2 H2 u w2 e2 r2 p2 h2 => ?_)
  cases q : gSetFld G.na j y x S2 with
  | none => rw [q] at h2; exact h2.elim
  | some S4 =>
    rw [q] at h2
    cases p2 with
    | ref hp =>
      rename_i n p
      unfold gSetFld at q
      dsimp only at q
      cases g : S2.get n with
      | none => rw [g] at q; cases q
      | some ob =>
        rw [g] at q
        cases ob with
        | ins c fs =>
          obtain ⟨dx, gs, f1, rf, cl, na, ln⟩ := r2.ins g hp
          have q' : (match G.na c j && Nat.blt fs.length 100 with | true => some (S2.set n (.ins c (fPut fs j x))) | false => none) = some S4 := q
          cases qb : G.na c j && Nat.blt fs.length 100 with
          | false => rw [qb] at q'; cases q'
          | true =>
            rw [qb] at q'
            cases q'
            obtain ⟨q1, q2⟩ := Bool.and_eq_true_iff.mp qb
            have hlt : fs.length < 100 := Nat.le_of_ble_eq_true q2
            have rv := p1.mono e2
            refine ⟨p, G.cA c, dx, gs, rfl, f1, by rw [gx.hK]; exact cl, by rw [gx.hK]; exact gx.ok.na c j q1, by rw [rf.length]; omega, ?_⟩
            have hmem : ∀ z ∈ fPut fs j x, G.na c z.1 = true := fun z hz => by
              rcases fPut_mem hz with e | ⟨w, e⟩
              · rw [e]; exact q1
              · exact na (z.1, w) e
            obtain ⟨r4, e4⟩ := r2.put (o := .ins c (fPut fs j x)) (u := .ins (G.cA c) dx (putF (G.fN j) v gs)) hp ⟨_, f1, trivial⟩ fun e => ⟨dx, _, upd_same, (fPut_rep gx.ok.inj rv rf).mono e, cl, hmem, Nat.le_trans fPut_len hlt⟩
            exact h2 ρ2 _ σ e4 r4 (he.mono ((e1.trans e2).trans e4))
        | _ => cases q
    | _ => cases q

/-! ### methods of lists, dicts, texts -/
def MtW (X : Cx) (id : String) : V → List V → Hp → VK → Prop := fun x xs H Q => ∀ pins s σ v us, Inv X pins σ H s → RelV x v → Vals xs us → wpAny (model X.prog X.w) X.A (call (.builtin id) (v :: us)) (EP X pins σ Q) X.xe s
theorem mtw {id : String} : MtR X id (MtW X id) := fun pins s σ H x xs v us Q I r rs h => h pins s σ v us I r rs
theorem MtW.by {id : String} {r : V → List V → Hp → VK → Prop} (h : MtR X id r) {x : V} {xs : List V} {H : Hp} {Q : VK} (q : r x xs H Q) : MtW X id x xs H Q := fun pins s σ v us I r rs => h pins s σ H x xs v us Q I r rs q
theorem MtW.byM {id : String} {r : V → List V → Hp → VK → Prop} (h : MtM X id r) {x : V} {xs : List V} {H : Hp} {Q : VK} (q : r x xs H Q) : MtW X id x xs H Q := fun pins s σ v us I r rs => h pins s σ H x xs v us Q I r rs q
inductive Kn where
  | list | dict | str
def Kn.nm : Kn → String
  | .list => "list"
  | .dict => "dict"
  | .str => "str"
def isKn (k : Kn) (x : Va) (S : Sto) : Bool := match x with
  | .str _ => match k with
    | .str => true
    | _ => false
  | .fro _ => match k with
    | .list => true
    | _ => false
  | .ref n => match S.get n with
    | some (.lst _) => match k with
      | .list => true
      | _ => false
    | some (.dic _) => match k with
      | .dict => true
      | _ => false
    | _ => false
  | _ => false
theorem isKn_rep {k : Kn} {ρ : List Addr} {H : Hp} {S : Sto} {v : V} {x : Va} (hr : Rel G ρ S H) (p : Rep G ρ H v x) (h : isKn k x S = true) : tyV G.K k.nm v H := by
  cases p with
  | str y => cases k <;> first | rfl | cases h
  | fro t r => cases k <;> first | exact .inl ⟨rfl, _, t.sq⟩ | cases h
  | ref hp =>
    rename_i n a
    unfold isKn at h
    dsimp only at h
    cases g : S.get n with
    | none => rw [g] at h; cases h
    | some ob =>
      rw [g] at h
      cases ob with
      | lst ys =>
        obtain ⟨zs, f1, r1⟩ := hr.lst g hp
        cases k <;> first | exact .inl ⟨rfl, _, SqL.of f1⟩ | cases h
      | dic ys =>
        obtain ⟨zs, f1, r1⟩ := hr.dic g hp
        cases k <;> first | exact .inr (.inr (.inl ⟨rfl, .inl ⟨_, f1⟩⟩)) | cases h
      | ins c fs => cases h
      | frd kvs => cases h
  | _ => cases h
abbrev GM := Va → List Va → Sto → R Va
def MtS (G : Cf) (X : Cx) (id : String) (g : GM) : Prop := ∀ (x : Va) (xs : List Va) (v : V) (vs : List V) (S : Sto) (ρ : List Addr) (H : Hp) (Q : VK), Rel G ρ S H → Rep G ρ H v x → Reps G ρ H vs xs → Out G (PV G) ρ H (g x xs S) Q → MtW X id v vs H Q
def mBm (k : Kn) (g : GM) (o : EF) (fs : AF) : EF := fun env S => (o env S).bind fun x S1 => match isKn k x S1 with
  | true => (fs env S1).bind fun xs S2 => g x xs S2
  | false => .bad
theorem se_bm {k : Kn} {m : Str} {id : String} {g : GM} {apos : Pos} (gx : GX G X) (hm : MtS G X id g) (ho : SE G X o fo) (ha : SA G X (e :: es) fs)
    (hpe : ∀ {to : TE} {t : TA} {r : V → List V → Hp → VK → Prop}, MtR X id r → PE X o to → PA X (e :: es) t → PE X (.Call (.Attribute o m apos) (e :: es) [] pos) (tBM X.K k.nm r to t)) : SE G X (.Call (.Attribute o m apos) (e :: es) [] pos) (mBm k g fo fs) := by
  intro env S ρ σ H Q he hrl h
  refine PEw.by (hpe mtw pew paw) (ho env S ρ σ H _ he hrl (Out.bind h fun x S1 ρ1 H1 v w1 e1 r1 p1 h1 => ?_))
  cases q : isKn k x S1 with
  | false => rw [q] at h1; exact h1.elim
  | true =>
    rw [q] at h1
    refine ⟨by rw [gx.hK]; exact isKn_rep r1 p1 q, ha env S1 ρ1 σ H1 _ (he.mono e1) r1 (Out.bind h1 fun xs S2 ρ2 H2 vs w2 e2 r2 p2 h2 => ?_)⟩
    exact hm x xs v vs S2 ρ2 H2 Q r2 (p1.mono e2) p2 h2
theorem se_bm0 {k : Kn} {m : Str} {id : String} {g : GM} {apos : Pos} (gx : GX G X) (hm : MtS G X id g) (ho : SE G X o fo)
    (hpe : ∀ {to : TE} {r : V → List V → Hp → VK → Prop}, MtR X id r → PE X o to → PE X (.Call (.Attribute o m apos) [] [] pos) (tBM0 X.K k.nm r to)) : SE G X (.Call (.Attribute o m apos) [] [] pos) (mBm k g fo mNil) := by
  intro env S ρ σ H Q he hrl h
  refine PEw.by (hpe mtw pew) (ho env S ρ σ H _ he hrl (Out.bind h fun x S1 ρ1 H1 v w1 e1 r1 p1 h1 => ?_))
  cases q : isKn k x S1 with
  | false => rw [q] at h1; exact h1.elim
  | true =>
    rw [q] at h1
    exact ⟨by rw [gx.hK]; exact isKn_rep r1 p1 q, hm x [] v [] S1 ρ1 H1 Q r1 p1 .nil h1⟩
/-- a method of a list that stands in the store -/
def gmL (g : Nat → List Va → List Va → Sto → R Va) : GM := fun x xs S => match x with
  | .ref n => match S.get n with
    | some (.lst l) => g n l xs S
    | _ => .bad
  | _ => .bad
theorem mts_L {id : String} {g : Nat → List Va → List Va → Sto → R Va} (h : ∀ (n : Nat) (l : List Va) (xs : List Va) (p : Addr) (ys vs : List V) (S : Sto) (ρ : List Addr) (H : Hp) (Q : VK), Rel G ρ S H → ρ[n]? = some p → S.get n = some (.lst l) → H p = some (.lst ys) → Reps G ρ H ys l → Reps G ρ H vs xs → Out G (PV G) ρ H (g n l xs S) Q → MtW X id (.ref p) vs H Q) : MtS G X id (gmL g) := by
  intro x xs v vs S ρ H Q hr p r q
  cases p with
  | ref hp =>
    rename_i n a
    have q' : Out G (PV G) ρ H (match S.get n with | some (.lst l) => g n l xs S | _ => .bad) Q := q
    cases gg : S.get n with
    | none => rw [gg] at q'; exact q'.elim
    | some ob =>
      rw [gg] at q'
      cases ob with
      | lst l =>
        obtain ⟨ys, f1, r1⟩ := hr.lst gg hp
        exact h n l xs a ys vs S ρ H Q hr hp gg f1 r1 r q'
      | _ => exact q'.elim
  | _ => exact q.elim
def gAppend : GM := gmL fun n l xs S => match xs with
  | [y] => match Nat.blt l.length 1000000 with
    | true => .ok .non (S.set n (.lst (l ++ [y])))
    | false => .bad
  | _ => .bad
theorem blt_line {n : Nat} (h : Nat.blt n 1000000 = true) : n < sizeLine := Nat.lt_of_lt_of_le (Nat.le_of_ble_eq_true h) (by rw [sizeLine_eq]; decide)
theorem mts_append : MtS G X "list.append" gAppend := mts_L fun n l xs p ys vs S ρ H Q hr hp gg f1 r1 r q => by
  match xs, r, q with
  | [], _, q => exact q.elim
  | [y], r, q =>
    have q' : Out G (PV G) ρ H (match Nat.blt l.length 1000000 with | true => R.ok Va.non (S.set n (.lst (l ++ [y]))) | false => .bad) Q := q
    cases qb : Nat.blt l.length 1000000 with
    | false => rw [qb] at q'; exact q'.elim
    | true =>
      rw [qb] at q'
      obtain ⟨v, e, pv⟩ := reps1 r
      subst e
      exact MtW.byM mt_append ⟨p, ys, v, rfl, rfl, f1, by rw [r1.length]; exact blt_line qb, Out.put q' hr hp ⟨_, f1, trivial⟩ (fun e => ⟨_, upd_same, (r1.append (.cons pv .nil)).mono e⟩) .non⟩
  | _ :: _ :: _, _, q => exact q.elim
theorem Reps.dropLast {ρ : List Addr} {H : Hp} {vs : List V} {xs : List Va} (r : Reps G ρ H vs xs) : Reps G ρ H vs.dropLast xs.dropLast := by
  rw [List.dropLast_eq_take, List.dropLast_eq_take, r.length]
  exact r.take _
theorem Reps.eraseIdx {ρ : List Addr} {H : Hp} {vs : List V} {xs : List Va} (r : Reps G ρ H vs xs) (k : Nat) : Reps G ρ H (vs.eraseIdx k) (xs.eraseIdx k) := by
  rw [List.eraseIdx_eq_take_drop_succ, List.eraseIdx_eq_take_drop_succ]
  exact (r.take _).append (r.drop _)
def gPop : GM := gmL fun n l xs S => match xs with
  | [] => match l[l.length - 1]? with
    | some y => .ok y (S.set n (.lst l.dropLast))
    | none => .bad
  | [.int i] => match decide (-(2 ^ 63) ≤ i) && decide (i < 2 ^ 63) with
    | true => match seqIndex? i l.length with
      | some k => match l[k]? with
        | some y => .ok y (S.set n (.lst (l.eraseIdx k)))
        | none => .bad
      | none => .bad
    | false => .bad
  | _ => .bad
theorem mts_pop : MtS G X "list.pop" gPop := mts_L fun n l xs p ys vs S ρ H Q hr hp gg f1 r1 r q => by
  match xs, r, q with
  | [], r, q =>
    have q' : Out G (PV G) ρ H (match l[l.length - 1]? with | some y => R.ok y (S.set n (.lst l.dropLast)) | none => .bad) Q := q
    cases qb : l[l.length - 1]? with
    | none => rw [qb] at q'; exact q'.elim
    | some y =>
      rw [qb] at q'
      obtain ⟨v, hv, pv⟩ := r1.get qb
      have e := r.nil_inv
      subst e
      exact MtW.byM mt_pop ⟨p, ys, v, rfl, rfl, f1, by rw [r1.length]; exact hv, Out.put q' hr hp ⟨_, f1, trivial⟩ (fun e => ⟨_, upd_same, r1.dropLast.mono e⟩) pv⟩
  | [.int i], r, q =>
    have q' : Out G (PV G) ρ H (match decide (-(2 ^ 63) ≤ i) && decide (i < 2 ^ 63) with | true => (match seqIndex? i l.length with | some k => (match l[k]? with | some y => R.ok y (S.set n (.lst (l.eraseIdx k))) | none => .bad) | none => .bad) | false => .bad) Q := q
    cases qc : decide (-(2 ^ 63) ≤ i) && decide (i < 2 ^ 63) with
    | false => rw [qc] at q'; exact q'.elim
    | true =>
      rw [qc] at q'
      have q2 : Out G (PV G) ρ H (match seqIndex? i l.length with | some k => (match l[k]? with | some y => R.ok y (S.set n (.lst (l.eraseIdx k))) | none => .bad) | none => .bad) Q := q'
      cases qs : seqIndex? i l.length with
      | none => rw [qs] at q2; exact q2.elim
      | some k =>
        rw [qs] at q2
        have q3 : Out G (PV G) ρ H (match l[k]? with | some y => R.ok y (S.set n (.lst (l.eraseIdx k))) | none => .bad) Q := q2
        cases qb : l[k]? with
        | none => rw [qb] at q3; exact q3.elim
        | some y =>
          rw [qb] at q3
          obtain ⟨v, hv, pv⟩ := r1.get qb
          obtain ⟨w, e, pw⟩ := reps1 r
          subst e
          cases pw
          simp only [Bool.and_eq_true, decide_eq_true_eq] at qc
          exact MtW.byM mt_popAt ⟨p, ys, i, k, v, rfl, rfl, f1, qc.1, qc.2, by rw [r1.length]; exact qs, hv, Out.put q3 hr hp ⟨_, f1, trivial⟩ (fun e => ⟨_, upd_same, (r1.eraseIdx k).mono e⟩) pv⟩
  | [.non], _, q => exact q.elim
  | [.bl _], _, q => exact q.elim
  | [.str _], _, q => exact q.elim
  | [.tup _], _, q => exact q.elim
  | [.fro _], _, q => exact q.elim
  | [.ref _], _, q => exact q.elim
  | .non :: _ :: _, _, q => exact q.elim
  | .bl _ :: _ :: _, _, q => exact q.elim
  | .int _ :: _ :: _, _, q => exact q.elim
  | .str _ :: _ :: _, _, q => exact q.elim
  | .tup _ :: _ :: _, _, q => exact q.elim
  | .fro _ :: _ :: _, _, q => exact q.elim
  | .ref _ :: _ :: _, _, q => exact q.elim
def gExtend : GM := gmL fun n l xs S => match xs with
  | [.ref m] => match S.get m with
    | some (.lst z) => match Nat.ble (l.length + z.length) 16777216 with
      | true => .ok .non (S.set n (.lst (l ++ z)))
      | false => .bad
    | _ => .bad
  | _ => .bad
theorem mts_extend : MtS G X "list.extend" gExtend := mts_L fun n l xs p ys vs S ρ H Q hr hp gg f1 r1 r q => by
  match xs, r, q with
  | [], _, q => exact q.elim
  | [.ref m], r, q =>
    have q' : Out G (PV G) ρ H (match S.get m with | some (.lst z) => (match Nat.ble (l.length + z.length) 16777216 with | true => R.ok Va.non (S.set n (.lst (l ++ z))) | false => .bad) | _ => .bad) Q := q
    cases g2 : S.get m with
    | none => rw [g2] at q'; exact q'.elim
    | some ob =>
      rw [g2] at q'
      cases ob with
      | lst z =>
        have q2 : Out G (PV G) ρ H (match Nat.ble (l.length + z.length) 16777216 with | true => R.ok Va.non (S.set n (.lst (l ++ z))) | false => .bad) Q := q'
        cases qb : Nat.ble (l.length + z.length) 16777216 with
        | false => rw [qb] at q2; exact q2.elim
        | true =>
          rw [qb] at q2
          obtain ⟨v, e, pv⟩ := reps1 r
          subst e
          cases pv with
          | ref hm =>
            obtain ⟨zs, f2, r2⟩ := hr.lst g2 hm
            exact MtW.byM mt_extend ⟨p, _, ys, zs, rfl, rfl, f1, f2, by rw [r1.length, r2.length]; exact ble_line qb, Out.put q2 hr hp ⟨_, f1, trivial⟩ (fun e => ⟨_, upd_same, (r1.append r2).mono e⟩) .non⟩
      | _ => exact q'.elim
  | [.non], _, q => exact q.elim
  | [.bl _], _, q => exact q.elim
  | [.int _], _, q => exact q.elim
  | [.str _], _, q => exact q.elim
  | [.tup _], _, q => exact q.elim
  | [.fro _], _, q => exact q.elim
  | .non :: _ :: _, _, q => exact q.elim
  | .bl _ :: _ :: _, _, q => exact q.elim
  | .int _ :: _ :: _, _, q => exact q.elim
  | .str _ :: _ :: _, _, q => exact q.elim
  | .tup _ :: _ :: _, _, q => exact q.elim
  | .fro _ :: _ :: _, _, q => exact q.elim
  | .ref _ :: _ :: _, _, q => exact q.elim
def gClear : GM := gmL fun n l xs S => match xs with
  | [] => .ok .non (S.set n (.lst []))
  | _ => .bad
theorem mts_clear : MtS G X "list.clear" gClear := mts_L fun n l xs p ys vs S ρ H Q hr hp gg f1 r1 r q => by
  match xs, r, q with
  | [], r, q =>
    have e := r.nil_inv
    subst e
    exact MtW.byM mt_clear ⟨p, ys, rfl, rfl, f1, Out.put q hr hp ⟨_, f1, trivial⟩ (fun e => ⟨_, upd_same, .nil⟩) .non⟩
  | _ :: _, _, q => exact q.elim
end
end Mi
/-! Loops, list comprehensions. -/
namespace Mi
open PySem PySem.Spec PyProof.Rows L2

/-! ### what is walked -/
/-- at turn i: an item, the end (some none), or nothing that is told -/
structure MI where
  nx : Nat → Sto → Option (Option Va)
  bound : Nat
def ItOk (G : Cf) (ρ0 : List Addr) (H0 : Hp) (J : It) (m : MI) : Prop := ∀ (i : Nat) (ρ : List Addr) (S : Sto) (H : Hp), Ext G ρ0 H0 ρ H → Rel G ρ S H → match m.nx i S with
  | some (some v) => J.go i H ∧ ∀ x H', J.yld i H x H' → Rel G ρ S H' ∧ Ext G ρ H ρ H' ∧ Rep G ρ H' x v
  | some none => J.stop i H
  | none => True
def OutI (G : Cf) (ρ : List Addr) (H : Hp) (r : R MI) (Q : It → Hp → Prop) : Prop := match r with
  | .ok m S' => ∀ (ρ' : List Addr) (H' : Hp) (J : It), Ext G ρ H ρ' H' → Rel G ρ' S' H' → ItOk G ρ' H' J m → Q J H'
  | .bad => False
theorem OutI.mono {G : Cf} {ρ ρ1 : List Addr} {H H1 : Hp} {r : R MI} {Q : It → Hp → Prop} (e : Ext G ρ H ρ1 H1) (h : OutI G ρ H r Q) : OutI G ρ1 H1 r Q := by
  cases r with
  | bad => exact h
  | ok m S => exact fun ρ' H' J e' => h ρ' H' J (e.trans e')
abbrev IF := Ev → Sto → R MI
theorem OutI.bind {α β : Type} {G : Cf} {P : List Addr → Hp → β → α → Prop} {ρ : List Addr} {H : Hp} {r : R α} {k : α → Sto → R MI} {D : It → Hp → Prop} {Q : β → Hp → Prop} (h : OutI G ρ H (r.bind k) D)
    (c : ∀ (a : α) (S' : Sto) (ρ' : List Addr) (H' : Hp) (b : β), r = .ok a S' → Ext G ρ H ρ' H' → Rel G ρ' S' H' → P ρ' H' b a → OutI G ρ' H' (k a S') D → Q b H') : Out G P ρ H r Q := by
  cases r with
  | bad => exact h.elim
  | ok a S => exact fun ρ' H' b e rel p => c a S ρ' H' b rfl e rel p (OutI.mono e h)
def PIw (X : Cx) (tg iter : Expr) : TI := fun σ H R => ∀ pins s, Inv X pins σ H s → wpAny (model X.prog X.w) X.A (eval iter X.env) (fun v s1 => wpAny (model X.prog X.w) X.A (pyIter v) (PIE X pins σ tg R) X.xe s1) X.xe s
theorem piw {X : Cx} {tg iter : Expr} : PI X tg iter (PIw X tg iter) := ⟨fun pins s _ _ _ I h => h pins s I⟩
theorem PIw.by {X : Cx} {tg iter : Expr} {t : TI} {σ : L2.St} {H : Hp} {R : It → Hp → Prop} (h : PI X tg iter t) (q : t σ H R) : PIw X tg iter σ H R := fun pins s I => h.run pins s σ H R I q
def SI (G : Cf) (X : Cx) (tg iter : Expr) (f : IF) : Prop := ∀ (env : Ev) (S : Sto) (ρ : List Addr) (σ : L2.St) (H : Hp) (Q : It → Hp → Prop), RepE G ρ H σ env → Rel G ρ S H → OutI G ρ H (f env S) Q → PIw X tg iter σ H Q

section
variable {G : Cf} {X : Cx} {a b c e o tg iter : Expr} {es : List Expr} {st : Stmt} {rest body orelse : List Stmt} {fa fb fc fo : EF} {fs : AF} {f g : SF} {pos : Pos}
/-- the items are known at the start -/
def miL (xs : List Va) : MI := ⟨fun i _ => some xs[i]?, xs.length⟩
/-- the list at n, as it stands at each turn -/
def miR (n b : Nat) : MI := ⟨fun i S => match S.get n with
  | some (.lst xs) => some xs[i]?
  | _ => none, b⟩
theorem itok_list {ρ : List Addr} {H : Hp} {n b : Nat} {p : Addr} (hp : ρ[n]? = some p) : ItOk G ρ H (Itl G.K p) (miR n b) := by
  intro i ρ1 S H1 e hr
  show (match (match S.get n with | some (.lst xs) => some xs[i]? | _ => none) with | some (some v) => _ | some none => _ | none => True)
  cases g : S.get n with
  | none => trivial
  | some ob =>
    cases ob with
    | lst xs =>
      obtain ⟨ys, f1, r⟩ := hr.lst g (e.at hp)
      show (match some xs[i]? with | some (some v) => _ | some none => _ | none => True)
      cases q : xs[i]? with
      | none =>
        refine ⟨ys, SqL.of f1, ?_⟩
        have := List.getElem?_eq_none_iff.mp (r.none q)
        exact this
      | some v =>
        obtain ⟨w, hw, rw'⟩ := r.get q
        refine ⟨⟨ys, w, SqL.of f1, hw⟩, fun x H' y => ?_⟩
        obtain ⟨e1, y2⟩ := y
        subst e1
        have e2 := y2 ys (SqL.of f1)
        rw [hw] at e2
        cases e2
        exact ⟨hr, Ext.refl, rw'⟩
    | _ => trivial
theorem itok_tup {ρ : List Addr} {H : Hp} {p : Addr} {ys : List V} {xs : List Va} (t : SqT G.K H p ys) (r : Reps G ρ H ys xs) : ItOk G ρ H (Itt G.K p) (miL xs) := by
  intro i ρ1 S H1 e hr
  show (match some xs[i]? with | some (some v) => _ | some none => _ | none => True)
  have t1 := e.tup _ _ t
  have r1 := r.mono e
  cases q : xs[i]? with
  | none => exact ⟨ys, t1, List.getElem?_eq_none_iff.mp (r1.none q)⟩
  | some v =>
    obtain ⟨w, hw, rw'⟩ := r1.get q
    refine ⟨⟨ys, w, t1, hw⟩, fun x H' y => ?_⟩
    obtain ⟨e1, y2⟩ := y
    subst e1
    have e2 := y2 ys t1
    rw [hw] at e2
    cases e2
    exact ⟨hr, Ext.refl, rw'⟩
theorem itok_fro {ρ : List Addr} {H : Hp} {p : Addr} {ys : List V} {xs : List Va} (t : SqF G.K H p ys) (r : Reps G ρ H ys xs) : ItOk G ρ H (Itl G.K p) (miL xs) := by
  intro i ρ1 S H1 e hr
  show (match some xs[i]? with | some (some v) => _ | some none => _ | none => True)
  have t1 := (e.fro _ _ t).sq
  have r1 := r.mono e
  cases q : xs[i]? with
  | none => exact ⟨ys, t1, List.getElem?_eq_none_iff.mp (r1.none q)⟩
  | some v =>
    obtain ⟨w, hw, rw'⟩ := r1.get q
    refine ⟨⟨ys, w, t1, hw⟩, fun x H' y => ?_⟩
    obtain ⟨e1, y2⟩ := y
    subst e1
    have e2 := y2 ys t1
    rw [hw] at e2
    cases e2
    exact ⟨hr, Ext.refl, rw'⟩
/-- a list, a tuple -/
def iSeq (f : EF) : IF := fun env S => (f env S).bind fun x S1 => match x with
  | .tup xs => .ok (miL xs) S1
  | .fro xs => .ok (miL xs) S1
  | .str z => .ok (miL (z.cps.toList.map fun c => Va.str ⟨#[c]⟩)) S1
  | .ref n => match S1.get n with
    | some (.lst xs) => .ok (miR n xs.length) S1
    | _ => .bad
  | _ => .bad
def isTup : Va → Bool
  | .tup _ => true
  | _ => false
theorem si_seq (gx : GX G X) (ha : SE G X a fa) : SI G X tg a (iSeq fa) := by
  intro env S ρ σ H Q he hr h
  by_cases hs : ∃ z S1, fa env S = .ok (.str z) S1
  · obtain ⟨z, S1, q⟩ := hs
    refine PIw.by (pi_str pew) (ha env S ρ σ H _ he hr (OutI.bind h fun x S1' ρ1 H1 v w1 e1 r1 p1 h1 => ?_))
    rw [q] at w1
    injection w1 with wa wb
    subst wa wb
    cases p1 with
    | str _ =>
      refine ⟨z, rfl, h1 ρ1 H1 _ Ext.refl r1 fun i ρ2 S2 H2 e2 r2 => ?_⟩
      show (match some (z.cps.toList.map fun c => Va.str ⟨#[c]⟩)[i]? with | some (some v) => _ | some none => _ | none => True)
      cases g : (z.cps.toList.map fun c => Va.str ⟨#[c]⟩)[i]? with
      | none =>
        have := List.getElem?_eq_none_iff.mp g
        rw [List.length_map, Array.length_toList] at this
        exact this
      | some w =>
        rw [List.getElem?_map, Array.getElem?_toList] at g
        cases g2 : z.cps[i]? with
        | none => rw [g2] at g; cases g
        | some c =>
          rw [g2] at g
          cases g
          refine ⟨(Array.getElem?_eq_some_iff.mp g2).1, fun x H' ⟨eh, c2, hc2, ex⟩ => ?_⟩
          subst eh ex
          rw [g2] at hc2
          cases hc2
          exact ⟨r2, Ext.refl, .str _⟩
  by_cases ht : ∃ xs S1, fa env S = .ok (.tup xs) S1
  · obtain ⟨xs, S1, q⟩ := ht
    refine PIw.by (pi_tup pew) (ha env S ρ σ H _ he hr (OutI.bind h fun x S1' ρ1 H1 v w1 e1 r1 p1 h1 => ?_))
    rw [q] at w1
    injection w1 with wa wb
    subst wa wb
    cases p1 with
    | tup t r => exact ⟨_, rfl, ⟨_, by rw [gx.hK]; exact t⟩, by rw [gx.hK]; exact h1 ρ1 H1 _ Ext.refl r1 (itok_tup t r)⟩
  · refine PIw.by (pi_list pew) (ha env S ρ σ H _ he hr (OutI.bind h fun x S1' ρ1 H1 v w1 e1 r1 p1 h1 => ?_))
    cases p1 with
    | tup t r => exact (ht ⟨_, _, w1⟩).elim
    | str z => exact (hs ⟨_, _, w1⟩).elim
    | fro t r => exact ⟨_, rfl, ⟨_, by rw [gx.hK]; exact t.sq⟩, by rw [gx.hK]; exact h1 ρ1 H1 _ Ext.refl r1 (itok_fro t r)⟩
    | ref hp =>
      rename_i n p
      have h2 : OutI G ρ1 H1 (match S1'.get n with | some (.lst xs) => .ok (miR n xs.length) S1' | _ => .bad) Q := h1
      cases g : S1'.get n with
      | none => rw [g] at h2; exact h2.elim
      | some ob =>
        rw [g] at h2
        cases ob with
        | lst xs =>
          obtain ⟨ys, f1, r⟩ := r1.lst g hp
          exact ⟨_, rfl, ⟨_, by rw [gx.hK]; exact SqL.of f1⟩, by rw [gx.hK]; exact h2 ρ1 H1 _ Ext.refl r1 (itok_list hp)⟩
        | _ => exact h2.elim
    | _ => exact h1.elim
/-- range -/
def miN (lo : Int) (n : Nat) : MI := ⟨fun i _ => match Nat.blt i n with
  | true => some (some (.int (lo + i)))
  | false => some none, n⟩
theorem itok_rng {ρ : List Addr} {H : Hp} {lo : Int} {n : Nat} : ItOk G ρ H (Itr lo n) (miN lo n) := by
  intro i ρ1 S H1 e hr
  show (match (match Nat.blt i n with | true => some (some (Va.int (lo + i))) | false => some none) with | some (some v) => _ | some none => _ | none => True)
  cases q : Nat.blt i n with
  | true =>
    refine ⟨Nat.le_of_ble_eq_true q, fun x H' y => ?_⟩
    obtain ⟨e1, e2⟩ := y
    subst e1 e2
    exact ⟨hr, Ext.refl, .int _⟩
  | false =>
    show n ≤ i
    refine Nat.le_of_not_lt fun z => ?_
    rw [bltT z] at q
    cases q
def okR (j : Int) : Bool := decide (-(2 ^ 62) ≤ j) && decide (j < 2 ^ 62)
theorem okR_of {j : Int} (h : okR j = true) : -(2 ^ 62) ≤ j ∧ j < 2 ^ 62 := by
  unfold okR at h
  simp only [Bool.and_eq_true, decide_eq_true_eq] at h
  exact h
def iRange1 (f : AF) : IF := fun env S => (f env S).bind fun xs S1 => match xs with
  | [.int j] => match okR j with
    | true => .ok (miN 0 j.toNat) S1
    | false => .bad
  | _ => .bad
theorem si_range1 {p : Pos} (hg : Gl X "range") (hm : X.mg "range" = none) (ha : SA G X [a] fs) (hs : starEach [a] X.env = [(false, eval a X.env)]) : SI G X tg (.Call (.Name "range" p) [a] [] pos) (iRange1 fs) := by
  intro env S ρ σ H Q he hr h
  refine PIw.by (pi_range1 hg hm paw hs) (ha env S ρ σ H _ he hr (OutI.bind h fun xs S1 ρ1 H1 vs w1 e1 r1 p1 h1 => ?_))
  match xs, p1, h1 with
  | [.int j], p1, h1 =>
    have h2 : OutI G ρ1 H1 (match okR j with | true => R.ok (miN 0 j.toNat) S1 | false => .bad) Q := h1
    cases q : okR j with
    | false => rw [q] at h2; exact h2.elim
    | true =>
      rw [q] at h2
      obtain ⟨v, ev, pv⟩ := reps1 p1
      subst ev
      cases pv
      exact ⟨j, rfl, (okR_of q).1, (okR_of q).2, h2 ρ1 H1 _ Ext.refl r1 itok_rng⟩
  | [], _, h1 => exact h1.elim
  | [.non], _, q => exact q.elim
  | [.bl _], _, q => exact q.elim
  | [.str _], _, q => exact q.elim
  | [.tup _], _, q => exact q.elim
  | [.fro _], _, q => exact q.elim
  | [.ref _], _, q => exact q.elim
  | .non :: _ :: _, _, q => exact q.elim
  | .bl _ :: _ :: _, _, q => exact q.elim
  | .int _ :: _ :: _, _, q => exact q.elim
  | .str _ :: _ :: _, _, q => exact q.elim
  | .tup _ :: _ :: _, _, q => exact q.elim
  | .fro _ :: _ :: _, _, q => exact q.elim
  | .ref _ :: _ :: _, _, q => exact q.elim
def iRange2 (f g : EF) : IF := fun env S => (f env S).bind fun x S1 => (g env S1).bind fun y S2 => match x, y with
  | .int i, .int j => match okR i && okR j with
    | true => .ok (miN i (j - i).toNat) S2
    | false => .bad
  | _, _ => .bad
theorem si_range2 {p : Pos} (hg : Gl X "range") (hm : X.mg "range" = none) (ha : SE G X a fa) (hb : SE G X b fb) (hs : starEach [a, b] X.env = [(false, eval a X.env), (false, eval b X.env)]) (hs2 : starEach [b] X.env = [(false, eval b X.env)]) (hs3 : starEach [a, b] X.env = (false, eval a X.env) :: starEach [b] X.env) (hs4 : starEach [b] X.env = (false, eval b X.env) :: starEach [] X.env) :
    SI G X tg (.Call (.Name "range" p) [a, b] [] pos) (iRange2 fa fb) := by
  intro env S ρ σ H Q he hr h
  refine PIw.by (pi_range2 hg hm (pa_cons pew (pa_cons pew pa_nil hs4) hs3) hs hs2) (ha env S ρ σ H _ he hr (OutI.bind h fun x S1 ρ1 H1 v w1 e1 r1 p1 h1 => ?_))
  refine hb env S1 ρ1 σ H1 _ (he.mono e1) r1 (OutI.bind h1 fun y S2 ρ2 H2 u w2 e2 r2 p2 h2 => ?_)
  cases (p1.mono e2) with
  | int i =>
    cases p2 with
    | int j =>
      have h3 : OutI G ρ2 H2 (match okR i && okR j with | true => R.ok (miN i (j - i).toNat) S2 | false => .bad) Q := h2
      cases q : okR i && okR j with
      | false => rw [q] at h3; exact h3.elim
      | true =>
        rw [q] at h3
        obtain ⟨q1, q2⟩ := Bool.and_eq_true_iff.mp q
        exact ⟨i, j, rfl, ⟨(okR_of q1).1, (okR_of q1).2, (okR_of q2).1, (okR_of q2).2⟩, h3 ρ2 H2 _ Ext.refl r2 itok_rng⟩
    | _ => exact h2.elim
  | _ => exact h2.elim
/-- enumerate of a list -/
def miE (m : MI) : MI := ⟨fun i S => match m.nx i S with
  | some (some v) => some (some (.tup [.int i, v]))
  | r => r, m.bound⟩
def miSeq (x : Va) (S : Sto) : Option MI := match x with
  | .fro xs => some (miL xs)
  | .ref n => match S.get n with
    | some (.lst xs) => some (miR n xs.length)
    | _ => none
  | _ => none
def iEnumL (f : EF) : IF := fun env S => (f env S).bind fun x S1 => match miSeq x S1 with
  | some m => .ok (miE m) S1
  | none => .bad
theorem new_tup {ρ : List Addr} {S : Sto} {H : Hp} {T : Addr} {ys : List V} {xs : List Va} (hr : Rel G ρ S H) (hT : H T = none) (r : Reps G ρ H ys xs) : Rel G ρ S (upd H T (.tup ys)) ∧ Ext G ρ H ρ (upd H T (.tup ys)) ∧ Rep G ρ (upd H T (.tup ys)) (.ref T) (.tup xs) :=
  ⟨hr.same (same_upd hT), Ext.same (same_upd hT), .tup (.inl (.inl upd_same)) (r.mono (Ext.same (same_upd hT)))⟩
theorem miSeq_ok {x : Va} {v : V} {ρ : List Addr} {S : Sto} {H : Hp} {m : MI} (hr : Rel G ρ S H) (p : Rep G ρ H v x) (h : miSeq x S = some m) : ∃ q ys, v = .ref q ∧ SqL G.K H q ys ∧ ItOk G ρ H (Itl G.K q) m := by
  cases p with
  | fro t r => cases h; exact ⟨_, _, rfl, t.sq, itok_fro t r⟩
  | ref hp =>
    rename_i n a
    have q' : (match S.get n with | some (.lst xs) => some (miR n xs.length) | _ => none) = some m := h
    cases g : S.get n with
    | none => rw [g] at q'; cases q'
    | some ob =>
      rw [g] at q'
      cases ob with
      | lst ys =>
        cases q'
        obtain ⟨zs, f1, r1⟩ := hr.lst g hp
        exact ⟨_, _, rfl, SqL.of f1, itok_list hp⟩
      | _ => cases q'
  | _ => cases h
theorem itok_enum {ρ : List Addr} {H : Hp} {p : Addr} {m : MI} (hm : ItOk G ρ H (Itl G.K p) m) : ItOk G ρ H (Ite G.K p) (miE m) := by
  intro i ρ1 S H1 e hr
  have h := hm i ρ1 S H1 e hr
  show (match (match m.nx i S with | some (some v) => some (some (Va.tup [.int i, v])) | r => r) with | some (some v) => _ | some none => _ | none => True)
  cases q : m.nx i S with
  | none => trivial
  | some w =>
    rw [q] at h
    cases w with
    | none => exact h
    | some v =>
      obtain ⟨⟨ys, x, hs, hx⟩, hy⟩ := h
      refine ⟨⟨ys, x, hs, hx⟩, fun z H' y => ?_⟩
      obtain ⟨T, x2, ez, hT, eH, hall⟩ := y
      subst ez eH
      have e2 := hall ys hs
      rw [hx] at e2
      cases e2
      obtain ⟨_, _, rx⟩ := hy x H1 ⟨rfl, fun xs hxs => hall xs hxs⟩
      exact new_tup hr hT (.cons (.int _) (.cons rx .nil))
theorem si_enum {p tpos : Pos} {elts : List Expr} {kk : Nat} (gx : GX G X) (hg : Gl X "enumerate") (hm : X.mg "enumerate" = none) (ha : SE G X a fa) (hs : starEach [a] X.env = [(false, eval a X.env)]) (hs4 : starEach [a] X.env = (false, eval a X.env) :: starEach [] X.env) :
    SI G X (.Tuple elts kk tpos) (.Call (.Name "enumerate" p) [a] [] pos) (iEnumL fa) := by
  intro env S ρ σ H Q he hr h
  refine PIw.by (pi_enum hg hm (pa_cons pew pa_nil hs4) hs) (ha env S ρ σ H _ he hr (OutI.bind h fun x S1 ρ1 H1 v w1 e1 r1 p1 h1 => ?_))
  cases q : miSeq x S1 with
  | none => rw [q] at h1; exact h1.elim
  | some m =>
    rw [q] at h1
    obtain ⟨qa, ys, ev, hs, ok⟩ := miSeq_ok r1 p1 q
    subst ev
    exact ⟨qa, ys, rfl, by rw [gx.hK]; exact hs, by rw [gx.hK]; exact h1 ρ1 H1 _ Ext.refl r1 (itok_enum ok)⟩

/-! ### for -/
def loopF (m : MI) (t : TF) (body : SF) : Nat → Nat → Ev → Sto → R Fl
  | 0, _, _, _ => .bad
  | f + 1, i, env, S => match m.nx i S with
    | none => .bad
    | some none => .ok (.nx env) S
    | some (some v) => match t v env S with
      | none => .bad
      | some env1 => match body env1 S with
        | .ok (.nx env2) S2 => loopF m t body f (i + 1) env2 S2
        | .ok (.ct env2) S2 => loopF m t body f (i + 1) env2 S2
        | .ok (.bk env2) S2 => .ok (.nx env2) S2
        | .ok (.rt v) S2 => .ok (.rt v) S2
        | .bad => .bad
def mFor (fi : IF) (t : TF) (body : SF) : SF := fun env S => (fi env S).bind fun m S1 => loopF m t body (m.bound + 1) 0 env S1
theorem ss_for {fi : IF} {t : TF} {ids : List Nat} (gx : GX G X) (hxe : PassesOwn (model X.prog X.w) X.A X.env X.xe) (hi : SI G X tg iter fi) (hg : SG G X tg t ids) (hb : SSs G X body f) (hs : ∀ x, foldedSetIterable iter X.env x = pure x) : SS G X (.For tg iter body [] pos) (mFor fi t f) := by
  intro env S ρ σ H D he hr h
  refine PSw.by (ps_for hxe gx.calm piw pgw pssw hs) ?_
  refine hi env S ρ σ H _ he hr ?_
  unfold mFor at h
  cases q0 : fi env S with
  | bad => rw [q0] at h; exact h.elim
  | ok m S1 =>
    rw [q0] at h
    have h' : OutS G ρ H (loopF m t f (m.bound + 1) 0 env S1) D := h
    intro ρ1 H1 J e1 r1 ok
    refine ⟨fun i n σ H => ∃ env S ρ, Ext G ρ1 H1 ρ H ∧ Rel G ρ S H ∧ RepE G ρ H σ env ∧ OutS G ρ H (loopF m t f n i env S) D, ⟨m.bound + 1, env, S1, ρ1, Ext.refl, r1, he.mono e1, OutS.mono e1 h'⟩, ?_⟩
    rintro i n σ2 H2 ⟨env2, S2, ρ2, e2, r2, he2, h2⟩
    cases n with
    | zero => exact h2.elim
    | succ n =>
      have hj := ok i ρ2 S2 H2 e2 r2
      have h3 : OutS G ρ2 H2 (match m.nx i S2 with | none => .bad | some none => .ok (.nx env2) S2 | some (some v) => (match t v env2 S2 with | none => .bad | some env1 => (match f env1 S2 with | .ok (.nx env2) S2 => loopF m t f n (i + 1) env2 S2 | .ok (.ct env2) S2 => loopF m t f n (i + 1) env2 S2 | .ok (.bk env2) S2 => .ok (.nx env2) S2 | .ok (.rt v) S2 => .ok (.rt v) S2 | .bad => .bad))) D := h2
      cases q : m.nx i S2 with
      | none => rw [q] at h3; exact h3.elim
      | some w =>
        rw [q] at h3 hj
        cases w with
        | none => exact .inl ⟨hj, h3 ρ2 H2 σ2 Ext.refl r2 he2⟩
        | some v =>
          obtain ⟨go, yl⟩ := hj
          refine .inr ⟨go, fun σ' H' => ∃ env S ρ, Ext G ρ1 H1 ρ H' ∧ Rel G ρ S H' ∧ RepE G ρ H' σ' env ∧ OutS G ρ H' (loopF m t f n (i + 1) env S) D, fun σ' H' hn => ⟨n, Nat.lt_succ_self n, hn⟩, fun x H3 hy => ?_⟩
          obtain ⟨r3, e3, rx⟩ := yl x H3 hy
          have h4 : OutS G ρ2 H2 (match t v env2 S2 with | none => .bad | some env1 => (match f env1 S2 with | .ok (.nx env2) S2 => loopF m t f n (i + 1) env2 S2 | .ok (.ct env2) S2 => loopF m t f n (i + 1) env2 S2 | .ok (.bk env2) S2 => .ok (.nx env2) S2 | .ok (.rt v) S2 => .ok (.rt v) S2 | .bad => .bad)) D := h3
          cases qt : t v env2 S2 with
          | none => rw [qt] at h4; exact h4.elim
          | some env1 =>
            rw [qt] at h4
            refine hg v x env2 env1 S2 ρ2 σ2 H3 _ (he2.mono e3) r3 rx qt fun σ4 he4 _ => ?_
            refine hb env1 S2 ρ2 σ4 H3 _ he4 r3 ?_
            have h5 : OutS G ρ2 H3 (match f env1 S2 with | .ok (.nx env2) S2 => loopF m t f n (i + 1) env2 S2 | .ok (.ct env2) S2 => loopF m t f n (i + 1) env2 S2 | .ok (.bk env2) S2 => .ok (.nx env2) S2 | .ok (.rt v) S2 => .ok (.rt v) S2 | .bad => .bad) D := OutS.mono e3 h4
            cases qf : f env1 S2 with
            | bad => rw [qf] at h5; exact h5.elim
            | ok fl S5 =>
              rw [qf] at h5
              cases fl with
              | nx env5 => exact fun ρ6 H6 σ6 e6 r6 he6 => ⟨env5, S5, ρ6, (e2.trans e3).trans e6, r6, he6, OutS.mono e6 h5⟩
              | ct env5 => exact fun ρ6 H6 σ6 e6 r6 he6 => ⟨env5, S5, ρ6, (e2.trans e3).trans e6, r6, he6, OutS.mono e6 h5⟩
              | bk env5 => exact fun ρ6 H6 σ6 e6 r6 he6 => h5 ρ6 H6 σ6 e6 r6 he6
              | rt u => exact fun ρ6 H6 w6 e6 r6 p6 => h5 ρ6 H6 w6 e6 r6 p6

/-! ### while -/
def loopW (t : BF) (body : SF) : Nat → Ev → Sto → R Fl
  | 0, _, _ => .bad
  | n + 1, env, S => (t env S).bind fun k S1 => match k with
    | false => .ok (.nx env) S1
    | true => match body env S1 with
      | .ok (.nx env2) S2 => loopW t body n env2 S2
      | .ok (.ct env2) S2 => loopW t body n env2 S2
      | .ok (.bk env2) S2 => .ok (.nx env2) S2
      | .ok (.rt v) S2 => .ok (.rt v) S2
      | .bad => .bad
def whileMax : Nat := 100000
def mWhile (t : BF) (body : SF) : SF := fun env S => loopW t body whileMax env S
theorem ss_while {t : BF} (hxe : PassesOwn (model X.prog X.w) X.A X.env X.xe) (hc : ST G X c t) (hb : SSs G X body f) : SS G X (.While c body [] pos) (mWhile t f) := by
  intro env S ρ σ H D he hr h
  refine PSw.by (ps_while hxe ptw pssw) ?_
  refine ⟨fun n σ H => ∃ env S ρ, Rel G ρ S H ∧ RepE G ρ H σ env ∧ OutS G ρ H (loopW t f n env S) D, ⟨whileMax, env, S, ρ, hr, he, h⟩, ?_⟩
  rintro n σ2 H2 ⟨env2, S2, ρ2, r2, he2, h2⟩
  cases n with
  | zero => exact h2.elim
  | succ n =>
    have h3 : OutS G ρ2 H2 ((t env2 S2).bind fun k S1 => match k with | false => .ok (.nx env2) S1 | true => (match f env2 S1 with | .ok (.nx env2) S2 => loopW t f n env2 S2 | .ok (.ct env2) S2 => loopW t f n env2 S2 | .ok (.bk env2) S2 => .ok (.nx env2) S2 | .ok (.rt v) S2 => .ok (.rt v) S2 | .bad => .bad)) D := h2
    refine hc env2 S2 ρ2 σ2 H2 _ he2 r2 (OutS.bind h3 fun k S3 ρ3 H3 k' w1 e3 r3 p3 h4 => ?_)
    subst p3
    cases k' with
    | false => exact h4 ρ3 H3 σ2 Ext.refl r3 (he2.mono e3)
    | true =>
      refine ⟨fun σ' H' => ∃ env S ρ, Rel G ρ S H' ∧ RepE G ρ H' σ' env ∧ OutS G ρ H' (loopW t f n env S) D, fun σ' H' hn => ⟨n, Nat.lt_succ_self n, hn⟩, ?_⟩
      refine hb env2 S3 ρ3 σ2 H3 _ (he2.mono e3) r3 ?_
      have h5 : OutS G ρ3 H3 (match f env2 S3 with | .ok (.nx env2) S2 => loopW t f n env2 S2 | .ok (.ct env2) S2 => loopW t f n env2 S2 | .ok (.bk env2) S2 => .ok (.nx env2) S2 | .ok (.rt v) S2 => .ok (.rt v) S2 | .bad => .bad) D := h4
      cases qf : f env2 S3 with
      | bad => rw [qf] at h5; exact h5.elim
      | ok fl S5 =>
        rw [qf] at h5
        cases fl with
        | nx env5 => exact fun ρ6 H6 σ6 e6 r6 he6 => ⟨env5, S5, ρ6, r6, he6, OutS.mono e6 h5⟩
        | ct env5 => exact fun ρ6 H6 σ6 e6 r6 he6 => ⟨env5, S5, ρ6, r6, he6, OutS.mono e6 h5⟩
        | bk env5 => exact fun ρ6 H6 σ6 e6 r6 he6 => h5 ρ6 H6 σ6 e6 r6 he6
        | rt u => exact fun ρ6 H6 w6 e6 r6 p6 => h5 ρ6 H6 w6 e6 r6 p6

/-! ### list comprehensions -/
def wipeE (env : Ev) : List Nat → Ev
  | [] => env
  | v :: vs => (wipeE env vs).set v none
theorem wipeE_length (env : Ev) : ∀ vs : List Nat, (wipeE env vs).length = env.length
  | [] => rfl
  | v :: vs => by unfold wipeE; rw [List.length_set, wipeE_length env vs]
theorem wipeE_some {env : Ev} {i : Nat} {x : Va} : ∀ {vs : List Nat}, (wipeE env vs)[i]? = some (some x) → env[i]? = some (some x) ∧ i ∉ vs
  | [], h => ⟨h, by simp⟩
  | v :: vs, h => by
    unfold wipeE at h
    by_cases hi : v = i
    · subst hi
      by_cases hv : v < (wipeE env vs).length
      · rw [List.getElem?_set_self hv] at h
        cases h
      · rw [List.getElem?_eq_none_iff.mpr (by rw [List.length_set]; omega)] at h
        cases h
    · rw [List.getElem?_set_ne hi] at h
      obtain ⟨h1, h2⟩ := wipeE_some h
      exact ⟨h1, fun z => (List.mem_cons.mp z).elim (fun z => hi z.symm) h2⟩
theorem wipe_at {σ : L2.St} {i : Nat} : ∀ {vs : List Nat}, i ∉ vs → (wipe σ vs)[i]? = σ[i]?
  | [], _ => rfl
  | v :: vs, h => by
    have h1 : v ≠ i := fun e => h (by rw [e]; exact List.mem_cons_self)
    unfold wipe
    rw [List.getElem?_set_ne h1]
    exact wipe_at fun m => h (List.mem_cons_of_mem _ m)
theorem RepE.wipe {ρ : List Addr} {H : Hp} {σ : L2.St} {env : Ev} (r : RepE G ρ H σ env) (vs : List Nat) : RepE G ρ H (wipe σ vs) (wipeE env vs) :=
  ⟨by rw [wipe_length, wipeE_length, r.len], fun i x h => by
    obtain ⟨h1, h2⟩ := wipeE_some h
    obtain ⟨v, a, b⟩ := r.at_ i x h1
    exact ⟨v, by rw [wipe_at h2]; exact a, b⟩⟩
theorem kept_wipe {σ σ' : L2.St} {ids vs : List Nat} (k : Kept ids (wipe σ vs) σ') (hs : ∀ j ∈ ids, j ∈ vs) : wipe σ' vs = wipe σ vs := by
  have hin : ∀ (τ : L2.St) (j : Nat), j ∈ vs → j < τ.length → (wipe τ vs)[j]? = some none := by
    intro τ j hj hl
    induction vs with
    | nil => cases hj
    | cons v r ih =>
      unfold wipe
      by_cases e : v = j
      · subst e
        exact List.getElem?_set_self (by rw [wipe_length]; exact hl)
      · rw [List.getElem?_set_ne e]
        have hj' : j ∈ r := (List.mem_cons.mp hj).elim (fun z => (e z.symm).elim) id
        clear ih hs k hj
        induction r with
        | nil => cases hj'
        | cons v2 r2 ih2 =>
          unfold wipe
          by_cases e2 : v2 = j
          · subst e2
            exact List.getElem?_set_self (by rw [wipe_length]; exact hl)
          · rw [List.getElem?_set_ne e2]
            exact ih2 ((List.mem_cons.mp hj').elim (fun z => (e2 z.symm).elim) id)
  have hl : σ'.length = σ.length := by rw [k.len, wipe_length]
  refine List.ext_getElem? fun j => ?_
  by_cases hj : j ∈ vs
  · by_cases hlt : j < σ.length
    · rw [hin σ' j hj (by rw [hl]; exact hlt), hin σ j hj hlt]
    · rw [List.getElem?_eq_none_iff.mpr (by rw [wipe_length, hl]; omega), List.getElem?_eq_none_iff.mpr (by rw [wipe_length]; omega)]
  · rw [wipe_at hj, k.same j fun z => hj (hs j z)]
def loopC (m : MI) (t : TF) (cond : BF) (elt : EF) (D : Nat) (env : Ev) : Nat → Nat → Sto → R Va
  | 0, _, _ => .bad
  | f + 1, i, S => match m.nx i S with
    | none => .bad
    | some none => .ok (.ref D) S
    | some (some v) => match t v env S with
      | none => .bad
      | some env1 => (cond env1 S).bind fun k S1 => match k with
        | false => loopC m t cond elt D env f (i + 1) S1
        | true => (elt env1 S1).bind fun y S2 => match S2.get D with
          | some (.lst acc) => match Nat.blt acc.length 1000000 with
            | true => loopC m t cond elt D env f (i + 1) (S2.set D (.lst (acc ++ [y])))
            | false => .bad
          | _ => .bad
def mLc (fi : IF) (t : TF) (cond : BF) (elt : EF) (vs : List Nat) : EF := fun env S => (fi env S).bind fun m S1 => loopC m t cond elt S1.n (wipeE env vs) (m.bound + 1) 0 (S1.new (.lst []))
def mYes : BF := fun _ S => .ok true S
/-- judgements within a block: for every entry to it -/
abbrev Blk (X : Cx) (scope : Scope) (P : Cx → Prop) : Prop := ∀ (s : Shared) (H : Hp) (C : Addr) (cl : List (Str × Addr)) (fp : List Addr), P (X.blk s H scope (compEnvC scope cl C X.env) fp)
def PEb (X : Cx) (scope : Scope) (e : Expr) : TE := fun σ H Q => Blk X scope fun Y => PEw Y e σ H Q
def PTb (X : Cx) (scope : Scope) (e : Expr) : TT := fun σ H Q => Blk X scope fun Y => PTw Y e σ H Q
def PGb (X : Cx) (scope : Scope) (e : Expr) : TG := fun v σ H Q => Blk X scope fun Y => PGw Y e v σ H Q
theorem peb {X : Cx} {scope : Scope} {e : Expr} (s : Shared) (H : Hp) (C : Addr) (cl : List (Str × Addr)) (fp : List Addr) : PE (X.blk s H scope (compEnvC scope cl C X.env) fp) e (PEb X scope e) := ⟨fun pins s' _ _ _ I h => h s H C cl fp pins s' I⟩
theorem ptb {X : Cx} {scope : Scope} {e : Expr} (s : Shared) (H : Hp) (C : Addr) (cl : List (Str × Addr)) (fp : List Addr) : PT (X.blk s H scope (compEnvC scope cl C X.env) fp) e (PTb X scope e) := ⟨fun pins s' _ _ _ I h => h s H C cl fp pins s' I⟩
theorem pgb {X : Cx} {scope : Scope} {e : Expr} (s : Shared) (H : Hp) (C : Addr) (cl : List (Str × Addr)) (fp : List Addr) : PG (X.blk s H scope (compEnvC scope cl C X.env) fp) e (PGb X scope e) := ⟨fun pins s' _ _ v u _ I r h => h s H C cl fp pins s' u I r⟩
/-- the comprehension's ifs: none, or one -/
def SIf (G : Cf) (X : Cx) (scope : Scope) (ifs : List Expr) (cond : BF) : Prop := ∃ tt : TT, (Blk X scope fun Y => PTs Y ifs tt) ∧ ∀ (env : Ev) (S : Sto) (ρ : List Addr) (σ : L2.St) (H : Hp) (Q : Bool → Hp → Prop), RepE G ρ H σ env → Rel G ρ S H → Out G PB ρ H (cond env S) Q → tt σ H Q
theorem sif_none {scope : Scope} : SIf G X scope [] mYes := ⟨tYes, fun _ _ _ _ _ => pts_nil, fun env S ρ σ H Q he hr h => Out.ok h hr rfl⟩
theorem sif_one {scope : Scope} {cond : BF} (h : Blk X scope fun Y => ST G Y c cond) : SIf G X scope [c] cond :=
  ⟨PTb X scope c, fun s H C cl fp => pts_one (ptb s H C cl fp), fun env S ρ σ H Q he hr q s H' C cl fp => h s H' C cl fp env S ρ σ H Q he hr q⟩
theorem tlc_of {scope : Scope} {fi : IF} {t : TF} {cond : BF} {fe : EF} {ids vs : List Nat} {tt : TT} {elt : Expr} (hi : SI G X tg iter fi) (hg : Blk X scope fun Y => SG G Y tg t ids)
    (ht : ∀ (env : Ev) (S : Sto) (ρ : List Addr) (σ : L2.St) (H : Hp) (Q : Bool → Hp → Prop), RepE G ρ H σ env → Rel G ρ S H → Out G PB ρ H (cond env S) Q → tt σ H Q)
    (he : Blk X scope fun Y => SE G Y elt fe) (hs : ∀ j ∈ ids, j ∈ vs) {env : Ev} {S : Sto} {ρ : List Addr} {σ : L2.St} {H : Hp} {Q : VK} (hv : RepE G ρ H σ env) (hr : Rel G ρ S H) (h : Out G (PV G) ρ H (mLc fi t cond fe vs env S) Q) :
    tLc (PIw X tg iter) (PGb X scope tg) tt (PEb X scope elt) vs σ H Q := by
  refine hi env S ρ σ H _ hv hr ?_
  unfold mLc at h
  cases q0 : fi env S with
  | bad => rw [q0] at h; exact h.elim
  | ok m S1 =>
    rw [q0] at h
    have h' : Out G (PV G) ρ H (loopC m t cond fe S1.n (wipeE env vs) (m.bound + 1) 0 (S1.new (.lst []))) Q := h
    intro ρ1 H1 J e1 r1 ok D hD
    obtain ⟨r2, e2⟩ := r1.new (o := .lst []) hD (same_upd (o := .lst []) hD) ⟨[], upd_same, .nil⟩
    have hDx : (ρ1 ++ [D])[S1.n]? = some D := by rw [← r1.len]; simp
    refine ⟨fun i n H => ∃ S ρ, Ext G (ρ1 ++ [D]) (upd H1 D (.lst [])) ρ H ∧ Rel G ρ S H ∧ Out G (PV G) ρ H (loopC m t cond fe S1.n (wipeE env vs) n i S) Q,
      ⟨m.bound + 1, S1.new (.lst []), ρ1 ++ [D], Ext.refl, r2, Out.mono (e1.trans e2) h'⟩, ?_⟩
    rintro i n H3 ⟨S3, ρ3, e3, r3, h3⟩
    cases n with
    | zero => exact h3.elim
    | succ n =>
      have hj := ok i ρ3 S3 H3 (e2.trans e3) r3
      have h4 : Out G (PV G) ρ3 H3 (match m.nx i S3 with | none => .bad | some none => .ok (.ref S1.n) S3 | some (some v) => (match t v (wipeE env vs) S3 with | none => .bad | some env1 => (cond env1 S3).bind fun k S1' => match k with | false => loopC m t cond fe S1.n (wipeE env vs) n (i + 1) S1' | true => (fe env1 S1').bind fun y S2 => match S2.get S1.n with | some (.lst acc) => (match Nat.blt acc.length 1000000 with | true => loopC m t cond fe S1.n (wipeE env vs) n (i + 1) (S2.set S1.n (.lst (acc ++ [y]))) | false => .bad) | _ => .bad)) Q := h3
      cases q : m.nx i S3 with
      | none => rw [q] at h4; exact h4.elim
      | some w =>
        rw [q] at h4 hj
        cases w with
        | none => exact .inl ⟨hj, Out.ok h4 r3 (.ref (e3.at hDx))⟩
        | some v =>
          obtain ⟨go, yl⟩ := hj
          refine .inr ⟨go, fun H' => ∃ S ρ, Ext G (ρ1 ++ [D]) (upd H1 D (.lst [])) ρ H' ∧ Rel G ρ S H' ∧ Out G (PV G) ρ H' (loopC m t cond fe S1.n (wipeE env vs) n (i + 1) S) Q, fun H' hn => ⟨n, Nat.lt_succ_self n, hn⟩, fun x H5 hy => ?_⟩
          obtain ⟨r5, e5, rx⟩ := yl x H5 hy
          have h5 : Out G (PV G) ρ3 H3 (match t v (wipeE env vs) S3 with | none => .bad | some env1 => (cond env1 S3).bind fun k S1' => match k with | false => loopC m t cond fe S1.n (wipeE env vs) n (i + 1) S1' | true => (fe env1 S1').bind fun y S2 => match S2.get S1.n with | some (.lst acc) => (match Nat.blt acc.length 1000000 with | true => loopC m t cond fe S1.n (wipeE env vs) n (i + 1) (S2.set S1.n (.lst (acc ++ [y]))) | false => .bad) | _ => .bad) Q := h4
          cases qt : t v (wipeE env vs) S3 with
          | none => rw [qt] at h5; exact h5.elim
          | some env1 =>
            rw [qt] at h5
            have hvw : RepE G ρ3 H5 (wipe σ vs) (wipeE env vs) := ((hv.mono (((e1.trans e2).trans e3).trans e5))).wipe vs
            intro s0 H0 C cl fp
            refine hg s0 H0 C cl fp v x (wipeE env vs) env1 S3 ρ3 (wipe σ vs) H5 _ hvw r5 rx qt fun σ6 he6 k6 => ⟨kept_wipe k6 hs, ?_⟩
            have h6 := Out.mono e5 h5
            refine ht env1 S3 ρ3 σ6 H5 _ he6 r5 (Out.bind h6 fun kb S7 ρ7 H7 kb' w7 e7 r7 p7 h7 => ?_)
            subst p7
            cases kb' with
            | false => exact ⟨S7, ρ7, (e3.trans e5).trans e7, r7, h7⟩
            | true =>
              intro s1 H1' C1 cl1 fp1
              refine he s1 H1' C1 cl1 fp1 env1 S7 ρ7 σ6 H7 _ (he6.mono e7) r7 (Out.bind h7 fun y S8 ρ8 H8 u w8 e8 r8 p8 h8 => ?_)
              cases g : S8.get S1.n with
              | none => rw [g] at h8; exact h8.elim
              | some ob =>
                rw [g] at h8
                cases ob with
                | lst acc =>
                  have h9 : Out G (PV G) ρ8 H8 (match Nat.blt acc.length 1000000 with | true => loopC m t cond fe S1.n (wipeE env vs) n (i + 1) (S8.set S1.n (.lst (acc ++ [y]))) | false => .bad) Q := h8
                  cases qb : Nat.blt acc.length 1000000 with
                  | false => rw [qb] at h9; exact h9.elim
                  | true =>
                    rw [qb] at h9
                    have eall := ((e3.trans e5).trans e7).trans e8
                    obtain ⟨ys, f1, ry⟩ := r8.lst g (eall.at hDx)
                    refine ⟨ys, f1, by rw [ry.length]; exact blt_line qb, ?_⟩
                    obtain ⟨r9, e9⟩ := r8.put (o := .lst (acc ++ [y])) (u := .lst (ys ++ [u])) (eall.at hDx) ⟨_, f1, trivial⟩ fun e => ⟨_, upd_same, (ry.append (.cons p8 .nil)).mono e⟩
                    exact ⟨_, ρ8, eall.trans e9, r9, Out.mono e9 h9⟩
                | _ => exact h8.elim
theorem GC.blk {C : CO} {k : Nat} {T : Tab} (g : GC G X C k T) (s : Shared) (H : Hp) (scope : Scope) (a : Addr) (cl : List (Str × Addr)) (fp : List Addr) : GC G (X.blk s H scope (compEnvC scope cl a X.env) fp) C k T :=
  ⟨⟨g.gx.ok, g.gx.hK, g.gx.nd, g.gx.calm, g.gx.hu⟩, g.room, fun j hj => (g.cal j hj).casesOn fun ex fl => ⟨ex, fl⟩, g.fn, g.mt, g.mker, g.fr, g.cv⟩
/-- within a block, with the calls -/
abbrev BlkC (G : Cf) (X : Cx) (C : CO) (k : Nat) (T : Tab) (scope : Scope) (P : Cx → Prop) : Prop := Blk X scope fun Y => GC G Y C k T → P Y
theorem BlkC.of {C : CO} {k : Nat} {T : Tab} {scope : Scope} {P : Cx → Prop} (gc : GC G X C k T) (h : BlkC G X C k T scope P) : Blk X scope P := fun s H a cl fp => h s H a cl fp (gc.blk s H scope a cl fp)
theorem sif_oneC {C : CO} {k : Nat} {T : Tab} {scope : Scope} {cond : BF} (gc : GC G X C k T) (h : BlkC G X C k T scope fun Y => ST G Y c cond) : SIf G X scope [c] cond := sif_one (BlkC.of gc h)
theorem se_lc {C : CO} {k : Nat} {T : Tab} {scope : Scope} {own : List (Str × Nat)} {fi : IF} {t : TF} {cond : BF} {fe : EF} {ids : List Nat} {ifs : List Expr} {elt : Expr} (gc : GC G X C k T) (ok : BlkOk X.N X.env.scope scope own) (hi : SI G X tg iter fi) (hg : BlkC G X C k T scope fun Y => SG G Y tg t ids)
    (ht : SIf G X scope ifs cond) (he : BlkC G X C k T scope fun Y => SE G Y elt fe) (hs : ∀ j ∈ ids, j ∈ own.map (·.2)) (hf : ∀ x, foldedSetIterable iter X.env x = pure x) :
    SE G X (.ListComp elt [⟨tg, iter, ifs, 0⟩] scope pos) (mLc fi t cond fe (own.map (·.2))) := by
  intro env S ρ σ H Q hv hr h
  obtain ⟨tt, pt, qt⟩ := ht
  exact PEw.by (pe_lc gc.gx.calm gc.gx.nd piw ok pgb pt peb hf) (tlc_of hi (BlkC.of gc hg) qt (BlkC.of gc he) hs hv hr h)
theorem ss_setLc {C : CO} {k : Nat} {T : Tab} {scope : Scope} {own : List (Str × Nat)} {fi : IF} {t : TF} {cond : BF} {fe : EF} {ids : List Nat} {ifs : List Expr} {elt : Expr} {i : Nat} {y : Str} {py spos : Pos} (gc : GC G X C k T) (hy : X.N[i]? = some y) (hyl : X.env.scope.names.lookup y = some .local)
    (hsw : swapsWith (.ListComp elt [⟨tg, iter, ifs, 0⟩] scope pos) (some (.Name y py)) spos.line X.env = pure true) (ok : BlkOk X.N X.env.scope scope own) (hi : SI G X tg iter fi) (hg : BlkC G X C k T scope fun Y => SG G Y tg t ids)
    (ht : SIf G X scope ifs cond) (he : BlkC G X C k T scope fun Y => SE G Y elt fe) (hs : ∀ j ∈ ids, j ∈ own.map (·.2)) (hf : ∀ x, foldedSetIterable iter X.env x = pure x) :
    SS G X (.Assign [.Name y py] (.ListComp elt [⟨tg, iter, ifs, 0⟩] scope pos) spos) (mSet (tNm i) (mLc fi t cond fe (own.map (·.2)))) := by
  intro env S ρ σ H D hv hr h
  obtain ⟨tt, pt, qt⟩ := ht
  refine PSw.by (ps_setLc gc.gx.calm gc.gx.nd hy hyl hsw piw ok pgb pt peb hf) (tlc_of hi (BlkC.of gc hg) qt (BlkC.of gc he) hs hv hr (OutS.bind h fun x S1 ρ1 H1 v w1 e1 r1 p1 h1 => ?_))
  exact h1 ρ1 H1 _ Ext.refl r1 ((hv.mono e1).set p1 i)
end
end Mi
/-! A program of such defs; every def keeps its promise at every depth; a law's end. -/
namespace Mi
open PySem PySem.Spec PyProof.Rows L2

/-- a def: how many parameters, how many slots, its body over the calls -/
structure Df where
  np : Nat
  ns : Nat
  body : CO → SF
def startE (n : Nat) (args : List Va) : Ev := args.map some ++ List.replicate (n - args.length) none
def runB (r : R Fl) : R Va := match r with
  | .ok (.rt v) S => .ok v S
  | .ok (.nx _) S => .ok .non S
  | _ => .bad
def callF (P : Nat → Option Df) : Nat → CO
  | 0 => fun _ _ _ => .bad
  | d + 1 => fun j args S => match P j with
    | some df => match Nat.beq args.length df.np with
      | true => runB (df.body (callF P d) (startE df.ns args) S)
      | false => .bad
    | none => .bad
theorem callF_len {P : Nat → Option Df} {j : Nat} {df : Df} (hj : P j = some df) : ∀ (d : Nat) (args : List Va) (S : Sto) (a : Va) (S' : Sto), callF P d j args S = .ok a S' → args.length = df.np
  | 0, _, _, _, _, h => by cases h
  | d + 1, args, S, a, S', h => by
    have h' : (match P j with | some df => (match Nat.beq args.length df.np with | true => runB (df.body (callF P d) (startE df.ns args) S) | false => .bad) | none => .bad) = R.ok a S' := h
    rw [hj] at h'
    have h2 : (match Nat.beq args.length df.np with | true => runB (df.body (callF P d) (startE df.ns args) S) | false => .bad) = R.ok a S' := h'
    cases q : Nat.beq args.length df.np with
    | false => rw [q] at h2; cases h2
    | true => exact Nat.eq_of_beq_eq_true q
theorem repE_start {G : Cf} {ρ : List Addr} {H : Hp} {N : List Str} {vs : List V} {args : List Va} (r : Reps G ρ H vs args) (hl : vs.length ≤ N.length) : RepE G ρ H (L2.start N vs) (startE N.length args) := by
  refine ⟨?_, fun i x h => ?_⟩
  · unfold L2.start startE
    rw [List.length_append, List.length_append, List.length_map, List.length_map, List.length_replicate, List.length_replicate, r.length]
  · unfold startE at h
    by_cases hi : i < args.length
    · rw [List.getElem?_append_left (by rw [List.length_map]; exact hi), List.getElem?_map] at h
      cases q : args[i]? with
      | none => rw [q] at h; cases h
      | some y =>
        rw [q] at h
        cases h
        obtain ⟨v, hv, p⟩ := r.get q
        refine ⟨v, ?_, p⟩
        unfold L2.start
        rw [List.getElem?_append_left (by rw [List.length_map, r.length]; exact hi), List.getElem?_map, hv]
        rfl
    · rw [List.getElem?_append_right (by rw [List.length_map]; omega), List.getElem?_replicate] at h
      split at h <;> cases h
/-- a def's context: nothing is raised -/
abbrev XX (P : Program) (w : World) (K : PySem.W.Frag) (mg : Str → Option Value) (base : Heap) (N : List Str) (qual : Str) (scope : Scope) (f : Addr) (cd : Value) (A : Around) (outer : List Env) (s : Shared) (H : Hp) (E : XK) : Cx :=
  (cxOf CX0 P w K mg base N qual scope f cd A outer s H E).nox
theorem out_run {G : Cf} {ρ : List Addr} {H : Hp} {r : R Fl} {Q : VK} (h : Out G (PV G) ρ H (runB r) Q) : OutS G ρ H r { nx := fun _ H' => Q .non H', rt := Q } := by
  cases r with
  | bad => exact h
  | ok fl S => cases fl with
    | nx env => exact fun ρ' H' σ' e rl re => h ρ' H' .non e rl .non
    | rt v => exact fun ρ' H' u e rl p => h ρ' H' u e rl p
    | bk env => exact h.elim
    | ct env => exact h.elim
theorem fn_ok {G : Cf} {T : Tab} {Pr : Nat → Option Df} {P : Program} {w : World} {K : PySem.W.Frag} {mg : Str → Option Value} {base : Heap} {x qual : Str} {params : Arguments} {body : List Stmt} {scope : Scope} {dvs : List V} {kws : List (Str × V)} {f : Addr} {fd : FuncData} {N ps : List Str} {j d : Nat} {df : Df}
    (F : FunD K x qual params body scope dvs kws f fd) (S : FnScope N ps scope) (hP : Pr j = some df) (hn : N.length = df.ns) (hp : ps.length = df.np)
    (gcs : ∀ (cdv : Value) (A : Around) (outer : List Env) (s : Shared) (H : Hp) (E : XK), Room (2 * d + 1) (A.deeper (envOfC qual scope s.heap.objs.size f cdv)) → GC G (XX P w K mg base N qual scope f cdv A outer s H E) (callF Pr d) (2 * d) T)
    (hb : ∀ (cdv : Value) (A : Around) (outer : List Env) (s : Shared) (H : Hp) (E : XK) (C : CO) (k : Nat), GC G (XX P w K mg base N qual scope f cdv A outer s H E) C k T → SSs G (XX P w K mg base N qual scope f cdv A outer s H E) body (df.body C)) :
    FnOk P w K mg base CX0 (2 * (d + 1)) f fd ps (spOf G (callF Pr (d + 1)) df.np j) := by
  refine F.ok (k := 2 * d + 1) S (fun vs H Q E h => by rw [hp]; exact h.1) fun cdv A outer s H vs Q E hr hsp => ?_
  obtain ⟨hl, ρ, S0, args, rl, rs, o⟩ := hsp
  refine ⟨_, PSs.nox pssw, ?_⟩
  have ha : args.length = df.np := by rw [← rs.length]; exact hl
  have o' : Out G (PV G) ρ H (match Pr j with | some df => (match Nat.beq args.length df.np with | true => runB (df.body (callF Pr d) (startE df.ns args) S0) | false => .bad) | none => .bad) Q := o
  rw [hP] at o'
  have o2 : Out G (PV G) ρ H (match Nat.beq args.length df.np with | true => runB (df.body (callF Pr d) (startE df.ns args) S0) | false => .bad) Q := o'
  rw [beqT ha] at o2
  have hle : vs.length ≤ N.length := by
    have := congrArg List.length S.pre
    rw [List.length_take] at this
    omega
  have hre : RepE G ρ H (L2.start N vs) (startE df.ns args) := by rw [← hn]; exact repE_start rs hle
  exact hb cdv A outer s H E (callF Pr d) (2 * d) (gcs cdv A outer s H E hr) _ _ ρ _ H _ hre rl (out_run o2)

/-! ### all defs at once -/
/-- a def of the text: where it stands; its names; its function -/
structure Fact (G : Cf) (T : Tab) (Pr : Nat → Option Df) (P : Program) (w : World) (K : PySem.W.Frag) (mg : Str → Option Value) (j : Nat) : Prop where
  ok : ∃ (x qual : Str) (params : Arguments) (body : List Stmt) (scope : Scope) (dvs : List V) (kws : List (Str × V)) (fd : FuncData) (N ps : List Str) (df : Df) (ds : List Value),
    FunD K x qual params body scope dvs kws (T.fA j) fd ∧ FnScope N ps scope ∧ Pr j = some df ∧ N.length = df.ns ∧ ps.length = df.np ∧ Binds K fd ps ds ∧ Vals ((T.dx j).map flatD) ds ∧ (T.dx j).all flatA = true ∧
    ∀ (base : Heap) (cdv : Value) (A : Around) (outer : List Env) (s : Shared) (H : Hp) (E : XK) (C : CO) (k : Nat), GC G (XX P w K mg base N qual scope (T.fA j) cdv A outer s H E) C k T → SSs G (XX P w K mg base N qual scope (T.fA j) cdv A outer s H E) body (df.body C)
/-- what of the text's globals and classes is known -/
structure Glob (G : Cf) (T : Tab) (K : PySem.W.Frag) (mg : Str → Option Value) : Prop where
  ok : G.Ok
  hK : K = G.K
  fn : ∀ j x, T.fname j = some x → T.has j = true ∧ mg x = some (.ref (T.fA j)) ∧ PySem.W.keepIn K (.ref (T.fA j)) = true
  mt : ∀ i c m j, T.mth i = some (c, m, j) → T.has j = true ∧ Meth K (G.cA c) m (T.fA j) ∧ (∀ i, G.fN i ≠ m) ∧ Cls G.K (G.cA c)
  mker : ∀ c x, T.cname c = some x → T.has (T.init c) = true ∧ mg x = some (.ref (G.cA c)) ∧ Mk K (G.cA c) (T.fA (T.init c)) ∧ Cls G.K (G.cA c)
  fr : ∀ i x, T.free i = some x → mg x = none
  cv : ∀ i x v, T.cv i = some (x, v) → CvOk G mg x v
theorem gc_of {G : Cf} {T : Tab} {C : CO} {k : Nat} {P : Program} {w : World} {K : PySem.W.Frag} {mg : Str → Option Value} {base : Heap} {N ps : List Str} {qual : Str} {scope : Scope} {f : Addr} {cd : Value} {A : Around} {outer : List Env} {s : Shared} {H : Hp} {E : XK}
    (g : Glob G T K mg) (S : FnScope N ps scope) (hr : Room (k + 1) (A.deeper (envOfC qual scope s.heap.objs.size f cd))) (hc : ∀ (X : Cx), X.prog = P → X.w = w → X.K = K → X.mg = mg → X.base = base → ∀ j, T.has j = true → Cal G X C k j (T.fA j) (T.dx j)) :
    GC G (XX P w K mg base N qual scope f cd A outer s H E) C k T where
  gx := ⟨g.ok, g.hK, S.nd, rfl, by
    have h := hr.un
    show (A.deeper (envOfC qual scope s.heap.objs.size f cd)).units + 65 < cLine
    omega⟩
  room := hr
  cal := hc _ rfl rfl rfl rfl rfl
  fn := g.fn
  mt := g.mt
  mker := g.mker
  fr := g.fr
  cv := g.cv
theorem cals {G : Cf} {T : Tab} {Pr : Nat → Option Df} {P : Program} {w : World} {K : PySem.W.Frag} {mg : Str → Option Value} (g : Glob G T K mg) (hF : ∀ j, T.has j = true → Fact G T Pr P w K mg j) (base : Heap) :
    ∀ (d : Nat) (X : Cx), X.prog = P → X.w = w → X.K = K → X.mg = mg → X.base = base → ∀ j, T.has j = true → Cal G X (callF Pr d) (2 * d) j (T.fA j) (T.dx j) := by
  intro d
  induction d with
  | zero =>
    intro X h1 h2 h3 h4 h5 j hj
    subst h1 h2 h3 h4 h5
    obtain ⟨x, qual, params, body, scope, dvs, kws, fd, N, ps, df, ds, F, S, hP, hn, hp, hb, hv, hfl, _⟩ := (hF j hj).ok
    have hno : ∀ vs H Q E, ¬ spOf G (callF Pr 0) df.np j vs H Q E := fun vs H Q E ⟨_, ρ, S0, args, _, _, o⟩ => o
    exact ⟨⟨fd, ps, df.np, ds, ⟨fun vs H Q E h => (hno _ _ _ _ h).elim, fun A outer s H args us vs Q E _ _ _ _ h => (hno _ _ _ _ h).elim⟩, hb, hv, fun args S a S' => callF_len hP 0 args S a S'⟩, hfl⟩
  | succ d ih =>
    intro X h1 h2 h3 h4 h5 j hj
    subst h1 h2 h3 h4 h5
    obtain ⟨x, qual, params, body, scope, dvs, kws, fd, N, ps, df, ds, F, S, hP, hn, hp, hb, hv, hfl, hbody⟩ := (hF j hj).ok
    exact ⟨⟨fd, ps, df.np, ds, fn_ok (d := d) F S hP hn hp (fun cdv A outer s H E hr => gc_of g S hr ih) fun cdv A outer s H E C k gc => hbody X.base cdv A outer s H E C k gc, hb, hv, fun args S a S' => callF_len hP (d + 1) args S a S'⟩, hfl⟩
/-- the law's def, at depth d -/
theorem law_fn {G : Cf} {T : Tab} {Pr : Nat → Option Df} {P : Program} {w : World} {K : PySem.W.Frag} {mg : Str → Option Value} (g : Glob G T K mg) (hF : ∀ j, T.has j = true → Fact G T Pr P w K mg j) {j : Nat} (hj : T.has j = true) (d : Nat)
    {x qual : Str} {params : Arguments} {body : List Stmt} {scope : Scope} {dvs : List V} {kws : List (Str × V)} {fd : FuncData} {N ps : List Str} {df : Df} (F : FunD K x qual params body scope dvs kws (T.fA j) fd) (S : FnScope N ps scope) (hP : Pr j = some df) (hn : N.length = df.ns) (hp : ps.length = df.np)
    (hb : ∀ (base : Heap) (cdv : Value) (A : Around) (outer : List Env) (s : Shared) (H : Hp) (E : XK) (C : CO) (k : Nat), GC G (XX P w K mg base N qual scope (T.fA j) cdv A outer s H E) C k T → SSs G (XX P w K mg base N qual scope (T.fA j) cdv A outer s H E) body (df.body C)) (base : Heap) :
    FnOk P w K mg base CX0 (2 * (d + 1)) (T.fA j) fd ps (spOf G (callF Pr (d + 1)) df.np j) :=
  fn_ok F S hP hn hp (fun cdv A outer s H E hr => gc_of g S hr (cals g hF base d)) (hb base)
/-- a script, locked -/
theorem sqF_only {K : PySem.W.Frag} {H : Hp} {a : Addr} {xs : List V} (hO : Only H) (h : SqL K H a xs) : SqF K H a xs := by
  rcases h with (h | h) | h
  · rcases hO a with e | ⟨o, ys, e⟩
    · rw [e] at h; cases h
    · rw [e] at h; cases h
  · exact .inl h
  · exact .inr h
theorem reps_ints {G : Cf} {ρ : List Addr} {H : Hp} : ∀ ns : List Int, Reps G ρ H (ns.map V.int) (ns.map Va.int)
  | [] => .nil
  | n :: ns => .cons (.int n) (reps_ints ns)
/-- the law's promise, from the plain law -/
theorem law_sp {G : Cf} {Pr : Nat → Option Df} {d j : Nat} (hlaw : ∀ ns : List Int, ns.length ≤ 63 → ∃ S, callF Pr d j [.fro (ns.map Va.int)] ⟨0, .nil⟩ = .ok (.bl true) S) {H : Hp} {a : Addr} {ns : List Int} (hl : ns.length ≤ 63) (hO : Only H) (hS : SqL G.K H a (ns.map V.int)) :
    spOf G (callF Pr d) 1 j [.ref a] H (fun v _ => v = .bl true) fun _ _ _ => False := by
  obtain ⟨S, e⟩ := hlaw ns hl
  refine ⟨rfl, [], ⟨0, .nil⟩, [.fro (ns.map Va.int)], ⟨rfl, List.nodup_nil, fun i b h => by simp at h⟩, .cons (.fro (sqF_only hO hS) (reps_ints ns)) .nil, ?_⟩
  rw [e]
  intro ρ' H' u _ _ p
  cases p
  rfl
end Mi
/-! From a head's facts to the table of a program. -/
namespace Mi
open PySem PySem.Spec PyProof.Rows L2

/-- names by place; a name that no text has behind the end -/
def fNof (l : List Str) (j : Nat) : Str := match l[j]? with
  | some x => x
  | none => ⟨#[0, j]⟩
def head0 (x : Str) : Bool := match x.cps.toList with
  | 0 :: _ => true
  | _ => false
theorem fNof_none {l : List Str} {j : Nat} (h : l[j]? = none) : fNof l j = ⟨#[0, j]⟩ := by
  unfold fNof
  rw [h]
theorem fNof_some {l : List Str} {j : Nat} {x : Str} (h : l[j]? = some x) : fNof l j = x := by
  unfold fNof
  rw [h]
theorem fNof_inj {l : List Str} (h : l.Nodup) (h0 : ∀ x ∈ l, head0 x = false) (i j : Nat) (e : fNof l i = fNof l j) : i = j := by
  cases qi : l[i]? with
  | some x =>
    rw [fNof_some qi] at e
    cases qj : l[j]? with
    | some y =>
      rw [fNof_some qj] at e
      subst e
      obtain ⟨h1, e1⟩ := List.getElem?_eq_some_iff.mp qi
      obtain ⟨h2, e2⟩ := List.getElem?_eq_some_iff.mp qj
      exact (List.getElem_inj h).mp (e1.trans e2.symm)
    | none =>
      rw [fNof_none qj] at e
      have := h0 x (List.mem_of_getElem? qi)
      rw [e] at this
      cases this
  | none =>
    rw [fNof_none qi] at e
    cases qj : l[j]? with
    | some y =>
      rw [fNof_some qj] at e
      have := h0 y (List.mem_of_getElem? qj)
      rw [← e] at this
      cases this
    | none =>
      rw [fNof_none qj] at e
      have e2 := congrArg (fun z : Str => z.cps.toList) e
      have e3 : [0, i] = [0, j] := e2
      simpa using e3
theorem fNof_ne {l : List Str} {m : Str} (h : m ∉ l) (h0 : head0 m = false) (i : Nat) : fNof l i ≠ m := by
  intro e
  cases qi : l[i]? with
  | some x =>
    rw [fNof_some qi] at e
    subst e
    exact h (List.mem_of_getElem? qi)
  | none =>
    rw [fNof_none qi] at e
    subst e
    cases h0

/-- a program's tables -/
structure Dt where
  fields : List Str
  cnames : List Str
  naL : List (Nat × Nat)
  mths : List (Nat × Str × Nat)
  frees : List Str
  cvs : List (Str × Va)
  fats : List (Str × Option Str)
  dxs : List (Nat × List Va)
  inits : List Nat
  has : List Nat
def Dt.cn (D : Dt) (c : Nat) : Str := D.cnames.getD c Str.empty
def Dt.fat (D : Dt) (j : Nat) : Str × Option Str := D.fats.getD j (Str.empty, none)
def inL (j : Nat) : List Nat → Bool
  | [] => false
  | a :: r => match Nat.beq a j with
    | true => true
    | false => inL j r
def inL2 (c j : Nat) : List (Nat × Nat) → Bool
  | [] => false
  | a :: r => match Nat.beq a.1 c && Nat.beq a.2 j with
    | true => true
    | false => inL2 c j r
def dxOf (j : Nat) : List (Nat × List Va) → List Va
  | [] => []
  | a :: r => match Nat.beq a.1 j with
    | true => a.2
    | false => dxOf j r
theorem inL_mem {j : Nat} : ∀ {l : List Nat}, inL j l = true → j ∈ l
  | [], h => by cases h
  | a :: r, h => by
    unfold inL at h
    cases q : Nat.beq a j with
    | true => rw [Nat.eq_of_beq_eq_true q]; exact List.mem_cons_self
    | false => rw [q] at h; exact List.mem_cons_of_mem _ (inL_mem h)
theorem inL2_mem {c j : Nat} : ∀ {l : List (Nat × Nat)}, inL2 c j l = true → (c, j) ∈ l
  | [], h => by cases h
  | a :: r, h => by
    unfold inL2 at h
    cases q : Nat.beq a.1 c && Nat.beq a.2 j with
    | true =>
      obtain ⟨q1, q2⟩ := Bool.and_eq_true_iff.mp q
      have e : a = (c, j) := Prod.ext (Nat.eq_of_beq_eq_true q1) (Nat.eq_of_beq_eq_true q2)
      rw [e]
      exact List.mem_cons_self
    | false => rw [q] at h; exact List.mem_cons_of_mem _ (inL2_mem h)
def Dt.G (D : Dt) (K : PySem.W.Frag) : Cf := ⟨K, fun c => He.ga K (D.cn c), fNof D.fields, fun c j => inL2 c j D.naL⟩
def Dt.fn (D : Dt) (j : Nat) : Option Str := match inL j D.has with
  | true => match D.fat j with
    | (x, none) => some x
    | _ => none
  | false => none
def Dt.T (D : Dt) (K : PySem.W.Frag) : Tab where
  fA := fun j => He.fAd K (D.fat j)
  dx := fun j => dxOf j D.dxs
  fname := D.fn
  mth := fun i => D.mths[i]?
  cname := fun c => D.cnames[c]?
  init := fun c => D.inits.getD c 0
  free := fun i => D.frees[i]?
  cv := fun i => D.cvs[i]?
  has := fun j => inL j D.has
def glosOf (D : Dt) (j : Nat) : List He.Fa := match D.fat j with
  | (x, none) => [.glo x, .keep x]
  | _ => []
def cvFa : Str × Va → List He.Fa
  | (x, .int i) => [.int x i]
  | (x, .str y) => [.str x y]
  | (x, .tup _) => [.glo x]
  | _ => []
def dvOf : Va → He.Dv
  | .bl b => .bl b
  | .int i => .int i
  | .str x => .str x
  | _ => .non
/-- the constants that are tuples -/
def Dt.ex (D : Dt) (K : PySem.W.Frag) : Bool := D.cvs.all fun q => match q.2 with
  | .int _ => true
  | .str _ => true
  | .tup xs => He.tupB K q.1 (xs.map dvOf) && xs.all flatA
  | _ => false
def Dt.fa (D : Dt) : List He.Fa :=
  D.frees.map He.Fa.free ++ D.has.flatMap (glosOf D) ++ D.cnames.flatMap (fun x => [.glo x, .cls x, .mkr x]) ++ D.naL.map (fun q => .noat (D.cn q.1) (fNof D.fields q.2)) ++
  D.mths.map (fun q => .meth (D.cn q.1) q.2.1) ++ D.cvs.flatMap cvFa
def Dt.check (D : Dt) : Bool :=
  decide D.fields.Nodup && (D.fields.all fun x => !head0 x) && (D.mths.all fun q => inL q.2.2 D.has && decide (D.fat q.2.2 = (D.cn q.1, some q.2.1)) && !(D.fields.contains q.2.1) && !head0 q.2.1 && Nat.blt q.1 D.cnames.length) &&
  ((List.range D.cnames.length).all fun c => inL (D.inits.getD c 0) D.has && decide (D.fat (D.inits.getD c 0) = (D.cn c, some ("__init__" : Str))))
theorem mg_ref {K : PySem.W.Frag} {x : Str} (c : (He.Fa.glo x).ok K = true) {h : Heap} {mg : Str → Option Value} (X : K.In h) (N : h.Ns mainGlobals mg) : mg x = some (.ref (He.ga K x)) := He.glo_ok X N c
theorem relV_dv {K : PySem.W.Frag} {G : Cf} {ρ : List Addr} {H : Hp} : ∀ {xs : List Va}, xs.all flatA = true → Reps G ρ H ((xs.map dvOf).map (He.Dv.v K)) xs
  | [], _ => .nil
  | x :: xs, h => by
    rw [List.all_cons, Bool.and_eq_true] at h
    refine .cons ?_ (relV_dv h.2)
    cases x <;> first | exact .non | exact .bl _ | exact .int _ | exact .str _ | cases h.1
theorem Dt.glob (D : Dt) (hc : D.check = true) {K : PySem.W.Frag} {h : Heap} {mg : Str → Option Value} (hf : ∀ f ∈ D.fa, f.ok K = true) (he : D.ex K = true) (X : K.In h) (N : h.Ns mainGlobals mg) : Glob (D.G K) (D.T K) K mg := by
  unfold Dt.check at hc
  simp only [Bool.and_eq_true, decide_eq_true_eq, List.all_eq_true, Bool.not_eq_true'] at hc
  obtain ⟨⟨⟨c1, c2⟩, c3⟩, c4⟩ := hc
  have fr : ∀ x ∈ D.frees, mg x = none := fun x hx => He.free_ok X N (hf (.free x) (by
    unfold Dt.fa
    simp only [List.mem_append, List.mem_map]
    exact .inl (.inl (.inl (.inl (.inl ⟨x, hx, rfl⟩))))))
  have cl : ∀ x ∈ D.cnames, (He.Fa.glo x).ok K = true ∧ (He.Fa.cls x).ok K = true ∧ (He.Fa.mkr x).ok K = true := fun x hx => by
    have m : ∀ f ∈ ([.glo x, .cls x, .mkr x] : List He.Fa), f ∈ D.fa := fun f hfm => by
      unfold Dt.fa
      simp only [List.mem_append, List.mem_flatMap]
      exact .inl (.inl (.inl (.inr ⟨x, hx, hfm⟩)))
    exact ⟨hf _ (m _ (by simp)), hf _ (m _ (by simp)), hf _ (m _ (by simp))⟩
  have cnm : ∀ c, c < D.cnames.length → D.cn c ∈ D.cnames := fun c hc => by
    unfold Dt.cn
    rw [List.getD_eq_getElem?_getD, List.getElem?_eq_getElem hc]
    exact List.getElem_mem hc
  refine ⟨⟨fNof_inj c1 fun x hx => c2 x hx, fun C j hj => ?_⟩, rfl, fun j x hj => ?_, fun i c m j hi => ?_, fun c x hc => ?_, fun i x hi => fr x (List.mem_of_getElem? hi), fun i x v hi => ?_⟩
  · exact He.noat_ok (hf (.noat (D.cn C) (fNof D.fields j)) (by
      unfold Dt.fa
      simp only [List.mem_append, List.mem_map]
      exact .inl (.inl (.inr ⟨(C, j), inL2_mem hj, rfl⟩))))
  · have hj' : (match inL j D.has with | true => (match D.fat j with | (x, none) => some x | _ => none) | false => none) = some x := hj
    cases q : inL j D.has with
    | false => rw [q] at hj'; cases hj'
    | true =>
      rw [q] at hj'
      have h2 : (match D.fat j with | (x, none) => some x | _ => none) = some x := hj'
      obtain ⟨y, o⟩ : Str × Option Str := D.fat j
      cases e : D.fat j with
      | mk y o =>
        rw [e] at h2
        cases o with
        | some m => cases h2
        | none =>
          have e2 : y = x := Option.some.inj h2
          subst e2
          have m : ∀ f ∈ ([.glo y, .keep y] : List He.Fa), f ∈ D.fa := fun f hfm => by
            unfold Dt.fa
            simp only [List.mem_append, List.mem_flatMap]
            exact .inl (.inl (.inl (.inl (.inr ⟨j, inL_mem q, by unfold glosOf; rw [e]; exact hfm⟩))))
          refine ⟨q, ?_, ?_⟩
          · show mg y = some (.ref (He.fAd K (D.fat j)))
            rw [e]
            exact He.glo_ok X N (hf _ (m _ (by simp)))
          · show PySem.W.keepIn K (.ref (He.fAd K (D.fat j))) = true
            rw [e]
            exact He.keep_ok (hf _ (m (.keep y) (by simp)))
  · have hm := List.mem_of_getElem? (show D.mths[i]? = some (c, m, j) from hi)
    obtain ⟨⟨⟨⟨m1, m2⟩, m3⟩, m4⟩, m5⟩ := c3 _ hm
    refine ⟨m1, ?_, fun i => fNof_ne (fun z => by simp [z] at m3) m4 i, He.cls_ok (cl _ (cnm c (Nat.le_of_ble_eq_true m5))).2.1⟩
    show Meth K (He.ga K (D.cn c)) m (He.fAd K (D.fat j))
    rw [show D.fat j = (D.cn c, some m) from m2]
    exact He.meth_ok (hf (.meth (D.cn c) m) (by
      unfold Dt.fa
      simp only [List.mem_append, List.mem_map]
      exact .inl (.inr ⟨(c, m, j), hm, rfl⟩)))
  · have hc' : D.cnames[c]? = some x := hc
    obtain ⟨hl, ex⟩ := List.getElem?_eq_some_iff.mp hc'
    have e : D.cn c = x := by
      unfold Dt.cn
      rw [List.getD_eq_getElem?_getD, hc']
      rfl
    obtain ⟨i1, i2⟩ := c4 c (List.mem_range.mpr hl)
    obtain ⟨g1, g2, g3⟩ := cl x (List.mem_of_getElem? hc')
    refine ⟨i1, ?_, ?_, ?_⟩
    · show mg x = some (.ref (He.ga K (D.cn c)))
      rw [e]
      exact He.glo_ok X N g1
    · show Mk K (He.ga K (D.cn c)) (He.fAd K (D.fat (D.inits.getD c 0)))
      rw [i2, e]
      exact He.mkr_ok g3
    · show Cls K (He.ga K (D.cn c))
      rw [e]
      exact He.cls_ok g2
  · have hm := List.mem_of_getElem? (show D.cvs[i]? = some (x, v) from hi)
    have m : ∀ f ∈ cvFa (x, v), f ∈ D.fa := fun f hfm => by
      unfold Dt.fa
      simp only [List.mem_append, List.mem_flatMap]
      exact .inr ⟨(x, v), hm, hfm⟩
    unfold Dt.ex at he
    have hx := List.all_eq_true.mp he _ hm
    cases v with
    | int i => exact He.int_ok X N (hf _ (m (.int x i) (by simp [cvFa])))
    | str y => exact He.str_ok X N (hf _ (m (.str x y) (by simp [cvFa])))
    | tup xs =>
      obtain ⟨h1, h2⟩ := Bool.and_eq_true_iff.mp (show (He.tupB K x (xs.map dvOf) && xs.all flatA) = true from hx)
      exact ⟨He.ga K x, _, He.glo_ok X N (hf _ (m (.glo x) (by simp [cvFa]))), fun H => He.tupB_ok h1 H, fun ρ H => relV_dv h2⟩
    | _ => cases hx

/-! ### the head's Hook: the facts, the defs, one more Bool -/
abbrev AlM : Type := He.AlD × Bool
def obsM (n : Nat) (fa : List He.Fa) (fn : List He.DefD) (ex : PySem.W.Frag → Bool) (g : Addr → Option PySem.Obj) : AlM := (He.obsD fa fn (He.frG g (He.asD g n)), ex (He.frG g (He.asD g n)))
def hookM (n : Nat) (fa : List He.Fa) (fn : List He.DefD) (ex : PySem.W.Frag → Bool) : PySem.W.Hook where
  α := AlM
  obs := fun s => obsM n fa fn ex s.heap.get?
  val := fun _ => (He.valD fn, true)
  says := fun _ h => ∃ K : PySem.W.Frag, K.In h ∧ He.SaysD fa fn K ∧ ex K = true
  of := fun _ _ e => ⟨_, He.frG_in, congrArg (fun z : AlM => z.1) e, congrArg (fun z : AlM => z.2) e⟩
  keeps := fun _ _ _ ⟨K, hK, c⟩ k => ⟨K, PySem.W.Frag.In.keeps hK k, c⟩
theorem obsM_eq {n : Nat} {fa : List He.Fa} {fn : List He.DefD} {ex : PySem.W.Frag → Bool} {g : Addr → Option PySem.Obj} {s : Shared} (h : ∀ a, g a = s.heap.get? a) : obsM n fa fn ex g = (hookM n fa fn ex).obs s := by
  have e : g = s.heap.get? := funext h
  rw [e] <;> rfl
theorem says_facts {fa : List He.Fa} {fn : List He.DefD} {K : PySem.W.Frag} (c : He.SaysD fa fn K) : ∀ f ∈ fa, f.ok K = true := fun f hf => by
  obtain ⟨i, hi, e⟩ := List.mem_iff_getElem.mp hf
  exact c.fact i (f := f) (by rw [List.getElem?_eq_getElem hi, e])
end Mi
/-! Reckoning with such functions: stores that differ at few places; loops by an invariant; the law's draws. -/
namespace Mi
open PySem PySem.Spec PyProof.Rows L2

/-- S' is S but at the places bs, and for new objects -/
structure Fr (bs : List Nat) (S S' : Sto) : Prop where
  le : S.n ≤ S'.n
  same : ∀ i, i < S.n → i ∉ bs → S'.get i = S.get i
theorem Fr.refl (bs : List Nat) (S : Sto) : Fr bs S S := ⟨Nat.le_refl _, fun _ _ _ => rfl⟩
theorem Fr.trans {bs : List Nat} {S S1 S2 : Sto} (a : Fr bs S S1) (b : Fr bs S1 S2) : Fr bs S S2 := ⟨Nat.le_trans a.le b.le, fun i hi hn => (b.same i (Nat.lt_of_lt_of_le hi a.le) hn).trans (a.same i hi hn)⟩
theorem Fr.mono {bs cs : List Nat} {S S1 : Sto} (a : Fr bs S S1) (h : ∀ i ∈ bs, i ∈ cs) : Fr cs S S1 := ⟨a.le, fun i hi hn => a.same i hi fun z => hn (h i z)⟩
theorem Fr.set {b : Nat} (S : Sto) (o : Ob) : Fr [b] S (S.set b o) := ⟨Nat.le_refl _, fun i _ hn => Sto.get_set_ne (fun e => hn (by rw [e]; exact List.mem_singleton.mpr rfl))⟩
theorem Fr.new (bs : List Nat) (S : Sto) (o : Ob) : Fr bs S (S.new o) := ⟨Nat.le_succ _, fun i hi _ => Sto.get_new_ne (Nat.ne_of_lt hi)⟩
theorem Fr.at {bs : List Nat} {S S1 : Sto} (a : Fr bs S S1) {i : Nat} {o : Ob} (h : S.get i = some o) (hn : i ∉ bs) : S1.get i = some o := by rw [a.same i (Sto.lt h) hn, h]
theorem Fr.lt {bs : List Nat} {S S1 : Sto} (a : Fr bs S S1) {i : Nat} (h : i < S.n) : i < S1.n := Nat.lt_of_lt_of_le h a.le
/-- new places are not old ones -/
theorem Fr.old {bs cs : List Nat} {S S1 : Sto} (a : Fr bs S S1) (h : ∀ i ∈ bs, i < S.n → i ∈ cs) : Fr cs S S1 := ⟨a.le, fun i hi hn => a.same i hi fun z => hn (h i z hi)⟩

/-! ### one step of a body -/
theorem seq_nx {f g : SF} {env e1 : Ev} {S S1 : Sto} (h : f env S = .ok (.nx e1) S1) : mSeq f g env S = g e1 S1 := by unfold mSeq; rw [h]
theorem seq_rt {f g : SF} {env : Ev} {v : Va} {S S1 : Sto} (h : f env S = .ok (.rt v) S1) : mSeq f g env S = .ok (.rt v) S1 := by unfold mSeq; rw [h]
theorem seq_bk {f g : SF} {env e1 : Ev} {S S1 : Sto} (h : f env S = .ok (.bk e1) S1) : mSeq f g env S = .ok (.bk e1) S1 := by unfold mSeq; rw [h]
theorem seq_ct {f g : SF} {env e1 : Ev} {S S1 : Sto} (h : f env S = .ok (.ct e1) S1) : mSeq f g env S = .ok (.ct e1) S1 := by unfold mSeq; rw [h]
theorem ifs_t {t : BF} {f g : SF} {env : Ev} {S S1 : Sto} (h : t env S = .ok true S1) : mIfS t f g env S = f env S1 := by unfold mIfS; rw [h] <;> rfl
theorem ifs_f {t : BF} {f g : SF} {env : Ev} {S S1 : Sto} (h : t env S = .ok false S1) : mIfS t f g env S = g env S1 := by unfold mIfS; rw [h] <;> rfl
theorem set_ok {t : TF} {a : EF} {env e1 : Ev} {S S1 : Sto} {v : Va} (h : a env S = .ok v S1) (ht : t v env S1 = some e1) : mSet t a env S = .ok (.nx e1) S1 := by
  unfold mSet
  rw [h]
  show (match t v env S1 with | some env' => R.ok (Fl.nx env') S1 | none => .bad) = _
  rw [ht]
theorem ret_ok {a : EF} {env : Ev} {S S1 : Sto} {v : Va} (h : a env S = .ok v S1) : mRet a env S = .ok (.rt v) S1 := by unfold mRet; rw [h] <;> rfl
theorem exp_ok {a : EF} {env : Ev} {S S1 : Sto} {v : Va} (h : a env S = .ok v S1) : mExpr a env S = .ok (.nx env) S1 := by unfold mExpr; rw [h] <;> rfl
theorem bind_ok {α β : Type} {a : α} {S : Sto} {k : α → Sto → R β} : R.bind (.ok a S) k = k a S := rfl
theorem callF_succ {P : Nat → Option Df} {d j : Nat} {args : List Va} {S : Sto} {df : Df} (h : P j = some df) (hl : Nat.beq args.length df.np = true) : callF P (d + 1) j args S = runB (df.body (callF P d) (startE df.ns args) S) := by
  show (match P j with | some df => (match Nat.beq args.length df.np with | true => runB (df.body (callF P d) (startE df.ns args) S) | false => .bad) | none => .bad) = _
  rw [h]
  show (match Nat.beq args.length df.np with | true => runB (df.body (callF P d) (startE df.ns args) S) | false => .bad) = _
  rw [hl]

/-! ### loops by an invariant -/
/-- what a body's turn may come to -/
def TurnOk (I : Ev → Sto → Prop) (Qr : Va → Sto → Prop) (r : R Fl) : Prop := match r with
  | .ok (.nx e) S => I e S
  | .ok (.ct e) S => I e S
  | .ok (.rt v) S => Qr v S
  | _ => False
def LoopOk (I : Ev → Sto → Prop) (Qr : Va → Sto → Prop) (r : R Fl) : Prop := match r with
  | .ok (.nx e) S => I e S
  | .ok (.rt v) S => Qr v S
  | _ => False
theorem loop_inv {m : MI} {t : TF} {body : SF} {n : Nat} (I : Nat → Ev → Sto → Prop) (Qr : Va → Sto → Prop)
    (step : ∀ i env S, i < n → I i env S → ∃ v env1, m.nx i S = some (some v) ∧ t v env S = some env1 ∧ TurnOk (I (i + 1)) Qr (body env1 S))
    (stop : ∀ env S, I n env S → m.nx n S = some none) :
    ∀ (k i f : Nat) (env : Ev) (S : Sto), i + k = n → k < f → I i env S → LoopOk (I n) Qr (loopF m t body f i env S)
  | 0, i, f, env, S, hk, hf, hi => by
    have e : i = n := by omega
    subst e
    cases f with
    | zero => omega
    | succ f =>
      show LoopOk _ _ (match m.nx i S with | none => .bad | some none => .ok (.nx env) S | some (some v) => _)
      rw [stop env S hi]
      exact hi
  | k + 1, i, f, env, S, hk, hf, hi => by
    cases f with
    | zero => omega
    | succ f =>
      obtain ⟨v, env1, h1, h2, h3⟩ := step i env S (by omega) hi
      show LoopOk _ _ (match m.nx i S with | none => .bad | some none => .ok (.nx env) S | some (some v) => (match t v env S with | none => .bad | some env1 => (match body env1 S with | .ok (.nx env2) S2 => loopF m t body f (i + 1) env2 S2 | .ok (.ct env2) S2 => loopF m t body f (i + 1) env2 S2 | .ok (.bk env2) S2 => .ok (.nx env2) S2 | .ok (.rt v) S2 => .ok (.rt v) S2 | .bad => .bad)))
      rw [h1]
      show LoopOk _ _ (match t v env S with | none => .bad | some env1 => (match body env1 S with | .ok (.nx env2) S2 => loopF m t body f (i + 1) env2 S2 | .ok (.ct env2) S2 => loopF m t body f (i + 1) env2 S2 | .ok (.bk env2) S2 => .ok (.nx env2) S2 | .ok (.rt v) S2 => .ok (.rt v) S2 | .bad => .bad))
      rw [h2]
      show LoopOk _ _ (match body env1 S with | .ok (.nx env2) S2 => loopF m t body f (i + 1) env2 S2 | .ok (.ct env2) S2 => loopF m t body f (i + 1) env2 S2 | .ok (.bk env2) S2 => .ok (.nx env2) S2 | .ok (.rt v) S2 => .ok (.rt v) S2 | .bad => .bad)
      cases q : body env1 S with
      | bad => rw [q] at h3; exact h3.elim
      | ok fl S2 =>
        rw [q] at h3
        cases fl with
        | nx e => exact loop_inv I Qr step stop k (i + 1) f e S2 (by omega) (by omega) h3
        | ct e => exact loop_inv I Qr step stop k (i + 1) f e S2 (by omega) (by omega) h3
        | rt v => exact h3
        | bk e => exact h3.elim
/-- for over a range -/
theorem for_rng {fi : IF} {t : TF} {body : SF} {env : Ev} {S : Sto} {lo : Int} {n : Nat} (I : Nat → Ev → Sto → Prop) (Qr : Va → Sto → Prop) (hf : fi env S = .ok (miN lo n) S)
    (h0 : I 0 env S) (step : ∀ i env S, i < n → I i env S → ∃ env1, t (.int (lo + i)) env S = some env1 ∧ TurnOk (I (i + 1)) Qr (body env1 S)) : LoopOk (I n) Qr (mFor fi t body env S) := by
  unfold mFor
  rw [hf]
  refine loop_inv (m := miN lo n) I Qr (fun i env S hi h => ?_) (fun env S h => ?_) n 0 _ env S (by omega) (Nat.lt_succ_self _) h0
  · obtain ⟨e1, h1, h2⟩ := step i env S hi h
    refine ⟨_, e1, ?_, h1, h2⟩
    show (match Nat.blt i n with | true => some (some (Va.int (lo + i))) | false => some none) = _
    rw [bltT hi]
  · show (match Nat.blt n n with | true => some (some (Va.int (lo + n))) | false => some none) = _
    rw [bltF (Nat.lt_irrefl n)]
/-- for over items known at the start -/
theorem for_items {fi : IF} {t : TF} {body : SF} {env : Ev} {S S1 : Sto} {xs : List Va} (I : Nat → Ev → Sto → Prop) (Qr : Va → Sto → Prop) (hf : fi env S = .ok (miL xs) S1)
    (h0 : I 0 env S1) (step : ∀ i v env S, xs[i]? = some v → I i env S → ∃ env1, t v env S = some env1 ∧ TurnOk (I (i + 1)) Qr (body env1 S)) : LoopOk (I xs.length) Qr (mFor fi t body env S) := by
  unfold mFor
  rw [hf]
  refine loop_inv (m := miL xs) I Qr (fun i env S hi h => ?_) (fun env S h => ?_) xs.length 0 _ env S1 (by omega) (Nat.lt_succ_self _) h0
  · obtain ⟨e1, h1, h2⟩ := step i xs[i] env S (List.getElem?_eq_getElem hi) h
    exact ⟨_, e1, by show some xs[i]? = _; rw [List.getElem?_eq_getElem hi], h1, h2⟩
  · show some xs[xs.length]? = _
    rw [List.getElem?_eq_none_iff.mpr (Nat.le_refl _)]
/-- for over a list that stays as it is -/
theorem for_list' {fi : IF} {t : TF} {body : SF} {env : Ev} {S S1 : Sto} {a : Nat} {xs : List Va} (I : Nat → Ev → Sto → Prop) (Qr : Va → Sto → Prop) (hf : fi env S = .ok (miR a xs.length) S1)
    (h0 : I 0 env S1) (hl : ∀ i env S, I i env S → S.get a = some (.lst xs)) (step : ∀ i v env S, xs[i]? = some v → I i env S → ∃ env1, t v env S = some env1 ∧ TurnOk (I (i + 1)) Qr (body env1 S)) : LoopOk (I xs.length) Qr (mFor fi t body env S) := by
  unfold mFor
  rw [hf]
  refine loop_inv (m := miR a xs.length) I Qr (fun i env S hi h => ?_) (fun env S h => ?_) xs.length 0 _ env S1 (by omega) (Nat.lt_succ_self _) h0
  · obtain ⟨e1, h1, h2⟩ := step i xs[i] env S (List.getElem?_eq_getElem hi) h
    refine ⟨_, e1, ?_, h1, h2⟩
    show (match S.get a with | some (.lst ys) => some ys[i]? | _ => none) = _
    rw [hl i env S h]
    show some xs[i]? = _
    rw [List.getElem?_eq_getElem hi]
  · show (match S.get a with | some (.lst ys) => some ys[xs.length]? | _ => none) = _
    rw [hl _ env S h]
    show some xs[xs.length]? = _
    rw [List.getElem?_eq_none_iff.mpr (Nat.le_refl _)]
/-- a list comprehension whose element makes a value (the store may grow) -/
theorem lc_inv {m : MI} {t : TF} {cond : BF} {elt : EF} {D : Nat} {env : Ev} {n : Nat} (I : Nat → List Va → Sto → Prop)
    (hD : ∀ i acc S, I i acc S → S.get D = some (.lst acc) ∧ acc.length ≤ i) (hn : n ≤ 1000000)
    (step : ∀ i acc S, i < n → I i acc S → ∃ v env1, m.nx i S = some (some v) ∧ t v env S = some env1 ∧
      ((∃ S1, cond env1 S = .ok false S1 ∧ I (i + 1) acc S1) ∨ ∃ S1 y S2, cond env1 S = .ok true S1 ∧ elt env1 S1 = .ok y S2 ∧ S2.get D = some (.lst acc) ∧ I (i + 1) (acc ++ [y]) (S2.set D (.lst (acc ++ [y])))))
    (stop : ∀ acc S, I n acc S → m.nx n S = some none) :
    ∀ (k i f : Nat) (acc : List Va) (S : Sto), i + k = n → k < f → I i acc S → ∃ acc' S', loopC m t cond elt D env f i S = .ok (.ref D) S' ∧ I n acc' S'
  | 0, i, f, acc, S, hk, hf, hi => by
    have e : i = n := by omega
    subst e
    cases f with
    | zero => omega
    | succ f =>
      refine ⟨acc, S, ?_, hi⟩
      rw [loopC, stop acc S hi]
  | k + 1, i, f, acc, S, hk, hf, hi => by
    cases f with
    | zero => omega
    | succ f =>
      obtain ⟨v, env1, h1, h2, h3⟩ := step i acc S (by omega) hi
      have hu : loopC m t cond elt D env (f + 1) i S = (cond env1 S).bind fun k S1 => match k with
          | false => loopC m t cond elt D env f (i + 1) S1
          | true => (elt env1 S1).bind fun y S2 => match S2.get D with
            | some (.lst acc) => (match Nat.blt acc.length 1000000 with | true => loopC m t cond elt D env f (i + 1) (S2.set D (.lst (acc ++ [y]))) | false => .bad)
            | _ => .bad := by
        rw [loopC, h1]
        dsimp only
        rw [h2] <;> rfl
      rw [hu]
      rcases h3 with ⟨S1, h4, h5⟩ | ⟨S1, y, S2, h4, h5, h6, h7⟩
      · rw [h4]
        exact lc_inv I hD hn step stop k (i + 1) f acc S1 (by omega) (by omega) h5
      · rw [h4]
        show ∃ acc' S', ((elt env1 S1).bind fun y S2 => match S2.get D with | some (.lst acc) => (match Nat.blt acc.length 1000000 with | true => loopC m t cond elt D env f (i + 1) (S2.set D (.lst (acc ++ [y]))) | false => .bad) | _ => .bad) = R.ok (Va.ref D) S' ∧ _
        rw [h5]
        show ∃ acc' S', (match S2.get D with | some (.lst acc) => (match Nat.blt acc.length 1000000 with | true => loopC m t cond elt D env f (i + 1) (S2.set D (.lst (acc ++ [y]))) | false => .bad) | _ => .bad) = R.ok (Va.ref D) S' ∧ _
        rw [h6]
        show ∃ acc' S', (match Nat.blt acc.length 1000000 with | true => loopC m t cond elt D env f (i + 1) (S2.set D (.lst (acc ++ [y]))) | false => .bad) = R.ok (Va.ref D) S' ∧ _
        rw [bltT (show acc.length < 1000000 by have := (hD i acc S hi).2; omega)]
        exact lc_inv I hD hn step stop k (i + 1) f _ _ (by omega) (by omega) h7
end Mi
/-! The law's draws: a bag of three numbers. -/
namespace Mi
open PySem PySem.Spec PyProof.Rows L2
def wellF (C : CO) : SF :=
  (mSeq (mIfS (mBool (mBin gGe (mVar 0) (mBin gPow (mC (.int 10)) (mC (.int 18))))) (mRet (mLst (mCons (mBin gSub (mVar 0) (mBin gPow (mC (.int 10)) (mC (.int 18)))) (mCons (mBin gMod (mVar 0) (mC (.int 2305843009213693951))) (mCons (mVar 1) mNil))))) mEnd)
    (mRet (mLst (mCons (mC (.int 0)) (mCons (mBin gMod (mVar 0) (mC (.int 2305843009213693951))) (mCons (mVar 1) mNil))))))
def takeF (C : CO) : SF :=
  (mSeq (mIfS (mBool (mBin gGt (mIx (mVar 0) (mC (.int 0))) (mC (.int 0)))) (mSeq (mSet (tNm 2) (mBin gMod (mIx (mVar 0) (mC (.int 0))) (mVar 1)))
    (mSeq (mSetIx (mVar 0) (mC (.int 0)) (mBin gDiv (mIx (mVar 0) (mC (.int 0))) (mVar 1)))
    (mRet (mVar 2)))) mEnd)
    (mSeq (mSetIx (mVar 0) (mC (.int 2)) (mBin gAdd (mIx (mVar 0) (mC (.int 2))) (mC (.int 1))))
    (mSeq (mSet (tNm 3) (mC (.int 2305843009213693951)))
    (mSeq (mSet (tNm 4) (mBin gMod (mBin gAdd (mIx (mVar 0) (mC (.int 1))) (mBin gMul (mC (.int 1000003)) (mIx (mVar 0) (mC (.int 2))))) (mVar 3)))
    (mSeq (mSet (tNm 4) (mBin gMod (mBin gAdd (mBin gAdd (mBin gMul (mVar 4) (mVar 4)) (mBin gMul (mC (.int 7919)) (mBin gPow (mIx (mVar 0) (mC (.int 2))) (mC (.int 2))))) (mC (.int 5))) (mVar 3)))
    (mRet (mBin gMod (mBin gDiv (mBin gMod (mBin gPow (mVar 4) (mC (.int 3))) (mVar 3)) (mC (.int 13))) (mVar 1))))))))
/-- at b a bag: its second number below the prime, its third at most n -/
def Bag (n : Nat) (b : Nat) (S : Sto) : Prop := ∃ x y z : Int, S.get b = some (.lst [.int x, .int y, .int z]) ∧ 0 ≤ y ∧ y < 2305843009213693951 ∧ 0 ≤ z ∧ z ≤ n
theorem Bag.lt {n b : Nat} {S : Sto} (h : Bag n b S) : b < S.n := by
  obtain ⟨x, y, z, h, _⟩ := h
  exact Sto.lt h
theorem Bag.fr {n b : Nat} {S S1 : Sto} {bs : List Nat} (h : Bag n b S) (f : Fr bs S S1) (hb : b ∉ bs) : Bag n b S1 := by
  obtain ⟨x, y, z, h, r⟩ := h
  exact ⟨x, y, z, f.at h hb, r⟩
theorem Bag.mono {n m b : Nat} {S : Sto} (h : Bag n b S) (hl : n ≤ m) : Bag m b S := by
  obtain ⟨x, y, z, h, h1, h2, h3, h4⟩ := h
  exact ⟨x, y, z, h, h1, h2, h3, by omega⟩
theorem take_ok {C : CO} {b n : Nat} {m : Int} {S : Sto} (hb : Bag n b S) (hn : n < 1000000000000) (h0 : 0 < m) (h1 : m < 1073741824) :
    ∃ r S1, runB (takeF C (startE 5 [.ref b, .int m]) S) = .ok (.int r) S1 ∧ 0 ≤ r ∧ r < m ∧ Bag (n + 1) b S1 ∧ Fr [b] S S1 := by
  obtain ⟨x, y, z, hg, y0, y1, z0, z1⟩ := hb
  have hlt := Sto.lt hg
  by_cases hx : 0 < x
  · refine ⟨x % m, S.set b (.lst [.int (x / m), .int y, .int z]), ?_, Int.emod_nonneg _ (by omega), Int.emod_lt_of_pos _ h0, ⟨x / m, y, z, Sto.get_set hlt, y0, y1, z0, by omega⟩, Fr.set S _⟩
    simp [takeF, startE, runB, mSeq, mIfS, mBool, mBin, mIx, mVar, mC, gGt, gIx, gIxO, atA, ixN, R.bind, hg, mSet, tNm, gMod, gDiv, okDiv, mSetIx, gSetIx, mRet, hx, h0, h1]
  · have hz : ¬ (0 : Int) < x := hx
    let p : Int := 2305843009213693951
    have hp : (0 : Int) < p := by decide
    have hm1 : okMul 1000003 (z + 1) = true := rfl
    let n1 : Int := (y + 1000003 * (z + 1)) % p
    have a0 : 0 ≤ n1 := Int.emod_nonneg _ (by decide)
    have a1 : n1 < p := Int.emod_lt_of_pos _ hp
    have hm2 : okMul n1 n1 = true := by
      unfold okMul
      rw [decide_eq_true (show -(2 ^ 64) < n1 by omega), decide_eq_true (show n1 < 2 ^ 64 by have : n1 < 2305843009213693951 := a1; omega)]
      rfl
    have hm3 : okPow (z + 1) 2 = true := by
      unfold okPow
      rw [decide_eq_true (show (z + 1).natAbs < 2 ^ 64 by omega)]
      rfl
    let n2 : Int := (n1 * n1 + 7919 * (z + 1) ^ (2 : Int).toNat + 5) % p
    have c0 : 0 ≤ n2 := Int.emod_nonneg _ (by decide)
    have c1 : n2 < p := Int.emod_lt_of_pos _ hp
    have hm4 : okPow n2 3 = true := by
      unfold okPow
      rw [decide_eq_true (show n2.natAbs < 2 ^ 64 by have : n2 < 2305843009213693951 := c1; omega)]
      rfl
    have hm5 : okMul 7919 ((z + 1) ^ (2 : Int).toNat) = true := rfl
    refine ⟨n2 ^ (3 : Int).toNat % p / 13 % m, S.set b (.lst [.int x, .int y, .int (z + 1)]), ?_, Int.emod_nonneg _ (by omega), Int.emod_lt_of_pos _ h0, ⟨x, y, z + 1, Sto.get_set hlt, y0, y1, by omega, by omega⟩, Fr.set S _⟩
    have e1 : (mSetIx (mVar 0) (mC (.int 2)) (mBin gAdd (mIx (mVar 0) (mC (.int 2))) (mC (.int 1)))) [some (.ref b), some (.int m), none, none, none] S = .ok (.nx [some (.ref b), some (.int m), none, none, none]) (S.set b (.lst [.int x, .int y, .int (z + 1)])) := by
      simp [mSetIx, mBin, mIx, mVar, mC, gAdd, gIx, gIxO, atA, ixN, R.bind, hg, gSetIx]
    have hg1 : (S.set b (.lst [.int x, .int y, .int (z + 1)])).get b = some (.lst [.int x, .int y, .int (z + 1)]) := Sto.get_set hlt
    generalize S.set b (.lst [.int x, .int y, .int (z + 1)]) = S1 at e1 hg1
    have e2 : (mSet (tNm 4) (mBin gMod (mBin gAdd (mIx (mVar 0) (mC (.int 1))) (mBin gMul (mC (.int 1000003)) (mIx (mVar 0) (mC (.int 2))))) (mVar 3))) [some (.ref b), some (.int m), none, some (.int p), none] S1 = .ok (.nx [some (.ref b), some (.int m), none, some (.int p), some (.int n1)]) S1 := by
      simp [mSet, tNm, mBin, mIx, mVar, mC, gAdd, gIx, gIxO, atA, ixN, R.bind, hg1, gMul, hm1, gMod, hp, n1]
    have e3 : (mSet (tNm 4) (mBin gMod (mBin gAdd (mBin gAdd (mBin gMul (mVar 4) (mVar 4)) (mBin gMul (mC (.int 7919)) (mBin gPow (mIx (mVar 0) (mC (.int 2))) (mC (.int 2))))) (mC (.int 5))) (mVar 3))) [some (.ref b), some (.int m), none, some (.int p), some (.int n1)] S1 = .ok (.nx [some (.ref b), some (.int m), none, some (.int p), some (.int n2)]) S1 := by
      have hA : atA [Va.int x, Va.int y, Va.int (z + 1)] 2 = some (.int (z + 1)) := rfl
      simp only [mSet, tNm, mBin, mIx, mVar, mC, gAdd, gIx, gIxO, hA, R.bind, hg1, gMul, hm2, gPow, hm3, hm5, gMod, hp, decide_true, List.getElem?_cons_zero, List.getElem?_cons_succ]
      rfl
    have e4 : (mRet (mBin gMod (mBin gDiv (mBin gMod (mBin gPow (mVar 4) (mC (.int 3))) (mVar 3)) (mC (.int 13))) (mVar 1))) [some (.ref b), some (.int m), none, some (.int p), some (.int n2)] S1 = .ok (.rt (.int (n2 ^ (3 : Int).toNat % p / 13 % m))) S1 := by
      have hd : okDiv 13 = true := by decide
      simp only [mRet, mBin, mVar, mC, R.bind, gPow, hm4, gMod, gDiv, hp, h0, hd, decide_true, List.getElem?_cons_zero, List.getElem?_cons_succ]
    have e0 : (mIfS (mBool (mBin gGt (mIx (mVar 0) (mC (.int 0))) (mC (.int 0)))) (mSeq (mSet (tNm 2) (mBin gMod (mIx (mVar 0) (mC (.int 0))) (mVar 1)))
    (mSeq (mSetIx (mVar 0) (mC (.int 0)) (mBin gDiv (mIx (mVar 0) (mC (.int 0))) (mVar 1)))
    (mRet (mVar 2)))) mEnd) [some (.ref b), some (.int m), none, none, none] S = .ok (.nx [some (.ref b), some (.int m), none, none, none]) S := by
      simp [mIfS, mBool, mBin, mIx, mVar, mC, gGt, gIx, gIxO, atA, ixN, R.bind, hg, hz, mEnd]
    show runB (takeF C [some (.ref b), some (.int m), none, none, none] S) = _
    unfold takeF
    rw [seq_nx e0, seq_nx e1, seq_nx (set_ok (v := .int p) rfl rfl)]
    show runB (mSeq _ _ [some (.ref b), some (.int m), none, some (.int p), none] S1) = _
    rw [seq_nx e2, seq_nx e3, e4]
    rfl

/-! ### bags -/
def wellX (c : Int) : Int := if 1000000000000000000 ≤ c then c - 1000000000000000000 else 0
theorem well_ok {C : CO} {c t : Int} {S : Sto} : runB (wellF C (startE 2 [.int c, .int t]) S) = .ok (.ref S.n) (S.new (.lst [.int (wellX c), .int (c % 2305843009213693951), .int t])) := by
  have hp : okPow 10 18 = true := by decide
  have e18 : (10 : Int) ^ (18 : Int).toNat = 1000000000000000000 := by decide
  by_cases h : 1000000000000000000 ≤ c
  · unfold wellX
    simp [wellF, startE, runB, mSeq, mIfS, mBool, mBin, mVar, mC, gGe, gPow, hp, e18, R.bind, mRet, mLst, mCons, mNil, gSub, gMod, h]
  · unfold wellX
    simp [wellF, startE, runB, mSeq, mIfS, mBool, mBin, mVar, mC, gGe, gPow, hp, e18, R.bind, mRet, mLst, mCons, mNil, gSub, gMod, h, mEnd]
def bagsF (j : Nat) (C : CO) : SF :=
  (mRet (mLc (iEnumL (mBin gAdd (mSl (mVar 0) mNoP (mPart (mVar 1))) (mLst (mCons (mC (.int 0)) mNil)))) (tTp 2 (tsCons (tNm 2) (tsCons (tNm 3) tsNil))) mYes (mCall C j (mCons (mVar 3) (mCons (mBin gMul (mC (.int 977)) (mVar 2)) mNil)) []) [2, 3]))
theorem cut_ints (ns : List Int) (lo hi : Option Int) : cutA (ns.map Va.int) lo hi = (((ns.drop (HT.sIx ns.length 0 lo)).take (HT.sIx ns.length ns.length hi - HT.sIx ns.length 0 lo)).map Va.int) := by
  unfold cutA
  rw [List.length_map, List.map_take, List.map_drop]
/-- the bags: as many as told, and one; all new, unlike -/
theorem bags_ok {C : CO} {j : Nat} (hC : ∀ (c t : Int) (S : Sto), C j [.int c, .int t] S = .ok (.ref S.n) (S.new (.lst [.int (wellX c), .int (c % 2305843009213693951), .int t]))) {ns : List Int} {m : Nat} {S : Sto} (hl : ns.length ≤ 63) (hm : m ≤ 63) :
    ∃ (L : Nat) (bs : List Nat) (S' : Sto), runB (bagsF j C (startE 4 [.fro (ns.map Va.int), .int m]) S) = .ok (.ref L) S' ∧ S'.get L = some (.lst (bs.map Va.ref)) ∧ bs.length ≤ 64 ∧ bs.Nodup ∧ (∀ b ∈ bs, L < b ∧ b < S'.n ∧ Bag 61551 b S') ∧ Fr [] S S' ∧ S.n ≤ L := by
  let cs : List Int := ((ns.drop (HT.sIx ns.length 0 none)).take (HT.sIx ns.length ns.length (some (m : Int)) - HT.sIx ns.length 0 none)) ++ [0]
  have hcs : cs.length ≤ 64 := by
    show (((ns.drop (HT.sIx ns.length 0 none)).take (HT.sIx ns.length ns.length (some (m : Int)) - HT.sIx ns.length 0 none)) ++ [0]).length ≤ 64
    rw [List.length_append, List.length_take, List.length_drop, List.length_singleton]
    omega
  let S1 : Sto := S.new (.lst (cutA (ns.map Va.int) none (some (m : Int))))
  let S2 : Sto := S1.new (.lst [.int 0])
  let S3 : Sto := S2.new (.lst (cs.map Va.int))
  have hcut : cutA (ns.map Va.int) none (some (m : Int)) ++ [.int 0] = cs.map Va.int := by
    rw [cut_ints, List.map_append] <;> rfl
  have hb : Nat.ble ((cutA (ns.map Va.int) none (some (m : Int))).length + 1) 16777216 = true := by
    have e := congrArg List.length hcut
    rw [List.length_append, List.length_map] at e
    have e2 : (cutA (ns.map Va.int) none (some (m : Int))).length + 1 = cs.length := e
    rw [e2]
    exact Nat.ble_eq_true_of_le (by omega)
  have g1 : S2.get S.n = some (.lst (cutA (ns.map Va.int) none (some (m : Int)))) := Sto.get_new_of Sto.get_new
  have g2 : S2.get S1.n = some (.lst [.int 0]) := Sto.get_new
  have g3 : S3.get S2.n = some (.lst (cs.map Va.int)) := Sto.get_new
  have e0 : iEnumL (mBin gAdd (mSl (mVar 0) mNoP (mPart (mVar 1))) (mLst (mCons (mC (.int 0)) mNil))) [some (.fro (ns.map Va.int)), some (.int m), none, none] S = .ok (miE (miR S2.n (cs.map Va.int).length)) S3 := by
    have ea : mSl (mVar 0) mNoP (mPart (mVar 1)) [some (.fro (ns.map Va.int)), some (.int m), none, none] S = .ok (.ref S.n) S1 := rfl
    have eb : mLst (mCons (mC (.int 0)) mNil) [some (.fro (ns.map Va.int)), some (.int m), none, none] S1 = .ok (.ref S1.n) S2 := rfl
    have ec : mBin gAdd (mSl (mVar 0) mNoP (mPart (mVar 1))) (mLst (mCons (mC (.int 0)) mNil)) [some (.fro (ns.map Va.int)), some (.int m), none, none] S = .ok (.ref S2.n) S3 := by
      unfold mBin
      rw [ea, bind_ok, eb, bind_ok]
      show (match S2.get S.n, S2.get S1.n with | some (.lst i), some (.lst j) => (match Nat.ble (i.length + j.length) 16777216 with | true => R.ok (Va.ref S2.n) (S2.new (.lst (i ++ j))) | false => .bad) | _, _ => .bad) = _
      rw [g1, g2]
      show (match Nat.ble ((cutA (ns.map Va.int) none (some (m : Int))).length + 1) 16777216 with | true => R.ok (Va.ref S2.n) (S2.new (.lst (cutA (ns.map Va.int) none (some (m : Int)) ++ [Va.int 0]))) | false => .bad) = _
      rw [hb, hcut]
    unfold iEnumL
    rw [ec, bind_ok]
    show (match (match S3.get S2.n with | some (.lst xs) => some (miR S2.n xs.length) | _ => none) with | some m => R.ok (miE m) S3 | none => .bad) = _
    rw [g3]
  let Lc := S3.n
  let S4 : Sto := S3.new (.lst [])
  have key := lc_inv (m := miE (miR S2.n (cs.map Va.int).length)) (t := tTp 2 (tsCons (tNm 2) (tsCons (tNm 3) tsNil))) (cond := mYes) (elt := mCall C j (mCons (mVar 3) (mCons (mBin gMul (mC (.int 977)) (mVar 2)) mNil)) []) (D := Lc)
    (env := wipeE [some (.fro (ns.map Va.int)), some (.int m), none, none] [2, 3]) (n := cs.length)
    (fun i acc S' => ∃ bs : List Nat, acc = bs.map Va.ref ∧ bs.length = i ∧ bs.Nodup ∧ S'.get Lc = some (.lst (bs.map Va.ref)) ∧ S'.get S2.n = some (.lst (cs.map Va.int)) ∧ (∀ b ∈ bs, Lc < b ∧ b < S'.n ∧ Bag 61551 b S') ∧ Fr [] S S' ∧ Lc < S'.n)
    (fun i acc S' ⟨bs, h1, h2, _, h3, _⟩ => ⟨by rw [h1]; exact h3, by rw [h1, List.length_map]; omega⟩) (by omega) ?step ?stop cs.length 0 _ [] S4 (by omega) (Nat.lt_succ_self _) ?start
  case start =>
    refine ⟨[], rfl, rfl, List.nodup_nil, Sto.get_new, Sto.get_new_of g3, fun b hb => (nomatch hb), ?_, Nat.lt_succ_self _⟩
    exact (((Fr.new [] S _).trans (Fr.new [] S1 _)).trans (Fr.new [] S2 _)).trans (Fr.new [] S3 _)
  case stop =>
    rintro acc S' ⟨bs, _, _, _, _, h5, _⟩
    show (match (match S'.get S2.n with | some (.lst xs) => some xs[cs.length]? | _ => none) with | some (some v) => some (some (Va.tup [.int (cs.length : Nat), v])) | r => r) = _
    rw [h5]
    show (match some (cs.map Va.int)[cs.length]? with | some (some v) => some (some (Va.tup [.int (cs.length : Nat), v])) | r => r) = _
    rw [List.getElem?_eq_none_iff.mpr (by rw [List.length_map]; exact Nat.le_refl _)]
  case step =>
    rintro i acc S' hi ⟨bs, h1, h2, h3, h4, h5, h6, h7, h8⟩
    have hc : (cs.map Va.int)[i]? = some (.int cs[i]) := by rw [List.getElem?_map, List.getElem?_eq_getElem hi]; rfl
    refine ⟨.tup [.int i, .int cs[i]], [some (.fro (ns.map Va.int)), some (.int m), some (.int i), some (.int cs[i])], ?_, rfl, .inr ⟨S', .ref S'.n, S'.new (.lst [.int (wellX cs[i]), .int (cs[i] % 2305843009213693951), .int (977 * i)]), rfl, ?_, ?_, bs ++ [S'.n], ?_, ?_, ?_, ?_, ?_, ?_, ?_, ?_⟩⟩
    · show (match (match S'.get S2.n with | some (.lst xs) => some xs[i]? | _ => none) with | some (some v) => some (some (Va.tup [.int (i : Nat), v])) | r => r) = _
      rw [h5]
      show (match some (cs.map Va.int)[i]? with | some (some v) => some (some (Va.tup [.int (i : Nat), v])) | r => r) = _
      rw [hc]
    · show (mCall C j (mCons (mVar 3) (mCons (mBin gMul (mC (.int 977)) (mVar 2)) mNil)) []) [some (.fro (ns.map Va.int)), some (.int m), some (.int i), some (.int cs[i])] S' = _
      have hk : okMul 977 (i : Int) = true := rfl
      have : (mCons (mVar 3) (mCons (mBin gMul (mC (.int 977)) (mVar 2)) mNil)) [some (.fro (ns.map Va.int)), some (.int m), some (.int i), some (.int cs[i])] S' = .ok [.int cs[i], .int (977 * i)] S' := by
        simp [mCons, mVar, mBin, mC, mNil, gMul, hk, R.bind]
      unfold mCall
      rw [this, bind_ok]
      exact hC _ _ _
    · rw [h1]
      exact Sto.get_new_of h4
    · rw [h1, List.map_append] <;> rfl
    · rw [List.length_append, h2] <;> rfl
    · refine List.nodup_append.mpr ⟨h3, by simp, fun a ha b hb z => ?_⟩
      have z2 : b = S'.n := by simpa using hb
      have := (h6 a ha).2.1
      omega
    · rw [h1, List.map_append]
      exact Sto.get_set (Nat.lt_succ_of_lt h8)
    · rw [Sto.get_set_ne (by show Lc ≠ S2.n; exact Nat.ne_of_gt (Nat.lt_succ_self _))]
      exact Sto.get_new_of h5
    · intro b hb
      have hne : ∀ b, Lc < b → Lc ≠ b := fun b h => Nat.ne_of_lt h
      rcases List.mem_append.mp hb with hb | hb
      · obtain ⟨q1, q2, q3⟩ := h6 b hb
        refine ⟨q1, Nat.lt_succ_of_lt q2, ?_⟩
        obtain ⟨x, y, z, g, r⟩ := q3
        exact ⟨x, y, z, by rw [Sto.get_set_ne (hne b q1)]; exact Sto.get_new_of g, r⟩
      · have e : b = S'.n := by simpa using hb
        subst e
        refine ⟨h8, Nat.lt_succ_self _, _, _, _, by rw [Sto.get_set_ne (hne _ h8)]; exact Sto.get_new, Int.emod_nonneg _ (by decide), Int.emod_lt_of_pos _ (by decide), by omega, by omega⟩
    · refine (((h7.trans (Fr.new [] S' _)).mono (cs := [Lc]) (fun _ h => nomatch h)).trans (Fr.set _ _)).old fun z hz hzl => ?_
      have ez : z = Lc := by simpa using hz
      exact absurd hzl (by
        have e : Lc = S.n + 1 + 1 + 1 := rfl
        rw [ez, e]
        omega)
    · exact Nat.lt_succ_of_lt h8
  obtain ⟨acc', S', he, bs, h1, h2, h3, h4, h5, h6, h7, h8⟩ := key
  refine ⟨Lc, bs, S', ?_, h4, by omega, h3, h6, h7, by show S.n ≤ S.n + 1 + 1 + 1; omega⟩
  show runB (bagsF j C [some (.fro (ns.map Va.int)), some (.int m), none, none] S) = _
  unfold bagsF mRet mLc
  rw [e0, bind_ok]
  have he' : loopC (miE (miR S2.n (cs.map Va.int).length)) (tTp 2 (tsCons (tNm 2) (tsCons (tNm 3) tsNil))) mYes (mCall C j (mCons (mVar 3) (mCons (mBin gMul (mC (.int 977)) (mVar 2)) mNil)) []) Lc (wipeE [some (.fro (ns.map Va.int)), some (.int m), none, none] [2, 3]) ((miE (miR S2.n (cs.map Va.int).length)).bound + 1) 0 S4 = .ok (.ref Lc) S' := by
    rw [show (miE (miR S2.n (cs.map Va.int).length)).bound = cs.length by show (cs.map Va.int).length = _; rw [List.length_map]]
    exact he
  show runB (R.bind (loopC (miE (miR S2.n (cs.map Va.int).length)) (tTp 2 (tsCons (tNm 2) (tsCons (tNm 3) tsNil))) mYes (mCall C j (mCons (mVar 3) (mCons (mBin gMul (mC (.int 977)) (mVar 2)) mNil)) []) Lc (wipeE [some (.fro (ns.map Va.int)), some (.int m), none, none] [2, 3]) ((miE (miR S2.n (cs.map Va.int).length)).bound + 1) 0 S4) _) = _
  rw [he']
  rfl
end Mi
/-! More words: dict comprehensions, two fors, reversed, dict(d), list.index, {}. -/
namespace Mi
open PySem PySem.Spec PyProof.Rows L2
section
variable {G : Cf} {X : Cx} {a b c e o tg iter tg1 iter1 : Expr} {es : List Expr} {st : Stmt} {rest body orelse : List Stmt} {fa fb fc fo : EF} {fs : AF} {f g : SF} {pos : Pos} {x : Str} {p : Pos}

/-! ### dict comprehensions -/
def loopD (m : MI) (t : TF) (cond : BF) (fk fv : EF) (D : Nat) (env : Ev) : Nat → Nat → Sto → R Va
  | 0, _, _ => .bad
  | f + 1, i, S => match m.nx i S with
    | none => .bad
    | some none => .ok (.ref D) S
    | some (some v) => match t v env S with
      | none => .bad
      | some env1 => (cond env1 S).bind fun k S1 => match k with
        | false => loopD m t cond fk fv D env f (i + 1) S1
        | true => (fk env1 S1).bind fun y S2 => (fv env1 S2).bind fun z S3 => match keyOf y with
          | none => .bad
          | some k => match S3.get D with
            | some (.dic kvs) => match Nat.blt kvs.length 1000000 with
              | true => loopD m t cond fk fv D env f (i + 1) (S3.set D (.dic (dPut kvs k z)))
              | false => .bad
            | _ => .bad
def mDc (fi : IF) (t : TF) (cond : BF) (fk fv : EF) (vs : List Nat) : EF := fun env S => (fi env S).bind fun m S1 => loopD m t cond fk fv S1.n (wipeE env vs) (m.bound + 1) 0 (S1.new (.dic []))
theorem tdc_of {scope : Scope} {fi : IF} {t : TF} {cond : BF} {fk fv : EF} {ids vs : List Nat} {tt : TT} {kx vx : Expr} (hi : SI G X tg iter fi) (hg : Blk X scope fun Y => SG G Y tg t ids)
    (qt : ∀ (env : Ev) (S : Sto) (ρ : List Addr) (σ : L2.St) (H : Hp) (Q : Bool → Hp → Prop), RepE G ρ H σ env → Rel G ρ S H → Out G PB ρ H (cond env S) Q → tt σ H Q)
    (hk : Blk X scope fun Y => SE G Y kx fk) (he : Blk X scope fun Y => SE G Y vx fv) (hs : ∀ j ∈ ids, j ∈ vs) {env : Ev} {S : Sto} {ρ : List Addr} {σ : L2.St} {H : Hp} {Q : VK} (hv : RepE G ρ H σ env) (hr : Rel G ρ S H) (h : Out G (PV G) ρ H (mDc fi t cond fk fv vs env S) Q) :
    tDc (PIw X tg iter) (PGb X scope tg) tt (PEb X scope kx) (PEb X scope vx) vs σ H Q := by
  refine hi env S ρ σ H _ hv hr ?_
  unfold mDc at h
  cases q0 : fi env S with
  | bad => rw [q0] at h; exact h.elim
  | ok m S1 =>
    rw [q0] at h
    have h' : Out G (PV G) ρ H (loopD m t cond fk fv S1.n (wipeE env vs) (m.bound + 1) 0 (S1.new (.dic []))) Q := h
    intro ρ1 H1 J e1 r1 ok1 D hD
    obtain ⟨r2, e2⟩ := r1.new (o := .dic []) hD (same_upd (o := .dK []) hD) ⟨[], upd_same, .nil⟩
    have hDx : (ρ1 ++ [D])[S1.n]? = some D := by rw [← r1.len]; simp
    refine ⟨fun i n H => ∃ S ρ, Ext G (ρ1 ++ [D]) (upd H1 D (.dK [])) ρ H ∧ Rel G ρ S H ∧ Out G (PV G) ρ H (loopD m t cond fk fv S1.n (wipeE env vs) n i S) Q,
      ⟨m.bound + 1, S1.new (.dic []), ρ1 ++ [D], Ext.refl, r2, Out.mono (e1.trans e2) h'⟩, ?_⟩
    rintro i n H3 ⟨S3, ρ3, e3, r3, h3⟩
    cases n with
    | zero => exact h3.elim
    | succ n =>
      have hj := ok1 i ρ3 S3 H3 (e2.trans e3) r3
      rw [loopD] at h3
      cases q : m.nx i S3 with
      | none => rw [q] at h3; exact h3.elim
      | some w =>
        rw [q] at h3 hj
        cases w with
        | none => exact .inl ⟨hj, Out.ok h3 r3 (.ref (e3.at hDx))⟩
        | some v =>
          obtain ⟨go, yl⟩ := hj
          refine .inr ⟨go, fun H' => ∃ S ρ, Ext G (ρ1 ++ [D]) (upd H1 D (.dK [])) ρ H' ∧ Rel G ρ S H' ∧ Out G (PV G) ρ H' (loopD m t cond fk fv S1.n (wipeE env vs) n (i + 1) S) Q, fun H' hn => ⟨n, Nat.lt_succ_self n, hn⟩, fun x H5 hy => ?_⟩
          obtain ⟨r5, e5, rx⟩ := yl x H5 hy
          dsimp only at h3
          cases qt0 : t v (wipeE env vs) S3 with
          | none => rw [qt0] at h3; exact h3.elim
          | some env1 =>
            rw [qt0] at h3
            dsimp only at h3
            have hvw : RepE G ρ3 H5 (wipe σ vs) (wipeE env vs) := ((hv.mono (((e1.trans e2).trans e3).trans e5))).wipe vs
            intro s0 H0 C0 cl fp
            refine hg s0 H0 C0 cl fp v x (wipeE env vs) env1 S3 ρ3 (wipe σ vs) H5 _ hvw r5 rx qt0 fun σ6 he6 k6 => ⟨kept_wipe k6 hs, ?_⟩
            have h6 := Out.mono e5 h3
            refine qt env1 S3 ρ3 σ6 H5 _ he6 r5 (Out.bind h6 fun kb S7 ρ7 H7 kb' w7 e7 r7 p7 h7 => ?_)
            subst p7
            cases kb' with
            | false => exact ⟨S7, ρ7, (e3.trans e5).trans e7, r7, h7⟩
            | true =>
              intro s1 H1' C1 cl1 fp1
              refine hk s1 H1' C1 cl1 fp1 env1 S7 ρ7 σ6 H7 _ (he6.mono e7) r7 (Out.bind h7 fun y S8 ρ8 H8 u w8 e8 r8 p8 h8 => ?_)
              intro s2 H2' C2 cl2 fp2
              refine he s2 H2' C2 cl2 fp2 env1 S8 ρ8 σ6 H8 _ (he6.mono (e7.trans e8)) r8 (Out.bind h8 fun z S9 ρ9 H9 u9 w9 e9 r9 p9 h9 => ?_)
              cases qk : keyOf y with
              | none => rw [qk] at h9; exact h9.elim
              | some k =>
                rw [qk] at h9
                dsimp only at h9
                cases gg : S9.get S1.n with
                | none => rw [gg] at h9; exact h9.elim
                | some ob =>
                  rw [gg] at h9
                  cases ob with
                  | dic kvs =>
                    dsimp only at h9
                    cases qb : Nat.blt kvs.length 1000000 with
                    | false => rw [qb] at h9; exact h9.elim
                    | true =>
                      rw [qb] at h9
                      have eall := (((e3.trans e5).trans e7).trans e8).trans e9
                      obtain ⟨ys, f1, ry⟩ := r9.dic gg (eall.at hDx)
                      refine ⟨ys, k, keyOf_rep p8 qk, f1, by rw [ry.length]; exact blt_line qb, ?_⟩
                      obtain ⟨r10, e10⟩ := r9.put (o := .dic (dPut kvs k z)) (u := .dK (putK ys k u9)) (eall.at hDx) ⟨_, f1, trivial⟩ fun e => ⟨_, upd_same, (dPut_rep k ry p9).mono e⟩
                      exact ⟨_, ρ9, eall.trans e10, r10, Out.mono e10 h9⟩
                  | _ => exact h9.elim

theorem se_dc {C : CO} {kk : Nat} {T : Tab} {scope : Scope} {own : List (Str × Nat)} {fi : IF} {t : TF} {cond : BF} {fk fv : EF} {ids : List Nat} {ifs : List Expr} {kx vx : Expr} (gc : GC G X C kk T) (ok : BlkOk X.N X.env.scope scope own) (hi : SI G X tg iter fi) (hg : BlkC G X C kk T scope fun Y => SG G Y tg t ids)
    (ht : SIf G X scope ifs cond) (hk : BlkC G X C kk T scope fun Y => SE G Y kx fk) (he : BlkC G X C kk T scope fun Y => SE G Y vx fv) (hs : ∀ j ∈ ids, j ∈ own.map (·.2)) (hf : ∀ x, foldedSetIterable iter X.env x = pure x) :
    SE G X (.DictComp kx vx [⟨tg, iter, ifs, 0⟩] scope pos) (mDc fi t cond fk fv (own.map (·.2))) := by
  intro env S ρ σ H Q hv hr h
  obtain ⟨tt, pt, qt⟩ := ht
  exact PEw.by (pe_dc gc.gx.calm gc.gx.nd piw ok pgb pt peb peb hf) (tdc_of hi (BlkC.of gc hg) qt (BlkC.of gc hk) (BlkC.of gc he) hs hv hr h)

/-! ### two fors -/
def loopI (m : MI) (t : TF) (cond : BF) (elt : EF) (D : Nat) (env : Ev) : Nat → Nat → Sto → R Unit
  | 0, _, _ => .bad
  | f + 1, i, S => match m.nx i S with
    | none => .bad
    | some none => .ok () S
    | some (some v) => match t v env S with
      | none => .bad
      | some env1 => (cond env1 S).bind fun k S1 => match k with
        | false => loopI m t cond elt D env f (i + 1) S1
        | true => (elt env1 S1).bind fun y S2 => match S2.get D with
          | some (.lst acc) => match Nat.blt acc.length 1000000 with
            | true => loopI m t cond elt D env f (i + 1) (S2.set D (.lst (acc ++ [y])))
            | false => .bad
          | _ => .bad
def loopC2 (m : MI) (t : TF) (cond : BF) (fi1 : IF) (t1 : TF) (cond1 : BF) (elt : EF) (D : Nat) (env : Ev) (vs1 : List Nat) : Nat → Nat → Sto → R Va
  | 0, _, _ => .bad
  | f + 1, i, S => match m.nx i S with
    | none => .bad
    | some none => .ok (.ref D) S
    | some (some v) => match t v env S with
      | none => .bad
      | some env1 => (cond env1 S).bind fun k S1 => match k with
        | false => loopC2 m t cond fi1 t1 cond1 elt D env vs1 f (i + 1) S1
        | true => (fi1 env1 S1).bind fun m1 S2 => (loopI m1 t1 cond1 elt D (wipeE env1 vs1) (m1.bound + 1) 0 S2).bind fun _ S3 => loopC2 m t cond fi1 t1 cond1 elt D env vs1 f (i + 1) S3
def mLc2 (fi : IF) (t : TF) (cond : BF) (fi1 : IF) (t1 : TF) (cond1 : BF) (elt : EF) (vs vs1 : List Nat) : EF := fun env S => (fi env S).bind fun m S1 => loopC2 m t cond fi1 t1 cond1 elt S1.n (wipeE env vs) vs1 (m.bound + 1) 0 (S1.new (.lst []))
def PIb (X : Cx) (scope : Scope) (tg iter : Expr) : TI := fun σ H R => Blk X scope fun Y => PIw Y tg iter σ H R
theorem pib {X : Cx} {scope : Scope} {tg iter : Expr} (s : Shared) (H : Hp) (C : Addr) (cl : List (Str × Addr)) (fp : List Addr) : PI (X.blk s H scope (compEnvC scope cl C X.env) fp) tg iter (PIb X scope tg iter) := ⟨fun pins s' _ _ _ I h => h s H C cl fp pins s' I⟩
theorem se_lc2 {C : CO} {kk : Nat} {T : Tab} {scope : Scope} {own : List (Str × Nat)} {vs1 : List Nat} {fi fi1 : IF} {t t1 : TF} {cond cond1 : BF} {fe : EF} {ids ids1 : List Nat} {ifs ifs1 : List Expr} {elt : Expr} (gc : GC G X C kk T) (ok : BlkOk X.N X.env.scope scope own) (hv1 : ∀ i ∈ vs1, i ∈ own.map (·.2)) (hi : SI G X tg iter fi) (hg : BlkC G X C kk T scope fun Y => SG G Y tg t ids)
    (ht : SIf G X scope ifs cond) (hi1 : BlkC G X C kk T scope fun Y => SI G Y tg1 iter1 fi1) (hg1 : BlkC G X C kk T scope fun Y => SG G Y tg1 t1 ids1) (ht1 : SIf G X scope ifs1 cond1) (he : BlkC G X C kk T scope fun Y => SE G Y elt fe) (hs : ∀ j ∈ ids, j ∈ own.map (·.2)) (hs1 : ∀ j ∈ ids1, j ∈ vs1)
    (hf : ∀ x, foldedSetIterable iter X.env x = pure x) (hf1 : ∀ env x, foldedSetIterable iter1 env x = pure x) :
    SE G X (.ListComp elt [⟨tg, iter, ifs, 0⟩, ⟨tg1, iter1, ifs1, 0⟩] scope pos) (mLc2 fi t cond fi1 t1 cond1 fe (own.map (·.2)) vs1) := by
  intro env S ρ σ H Q hv hr h
  obtain ⟨tt, pt, qt⟩ := ht
  obtain ⟨tt1, pt1, qt1⟩ := ht1
  refine PEw.by (pe_lc2 gc.gx.calm gc.gx.nd piw ok hv1 pgb pt pib pgb pt1 peb hf hf1) ?_
  have hg := BlkC.of gc hg
  have he := BlkC.of gc he
  have hi1 := BlkC.of gc hi1
  have hg1 := BlkC.of gc hg1
  generalize own.map (·.2) = vs at hs h ⊢
  refine hi env S ρ σ H _ hv hr ?_
  unfold mLc2 at h
  cases q0 : fi env S with
  | bad => rw [q0] at h; exact h.elim
  | ok m S1 =>
    rw [q0] at h
    have h' : Out G (PV G) ρ H (loopC2 m t cond fi1 t1 cond1 fe S1.n (wipeE env vs) vs1 (m.bound + 1) 0 (S1.new (.lst []))) Q := h
    intro ρ1 H1 J e1 r1 ok1 D hD
    obtain ⟨r2, e2⟩ := r1.new (o := .lst []) hD (same_upd (o := .lst []) hD) ⟨[], upd_same, .nil⟩
    have hDx : (ρ1 ++ [D])[S1.n]? = some D := by rw [← r1.len]; simp
    refine ⟨fun i n H => ∃ S ρ, Ext G (ρ1 ++ [D]) (upd H1 D (.lst [])) ρ H ∧ Rel G ρ S H ∧ Out G (PV G) ρ H (loopC2 m t cond fi1 t1 cond1 fe S1.n (wipeE env vs) vs1 n i S) Q,
      ⟨m.bound + 1, S1.new (.lst []), ρ1 ++ [D], Ext.refl, r2, Out.mono (e1.trans e2) h'⟩, ?_⟩
    rintro i n H3 ⟨S3, ρ3, e3, r3, h3⟩
    cases n with
    | zero => exact h3.elim
    | succ n =>
      have hj := ok1 i ρ3 S3 H3 (e2.trans e3) r3
      rw [loopC2] at h3
      cases q : m.nx i S3 with
      | none => rw [q] at h3; exact h3.elim
      | some w =>
        rw [q] at h3 hj
        cases w with
        | none => exact .inl ⟨hj, Out.ok h3 r3 (.ref (e3.at hDx))⟩
        | some v =>
          obtain ⟨go, yl⟩ := hj
          refine .inr ⟨go, fun H' => ∃ S ρ, Ext G (ρ1 ++ [D]) (upd H1 D (.lst [])) ρ H' ∧ Rel G ρ S H' ∧ Out G (PV G) ρ H' (loopC2 m t cond fi1 t1 cond1 fe S1.n (wipeE env vs) vs1 n (i + 1) S) Q, fun H' hn => ⟨n, Nat.lt_succ_self n, hn⟩, fun x H5 hy => ?_⟩
          obtain ⟨r5, e5, rx⟩ := yl x H5 hy
          dsimp only at h3
          cases qt0 : t v (wipeE env vs) S3 with
          | none => rw [qt0] at h3; exact h3.elim
          | some env1 =>
            rw [qt0] at h3
            dsimp only at h3
            have hvw : RepE G ρ3 H5 (wipe σ vs) (wipeE env vs) := ((hv.mono (((e1.trans e2).trans e3).trans e5))).wipe vs
            intro s0 H0 C0 cl fp
            refine hg s0 H0 C0 cl fp v x (wipeE env vs) env1 S3 ρ3 (wipe σ vs) H5 _ hvw r5 rx qt0 fun σ6 he6 k6 => ⟨kept_wipe k6 hs, ?_⟩
            have h6 := Out.mono e5 h3
            refine qt env1 S3 ρ3 σ6 H5 _ he6 r5 (Out.bind h6 fun kb S7 ρ7 H7 kb' w7 e7 r7 p7 h7 => ?_)
            subst p7
            cases kb' with
            | false => exact ⟨S7, ρ7, (e3.trans e5).trans e7, r7, h7⟩
            | true =>
              dsimp only at h7
              have e37 := (e3.trans e5).trans e7
              have he7 := he6.mono e7
              intro s1 H1' C1 cl1 fp1
              refine hi1 s1 H1' C1 cl1 fp1 env1 S7 ρ7 σ6 H7 _ he7 r7 ?_
              cases q8 : fi1 env1 S7 with
              | bad => rw [q8] at h7; exact h7.elim
              | ok m1 S8 =>
                rw [q8] at h7
                intro ρ8 H8 J1 e8 r8 ok8
                have h8 : Out G (PV G) ρ8 H8 ((loopI m1 t1 cond1 fe S1.n (wipeE env1 vs1) (m1.bound + 1) 0 S8).bind fun _ S3 => loopC2 m t cond fi1 t1 cond1 fe S1.n (wipeE env vs) vs1 n (i + 1) S3) Q := Out.mono e8 h7
                refine ⟨fun j k H => ∃ S ρ, Ext G ρ8 H8 ρ H ∧ Rel G ρ S H ∧ Out G (PV G) ρ H ((loopI m1 t1 cond1 fe S1.n (wipeE env1 vs1) k j S).bind fun _ S3 => loopC2 m t cond fi1 t1 cond1 fe S1.n (wipeE env vs) vs1 n (i + 1) S3) Q,
                  ⟨m1.bound + 1, S8, ρ8, Ext.refl, r8, h8⟩, ?_⟩
                rintro j k H9 ⟨S9, ρ9, e9, r9, h9⟩
                cases k with
                | zero => exact h9.elim
                | succ k =>
                  have hj9 := ok8 j ρ9 S9 H9 e9 r9
                  rw [loopI] at h9
                  cases q9 : m1.nx j S9 with
                  | none => rw [q9] at h9; exact h9.elim
                  | some w9 =>
                    rw [q9] at h9 hj9
                    cases w9 with
                    | none => exact .inl ⟨hj9, S9, ρ9, (e37.trans e8).trans e9, r9, h9⟩
                    | some v9 =>
                      obtain ⟨go9, yl9⟩ := hj9
                      refine .inr ⟨go9, fun H' => ∃ S ρ, Ext G ρ8 H8 ρ H' ∧ Rel G ρ S H' ∧ Out G (PV G) ρ H' ((loopI m1 t1 cond1 fe S1.n (wipeE env1 vs1) k (j + 1) S).bind fun _ S3 => loopC2 m t cond fi1 t1 cond1 fe S1.n (wipeE env vs) vs1 n (i + 1) S3) Q, fun H' hn => ⟨k, Nat.lt_succ_self k, hn⟩, fun x10 H10 hy10 => ?_⟩
                      obtain ⟨r10, e10, rx10⟩ := yl9 x10 H10 hy10
                      dsimp only at h9
                      cases qt9 : t1 v9 (wipeE env1 vs1) S9 with
                      | none => rw [qt9] at h9; exact h9.elim
                      | some env2 =>
                        rw [qt9] at h9
                        dsimp only at h9
                        have hvw9 : RepE G ρ9 H10 (wipe σ6 vs1) (wipeE env1 vs1) := (he7.mono ((e8.trans e9).trans e10)).wipe vs1
                        intro s3 H3' C3 cl3 fp3
                        refine hg1 s3 H3' C3 cl3 fp3 v9 x10 (wipeE env1 vs1) env2 S9 ρ9 (wipe σ6 vs1) H10 _ hvw9 r10 rx10 qt9 fun σ11 he11 k11 => ⟨kept_wipe k11 hs1, ?_⟩
                        have h10 := Out.mono e10 h9
                        have bb : ∀ (r : R Bool) (kf : Bool → Sto → R Unit) (kz : Unit → Sto → R Va), ((r.bind kf).bind kz) = r.bind fun b S => (kf b S).bind kz := fun r kf kz => by cases r <;> rfl
                        have bv : ∀ (r : R Va) (kf : Va → Sto → R Unit) (kz : Unit → Sto → R Va), ((r.bind kf).bind kz) = r.bind fun b S => (kf b S).bind kz := fun r kf kz => by cases r <;> rfl
                        rw [bb] at h10
                        refine qt1 env2 S9 ρ9 σ11 H10 _ he11 r10 (Out.bind h10 fun kb S12 ρ12 H12 kb' w12 e12 r12 p12 h12 => ?_)
                        subst p12
                        cases kb' with
                        | false => exact ⟨S12, ρ12, (e9.trans e10).trans e12, r12, h12⟩
                        | true =>
                          dsimp only at h12
                          rw [bv] at h12
                          intro s4 H4' C4 cl4 fp4
                          refine he s4 H4' C4 cl4 fp4 env2 S12 ρ12 σ11 H12 _ (he11.mono e12) r12 (Out.bind h12 fun y S13 ρ13 H13 u w13 e13 r13 p13 h13 => ?_)
                          cases gg : S13.get S1.n with
                          | none => rw [gg] at h13; exact h13.elim
                          | some ob =>
                            rw [gg] at h13
                            cases ob with
                            | lst acc =>
                              dsimp only at h13
                              cases qb : Nat.blt acc.length 1000000 with
                              | false => rw [qb] at h13; exact h13.elim
                              | true =>
                                rw [qb] at h13
                                have eall := (((e37.trans e8).trans e9).trans e10).trans (e12.trans e13)
                                obtain ⟨ys, f1, ry⟩ := r13.lst gg (eall.at hDx)
                                refine ⟨ys, f1, by rw [ry.length]; exact blt_line qb, ?_⟩
                                obtain ⟨r14, e14⟩ := r13.put (o := .lst (acc ++ [y])) (u := .lst (ys ++ [u])) (eall.at hDx) ⟨_, f1, trivial⟩ fun e => ⟨_, upd_same, (ry.append (.cons p13 .nil)).mono e⟩
                                exact ⟨_, ρ13, ((e9.trans e10).trans (e12.trans e13)).trans e14, r14, Out.mono e14 h13⟩
                            | _ => exact h13.elim

/-! ### reversed -/
def miV (n b : Nat) : MI := ⟨fun i S => match S.get n with
  | some (.lst xs) => match Nat.blt i b with
    | true => match xs[b - 1 - i]? with
      | some v => some (some v)
      | none => none
    | false => some none
  | _ => none, b⟩
def iRevL (f : EF) : IF := fun env S => (f env S).bind fun x S1 => match x with
  | .ref n => match S1.get n with
    | some (.lst xs) => .ok (miV n xs.length) S1
    | _ => .bad
  | _ => .bad
theorem si_rev {p : Pos} (hg : Gl X "reversed") (hm : X.mg "reversed" = none) (gx : GX G X) (ha : SE G X a fa) (hs : starEach [a] X.env = [(false, eval a X.env)]) : SI G X tg (.Call (.Name "reversed" p) [a] [] pos) (iRevL fa) := by
  intro env S ρ σ H Q he hr h
  have hsa : SA G X [a] (mCons fa mNil) := sa_cons ha sa_nil hs
  refine PIw.by (pi_reversed hg hm paw hs) ?_
  have h0 : OutI G ρ H ((mCons fa mNil env S).bind fun xs S1 => match xs with | [.ref n] => (match S1.get n with | some (.lst xs) => R.ok (miV n xs.length) S1 | _ => .bad) | _ => .bad) Q := by
    unfold mCons mNil
    unfold iRevL at h
    cases q : fa env S with
    | bad => rw [q] at h; exact h.elim
    | ok x S1 =>
      rw [q] at h
      cases x <;> exact h
  refine hsa env S ρ σ H _ he hr (OutI.bind h0 fun xs S1 ρ1 H1 vs w1 e1 r1 p1 h1 => ?_)
  match xs, p1, h1 with
  | [.ref n], p1, h1 =>
    obtain ⟨v, e, pv⟩ := reps1 p1
    subst e
    cases pv with
    | ref hp =>
      dsimp only at h1
      cases gg : S1.get n with
      | none => rw [gg] at h1; exact h1.elim
      | some ob =>
        rw [gg] at h1
        cases ob with
        | lst l =>
          obtain ⟨ys, f1, ry⟩ := r1.lst gg hp
          rw [gx.hK]
          refine ⟨_, ys, rfl, SqL.of f1, ?_⟩
          refine h1 ρ1 H1 _ Ext.refl r1 fun i ρ2 S2 H2 e2 r2 => ?_
          show (match (match S2.get n with | some (.lst xs) => (match Nat.blt i l.length with | true => (match xs[l.length - 1 - i]? with | some v => some (some v) | none => none) | false => some none) | _ => none) with | some (some v) => _ | some none => _ | none => True)
          cases g2 : S2.get n with
          | none => trivial
          | some ob2 =>
            cases ob2 with
            | lst l2 =>
              dsimp only
              cases qb : Nat.blt i l.length with
              | false =>
                dsimp only
                show ys.length ≤ i
                rw [ry.length]
                exact Nat.not_lt.mp fun hlt => by rw [bltT hlt] at qb; cases qb
              | true =>
                dsimp only
                obtain ⟨ys2, f2, ry2⟩ := r2.lst g2 (e2.at hp)
                cases q2 : l2[l.length - 1 - i]? with
                | none => trivial
                | some v2 =>
                  dsimp only
                  obtain ⟨u2, hu2, pu2⟩ := ry2.get q2
                  have hil : i < l.length := Nat.le_of_ble_eq_true qb
                  refine ⟨⟨by rw [ry.length]; exact hil, ys2, u2, SqL.of f2, by rw [ry.length]; exact hu2⟩, fun x H' ⟨eh, hx⟩ => ?_⟩
                  subst eh
                  have := hx ys2 (SqL.of f2)
                  rw [ry.length, hu2] at this
                  cases this
                  exact ⟨r2, Ext.refl, pu2⟩
            | _ => trivial
        | _ => exact h1.elim
  | [], _, h1 => exact h1.elim
  | .non :: _, _, h1 => exact h1.elim
  | .bl _ :: _, _, h1 => exact h1.elim
  | .int _ :: _, _, h1 => exact h1.elim
  | .str _ :: _, _, h1 => exact h1.elim
  | .tup _ :: _, _, h1 => exact h1.elim
  | .fro _ :: _, _, h1 => exact h1.elim
  | .ref _ :: _ :: _, _, h1 => exact h1.elim

/-! ### dict(d) -/
def gDict1 : GL := g1 fun x S => match x with
  | .ref n => match S.get n with
    | some (.dic kvs) => .ok (.ref S.n) (S.new (.dic kvs))
    | _ => .bad
  | _ => .bad
theorem calls_dict1 : CallS G X (.type "dict") gDict1 := calls1 fun x v S ρ H Q hr p h => by
  cases p with
  | ref hp =>
    rename_i n q
    have h' : Out G (PV G) ρ H (match S.get n with | some (.dic kvs) => R.ok (Va.ref S.n) (S.new (.dic kvs)) | _ => .bad) Q := h
    cases gg : S.get n with
    | none => rw [gg] at h'; exact h'.elim
    | some ob =>
      rw [gg] at h'
      cases ob with
      | dic kvs =>
        obtain ⟨ys, f1, ry⟩ := hr.dic gg hp
        exact CallW.by call_dictD ⟨_, ys, rfl, .inl f1, fun p hn => Out.dic h' hr ry p hn⟩
      | _ => exact h'.elim
  | _ => exact h.elim
/-! ### {} -/
def mDic0 : EF := fun _ S => .ok (.ref S.n) (S.new (.dic []))
end
end Mi
/-! len(set(xs)) of texts; list.index of texts; {}. -/
namespace Mi
open PySem PySem.Spec PyProof.Rows L2
/-- the first i texts -/
def ahead (xs : List Str) (i : Nat) (y : Str) : Bool := (xs.take i).any fun z => z == y
/-- how many unlike ones the first i are -/
def unlikes (xs : List Str) : Nat → Nat
  | 0 => 0
  | i + 1 => if ahead xs i (xs.getD i Str.empty) then unlikes xs i else unlikes xs i + 1
theorem unlikes_le (xs : List Str) : ∀ i, unlikes xs i ≤ i
  | 0 => Nat.le_refl _
  | i + 1 => by
    have := unlikes_le xs i
    unfold unlikes
    split <;> omega
theorem ahead_succ {xs : List Str} {i : Nat} (h : i < xs.length) (y : Str) : (ahead xs i y || decide (y = xs.getD i Str.empty)) = ahead xs (i + 1) y := by
  have e : xs[i]? = some xs[i] := List.getElem?_eq_getElem h
  have d : xs.getD i Str.empty = xs[i] := by rw [List.getD_eq_getElem?_getD, e] <;> rfl
  unfold ahead
  rw [List.take_succ, e, List.any_append, d]
  cases (xs.take i).any fun z => z == y
  · show decide (y = xs[i]) = ((xs[i] == y) || false)
    rw [Bool.or_false]
    by_cases q : y = xs[i]
    · rw [decide_eq_true q, q]
      simp
    · rw [decide_eq_false q]
      have q2 : ¬ xs[i] = y := fun z => q z.symm
      simp [q2]
  · rfl
section
variable {prog : Program} {w : World} {A : Around}
/-- what the set at a holds when i texts were put in -/
abbrev Half (prog : Program) (w : World) (h : Heap) (a : Addr) (xs : List Str) (i : Nat) : Prop := h.SetOf (strKind prog w) a (ahead xs i) (unlikes xs i)
theorem half_keep {h h' : Heap} {a : Addr} {xs : List Str} {i : Nat} (x : Half prog w h a xs i) (k : ∀ o, h.get? a = some o → h'.get? a = some o) : Half prog w h' a xs i := by
  obtain ⟨o, es, ep, tb, ho, rest⟩ := x
  exact ⟨o, es, ep, tb, k o ho, rest⟩
theorem fill {a I : Addr} {fp wr : List Addr} {G : Array GenState → Array GenState → Prop} {n : Nat} {P : Nat → Value → Prop} {St : Nat → Shared → Prop} {R : Result → Shared → Prop}
    (W : WalksS prog w A.in1 I fp wr G n P St) (nf : a ∉ fp) {xs : List Str} (en : xs.length = n) (small : n + 1 < scanBound) (txt : ∀ i v, P i v → ∃ t, v = .str (xs.getD i Str.empty) t) :
    ∀ (todo i : Nat) (s : Shared), i + todo = n → St i s → Half prog w s.heap a xs i → (∀ s', Moved (a :: wr) G s s' → Half prog w s'.heap a xs n → R (.ok (.ret .none)) s') →
      codeAny (model prog w) A (.builtin "set.update.loop" ⟨[.ref a, .ref I], []⟩) R s
  | 0, i, s, ei, st, hs, fin => by
    obtain rfl : i = n := ei
    have nw : a ∉ wr := fun z => nf (W.sub _ z)
    apply codeAny_builtin PyProof.Rows.F.entry_set_update_loop
    rw [Around.under_plainId PyProof.Rows.F.plain_set_update_loop _]
    apply wpAny_bind
    exact W.done s _ _ st fun s1 mv => wpAny_pure (fin s1 (mv.mono fun b hb => List.mem_cons_of_mem _ hb) (half_keep hs fun o ho => mv.heap a o nw ho))
  | todo + 1, i, s, ei, st, hs, fin => by
    have il : i < n := by omega
    have nw : a ∉ wr := fun z => nf (W.sub _ z)
    apply codeAny_builtin PyProof.Rows.F.entry_set_update_loop
    rw [Around.under_plainId PyProof.Rows.F.plain_set_update_loop _]
    apply wpAny_bind
    refine W.item i s _ _ il st fun v s1 pv st1 mv => ?_
    obtain ⟨t, rfl⟩ := txt i v pv
    have hs1 : Half prog w s1.heap a xs i := half_keep hs fun o ho => mv.heap a o nw ho
    apply wpAny_bind
    apply wpAny_holding
    unfold setAdd
    apply wpAny_holding
    apply wpAny_bind
    refine (strKind prog w).pyHash (k := xs.getD i Str.empty) (strKind_is _ _ _ _) ?_
    have ul := unlikes_le xs i
    refine wpAny_setAddHashed_of (knd := strKind prog w) (s := { s1 with toks := s1.toks + 1 }) (strKind_is _ _ _ _) rfl hs1 (by omega) fun h2 same new => ?_
    have hs2 : Half prog w h2 a xs (i + 1) := by
      have e : unlikes xs (i + 1) = if ahead xs i (xs.getD i Str.empty) = true then unlikes xs i else unlikes xs i + 1 := rfl
      rw [← e] at new
      exact SetOf_congr new (fun y => ahead_succ (by omega) y) rfl
    refine wpAny_pure ⟨plainId_quiet PyProof.Rows.F.plain_set_update_loop _, ?_⟩
    refine fill W nf en small txt todo (i + 1) _ (by omega) (W.frame _ s1 _ _ st1 (Nat.le_succ _) fun b hb o e => ?_) hs2 fun s3 mv3 hs3 => ?_
    · rw [same.2 b fun z : b = a => nf (z ▸ hb)]
      exact e
    · refine fin s3 (Moved.trans W.gtrans ((mv.mono fun b hb => List.mem_cons_of_mem _ hb).then_heap (Nat.le_succ _) fun b o hb e => ?_) mv3) hs3
      rw [same.2 b fun z : b = a => hb (z ▸ List.mem_cons_self)]
      exact e
variable {s : Shared} {E : Value → Shared → Prop}
/-- a new set -/
abbrev setO (led : Bool) : Obj := { cls := .type "set", dict := none, data := .set #[] 0 (.fresh 0 0 led) }
abbrev withSet (s : Shared) (led : Bool) : Shared := { s with heap := s.heap.push (setO led) }
theorem set_of_texts {l : Addr} {items : Array Value} {xs : List Str} {Q : Value → Shared → Prop} (calm : A.handled = none) (hl : s.heap.IsList l items) (hi : StrsAre items.toList xs) (small : xs.length + 1 < scanBound)
    (fin : ∀ h2 tk, Half prog w h2 s.heap.objs.size xs xs.length → (∀ b o, b < s.heap.objs.size → s.heap.get? b = some o → h2.get? b = some o) → Q (.ref s.heap.objs.size) { s with heap := h2, toks := tk }) :
    wpAny (model prog w) A (call (.type "set") [.ref l]) Q E s := by
  have cs := PySem.F.called_set
  obtain ⟨c, tl, mro⟩ := cs.mro
  have made := cs.made
  have sub := cs.sub
  apply wpAny_call
  apply codeAny_of_tree
  show wpAny _ _ (callAny (.type "set") _) _ _ _
  refine wpAny_pure ⟨Code.quiet_builtin _ (by decide +kernel), ?_⟩
  apply codeAny_builtin PySem.F.entry_type_call
  rw [Around.under_plain (weight_type_call_type "set" [.ref l] []) rfl]
  have nt := cs.notType
  have cc := cs.canCreate
  have tc := PySem.F.typeCall_set_1 (.ref l)
  repeat (any_goals (first | assumption | wp_step))
  let N : Value → Shared → Prop := fun obj s1 => ∃ led : Bool, obj = .ref s.heap.objs.size ∧ s1 = withSet s led
  refine codeAny_mono (code_set_new_1 (.ref l) (E := E) (Q₁ := N) fun led => ⟨led, rfl, rfl⟩) fun r s1 hr => ?_
  match r, hr with
  | .error e, hr => exact hr
  | .ok (.ret obj), hr =>
    obtain ⟨led, rfl, rfl⟩ := hr
    have at0 : (withSet s led).heap.get? s.heap.objs.size = some (setO led) := Heap.get?_push_size _ rfl
    have ty : (withSet s led).TypeIs (.ref s.heap.objs.size) "set" := ⟨_, at0, rfl⟩
    have il := cs.init.lookup
    have ib := cs.init.bind (.ref s.heap.objs.size)
    repeat (any_goals (first | assumption | wp_step))
    let M : Value → Shared → Prop := fun r s2 => r = .none ∧ ∃ h2 tk, s2 = { s with heap := h2, toks := tk } ∧ Half prog w h2 s.heap.objs.size xs xs.length ∧ ∀ b o, b < s.heap.objs.size → s.heap.get? b = some o → h2.get? b = some o
    refine codeAny_mono (codeAny_call_builtin (R := wants M E) cs.init.plain PySem.F.entry_set_init (check_set_init_1 ty ?_)) fun r2 s2 hr2 => ?_
    · obtain ⟨⟨k1, k2, k3, k4⟩, lo, lc, nl, ld⟩ := hl
      simp only at lc ld
      subst lc ld
      have lo1 : (withSet s led).heap.get? l = some { cls := .type "list", dict := k2, data := .seq items nl, slots := k4 } := Heap.get?_push_of_some _ lo
      have sb1 := PySem.F.sub_list_set
      have sb2 := PySem.F.sub_list_frozenset
      have nd : (Value.type "list" == Value.type "dict") = false := by decide
      have li : (withSet s led).heap.IsList l items := ⟨_, lo1, rfl, nl, rfl⟩
      unfold Builtin.«set.__init__» noKeywords Builtin.Frozenset.updateFrom
      generalize hPI : pyIter = PI
      wp_walk
      subst hPI
      apply wpAny_pyIter_list li
      apply wpAny_bind
      apply wpAny_runValue
      have ls : l < s.heap.objs.size := Heap.lt_size lo
      have sz : (withSet s led).heap.objs.size = s.heap.objs.size + 1 := Heap.size_push _ _
      have n1 : l ≠ (withSet s led).heap.objs.size := by rw [sz]; exact Nat.ne_of_lt (Nat.lt_succ_of_lt ls)
      have n2 : s.heap.objs.size ∉ [(withSet s led).heap.objs.size, l] := by
        rw [sz]
        intro z
        rcases List.mem_cons.mp z with z | z
        · exact absurd z (Nat.ne_of_lt (Nat.lt_succ_self _))
        · exact absurd (List.mem_singleton.mp z) (Nat.ne_of_gt ls)
      have en : xs.length = items.size := by rw [← StrsAre.len_eq hi, Array.length_toList]
      have calm3 : A.in1.in1.in1.handled = none := by simp [calm]
      have iter0 : Half prog w ((withSet s led).heap.push { cls := .type "list_iterator", data := .fields #[.ref l, .int 0 0] }) s.heap.objs.size xs 0 := by
        refine SetOf_congr ((setObjOf_fresh (knd := strKind prog w) led).setOf (Heap.get?_push_of_some _ at0) (by unfold scanBound; omega)) (fun _ => rfl) rfl
      refine fill ((Walks.list calm3 _ l n1 items).toS) n2 en (by omega) (fun i v hv => SS.strs_at hi i v (by rw [Array.getElem?_toList]; exact hv)) items.size 0 _ (by omega) ⟨⟨_, Heap.get?_push_size _ rfl, rfl, rfl⟩, li.push _⟩ iter0 ?_
      rintro ⟨h2, g2, d2, tk2, o2⟩ mv hs
      obtain rfl : g2 = s.gens := mv.gens
      obtain rfl : d2 = s.drawn := mv.drawn
      obtain rfl : o2 = s.os := mv.os
      show wpAny _ _ _ _ _ _
      apply wpAny_pure
      show wpAny _ _ (ret Value.none) _ _ _
      rw [← en] at hs
      refine wpAny_pure ⟨rfl, h2, tk2, rfl, hs, fun b o hb e => ?_⟩
      refine mv.heap b o (fun z => ?_) (Heap.get?_push_of_some _ (Heap.get?_push_of_some _ e))
      rcases List.mem_cons.mp z with z | z
      · exact absurd z (Nat.ne_of_lt hb)
      · have := List.mem_singleton.mp z
        rw [sz] at this
        exact absurd this (Nat.ne_of_lt (Nat.lt_succ_of_lt hb))
    · match r2, hr2 with
      | .error e, hr2 => exact hr2
      | .ok (.ret r), hr2 =>
        obtain ⟨rfl, h2, tk, rfl, hs, keep⟩ := hr2
        repeat (any_goals (first | assumption | wp_step))
        exact fin _ _ hs keep
end
section
variable {G : Cf} {X : Cx} {a : Expr} {fa : EF} {pos : Pos}
def strsOf : List Va → Option (List Str)
  | [] => some []
  | .str x :: r => match strsOf r with
    | some ys => some (x :: ys)
    | none => none
  | _ :: _ => none
theorem strsOf_rep {ρ : List Addr} {H : Hp} : ∀ {xs : List Va} {vs : List V} {ys : List Str}, Reps G ρ H vs xs → strsOf xs = some ys → vs = ys.map V.str
  | [], vs, ys, r, h => by
    cases h
    cases r
    rfl
  | x :: xs, vs, ys, r, h => by
    cases r with
    | cons p r =>
      cases p with
      | str z =>
        unfold strsOf at h
        cases q : strsOf xs with
        | none => rw [q] at h; cases h
        | some zs =>
          rw [q] at h
          cases h
          rw [strsOf_rep r q] <;> rfl
      | _ => cases h
theorem strs_vals : ∀ {ys : List Str} {us : List Value}, Vals (ys.map V.str) us → StrsAre us ys
  | [], _, .nil => .nil
  | y :: ys, _, .cons ⟨k, e⟩ t => by
    subst e
    exact .cons y k (strs_vals t)
/-- len(set(f)), f a list of texts -/
def mLenSet (f : EF) : EF := fun env S => (f env S).bind fun x S1 => match x with
  | .ref n => match S1.get n with
    | some (.lst xs) => match strsOf xs with
      | some ys => match Nat.blt ys.length 4000 with
        | true => .ok (.int (unlikes ys ys.length)) S1
        | false => .bad
      | none => .bad
    | _ => .bad
  | _ => .bad
def tLenSetS (K : PySem.W.Frag) (ta : TE) : TE := fun σ H Q => ta σ H fun x H1 => ∃ (l : Addr) (xs : List Str), x = .ref l ∧ SqL K H1 l (xs.map V.str) ∧ xs.length + 1 < scanBound ∧ Q (.int (unlikes xs xs.length)) H1
theorem pe_lenSetS {p p2 q : Pos} {ta : TE} (hc : X.calm = true) (hg : Gl X "len") (hm : X.mg "len" = none) (hg2 : Gl X "set") (hm2 : X.mg "set" = none) (ha : PE X a ta) (na : starEach [a] X.env = (false, eval a X.env) :: starEach [] X.env) :
    PE X (.Call (.Name "len" p) [.Call (.Name "set" p2) [a] [] q] [] pos) (tLenSetS X.K ta) := by
  refine ⟨fun pins s σ H Q I h => Call_ (ld_blt I hg hm boot_len ?_)⟩
  apply PyProof.Rows.callWith_builtin1 _ rfl rfl
  refine PyProof.Rows.args_cons (Call_ (ld_blt I hg2 hm2 boot_set ?_)) rfl
  refine PyProof.Rows.callWith_type1 (PyProof.Rows.args_cons (thn (ha.run pins s σ H _ I h) fun v s1 ⟨x, H1, I1, r1, q1⟩ => PyProof.Rows.args_nil ?_) na) na rfl
  obtain ⟨l, xs, rfl, hq, small, q1⟩ := q1
  cases r1
  obtain ⟨its, r, pl, hz⟩ := I1.list hq
  refine set_of_texts (I1.ok.hd hc) pl.isList (by simpa using strs_vals r) small fun h2 tk hs keep => PyProof.Rows.args_nil ?_
  have I2 : Inv X pins σ H1 { s1 with heap := h2, toks := tk } := I1.kept fun b o e => keep b o (Heap.lt_size e) e
  obtain ⟨o, es, ep, t, ho, hex, hd, _, _, _, hf, hn⟩ := hs
  have ul := unlikes_le xs xs.length
  have sb : scanBound = 4096 := rfl
  exact call_len_set ho hex hd hf (by rw [hn]; omega) ⟨.int (unlikes xs xs.length), H1, I2.tok _, ⟨_, by rw [hn]⟩, q1⟩
theorem se_lenSet {p p2 q : Pos} (gx : GX G X) (hg : Gl X "len") (hm : X.mg "len" = none) (hg2 : Gl X "set") (hm2 : X.mg "set" = none) (ha : SE G X a fa) (na : starEach [a] X.env = (false, eval a X.env) :: starEach [] X.env) :
    SE G X (.Call (.Name "len" p) [.Call (.Name "set" p2) [a] [] q] [] pos) (mLenSet fa) := by
  intro env S ρ σ H Q he hr h
  refine PEw.by (pe_lenSetS gx.calm hg hm hg2 hm2 pew na) (ha env S ρ σ H _ he hr (Out.bind h fun x S1 ρ1 H1 v w1 e1 r1 p1 h1 => ?_))
  cases p1 with
  | ref hp =>
    rename_i n l
    dsimp only at h1
    cases gg : S1.get n with
    | none => rw [gg] at h1; exact h1.elim
    | some ob =>
      rw [gg] at h1
      cases ob with
      | lst xs =>
        dsimp only at h1
        cases qs : strsOf xs with
        | none => rw [qs] at h1; exact h1.elim
        | some ys =>
          rw [qs] at h1
          dsimp only at h1
          cases qb : Nat.blt ys.length 4000 with
          | false => rw [qb] at h1; exact h1.elim
          | true =>
            rw [qb] at h1
            obtain ⟨vs, f1, rv⟩ := r1.lst gg hp
            have e := strsOf_rep rv qs
            subst e
            have lt : ys.length < 4000 := Nat.le_of_ble_eq_true qb
            exact ⟨l, ys, rfl, by rw [gx.hK]; exact SqL.of f1, by unfold scanBound; omega, Out.ok h1 r1 (.int _)⟩
      | _ => exact h1.elim
  | _ => exact h1.elim
/-! ### {} -/
theorem se_dic0 : SE G X (.Dict [] [] pos) mDic0 := by
  intro env S ρ σ H Q he hr h
  exact PEw.by pe_dnewK fun p hn => Out.dic h hr .nil p hn
/-! ### xs.index(y), texts -/
def findT (y : Str) : List Str → Nat → Option Nat
  | [], _ => none
  | x :: r, i => match decide (x = y) with
    | true => some i
    | false => findT y r (i + 1)
def gIndex : GM := gmL fun n l xs S => match xs with
  | [.str y] => match strsOf l with
    | some ys => match findT y ys 0 with
      | some j => .ok (.int (j : Nat)) S
      | none => .bad
    | none => .bad
  | _ => .bad
theorem findT_ok {y : Str} : ∀ {ys : List Str} {i j : Nat}, findT y ys i = some j → ∃ m, j = i + m ∧ ys[m]? = some y ∧ ∀ k z, k < m → ys[k]? = some z → z ≠ y
  | [], i, j, h => by cases h
  | x :: r, i, j, h => by
    unfold findT at h
    cases q : decide (x = y) with
    | true =>
      rw [q] at h
      cases h
      have e := of_decide_eq_true q
      exact ⟨0, rfl, by rw [e] <;> rfl, fun k z hk => absurd hk (Nat.not_lt_zero k)⟩
    | false =>
      rw [q] at h
      obtain ⟨m, e1, e2, e3⟩ := findT_ok h
      refine ⟨m + 1, by omega, e2, fun k z hk hz => ?_⟩
      cases k with
      | zero =>
        have : x = z := by simpa using hz
        rw [← this]
        exact of_decide_eq_false q
      | succ k => exact e3 k z (by omega) (by simpa using hz)
theorem mts_index : MtS G X "list.index" gIndex := mts_L fun n l xs p ys vs S ρ H Q hr hp gg f1 r1 r q => by
  match xs, r, q with
  | [.str y], r, q =>
    obtain ⟨v, e, pv⟩ := reps1 r
    subst e
    cases pv with
    | str _ =>
      dsimp only at q
      cases qs : strsOf l with
      | none => rw [qs] at q; exact q.elim
      | some zs =>
        rw [qs] at q
        dsimp only at q
        cases qf : findT y zs 0 with
        | none => rw [qf] at q; exact q.elim
        | some j =>
          rw [qf] at q
          have e := strsOf_rep r1 qs
          subst e
          obtain ⟨m, e1, e2, e3⟩ := findT_ok qf
          have ej : j = m := by omega
          subst ej
          refine MtW.byM mt_index ⟨p, zs.map V.str, .str y, j, .str y, rfl, rfl, SqL.of f1, rfl, ?_, ?_, ?_, ?_, Out.ok q hr (.int _)⟩
          · rw [List.all_map]
            exact List.all_eq_true.mpr fun _ _ => rfl
          · rw [List.getElem?_map, e2] <;> rfl
          · show (y == y) = true
            simp
          · intro k z hk hz
            rw [List.getElem?_map] at hz
            cases qz : zs[k]? with
            | none => rw [qz] at hz; cases hz
            | some t =>
              rw [qz] at hz
              cases hz
              have := e3 k t hk qz
              show (t == y) = false
              simpa using this
  | [], _, q => exact q.elim
  | .non :: _, _, q => exact q.elim
  | .bl _ :: _, _, q => exact q.elim
  | .int _ :: _, _, q => exact q.elim
  | .tup _ :: _, _, q => exact q.elim
  | .fro _ :: _, _, q => exact q.elim
  | .ref _ :: _, _, q => exact q.elim
  | .str _ :: _ :: _, _, q => exact q.elim
/-! ### y = {k: v for ..}; x, y, z = a, b, c -/
variable {tg iter : Expr} {b c : Expr} {fs : AF}
theorem ps_setDc {i : Nat} {y : Str} {py : Pos} {kx vx : Expr} {ifs : List Expr} {scope : Scope} {own : List (Str × Nat)} {spos : Pos} {wi : TI} {g : TG} {tt : TT} {tk tv : TE} (hc : X.calm = true) (hN : X.N.Nodup) (hy : X.N[i]? = some y) (hyl : X.env.scope.names.lookup y = some .local)
    (hsw : swapsWith (.DictComp kx vx [⟨tg, iter, ifs, 0⟩] scope pos) (some (.Name y py)) spos.line X.env = pure true) (hi : PI X tg iter wi) (ok : BlkOk X.N X.env.scope scope own) (hg : Blk X scope fun Y => PG Y tg g) (ht : Blk X scope fun Y => PTs Y ifs tt)
    (hk : Blk X scope fun Y => PE Y kx tk) (he : Blk X scope fun Y => PE Y vx tv) (hf : ∀ x, foldedSetIterable iter X.env x = pure x) :
    PS X (.Assign [.Name y py] (.DictComp kx vx [⟨tg, iter, ifs, 0⟩] scope pos) spos) (tAsg (tDc wi g tt tk tv (own.map (·.2))) (gName i)) := by
  constructor
  intro pins s σ H D I h
  rw [exec_Assign_Name_used _ _ _ _ hsw]
  apply wpAny_bind
  apply wpAny_standAt
  apply wpAny_bind
  show wpAny _ X.A (do let _ ← comprehension (.DictComp kx vx [⟨tg, iter, ifs, 0⟩] scope pos) scope X.env (firstIterPos [⟨tg, iter, ifs, 0⟩] pos) newDict false (eval iter X.env) (some (assign (.Name y py) X.env))) _ _ s
  have h2 : tDc wi g tt tk tv (own.map (·.2)) σ H (fun x H1 => gName i x σ H1 D.nx) := h
  apply wpAny_bind
  refine thn (dc_core (Qf := fun _ s2 => SP X pins D .next s2) hc hN I hi ok hg ht hk he hf h2 fun L C s1 m H1 I1 q hn f => ?_) fun _ _ hq => wpAny_pure (wpAny_pure hq)
  show wpAny _ _ (assign (.Name y py) X.env (.ref L)) _ _ _
  obtain ⟨f0, f1, f2, f3, f4, f5⟩ := f
  refine wpAny_assign_Name (store_ok2 (v := V.ref L) I1 hN hy (.inl hyl) rfl (fun s2 I2 ⟨a, sb, hx⟩ => ?_) (.inr hyl))
  have ne : C ≠ a := hx.elim (fun z => z ▸ f1) fun z e => f4 y a z e.symm
  exact ⟨m, hn.sameBut sb ne, fun h3 sb3 => ⟨_, H1, I2.turned (t' := s2.toks) (fun b o hb e => (sb3.2 b hb).trans e) f0 f1 f3 f4 f5, q⟩⟩
def mPar3 (i j l : Nat) (f : AF) : SF := fun env S => (f env S).bind fun xs S1 => match xs with
  | [u, v, w] => .ok (.nx (((env.set i (some u)).set j (some v)).set l (some w))) S1
  | _ => .bad
theorem ss_par3 {i j l : Nat} {x y z : Str} {px py pz pt : Pos} {kt k2 : Nat} {pt2 : Pos} (gx : GX G X) (hi : X.N[i]? = some x) (hj : X.N[j]? = some y) (hl : X.N[l]? = some z) (hij : i ≠ j) (hil : i ≠ l) (hjl : j ≠ l) (hx : X.env.scope.names.lookup x = some .local) (hy : X.env.scope.names.lookup y = some .local) (hz : X.env.scope.names.lookup z = some .local) (ha : SA G X [a, b, c] fs)
    (hw : swappedStores [.Tuple [.Name x px, .Name y py, .Name z pz] kt pt] (.Tuple [a, b, c] k2 pt2) X.env = pure (some [x, y, z])) (hs : swapsWithSole [.Tuple [.Name x px, .Name y py, .Name z pz] kt pt] (.Tuple [a, b, c] k2 pt2) pos.line X.env = pure false) :
    SS G X (.Assign [.Tuple [.Name x px, .Name y py, .Name z pz] kt pt] (.Tuple [a, b, c] k2 pt2) pos) (mPar3 i j l fs) := by
  intro env S ρ σ H D he hr h
  refine PSw.by (ps_par3 gx.calm gx.nd hi hj hl hij hil hjl hx hy hz paw hw hs) (ha env S ρ σ H _ he hr (OutS.bind h fun xs S1 ρ1 H1 vs w1 e1 r1 p1 h1 => ?_))
  match xs, p1, h1 with
  | [], _, h1 => exact h1.elim
  | [_], _, h1 => exact h1.elim
  | [_, _], _, h1 => exact h1.elim
  | [u, v, w], p1, h1 =>
    cases p1 with
    | cons q1 p1 => cases p1 with
      | cons q2 p1 => cases p1 with
        | cons q3 p1 => cases p1 with
          | nil => exact ⟨_, _, _, rfl, h1 ρ1 H1 _ Ext.refl r1 ((((he.mono e1).set q1 i).set q2 j).set q3 l)⟩
  | _ :: _ :: _ :: _ :: _, _, h1 => exact h1.elim
theorem ss_setDc {C : CO} {k : Nat} {T : Tab} {scope : Scope} {own : List (Str × Nat)} {fi : IF} {t : TF} {cond : BF} {fk fv : EF} {ids : List Nat} {ifs : List Expr} {kx vx : Expr} {i : Nat} {y : Str} {py spos : Pos} (gc : GC G X C k T) (hy : X.N[i]? = some y) (hyl : X.env.scope.names.lookup y = some .local)
    (hsw : swapsWith (.DictComp kx vx [⟨tg, iter, ifs, 0⟩] scope pos) (some (.Name y py)) spos.line X.env = pure true) (ok : BlkOk X.N X.env.scope scope own) (hi : SI G X tg iter fi) (hg : BlkC G X C k T scope fun Y => SG G Y tg t ids)
    (ht : SIf G X scope ifs cond) (hk : BlkC G X C k T scope fun Y => SE G Y kx fk) (he : BlkC G X C k T scope fun Y => SE G Y vx fv) (hs : ∀ j ∈ ids, j ∈ own.map (·.2)) (hf : ∀ x, foldedSetIterable iter X.env x = pure x) :
    SS G X (.Assign [.Name y py] (.DictComp kx vx [⟨tg, iter, ifs, 0⟩] scope pos) spos) (mSet (tNm i) (mDc fi t cond fk fv (own.map (·.2)))) := by
  intro env S ρ σ H D hv hr h
  obtain ⟨tt, pt, qt⟩ := ht
  refine PSw.by (ps_setDc gc.gx.calm gc.gx.nd hy hyl hsw piw ok pgb pt peb peb hf) (tdc_of hi (BlkC.of gc hg) qt (BlkC.of gc hk) (BlkC.of gc he) hs hv hr (OutS.bind h fun x S1 ρ1 H1 v w1 e1 r1 p1 h1 => ?_))
  exact h1 ρ1 H1 _ Ext.refl r1 ((hv.mono e1).set p1 i)
end
end Mi
/-! Walks over a dict's keys: the dict is locked meanwhile. -/
namespace Mi
open PySem PySem.Spec PyProof.Rows L2
section
variable {G : Cf} {X : Cx} {a b c e o tg iter : Expr} {fa : EF} {pos : Pos} {ρ : List Addr} {H H1 : Hp}
mutual
theorem Rep.monoW (t : ∀ p ys, SqT G.K H p ys → SqT G.K H1 p ys) (f : ∀ p ys, SqF G.K H p ys → SqF G.K H1 p ys) : ∀ {v : V} {x : Va}, Rep G ρ H v x → Rep G ρ H1 v x
  | _, _, .non => .non
  | _, _, .bl b => .bl b
  | _, _, .int i => .int i
  | _, _, .str x => .str x
  | _, _, .ref h => .ref h
  | _, _, .tup h r => .tup (t _ _ h) (Reps.monoW t f r)
  | _, _, .fro h r => .fro (f _ _ h) (Reps.monoW t f r)
theorem Reps.monoW (t : ∀ p ys, SqT G.K H p ys → SqT G.K H1 p ys) (f : ∀ p ys, SqF G.K H p ys → SqF G.K H1 p ys) : ∀ {vs : List V} {xs : List Va}, Reps G ρ H vs xs → Reps G ρ H1 vs xs
  | _, _, .nil => .nil
  | _, _, .cons a b => .cons (Rep.monoW t f a) (Reps.monoW t f b)
end
theorem RepK.monoW {κ : Type} (t : ∀ p ys, SqT G.K H p ys → SqT G.K H1 p ys) (f : ∀ p ys, SqF G.K H p ys → SqF G.K H1 p ys) : ∀ {vs : List (κ × V)} {xs : List (κ × Va)}, RepK G ρ H vs xs → RepK G ρ H1 vs xs
  | _, _, .nil => .nil
  | _, _, .cons a b => .cons (a.monoW t f) (RepK.monoW t f b)
theorem RepF.monoW (t : ∀ p ys, SqT G.K H p ys → SqT G.K H1 p ys) (f : ∀ p ys, SqF G.K H p ys → SqF G.K H1 p ys) : ∀ {vs : List (Str × V)} {xs : List (Nat × Va)}, RepF G ρ H vs xs → RepF G ρ H1 vs xs
  | _, _, .nil => .nil
  | _, _, .cons a b => .cons (a.monoW t f) (RepF.monoW t f b)
theorem RepK.keys : ∀ {vs : List (Key × V)} {xs : List (Key × Va)}, RepK G ρ H vs xs → vs.map (·.1) = xs.map (·.1)
  | _, _, .nil => rfl
  | _, _, .cons a b => by rw [List.map_cons, List.map_cons, RepK.keys b]
/-- the dict that an expression names, its walk within f -/
def mLockE (lk : Ev → Sto → Option Nat) (f : EF) : EF := fun env S => match lk env S with
  | some n => match S.get n with
    | some (.dic kvs) => (f env (S.set n (.frd kvs))).bind fun v S' => match S'.get n with
      | some (.frd _) => .ok v (S'.set n (.dic kvs))
      | _ => .bad
    | _ => .bad
  | none => .bad
theorem unlock {S' : Sto} {n : Nat} {d : Addr} {kvs kvs2 : List (Key × Va)} {ks : List (Key × V)} {od : Obj} {ρ' : List Addr} {H' : Hp} (hd : ρ[n]? = some d) (hk : H d = some (.dK ks)) (rk : RepK G ρ H ks kvs) (e1 : Ext G ρ H ρ (upd H d (.frz od (.dK ks)))) (e' : Ext G ρ (upd H d (.frz od (.dK ks))) ρ' H') (r' : Rel G ρ' S' H') (q4 : S'.get n = some (.frd kvs2)) :
    H' d = some (.frz od (.dK ks)) ∧ Ext G ρ H ρ' (upd H' d (.dK ks)) ∧ Rel G ρ' (S'.set n (.dic kvs)) (upd H' d (.dK ks)) ∧ (∀ p ys, SqT G.K H' p ys → SqT G.K (upd H' d (.dK ks)) p ys) ∧ ∀ p ys, SqF G.K H' p ys → SqF G.K (upd H' d (.dK ks)) p ys := by
  have hz : H' d = some (.frz od (.dK ks)) := e'.frz d od ks upd_same
  have t1 : ∀ p ys, SqT G.K H' p ys → SqT G.K (upd H' d (.dK ks)) p ys := fun p ys q => by
    rcases q with (q | ⟨w, q⟩) | q
    · refine .inl (.inl ?_)
      rw [upd_ne (by rintro rfl; rw [hz] at q; cases q)]
      exact q
    · refine .inl (.inr ⟨w, ?_⟩)
      rw [upd_ne (by rintro rfl; rw [hz] at q; cases q)]
      exact q
    · exact .inr q
  have f1 : ∀ p ys, SqF G.K H' p ys → SqF G.K (upd H' d (.dK ks)) p ys := fun p ys q => by
    rcases q with ⟨w, q⟩ | q
    · refine .inl ⟨w, ?_⟩
      rw [upd_ne (by rintro rfl; rw [hz] at q; cases q)]
      exact q
    · exact .inr q
  have ee : Ext G ρ H ρ' (upd H' d (.dK ks)) := ⟨(e1.trans e').more, fun p ys q => t1 p ys ((e1.trans e').tup p ys q), fun p ys q => f1 p ys ((e1.trans e').fro p ys q), fun p w k2 q => by
    rw [upd_ne (by rintro rfl; rw [hk] at q; cases q)]
    exact (e1.trans e').frz p w k2 q⟩
  have hd' : ρ'[n]? = some d := e'.at hd
  refine ⟨hz, ee, ⟨r'.len, r'.nd, fun j b hb => ?_⟩, t1, f1⟩
  by_cases hij : n = j
  · subst hij
    rw [hd'] at hb
    cases hb
    exact ⟨.dic kvs, Sto.get_set (Sto.lt q4), ks, upd_same, rk.mono ee⟩
  · obtain ⟨o1, q1, x1⟩ := r'.ob j b hb
    have nab : b ≠ d := by
      rintro rfl
      obtain ⟨h1, e1⟩ := List.getElem?_eq_some_iff.mp hd'
      obtain ⟨h2, e2⟩ := List.getElem?_eq_some_iff.mp hb
      exact hij ((List.getElem_inj r'.nd).mp (e1.trans e2.symm))
    refine ⟨o1, by rw [Sto.get_set_ne hij]; exact q1, ?_⟩
    cases o1 with
    | lst xs =>
      obtain ⟨ys, q, r⟩ := x1
      exact ⟨ys, by rw [upd_ne nab]; exact q, r.monoW t1 f1⟩
    | dic kvs =>
      obtain ⟨ks, q, r⟩ := x1
      exact ⟨ks, by rw [upd_ne nab]; exact q, r.monoW t1 f1⟩
    | ins C fs =>
      obtain ⟨dx, gs, q, r, c, n⟩ := x1
      exact ⟨dx, gs, by rw [upd_ne nab]; exact q, r.monoW t1 f1, c, n⟩
    | frd kvs =>
      obtain ⟨ks, od, q, r⟩ := x1
      exact ⟨ks, od, by rw [upd_ne nab]; exact q, r.monoW t1 f1⟩
theorem se_lock {lk : Ev → Sto → Option Nat} (ha : SE G X a fa) : SE G X a (mLockE lk fa) := by
  intro env S ρ σ H Q he hr h
  unfold mLockE at h
  cases q1 : lk env S with
  | none => rw [q1] at h; exact h.elim
  | some n =>
    rw [q1] at h
    dsimp only at h
    cases q2 : S.get n with
    | none => rw [q2] at h; exact h.elim
    | some ob =>
      rw [q2] at h
      cases ob with
      | dic kvs =>
        dsimp only at h
        obtain ⟨d, hd, ks, hk, rk⟩ := hr.at q2
        refine PEw.by (pe_lock pew) ⟨d, .dK ks, hk, trivial, fun od => ?_⟩
        obtain ⟨r1, e1⟩ := hr.put (o := .frd kvs) (u := .frz od (.dK ks)) hd ⟨_, hk, trivial⟩ fun e => ⟨ks, od, upd_same, rk.mono e⟩
        refine ha env (S.set n (.frd kvs)) ρ σ _ _ (he.mono e1) r1 ?_
        cases q3 : fa env (S.set n (.frd kvs)) with
        | bad => rw [q3] at h; exact h.elim
        | ok v S' =>
          rw [q3] at h
          intro ρ' H' u e' r' p'
          have h2 : Out G (PV G) ρ H (match S'.get n with | some (.frd _) => R.ok v (S'.set n (.dic kvs)) | _ => .bad) Q := h
          cases q4 : S'.get n with
          | none => rw [q4] at h2; exact h2.elim
          | some o2 =>
            rw [q4] at h2
            cases o2 with
            | frd kvs2 =>
              obtain ⟨hz, ee, rr, t1, f1⟩ := unlock hd hk rk e1 e' r' q4
              exact ⟨hz, h2 ρ' _ u ee rr (p'.monoW t1 f1)⟩
            | _ => exact h2.elim
      | _ => exact h.elim
theorem RepE.monoW {σ : L2.St} {env : Ev} (t : ∀ p ys, SqT G.K H p ys → SqT G.K H1 p ys) (f : ∀ p ys, SqF G.K H p ys → SqF G.K H1 p ys) (r : RepE G ρ H σ env) : RepE G ρ H1 σ env := ⟨r.len, fun i x h => by
  obtain ⟨v, h1, h2⟩ := r.at_ i x h
  exact ⟨v, h1, h2.monoW t f⟩⟩
/-- a statement, the dict that lk tells locked meanwhile -/
def mLockS (lk : Ev → Sto → Option Nat) (f : SF) : SF := fun env S => match lk env S with
  | some n => match S.get n with
    | some (.dic kvs) => match f env (S.set n (.frd kvs)) with
      | .ok fl S' => match S'.get n with
        | some (.frd _) => .ok fl (S'.set n (.dic kvs))
        | _ => .bad
      | .bad => .bad
    | _ => .bad
  | none => .bad
theorem ss_lock {lk : Ev → Sto → Option Nat} {st : Stmt} {f : SF} (ha : SS G X st f) : SS G X st (mLockS lk f) := by
  intro env S ρ σ H D he hr h
  unfold mLockS at h
  cases q1 : lk env S with
  | none => rw [q1] at h; exact h.elim
  | some n =>
    rw [q1] at h
    dsimp only at h
    cases q2 : S.get n with
    | none => rw [q2] at h; exact h.elim
    | some ob =>
      rw [q2] at h
      cases ob with
      | dic kvs =>
        dsimp only at h
        obtain ⟨d, hd, ks, hk, rk⟩ := hr.at q2
        refine PSw.by (ps_lock psw) ⟨d, .dK ks, hk, trivial, fun od => ?_⟩
        obtain ⟨r1, e1⟩ := hr.put (o := .frd kvs) (u := .frz od (.dK ks)) hd ⟨_, hk, trivial⟩ fun e => ⟨ks, od, upd_same, rk.mono e⟩
        refine ha env (S.set n (.frd kvs)) ρ σ _ _ (he.mono e1) r1 ?_
        cases q3 : f env (S.set n (.frd kvs)) with
        | bad => rw [q3] at h; exact h.elim
        | ok fl S' =>
          rw [q3] at h
          dsimp only at h
          cases q4 : S'.get n with
          | none => rw [q4] at h; exact h.elim
          | some o2 =>
            rw [q4] at h
            cases o2 with
            | frd kvs2 =>
              dsimp only at h
              cases fl with
              | nx env' =>
                intro ρ' H' σ' e' r' p'
                obtain ⟨hz, ee, rr, t1, f1⟩ := unlock hd hk rk e1 e' r' q4
                exact ⟨hz, h ρ' _ σ' ee rr (p'.monoW t1 f1)⟩
              | bk env' =>
                intro ρ' H' σ' e' r' p'
                obtain ⟨hz, ee, rr, t1, f1⟩ := unlock hd hk rk e1 e' r' q4
                exact ⟨hz, h ρ' _ σ' ee rr (p'.monoW t1 f1)⟩
              | ct env' =>
                intro ρ' H' σ' e' r' p'
                obtain ⟨hz, ee, rr, t1, f1⟩ := unlock hd hk rk e1 e' r' q4
                exact ⟨hz, h ρ' _ σ' ee rr (p'.monoW t1 f1)⟩
              | rt v =>
                intro ρ' H' u e' r' p'
                obtain ⟨hz, ee, rr, t1, f1⟩ := unlock hd hk rk e1 e' r' q4
                exact ⟨hz, h ρ' _ u ee rr (p'.monoW t1 f1)⟩
            | _ => exact h.elim
      | _ => exact h.elim
def lkV (i : Nat) : Ev → Sto → Option Nat := fun env S => match env[i]? with
  | some (some (.ref n)) => some n
  | _ => none
def lkF (i j : Nat) : Ev → Sto → Option Nat := fun env S => match env[i]? with
  | some (some x) => match gFld j x S with
    | some (.ref n) => some n
    | _ => none
  | _ => none
/-- the keys of a locked dict -/
def iKeyL (f : EF) : IF := fun env S => (f env S).bind fun x S1 => match x with
  | .ref n => match S1.get n with
    | some (.frd kvs) => .ok (miL (kvs.map fun kv => vaK kv.1)) S1
    | _ => .bad
  | _ => .bad
theorem si_keys (gx : GX G X) (ha : SE G X a fa) : SI G X tg a (iKeyL fa) := by
  intro env S ρ σ H Q he hr h
  refine PIw.by (pi_keys pew) (ha env S ρ σ H _ he hr (OutI.bind h fun x S1 ρ1 H1 v w1 e1 r1 p1 h1 => ?_))
  cases p1 with
  | ref hp =>
    rename_i n d
    dsimp only at h1
    cases gg : S1.get n with
    | none => rw [gg] at h1; exact h1.elim
    | some ob =>
      rw [gg] at h1
      cases ob with
      | frd kvs =>
        obtain ⟨ks, od, hz, rk⟩ := r1.ob_of gg hp
        have kk := RepK.keys rk
        have ll := congrArg List.length kk
        rw [List.length_map, List.length_map] at ll
        refine ⟨d, od, rfl, .inl ⟨ks, hz, h1 ρ1 H1 _ Ext.refl r1 fun i ρ2 S2 H2 e2 r2 => ?_⟩⟩
        have hz2 : H2 d = some (.frz od (.dK ks)) := e2.frz d od ks hz
        show (match some (kvs.map fun kv => vaK kv.1)[i]? with | some (some v) => _ | some none => _ | none => True)
        cases q : (kvs.map fun kv => vaK kv.1)[i]? with
        | none =>
          have := List.getElem?_eq_none_iff.mp q
          rw [List.length_map] at this
          exact ⟨hz2, by omega⟩
        | some v =>
          rw [List.getElem?_map] at q
          cases q5 : kvs[i]? with
          | none => rw [q5] at q; cases q
          | some kv =>
            rw [q5] at q
            cases q
            have hl := (List.getElem?_eq_some_iff.mp q5).1
            refine ⟨⟨hz2, by omega⟩, fun x H' ⟨eh, k, v, hkv, ex⟩ => ?_⟩
            subst eh
            have e6 : (ks.map (·.1))[i]? = (kvs.map (·.1))[i]? := by rw [kk]
            rw [List.getElem?_map, List.getElem?_map, hkv, q5] at e6
            have e7 : k = kv.1 := by simpa using e6
            subst ex
            rw [e7]
            exact ⟨r2, Ext.refl, rep_key kv.1⟩
      | _ => exact h1.elim
  | _ => exact h1.elim
end
end Mi
/-! Steps in one stroke; comprehensions, where turns only make new objects. -/
namespace Mi
open PySem PySem.Spec PyProof.Rows L2
theorem cons_ok {f : EF} {g : AF} {env : Ev} {S S1 S2 : Sto} {x : Va} {xs : List Va} (h1 : f env S = .ok x S1) (h2 : g env S1 = .ok xs S2) : mCons f g env S = .ok (x :: xs) S2 := by
  show R.bind (f env S) _ = _
  rw [h1, bind_ok, h2] <;> rfl
theorem bm_ok {k : Kn} {g : GM} {o : EF} {fs : AF} {env : Ev} {S S1 S2 : Sto} {x : Va} {xs : List Va} (h1 : o env S = .ok x S1) (hk : isKn k x S1 = true) (h2 : fs env S1 = .ok xs S2) : mBm k g o fs env S = g x xs S2 := by
  unfold mBm
  rw [h1, bind_ok]
  try dsimp only
  rw [hk]
  try dsimp only
  rw [h2, bind_ok]
theorem bin_ok {g : G2} {a b : EF} {env : Ev} {S S1 S2 : Sto} {x y : Va} (h1 : a env S = .ok x S1) (h2 : b env S1 = .ok y S2) : mBin g a b env S = g x y S2 := by
  unfold mBin
  rw [h1, bind_ok, h2, bind_ok]
theorem ix_ok {a b : EF} {env : Ev} {S S1 S2 : Sto} {x y v : Va} (h1 : a env S = .ok x S1) (h2 : b env S1 = .ok y S2) (h3 : gIx x y S2 = some v) : mIx a b env S = .ok v S2 := by
  unfold mIx
  rw [h1, bind_ok, h2, bind_ok, h3]
theorem call_ok' {C : CO} {j : Nat} {fs : AF} {dx : List Va} {env : Ev} {S S1 : Sto} {xs : List Va} (h : fs env S = .ok xs S1) : mCall C j fs dx env S = C j (xs ++ dx) S1 := by
  unfold mCall
  rw [h, bind_ok]
theorem bi_ok {g : GL} {fs : AF} {env : Ev} {S S1 : Sto} {xs : List Va} (h : fs env S = .ok xs S1) : mBi g fs env S = g xs S1 := by
  unfold mBi
  rw [h, bind_ok]
theorem bool_ok {f : EF} {env : Ev} {S S1 : Sto} {k : Bool} (h : f env S = .ok (.bl k) S1) : mBool f env S = .ok k S1 := by
  unfold mBool
  rw [h, bind_ok]
theorem tru_ok {f : EF} {env : Ev} {S S1 : Sto} {x : Va} {k : Bool} (h : f env S = .ok x S1) (ht : truth x S1 = some k) : mTru f env S = .ok k S1 := by
  unfold mTru
  rw [h, bind_ok, ht]
theorem notB_ok {f : BF} {env : Ev} {S S1 : Sto} {k : Bool} (h : f env S = .ok k S1) : mNotB f env S = .ok (!k) S1 := by
  unfold mNotB
  rw [h, bind_ok]
theorem or_f {f g : BF} {env : Ev} {S S1 : Sto} (h : f env S = .ok false S1) : mOrB f g env S = g env S1 := by
  unfold mOrB
  rw [h, bind_ok]
theorem or_t {f g : BF} {env : Ev} {S S1 : Sto} (h : f env S = .ok true S1) : mOrB f g env S = .ok true S1 := by
  unfold mOrB
  rw [h, bind_ok]
theorem and_t {f g : BF} {env : Ev} {S S1 : Sto} (h : f env S = .ok true S1) : mAndB f g env S = g env S1 := by
  unfold mAndB
  rw [h, bind_ok]
theorem and_f {f g : BF} {env : Ev} {S S1 : Sto} (h : f env S = .ok false S1) : mAndB f g env S = .ok false S1 := by
  unfold mAndB
  rw [h, bind_ok]
theorem seq_R {f : EF} {env : Ev} {S S1 : Sto} {a : Nat} {xs : List Va} (h : f env S = .ok (.ref a) S1) (g : S1.get a = some (.lst xs)) : iSeq f env S = .ok (miR a xs.length) S1 := by
  unfold iSeq
  rw [h, bind_ok]
  try dsimp only
  rw [g]
theorem seq_T {f : EF} {env : Ev} {S S1 : Sto} {xs : List Va} (h : f env S = .ok (.tup xs) S1) : iSeq f env S = .ok (miL xs) S1 := by
  unfold iSeq
  rw [h, bind_ok]
theorem meth_ok {C : CO} {c j n : Nat} {o : EF} {fs : AF} {env : Ev} {S S1 S2 : Sto} {fs0 : List (Nat × Va)} {xs dx : List Va} (ho : o env S = .ok (.ref n) S1) (hS : S1.get n = some (.ins c fs0)) (hf : fs env S1 = .ok xs S2) : mMeth C (Mi.M1 c j dx) o fs env S = C j (.ref n :: (xs ++ dx)) S2 := by
  unfold mMeth
  rw [ho, bind_ok]
  have e : clsOf (.ref n) S1 = some c := by
    unfold clsOf
    try dsimp only
    rw [hS]
  have e2 : Mi.M1 c j dx c = some (j, dx) := by unfold Mi.M1; rw [beqT rfl]
  rw [e]
  try dsimp only
  rw [e2]
  try dsimp only
  rw [hf, bind_ok]
theorem fld_ok {j n c : Nat} {f : EF} {env : Ev} {S S1 : Sto} {fs : List (Nat × Va)} {v : Va} (h : f env S = .ok (.ref n) S1) (hS : S1.get n = some (.ins c fs)) (hg : fGet fs j = some v) : mFld j f env S = .ok v S1 := by
  unfold mFld
  rw [h, bind_ok]
  unfold gFld
  try dsimp only
  rw [hS]
  try dsimp only
  rw [hg]
theorem setIx_ok {o i a : EF} {env : Ev} {S S1 S2 S3 S4 : Sto} {v x y : Va} (h1 : a env S = .ok v S1) (h2 : o env S1 = .ok x S2) (h3 : i env S2 = .ok y S3) (h4 : gSetIx x y v S3 = some S4) : mSetIx o i a env S = .ok (.nx env) S4 := by
  unfold mSetIx
  rw [h1, bind_ok, h2, bind_ok, h3, bind_ok, h4]
theorem append_ok {n : Nat} {l : List Va} {y : Va} {S : Sto} (h : S.get n = some (.lst l)) (hl : l.length < 1000000) : gAppend (.ref n) [y] S = .ok .non (S.set n (.lst (l ++ [y]))) := by
  unfold gAppend gmL
  try dsimp only
  rw [h]
  try dsimp only
  rw [bltT hl]
theorem extend_ok {n m : Nat} {l z : List Va} {S : Sto} (h : S.get n = some (.lst l)) (h2 : S.get m = some (.lst z)) (hl : l.length + z.length ≤ 16777216) : gExtend (.ref n) [.ref m] S = .ok .non (S.set n (.lst (l ++ z))) := by
  unfold gExtend gmL
  try dsimp only
  rw [h]
  try dsimp only
  rw [h2]
  try dsimp only
  rw [Nat.ble_eq_true_of_le hl]
theorem kn_L {n : Nat} {l : List Va} {S : Sto} (h : S.get n = some (.lst l)) : isKn .list (.ref n) S = true := by
  unfold isKn
  try dsimp only
  rw [h]
theorem Fr.upd {D : Nat} {S S1 S2 : Sto} {o : Ob} (a : Fr [] S S1) (b : Fr [] S1 S2) (h : S.n ≤ D) : Fr [] S (S2.set D o) :=
  (((a.trans b).mono (cs := [D]) (fun _ z => nomatch z)).trans (Fr.set S2 o)).old fun z hz hl => by
    have := List.mem_singleton.mp hz
    omega
/-- the items of a walk that stays -/
def Items (m : MI) (S1 : Sto) (xs : List Va) : Prop := m.bound = xs.length ∧ ∀ i S2, Fr [] S1 S2 → m.nx i S2 = some xs[i]?
theorem items_L {S1 : Sto} (xs : List Va) : Items (miL xs) S1 xs := ⟨rfl, fun _ _ _ => rfl⟩
theorem items_R {S1 : Sto} {a : Nat} {xs : List Va} (h : S1.get a = some (.lst xs)) : Items (miR a xs.length) S1 xs := ⟨rfl, fun i S2 f => by
  show (match S2.get a with | some (.lst ys) => some ys[i]? | _ => none) = _
  rw [f.at h (by simp)]⟩
theorem lc_of {fi : IF} {t : TF} {cond : BF} {elt : EF} {vs : List Nat} {env : Ev} {S S1 : Sto} {m : MI} {xs : List Va} (outs : List (Option Va)) (hf : fi env S = .ok m S1) (hm : Items m S1 xs) (hx : xs.length ≤ 1000000) (ho : outs.length = xs.length)
    (step : ∀ (i : Nat) x o S2, xs[i]? = some x → outs[i]? = some o → Fr [] S1 S2 → S1.n < S2.n → ∃ env1, t x (wipeE env vs) S2 = some env1 ∧ ((o = none ∧ ∃ S3, cond env1 S2 = .ok false S3 ∧ Fr [] S2 S3) ∨ ∃ S3 y S4, o = some y ∧ cond env1 S2 = .ok true S3 ∧ Fr [] S2 S3 ∧ elt env1 S3 = .ok y S4 ∧ Fr [] S3 S4)) :
    ∃ D S', mLc fi t cond elt vs env S = .ok (.ref D) S' ∧ S'.get D = some (.lst (outs.filterMap id)) ∧ S1.n ≤ D ∧ D < S'.n ∧ Fr [] S1 S' := by
  obtain ⟨hb, hn⟩ := hm
  let S0 : Sto := S1.new (.lst [])
  have F0 : Fr [] S1 S0 := Fr.new [] S1 _
  have key := lc_inv (m := m) (t := t) (cond := cond) (elt := elt) (D := S1.n) (env := wipeE env vs) (n := xs.length)
    (fun i acc S' => acc = (outs.take i).filterMap id ∧ acc.length ≤ i ∧ S'.get S1.n = some (.lst acc) ∧ Fr [] S1 S')
    (fun i acc S' ⟨h1, h2, h3, h4⟩ => ⟨h3, h2⟩) hx
    (fun i acc S' hi ⟨h1, h2, h3, h4⟩ => by
      have hxi : xs[i]? = some xs[i] := List.getElem?_eq_getElem hi
      have hoi : outs[i]? = some (outs[i]'(by omega)) := List.getElem?_eq_getElem (by omega)
      obtain ⟨env1, e1, e2⟩ := step i _ _ S' hxi hoi h4 (Sto.lt h3)
      refine ⟨xs[i], env1, by rw [hn i S' h4, hxi], e1, ?_⟩
      have tk : (outs.take (i + 1)).filterMap id = acc ++ (outs[i]'(by omega)).toList := by
        rw [List.take_succ, hoi, List.filterMap_append, h1]
        cases outs[i]'(by omega) <;> rfl
      rcases e2 with ⟨eo, S3, e3, f3⟩ | ⟨S3, y, S4, eo, e3, f3, e4, f4⟩
      · refine .inl ⟨S3, e3, ?_, by omega, f3.at h3 (by simp), h4.trans f3⟩
        rw [tk, eo]
        simp
      · have hD := f4.at (f3.at h3 (by simp)) (by simp)
        refine .inr ⟨S3, y, S4, e3, e4, hD, ?_, by rw [List.length_append] <;> simp only [List.length_singleton] <;> omega, Sto.get_set (Sto.lt hD), h4.upd (f3.trans f4) (Nat.le_refl _)⟩
        rw [tk, eo] <;> rfl)
    (fun acc S' ⟨h1, h2, h3, h4⟩ => by rw [hn _ S' h4, List.getElem?_eq_none_iff.mpr (Nat.le_refl _)])
    xs.length 0 (xs.length + 1) [] S0 (by omega) (Nat.lt_succ_self _) ⟨rfl, Nat.le_refl _, Sto.get_new, F0⟩
  obtain ⟨acc, S', he, h1, _, h3, h4⟩ := key
  refine ⟨S1.n, S', ?_, ?_, Nat.le_refl _, Sto.lt h3, h4⟩
  · unfold mLc
    rw [hf, bind_ok, hb]
    exact he
  · rw [h3, h1, ← ho, List.take_length]
/-- each item gives one -/
theorem lc_map {fi : IF} {t : TF} {elt : EF} {vs : List Nat} {env : Ev} {S S1 : Sto} {m : MI} {xs : List Va} (ys : List Va) (hf : fi env S = .ok m S1) (hm : Items m S1 xs) (hx : xs.length ≤ 1000000) (ho : ys.length = xs.length)
    (step : ∀ (i : Nat) x y S2, xs[i]? = some x → ys[i]? = some y → Fr [] S1 S2 → S1.n < S2.n → ∃ env1 S3, t x (wipeE env vs) S2 = some env1 ∧ elt env1 S2 = .ok y S3 ∧ Fr [] S2 S3) :
    ∃ D S', mLc fi t mYes elt vs env S = .ok (.ref D) S' ∧ S'.get D = some (.lst ys) ∧ S1.n ≤ D ∧ D < S'.n ∧ Fr [] S1 S' := by
  have := lc_of (cond := mYes) (elt := elt) (t := t) (vs := vs) (ys.map some) hf hm hx (by rw [List.length_map]; exact ho) fun i x o S2 hxi hoi f hlt => by
    rw [List.getElem?_map] at hoi
    cases q : ys[i]? with
    | none => rw [q] at hoi; cases hoi
    | some y =>
      rw [q] at hoi
      cases hoi
      obtain ⟨env1, S3, h1, h2, h3⟩ := step i x y S2 hxi q f hlt
      exact ⟨env1, h1, .inr ⟨S2, y, S3, rfl, rfl, Fr.refl _ _, h2, h3⟩⟩
  rw [List.filterMap_map] at this
  have e : ys.filterMap (id ∘ some) = ys := by simp
  rw [e] at this
  exact this
/-- two fors: each outer item gives a list, the inner items as they are -/
theorem lc2_of {fi fi1 : IF} {t t1 : TF} {elt : EF} {vs vs1 : List Nat} {env : Ev} {S S1 : Sto} {m : MI} {xs : List Va} (outs : List (List Va)) (hf : fi env S = .ok m S1) (hm : Items m S1 xs) (ho : outs.length = xs.length) (hz : outs.flatten.length ≤ 900000)
    (step : ∀ (i : Nat) x zs S2, xs[i]? = some x → outs[i]? = some zs → Fr [] S1 S2 → S1.n < S2.n → ∃ env1 a S3, t x (wipeE env vs) S2 = some env1 ∧ fi1 env1 S2 = .ok (miR a zs.length) S3 ∧ S3.get a = some (.lst zs) ∧ S1.n < a ∧ Fr [] S2 S3 ∧ ∀ z S4, ∃ env2, t1 z (wipeE env1 vs1) S4 = some env2 ∧ elt env2 S4 = .ok z S4) :
    ∃ D S', mLc2 fi t mYes fi1 t1 mYes elt vs vs1 env S = .ok (.ref D) S' ∧ S'.get D = some (.lst outs.flatten) ∧ S1.n ≤ D ∧ D < S'.n ∧ Fr [] S1 S' := by
  obtain ⟨hb, hn⟩ := hm
  have inner : ∀ (a : Nat) (zs : List Va) (env1 : Ev) (hel : ∀ z S4, ∃ env2, t1 z (wipeE env1 vs1) S4 = some env2 ∧ elt env2 S4 = .ok z S4), S1.n < a → ∀ (k j : Nat) (acc : List Va) (S3 : Sto), j + k = zs.length → S3.get a = some (.lst zs) → S3.get S1.n = some (.lst (acc ++ zs.take j)) → Fr [] S1 S3 → acc.length + zs.length ≤ 900000 →
      ∃ S', loopI (miR a zs.length) t1 mYes elt S1.n (wipeE env1 vs1) (k + 1) j S3 = .ok () S' ∧ S'.get S1.n = some (.lst (acc ++ zs)) ∧ Fr [] S1 S' := by
    intro a zs env1 hel ha k
    induction k with
    | zero =>
      intro j acc S3 hj g1 g2 f hl
      have e : j = zs.length := by omega
      subst e
      refine ⟨S3, ?_, by rw [g2, List.take_length], f⟩
      show (match (match S3.get a with | some (.lst ys) => some ys[zs.length]? | _ => none) with | none => R.bad | some none => R.ok () S3 | some (some v) => _) = _
      rw [g1]
      show (match some zs[zs.length]? with | none => R.bad | some none => R.ok () S3 | some (some v) => _) = _
      rw [List.getElem?_eq_none_iff.mpr (Nat.le_refl _)]
    | succ k ih =>
      intro j acc S3 hj g1 g2 f hl
      have hjz : zs[j]? = some (zs[j]'(by omega)) := List.getElem?_eq_getElem (by omega)
      obtain ⟨env2, h1, h2⟩ := hel (zs[j]'(by omega)) S3
      have hD := Sto.lt g2
      have hb2 : Nat.blt (acc ++ zs.take j).length 1000000 = true := bltT (by rw [List.length_append, List.length_take]; omega)
      obtain ⟨S', e1, e2, e3⟩ := ih (j + 1) acc (S3.set S1.n (.lst (acc ++ zs.take j ++ [zs[j]'(by omega)]))) (by omega) (by rw [Sto.get_set_ne (by omega)]; exact g1) (by
        rw [Sto.get_set hD, List.take_succ, hjz, List.append_assoc] <;> rfl) (f.upd (Fr.refl _ _) (Nat.le_refl _)) hl
      refine ⟨S', ?_, e2, e3⟩
      rw [loopI]
      have en : (miR a zs.length).nx j S3 = some (some (zs[j]'(by omega))) := by
        show (match S3.get a with | some (.lst ys) => some ys[j]? | _ => none) = _
        rw [g1]
        show some zs[j]? = _
        rw [hjz]
      rw [en]
      dsimp only
      rw [h1]
      dsimp only
      show R.bind (R.ok true S3) _ = _
      rw [bind_ok]
      dsimp only
      rw [h2, bind_ok, g2]
      dsimp only
      rw [hb2]
      exact e1
  have outer : ∀ (k i : Nat) (S3 : Sto), i + k = xs.length → S3.get S1.n = some (.lst (outs.take i).flatten) → Fr [] S1 S3 →
      ∃ S', loopC2 m t mYes fi1 t1 mYes elt S1.n (wipeE env vs) vs1 (k + 1) i S3 = .ok (.ref S1.n) S' ∧ S'.get S1.n = some (.lst outs.flatten) ∧ Fr [] S1 S' := by
    intro k
    induction k with
    | zero =>
      intro i S3 hi g f
      have e : i = xs.length := by omega
      subst e
      refine ⟨S3, ?_, by rw [g, ← ho, List.take_length], f⟩
      rw [loopC2, hn _ S3 f, List.getElem?_eq_none_iff.mpr (Nat.le_refl _)]
    | succ k ih =>
      intro i S3 hi g f
      have hxi : xs[i]? = some (xs[i]'(by omega)) := List.getElem?_eq_getElem (by omega)
      have hoi : outs[i]? = some (outs[i]'(by omega)) := List.getElem?_eq_getElem (by omega)
      obtain ⟨env1, a, S4, h1, h2, h3, h4, h5, h6⟩ := step i _ _ S3 hxi hoi f (Sto.lt g)
      have hle : (outs.take i).flatten.length + (outs[i]'(by omega)).length ≤ 900000 := by
        have e : outs.flatten = (outs.take i).flatten ++ ((outs[i]'(by omega)) ++ (outs.drop (i + 1)).flatten) := by
          rw [← List.flatten_cons, ← List.flatten_append]
          congr 1
          rw [← List.drop_eq_getElem_cons, List.take_append_drop]
        rw [e, List.length_append, List.length_append] at hz
        omega
      obtain ⟨S5, e1, e2, e3⟩ := inner a _ env1 h6 h4 (outs[i]'(by omega)).length 0 (outs.take i).flatten S4 (by omega) h3 (by rw [h5.at g (by simp)]; simp) (f.trans h5) hle
      obtain ⟨S', e4, e5, e6⟩ := ih (i + 1) S5 (by omega) (by rw [e2, List.take_succ, hoi, List.flatten_append] <;> simp) e3
      refine ⟨S', ?_, e5, e6⟩
      rw [loopC2, hn _ S3 f, hxi]
      dsimp only
      rw [h1]
      dsimp only
      show R.bind (R.ok true S3) _ = _
      rw [bind_ok]
      dsimp only
      rw [h2, bind_ok]
      show R.bind (loopI (miR a (outs[i]'(by omega)).length) t1 mYes elt S1.n (wipeE env1 vs1) ((outs[i]'(by omega)).length + 1) 0 S4) _ = _
      rw [e1, bind_ok]
      exact e4
  obtain ⟨S', e1, e2, e3⟩ := outer xs.length 0 (S1.new (.lst [])) (by omega) Sto.get_new (Fr.new [] S1 _)
  refine ⟨S1.n, S', ?_, e2, Nat.le_refl _, Sto.lt e2, e3⟩
  unfold mLc2
  rw [hf, bind_ok, hb]
  exact e1
end Mi
namespace Pg
open PySem PySem.Spec PyProof.Rows L2 Mi
def top (i : Nat) : Stmt := PySem.Challenge.pw_faultward_k88_whole_houses_at_other_time.main.body.getD i (.Pass ⟨0, 0, 0, 0⟩)
/-! ### texts -/
def s0 : Str := ⟨#[120]⟩
theorem s0_eq : ("x" : Str) = s0 := by decide +kernel
def s1 : Str := ⟨#[107, 101, 101, 112, 101, 114]⟩
theorem s1_eq : ("keeper" : Str) = s1 := by decide +kernel
def s2 : Str := ⟨#[115, 116, 97, 114, 116]⟩
theorem s2_eq : ("start" : Str) = s2 := by decide +kernel
def s3 : Str := ⟨#[102, 97, 108, 108]⟩
theorem s3_eq : ("fall" : Str) = s3 := by decide +kernel
def s4 : Str := ⟨#[119, 111, 114, 107, 101, 114]⟩
theorem s4_eq : ("worker" : Str) = s4 := by decide +kernel
def s5 : Str := ⟨#[114, 101, 115, 116]⟩
theorem s5_eq : ("rest" : Str) = s5 := by decide +kernel
def s6 : Str := ⟨#[97, 108, 108]⟩
theorem s6_eq : ("all" : Str) = s6 := by decide +kernel
def s7 : Str := ⟨#[111, 110, 101]⟩
theorem s7_eq : ("one" : Str) = s7 := by decide +kernel
def s8 : Str := ⟨#[97, 98, 99, 100, 101, 102, 103, 104, 105, 106, 107, 108, 109, 110, 111, 112, 113, 114, 115, 116, 117, 118, 119, 120, 121, 122]⟩
theorem s8_eq : ("abcdefghijklmnopqrstuvwxyz" : Str) = s8 := by decide +kernel
def s9 : Str := ⟨#[121, 105, 101, 108, 100]⟩
theorem s9_eq : ("yield" : Str) = s9 := by decide +kernel
def s10 : Str := ⟨#[115, 116, 111, 112]⟩
theorem s10_eq : ("stop" : Str) = s10 := by decide +kernel
def s11 : Str := ⟨#[95, 95, 105, 110, 105, 116, 95, 95]⟩
theorem s11_eq : ("__init__" : Str) = s11 := by decide +kernel
/-! ### tables -/
def fields_0 : List (Str) := ["name", "tree", "nodes", "ups", "clock", "up", "fallen", "rows", "is_down", "past"]
def fields : List (Str) := fields_0
def cnames_0 : List (Str) := ["House"]
def cnames : List (Str) := cnames_0
def naL_0 : List (Nat × Nat) := [(0, 1), (0, 2), (0, 3), (0, 4), (0, 5), (0, 6), (0, 7), (0, 8), (0, 9)]
def naL : List (Nat × Nat) := naL_0
def na : Nat → Nat → Bool := fun c j => inL2 c j naL
def mths_0 : List (Nat × Str × Nat) := [(0, "counted", 23), (0, "log", 24), (0, "running", 21), (0, "down", 22), (0, "go_to", 13), (0, "now", 20), (0, "fall", 18), (0, "learn", 11), (0, "state", 12), (0, "told", 17), (0, "stop_all", 14), (0, "start_all", 15), (0, "touched", 16)]
def mths : List (Nat × Str × Nat) := mths_0
def frees_0 : List (Str) := ["len", "range", "list", "enumerate", "tuple", "set", "dict", "isinstance", "bool", "int", "all", "str", "reversed"]
def frees : List (Str) := frees_0
def cvs_0 : List (Str × Va) := [("MOST_TIME", .int 1000000000), ("MOST_DEEP", .int 4), ("MOST_CHILDREN", .int 6), ("MOST_SPAN", .int 1000), ("MOST_AGAIN", .int 20), ("MODES", .tup [.str s7, .str s6, .str s5]), ("LETTERS", .str s8), ("MOST_NAME", .int 8)]
def cvs : List (Str × Va) := cvs_0
def fats_0 : List (Str × Option Str) := [("_wall", none), ("NoName", some "__init__"), ("InUse", some "__init__"), ("is_whole", none), ("is_within", none), ("is_name", none), ("is_node", none), ("names_in", none), ("is_tree", none), ("workers_in", none), ("House", some "__init__"), ("House", some "learn"), ("House", some "state"), ("House", some "go_to"), ("House", some "stop_all"), ("House", some "start_all"), ("House", some "touched"), ("House", some "told"), ("House", some "fall"), ("House", some "back")]
def fats_1 : List (Str × Option Str) := [("House", some "now"), ("House", some "running"), ("House", some "down"), ("House", some "counted"), ("House", some "log"), ("House", some "__len__"), ("House", some "__eq__"), ("House", some "__str__"), ("_law_well", none), ("_law_take", none), ("_law_bags", none), ("_law_node", none), ("_law_workers", none), ("_law_nodes", none), ("_law_called", none), ("law", none)]
def fats : List (Str × Option Str) := fats_0 ++ fats_1
def dxs_0 : List (Nat × List Va) := []
def dxs : List (Nat × List Va) := dxs_0
def inits_0 : List (Nat) := [10]
def inits : List (Nat) := inits_0
def has_0 : List (Nat) := [3, 4, 5, 6, 7, 8, 9, 10, 11, 12, 13, 14, 15, 16, 17, 18, 20, 21, 22, 23]
def has_1 : List (Nat) := [24, 28, 29, 30, 31, 32, 33, 34, 35]
def has : List (Nat) := has_0 ++ has_1
def D : Dt := ⟨fields, cnames, naL, mths, frees, cvs, fats, dxs, inits, has⟩
abbrev G0 (K : PySem.W.Frag) : Cf := D.G K
abbrev T0 (K : PySem.W.Frag) : Tab := D.T K
theorem D_ok : D.check = true := by decide +kernel
/-! ### the defs -/
/-! 3 is_whole -/
def N3 : List Str := ["thing"]
def ps3 : List Str := ["thing"]
def f3 (C : CO) : SF :=
  (mRet (mAndV (mIsi isTInt (mVar 0)) (mNotV (mIsi isTBool (mVar 0)))))
/-! 4 is_within -/
def N4 : List Str := ["thing", "low", "high"]
def ps4 : List Str := ["thing", "low", "high"]
def f4 (C : CO) : SF :=
  (mRet (mAndV (mCall C 3 (mCons (mVar 0) mNil) []) (mChain gLe gLe (mVar 1) (mVar 0) (mVar 2))))
/-! 5 is_name -/
def N5 : List Str := ["thing", "sign"]
def ps5 : List Str := ["thing"]
def f5 (C : CO) : SF :=
  (mRet (mAndV (mIsi isTStr (mVar 0)) (mAndV (mChain gLe gLe (mC (.int 1)) (mBi gLen (mCons (mVar 0) mNil)) (mC (.int 8))) (mBi gAll (mCons (mLc (iSeq (mVar 0)) (tNm 1) mYes (mIn false (mVar 1) (mC (.str s8))) [1]) mNil)))))
/-! 6 is_node -/
def N6 : List Str := ["thing", "deep", "one"]
def ps6 : List Str := ["thing", "deep"]
def f6 (C : CO) : SF :=
  (mSeq (mIfS (mOrB (mNotB (mTru (mIsi isTTuple (mVar 0)))) (mOrB (mBool (mBin gLt (mBi gLen (mCons (mVar 0) mNil)) (mC (.int 2)))) (mOrB (mNotB (mTru (mIsi isTStr (mIx (mVar 0) (mC (.int 0)))))) (mNotB (mTru (mCall C 5 (mCons (mIx (mVar 0) (mC (.int 1))) mNil) [])))))) (mRet (mC (.bl false))) mEnd)
    (mSeq (mIfS (mBool (mBin gEq (mIx (mVar 0) (mC (.int 0))) (mC (.str s4)))) (mRet (mBin gEq (mBi gLen (mCons (mVar 0) mNil)) (mC (.int 2)))) mEnd)
    (mSeq (mIfS (mOrB (mBool (mBin gNe (mIx (mVar 0) (mC (.int 0))) (mC (.str s1)))) (mOrB (mBool (mBin gNe (mBi gLen (mCons (mVar 0) mNil)) (mC (.int 6)))) (mBool (mBin gEq (mVar 1) (mC (.int 0)))))) (mRet (mC (.bl false))) mEnd)
    (mSeq (mIfS (mOrB (mNotB (mTru (mIsi isTStr (mIx (mVar 0) (mC (.int 2)))))) (mBool (mIn true (mIx (mVar 0) (mC (.int 2))) (mC (.tup [.str s7, .str s6, .str s5]))))) (mRet (mC (.bl false))) mEnd)
    (mSeq (mIfS (mOrB (mNotB (mTru (mCall C 4 (mCons (mIx (mVar 0) (mC (.int 3))) (mCons (mC (.int 0)) (mCons (mC (.int 20)) mNil))) []))) (mNotB (mTru (mCall C 4 (mCons (mIx (mVar 0) (mC (.int 4))) (mCons (mC (.int 1)) (mCons (mC (.int 1000)) mNil))) [])))) (mRet (mC (.bl false))) mEnd)
    (mSeq (mIfS (mOrB (mNotB (mTru (mIsi isTTuple (mIx (mVar 0) (mC (.int 5)))))) (mNotB (mBool (mChain gLe gLe (mC (.int 1)) (mBi gLen (mCons (mIx (mVar 0) (mC (.int 5))) mNil)) (mC (.int 6)))))) (mRet (mC (.bl false))) mEnd)
    (mRet (mBi gAll (mCons (mLc (iSeq (mIx (mVar 0) (mC (.int 5)))) (tNm 2) mYes (mCall C 6 (mCons (mVar 2) (mCons (mBin gSub (mVar 1) (mC (.int 1))) mNil)) []) [2]) mNil)))))))))
/-! 7 names_in -/
def N7 : List Str := ["node", "found", "child"]
def ps7 : List Str := ["node"]
def f7 (C : CO) : SF :=
  (mSeq (mSet (tNm 1) (mLst (mCons (mIx (mVar 0) (mC (.int 1))) mNil)))
    (mSeq (mIfS (mBool (mBin gEq (mIx (mVar 0) (mC (.int 0))) (mC (.str s1)))) (mFor (iSeq (mIx (mVar 0) (mC (.int 5)))) (tNm 2) (mExpr (mBm .list gExtend (mVar 1) (mCons (mCall C 7 (mCons (mVar 2) mNil) []) mNil)))) mEnd)
    (mRet (mVar 1))))
/-! 8 is_tree -/
def N8 : List Str := ["thing"]
def ps8 : List Str := ["thing"]
def f8 (C : CO) : SF :=
  (mSeq (mIfS (mOrB (mNotB (mTru (mCall C 6 (mCons (mVar 0) (mCons (mC (.int 4)) mNil)) []))) (mBool (mBin gNe (mIx (mVar 0) (mC (.int 0))) (mC (.str s1))))) (mRet (mC (.bl false))) mEnd)
    (mRet (mBin gEq (mLenSet (mCall C 7 (mCons (mVar 0) mNil) [])) (mBi gLen (mCons (mCall C 7 (mCons (mVar 0) mNil) []) mNil)))))
/-! 9 workers_in -/
def N9 : List Str := ["node", "child", "name"]
def ps9 : List Str := ["node"]
def f9 (C : CO) : SF :=
  (mSeq (mIfS (mBool (mBin gEq (mIx (mVar 0) (mC (.int 0))) (mC (.str s4)))) (mRet (mLst (mCons (mIx (mVar 0) (mC (.int 1))) mNil))) mEnd)
    (mRet (mLc2 (iSeq (mIx (mVar 0) (mC (.int 5)))) (tNm 1) mYes (iSeq (mCall C 9 (mCons (mVar 1) mNil) [])) (tNm 2) mYes (mVar 2) [1, 2] [2])))
/-! 10 House.__init__ -/
def N10 : List Str := ["self", "tree", "name"]
def ps10 : List Str := ["self", "tree"]
def f10 (C : CO) : SF :=
  (mSeq (mIfS (mNotB (mTru (mCall C 8 (mCons (mVar 1) mNil) []))) mNever mEnd)
    (mSeq (mSetFld na 1 (mVar 0) (mVar 1))
    (mSeq (mSetFld na 2 (mVar 0) mDic0)
    (mSeq (mSetFld na 3 (mVar 0) mDic0)
    (mSeq (mExpr (mMeth C (M1 0 11 []) (mVar 0) (mCons (mVar 1) (mCons (mC .non) mNil))))
    (mSeq (mSetFld na 4 (mVar 0) (mC (.int 0)))
    (mSeq (mSetFld na 5 (mVar 0) (mDc (iSeq (mCall C 9 (mCons (mVar 1) mNil) [])) (tNm 2) mYes (mVar 2) (mC (.bl true)) [2]))
    (mSeq (mSetFld na 6 (mVar 0) (mLockE (lkF 0 2) (mDc (iKeyL (mFld 2 (mVar 0))) (tNm 2) mYes (mVar 2) (mLst mNil) [2])))
    (mSeq (mSetFld na 7 (mVar 0) (mLc (iSeq (mCall C 9 (mCons (mVar 1) mNil) [])) (tNm 2) mYes (mTup (mCons (mC (.int 0)) (mCons (mC (.str s2)) (mCons (mVar 2) mNil)))) [2]))
    (mSeq (mSetFld na 8 (mVar 0) (mC (.bl false)))
    (mSetFld na 9 (mVar 0) (mLst mNil))))))))))))
/-! 11 House.learn -/
def N11 : List Str := ["self", "node", "up", "child"]
def ps11 : List Str := ["self", "node", "up"]
def f11 (C : CO) : SF :=
  (mSeq (mSetIx (mFld 2 (mVar 0)) (mIx (mVar 1) (mC (.int 1))) (mVar 1))
    (mSeq (mSetIx (mFld 3 (mVar 0)) (mIx (mVar 1) (mC (.int 1))) (mVar 2))
    (mIfS (mBool (mBin gEq (mIx (mVar 1) (mC (.int 0))) (mC (.str s1)))) (mFor (iSeq (mIx (mVar 1) (mC (.int 5)))) (tNm 3) (mExpr (mMeth C (M1 0 11 []) (mVar 0) (mCons (mVar 3) (mCons (mIx (mVar 1) (mC (.int 1))) mNil))))) mEnd)))
/-! 12 House.state -/
def N12 : List Str := ["self", "fallen", "name"]
def ps12 : List Str := ["self"]
def f12 (C : CO) : SF :=
  (mSeq (mLockS (lkF 0 6) (mSet (tNm 1) (mDc (iKeyL (mFld 6 (mVar 0))) (tNm 2) mYes (mVar 2) (mBi gList (mCons (mIx (mFld 6 (mVar 0)) (mVar 2)) mNil)) [2])))
    (mRet (mTup (mCons (mFld 4 (mVar 0)) (mCons (mBi gDict1 (mCons (mFld 5 (mVar 0)) mNil)) (mCons (mVar 1) (mCons (mBi gList (mCons (mFld 7 (mVar 0)) mNil)) (mCons (mFld 8 (mVar 0)) mNil))))))))
/-! 13 House.go_to -/
def N13 : List Str := ["self", "time"]
def ps13 : List Str := ["self", "time"]
def f13 (C : CO) : SF :=
  (mSeq (mIfS (mNotB (mTru (mCall C 4 (mCons (mVar 1) (mCons (mFld 4 (mVar 0)) (mCons (mC (.int 1000000000)) mNil))) []))) mNever mEnd)
    (mSeq (mExpr (mBm .list gAppend (mFld 9 (mVar 0)) (mCons (mMeth C (M1 0 12 []) (mVar 0) mNil) mNil)))
    (mSetFld na 4 (mVar 0) (mVar 1))))
/-! 14 House.stop_all -/
def N14 : List Str := ["self", "nodes", "node", "name"]
def ps14 : List Str := ["self", "nodes"]
def f14 (C : CO) : SF :=
  (mFor (iRevL (mVar 1)) (tNm 2) (mFor (iRevL (mCall C 9 (mCons (mVar 2) mNil) [])) (tNm 3) (mIfS (mTru (mIx (mFld 5 (mVar 0)) (mVar 3))) (mSeq (mSetIx (mFld 5 (mVar 0)) (mVar 3) (mC (.bl false)))
    (mExpr (mBm .list gAppend (mFld 7 (mVar 0)) (mCons (mTup (mCons (mFld 4 (mVar 0)) (mCons (mC (.str s10)) (mCons (mVar 3) mNil)))) mNil)))) mEnd)))
/-! 15 House.start_all -/
def N15 : List Str := ["self", "nodes", "node", "name"]
def ps15 : List Str := ["self", "nodes"]
def f15 (C : CO) : SF :=
  (mFor (iSeq (mVar 1)) (tNm 2) (mSeq (mFor (iSeq (mCall C 7 (mCons (mVar 2) mNil) [])) (tNm 3) (mSetIx (mFld 6 (mVar 0)) (mVar 3) (mLst mNil)))
    (mFor (iSeq (mCall C 9 (mCons (mVar 2) mNil) [])) (tNm 3) (mSeq (mSetIx (mFld 5 (mVar 0)) (mVar 3) (mC (.bl true)))
    (mExpr (mBm .list gAppend (mFld 7 (mVar 0)) (mCons (mTup (mCons (mFld 4 (mVar 0)) (mCons (mC (.str s2)) (mCons (mVar 3) mNil)))) mNil)))))))
/-! 16 House.touched -/
def N16 : List Str := ["self", "keeper", "name", "children", "at", "child"]
def ps16 : List Str := ["self", "keeper", "name"]
def f16 (C : CO) : SF :=
  (mSeq (mSet (tNm 3) (mBi gList (mCons (mIx (mVar 1) (mC (.int 5))) mNil)))
    (mSeq (mSet (tNm 4) (mBm .list gIndex (mLc (iSeq (mVar 3)) (tNm 5) mYes (mIx (mVar 5) (mC (.int 1))) [5]) (mCons (mVar 2) mNil)))
    (mSeq (mIfS (mBool (mBin gEq (mIx (mVar 1) (mC (.int 2))) (mC (.str s7)))) (mRet (mSl (mVar 3) (mPart (mVar 4)) (mPart (mBin gAdd (mVar 4) (mC (.int 1)))))) mEnd)
    (mRet (mIf (mBool (mBin gEq (mIx (mVar 1) (mC (.int 2))) (mC (.str s6)))) (mVar 3) (mSl (mVar 3) (mPart (mVar 4)) mNoP))))))
/-! 17 House.told -/
def N17 : List Str := ["self", "name", "up", "keeper", "times", "time", "some"]
def ps17 : List Str := ["self", "name"]
def f17 (C : CO) : SF :=
  (mSeq (mSet (tNm 2) (mIx (mFld 3 (mVar 0)) (mVar 1)))
    (mSeq (mIfS (mBool (mBin gIsN (mVar 2) (mC .non))) (mSeq (mSetFld na 8 (mVar 0) (mC (.bl true)))
    mRetN) mEnd)
    (mSeq (mSet (tNm 3) (mIx (mFld 2 (mVar 0)) (mVar 2)))
    (mSeq (mSet (tNm 4) (mBin gAdd (mLc (iSeq (mIx (mFld 6 (mVar 0)) (mVar 2))) (tNm 5) (mBool (mBin gGt (mVar 5) (mBin gSub (mFld 4 (mVar 0)) (mIx (mVar 3) (mC (.int 4)))))) (mVar 5) [5]) (mLst (mCons (mFld 4 (mVar 0)) mNil))))
    (mSeq (mSetIx (mFld 6 (mVar 0)) (mVar 2) (mVar 4))
    (mIfS (mBool (mBin gGt (mBi gLen (mCons (mVar 4) mNil)) (mIx (mVar 3) (mC (.int 3))))) (mSeq (mExpr (mMeth C (M1 0 14 []) (mVar 0) (mCons (mBi gList (mCons (mIx (mVar 3) (mC (.int 5))) mNil)) mNil)))
    (mSeq (mExpr (mBm .list gAppend (mFld 7 (mVar 0)) (mCons (mTup (mCons (mFld 4 (mVar 0)) (mCons (mC (.str s9)) (mCons (mVar 2) mNil)))) mNil)))
    (mExpr (mMeth C (M1 0 17 []) (mVar 0) (mCons (mVar 2) mNil))))) (mSeq (mSet (tNm 6) (mMeth C (M1 0 16 []) (mVar 0) (mCons (mVar 3) (mCons (mVar 1) mNil))))
    (mSeq (mExpr (mMeth C (M1 0 14 []) (mVar 0) (mCons (mVar 6) mNil)))
    (mExpr (mMeth C (M1 0 15 []) (mVar 0) (mCons (mVar 6) mNil)))))))))))
/-! 18 House.fall -/
def N18 : List Str := ["self", "name"]
def ps18 : List Str := ["self", "name"]
def f18 (C : CO) : SF :=
  (mSeq (mIfS (mOrB (mBool (mIn true (mVar 1) (mFld 2 (mVar 0)))) (mBool (mBin gNe (mIx (mIx (mFld 2 (mVar 0)) (mVar 1)) (mC (.int 0))) (mC (.str s4))))) mNever mEnd)
    (mSeq (mIfS (mTru (mFld 8 (mVar 0))) mNever mEnd)
    (mSeq (mIfS (mNotB (mTru (mIx (mFld 5 (mVar 0)) (mVar 1)))) mNever mEnd)
    (mSeq (mExpr (mBm .list gAppend (mFld 9 (mVar 0)) (mCons (mMeth C (M1 0 12 []) (mVar 0) mNil) mNil)))
    (mSeq (mSetIx (mFld 5 (mVar 0)) (mVar 1) (mC (.bl false)))
    (mSeq (mExpr (mBm .list gAppend (mFld 7 (mVar 0)) (mCons (mTup (mCons (mFld 4 (mVar 0)) (mCons (mC (.str s3)) (mCons (mVar 1) mNil)))) mNil)))
    (mExpr (mMeth C (M1 0 17 []) (mVar 0) (mCons (mVar 1) mNil)))))))))
/-! 20 House.now -/
def N20 : List Str := ["self"]
def ps20 : List Str := ["self"]
def f20 (C : CO) : SF :=
  (mRet (mFld 4 (mVar 0)))
/-! 21 House.running -/
def N21 : List Str := ["self", "name"]
def ps21 : List Str := ["self"]
def f21 (C : CO) : SF :=
  (mRet (mLc (iSeq (mCall C 9 (mCons (mFld 1 (mVar 0)) mNil) [])) (tNm 1) (mTru (mIx (mFld 5 (mVar 0)) (mVar 1))) (mVar 1) [1]))
/-! 22 House.down -/
def N22 : List Str := ["self"]
def ps22 : List Str := ["self"]
def f22 (C : CO) : SF :=
  (mRet (mFld 8 (mVar 0)))
/-! 23 House.counted -/
def N23 : List Str := ["self", "name", "time"]
def ps23 : List Str := ["self", "name"]
def f23 (C : CO) : SF :=
  (mSeq (mIfS (mOrB (mBool (mIn true (mVar 1) (mFld 2 (mVar 0)))) (mBool (mBin gNe (mIx (mIx (mFld 2 (mVar 0)) (mVar 1)) (mC (.int 0))) (mC (.str s1))))) mNever mEnd)
    (mRet (mBi gLen (mCons (mLc (iSeq (mIx (mFld 6 (mVar 0)) (mVar 1))) (tNm 2) (mBool (mBin gGt (mVar 2) (mBin gSub (mFld 4 (mVar 0)) (mIx (mIx (mFld 2 (mVar 0)) (mVar 1)) (mC (.int 4)))))) (mVar 2) [2]) mNil))))
/-! 24 House.log -/
def N24 : List Str := ["self"]
def ps24 : List Str := ["self"]
def f24 (C : CO) : SF :=
  (mRet (mBi gList (mCons (mFld 7 (mVar 0)) mNil)))
/-! 28 _law_well -/
def N28 : List Str := ["cell", "turn"]
def ps28 : List Str := ["cell", "turn"]
def f28 (C : CO) : SF :=
  (mSeq (mIfS (mBool (mBin gGe (mVar 0) (mBin gPow (mC (.int 10)) (mC (.int 18))))) (mRet (mLst (mCons (mBin gSub (mVar 0) (mBin gPow (mC (.int 10)) (mC (.int 18)))) (mCons (mBin gMod (mVar 0) (mC (.int 2305843009213693951))) (mCons (mVar 1) mNil))))) mEnd)
    (mRet (mLst (mCons (mC (.int 0)) (mCons (mBin gMod (mVar 0) (mC (.int 2305843009213693951))) (mCons (mVar 1) mNil))))))
/-! 29 _law_take -/
def N29 : List Str := ["bag", "many", "found", "p", "n"]
def ps29 : List Str := ["bag", "many"]
def f29 (C : CO) : SF :=
  (mSeq (mIfS (mBool (mBin gGt (mIx (mVar 0) (mC (.int 0))) (mC (.int 0)))) (mSeq (mSet (tNm 2) (mBin gMod (mIx (mVar 0) (mC (.int 0))) (mVar 1)))
    (mSeq (mSetIx (mVar 0) (mC (.int 0)) (mBin gDiv (mIx (mVar 0) (mC (.int 0))) (mVar 1)))
    (mRet (mVar 2)))) mEnd)
    (mSeq (mSetIx (mVar 0) (mC (.int 2)) (mBin gAdd (mIx (mVar 0) (mC (.int 2))) (mC (.int 1))))
    (mSeq (mSet (tNm 3) (mC (.int 2305843009213693951)))
    (mSeq (mSet (tNm 4) (mBin gMod (mBin gAdd (mIx (mVar 0) (mC (.int 1))) (mBin gMul (mC (.int 1000003)) (mIx (mVar 0) (mC (.int 2))))) (mVar 3)))
    (mSeq (mSet (tNm 4) (mBin gMod (mBin gAdd (mBin gAdd (mBin gMul (mVar 4) (mVar 4)) (mBin gMul (mC (.int 7919)) (mBin gPow (mIx (mVar 0) (mC (.int 2))) (mC (.int 2))))) (mC (.int 5))) (mVar 3)))
    (mRet (mBin gMod (mBin gDiv (mBin gMod (mBin gPow (mVar 4) (mC (.int 3))) (mVar 3)) (mC (.int 13))) (mVar 1))))))))
/-! 30 _law_bags -/
def N30 : List Str := ["script", "most", "k", "cell"]
def ps30 : List Str := ["script", "most"]
def f30 (C : CO) : SF :=
  (mRet (mLc (iEnumL (mBin gAdd (mSl (mVar 0) mNoP (mPart (mVar 1))) (mLst (mCons (mC (.int 0)) mNil)))) (tTp 2 (tsCons (tNm 2) (tsCons (tNm 3) tsNil))) mYes (mCall C 28 (mCons (mVar 3) (mCons (mBin gMul (mC (.int 977)) (mVar 2)) mNil)) []) [2, 3]))
/-! 31 _law_node -/
def N31 : List Str := ["bag", "deep", "names", "name", "mode", "most", "span", "rows", "turn"]
def ps31 : List Str := ["bag", "deep", "names"]
def f31 (C : CO) : SF :=
  (mSeq (mSet (tNm 3) (mIx (mC (.str s8)) (mBi gLen (mCons (mVar 2) mNil))))
    (mSeq (mExpr (mBm .list gAppend (mVar 2) (mCons (mVar 3) mNil)))
    (mSeq (mIfS (mOrB (mBool (mBin gEq (mVar 1) (mC (.int 0)))) (mOrB (mBool (mBin gGt (mBi gLen (mCons (mVar 2) mNil)) (mC (.int 14)))) (mAndB (mBool (mBin gGt (mBi gLen (mCons (mVar 2) mNil)) (mC (.int 1)))) (mBool (mBin gGt (mCall C 29 (mCons (mVar 0) (mCons (mC (.int 3)) mNil)) []) (mC (.int 0))))))) (mRet (mTup (mCons (mC (.str s4)) (mCons (mVar 3) mNil)))) mEnd)
    (mSeq (mSet (tNm 4) (mIx (mLst (mCons (mC (.str s7)) (mCons (mC (.str s6)) (mCons (mC (.str s5)) mNil)))) (mCall C 29 (mCons (mVar 0) (mCons (mC (.int 3)) mNil)) [])))
    (mSeq (mSet (tNm 5) (mCall C 29 (mCons (mVar 0) (mCons (mC (.int 4)) mNil)) []))
    (mSeq (mSet (tNm 6) (mBin gAdd (mC (.int 1)) (mCall C 29 (mCons (mVar 0) (mCons (mC (.int 12)) mNil)) [])))
    (mSeq (mSet (tNm 7) (mLc (iRange1 (mCons (mBin gAdd (mC (.int 1)) (mCall C 29 (mCons (mVar 0) (mCons (mC (.int 3)) mNil)) [])) mNil)) (tNm 8) mYes (mCall C 31 (mCons (mVar 0) (mCons (mBin gSub (mVar 1) (mC (.int 1))) (mCons (mVar 2) mNil))) []) [8]))
    (mRet (mTup (mCons (mC (.str s1)) (mCons (mVar 3) (mCons (mVar 4) (mCons (mVar 5) (mCons (mVar 6) (mCons (mBi gTuple (mCons (mVar 7) mNil)) mNil)))))))))))))))
/-! 32 _law_workers -/
def N32 : List Str := ["node", "found", "child"]
def ps32 : List Str := ["node"]
def f32 (C : CO) : SF :=
  (mSeq (mIfS (mBool (mBin gEq (mIx (mVar 0) (mC (.int 0))) (mC (.str s4)))) (mRet (mLst (mCons (mIx (mVar 0) (mC (.int 1))) mNil))) mEnd)
    (mSeq (mSet (tNm 1) (mLst mNil))
    (mSeq (mFor (iSeq (mIx (mVar 0) (mC (.int 5)))) (tNm 2) (mSet (tNm 1) (mBin gAdd (mVar 1) (mCall C 32 (mCons (mVar 2) mNil) []))))
    (mRet (mVar 1)))))
/-! 33 _law_nodes -/
def N33 : List Str := ["node", "found", "child"]
def ps33 : List Str := ["node"]
def f33 (C : CO) : SF :=
  (mSeq (mSet (tNm 1) (mLst (mCons (mVar 0) mNil)))
    (mSeq (mFor (iSeq (mIf (mBool (mBin gEq (mIx (mVar 0) (mC (.int 0))) (mC (.str s1)))) (mIx (mVar 0) (mC (.int 5))) (mLst mNil))) (tNm 2) (mSet (tNm 1) (mBin gAdd (mVar 1) (mCall C 33 (mCons (mVar 2) mNil) []))))
    (mRet (mVar 1))))
/-! 34 _law_called -/
def N34 : List Str := ["node", "child"]
def ps34 : List Str := ["node"]
def f34 (C : CO) : SF :=
  (mSeq (mIfS (mBool (mBin gEq (mIx (mVar 0) (mC (.int 0))) (mC (.str s4)))) (mRet (mTup (mCons (mC (.str s4)) (mCons (mBin gAdd (mC (.str s0)) (mIx (mVar 0) (mC (.int 1)))) mNil)))) mEnd)
    (mRet (mBin gAdd (mBin gAdd (mTup (mCons (mC (.str s1)) (mCons (mBin gAdd (mC (.str s0)) (mIx (mVar 0) (mC (.int 1)))) mNil))) (mSl (mVar 0) (mPart (mC (.int 2))) (mPart (mC (.int 5))))) (mTup (mCons (mBi gTuple (mCons (mLc (iSeq (mIx (mVar 0) (mC (.int 5)))) (tNm 1) mYes (mCall C 34 (mCons (mVar 1) mNil) []) [1]) mNil)) mNil)))))
/-! 35 law -/
def N35 : List Str := ["script", "bag", "tree", "by", "one", "two", "three", "turn", "some", "now", "name", "start", "rows", "time", "word", "node"]
def ps35 : List Str := ["script"]
def f35 (C : CO) : SF :=
  (mSeq (mFor (iSeq (mCall C 30 (mCons (mVar 0) (mCons (mC (.int 5)) mNil)) [])) (tNm 1) (mSeq (mSet (tNm 2) (mCall C 31 (mCons (mVar 1) (mCons (mC (.int 4)) (mCons (mLst mNil) mNil))) []))
    (mSeq (mSet (tNm 3) (mBin gAdd (mC (.int 1)) (mCall C 29 (mCons (mVar 1) (mCons (mBin gPow (mC (.int 10)) (mC (.int 6))) mNil)) [])))
    (mSeq (mPar3 4 5 6 (mCons (mMake C 0 10 (mCons (mVar 2) mNil) []) (mCons (mMake C 0 10 (mCons (mVar 2) mNil) []) (mCons (mMake C 0 10 (mCons (mCall C 34 (mCons (mVar 2) mNil) []) mNil) []) mNil))))
    (mSeq (mExpr (mMeth C (M1 0 13 []) (mVar 5) (mCons (mVar 3) mNil)))
    (mSeq (mFor (iRange1 (mCons (mC (.int 60)) mNil)) (tNm 7) (mSeq (mSet (tNm 8) (mMeth C (M1 0 21 []) (mVar 4) mNil))
    (mSeq (mIfS (mOrB (mBool (mBin gEq (mVar 8) (mLst mNil))) (mBool (mBin gEq (mCall C 29 (mCons (mVar 1) (mCons (mC (.int 3)) mNil)) []) (mC (.int 0))))) (mSeq (mSet (tNm 9) (mBin gAdd (mMeth C (M1 0 20 []) (mVar 4) mNil) (mCall C 29 (mCons (mVar 1) (mCons (mC (.int 8)) mNil)) [])))
    (mSeq (mExpr (mMeth C (M1 0 13 []) (mVar 4) (mCons (mVar 9) mNil)))
    (mSeq (mExpr (mMeth C (M1 0 13 []) (mVar 5) (mCons (mBin gAdd (mVar 9) (mVar 3)) mNil)))
    (mExpr (mMeth C (M1 0 13 []) (mVar 6) (mCons (mVar 9) mNil)))))) (mSeq (mSet (tNm 10) (mIx (mVar 8) (mCall C 29 (mCons (mVar 1) (mCons (mBi gLen (mCons (mVar 8) mNil)) mNil)) [])))
    (mSeq (mExpr (mMeth C (M1 0 18 []) (mVar 4) (mCons (mVar 10) mNil)))
    (mSeq (mExpr (mMeth C (M1 0 18 []) (mVar 5) (mCons (mVar 10) mNil)))
    (mExpr (mMeth C (M1 0 18 []) (mVar 6) (mCons (mBin gAdd (mC (.str s0)) (mVar 10)) mNil)))))))
    (mIfS (mOrB (mBool (mBin gNe (mMeth C (M1 0 22 []) (mVar 4) mNil) (mMeth C (M1 0 22 []) (mVar 5) mNil))) (mOrB (mBool (mBin gNe (mMeth C (M1 0 22 []) (mVar 4) mNil) (mMeth C (M1 0 22 []) (mVar 6) mNil))) (mBool (mBin gNe (mMeth C (M1 0 21 []) (mVar 4) mNil) (mMeth C (M1 0 21 []) (mVar 5) mNil))))) (mRet (mC (.bl false))) mEnd))))
    (mSeq (mSet (tNm 11) (mBi gLen (mCons (mCall C 32 (mCons (mVar 2) mNil) []) mNil)))
    (mSeq (mSet (tNm 12) (mMeth C (M1 0 24 []) (mVar 4) mNil))
    (mSeq (mIfS (mBool (mBin gNe (mLc (iSeq (mSl (mVar 12) (mPart (mVar 11)) mNoP)) (tTp 3 (tsCons (tNm 13) (tsCons (tNm 14) (tsCons (tNm 10) tsNil)))) mYes (mTup (mCons (mBin gAdd (mVar 13) (mVar 3)) (mCons (mVar 14) (mCons (mVar 10) mNil)))) [13, 14, 10]) (mSl (mMeth C (M1 0 24 []) (mVar 5) mNil) (mPart (mVar 11)) mNoP))) (mRet (mC (.bl false))) mEnd)
    (mSeq (mIfS (mBool (mBin gNe (mLc (iSeq (mVar 12)) (tTp 3 (tsCons (tNm 13) (tsCons (tNm 14) (tsCons (tNm 10) tsNil)))) mYes (mTup (mCons (mVar 13) (mCons (mVar 14) (mCons (mBin gAdd (mC (.str s0)) (mVar 10)) mNil)))) [13, 14, 10]) (mMeth C (M1 0 24 []) (mVar 6) mNil))) (mRet (mC (.bl false))) mEnd)
    (mFor (iSeq (mCall C 33 (mCons (mVar 2) mNil) [])) (tNm 15) (mIfS (mAndB (mBool (mBin gEq (mIx (mVar 15) (mC (.int 0))) (mC (.str s1)))) (mBool (mBin gNe (mMeth C (M1 0 23 []) (mVar 4) (mCons (mIx (mVar 15) (mC (.int 1))) mNil)) (mMeth C (M1 0 23 []) (mVar 6) (mCons (mBin gAdd (mC (.str s0)) (mIx (mVar 15) (mC (.int 1)))) mNil))))) (mRet (mC (.bl false))) mEnd))))))))))))
    (mRet (mC (.bl true))))
def prog : Nat → Option Df
  | 3 => some ⟨1, 1, f3⟩
  | 4 => some ⟨3, 3, f4⟩
  | 5 => some ⟨1, 2, f5⟩
  | 6 => some ⟨2, 3, f6⟩
  | 7 => some ⟨1, 3, f7⟩
  | 8 => some ⟨1, 1, f8⟩
  | 9 => some ⟨1, 3, f9⟩
  | 10 => some ⟨2, 3, f10⟩
  | 11 => some ⟨3, 4, f11⟩
  | 12 => some ⟨1, 3, f12⟩
  | 13 => some ⟨2, 2, f13⟩
  | 14 => some ⟨2, 4, f14⟩
  | 15 => some ⟨2, 4, f15⟩
  | 16 => some ⟨3, 6, f16⟩
  | 17 => some ⟨2, 7, f17⟩
  | 18 => some ⟨2, 2, f18⟩
  | 20 => some ⟨1, 1, f20⟩
  | 21 => some ⟨1, 2, f21⟩
  | 22 => some ⟨1, 1, f22⟩
  | 23 => some ⟨2, 3, f23⟩
  | 24 => some ⟨1, 1, f24⟩
  | 28 => some ⟨2, 2, f28⟩
  | 29 => some ⟨2, 5, f29⟩
  | 30 => some ⟨2, 4, f30⟩
  | 31 => some ⟨3, 9, f31⟩
  | 32 => some ⟨1, 3, f32⟩
  | 33 => some ⟨1, 3, f33⟩
  | 34 => some ⟨1, 2, f34⟩
  | 35 => some ⟨1, 16, f35⟩
  | _ => none
section
variable {P : Program} {w : World} {K : PySem.W.Frag} {mg : Str → Option Value}
theorem sc3 : FnScope N3 ps3 (defScope (top 13)) := ⟨rfl, rfl, rfl, by decide +kernel, rfl, by decide +kernel, by decide +kernel⟩
theorem b3 {base : Heap} {f : Addr} {cdv : Value} {A : Around} {outer : List Env} {s : Shared} {H : Hp} {E : XK} {C : CO} {k : Nat} (gc : GC (G0 K) (XX P w K mg base N3 "is_whole" (defScope (top 13)) f cdv A outer s H E) C k (T0 K)) :
    SSs (G0 K) (XX P w K mg base N3 "is_whole" (defScope (top 13)) f cdv A outer s H E) (defBody (top 13)) (f3 C) :=
  (ss_one (ss_ret (se_and gc.gx (se_isi gc.gx isTInt_ok rfl (gc.fr 7 _ rfl) rfl (gc.fr 9 _ rfl) (by decide +kernel) (by decide) (by decide) (se_var (i := 0) rfl (by first | exact Or.inl rfl | exact Or.inr (Or.inl rfl) | exact Or.inr (Or.inr rfl)) (by decide) (by decide)) rfl rfl rfl) (se_one (se_not gc.gx (se_isi gc.gx isTBool_ok rfl (gc.fr 7 _ rfl) rfl (gc.fr 8 _ rfl) (by decide +kernel) (by decide) (by decide) (se_var (i := 0) rfl (by first | exact Or.inl rfl | exact Or.inr (Or.inl rfl) | exact Or.inr (Or.inr rfl)) (by decide) (by decide)) rfl rfl rfl))))))
theorem sc4 : FnScope N4 ps4 (defScope (top 14)) := ⟨rfl, rfl, rfl, by decide +kernel, rfl, by decide +kernel, by decide +kernel⟩
theorem b4 {base : Heap} {f : Addr} {cdv : Value} {A : Around} {outer : List Env} {s : Shared} {H : Hp} {E : XK} {C : CO} {k : Nat} (gc : GC (G0 K) (XX P w K mg base N4 "is_within" (defScope (top 14)) f cdv A outer s H E) C k (T0 K)) :
    SSs (G0 K) (XX P w K mg base N4 "is_within" (defScope (top 14)) f cdv A outer s H E) (defBody (top 14)) (f4 C) :=
  (ss_one (ss_ret (se_and gc.gx (se_call (j := 3) gc rfl rfl (sa_cons (se_var (i := 0) rfl (by first | exact Or.inl rfl | exact Or.inr (Or.inl rfl) | exact Or.inr (Or.inr rfl)) (by decide) (by decide)) sa_nil rfl) (by decide) rfl rfl) (se_one (se_chain ops_le ops_le (se_var (i := 1) rfl (by first | exact Or.inl rfl | exact Or.inr (Or.inl rfl) | exact Or.inr (Or.inr rfl)) (by decide) (by decide)) (se_var (i := 0) rfl (by first | exact Or.inl rfl | exact Or.inr (Or.inl rfl) | exact Or.inr (Or.inr rfl)) (by decide) (by decide)) (se_var (i := 2) rfl (by first | exact Or.inl rfl | exact Or.inr (Or.inl rfl) | exact Or.inr (Or.inr rfl)) (by decide) (by decide)) rfl rfl (fun ho ho' ha hb hc => pe_chain ho ho' ha hb hc))))))
theorem sc5 : FnScope N5 ps5 (defScope (top 15)) := ⟨rfl, rfl, rfl, by decide +kernel, rfl, by decide +kernel, by decide +kernel⟩
theorem b5 {base : Heap} {f : Addr} {cdv : Value} {A : Around} {outer : List Env} {s : Shared} {H : Hp} {E : XK} {C : CO} {k : Nat} (gc : GC (G0 K) (XX P w K mg base N5 "is_name" (defScope (top 15)) f cdv A outer s H E) C k (T0 K)) :
    SSs (G0 K) (XX P w K mg base N5 "is_name" (defScope (top 15)) f cdv A outer s H E) (defBody (top 15)) (f5 C) :=
  (ss_one (ss_ret (se_and gc.gx (se_isi gc.gx isTStr_ok rfl (gc.fr 7 _ rfl) rfl (gc.fr 11 _ rfl) (by decide +kernel) (by decide) (by decide) (se_var (i := 0) rfl (by first | exact Or.inl rfl | exact Or.inr (Or.inl rfl) | exact Or.inr (Or.inr rfl)) (by decide) (by decide)) rfl rfl rfl) (se_and gc.gx (se_chain ops_le ops_le se_int (se_bi (id := "len") (calls_len gc.gx) rfl (gc.fr 0 _ rfl) (by decide +kernel) (sa_cons (se_var (i := 0) rfl (by first | exact Or.inl rfl | exact Or.inr (Or.inl rfl) | exact Or.inr (Or.inr rfl)) (by decide) (by decide)) sa_nil rfl) (by decide) (by decide) rfl rfl) (se_cv gc 7 rfl rfl (by decide)) rfl rfl (fun ho ho' ha hb hc => pe_chain ho ho' ha hb hc)) (se_one (se_bi (id := "all") (calls_all gc.gx) rfl (gc.fr 10 _ rfl) (by decide +kernel) (sa_cons (se_lc (own := [("sign", 1)]) gc (blkOk_by (N := N5) (own := [("sign", 1)]) (sc := defScope (top 15)) (by decide +kernel)) (si_seq gc.gx (se_var (i := 0) rfl (by first | exact Or.inl rfl | exact Or.inr (Or.inl rfl) | exact Or.inr (Or.inr rfl)) (by decide) (by decide))) (fun s0 H0 C0 cl0 fp0 gc => (sg_name (i := 1) gc.gx rfl (by first | exact Or.inl rfl | exact Or.inr rfl) (by first | exact Or.inl rfl | exact Or.inr rfl))) sif_none (fun s0 H0 C0 cl0 fp0 gc => (se_cmp (sc_in gc.gx (se_var (i := 1) rfl (by first | exact Or.inl rfl | exact Or.inr (Or.inl rfl) | exact Or.inr (Or.inr rfl)) (by decide) (by decide)) (se_cv gc 6 rfl rfl (by decide))) rfl)) (by decide) (by intro _; rfl)) sa_nil rfl) (by decide) (by decide) rfl rfl))))))
theorem sc6 : FnScope N6 ps6 (defScope (top 23)) := ⟨rfl, rfl, rfl, by decide +kernel, rfl, by decide +kernel, by decide +kernel⟩
theorem b6 {base : Heap} {f : Addr} {cdv : Value} {A : Around} {outer : List Env} {s : Shared} {H : Hp} {E : XK} {C : CO} {k : Nat} (gc : GC (G0 K) (XX P w K mg base N6 "is_node" (defScope (top 23)) f cdv A outer s H E) C k (T0 K)) :
    SSs (G0 K) (XX P w K mg base N6 "is_node" (defScope (top 23)) f cdv A outer s H E) (defBody (top 23)) (f6 C) :=
  (ss_cons (ss_if (st_w (sw_or (st_not (st_tru gc.gx (se_isi gc.gx isTTuple_ok rfl (gc.fr 7 _ rfl) rfl (gc.fr 4 _ rfl) (by decide +kernel) (by decide) (by decide) (se_var (i := 0) rfl (by first | exact Or.inl rfl | exact Or.inr (Or.inl rfl) | exact Or.inr (Or.inr rfl)) (by decide) (by decide)) rfl rfl rfl) (by intro _; rfl))) (sw_or (st_cmp (sc_op ops_lt (se_bi (id := "len") (calls_len gc.gx) rfl (gc.fr 0 _ rfl) (by decide +kernel) (sa_cons (se_var (i := 0) rfl (by first | exact Or.inl rfl | exact Or.inr (Or.inl rfl) | exact Or.inr (Or.inr rfl)) (by decide) (by decide)) sa_nil rfl) (by decide) (by decide) rfl rfl) se_int) rfl) (sw_or (st_not (st_tru gc.gx (se_isi gc.gx isTStr_ok rfl (gc.fr 7 _ rfl) rfl (gc.fr 11 _ rfl) (by decide +kernel) (by decide) (by decide) (se_ix gc.gx (se_var (i := 0) rfl (by first | exact Or.inl rfl | exact Or.inr (Or.inl rfl) | exact Or.inr (Or.inr rfl)) (by decide) (by decide)) se_int (fun _ _ => rfl)) rfl rfl rfl) (by intro _; rfl))) (sw_or1 (st_not (st_tru gc.gx (se_call (j := 5) gc rfl rfl (sa_cons (se_ix gc.gx (se_var (i := 0) rfl (by first | exact Or.inl rfl | exact Or.inr (Or.inl rfl) | exact Or.inr (Or.inr rfl)) (by decide) (by decide)) se_int (fun _ _ => rfl)) sa_nil rfl) (by decide) rfl rfl) (by intro _; rfl)))))))) (ss_one (ss_ret se_bl)) ss_nil)
    (ss_cons (ss_if (st_cmp (sc_op (ops_eq gc.gx) (se_ix gc.gx (se_var (i := 0) rfl (by first | exact Or.inl rfl | exact Or.inr (Or.inl rfl) | exact Or.inr (Or.inr rfl)) (by decide) (by decide)) se_int (fun _ _ => rfl)) (se_str s4_eq)) rfl) (ss_one (ss_ret (se_cmp (sc_op (ops_eq gc.gx) (se_bi (id := "len") (calls_len gc.gx) rfl (gc.fr 0 _ rfl) (by decide +kernel) (sa_cons (se_var (i := 0) rfl (by first | exact Or.inl rfl | exact Or.inr (Or.inl rfl) | exact Or.inr (Or.inr rfl)) (by decide) (by decide)) sa_nil rfl) (by decide) (by decide) rfl rfl) se_int) rfl))) ss_nil)
    (ss_cons (ss_if (st_w (sw_or (st_cmp (sc_op (ops_ne gc.gx) (se_ix gc.gx (se_var (i := 0) rfl (by first | exact Or.inl rfl | exact Or.inr (Or.inl rfl) | exact Or.inr (Or.inr rfl)) (by decide) (by decide)) se_int (fun _ _ => rfl)) (se_str s1_eq)) rfl) (sw_or (st_cmp (sc_op (ops_ne gc.gx) (se_bi (id := "len") (calls_len gc.gx) rfl (gc.fr 0 _ rfl) (by decide +kernel) (sa_cons (se_var (i := 0) rfl (by first | exact Or.inl rfl | exact Or.inr (Or.inl rfl) | exact Or.inr (Or.inr rfl)) (by decide) (by decide)) sa_nil rfl) (by decide) (by decide) rfl rfl) se_int) rfl) (sw_or1 (st_cmp (sc_op (ops_eq gc.gx) (se_var (i := 1) rfl (by first | exact Or.inl rfl | exact Or.inr (Or.inl rfl) | exact Or.inr (Or.inr rfl)) (by decide) (by decide)) se_int) rfl))))) (ss_one (ss_ret se_bl)) ss_nil)
    (ss_cons (ss_if (st_w (sw_or (st_not (st_tru gc.gx (se_isi gc.gx isTStr_ok rfl (gc.fr 7 _ rfl) rfl (gc.fr 11 _ rfl) (by decide +kernel) (by decide) (by decide) (se_ix gc.gx (se_var (i := 0) rfl (by first | exact Or.inl rfl | exact Or.inr (Or.inl rfl) | exact Or.inr (Or.inr rfl)) (by decide) (by decide)) se_int (fun _ _ => rfl)) rfl rfl rfl) (by intro _; rfl))) (sw_or1 (st_cmp (sc_notin gc.gx (se_ix gc.gx (se_var (i := 0) rfl (by first | exact Or.inl rfl | exact Or.inr (Or.inl rfl) | exact Or.inr (Or.inr rfl)) (by decide) (by decide)) se_int (fun _ _ => rfl)) (se_cv gc 5 rfl rfl (by decide))) rfl)))) (ss_one (ss_ret se_bl)) ss_nil)
    (ss_cons (ss_if (st_w (sw_or (st_not (st_tru gc.gx (se_call (j := 4) gc rfl rfl (sa_cons (se_ix gc.gx (se_var (i := 0) rfl (by first | exact Or.inl rfl | exact Or.inr (Or.inl rfl) | exact Or.inr (Or.inr rfl)) (by decide) (by decide)) se_int (fun _ _ => rfl)) (sa_cons se_int (sa_cons (se_cv gc 4 rfl rfl (by decide)) sa_nil rfl) rfl) rfl) (by decide) rfl rfl) (by intro _; rfl))) (sw_or1 (st_not (st_tru gc.gx (se_call (j := 4) gc rfl rfl (sa_cons (se_ix gc.gx (se_var (i := 0) rfl (by first | exact Or.inl rfl | exact Or.inr (Or.inl rfl) | exact Or.inr (Or.inr rfl)) (by decide) (by decide)) se_int (fun _ _ => rfl)) (sa_cons se_int (sa_cons (se_cv gc 3 rfl rfl (by decide)) sa_nil rfl) rfl) rfl) (by decide) rfl rfl) (by intro _; rfl)))))) (ss_one (ss_ret se_bl)) ss_nil)
    (ss_cons (ss_if (st_w (sw_or (st_not (st_tru gc.gx (se_isi gc.gx isTTuple_ok rfl (gc.fr 7 _ rfl) rfl (gc.fr 4 _ rfl) (by decide +kernel) (by decide) (by decide) (se_ix gc.gx (se_var (i := 0) rfl (by first | exact Or.inl rfl | exact Or.inr (Or.inl rfl) | exact Or.inr (Or.inr rfl)) (by decide) (by decide)) se_int (fun _ _ => rfl)) rfl rfl rfl) (by intro _; rfl))) (sw_or1 (st_not (st_chain ops_le ops_le se_int (se_bi (id := "len") (calls_len gc.gx) rfl (gc.fr 0 _ rfl) (by decide +kernel) (sa_cons (se_ix gc.gx (se_var (i := 0) rfl (by first | exact Or.inl rfl | exact Or.inr (Or.inl rfl) | exact Or.inr (Or.inr rfl)) (by decide) (by decide)) se_int (fun _ _ => rfl)) sa_nil rfl) (by decide) (by decide) rfl rfl) (se_cv gc 2 rfl rfl (by decide)) (fun ho ho' ha hb hc => pt_chain ho ho' ha hb hc)))))) (ss_one (ss_ret se_bl)) ss_nil)
    (ss_one (ss_ret (se_bi (id := "all") (calls_all gc.gx) rfl (gc.fr 10 _ rfl) (by decide +kernel) (sa_cons (se_lc (own := [("one", 2)]) gc (blkOk_by (N := N6) (own := [("one", 2)]) (sc := defScope (top 23)) (by decide +kernel)) (si_seq gc.gx (se_ix gc.gx (se_var (i := 0) rfl (by first | exact Or.inl rfl | exact Or.inr (Or.inl rfl) | exact Or.inr (Or.inr rfl)) (by decide) (by decide)) se_int (fun _ _ => rfl))) (fun s0 H0 C0 cl0 fp0 gc => (sg_name (i := 2) gc.gx rfl (by first | exact Or.inl rfl | exact Or.inr rfl) (by first | exact Or.inl rfl | exact Or.inr rfl))) sif_none (fun s0 H0 C0 cl0 fp0 gc => (se_call (j := 6) gc rfl rfl (sa_cons (se_var (i := 2) rfl (by first | exact Or.inl rfl | exact Or.inr (Or.inl rfl) | exact Or.inr (Or.inr rfl)) (by decide) (by decide)) (sa_cons (se_bin ops_sub (se_var (i := 1) rfl (by first | exact Or.inl rfl | exact Or.inr (Or.inl rfl) | exact Or.inr (Or.inr rfl)) (by decide) (by decide)) se_int) sa_nil rfl) rfl) (by decide) rfl rfl)) (by decide) (by intro _; rfl)) sa_nil rfl) (by decide) (by decide) rfl rfl)))))))))
theorem sc7 : FnScope N7 ps7 (defScope (top 24)) := ⟨rfl, rfl, rfl, by decide +kernel, rfl, by decide +kernel, by decide +kernel⟩
theorem b7 {base : Heap} {f : Addr} {cdv : Value} {A : Around} {outer : List Env} {s : Shared} {H : Hp} {E : XK} {C : CO} {k : Nat} (gc : GC (G0 K) (XX P w K mg base N7 "names_in" (defScope (top 24)) f cdv A outer s H E) C k (T0 K)) :
    SSs (G0 K) (XX P w K mg base N7 "names_in" (defScope (top 24)) f cdv A outer s H E) (defBody (top 24)) (f7 C) :=
  (ss_cons (ss_set (i := 1) gc.gx rfl (by first | exact Or.inl rfl | exact Or.inr rfl) (se_lst (sa_cons (se_ix gc.gx (se_var (i := 0) rfl (by first | exact Or.inl rfl | exact Or.inr (Or.inl rfl) | exact Or.inr (Or.inr rfl)) (by decide) (by decide)) se_int (fun _ _ => rfl)) sa_nil rfl)) rfl (by first | exact Or.inl rfl | exact Or.inr rfl))
    (ss_cons (ss_if (st_cmp (sc_op (ops_eq gc.gx) (se_ix gc.gx (se_var (i := 0) rfl (by first | exact Or.inl rfl | exact Or.inr (Or.inl rfl) | exact Or.inr (Or.inr rfl)) (by decide) (by decide)) se_int (fun _ _ => rfl)) (se_str s1_eq)) rfl) (ss_one (ss_for gc.gx PassesOwn.never (si_seq gc.gx (se_ix gc.gx (se_var (i := 0) rfl (by first | exact Or.inl rfl | exact Or.inr (Or.inl rfl) | exact Or.inr (Or.inr rfl)) (by decide) (by decide)) se_int (fun _ _ => rfl))) (sg_name (i := 2) gc.gx rfl (by first | exact Or.inl rfl | exact Or.inr rfl) (by first | exact Or.inl rfl | exact Or.inr rfl)) (ss_one (ss_expr (se_bm (k := .list) (id := "list.extend") gc.gx mts_extend (se_var (i := 1) rfl (by first | exact Or.inl rfl | exact Or.inr (Or.inl rfl) | exact Or.inr (Or.inr rfl)) (by decide) (by decide)) (sa_cons (se_call (j := 7) gc rfl rfl (sa_cons (se_var (i := 2) rfl (by first | exact Or.inl rfl | exact Or.inr (Or.inl rfl) | exact Or.inr (Or.inr rfl)) (by decide) (by decide)) sa_nil rfl) (by decide) rfl rfl) sa_nil rfl) (fun hm ho ha => pe_bm PySem.F.plainAttrs_list PySem.F.slot_list_extend PySem.F.type_list_extend hm ho ha)) rfl)) (by intro _; rfl))) ss_nil)
    (ss_one (ss_ret (se_var (i := 1) rfl (by first | exact Or.inl rfl | exact Or.inr (Or.inl rfl) | exact Or.inr (Or.inr rfl)) (by decide) (by decide))))))
theorem sc8 : FnScope N8 ps8 (defScope (top 25)) := ⟨rfl, rfl, rfl, by decide +kernel, rfl, by decide +kernel, by decide +kernel⟩
theorem b8 {base : Heap} {f : Addr} {cdv : Value} {A : Around} {outer : List Env} {s : Shared} {H : Hp} {E : XK} {C : CO} {k : Nat} (gc : GC (G0 K) (XX P w K mg base N8 "is_tree" (defScope (top 25)) f cdv A outer s H E) C k (T0 K)) :
    SSs (G0 K) (XX P w K mg base N8 "is_tree" (defScope (top 25)) f cdv A outer s H E) (defBody (top 25)) (f8 C) :=
  (ss_cons (ss_if (st_w (sw_or (st_not (st_tru gc.gx (se_call (j := 6) gc rfl rfl (sa_cons (se_var (i := 0) rfl (by first | exact Or.inl rfl | exact Or.inr (Or.inl rfl) | exact Or.inr (Or.inr rfl)) (by decide) (by decide)) (sa_cons (se_cv gc 1 rfl rfl (by decide)) sa_nil rfl) rfl) (by decide) rfl rfl) (by intro _; rfl))) (sw_or1 (st_cmp (sc_op (ops_ne gc.gx) (se_ix gc.gx (se_var (i := 0) rfl (by first | exact Or.inl rfl | exact Or.inr (Or.inl rfl) | exact Or.inr (Or.inr rfl)) (by decide) (by decide)) se_int (fun _ _ => rfl)) (se_str s1_eq)) rfl)))) (ss_one (ss_ret se_bl)) ss_nil)
    (ss_one (ss_ret (se_cmp (sc_op (ops_eq gc.gx) (se_lenSet gc.gx rfl (gc.fr 0 _ rfl) rfl (gc.fr 5 _ rfl) (se_call (j := 7) gc rfl rfl (sa_cons (se_var (i := 0) rfl (by first | exact Or.inl rfl | exact Or.inr (Or.inl rfl) | exact Or.inr (Or.inr rfl)) (by decide) (by decide)) sa_nil rfl) (by decide) rfl rfl) rfl) (se_bi (id := "len") (calls_len gc.gx) rfl (gc.fr 0 _ rfl) (by decide +kernel) (sa_cons (se_call (j := 7) gc rfl rfl (sa_cons (se_var (i := 0) rfl (by first | exact Or.inl rfl | exact Or.inr (Or.inl rfl) | exact Or.inr (Or.inr rfl)) (by decide) (by decide)) sa_nil rfl) (by decide) rfl rfl) sa_nil rfl) (by decide) (by decide) rfl rfl)) rfl))))
theorem sc9 : FnScope N9 ps9 (defScope (top 26)) := ⟨rfl, rfl, rfl, by decide +kernel, rfl, by decide +kernel, by decide +kernel⟩
theorem b9 {base : Heap} {f : Addr} {cdv : Value} {A : Around} {outer : List Env} {s : Shared} {H : Hp} {E : XK} {C : CO} {k : Nat} (gc : GC (G0 K) (XX P w K mg base N9 "workers_in" (defScope (top 26)) f cdv A outer s H E) C k (T0 K)) :
    SSs (G0 K) (XX P w K mg base N9 "workers_in" (defScope (top 26)) f cdv A outer s H E) (defBody (top 26)) (f9 C) :=
  (ss_cons (ss_if (st_cmp (sc_op (ops_eq gc.gx) (se_ix gc.gx (se_var (i := 0) rfl (by first | exact Or.inl rfl | exact Or.inr (Or.inl rfl) | exact Or.inr (Or.inr rfl)) (by decide) (by decide)) se_int (fun _ _ => rfl)) (se_str s4_eq)) rfl) (ss_one (ss_ret (se_lst (sa_cons (se_ix gc.gx (se_var (i := 0) rfl (by first | exact Or.inl rfl | exact Or.inr (Or.inl rfl) | exact Or.inr (Or.inr rfl)) (by decide) (by decide)) se_int (fun _ _ => rfl)) sa_nil rfl)))) ss_nil)
    (ss_one (ss_ret (se_lc2 (own := [("child", 1), ("name", 2)]) (vs1 := [2]) gc (blkOk_by (N := N9) (own := [("child", 1), ("name", 2)]) (sc := defScope (top 26)) (by decide +kernel)) (by decide) (si_seq gc.gx (se_ix gc.gx (se_var (i := 0) rfl (by first | exact Or.inl rfl | exact Or.inr (Or.inl rfl) | exact Or.inr (Or.inr rfl)) (by decide) (by decide)) se_int (fun _ _ => rfl))) (fun s0 H0 C0 cl0 fp0 gc => (sg_name (i := 1) gc.gx rfl (by first | exact Or.inl rfl | exact Or.inr rfl) (by first | exact Or.inl rfl | exact Or.inr rfl))) sif_none (fun s0 H0 C0 cl0 fp0 gc => (si_seq gc.gx (se_call (j := 9) gc rfl rfl (sa_cons (se_var (i := 1) rfl (by first | exact Or.inl rfl | exact Or.inr (Or.inl rfl) | exact Or.inr (Or.inr rfl)) (by decide) (by decide)) sa_nil rfl) (by decide) rfl rfl))) (fun s0 H0 C0 cl0 fp0 gc => (sg_name (i := 2) gc.gx rfl (by first | exact Or.inl rfl | exact Or.inr rfl) (by first | exact Or.inl rfl | exact Or.inr rfl))) sif_none (fun s0 H0 C0 cl0 fp0 gc => (se_var (i := 2) rfl (by first | exact Or.inl rfl | exact Or.inr (Or.inl rfl) | exact Or.inr (Or.inr rfl)) (by decide) (by decide))) (by decide) (by decide) (by intro _; rfl) (by intro _ _; rfl)))))
theorem sc10 : FnScope N10 ps10 (defScope (inClass (top 27) 0)) := ⟨rfl, rfl, rfl, by decide +kernel, rfl, by decide +kernel, by decide +kernel⟩
theorem b10 {base : Heap} {f : Addr} {cdv : Value} {A : Around} {outer : List Env} {s : Shared} {H : Hp} {E : XK} {C : CO} {k : Nat} (gc : GC (G0 K) (XX P w K mg base N10 "House.__init__" (defScope (inClass (top 27) 0)) f cdv A outer s H E) C k (T0 K)) :
    SSs (G0 K) (XX P w K mg base N10 "House.__init__" (defScope (inClass (top 27) 0)) f cdv A outer s H E) (defBody (inClass (top 27) 0)) (f10 C) :=
  (ss_cons (ss_if (st_not (st_tru gc.gx (se_call (j := 8) gc rfl rfl (sa_cons (se_var (i := 1) rfl (by first | exact Or.inl rfl | exact Or.inr (Or.inl rfl) | exact Or.inr (Or.inr rfl)) (by decide) (by decide)) sa_nil rfl) (by decide) rfl rfl) (by intro _; rfl))) (ss_one ss_never) ss_nil)
    (ss_cons (ss_setFld (j := 1) gc.gx (se_var (i := 0) rfl (by first | exact Or.inl rfl | exact Or.inr (Or.inl rfl) | exact Or.inr (Or.inr rfl)) (by decide) (by decide)) (se_var (i := 1) rfl (by first | exact Or.inl rfl | exact Or.inr (Or.inl rfl) | exact Or.inr (Or.inr rfl)) (by decide) (by decide)) rfl rfl)
    (ss_cons (ss_setFld (j := 2) gc.gx (se_var (i := 0) rfl (by first | exact Or.inl rfl | exact Or.inr (Or.inl rfl) | exact Or.inr (Or.inr rfl)) (by decide) (by decide)) se_dic0 rfl rfl)
    (ss_cons (ss_setFld (j := 3) gc.gx (se_var (i := 0) rfl (by first | exact Or.inl rfl | exact Or.inr (Or.inl rfl) | exact Or.inr (Or.inr rfl)) (by decide) (by decide)) se_dic0 rfl rfl)
    (ss_cons (ss_expr (se_meth gc (mok1 7 rfl) (se_var (i := 0) rfl (by first | exact Or.inl rfl | exact Or.inr (Or.inl rfl) | exact Or.inr (Or.inr rfl)) (by decide) (by decide)) (sa_cons (se_var (i := 1) rfl (by first | exact Or.inl rfl | exact Or.inr (Or.inl rfl) | exact Or.inr (Or.inr rfl)) (by decide) (by decide)) (sa_cons se_non sa_nil rfl) rfl) (fun ho ha c hm F hr hb hd => pe_meth ho c hm F hr hb hd pass0 ha)) rfl)
    (ss_cons (ss_setFld (j := 4) gc.gx (se_var (i := 0) rfl (by first | exact Or.inl rfl | exact Or.inr (Or.inl rfl) | exact Or.inr (Or.inr rfl)) (by decide) (by decide)) se_int rfl rfl)
    (ss_cons (ss_setFld (j := 5) gc.gx (se_var (i := 0) rfl (by first | exact Or.inl rfl | exact Or.inr (Or.inl rfl) | exact Or.inr (Or.inr rfl)) (by decide) (by decide)) (se_dc (own := [("name", 2)]) gc (blkOk_by (N := N10) (own := [("name", 2)]) (sc := defScope (inClass (top 27) 0)) (by decide +kernel)) (si_seq gc.gx (se_call (j := 9) gc rfl rfl (sa_cons (se_var (i := 1) rfl (by first | exact Or.inl rfl | exact Or.inr (Or.inl rfl) | exact Or.inr (Or.inr rfl)) (by decide) (by decide)) sa_nil rfl) (by decide) rfl rfl)) (fun s0 H0 C0 cl0 fp0 gc => (sg_name (i := 2) gc.gx rfl (by first | exact Or.inl rfl | exact Or.inr rfl) (by first | exact Or.inl rfl | exact Or.inr rfl))) sif_none (fun s0 H0 C0 cl0 fp0 gc => (se_var (i := 2) rfl (by first | exact Or.inl rfl | exact Or.inr (Or.inl rfl) | exact Or.inr (Or.inr rfl)) (by decide) (by decide))) (fun s0 H0 C0 cl0 fp0 gc => se_bl) (by decide) (by intro _; rfl)) rfl rfl)
    (ss_cons (ss_setFld (j := 6) gc.gx (se_var (i := 0) rfl (by first | exact Or.inl rfl | exact Or.inr (Or.inl rfl) | exact Or.inr (Or.inr rfl)) (by decide) (by decide)) (se_lock (lk := lkF 0 2) (se_dc (own := [("name", 2)]) gc (blkOk_by (N := N10) (own := [("name", 2)]) (sc := defScope (inClass (top 27) 0)) (by decide +kernel)) (si_keys gc.gx (se_fld (j := 2) gc.gx (se_var (i := 0) rfl (by first | exact Or.inl rfl | exact Or.inr (Or.inl rfl) | exact Or.inr (Or.inr rfl)) (by decide) (by decide)) rfl rfl)) (fun s0 H0 C0 cl0 fp0 gc => (sg_name (i := 2) gc.gx rfl (by first | exact Or.inl rfl | exact Or.inr rfl) (by first | exact Or.inl rfl | exact Or.inr rfl))) sif_none (fun s0 H0 C0 cl0 fp0 gc => (se_var (i := 2) rfl (by first | exact Or.inl rfl | exact Or.inr (Or.inl rfl) | exact Or.inr (Or.inr rfl)) (by decide) (by decide))) (fun s0 H0 C0 cl0 fp0 gc => (se_lst sa_nil)) (by decide) (by intro _; rfl))) rfl rfl)
    (ss_cons (ss_setFld (j := 7) gc.gx (se_var (i := 0) rfl (by first | exact Or.inl rfl | exact Or.inr (Or.inl rfl) | exact Or.inr (Or.inr rfl)) (by decide) (by decide)) (se_lc (own := [("name", 2)]) gc (blkOk_by (N := N10) (own := [("name", 2)]) (sc := defScope (inClass (top 27) 0)) (by decide +kernel)) (si_seq gc.gx (se_call (j := 9) gc rfl rfl (sa_cons (se_var (i := 1) rfl (by first | exact Or.inl rfl | exact Or.inr (Or.inl rfl) | exact Or.inr (Or.inr rfl)) (by decide) (by decide)) sa_nil rfl) (by decide) rfl rfl)) (fun s0 H0 C0 cl0 fp0 gc => (sg_name (i := 2) gc.gx rfl (by first | exact Or.inl rfl | exact Or.inr rfl) (by first | exact Or.inl rfl | exact Or.inr rfl))) sif_none (fun s0 H0 C0 cl0 fp0 gc => (se_tup (sa_cons se_int (sa_cons (se_str s2_eq) (sa_cons (se_var (i := 2) rfl (by first | exact Or.inl rfl | exact Or.inr (Or.inl rfl) | exact Or.inr (Or.inr rfl)) (by decide) (by decide)) sa_nil rfl) rfl) rfl))) (by decide) (by intro _; rfl)) rfl rfl)
    (ss_cons (ss_setFld (j := 8) gc.gx (se_var (i := 0) rfl (by first | exact Or.inl rfl | exact Or.inr (Or.inl rfl) | exact Or.inr (Or.inr rfl)) (by decide) (by decide)) se_bl rfl rfl)
    (ss_one (ss_setFld (j := 9) gc.gx (se_var (i := 0) rfl (by first | exact Or.inl rfl | exact Or.inr (Or.inl rfl) | exact Or.inr (Or.inr rfl)) (by decide) (by decide)) (se_lst sa_nil) rfl rfl))))))))))))
theorem sc11 : FnScope N11 ps11 (defScope (inClass (top 27) 1)) := ⟨rfl, rfl, rfl, by decide +kernel, rfl, by decide +kernel, by decide +kernel⟩
theorem b11 {base : Heap} {f : Addr} {cdv : Value} {A : Around} {outer : List Env} {s : Shared} {H : Hp} {E : XK} {C : CO} {k : Nat} (gc : GC (G0 K) (XX P w K mg base N11 "House.learn" (defScope (inClass (top 27) 1)) f cdv A outer s H E) C k (T0 K)) :
    SSs (G0 K) (XX P w K mg base N11 "House.learn" (defScope (inClass (top 27) 1)) f cdv A outer s H E) (defBody (inClass (top 27) 1)) (f11 C) :=
  (ss_cons (ss_setIx gc.gx (se_fld (j := 2) gc.gx (se_var (i := 0) rfl (by first | exact Or.inl rfl | exact Or.inr (Or.inl rfl) | exact Or.inr (Or.inr rfl)) (by decide) (by decide)) rfl rfl) (se_ix gc.gx (se_var (i := 1) rfl (by first | exact Or.inl rfl | exact Or.inr (Or.inl rfl) | exact Or.inr (Or.inr rfl)) (by decide) (by decide)) se_int (fun _ _ => rfl)) (se_var (i := 1) rfl (by first | exact Or.inl rfl | exact Or.inr (Or.inl rfl) | exact Or.inr (Or.inr rfl)) (by decide) (by decide)) (fun ht hg => ps_asg ht hg) (fun ho hi hs => pg_sub ho hi hs))
    (ss_cons (ss_setIx gc.gx (se_fld (j := 3) gc.gx (se_var (i := 0) rfl (by first | exact Or.inl rfl | exact Or.inr (Or.inl rfl) | exact Or.inr (Or.inr rfl)) (by decide) (by decide)) rfl rfl) (se_ix gc.gx (se_var (i := 1) rfl (by first | exact Or.inl rfl | exact Or.inr (Or.inl rfl) | exact Or.inr (Or.inr rfl)) (by decide) (by decide)) se_int (fun _ _ => rfl)) (se_var (i := 2) rfl (by first | exact Or.inl rfl | exact Or.inr (Or.inl rfl) | exact Or.inr (Or.inr rfl)) (by decide) (by decide)) (fun ht hg => ps_asg ht hg) (fun ho hi hs => pg_sub ho hi hs))
    (ss_one (ss_if (st_cmp (sc_op (ops_eq gc.gx) (se_ix gc.gx (se_var (i := 1) rfl (by first | exact Or.inl rfl | exact Or.inr (Or.inl rfl) | exact Or.inr (Or.inr rfl)) (by decide) (by decide)) se_int (fun _ _ => rfl)) (se_str s1_eq)) rfl) (ss_one (ss_for gc.gx PassesOwn.never (si_seq gc.gx (se_ix gc.gx (se_var (i := 1) rfl (by first | exact Or.inl rfl | exact Or.inr (Or.inl rfl) | exact Or.inr (Or.inr rfl)) (by decide) (by decide)) se_int (fun _ _ => rfl))) (sg_name (i := 3) gc.gx rfl (by first | exact Or.inl rfl | exact Or.inr rfl) (by first | exact Or.inl rfl | exact Or.inr rfl)) (ss_one (ss_expr (se_meth gc (mok1 7 rfl) (se_var (i := 0) rfl (by first | exact Or.inl rfl | exact Or.inr (Or.inl rfl) | exact Or.inr (Or.inr rfl)) (by decide) (by decide)) (sa_cons (se_var (i := 3) rfl (by first | exact Or.inl rfl | exact Or.inr (Or.inl rfl) | exact Or.inr (Or.inr rfl)) (by decide) (by decide)) (sa_cons (se_ix gc.gx (se_var (i := 1) rfl (by first | exact Or.inl rfl | exact Or.inr (Or.inl rfl) | exact Or.inr (Or.inr rfl)) (by decide) (by decide)) se_int (fun _ _ => rfl)) sa_nil rfl) rfl) (fun ho ha c hm F hr hb hd => pe_meth ho c hm F hr hb hd pass0 ha)) rfl)) (by intro _; rfl))) ss_nil))))
theorem sc12 : FnScope N12 ps12 (defScope (inClass (top 27) 2)) := ⟨rfl, rfl, rfl, by decide +kernel, rfl, by decide +kernel, by decide +kernel⟩
theorem b12 {base : Heap} {f : Addr} {cdv : Value} {A : Around} {outer : List Env} {s : Shared} {H : Hp} {E : XK} {C : CO} {k : Nat} (gc : GC (G0 K) (XX P w K mg base N12 "House.state" (defScope (inClass (top 27) 2)) f cdv A outer s H E) C k (T0 K)) :
    SSs (G0 K) (XX P w K mg base N12 "House.state" (defScope (inClass (top 27) 2)) f cdv A outer s H E) (defBody (inClass (top 27) 2)) (f12 C) :=
  (ss_cons (ss_lock (lk := lkF 0 6) (ss_setDc (own := [("name", 2)]) (i := 1) gc rfl rfl rfl (blkOk_by (N := N12) (own := [("name", 2)]) (sc := defScope (inClass (top 27) 2)) (by decide +kernel)) (si_keys gc.gx (se_fld (j := 6) gc.gx (se_var (i := 0) rfl (by first | exact Or.inl rfl | exact Or.inr (Or.inl rfl) | exact Or.inr (Or.inr rfl)) (by decide) (by decide)) rfl rfl)) (fun s0 H0 C0 cl0 fp0 gc => (sg_name (i := 2) gc.gx rfl (by first | exact Or.inl rfl | exact Or.inr rfl) (by first | exact Or.inl rfl | exact Or.inr rfl))) sif_none (fun s0 H0 C0 cl0 fp0 gc => (se_var (i := 2) rfl (by first | exact Or.inl rfl | exact Or.inr (Or.inl rfl) | exact Or.inr (Or.inr rfl)) (by decide) (by decide))) (fun s0 H0 C0 cl0 fp0 gc => (se_ty (id := "list") (calls_list gc.gx) rfl (gc.fr 2 _ rfl) (by decide +kernel) (sa_cons (se_ix gc.gx (se_fld (j := 6) gc.gx (se_var (i := 0) rfl (by first | exact Or.inl rfl | exact Or.inr (Or.inl rfl) | exact Or.inr (Or.inr rfl)) (by decide) (by decide)) rfl rfl) (se_var (i := 2) rfl (by first | exact Or.inl rfl | exact Or.inr (Or.inl rfl) | exact Or.inr (Or.inr rfl)) (by decide) (by decide)) (fun _ _ => rfl)) sa_nil rfl) (by decide) (by decide) rfl rfl)) (by decide) (by intro _; rfl)))
    (ss_one (ss_ret (se_tup (sa_cons (se_fld (j := 4) gc.gx (se_var (i := 0) rfl (by first | exact Or.inl rfl | exact Or.inr (Or.inl rfl) | exact Or.inr (Or.inr rfl)) (by decide) (by decide)) rfl rfl) (sa_cons (se_ty (id := "dict") calls_dict1 rfl (gc.fr 6 _ rfl) (by decide +kernel) (sa_cons (se_fld (j := 5) gc.gx (se_var (i := 0) rfl (by first | exact Or.inl rfl | exact Or.inr (Or.inl rfl) | exact Or.inr (Or.inr rfl)) (by decide) (by decide)) rfl rfl) sa_nil rfl) (by decide) (by decide) rfl rfl) (sa_cons (se_var (i := 1) rfl (by first | exact Or.inl rfl | exact Or.inr (Or.inl rfl) | exact Or.inr (Or.inr rfl)) (by decide) (by decide)) (sa_cons (se_ty (id := "list") (calls_list gc.gx) rfl (gc.fr 2 _ rfl) (by decide +kernel) (sa_cons (se_fld (j := 7) gc.gx (se_var (i := 0) rfl (by first | exact Or.inl rfl | exact Or.inr (Or.inl rfl) | exact Or.inr (Or.inr rfl)) (by decide) (by decide)) rfl rfl) sa_nil rfl) (by decide) (by decide) rfl rfl) (sa_cons (se_fld (j := 8) gc.gx (se_var (i := 0) rfl (by first | exact Or.inl rfl | exact Or.inr (Or.inl rfl) | exact Or.inr (Or.inr rfl)) (by decide) (by decide)) rfl rfl) sa_nil rfl) rfl) rfl) rfl) rfl)))))
theorem sc13 : FnScope N13 ps13 (defScope (inClass (top 27) 3)) := ⟨rfl, rfl, rfl, by decide +kernel, rfl, by decide +kernel, by decide +kernel⟩
theorem b13 {base : Heap} {f : Addr} {cdv : Value} {A : Around} {outer : List Env} {s : Shared} {H : Hp} {E : XK} {C : CO} {k : Nat} (gc : GC (G0 K) (XX P w K mg base N13 "House.go_to" (defScope (inClass (top 27) 3)) f cdv A outer s H E) C k (T0 K)) :
    SSs (G0 K) (XX P w K mg base N13 "House.go_to" (defScope (inClass (top 27) 3)) f cdv A outer s H E) (defBody (inClass (top 27) 3)) (f13 C) :=
  (ss_cons (ss_if (st_not (st_tru gc.gx (se_call (j := 4) gc rfl rfl (sa_cons (se_var (i := 1) rfl (by first | exact Or.inl rfl | exact Or.inr (Or.inl rfl) | exact Or.inr (Or.inr rfl)) (by decide) (by decide)) (sa_cons (se_fld (j := 4) gc.gx (se_var (i := 0) rfl (by first | exact Or.inl rfl | exact Or.inr (Or.inl rfl) | exact Or.inr (Or.inr rfl)) (by decide) (by decide)) rfl rfl) (sa_cons (se_cv gc 0 rfl rfl (by decide)) sa_nil rfl) rfl) rfl) (by decide) rfl rfl) (by intro _; rfl))) (ss_one ss_never) ss_nil)
    (ss_cons (ss_expr (se_bm (k := .list) (id := "list.append") gc.gx mts_append (se_fld (j := 9) gc.gx (se_var (i := 0) rfl (by first | exact Or.inl rfl | exact Or.inr (Or.inl rfl) | exact Or.inr (Or.inr rfl)) (by decide) (by decide)) rfl rfl) (sa_cons (se_meth0 gc (mok1 8 rfl) (se_var (i := 0) rfl (by first | exact Or.inl rfl | exact Or.inr (Or.inl rfl) | exact Or.inr (Or.inr rfl)) (by decide) (by decide)) (fun ho c hm F hr hb hd => pe_meth0 ho c hm F hr hb hd pass0)) sa_nil rfl) (fun hm ho ha => pe_bm PySem.F.plainAttrs_list PySem.F.slot_list_append PySem.F.type_list_append hm ho ha)) rfl)
    (ss_one (ss_setFld (j := 4) gc.gx (se_var (i := 0) rfl (by first | exact Or.inl rfl | exact Or.inr (Or.inl rfl) | exact Or.inr (Or.inr rfl)) (by decide) (by decide)) (se_var (i := 1) rfl (by first | exact Or.inl rfl | exact Or.inr (Or.inl rfl) | exact Or.inr (Or.inr rfl)) (by decide) (by decide)) rfl rfl))))
theorem sc14 : FnScope N14 ps14 (defScope (inClass (top 27) 4)) := ⟨rfl, rfl, rfl, by decide +kernel, rfl, by decide +kernel, by decide +kernel⟩
theorem b14 {base : Heap} {f : Addr} {cdv : Value} {A : Around} {outer : List Env} {s : Shared} {H : Hp} {E : XK} {C : CO} {k : Nat} (gc : GC (G0 K) (XX P w K mg base N14 "House.stop_all" (defScope (inClass (top 27) 4)) f cdv A outer s H E) C k (T0 K)) :
    SSs (G0 K) (XX P w K mg base N14 "House.stop_all" (defScope (inClass (top 27) 4)) f cdv A outer s H E) (defBody (inClass (top 27) 4)) (f14 C) :=
  (ss_one (ss_for gc.gx PassesOwn.never (si_rev rfl (gc.fr 12 _ rfl) gc.gx (se_var (i := 1) rfl (by first | exact Or.inl rfl | exact Or.inr (Or.inl rfl) | exact Or.inr (Or.inr rfl)) (by decide) (by decide)) rfl) (sg_name (i := 2) gc.gx rfl (by first | exact Or.inl rfl | exact Or.inr rfl) (by first | exact Or.inl rfl | exact Or.inr rfl)) (ss_one (ss_for gc.gx PassesOwn.never (si_rev rfl (gc.fr 12 _ rfl) gc.gx (se_call (j := 9) gc rfl rfl (sa_cons (se_var (i := 2) rfl (by first | exact Or.inl rfl | exact Or.inr (Or.inl rfl) | exact Or.inr (Or.inr rfl)) (by decide) (by decide)) sa_nil rfl) (by decide) rfl rfl) rfl) (sg_name (i := 3) gc.gx rfl (by first | exact Or.inl rfl | exact Or.inr rfl) (by first | exact Or.inl rfl | exact Or.inr rfl)) (ss_one (ss_if (st_tru gc.gx (se_ix gc.gx (se_fld (j := 5) gc.gx (se_var (i := 0) rfl (by first | exact Or.inl rfl | exact Or.inr (Or.inl rfl) | exact Or.inr (Or.inr rfl)) (by decide) (by decide)) rfl rfl) (se_var (i := 3) rfl (by first | exact Or.inl rfl | exact Or.inr (Or.inl rfl) | exact Or.inr (Or.inr rfl)) (by decide) (by decide)) (fun _ _ => rfl)) (by intro _; rfl)) (ss_cons (ss_setIx gc.gx (se_fld (j := 5) gc.gx (se_var (i := 0) rfl (by first | exact Or.inl rfl | exact Or.inr (Or.inl rfl) | exact Or.inr (Or.inr rfl)) (by decide) (by decide)) rfl rfl) (se_var (i := 3) rfl (by first | exact Or.inl rfl | exact Or.inr (Or.inl rfl) | exact Or.inr (Or.inr rfl)) (by decide) (by decide)) se_bl (fun ht hg => ps_asg ht hg) (fun ho hi hs => pg_sub ho hi hs))
    (ss_one (ss_expr (se_bm (k := .list) (id := "list.append") gc.gx mts_append (se_fld (j := 7) gc.gx (se_var (i := 0) rfl (by first | exact Or.inl rfl | exact Or.inr (Or.inl rfl) | exact Or.inr (Or.inr rfl)) (by decide) (by decide)) rfl rfl) (sa_cons (se_tup (sa_cons (se_fld (j := 4) gc.gx (se_var (i := 0) rfl (by first | exact Or.inl rfl | exact Or.inr (Or.inl rfl) | exact Or.inr (Or.inr rfl)) (by decide) (by decide)) rfl rfl) (sa_cons (se_str s10_eq) (sa_cons (se_var (i := 3) rfl (by first | exact Or.inl rfl | exact Or.inr (Or.inl rfl) | exact Or.inr (Or.inr rfl)) (by decide) (by decide)) sa_nil rfl) rfl) rfl)) sa_nil rfl) (fun hm ho ha => pe_bm PySem.F.plainAttrs_list PySem.F.slot_list_append PySem.F.type_list_append hm ho ha)) rfl))) ss_nil)) (by intro _; rfl))) (by intro _; rfl)))
theorem sc15 : FnScope N15 ps15 (defScope (inClass (top 27) 5)) := ⟨rfl, rfl, rfl, by decide +kernel, rfl, by decide +kernel, by decide +kernel⟩
theorem b15 {base : Heap} {f : Addr} {cdv : Value} {A : Around} {outer : List Env} {s : Shared} {H : Hp} {E : XK} {C : CO} {k : Nat} (gc : GC (G0 K) (XX P w K mg base N15 "House.start_all" (defScope (inClass (top 27) 5)) f cdv A outer s H E) C k (T0 K)) :
    SSs (G0 K) (XX P w K mg base N15 "House.start_all" (defScope (inClass (top 27) 5)) f cdv A outer s H E) (defBody (inClass (top 27) 5)) (f15 C) :=
  (ss_one (ss_for gc.gx PassesOwn.never (si_seq gc.gx (se_var (i := 1) rfl (by first | exact Or.inl rfl | exact Or.inr (Or.inl rfl) | exact Or.inr (Or.inr rfl)) (by decide) (by decide))) (sg_name (i := 2) gc.gx rfl (by first | exact Or.inl rfl | exact Or.inr rfl) (by first | exact Or.inl rfl | exact Or.inr rfl)) (ss_cons (ss_for gc.gx PassesOwn.never (si_seq gc.gx (se_call (j := 7) gc rfl rfl (sa_cons (se_var (i := 2) rfl (by first | exact Or.inl rfl | exact Or.inr (Or.inl rfl) | exact Or.inr (Or.inr rfl)) (by decide) (by decide)) sa_nil rfl) (by decide) rfl rfl)) (sg_name (i := 3) gc.gx rfl (by first | exact Or.inl rfl | exact Or.inr rfl) (by first | exact Or.inl rfl | exact Or.inr rfl)) (ss_one (ss_setIx gc.gx (se_fld (j := 6) gc.gx (se_var (i := 0) rfl (by first | exact Or.inl rfl | exact Or.inr (Or.inl rfl) | exact Or.inr (Or.inr rfl)) (by decide) (by decide)) rfl rfl) (se_var (i := 3) rfl (by first | exact Or.inl rfl | exact Or.inr (Or.inl rfl) | exact Or.inr (Or.inr rfl)) (by decide) (by decide)) (se_lst sa_nil) (fun ht hg => ps_asg ht hg) (fun ho hi hs => pg_sub ho hi hs))) (by intro _; rfl))
    (ss_one (ss_for gc.gx PassesOwn.never (si_seq gc.gx (se_call (j := 9) gc rfl rfl (sa_cons (se_var (i := 2) rfl (by first | exact Or.inl rfl | exact Or.inr (Or.inl rfl) | exact Or.inr (Or.inr rfl)) (by decide) (by decide)) sa_nil rfl) (by decide) rfl rfl)) (sg_name (i := 3) gc.gx rfl (by first | exact Or.inl rfl | exact Or.inr rfl) (by first | exact Or.inl rfl | exact Or.inr rfl)) (ss_cons (ss_setIx gc.gx (se_fld (j := 5) gc.gx (se_var (i := 0) rfl (by first | exact Or.inl rfl | exact Or.inr (Or.inl rfl) | exact Or.inr (Or.inr rfl)) (by decide) (by decide)) rfl rfl) (se_var (i := 3) rfl (by first | exact Or.inl rfl | exact Or.inr (Or.inl rfl) | exact Or.inr (Or.inr rfl)) (by decide) (by decide)) se_bl (fun ht hg => ps_asg ht hg) (fun ho hi hs => pg_sub ho hi hs))
    (ss_one (ss_expr (se_bm (k := .list) (id := "list.append") gc.gx mts_append (se_fld (j := 7) gc.gx (se_var (i := 0) rfl (by first | exact Or.inl rfl | exact Or.inr (Or.inl rfl) | exact Or.inr (Or.inr rfl)) (by decide) (by decide)) rfl rfl) (sa_cons (se_tup (sa_cons (se_fld (j := 4) gc.gx (se_var (i := 0) rfl (by first | exact Or.inl rfl | exact Or.inr (Or.inl rfl) | exact Or.inr (Or.inr rfl)) (by decide) (by decide)) rfl rfl) (sa_cons (se_str s2_eq) (sa_cons (se_var (i := 3) rfl (by first | exact Or.inl rfl | exact Or.inr (Or.inl rfl) | exact Or.inr (Or.inr rfl)) (by decide) (by decide)) sa_nil rfl) rfl) rfl)) sa_nil rfl) (fun hm ho ha => pe_bm PySem.F.plainAttrs_list PySem.F.slot_list_append PySem.F.type_list_append hm ho ha)) rfl))) (by intro _; rfl)))) (by intro _; rfl)))
theorem sc16 : FnScope N16 ps16 (defScope (inClass (top 27) 6)) := ⟨rfl, rfl, rfl, by decide +kernel, rfl, by decide +kernel, by decide +kernel⟩
theorem b16 {base : Heap} {f : Addr} {cdv : Value} {A : Around} {outer : List Env} {s : Shared} {H : Hp} {E : XK} {C : CO} {k : Nat} (gc : GC (G0 K) (XX P w K mg base N16 "House.touched" (defScope (inClass (top 27) 6)) f cdv A outer s H E) C k (T0 K)) :
    SSs (G0 K) (XX P w K mg base N16 "House.touched" (defScope (inClass (top 27) 6)) f cdv A outer s H E) (defBody (inClass (top 27) 6)) (f16 C) :=
  (ss_cons (ss_set (i := 3) gc.gx rfl (by first | exact Or.inl rfl | exact Or.inr rfl) (se_ty (id := "list") (calls_list gc.gx) rfl (gc.fr 2 _ rfl) (by decide +kernel) (sa_cons (se_ix gc.gx (se_var (i := 1) rfl (by first | exact Or.inl rfl | exact Or.inr (Or.inl rfl) | exact Or.inr (Or.inr rfl)) (by decide) (by decide)) se_int (fun _ _ => rfl)) sa_nil rfl) (by decide) (by decide) rfl rfl) rfl (by first | exact Or.inl rfl | exact Or.inr rfl))
    (ss_cons (ss_set (i := 4) gc.gx rfl (by first | exact Or.inl rfl | exact Or.inr rfl) (se_bm (k := .list) (id := "list.index") gc.gx mts_index (se_lc (own := [("child", 5)]) gc (blkOk_by (N := N16) (own := [("child", 5)]) (sc := defScope (inClass (top 27) 6)) (by decide +kernel)) (si_seq gc.gx (se_var (i := 3) rfl (by first | exact Or.inl rfl | exact Or.inr (Or.inl rfl) | exact Or.inr (Or.inr rfl)) (by decide) (by decide))) (fun s0 H0 C0 cl0 fp0 gc => (sg_name (i := 5) gc.gx rfl (by first | exact Or.inl rfl | exact Or.inr rfl) (by first | exact Or.inl rfl | exact Or.inr rfl))) sif_none (fun s0 H0 C0 cl0 fp0 gc => (se_ix gc.gx (se_var (i := 5) rfl (by first | exact Or.inl rfl | exact Or.inr (Or.inl rfl) | exact Or.inr (Or.inr rfl)) (by decide) (by decide)) se_int (fun _ _ => rfl))) (by decide) (by intro _; rfl)) (sa_cons (se_var (i := 2) rfl (by first | exact Or.inl rfl | exact Or.inr (Or.inl rfl) | exact Or.inr (Or.inr rfl)) (by decide) (by decide)) sa_nil rfl) (fun hm ho ha => pe_bm PySem.F.plainAttrs_list PySem.F.slot_list_index PySem.F.type_list_index hm ho ha)) rfl (by first | exact Or.inl rfl | exact Or.inr rfl))
    (ss_cons (ss_if (st_cmp (sc_op (ops_eq gc.gx) (se_ix gc.gx (se_var (i := 1) rfl (by first | exact Or.inl rfl | exact Or.inr (Or.inl rfl) | exact Or.inr (Or.inr rfl)) (by decide) (by decide)) se_int (fun _ _ => rfl)) (se_str s7_eq)) rfl) (ss_one (ss_ret (se_sl gc.gx (se_var (i := 3) rfl (by first | exact Or.inl rfl | exact Or.inr (Or.inl rfl) | exact Or.inr (Or.inr rfl)) (by decide) (by decide)) (so_some (se_var (i := 4) rfl (by first | exact Or.inl rfl | exact Or.inr (Or.inl rfl) | exact Or.inr (Or.inr rfl)) (by decide) (by decide))) (so_some (se_bin (ops_add gc.gx) (se_var (i := 4) rfl (by first | exact Or.inl rfl | exact Or.inr (Or.inl rfl) | exact Or.inr (Or.inr rfl)) (by decide) (by decide)) se_int))))) ss_nil)
    (ss_one (ss_ret (se_if (st_cmp (sc_op (ops_eq gc.gx) (se_ix gc.gx (se_var (i := 1) rfl (by first | exact Or.inl rfl | exact Or.inr (Or.inl rfl) | exact Or.inr (Or.inr rfl)) (by decide) (by decide)) se_int (fun _ _ => rfl)) (se_str s6_eq)) rfl) (se_var (i := 3) rfl (by first | exact Or.inl rfl | exact Or.inr (Or.inl rfl) | exact Or.inr (Or.inr rfl)) (by decide) (by decide)) (se_sl gc.gx (se_var (i := 3) rfl (by first | exact Or.inl rfl | exact Or.inr (Or.inl rfl) | exact Or.inr (Or.inr rfl)) (by decide) (by decide)) (so_some (se_var (i := 4) rfl (by first | exact Or.inl rfl | exact Or.inr (Or.inl rfl) | exact Or.inr (Or.inr rfl)) (by decide) (by decide))) so_none)))))))
theorem sc17 : FnScope N17 ps17 (defScope (inClass (top 27) 7)) := ⟨rfl, rfl, rfl, by decide +kernel, rfl, by decide +kernel, by decide +kernel⟩
theorem b17 {base : Heap} {f : Addr} {cdv : Value} {A : Around} {outer : List Env} {s : Shared} {H : Hp} {E : XK} {C : CO} {k : Nat} (gc : GC (G0 K) (XX P w K mg base N17 "House.told" (defScope (inClass (top 27) 7)) f cdv A outer s H E) C k (T0 K)) :
    SSs (G0 K) (XX P w K mg base N17 "House.told" (defScope (inClass (top 27) 7)) f cdv A outer s H E) (defBody (inClass (top 27) 7)) (f17 C) :=
  (ss_cons (ss_set (i := 2) gc.gx rfl (by first | exact Or.inl rfl | exact Or.inr rfl) (se_ix gc.gx (se_fld (j := 3) gc.gx (se_var (i := 0) rfl (by first | exact Or.inl rfl | exact Or.inr (Or.inl rfl) | exact Or.inr (Or.inr rfl)) (by decide) (by decide)) rfl rfl) (se_var (i := 1) rfl (by first | exact Or.inl rfl | exact Or.inr (Or.inl rfl) | exact Or.inr (Or.inr rfl)) (by decide) (by decide)) (fun _ _ => rfl)) rfl (by first | exact Or.inl rfl | exact Or.inr rfl))
    (ss_cons (ss_if (st_cmp (sc_op ops_isN (se_var (i := 2) rfl (by first | exact Or.inl rfl | exact Or.inr (Or.inl rfl) | exact Or.inr (Or.inr rfl)) (by decide) (by decide)) se_non) rfl) (ss_cons (ss_setFld (j := 8) gc.gx (se_var (i := 0) rfl (by first | exact Or.inl rfl | exact Or.inr (Or.inl rfl) | exact Or.inr (Or.inr rfl)) (by decide) (by decide)) se_bl rfl rfl)
    (ss_one ss_retN)) ss_nil)
    (ss_cons (ss_set (i := 3) gc.gx rfl (by first | exact Or.inl rfl | exact Or.inr rfl) (se_ix gc.gx (se_fld (j := 2) gc.gx (se_var (i := 0) rfl (by first | exact Or.inl rfl | exact Or.inr (Or.inl rfl) | exact Or.inr (Or.inr rfl)) (by decide) (by decide)) rfl rfl) (se_var (i := 2) rfl (by first | exact Or.inl rfl | exact Or.inr (Or.inl rfl) | exact Or.inr (Or.inr rfl)) (by decide) (by decide)) (fun _ _ => rfl)) rfl (by first | exact Or.inl rfl | exact Or.inr rfl))
    (ss_cons (ss_set (i := 4) gc.gx rfl (by first | exact Or.inl rfl | exact Or.inr rfl) (se_bin (ops_add gc.gx) (se_lc (own := [("time", 5)]) gc (blkOk_by (N := N17) (own := [("time", 5)]) (sc := defScope (inClass (top 27) 7)) (by decide +kernel)) (si_seq gc.gx (se_ix gc.gx (se_fld (j := 6) gc.gx (se_var (i := 0) rfl (by first | exact Or.inl rfl | exact Or.inr (Or.inl rfl) | exact Or.inr (Or.inr rfl)) (by decide) (by decide)) rfl rfl) (se_var (i := 2) rfl (by first | exact Or.inl rfl | exact Or.inr (Or.inl rfl) | exact Or.inr (Or.inr rfl)) (by decide) (by decide)) (fun _ _ => rfl))) (fun s0 H0 C0 cl0 fp0 gc => (sg_name (i := 5) gc.gx rfl (by first | exact Or.inl rfl | exact Or.inr rfl) (by first | exact Or.inl rfl | exact Or.inr rfl))) (sif_oneC gc (fun s0 H0 C0 cl0 fp0 gc => (st_cmp (sc_op ops_gt (se_var (i := 5) rfl (by first | exact Or.inl rfl | exact Or.inr (Or.inl rfl) | exact Or.inr (Or.inr rfl)) (by decide) (by decide)) (se_bin ops_sub (se_fld (j := 4) gc.gx (se_var (i := 0) rfl (by first | exact Or.inl rfl | exact Or.inr (Or.inl rfl) | exact Or.inr (Or.inr rfl)) (by decide) (by decide)) rfl rfl) (se_ix gc.gx (se_var (i := 3) rfl (by first | exact Or.inl rfl | exact Or.inr (Or.inl rfl) | exact Or.inr (Or.inr rfl)) (by decide) (by decide)) se_int (fun _ _ => rfl)))) rfl))) (fun s0 H0 C0 cl0 fp0 gc => (se_var (i := 5) rfl (by first | exact Or.inl rfl | exact Or.inr (Or.inl rfl) | exact Or.inr (Or.inr rfl)) (by decide) (by decide))) (by decide) (by intro _; rfl)) (se_lst (sa_cons (se_fld (j := 4) gc.gx (se_var (i := 0) rfl (by first | exact Or.inl rfl | exact Or.inr (Or.inl rfl) | exact Or.inr (Or.inr rfl)) (by decide) (by decide)) rfl rfl) sa_nil rfl))) rfl (by first | exact Or.inl rfl | exact Or.inr rfl))
    (ss_cons (ss_setIx gc.gx (se_fld (j := 6) gc.gx (se_var (i := 0) rfl (by first | exact Or.inl rfl | exact Or.inr (Or.inl rfl) | exact Or.inr (Or.inr rfl)) (by decide) (by decide)) rfl rfl) (se_var (i := 2) rfl (by first | exact Or.inl rfl | exact Or.inr (Or.inl rfl) | exact Or.inr (Or.inr rfl)) (by decide) (by decide)) (se_var (i := 4) rfl (by first | exact Or.inl rfl | exact Or.inr (Or.inl rfl) | exact Or.inr (Or.inr rfl)) (by decide) (by decide)) (fun ht hg => ps_asg ht hg) (fun ho hi hs => pg_sub ho hi hs))
    (ss_one (ss_if (st_cmp (sc_op ops_gt (se_bi (id := "len") (calls_len gc.gx) rfl (gc.fr 0 _ rfl) (by decide +kernel) (sa_cons (se_var (i := 4) rfl (by first | exact Or.inl rfl | exact Or.inr (Or.inl rfl) | exact Or.inr (Or.inr rfl)) (by decide) (by decide)) sa_nil rfl) (by decide) (by decide) rfl rfl) (se_ix gc.gx (se_var (i := 3) rfl (by first | exact Or.inl rfl | exact Or.inr (Or.inl rfl) | exact Or.inr (Or.inr rfl)) (by decide) (by decide)) se_int (fun _ _ => rfl))) rfl) (ss_cons (ss_expr (se_meth gc (mok1 10 rfl) (se_var (i := 0) rfl (by first | exact Or.inl rfl | exact Or.inr (Or.inl rfl) | exact Or.inr (Or.inr rfl)) (by decide) (by decide)) (sa_cons (se_ty (id := "list") (calls_list gc.gx) rfl (gc.fr 2 _ rfl) (by decide +kernel) (sa_cons (se_ix gc.gx (se_var (i := 3) rfl (by first | exact Or.inl rfl | exact Or.inr (Or.inl rfl) | exact Or.inr (Or.inr rfl)) (by decide) (by decide)) se_int (fun _ _ => rfl)) sa_nil rfl) (by decide) (by decide) rfl rfl) sa_nil rfl) (fun ho ha c hm F hr hb hd => pe_meth ho c hm F hr hb hd pass0 ha)) rfl)
    (ss_cons (ss_expr (se_bm (k := .list) (id := "list.append") gc.gx mts_append (se_fld (j := 7) gc.gx (se_var (i := 0) rfl (by first | exact Or.inl rfl | exact Or.inr (Or.inl rfl) | exact Or.inr (Or.inr rfl)) (by decide) (by decide)) rfl rfl) (sa_cons (se_tup (sa_cons (se_fld (j := 4) gc.gx (se_var (i := 0) rfl (by first | exact Or.inl rfl | exact Or.inr (Or.inl rfl) | exact Or.inr (Or.inr rfl)) (by decide) (by decide)) rfl rfl) (sa_cons (se_str s9_eq) (sa_cons (se_var (i := 2) rfl (by first | exact Or.inl rfl | exact Or.inr (Or.inl rfl) | exact Or.inr (Or.inr rfl)) (by decide) (by decide)) sa_nil rfl) rfl) rfl)) sa_nil rfl) (fun hm ho ha => pe_bm PySem.F.plainAttrs_list PySem.F.slot_list_append PySem.F.type_list_append hm ho ha)) rfl)
    (ss_one (ss_expr (se_meth gc (mok1 9 rfl) (se_var (i := 0) rfl (by first | exact Or.inl rfl | exact Or.inr (Or.inl rfl) | exact Or.inr (Or.inr rfl)) (by decide) (by decide)) (sa_cons (se_var (i := 2) rfl (by first | exact Or.inl rfl | exact Or.inr (Or.inl rfl) | exact Or.inr (Or.inr rfl)) (by decide) (by decide)) sa_nil rfl) (fun ho ha c hm F hr hb hd => pe_meth ho c hm F hr hb hd pass0 ha)) rfl)))) (ss_cons (ss_set (i := 6) gc.gx rfl (by first | exact Or.inl rfl | exact Or.inr rfl) (se_meth gc (mok1 12 rfl) (se_var (i := 0) rfl (by first | exact Or.inl rfl | exact Or.inr (Or.inl rfl) | exact Or.inr (Or.inr rfl)) (by decide) (by decide)) (sa_cons (se_var (i := 3) rfl (by first | exact Or.inl rfl | exact Or.inr (Or.inl rfl) | exact Or.inr (Or.inr rfl)) (by decide) (by decide)) (sa_cons (se_var (i := 1) rfl (by first | exact Or.inl rfl | exact Or.inr (Or.inl rfl) | exact Or.inr (Or.inr rfl)) (by decide) (by decide)) sa_nil rfl) rfl) (fun ho ha c hm F hr hb hd => pe_meth ho c hm F hr hb hd pass0 ha)) rfl (by first | exact Or.inl rfl | exact Or.inr rfl))
    (ss_cons (ss_expr (se_meth gc (mok1 10 rfl) (se_var (i := 0) rfl (by first | exact Or.inl rfl | exact Or.inr (Or.inl rfl) | exact Or.inr (Or.inr rfl)) (by decide) (by decide)) (sa_cons (se_var (i := 6) rfl (by first | exact Or.inl rfl | exact Or.inr (Or.inl rfl) | exact Or.inr (Or.inr rfl)) (by decide) (by decide)) sa_nil rfl) (fun ho ha c hm F hr hb hd => pe_meth ho c hm F hr hb hd pass0 ha)) rfl)
    (ss_one (ss_expr (se_meth gc (mok1 11 rfl) (se_var (i := 0) rfl (by first | exact Or.inl rfl | exact Or.inr (Or.inl rfl) | exact Or.inr (Or.inr rfl)) (by decide) (by decide)) (sa_cons (se_var (i := 6) rfl (by first | exact Or.inl rfl | exact Or.inr (Or.inl rfl) | exact Or.inr (Or.inr rfl)) (by decide) (by decide)) sa_nil rfl) (fun ho ha c hm F hr hb hd => pe_meth ho c hm F hr hb hd pass0 ha)) rfl)))))))))))
theorem sc18 : FnScope N18 ps18 (defScope (inClass (top 27) 8)) := ⟨rfl, rfl, rfl, by decide +kernel, rfl, by decide +kernel, by decide +kernel⟩
theorem b18 {base : Heap} {f : Addr} {cdv : Value} {A : Around} {outer : List Env} {s : Shared} {H : Hp} {E : XK} {C : CO} {k : Nat} (gc : GC (G0 K) (XX P w K mg base N18 "House.fall" (defScope (inClass (top 27) 8)) f cdv A outer s H E) C k (T0 K)) :
    SSs (G0 K) (XX P w K mg base N18 "House.fall" (defScope (inClass (top 27) 8)) f cdv A outer s H E) (defBody (inClass (top 27) 8)) (f18 C) :=
  (ss_cons (ss_if (st_w (sw_or (st_cmp (sc_notin gc.gx (se_var (i := 1) rfl (by first | exact Or.inl rfl | exact Or.inr (Or.inl rfl) | exact Or.inr (Or.inr rfl)) (by decide) (by decide)) (se_fld (j := 2) gc.gx (se_var (i := 0) rfl (by first | exact Or.inl rfl | exact Or.inr (Or.inl rfl) | exact Or.inr (Or.inr rfl)) (by decide) (by decide)) rfl rfl)) rfl) (sw_or1 (st_cmp (sc_op (ops_ne gc.gx) (se_ix gc.gx (se_ix gc.gx (se_fld (j := 2) gc.gx (se_var (i := 0) rfl (by first | exact Or.inl rfl | exact Or.inr (Or.inl rfl) | exact Or.inr (Or.inr rfl)) (by decide) (by decide)) rfl rfl) (se_var (i := 1) rfl (by first | exact Or.inl rfl | exact Or.inr (Or.inl rfl) | exact Or.inr (Or.inr rfl)) (by decide) (by decide)) (fun _ _ => rfl)) se_int (fun _ _ => rfl)) (se_str s4_eq)) rfl)))) (ss_one ss_never) ss_nil)
    (ss_cons (ss_if (st_tru gc.gx (se_fld (j := 8) gc.gx (se_var (i := 0) rfl (by first | exact Or.inl rfl | exact Or.inr (Or.inl rfl) | exact Or.inr (Or.inr rfl)) (by decide) (by decide)) rfl rfl) (by intro _; rfl)) (ss_one ss_never) ss_nil)
    (ss_cons (ss_if (st_not (st_tru gc.gx (se_ix gc.gx (se_fld (j := 5) gc.gx (se_var (i := 0) rfl (by first | exact Or.inl rfl | exact Or.inr (Or.inl rfl) | exact Or.inr (Or.inr rfl)) (by decide) (by decide)) rfl rfl) (se_var (i := 1) rfl (by first | exact Or.inl rfl | exact Or.inr (Or.inl rfl) | exact Or.inr (Or.inr rfl)) (by decide) (by decide)) (fun _ _ => rfl)) (by intro _; rfl))) (ss_one ss_never) ss_nil)
    (ss_cons (ss_expr (se_bm (k := .list) (id := "list.append") gc.gx mts_append (se_fld (j := 9) gc.gx (se_var (i := 0) rfl (by first | exact Or.inl rfl | exact Or.inr (Or.inl rfl) | exact Or.inr (Or.inr rfl)) (by decide) (by decide)) rfl rfl) (sa_cons (se_meth0 gc (mok1 8 rfl) (se_var (i := 0) rfl (by first | exact Or.inl rfl | exact Or.inr (Or.inl rfl) | exact Or.inr (Or.inr rfl)) (by decide) (by decide)) (fun ho c hm F hr hb hd => pe_meth0 ho c hm F hr hb hd pass0)) sa_nil rfl) (fun hm ho ha => pe_bm PySem.F.plainAttrs_list PySem.F.slot_list_append PySem.F.type_list_append hm ho ha)) rfl)
    (ss_cons (ss_setIx gc.gx (se_fld (j := 5) gc.gx (se_var (i := 0) rfl (by first | exact Or.inl rfl | exact Or.inr (Or.inl rfl) | exact Or.inr (Or.inr rfl)) (by decide) (by decide)) rfl rfl) (se_var (i := 1) rfl (by first | exact Or.inl rfl | exact Or.inr (Or.inl rfl) | exact Or.inr (Or.inr rfl)) (by decide) (by decide)) se_bl (fun ht hg => ps_asg ht hg) (fun ho hi hs => pg_sub ho hi hs))
    (ss_cons (ss_expr (se_bm (k := .list) (id := "list.append") gc.gx mts_append (se_fld (j := 7) gc.gx (se_var (i := 0) rfl (by first | exact Or.inl rfl | exact Or.inr (Or.inl rfl) | exact Or.inr (Or.inr rfl)) (by decide) (by decide)) rfl rfl) (sa_cons (se_tup (sa_cons (se_fld (j := 4) gc.gx (se_var (i := 0) rfl (by first | exact Or.inl rfl | exact Or.inr (Or.inl rfl) | exact Or.inr (Or.inr rfl)) (by decide) (by decide)) rfl rfl) (sa_cons (se_str s3_eq) (sa_cons (se_var (i := 1) rfl (by first | exact Or.inl rfl | exact Or.inr (Or.inl rfl) | exact Or.inr (Or.inr rfl)) (by decide) (by decide)) sa_nil rfl) rfl) rfl)) sa_nil rfl) (fun hm ho ha => pe_bm PySem.F.plainAttrs_list PySem.F.slot_list_append PySem.F.type_list_append hm ho ha)) rfl)
    (ss_one (ss_expr (se_meth gc (mok1 9 rfl) (se_var (i := 0) rfl (by first | exact Or.inl rfl | exact Or.inr (Or.inl rfl) | exact Or.inr (Or.inr rfl)) (by decide) (by decide)) (sa_cons (se_var (i := 1) rfl (by first | exact Or.inl rfl | exact Or.inr (Or.inl rfl) | exact Or.inr (Or.inr rfl)) (by decide) (by decide)) sa_nil rfl) (fun ho ha c hm F hr hb hd => pe_meth ho c hm F hr hb hd pass0 ha)) rfl))))))))
theorem sc20 : FnScope N20 ps20 (defScope (inClass (top 27) 10)) := ⟨rfl, rfl, rfl, by decide +kernel, rfl, by decide +kernel, by decide +kernel⟩
theorem b20 {base : Heap} {f : Addr} {cdv : Value} {A : Around} {outer : List Env} {s : Shared} {H : Hp} {E : XK} {C : CO} {k : Nat} (gc : GC (G0 K) (XX P w K mg base N20 "House.now" (defScope (inClass (top 27) 10)) f cdv A outer s H E) C k (T0 K)) :
    SSs (G0 K) (XX P w K mg base N20 "House.now" (defScope (inClass (top 27) 10)) f cdv A outer s H E) (defBody (inClass (top 27) 10)) (f20 C) :=
  (ss_one (ss_ret (se_fld (j := 4) gc.gx (se_var (i := 0) rfl (by first | exact Or.inl rfl | exact Or.inr (Or.inl rfl) | exact Or.inr (Or.inr rfl)) (by decide) (by decide)) rfl rfl)))
theorem sc21 : FnScope N21 ps21 (defScope (inClass (top 27) 11)) := ⟨rfl, rfl, rfl, by decide +kernel, rfl, by decide +kernel, by decide +kernel⟩
theorem b21 {base : Heap} {f : Addr} {cdv : Value} {A : Around} {outer : List Env} {s : Shared} {H : Hp} {E : XK} {C : CO} {k : Nat} (gc : GC (G0 K) (XX P w K mg base N21 "House.running" (defScope (inClass (top 27) 11)) f cdv A outer s H E) C k (T0 K)) :
    SSs (G0 K) (XX P w K mg base N21 "House.running" (defScope (inClass (top 27) 11)) f cdv A outer s H E) (defBody (inClass (top 27) 11)) (f21 C) :=
  (ss_one (ss_ret (se_lc (own := [("name", 1)]) gc (blkOk_by (N := N21) (own := [("name", 1)]) (sc := defScope (inClass (top 27) 11)) (by decide +kernel)) (si_seq gc.gx (se_call (j := 9) gc rfl rfl (sa_cons (se_fld (j := 1) gc.gx (se_var (i := 0) rfl (by first | exact Or.inl rfl | exact Or.inr (Or.inl rfl) | exact Or.inr (Or.inr rfl)) (by decide) (by decide)) rfl rfl) sa_nil rfl) (by decide) rfl rfl)) (fun s0 H0 C0 cl0 fp0 gc => (sg_name (i := 1) gc.gx rfl (by first | exact Or.inl rfl | exact Or.inr rfl) (by first | exact Or.inl rfl | exact Or.inr rfl))) (sif_oneC gc (fun s0 H0 C0 cl0 fp0 gc => (st_tru gc.gx (se_ix gc.gx (se_fld (j := 5) gc.gx (se_var (i := 0) rfl (by first | exact Or.inl rfl | exact Or.inr (Or.inl rfl) | exact Or.inr (Or.inr rfl)) (by decide) (by decide)) rfl rfl) (se_var (i := 1) rfl (by first | exact Or.inl rfl | exact Or.inr (Or.inl rfl) | exact Or.inr (Or.inr rfl)) (by decide) (by decide)) (fun _ _ => rfl)) (by intro _; rfl)))) (fun s0 H0 C0 cl0 fp0 gc => (se_var (i := 1) rfl (by first | exact Or.inl rfl | exact Or.inr (Or.inl rfl) | exact Or.inr (Or.inr rfl)) (by decide) (by decide))) (by decide) (by intro _; rfl))))
theorem sc22 : FnScope N22 ps22 (defScope (inClass (top 27) 12)) := ⟨rfl, rfl, rfl, by decide +kernel, rfl, by decide +kernel, by decide +kernel⟩
theorem b22 {base : Heap} {f : Addr} {cdv : Value} {A : Around} {outer : List Env} {s : Shared} {H : Hp} {E : XK} {C : CO} {k : Nat} (gc : GC (G0 K) (XX P w K mg base N22 "House.down" (defScope (inClass (top 27) 12)) f cdv A outer s H E) C k (T0 K)) :
    SSs (G0 K) (XX P w K mg base N22 "House.down" (defScope (inClass (top 27) 12)) f cdv A outer s H E) (defBody (inClass (top 27) 12)) (f22 C) :=
  (ss_one (ss_ret (se_fld (j := 8) gc.gx (se_var (i := 0) rfl (by first | exact Or.inl rfl | exact Or.inr (Or.inl rfl) | exact Or.inr (Or.inr rfl)) (by decide) (by decide)) rfl rfl)))
theorem sc23 : FnScope N23 ps23 (defScope (inClass (top 27) 13)) := ⟨rfl, rfl, rfl, by decide +kernel, rfl, by decide +kernel, by decide +kernel⟩
theorem b23 {base : Heap} {f : Addr} {cdv : Value} {A : Around} {outer : List Env} {s : Shared} {H : Hp} {E : XK} {C : CO} {k : Nat} (gc : GC (G0 K) (XX P w K mg base N23 "House.counted" (defScope (inClass (top 27) 13)) f cdv A outer s H E) C k (T0 K)) :
    SSs (G0 K) (XX P w K mg base N23 "House.counted" (defScope (inClass (top 27) 13)) f cdv A outer s H E) (defBody (inClass (top 27) 13)) (f23 C) :=
  (ss_cons (ss_if (st_w (sw_or (st_cmp (sc_notin gc.gx (se_var (i := 1) rfl (by first | exact Or.inl rfl | exact Or.inr (Or.inl rfl) | exact Or.inr (Or.inr rfl)) (by decide) (by decide)) (se_fld (j := 2) gc.gx (se_var (i := 0) rfl (by first | exact Or.inl rfl | exact Or.inr (Or.inl rfl) | exact Or.inr (Or.inr rfl)) (by decide) (by decide)) rfl rfl)) rfl) (sw_or1 (st_cmp (sc_op (ops_ne gc.gx) (se_ix gc.gx (se_ix gc.gx (se_fld (j := 2) gc.gx (se_var (i := 0) rfl (by first | exact Or.inl rfl | exact Or.inr (Or.inl rfl) | exact Or.inr (Or.inr rfl)) (by decide) (by decide)) rfl rfl) (se_var (i := 1) rfl (by first | exact Or.inl rfl | exact Or.inr (Or.inl rfl) | exact Or.inr (Or.inr rfl)) (by decide) (by decide)) (fun _ _ => rfl)) se_int (fun _ _ => rfl)) (se_str s1_eq)) rfl)))) (ss_one ss_never) ss_nil)
    (ss_one (ss_ret (se_bi (id := "len") (calls_len gc.gx) rfl (gc.fr 0 _ rfl) (by decide +kernel) (sa_cons (se_lc (own := [("time", 2)]) gc (blkOk_by (N := N23) (own := [("time", 2)]) (sc := defScope (inClass (top 27) 13)) (by decide +kernel)) (si_seq gc.gx (se_ix gc.gx (se_fld (j := 6) gc.gx (se_var (i := 0) rfl (by first | exact Or.inl rfl | exact Or.inr (Or.inl rfl) | exact Or.inr (Or.inr rfl)) (by decide) (by decide)) rfl rfl) (se_var (i := 1) rfl (by first | exact Or.inl rfl | exact Or.inr (Or.inl rfl) | exact Or.inr (Or.inr rfl)) (by decide) (by decide)) (fun _ _ => rfl))) (fun s0 H0 C0 cl0 fp0 gc => (sg_name (i := 2) gc.gx rfl (by first | exact Or.inl rfl | exact Or.inr rfl) (by first | exact Or.inl rfl | exact Or.inr rfl))) (sif_oneC gc (fun s0 H0 C0 cl0 fp0 gc => (st_cmp (sc_op ops_gt (se_var (i := 2) rfl (by first | exact Or.inl rfl | exact Or.inr (Or.inl rfl) | exact Or.inr (Or.inr rfl)) (by decide) (by decide)) (se_bin ops_sub (se_fld (j := 4) gc.gx (se_var (i := 0) rfl (by first | exact Or.inl rfl | exact Or.inr (Or.inl rfl) | exact Or.inr (Or.inr rfl)) (by decide) (by decide)) rfl rfl) (se_ix gc.gx (se_ix gc.gx (se_fld (j := 2) gc.gx (se_var (i := 0) rfl (by first | exact Or.inl rfl | exact Or.inr (Or.inl rfl) | exact Or.inr (Or.inr rfl)) (by decide) (by decide)) rfl rfl) (se_var (i := 1) rfl (by first | exact Or.inl rfl | exact Or.inr (Or.inl rfl) | exact Or.inr (Or.inr rfl)) (by decide) (by decide)) (fun _ _ => rfl)) se_int (fun _ _ => rfl)))) rfl))) (fun s0 H0 C0 cl0 fp0 gc => (se_var (i := 2) rfl (by first | exact Or.inl rfl | exact Or.inr (Or.inl rfl) | exact Or.inr (Or.inr rfl)) (by decide) (by decide))) (by decide) (by intro _; rfl)) sa_nil rfl) (by decide) (by decide) rfl rfl))))
theorem sc24 : FnScope N24 ps24 (defScope (inClass (top 27) 14)) := ⟨rfl, rfl, rfl, by decide +kernel, rfl, by decide +kernel, by decide +kernel⟩
theorem b24 {base : Heap} {f : Addr} {cdv : Value} {A : Around} {outer : List Env} {s : Shared} {H : Hp} {E : XK} {C : CO} {k : Nat} (gc : GC (G0 K) (XX P w K mg base N24 "House.log" (defScope (inClass (top 27) 14)) f cdv A outer s H E) C k (T0 K)) :
    SSs (G0 K) (XX P w K mg base N24 "House.log" (defScope (inClass (top 27) 14)) f cdv A outer s H E) (defBody (inClass (top 27) 14)) (f24 C) :=
  (ss_one (ss_ret (se_ty (id := "list") (calls_list gc.gx) rfl (gc.fr 2 _ rfl) (by decide +kernel) (sa_cons (se_fld (j := 7) gc.gx (se_var (i := 0) rfl (by first | exact Or.inl rfl | exact Or.inr (Or.inl rfl) | exact Or.inr (Or.inr rfl)) (by decide) (by decide)) rfl rfl) sa_nil rfl) (by decide) (by decide) rfl rfl)))
theorem sc28 : FnScope N28 ps28 (defScope (top 29)) := ⟨rfl, rfl, rfl, by decide +kernel, rfl, by decide +kernel, by decide +kernel⟩
theorem b28 {base : Heap} {f : Addr} {cdv : Value} {A : Around} {outer : List Env} {s : Shared} {H : Hp} {E : XK} {C : CO} {k : Nat} (gc : GC (G0 K) (XX P w K mg base N28 "_law_well" (defScope (top 29)) f cdv A outer s H E) C k (T0 K)) :
    SSs (G0 K) (XX P w K mg base N28 "_law_well" (defScope (top 29)) f cdv A outer s H E) (defBody (top 29)) (f28 C) :=
  (ss_cons (ss_if (st_cmp (sc_op ops_ge (se_var (i := 0) rfl (by first | exact Or.inl rfl | exact Or.inr (Or.inl rfl) | exact Or.inr (Or.inr rfl)) (by decide) (by decide)) (se_bin ops_pow se_int se_int)) rfl) (ss_one (ss_ret (se_lst (sa_cons (se_bin ops_sub (se_var (i := 0) rfl (by first | exact Or.inl rfl | exact Or.inr (Or.inl rfl) | exact Or.inr (Or.inr rfl)) (by decide) (by decide)) (se_bin ops_pow se_int se_int)) (sa_cons (se_bin ops_mod (se_var (i := 0) rfl (by first | exact Or.inl rfl | exact Or.inr (Or.inl rfl) | exact Or.inr (Or.inr rfl)) (by decide) (by decide)) se_int) (sa_cons (se_var (i := 1) rfl (by first | exact Or.inl rfl | exact Or.inr (Or.inl rfl) | exact Or.inr (Or.inr rfl)) (by decide) (by decide)) sa_nil rfl) rfl) rfl)))) ss_nil)
    (ss_one (ss_ret (se_lst (sa_cons se_int (sa_cons (se_bin ops_mod (se_var (i := 0) rfl (by first | exact Or.inl rfl | exact Or.inr (Or.inl rfl) | exact Or.inr (Or.inr rfl)) (by decide) (by decide)) se_int) (sa_cons (se_var (i := 1) rfl (by first | exact Or.inl rfl | exact Or.inr (Or.inl rfl) | exact Or.inr (Or.inr rfl)) (by decide) (by decide)) sa_nil rfl) rfl) rfl)))))
theorem sc29 : FnScope N29 ps29 (defScope (top 30)) := ⟨rfl, rfl, rfl, by decide +kernel, rfl, by decide +kernel, by decide +kernel⟩
theorem b29 {base : Heap} {f : Addr} {cdv : Value} {A : Around} {outer : List Env} {s : Shared} {H : Hp} {E : XK} {C : CO} {k : Nat} (gc : GC (G0 K) (XX P w K mg base N29 "_law_take" (defScope (top 30)) f cdv A outer s H E) C k (T0 K)) :
    SSs (G0 K) (XX P w K mg base N29 "_law_take" (defScope (top 30)) f cdv A outer s H E) (defBody (top 30)) (f29 C) :=
  (ss_cons (ss_if (st_cmp (sc_op ops_gt (se_ix gc.gx (se_var (i := 0) rfl (by first | exact Or.inl rfl | exact Or.inr (Or.inl rfl) | exact Or.inr (Or.inr rfl)) (by decide) (by decide)) se_int (fun _ _ => rfl)) se_int) rfl) (ss_cons (ss_set (i := 2) gc.gx rfl (by first | exact Or.inl rfl | exact Or.inr rfl) (se_bin ops_mod (se_ix gc.gx (se_var (i := 0) rfl (by first | exact Or.inl rfl | exact Or.inr (Or.inl rfl) | exact Or.inr (Or.inr rfl)) (by decide) (by decide)) se_int (fun _ _ => rfl)) (se_var (i := 1) rfl (by first | exact Or.inl rfl | exact Or.inr (Or.inl rfl) | exact Or.inr (Or.inr rfl)) (by decide) (by decide))) rfl (by first | exact Or.inl rfl | exact Or.inr rfl))
    (ss_cons (ss_setIx gc.gx (se_var (i := 0) rfl (by first | exact Or.inl rfl | exact Or.inr (Or.inl rfl) | exact Or.inr (Or.inr rfl)) (by decide) (by decide)) se_int (se_bin ops_div (se_ix gc.gx (se_var (i := 0) rfl (by first | exact Or.inl rfl | exact Or.inr (Or.inl rfl) | exact Or.inr (Or.inr rfl)) (by decide) (by decide)) se_int (fun _ _ => rfl)) (se_var (i := 1) rfl (by first | exact Or.inl rfl | exact Or.inr (Or.inl rfl) | exact Or.inr (Or.inr rfl)) (by decide) (by decide))) (fun ht hg => ps_asg ht hg) (fun ho hi hs => pg_sub ho hi hs))
    (ss_one (ss_ret (se_var (i := 2) rfl (by first | exact Or.inl rfl | exact Or.inr (Or.inl rfl) | exact Or.inr (Or.inr rfl)) (by decide) (by decide)))))) ss_nil)
    (ss_cons (ss_setIx gc.gx (se_var (i := 0) rfl (by first | exact Or.inl rfl | exact Or.inr (Or.inl rfl) | exact Or.inr (Or.inr rfl)) (by decide) (by decide)) se_int (se_bin (ops_add gc.gx) (se_ix gc.gx (se_var (i := 0) rfl (by first | exact Or.inl rfl | exact Or.inr (Or.inl rfl) | exact Or.inr (Or.inr rfl)) (by decide) (by decide)) se_int (fun _ _ => rfl)) se_int) (fun ht hg => ps_asg ht hg) (fun ho hi hs => pg_sub ho hi hs))
    (ss_cons (ss_set (i := 3) gc.gx rfl (by first | exact Or.inl rfl | exact Or.inr rfl) se_int rfl (by first | exact Or.inl rfl | exact Or.inr rfl))
    (ss_cons (ss_set (i := 4) gc.gx rfl (by first | exact Or.inl rfl | exact Or.inr rfl) (se_bin ops_mod (se_bin (ops_add gc.gx) (se_ix gc.gx (se_var (i := 0) rfl (by first | exact Or.inl rfl | exact Or.inr (Or.inl rfl) | exact Or.inr (Or.inr rfl)) (by decide) (by decide)) se_int (fun _ _ => rfl)) (se_bin ops_mul se_int (se_ix gc.gx (se_var (i := 0) rfl (by first | exact Or.inl rfl | exact Or.inr (Or.inl rfl) | exact Or.inr (Or.inr rfl)) (by decide) (by decide)) se_int (fun _ _ => rfl)))) (se_var (i := 3) rfl (by first | exact Or.inl rfl | exact Or.inr (Or.inl rfl) | exact Or.inr (Or.inr rfl)) (by decide) (by decide))) rfl (by first | exact Or.inl rfl | exact Or.inr rfl))
    (ss_cons (ss_set (i := 4) gc.gx rfl (by first | exact Or.inl rfl | exact Or.inr rfl) (se_bin ops_mod (se_bin (ops_add gc.gx) (se_bin (ops_add gc.gx) (se_bin ops_mul (se_var (i := 4) rfl (by first | exact Or.inl rfl | exact Or.inr (Or.inl rfl) | exact Or.inr (Or.inr rfl)) (by decide) (by decide)) (se_var (i := 4) rfl (by first | exact Or.inl rfl | exact Or.inr (Or.inl rfl) | exact Or.inr (Or.inr rfl)) (by decide) (by decide))) (se_bin ops_mul se_int (se_bin ops_pow (se_ix gc.gx (se_var (i := 0) rfl (by first | exact Or.inl rfl | exact Or.inr (Or.inl rfl) | exact Or.inr (Or.inr rfl)) (by decide) (by decide)) se_int (fun _ _ => rfl)) se_int))) se_int) (se_var (i := 3) rfl (by first | exact Or.inl rfl | exact Or.inr (Or.inl rfl) | exact Or.inr (Or.inr rfl)) (by decide) (by decide))) rfl (by first | exact Or.inl rfl | exact Or.inr rfl))
    (ss_one (ss_ret (se_bin ops_mod (se_bin ops_div (se_bin ops_mod (se_bin ops_pow (se_var (i := 4) rfl (by first | exact Or.inl rfl | exact Or.inr (Or.inl rfl) | exact Or.inr (Or.inr rfl)) (by decide) (by decide)) se_int) (se_var (i := 3) rfl (by first | exact Or.inl rfl | exact Or.inr (Or.inl rfl) | exact Or.inr (Or.inr rfl)) (by decide) (by decide))) se_int) (se_var (i := 1) rfl (by first | exact Or.inl rfl | exact Or.inr (Or.inl rfl) | exact Or.inr (Or.inr rfl)) (by decide) (by decide))))))))))
theorem sc30 : FnScope N30 ps30 (defScope (top 31)) := ⟨rfl, rfl, rfl, by decide +kernel, rfl, by decide +kernel, by decide +kernel⟩
theorem b30 {base : Heap} {f : Addr} {cdv : Value} {A : Around} {outer : List Env} {s : Shared} {H : Hp} {E : XK} {C : CO} {k : Nat} (gc : GC (G0 K) (XX P w K mg base N30 "_law_bags" (defScope (top 31)) f cdv A outer s H E) C k (T0 K)) :
    SSs (G0 K) (XX P w K mg base N30 "_law_bags" (defScope (top 31)) f cdv A outer s H E) (defBody (top 31)) (f30 C) :=
  (ss_one (ss_ret (se_lc (own := [("k", 2), ("cell", 3)]) gc (blkOk_by (N := N30) (own := [("k", 2), ("cell", 3)]) (sc := defScope (top 31)) (by decide +kernel)) (si_enum gc.gx rfl (gc.fr 3 _ rfl) (se_bin (ops_add gc.gx) (se_sl gc.gx (se_var (i := 0) rfl (by first | exact Or.inl rfl | exact Or.inr (Or.inl rfl) | exact Or.inr (Or.inr rfl)) (by decide) (by decide)) so_none (so_some (se_var (i := 1) rfl (by first | exact Or.inl rfl | exact Or.inr (Or.inl rfl) | exact Or.inr (Or.inr rfl)) (by decide) (by decide)))) (se_lst (sa_cons se_int sa_nil rfl))) rfl rfl) (fun s0 H0 C0 cl0 fp0 gc => (sg_tup gc.gx (sgs_cons (sg_name (i := 2) gc.gx rfl (by first | exact Or.inl rfl | exact Or.inr rfl) (by first | exact Or.inl rfl | exact Or.inr rfl)) (sgs_cons (sg_name (i := 3) gc.gx rfl (by first | exact Or.inl rfl | exact Or.inr rfl) (by first | exact Or.inl rfl | exact Or.inr rfl)) sgs_nil rfl) rfl) rfl rfl)) sif_none (fun s0 H0 C0 cl0 fp0 gc => (se_call (j := 28) gc rfl rfl (sa_cons (se_var (i := 3) rfl (by first | exact Or.inl rfl | exact Or.inr (Or.inl rfl) | exact Or.inr (Or.inr rfl)) (by decide) (by decide)) (sa_cons (se_bin ops_mul se_int (se_var (i := 2) rfl (by first | exact Or.inl rfl | exact Or.inr (Or.inl rfl) | exact Or.inr (Or.inr rfl)) (by decide) (by decide))) sa_nil rfl) rfl) (by decide) rfl rfl)) (by decide) (by intro _; rfl))))
theorem sc31 : FnScope N31 ps31 (defScope (top 32)) := ⟨rfl, rfl, rfl, by decide +kernel, rfl, by decide +kernel, by decide +kernel⟩
theorem b31 {base : Heap} {f : Addr} {cdv : Value} {A : Around} {outer : List Env} {s : Shared} {H : Hp} {E : XK} {C : CO} {k : Nat} (gc : GC (G0 K) (XX P w K mg base N31 "_law_node" (defScope (top 32)) f cdv A outer s H E) C k (T0 K)) :
    SSs (G0 K) (XX P w K mg base N31 "_law_node" (defScope (top 32)) f cdv A outer s H E) (defBody (top 32)) (f31 C) :=
  (ss_cons (ss_set (i := 3) gc.gx rfl (by first | exact Or.inl rfl | exact Or.inr rfl) (se_ix gc.gx (se_str s8_eq) (se_bi (id := "len") (calls_len gc.gx) rfl (gc.fr 0 _ rfl) (by decide +kernel) (sa_cons (se_var (i := 2) rfl (by first | exact Or.inl rfl | exact Or.inr (Or.inl rfl) | exact Or.inr (Or.inr rfl)) (by decide) (by decide)) sa_nil rfl) (by decide) (by decide) rfl rfl) (fun _ _ => rfl)) rfl (by first | exact Or.inl rfl | exact Or.inr rfl))
    (ss_cons (ss_expr (se_bm (k := .list) (id := "list.append") gc.gx mts_append (se_var (i := 2) rfl (by first | exact Or.inl rfl | exact Or.inr (Or.inl rfl) | exact Or.inr (Or.inr rfl)) (by decide) (by decide)) (sa_cons (se_var (i := 3) rfl (by first | exact Or.inl rfl | exact Or.inr (Or.inl rfl) | exact Or.inr (Or.inr rfl)) (by decide) (by decide)) sa_nil rfl) (fun hm ho ha => pe_bm PySem.F.plainAttrs_list PySem.F.slot_list_append PySem.F.type_list_append hm ho ha)) rfl)
    (ss_cons (ss_if (st_w (sw_or (st_cmp (sc_op (ops_eq gc.gx) (se_var (i := 1) rfl (by first | exact Or.inl rfl | exact Or.inr (Or.inl rfl) | exact Or.inr (Or.inr rfl)) (by decide) (by decide)) se_int) rfl) (sw_or (st_cmp (sc_op ops_gt (se_bi (id := "len") (calls_len gc.gx) rfl (gc.fr 0 _ rfl) (by decide +kernel) (sa_cons (se_var (i := 2) rfl (by first | exact Or.inl rfl | exact Or.inr (Or.inl rfl) | exact Or.inr (Or.inr rfl)) (by decide) (by decide)) sa_nil rfl) (by decide) (by decide) rfl rfl) se_int) rfl) (sw_or1 (st_w (sw_and (st_cmp (sc_op ops_gt (se_bi (id := "len") (calls_len gc.gx) rfl (gc.fr 0 _ rfl) (by decide +kernel) (sa_cons (se_var (i := 2) rfl (by first | exact Or.inl rfl | exact Or.inr (Or.inl rfl) | exact Or.inr (Or.inr rfl)) (by decide) (by decide)) sa_nil rfl) (by decide) (by decide) rfl rfl) se_int) rfl) (sw_and1 (st_cmp (sc_op ops_gt (se_call (j := 29) gc rfl rfl (sa_cons (se_var (i := 0) rfl (by first | exact Or.inl rfl | exact Or.inr (Or.inl rfl) | exact Or.inr (Or.inr rfl)) (by decide) (by decide)) (sa_cons se_int sa_nil rfl) rfl) (by decide) rfl rfl) se_int) rfl)))))))) (ss_one (ss_ret (se_tup (sa_cons (se_str s4_eq) (sa_cons (se_var (i := 3) rfl (by first | exact Or.inl rfl | exact Or.inr (Or.inl rfl) | exact Or.inr (Or.inr rfl)) (by decide) (by decide)) sa_nil rfl) rfl)))) ss_nil)
    (ss_cons (ss_set (i := 4) gc.gx rfl (by first | exact Or.inl rfl | exact Or.inr rfl) (se_ix gc.gx (se_lst (sa_cons (se_str s7_eq) (sa_cons (se_str s6_eq) (sa_cons (se_str s5_eq) sa_nil rfl) rfl) rfl)) (se_call (j := 29) gc rfl rfl (sa_cons (se_var (i := 0) rfl (by first | exact Or.inl rfl | exact Or.inr (Or.inl rfl) | exact Or.inr (Or.inr rfl)) (by decide) (by decide)) (sa_cons se_int sa_nil rfl) rfl) (by decide) rfl rfl) (fun _ _ => rfl)) rfl (by first | exact Or.inl rfl | exact Or.inr rfl))
    (ss_cons (ss_set (i := 5) gc.gx rfl (by first | exact Or.inl rfl | exact Or.inr rfl) (se_call (j := 29) gc rfl rfl (sa_cons (se_var (i := 0) rfl (by first | exact Or.inl rfl | exact Or.inr (Or.inl rfl) | exact Or.inr (Or.inr rfl)) (by decide) (by decide)) (sa_cons se_int sa_nil rfl) rfl) (by decide) rfl rfl) rfl (by first | exact Or.inl rfl | exact Or.inr rfl))
    (ss_cons (ss_set (i := 6) gc.gx rfl (by first | exact Or.inl rfl | exact Or.inr rfl) (se_bin (ops_add gc.gx) se_int (se_call (j := 29) gc rfl rfl (sa_cons (se_var (i := 0) rfl (by first | exact Or.inl rfl | exact Or.inr (Or.inl rfl) | exact Or.inr (Or.inr rfl)) (by decide) (by decide)) (sa_cons se_int sa_nil rfl) rfl) (by decide) rfl rfl)) rfl (by first | exact Or.inl rfl | exact Or.inr rfl))
    (ss_cons (ss_setLc (own := [("turn", 8)]) (i := 7) gc rfl rfl rfl (blkOk_by (N := N31) (own := [("turn", 8)]) (sc := defScope (top 32)) (by decide +kernel)) (si_range1 rfl (gc.fr 1 _ rfl) (sa_cons (se_bin (ops_add gc.gx) se_int (se_call (j := 29) gc rfl rfl (sa_cons (se_var (i := 0) rfl (by first | exact Or.inl rfl | exact Or.inr (Or.inl rfl) | exact Or.inr (Or.inr rfl)) (by decide) (by decide)) (sa_cons se_int sa_nil rfl) rfl) (by decide) rfl rfl)) sa_nil rfl) rfl) (fun s0 H0 C0 cl0 fp0 gc => (sg_name (i := 8) gc.gx rfl (by first | exact Or.inl rfl | exact Or.inr rfl) (by first | exact Or.inl rfl | exact Or.inr rfl))) sif_none (fun s0 H0 C0 cl0 fp0 gc => (se_call (j := 31) gc rfl rfl (sa_cons (se_var (i := 0) rfl (by first | exact Or.inl rfl | exact Or.inr (Or.inl rfl) | exact Or.inr (Or.inr rfl)) (by decide) (by decide)) (sa_cons (se_bin ops_sub (se_var (i := 1) rfl (by first | exact Or.inl rfl | exact Or.inr (Or.inl rfl) | exact Or.inr (Or.inr rfl)) (by decide) (by decide)) se_int) (sa_cons (se_var (i := 2) rfl (by first | exact Or.inl rfl | exact Or.inr (Or.inl rfl) | exact Or.inr (Or.inr rfl)) (by decide) (by decide)) sa_nil rfl) rfl) rfl) (by decide) rfl rfl)) (by decide) (by intro _; rfl))
    (ss_one (ss_ret (se_tup (sa_cons (se_str s1_eq) (sa_cons (se_var (i := 3) rfl (by first | exact Or.inl rfl | exact Or.inr (Or.inl rfl) | exact Or.inr (Or.inr rfl)) (by decide) (by decide)) (sa_cons (se_var (i := 4) rfl (by first | exact Or.inl rfl | exact Or.inr (Or.inl rfl) | exact Or.inr (Or.inr rfl)) (by decide) (by decide)) (sa_cons (se_var (i := 5) rfl (by first | exact Or.inl rfl | exact Or.inr (Or.inl rfl) | exact Or.inr (Or.inr rfl)) (by decide) (by decide)) (sa_cons (se_var (i := 6) rfl (by first | exact Or.inl rfl | exact Or.inr (Or.inl rfl) | exact Or.inr (Or.inr rfl)) (by decide) (by decide)) (sa_cons (se_ty (id := "tuple") (calls_tuple gc.gx) rfl (gc.fr 4 _ rfl) (by decide +kernel) (sa_cons (se_var (i := 7) rfl (by first | exact Or.inl rfl | exact Or.inr (Or.inl rfl) | exact Or.inr (Or.inr rfl)) (by decide) (by decide)) sa_nil rfl) (by decide) (by decide) rfl rfl) sa_nil rfl) rfl) rfl) rfl) rfl) rfl)))))))))))
theorem sc32 : FnScope N32 ps32 (defScope (top 33)) := ⟨rfl, rfl, rfl, by decide +kernel, rfl, by decide +kernel, by decide +kernel⟩
theorem b32 {base : Heap} {f : Addr} {cdv : Value} {A : Around} {outer : List Env} {s : Shared} {H : Hp} {E : XK} {C : CO} {k : Nat} (gc : GC (G0 K) (XX P w K mg base N32 "_law_workers" (defScope (top 33)) f cdv A outer s H E) C k (T0 K)) :
    SSs (G0 K) (XX P w K mg base N32 "_law_workers" (defScope (top 33)) f cdv A outer s H E) (defBody (top 33)) (f32 C) :=
  (ss_cons (ss_if (st_cmp (sc_op (ops_eq gc.gx) (se_ix gc.gx (se_var (i := 0) rfl (by first | exact Or.inl rfl | exact Or.inr (Or.inl rfl) | exact Or.inr (Or.inr rfl)) (by decide) (by decide)) se_int (fun _ _ => rfl)) (se_str s4_eq)) rfl) (ss_one (ss_ret (se_lst (sa_cons (se_ix gc.gx (se_var (i := 0) rfl (by first | exact Or.inl rfl | exact Or.inr (Or.inl rfl) | exact Or.inr (Or.inr rfl)) (by decide) (by decide)) se_int (fun _ _ => rfl)) sa_nil rfl)))) ss_nil)
    (ss_cons (ss_set (i := 1) gc.gx rfl (by first | exact Or.inl rfl | exact Or.inr rfl) (se_lst sa_nil) rfl (by first | exact Or.inl rfl | exact Or.inr rfl))
    (ss_cons (ss_for gc.gx PassesOwn.never (si_seq gc.gx (se_ix gc.gx (se_var (i := 0) rfl (by first | exact Or.inl rfl | exact Or.inr (Or.inl rfl) | exact Or.inr (Or.inr rfl)) (by decide) (by decide)) se_int (fun _ _ => rfl))) (sg_name (i := 2) gc.gx rfl (by first | exact Or.inl rfl | exact Or.inr rfl) (by first | exact Or.inl rfl | exact Or.inr rfl)) (ss_one (ss_set (i := 1) gc.gx rfl (by first | exact Or.inl rfl | exact Or.inr rfl) (se_bin (ops_add gc.gx) (se_var (i := 1) rfl (by first | exact Or.inl rfl | exact Or.inr (Or.inl rfl) | exact Or.inr (Or.inr rfl)) (by decide) (by decide)) (se_call (j := 32) gc rfl rfl (sa_cons (se_var (i := 2) rfl (by first | exact Or.inl rfl | exact Or.inr (Or.inl rfl) | exact Or.inr (Or.inr rfl)) (by decide) (by decide)) sa_nil rfl) (by decide) rfl rfl)) rfl (by first | exact Or.inl rfl | exact Or.inr rfl))) (by intro _; rfl))
    (ss_one (ss_ret (se_var (i := 1) rfl (by first | exact Or.inl rfl | exact Or.inr (Or.inl rfl) | exact Or.inr (Or.inr rfl)) (by decide) (by decide)))))))
theorem sc33 : FnScope N33 ps33 (defScope (top 34)) := ⟨rfl, rfl, rfl, by decide +kernel, rfl, by decide +kernel, by decide +kernel⟩
theorem b33 {base : Heap} {f : Addr} {cdv : Value} {A : Around} {outer : List Env} {s : Shared} {H : Hp} {E : XK} {C : CO} {k : Nat} (gc : GC (G0 K) (XX P w K mg base N33 "_law_nodes" (defScope (top 34)) f cdv A outer s H E) C k (T0 K)) :
    SSs (G0 K) (XX P w K mg base N33 "_law_nodes" (defScope (top 34)) f cdv A outer s H E) (defBody (top 34)) (f33 C) :=
  (ss_cons (ss_set (i := 1) gc.gx rfl (by first | exact Or.inl rfl | exact Or.inr rfl) (se_lst (sa_cons (se_var (i := 0) rfl (by first | exact Or.inl rfl | exact Or.inr (Or.inl rfl) | exact Or.inr (Or.inr rfl)) (by decide) (by decide)) sa_nil rfl)) rfl (by first | exact Or.inl rfl | exact Or.inr rfl))
    (ss_cons (ss_for gc.gx PassesOwn.never (si_seq gc.gx (se_if (st_cmp (sc_op (ops_eq gc.gx) (se_ix gc.gx (se_var (i := 0) rfl (by first | exact Or.inl rfl | exact Or.inr (Or.inl rfl) | exact Or.inr (Or.inr rfl)) (by decide) (by decide)) se_int (fun _ _ => rfl)) (se_str s1_eq)) rfl) (se_ix gc.gx (se_var (i := 0) rfl (by first | exact Or.inl rfl | exact Or.inr (Or.inl rfl) | exact Or.inr (Or.inr rfl)) (by decide) (by decide)) se_int (fun _ _ => rfl)) (se_lst sa_nil))) (sg_name (i := 2) gc.gx rfl (by first | exact Or.inl rfl | exact Or.inr rfl) (by first | exact Or.inl rfl | exact Or.inr rfl)) (ss_one (ss_set (i := 1) gc.gx rfl (by first | exact Or.inl rfl | exact Or.inr rfl) (se_bin (ops_add gc.gx) (se_var (i := 1) rfl (by first | exact Or.inl rfl | exact Or.inr (Or.inl rfl) | exact Or.inr (Or.inr rfl)) (by decide) (by decide)) (se_call (j := 33) gc rfl rfl (sa_cons (se_var (i := 2) rfl (by first | exact Or.inl rfl | exact Or.inr (Or.inl rfl) | exact Or.inr (Or.inr rfl)) (by decide) (by decide)) sa_nil rfl) (by decide) rfl rfl)) rfl (by first | exact Or.inl rfl | exact Or.inr rfl))) (by intro _; rfl))
    (ss_one (ss_ret (se_var (i := 1) rfl (by first | exact Or.inl rfl | exact Or.inr (Or.inl rfl) | exact Or.inr (Or.inr rfl)) (by decide) (by decide))))))
theorem sc34 : FnScope N34 ps34 (defScope (top 35)) := ⟨rfl, rfl, rfl, by decide +kernel, rfl, by decide +kernel, by decide +kernel⟩
theorem b34 {base : Heap} {f : Addr} {cdv : Value} {A : Around} {outer : List Env} {s : Shared} {H : Hp} {E : XK} {C : CO} {k : Nat} (gc : GC (G0 K) (XX P w K mg base N34 "_law_called" (defScope (top 35)) f cdv A outer s H E) C k (T0 K)) :
    SSs (G0 K) (XX P w K mg base N34 "_law_called" (defScope (top 35)) f cdv A outer s H E) (defBody (top 35)) (f34 C) :=
  (ss_cons (ss_if (st_cmp (sc_op (ops_eq gc.gx) (se_ix gc.gx (se_var (i := 0) rfl (by first | exact Or.inl rfl | exact Or.inr (Or.inl rfl) | exact Or.inr (Or.inr rfl)) (by decide) (by decide)) se_int (fun _ _ => rfl)) (se_str s4_eq)) rfl) (ss_one (ss_ret (se_tup (sa_cons (se_str s4_eq) (sa_cons (se_bin (ops_add gc.gx) (se_str s0_eq) (se_ix gc.gx (se_var (i := 0) rfl (by first | exact Or.inl rfl | exact Or.inr (Or.inl rfl) | exact Or.inr (Or.inr rfl)) (by decide) (by decide)) se_int (fun _ _ => rfl))) sa_nil rfl) rfl)))) ss_nil)
    (ss_one (ss_ret (se_bin (ops_add gc.gx) (se_bin (ops_add gc.gx) (se_tup (sa_cons (se_str s1_eq) (sa_cons (se_bin (ops_add gc.gx) (se_str s0_eq) (se_ix gc.gx (se_var (i := 0) rfl (by first | exact Or.inl rfl | exact Or.inr (Or.inl rfl) | exact Or.inr (Or.inr rfl)) (by decide) (by decide)) se_int (fun _ _ => rfl))) sa_nil rfl) rfl)) (se_sl gc.gx (se_var (i := 0) rfl (by first | exact Or.inl rfl | exact Or.inr (Or.inl rfl) | exact Or.inr (Or.inr rfl)) (by decide) (by decide)) (so_some se_int) (so_some se_int))) (se_tup (sa_cons (se_ty (id := "tuple") (calls_tuple gc.gx) rfl (gc.fr 4 _ rfl) (by decide +kernel) (sa_cons (se_lc (own := [("child", 1)]) gc (blkOk_by (N := N34) (own := [("child", 1)]) (sc := defScope (top 35)) (by decide +kernel)) (si_seq gc.gx (se_ix gc.gx (se_var (i := 0) rfl (by first | exact Or.inl rfl | exact Or.inr (Or.inl rfl) | exact Or.inr (Or.inr rfl)) (by decide) (by decide)) se_int (fun _ _ => rfl))) (fun s0 H0 C0 cl0 fp0 gc => (sg_name (i := 1) gc.gx rfl (by first | exact Or.inl rfl | exact Or.inr rfl) (by first | exact Or.inl rfl | exact Or.inr rfl))) sif_none (fun s0 H0 C0 cl0 fp0 gc => (se_call (j := 34) gc rfl rfl (sa_cons (se_var (i := 1) rfl (by first | exact Or.inl rfl | exact Or.inr (Or.inl rfl) | exact Or.inr (Or.inr rfl)) (by decide) (by decide)) sa_nil rfl) (by decide) rfl rfl)) (by decide) (by intro _; rfl)) sa_nil rfl) (by decide) (by decide) rfl rfl) sa_nil rfl))))))
theorem sc35 : FnScope N35 ps35 (defScope (top 36)) := ⟨rfl, rfl, rfl, by decide +kernel, rfl, by decide +kernel, by decide +kernel⟩
theorem b35 {base : Heap} {f : Addr} {cdv : Value} {A : Around} {outer : List Env} {s : Shared} {H : Hp} {E : XK} {C : CO} {k : Nat} (gc : GC (G0 K) (XX P w K mg base N35 "law" (defScope (top 36)) f cdv A outer s H E) C k (T0 K)) :
    SSs (G0 K) (XX P w K mg base N35 "law" (defScope (top 36)) f cdv A outer s H E) (defBody (top 36)) (f35 C) :=
  (ss_cons (ss_for gc.gx PassesOwn.never (si_seq gc.gx (se_call (j := 30) gc rfl rfl (sa_cons (se_var (i := 0) rfl (by first | exact Or.inl rfl | exact Or.inr (Or.inl rfl) | exact Or.inr (Or.inr rfl)) (by decide) (by decide)) (sa_cons se_int sa_nil rfl) rfl) (by decide) rfl rfl)) (sg_name (i := 1) gc.gx rfl (by first | exact Or.inl rfl | exact Or.inr rfl) (by first | exact Or.inl rfl | exact Or.inr rfl)) (ss_cons (ss_set (i := 2) gc.gx rfl (by first | exact Or.inl rfl | exact Or.inr rfl) (se_call (j := 31) gc rfl rfl (sa_cons (se_var (i := 1) rfl (by first | exact Or.inl rfl | exact Or.inr (Or.inl rfl) | exact Or.inr (Or.inr rfl)) (by decide) (by decide)) (sa_cons se_int (sa_cons (se_lst sa_nil) sa_nil rfl) rfl) rfl) (by decide) rfl rfl) rfl (by first | exact Or.inl rfl | exact Or.inr rfl))
    (ss_cons (ss_set (i := 3) gc.gx rfl (by first | exact Or.inl rfl | exact Or.inr rfl) (se_bin (ops_add gc.gx) se_int (se_call (j := 29) gc rfl rfl (sa_cons (se_var (i := 1) rfl (by first | exact Or.inl rfl | exact Or.inr (Or.inl rfl) | exact Or.inr (Or.inr rfl)) (by decide) (by decide)) (sa_cons (se_bin ops_pow se_int se_int) sa_nil rfl) rfl) (by decide) rfl rfl)) rfl (by first | exact Or.inl rfl | exact Or.inr rfl))
    (ss_cons (ss_par3 (i := 4) (j := 5) (l := 6) gc.gx rfl rfl rfl (by decide) (by decide) (by decide) rfl rfl rfl (sa_cons (se_make (c := 0) gc rfl rfl (sa_cons (se_var (i := 2) rfl (by first | exact Or.inl rfl | exact Or.inr (Or.inl rfl) | exact Or.inr (Or.inr rfl)) (by decide) (by decide)) sa_nil rfl) (by decide) rfl rfl) (sa_cons (se_make (c := 0) gc rfl rfl (sa_cons (se_var (i := 2) rfl (by first | exact Or.inl rfl | exact Or.inr (Or.inl rfl) | exact Or.inr (Or.inr rfl)) (by decide) (by decide)) sa_nil rfl) (by decide) rfl rfl) (sa_cons (se_make (c := 0) gc rfl rfl (sa_cons (se_call (j := 34) gc rfl rfl (sa_cons (se_var (i := 2) rfl (by first | exact Or.inl rfl | exact Or.inr (Or.inl rfl) | exact Or.inr (Or.inr rfl)) (by decide) (by decide)) sa_nil rfl) (by decide) rfl rfl) sa_nil rfl) (by decide) rfl rfl) sa_nil rfl) rfl) rfl) rfl rfl)
    (ss_cons (ss_expr (se_meth gc (mok1 4 rfl) (se_var (i := 5) rfl (by first | exact Or.inl rfl | exact Or.inr (Or.inl rfl) | exact Or.inr (Or.inr rfl)) (by decide) (by decide)) (sa_cons (se_var (i := 3) rfl (by first | exact Or.inl rfl | exact Or.inr (Or.inl rfl) | exact Or.inr (Or.inr rfl)) (by decide) (by decide)) sa_nil rfl) (fun ho ha c hm F hr hb hd => pe_meth ho c hm F hr hb hd pass0 ha)) rfl)
    (ss_cons (ss_for gc.gx PassesOwn.never (si_range1 rfl (gc.fr 1 _ rfl) (sa_cons se_int sa_nil rfl) rfl) (sg_name (i := 7) gc.gx rfl (by first | exact Or.inl rfl | exact Or.inr rfl) (by first | exact Or.inl rfl | exact Or.inr rfl)) (ss_cons (ss_set (i := 8) gc.gx rfl (by first | exact Or.inl rfl | exact Or.inr rfl) (se_meth0 gc (mok1 2 rfl) (se_var (i := 4) rfl (by first | exact Or.inl rfl | exact Or.inr (Or.inl rfl) | exact Or.inr (Or.inr rfl)) (by decide) (by decide)) (fun ho c hm F hr hb hd => pe_meth0 ho c hm F hr hb hd pass0)) rfl (by first | exact Or.inl rfl | exact Or.inr rfl))
    (ss_cons (ss_if (st_w (sw_or (st_cmp (sc_op (ops_eq gc.gx) (se_var (i := 8) rfl (by first | exact Or.inl rfl | exact Or.inr (Or.inl rfl) | exact Or.inr (Or.inr rfl)) (by decide) (by decide)) (se_lst sa_nil)) rfl) (sw_or1 (st_cmp (sc_op (ops_eq gc.gx) (se_call (j := 29) gc rfl rfl (sa_cons (se_var (i := 1) rfl (by first | exact Or.inl rfl | exact Or.inr (Or.inl rfl) | exact Or.inr (Or.inr rfl)) (by decide) (by decide)) (sa_cons se_int sa_nil rfl) rfl) (by decide) rfl rfl) se_int) rfl)))) (ss_cons (ss_set (i := 9) gc.gx rfl (by first | exact Or.inl rfl | exact Or.inr rfl) (se_bin (ops_add gc.gx) (se_meth0 gc (mok1 5 rfl) (se_var (i := 4) rfl (by first | exact Or.inl rfl | exact Or.inr (Or.inl rfl) | exact Or.inr (Or.inr rfl)) (by decide) (by decide)) (fun ho c hm F hr hb hd => pe_meth0 ho c hm F hr hb hd pass0)) (se_call (j := 29) gc rfl rfl (sa_cons (se_var (i := 1) rfl (by first | exact Or.inl rfl | exact Or.inr (Or.inl rfl) | exact Or.inr (Or.inr rfl)) (by decide) (by decide)) (sa_cons se_int sa_nil rfl) rfl) (by decide) rfl rfl)) rfl (by first | exact Or.inl rfl | exact Or.inr rfl))
    (ss_cons (ss_expr (se_meth gc (mok1 4 rfl) (se_var (i := 4) rfl (by first | exact Or.inl rfl | exact Or.inr (Or.inl rfl) | exact Or.inr (Or.inr rfl)) (by decide) (by decide)) (sa_cons (se_var (i := 9) rfl (by first | exact Or.inl rfl | exact Or.inr (Or.inl rfl) | exact Or.inr (Or.inr rfl)) (by decide) (by decide)) sa_nil rfl) (fun ho ha c hm F hr hb hd => pe_meth ho c hm F hr hb hd pass0 ha)) rfl)
    (ss_cons (ss_expr (se_meth gc (mok1 4 rfl) (se_var (i := 5) rfl (by first | exact Or.inl rfl | exact Or.inr (Or.inl rfl) | exact Or.inr (Or.inr rfl)) (by decide) (by decide)) (sa_cons (se_bin (ops_add gc.gx) (se_var (i := 9) rfl (by first | exact Or.inl rfl | exact Or.inr (Or.inl rfl) | exact Or.inr (Or.inr rfl)) (by decide) (by decide)) (se_var (i := 3) rfl (by first | exact Or.inl rfl | exact Or.inr (Or.inl rfl) | exact Or.inr (Or.inr rfl)) (by decide) (by decide))) sa_nil rfl) (fun ho ha c hm F hr hb hd => pe_meth ho c hm F hr hb hd pass0 ha)) rfl)
    (ss_one (ss_expr (se_meth gc (mok1 4 rfl) (se_var (i := 6) rfl (by first | exact Or.inl rfl | exact Or.inr (Or.inl rfl) | exact Or.inr (Or.inr rfl)) (by decide) (by decide)) (sa_cons (se_var (i := 9) rfl (by first | exact Or.inl rfl | exact Or.inr (Or.inl rfl) | exact Or.inr (Or.inr rfl)) (by decide) (by decide)) sa_nil rfl) (fun ho ha c hm F hr hb hd => pe_meth ho c hm F hr hb hd pass0 ha)) rfl))))) (ss_cons (ss_set (i := 10) gc.gx rfl (by first | exact Or.inl rfl | exact Or.inr rfl) (se_ix gc.gx (se_var (i := 8) rfl (by first | exact Or.inl rfl | exact Or.inr (Or.inl rfl) | exact Or.inr (Or.inr rfl)) (by decide) (by decide)) (se_call (j := 29) gc rfl rfl (sa_cons (se_var (i := 1) rfl (by first | exact Or.inl rfl | exact Or.inr (Or.inl rfl) | exact Or.inr (Or.inr rfl)) (by decide) (by decide)) (sa_cons (se_bi (id := "len") (calls_len gc.gx) rfl (gc.fr 0 _ rfl) (by decide +kernel) (sa_cons (se_var (i := 8) rfl (by first | exact Or.inl rfl | exact Or.inr (Or.inl rfl) | exact Or.inr (Or.inr rfl)) (by decide) (by decide)) sa_nil rfl) (by decide) (by decide) rfl rfl) sa_nil rfl) rfl) (by decide) rfl rfl) (fun _ _ => rfl)) rfl (by first | exact Or.inl rfl | exact Or.inr rfl))
    (ss_cons (ss_expr (se_meth gc (mok1 6 rfl) (se_var (i := 4) rfl (by first | exact Or.inl rfl | exact Or.inr (Or.inl rfl) | exact Or.inr (Or.inr rfl)) (by decide) (by decide)) (sa_cons (se_var (i := 10) rfl (by first | exact Or.inl rfl | exact Or.inr (Or.inl rfl) | exact Or.inr (Or.inr rfl)) (by decide) (by decide)) sa_nil rfl) (fun ho ha c hm F hr hb hd => pe_meth ho c hm F hr hb hd pass0 ha)) rfl)
    (ss_cons (ss_expr (se_meth gc (mok1 6 rfl) (se_var (i := 5) rfl (by first | exact Or.inl rfl | exact Or.inr (Or.inl rfl) | exact Or.inr (Or.inr rfl)) (by decide) (by decide)) (sa_cons (se_var (i := 10) rfl (by first | exact Or.inl rfl | exact Or.inr (Or.inl rfl) | exact Or.inr (Or.inr rfl)) (by decide) (by decide)) sa_nil rfl) (fun ho ha c hm F hr hb hd => pe_meth ho c hm F hr hb hd pass0 ha)) rfl)
    (ss_one (ss_expr (se_meth gc (mok1 6 rfl) (se_var (i := 6) rfl (by first | exact Or.inl rfl | exact Or.inr (Or.inl rfl) | exact Or.inr (Or.inr rfl)) (by decide) (by decide)) (sa_cons (se_bin (ops_add gc.gx) (se_str s0_eq) (se_var (i := 10) rfl (by first | exact Or.inl rfl | exact Or.inr (Or.inl rfl) | exact Or.inr (Or.inr rfl)) (by decide) (by decide))) sa_nil rfl) (fun ho ha c hm F hr hb hd => pe_meth ho c hm F hr hb hd pass0 ha)) rfl))))))
    (ss_one (ss_if (st_w (sw_or (st_cmp (sc_op (ops_ne gc.gx) (se_meth0 gc (mok1 3 rfl) (se_var (i := 4) rfl (by first | exact Or.inl rfl | exact Or.inr (Or.inl rfl) | exact Or.inr (Or.inr rfl)) (by decide) (by decide)) (fun ho c hm F hr hb hd => pe_meth0 ho c hm F hr hb hd pass0)) (se_meth0 gc (mok1 3 rfl) (se_var (i := 5) rfl (by first | exact Or.inl rfl | exact Or.inr (Or.inl rfl) | exact Or.inr (Or.inr rfl)) (by decide) (by decide)) (fun ho c hm F hr hb hd => pe_meth0 ho c hm F hr hb hd pass0))) rfl) (sw_or (st_cmp (sc_op (ops_ne gc.gx) (se_meth0 gc (mok1 3 rfl) (se_var (i := 4) rfl (by first | exact Or.inl rfl | exact Or.inr (Or.inl rfl) | exact Or.inr (Or.inr rfl)) (by decide) (by decide)) (fun ho c hm F hr hb hd => pe_meth0 ho c hm F hr hb hd pass0)) (se_meth0 gc (mok1 3 rfl) (se_var (i := 6) rfl (by first | exact Or.inl rfl | exact Or.inr (Or.inl rfl) | exact Or.inr (Or.inr rfl)) (by decide) (by decide)) (fun ho c hm F hr hb hd => pe_meth0 ho c hm F hr hb hd pass0))) rfl) (sw_or1 (st_cmp (sc_op (ops_ne gc.gx) (se_meth0 gc (mok1 2 rfl) (se_var (i := 4) rfl (by first | exact Or.inl rfl | exact Or.inr (Or.inl rfl) | exact Or.inr (Or.inr rfl)) (by decide) (by decide)) (fun ho c hm F hr hb hd => pe_meth0 ho c hm F hr hb hd pass0)) (se_meth0 gc (mok1 2 rfl) (se_var (i := 5) rfl (by first | exact Or.inl rfl | exact Or.inr (Or.inl rfl) | exact Or.inr (Or.inr rfl)) (by decide) (by decide)) (fun ho c hm F hr hb hd => pe_meth0 ho c hm F hr hb hd pass0))) rfl))))) (ss_one (ss_ret se_bl)) ss_nil)))) (by intro _; rfl))
    (ss_cons (ss_set (i := 11) gc.gx rfl (by first | exact Or.inl rfl | exact Or.inr rfl) (se_bi (id := "len") (calls_len gc.gx) rfl (gc.fr 0 _ rfl) (by decide +kernel) (sa_cons (se_call (j := 32) gc rfl rfl (sa_cons (se_var (i := 2) rfl (by first | exact Or.inl rfl | exact Or.inr (Or.inl rfl) | exact Or.inr (Or.inr rfl)) (by decide) (by decide)) sa_nil rfl) (by decide) rfl rfl) sa_nil rfl) (by decide) (by decide) rfl rfl) rfl (by first | exact Or.inl rfl | exact Or.inr rfl))
    (ss_cons (ss_set (i := 12) gc.gx rfl (by first | exact Or.inl rfl | exact Or.inr rfl) (se_meth0 gc (mok1 1 rfl) (se_var (i := 4) rfl (by first | exact Or.inl rfl | exact Or.inr (Or.inl rfl) | exact Or.inr (Or.inr rfl)) (by decide) (by decide)) (fun ho c hm F hr hb hd => pe_meth0 ho c hm F hr hb hd pass0)) rfl (by first | exact Or.inl rfl | exact Or.inr rfl))
    (ss_cons (ss_if (st_cmp (sc_op (ops_ne gc.gx) (se_lc (own := [("time", 13), ("word", 14), ("name", 10)]) gc (blkOk_by (N := N35) (own := [("time", 13), ("word", 14), ("name", 10)]) (sc := defScope (top 36)) (by decide +kernel)) (si_seq gc.gx (se_sl gc.gx (se_var (i := 12) rfl (by first | exact Or.inl rfl | exact Or.inr (Or.inl rfl) | exact Or.inr (Or.inr rfl)) (by decide) (by decide)) (so_some (se_var (i := 11) rfl (by first | exact Or.inl rfl | exact Or.inr (Or.inl rfl) | exact Or.inr (Or.inr rfl)) (by decide) (by decide))) so_none)) (fun s0 H0 C0 cl0 fp0 gc => (sg_tup gc.gx (sgs_cons (sg_name (i := 13) gc.gx rfl (by first | exact Or.inl rfl | exact Or.inr rfl) (by first | exact Or.inl rfl | exact Or.inr rfl)) (sgs_cons (sg_name (i := 14) gc.gx rfl (by first | exact Or.inl rfl | exact Or.inr rfl) (by first | exact Or.inl rfl | exact Or.inr rfl)) (sgs_cons (sg_name (i := 10) gc.gx rfl (by first | exact Or.inl rfl | exact Or.inr rfl) (by first | exact Or.inl rfl | exact Or.inr rfl)) sgs_nil rfl) rfl) rfl) rfl rfl)) sif_none (fun s0 H0 C0 cl0 fp0 gc => (se_tup (sa_cons (se_bin (ops_add gc.gx) (se_var (i := 13) rfl (by first | exact Or.inl rfl | exact Or.inr (Or.inl rfl) | exact Or.inr (Or.inr rfl)) (by decide) (by decide)) (se_var (i := 3) rfl (by first | exact Or.inl rfl | exact Or.inr (Or.inl rfl) | exact Or.inr (Or.inr rfl)) (by decide) (by decide))) (sa_cons (se_var (i := 14) rfl (by first | exact Or.inl rfl | exact Or.inr (Or.inl rfl) | exact Or.inr (Or.inr rfl)) (by decide) (by decide)) (sa_cons (se_var (i := 10) rfl (by first | exact Or.inl rfl | exact Or.inr (Or.inl rfl) | exact Or.inr (Or.inr rfl)) (by decide) (by decide)) sa_nil rfl) rfl) rfl))) (by decide) (by intro _; rfl)) (se_sl gc.gx (se_meth0 gc (mok1 1 rfl) (se_var (i := 5) rfl (by first | exact Or.inl rfl | exact Or.inr (Or.inl rfl) | exact Or.inr (Or.inr rfl)) (by decide) (by decide)) (fun ho c hm F hr hb hd => pe_meth0 ho c hm F hr hb hd pass0)) (so_some (se_var (i := 11) rfl (by first | exact Or.inl rfl | exact Or.inr (Or.inl rfl) | exact Or.inr (Or.inr rfl)) (by decide) (by decide))) so_none)) rfl) (ss_one (ss_ret se_bl)) ss_nil)
    (ss_cons (ss_if (st_cmp (sc_op (ops_ne gc.gx) (se_lc (own := [("time", 13), ("word", 14), ("name", 10)]) gc (blkOk_by (N := N35) (own := [("time", 13), ("word", 14), ("name", 10)]) (sc := defScope (top 36)) (by decide +kernel)) (si_seq gc.gx (se_var (i := 12) rfl (by first | exact Or.inl rfl | exact Or.inr (Or.inl rfl) | exact Or.inr (Or.inr rfl)) (by decide) (by decide))) (fun s0 H0 C0 cl0 fp0 gc => (sg_tup gc.gx (sgs_cons (sg_name (i := 13) gc.gx rfl (by first | exact Or.inl rfl | exact Or.inr rfl) (by first | exact Or.inl rfl | exact Or.inr rfl)) (sgs_cons (sg_name (i := 14) gc.gx rfl (by first | exact Or.inl rfl | exact Or.inr rfl) (by first | exact Or.inl rfl | exact Or.inr rfl)) (sgs_cons (sg_name (i := 10) gc.gx rfl (by first | exact Or.inl rfl | exact Or.inr rfl) (by first | exact Or.inl rfl | exact Or.inr rfl)) sgs_nil rfl) rfl) rfl) rfl rfl)) sif_none (fun s0 H0 C0 cl0 fp0 gc => (se_tup (sa_cons (se_var (i := 13) rfl (by first | exact Or.inl rfl | exact Or.inr (Or.inl rfl) | exact Or.inr (Or.inr rfl)) (by decide) (by decide)) (sa_cons (se_var (i := 14) rfl (by first | exact Or.inl rfl | exact Or.inr (Or.inl rfl) | exact Or.inr (Or.inr rfl)) (by decide) (by decide)) (sa_cons (se_bin (ops_add gc.gx) (se_str s0_eq) (se_var (i := 10) rfl (by first | exact Or.inl rfl | exact Or.inr (Or.inl rfl) | exact Or.inr (Or.inr rfl)) (by decide) (by decide))) sa_nil rfl) rfl) rfl))) (by decide) (by intro _; rfl)) (se_meth0 gc (mok1 1 rfl) (se_var (i := 6) rfl (by first | exact Or.inl rfl | exact Or.inr (Or.inl rfl) | exact Or.inr (Or.inr rfl)) (by decide) (by decide)) (fun ho c hm F hr hb hd => pe_meth0 ho c hm F hr hb hd pass0))) rfl) (ss_one (ss_ret se_bl)) ss_nil)
    (ss_one (ss_for gc.gx PassesOwn.never (si_seq gc.gx (se_call (j := 33) gc rfl rfl (sa_cons (se_var (i := 2) rfl (by first | exact Or.inl rfl | exact Or.inr (Or.inl rfl) | exact Or.inr (Or.inr rfl)) (by decide) (by decide)) sa_nil rfl) (by decide) rfl rfl)) (sg_name (i := 15) gc.gx rfl (by first | exact Or.inl rfl | exact Or.inr rfl) (by first | exact Or.inl rfl | exact Or.inr rfl)) (ss_one (ss_if (st_w (sw_and (st_cmp (sc_op (ops_eq gc.gx) (se_ix gc.gx (se_var (i := 15) rfl (by first | exact Or.inl rfl | exact Or.inr (Or.inl rfl) | exact Or.inr (Or.inr rfl)) (by decide) (by decide)) se_int (fun _ _ => rfl)) (se_str s1_eq)) rfl) (sw_and1 (st_cmp (sc_op (ops_ne gc.gx) (se_meth gc (mok1 0 rfl) (se_var (i := 4) rfl (by first | exact Or.inl rfl | exact Or.inr (Or.inl rfl) | exact Or.inr (Or.inr rfl)) (by decide) (by decide)) (sa_cons (se_ix gc.gx (se_var (i := 15) rfl (by first | exact Or.inl rfl | exact Or.inr (Or.inl rfl) | exact Or.inr (Or.inr rfl)) (by decide) (by decide)) se_int (fun _ _ => rfl)) sa_nil rfl) (fun ho ha c hm F hr hb hd => pe_meth ho c hm F hr hb hd pass0 ha)) (se_meth gc (mok1 0 rfl) (se_var (i := 6) rfl (by first | exact Or.inl rfl | exact Or.inr (Or.inl rfl) | exact Or.inr (Or.inr rfl)) (by decide) (by decide)) (sa_cons (se_bin (ops_add gc.gx) (se_str s0_eq) (se_ix gc.gx (se_var (i := 15) rfl (by first | exact Or.inl rfl | exact Or.inr (Or.inl rfl) | exact Or.inr (Or.inr rfl)) (by decide) (by decide)) se_int (fun _ _ => rfl))) sa_nil rfl) (fun ho ha c hm F hr hb hd => pe_meth ho c hm F hr hb hd pass0 ha))) rfl)))) (ss_one (ss_ret se_bl)) ss_nil)) (by intro _; rfl)))))))))))) (by intro _; rfl))
    (ss_one (ss_ret se_bl)))
end
/-! ### the head -/
def dfs_0 : List (He.DefD) := [⟨("is_whole", none), "is_whole", "is_whole", defArgs (top 13), defBody (top 13), defScope (top 13), [], []⟩, ⟨("is_within", none), "is_within", "is_within", defArgs (top 14), defBody (top 14), defScope (top 14), [], []⟩, ⟨("is_name", none), "is_name", "is_name", defArgs (top 15), defBody (top 15), defScope (top 15), [], []⟩, ⟨("is_node", none), "is_node", "is_node", defArgs (top 23), defBody (top 23), defScope (top 23), [], []⟩, ⟨("names_in", none), "names_in", "names_in", defArgs (top 24), defBody (top 24), defScope (top 24), [], []⟩, ⟨("is_tree", none), "is_tree", "is_tree", defArgs (top 25), defBody (top 25), defScope (top 25), [], []⟩, ⟨("workers_in", none), "workers_in", "workers_in", defArgs (top 26), defBody (top 26), defScope (top 26), [], []⟩, ⟨("House", some "__init__"), "__init__", "House.__init__", defArgs (inClass (top 27) 0), defBody (inClass (top 27) 0), defScope (inClass (top 27) 0), [], []⟩, ⟨("House", some "learn"), "learn", "House.learn", defArgs (inClass (top 27) 1), defBody (inClass (top 27) 1), defScope (inClass (top 27) 1), [], []⟩, ⟨("House", some "state"), "state", "House.state", defArgs (inClass (top 27) 2), defBody (inClass (top 27) 2), defScope (inClass (top 27) 2), [], []⟩, ⟨("House", some "go_to"), "go_to", "House.go_to", defArgs (inClass (top 27) 3), defBody (inClass (top 27) 3), defScope (inClass (top 27) 3), [], []⟩, ⟨("House", some "stop_all"), "stop_all", "House.stop_all", defArgs (inClass (top 27) 4), defBody (inClass (top 27) 4), defScope (inClass (top 27) 4), [], []⟩, ⟨("House", some "start_all"), "start_all", "House.start_all", defArgs (inClass (top 27) 5), defBody (inClass (top 27) 5), defScope (inClass (top 27) 5), [], []⟩, ⟨("House", some "touched"), "touched", "House.touched", defArgs (inClass (top 27) 6), defBody (inClass (top 27) 6), defScope (inClass (top 27) 6), [], []⟩, ⟨("House", some "told"), "told", "House.told", defArgs (inClass (top 27) 7), defBody (inClass (top 27) 7), defScope (inClass (top 27) 7), [], []⟩, ⟨("House", some "fall"), "fall", "House.fall", defArgs (inClass (top 27) 8), defBody (inClass (top 27) 8), defScope (inClass (top 27) 8), [], []⟩, ⟨("House", some "now"), "now", "House.now", defArgs (inClass (top 27) 10), defBody (inClass (top 27) 10), defScope (inClass (top 27) 10), [], []⟩, ⟨("House", some "running"), "running", "House.running", defArgs (inClass (top 27) 11), defBody (inClass (top 27) 11), defScope (inClass (top 27) 11), [], []⟩, ⟨("House", some "down"), "down", "House.down", defArgs (inClass (top 27) 12), defBody (inClass (top 27) 12), defScope (inClass (top 27) 12), [], []⟩, ⟨("House", some "counted"), "counted", "House.counted", defArgs (inClass (top 27) 13), defBody (inClass (top 27) 13), defScope (inClass (top 27) 13), [], []⟩]
def dfs_1 : List (He.DefD) := [⟨("House", some "log"), "log", "House.log", defArgs (inClass (top 27) 14), defBody (inClass (top 27) 14), defScope (inClass (top 27) 14), [], []⟩, ⟨("_law_well", none), "_law_well", "_law_well", defArgs (top 29), defBody (top 29), defScope (top 29), [], []⟩, ⟨("_law_take", none), "_law_take", "_law_take", defArgs (top 30), defBody (top 30), defScope (top 30), [], []⟩, ⟨("_law_bags", none), "_law_bags", "_law_bags", defArgs (top 31), defBody (top 31), defScope (top 31), [], []⟩, ⟨("_law_node", none), "_law_node", "_law_node", defArgs (top 32), defBody (top 32), defScope (top 32), [], []⟩, ⟨("_law_workers", none), "_law_workers", "_law_workers", defArgs (top 33), defBody (top 33), defScope (top 33), [], []⟩, ⟨("_law_nodes", none), "_law_nodes", "_law_nodes", defArgs (top 34), defBody (top 34), defScope (top 34), [], []⟩, ⟨("_law_called", none), "_law_called", "_law_called", defArgs (top 35), defBody (top 35), defScope (top 35), [], []⟩, ⟨("law", none), "law", "law", defArgs (top 36), defBody (top 36), defScope (top 36), [], []⟩]
def dfs : List (He.DefD) := dfs_0 ++ dfs_1
def loose_0 : List (Str) := ["_wall", "WardError", "FormError", "AskError", "NoTree", "NoTime", "NoName", "Down", "InUse", "LETTERS", "MOST_NAME", "is_whole", "is_within", "is_name", "MOST_CHILDREN", "MOST_DEEP", "MOST_AGAIN", "MOST_SPAN", "MOST_TIME", "MODES"]
def loose_1 : List (Str) := ["is_node", "names_in", "is_tree", "workers_in", "House", "_law_well", "_law_take", "_law_bags", "_law_node", "_law_workers", "_law_nodes", "_law_called"]
def loose : List (Str) := loose_0 ++ loose_1
abbrev Rw : PySem.W.OpenRow := PySem.W.OpenLaw.row PySem.Challenge.rw_faultward_k88_whole_houses_at_other_time
abbrev hk : PySem.W.Hook := hookM 4 D.fa dfs D.ex
def ob (s : PySem.W.SharedT) : AlM := obsM 4 D.fa dfs D.ex (HandSHeadRun.getT s)
theorem ob_eq (s : PySem.W.SharedT) : ob s = hk.obs s.abs := obsM_eq (HandSHeadRun.getT_eq s)
theorem run (w : World) : HandSHeadRun.RunEq Rw (PySem.W.view Rw.prog [36]) hk ob 8000 loose w := by
  intro os
  kernel_rfl
/-! ### each def's fact -/
theorem fact3 {P : Program} {w : World} {K : PySem.W.Frag} {mg : Str → Option Value} (c : He.SaysD D.fa dfs K) : Fact (G0 K) (T0 K) prog P w K mg 3 := by
  obtain ⟨fd, F⟩ := c.def_ 0 (d := dfs.getD 0 ⟨(Str.empty, none), Str.empty, Str.empty, defArgs (top 0), [], defScope (top 0), [], []⟩) rfl
  exact ⟨_, _, _, _, _, _, _, fd, N3, ps3, ⟨1, 1, f3⟩, [], F, sc3, rfl, rfl, rfl, FunD.bindsN (ps := ps3) F (fun _ _ _ _ _ _ us hl => match us, hl with | [_], _ => rfl), .nil, rfl, fun base cdv A outer s H E C k gc => b3 gc⟩
theorem fact4 {P : Program} {w : World} {K : PySem.W.Frag} {mg : Str → Option Value} (c : He.SaysD D.fa dfs K) : Fact (G0 K) (T0 K) prog P w K mg 4 := by
  obtain ⟨fd, F⟩ := c.def_ 1 (d := dfs.getD 1 ⟨(Str.empty, none), Str.empty, Str.empty, defArgs (top 0), [], defScope (top 0), [], []⟩) rfl
  exact ⟨_, _, _, _, _, _, _, fd, N4, ps4, ⟨3, 3, f4⟩, [], F, sc4, rfl, rfl, rfl, FunD.bindsN (ps := ps4) F (fun _ _ _ _ _ _ us hl => match us, hl with | [_, _, _], _ => rfl), .nil, rfl, fun base cdv A outer s H E C k gc => b4 gc⟩
theorem fact5 {P : Program} {w : World} {K : PySem.W.Frag} {mg : Str → Option Value} (c : He.SaysD D.fa dfs K) : Fact (G0 K) (T0 K) prog P w K mg 5 := by
  obtain ⟨fd, F⟩ := c.def_ 2 (d := dfs.getD 2 ⟨(Str.empty, none), Str.empty, Str.empty, defArgs (top 0), [], defScope (top 0), [], []⟩) rfl
  exact ⟨_, _, _, _, _, _, _, fd, N5, ps5, ⟨1, 2, f5⟩, [], F, sc5, rfl, rfl, rfl, FunD.bindsN (ps := ps5) F (fun _ _ _ _ _ _ us hl => match us, hl with | [_], _ => rfl), .nil, rfl, fun base cdv A outer s H E C k gc => b5 gc⟩
theorem fact6 {P : Program} {w : World} {K : PySem.W.Frag} {mg : Str → Option Value} (c : He.SaysD D.fa dfs K) : Fact (G0 K) (T0 K) prog P w K mg 6 := by
  obtain ⟨fd, F⟩ := c.def_ 3 (d := dfs.getD 3 ⟨(Str.empty, none), Str.empty, Str.empty, defArgs (top 0), [], defScope (top 0), [], []⟩) rfl
  exact ⟨_, _, _, _, _, _, _, fd, N6, ps6, ⟨2, 3, f6⟩, [], F, sc6, rfl, rfl, rfl, FunD.bindsN (ps := ps6) F (fun _ _ _ _ _ _ us hl => match us, hl with | [_, _], _ => rfl), .nil, rfl, fun base cdv A outer s H E C k gc => b6 gc⟩
theorem fact7 {P : Program} {w : World} {K : PySem.W.Frag} {mg : Str → Option Value} (c : He.SaysD D.fa dfs K) : Fact (G0 K) (T0 K) prog P w K mg 7 := by
  obtain ⟨fd, F⟩ := c.def_ 4 (d := dfs.getD 4 ⟨(Str.empty, none), Str.empty, Str.empty, defArgs (top 0), [], defScope (top 0), [], []⟩) rfl
  exact ⟨_, _, _, _, _, _, _, fd, N7, ps7, ⟨1, 3, f7⟩, [], F, sc7, rfl, rfl, rfl, FunD.bindsN (ps := ps7) F (fun _ _ _ _ _ _ us hl => match us, hl with | [_], _ => rfl), .nil, rfl, fun base cdv A outer s H E C k gc => b7 gc⟩
theorem fact8 {P : Program} {w : World} {K : PySem.W.Frag} {mg : Str → Option Value} (c : He.SaysD D.fa dfs K) : Fact (G0 K) (T0 K) prog P w K mg 8 := by
  obtain ⟨fd, F⟩ := c.def_ 5 (d := dfs.getD 5 ⟨(Str.empty, none), Str.empty, Str.empty, defArgs (top 0), [], defScope (top 0), [], []⟩) rfl
  exact ⟨_, _, _, _, _, _, _, fd, N8, ps8, ⟨1, 1, f8⟩, [], F, sc8, rfl, rfl, rfl, FunD.bindsN (ps := ps8) F (fun _ _ _ _ _ _ us hl => match us, hl with | [_], _ => rfl), .nil, rfl, fun base cdv A outer s H E C k gc => b8 gc⟩
theorem fact9 {P : Program} {w : World} {K : PySem.W.Frag} {mg : Str → Option Value} (c : He.SaysD D.fa dfs K) : Fact (G0 K) (T0 K) prog P w K mg 9 := by
  obtain ⟨fd, F⟩ := c.def_ 6 (d := dfs.getD 6 ⟨(Str.empty, none), Str.empty, Str.empty, defArgs (top 0), [], defScope (top 0), [], []⟩) rfl
  exact ⟨_, _, _, _, _, _, _, fd, N9, ps9, ⟨1, 3, f9⟩, [], F, sc9, rfl, rfl, rfl, FunD.bindsN (ps := ps9) F (fun _ _ _ _ _ _ us hl => match us, hl with | [_], _ => rfl), .nil, rfl, fun base cdv A outer s H E C k gc => b9 gc⟩
theorem fact10 {P : Program} {w : World} {K : PySem.W.Frag} {mg : Str → Option Value} (c : He.SaysD D.fa dfs K) : Fact (G0 K) (T0 K) prog P w K mg 10 := by
  obtain ⟨fd, F⟩ := c.def_ 7 (d := dfs.getD 7 ⟨(Str.empty, none), Str.empty, Str.empty, defArgs (top 0), [], defScope (top 0), [], []⟩) rfl
  exact ⟨_, _, _, _, _, _, _, fd, N10, ps10, ⟨2, 3, f10⟩, [], F, sc10, rfl, rfl, rfl, FunD.bindsN (ps := ps10) F (fun _ _ _ _ _ _ us hl => match us, hl with | [_, _], _ => rfl), .nil, rfl, fun base cdv A outer s H E C k gc => b10 gc⟩
theorem fact11 {P : Program} {w : World} {K : PySem.W.Frag} {mg : Str → Option Value} (c : He.SaysD D.fa dfs K) : Fact (G0 K) (T0 K) prog P w K mg 11 := by
  obtain ⟨fd, F⟩ := c.def_ 8 (d := dfs.getD 8 ⟨(Str.empty, none), Str.empty, Str.empty, defArgs (top 0), [], defScope (top 0), [], []⟩) rfl
  exact ⟨_, _, _, _, _, _, _, fd, N11, ps11, ⟨3, 4, f11⟩, [], F, sc11, rfl, rfl, rfl, FunD.bindsN (ps := ps11) F (fun _ _ _ _ _ _ us hl => match us, hl with | [_, _, _], _ => rfl), .nil, rfl, fun base cdv A outer s H E C k gc => b11 gc⟩
theorem fact12 {P : Program} {w : World} {K : PySem.W.Frag} {mg : Str → Option Value} (c : He.SaysD D.fa dfs K) : Fact (G0 K) (T0 K) prog P w K mg 12 := by
  obtain ⟨fd, F⟩ := c.def_ 9 (d := dfs.getD 9 ⟨(Str.empty, none), Str.empty, Str.empty, defArgs (top 0), [], defScope (top 0), [], []⟩) rfl
  exact ⟨_, _, _, _, _, _, _, fd, N12, ps12, ⟨1, 3, f12⟩, [], F, sc12, rfl, rfl, rfl, FunD.bindsN (ps := ps12) F (fun _ _ _ _ _ _ us hl => match us, hl with | [_], _ => rfl), .nil, rfl, fun base cdv A outer s H E C k gc => b12 gc⟩
theorem fact13 {P : Program} {w : World} {K : PySem.W.Frag} {mg : Str → Option Value} (c : He.SaysD D.fa dfs K) : Fact (G0 K) (T0 K) prog P w K mg 13 := by
  obtain ⟨fd, F⟩ := c.def_ 10 (d := dfs.getD 10 ⟨(Str.empty, none), Str.empty, Str.empty, defArgs (top 0), [], defScope (top 0), [], []⟩) rfl
  exact ⟨_, _, _, _, _, _, _, fd, N13, ps13, ⟨2, 2, f13⟩, [], F, sc13, rfl, rfl, rfl, FunD.bindsN (ps := ps13) F (fun _ _ _ _ _ _ us hl => match us, hl with | [_, _], _ => rfl), .nil, rfl, fun base cdv A outer s H E C k gc => b13 gc⟩
theorem fact14 {P : Program} {w : World} {K : PySem.W.Frag} {mg : Str → Option Value} (c : He.SaysD D.fa dfs K) : Fact (G0 K) (T0 K) prog P w K mg 14 := by
  obtain ⟨fd, F⟩ := c.def_ 11 (d := dfs.getD 11 ⟨(Str.empty, none), Str.empty, Str.empty, defArgs (top 0), [], defScope (top 0), [], []⟩) rfl
  exact ⟨_, _, _, _, _, _, _, fd, N14, ps14, ⟨2, 4, f14⟩, [], F, sc14, rfl, rfl, rfl, FunD.bindsN (ps := ps14) F (fun _ _ _ _ _ _ us hl => match us, hl with | [_, _], _ => rfl), .nil, rfl, fun base cdv A outer s H E C k gc => b14 gc⟩
theorem fact15 {P : Program} {w : World} {K : PySem.W.Frag} {mg : Str → Option Value} (c : He.SaysD D.fa dfs K) : Fact (G0 K) (T0 K) prog P w K mg 15 := by
  obtain ⟨fd, F⟩ := c.def_ 12 (d := dfs.getD 12 ⟨(Str.empty, none), Str.empty, Str.empty, defArgs (top 0), [], defScope (top 0), [], []⟩) rfl
  exact ⟨_, _, _, _, _, _, _, fd, N15, ps15, ⟨2, 4, f15⟩, [], F, sc15, rfl, rfl, rfl, FunD.bindsN (ps := ps15) F (fun _ _ _ _ _ _ us hl => match us, hl with | [_, _], _ => rfl), .nil, rfl, fun base cdv A outer s H E C k gc => b15 gc⟩
theorem fact16 {P : Program} {w : World} {K : PySem.W.Frag} {mg : Str → Option Value} (c : He.SaysD D.fa dfs K) : Fact (G0 K) (T0 K) prog P w K mg 16 := by
  obtain ⟨fd, F⟩ := c.def_ 13 (d := dfs.getD 13 ⟨(Str.empty, none), Str.empty, Str.empty, defArgs (top 0), [], defScope (top 0), [], []⟩) rfl
  exact ⟨_, _, _, _, _, _, _, fd, N16, ps16, ⟨3, 6, f16⟩, [], F, sc16, rfl, rfl, rfl, FunD.bindsN (ps := ps16) F (fun _ _ _ _ _ _ us hl => match us, hl with | [_, _, _], _ => rfl), .nil, rfl, fun base cdv A outer s H E C k gc => b16 gc⟩
theorem fact17 {P : Program} {w : World} {K : PySem.W.Frag} {mg : Str → Option Value} (c : He.SaysD D.fa dfs K) : Fact (G0 K) (T0 K) prog P w K mg 17 := by
  obtain ⟨fd, F⟩ := c.def_ 14 (d := dfs.getD 14 ⟨(Str.empty, none), Str.empty, Str.empty, defArgs (top 0), [], defScope (top 0), [], []⟩) rfl
  exact ⟨_, _, _, _, _, _, _, fd, N17, ps17, ⟨2, 7, f17⟩, [], F, sc17, rfl, rfl, rfl, FunD.bindsN (ps := ps17) F (fun _ _ _ _ _ _ us hl => match us, hl with | [_, _], _ => rfl), .nil, rfl, fun base cdv A outer s H E C k gc => b17 gc⟩
theorem fact18 {P : Program} {w : World} {K : PySem.W.Frag} {mg : Str → Option Value} (c : He.SaysD D.fa dfs K) : Fact (G0 K) (T0 K) prog P w K mg 18 := by
  obtain ⟨fd, F⟩ := c.def_ 15 (d := dfs.getD 15 ⟨(Str.empty, none), Str.empty, Str.empty, defArgs (top 0), [], defScope (top 0), [], []⟩) rfl
  exact ⟨_, _, _, _, _, _, _, fd, N18, ps18, ⟨2, 2, f18⟩, [], F, sc18, rfl, rfl, rfl, FunD.bindsN (ps := ps18) F (fun _ _ _ _ _ _ us hl => match us, hl with | [_, _], _ => rfl), .nil, rfl, fun base cdv A outer s H E C k gc => b18 gc⟩
theorem fact20 {P : Program} {w : World} {K : PySem.W.Frag} {mg : Str → Option Value} (c : He.SaysD D.fa dfs K) : Fact (G0 K) (T0 K) prog P w K mg 20 := by
  obtain ⟨fd, F⟩ := c.def_ 16 (d := dfs.getD 16 ⟨(Str.empty, none), Str.empty, Str.empty, defArgs (top 0), [], defScope (top 0), [], []⟩) rfl
  exact ⟨_, _, _, _, _, _, _, fd, N20, ps20, ⟨1, 1, f20⟩, [], F, sc20, rfl, rfl, rfl, FunD.bindsN (ps := ps20) F (fun _ _ _ _ _ _ us hl => match us, hl with | [_], _ => rfl), .nil, rfl, fun base cdv A outer s H E C k gc => b20 gc⟩
theorem fact21 {P : Program} {w : World} {K : PySem.W.Frag} {mg : Str → Option Value} (c : He.SaysD D.fa dfs K) : Fact (G0 K) (T0 K) prog P w K mg 21 := by
  obtain ⟨fd, F⟩ := c.def_ 17 (d := dfs.getD 17 ⟨(Str.empty, none), Str.empty, Str.empty, defArgs (top 0), [], defScope (top 0), [], []⟩) rfl
  exact ⟨_, _, _, _, _, _, _, fd, N21, ps21, ⟨1, 2, f21⟩, [], F, sc21, rfl, rfl, rfl, FunD.bindsN (ps := ps21) F (fun _ _ _ _ _ _ us hl => match us, hl with | [_], _ => rfl), .nil, rfl, fun base cdv A outer s H E C k gc => b21 gc⟩
theorem fact22 {P : Program} {w : World} {K : PySem.W.Frag} {mg : Str → Option Value} (c : He.SaysD D.fa dfs K) : Fact (G0 K) (T0 K) prog P w K mg 22 := by
  obtain ⟨fd, F⟩ := c.def_ 18 (d := dfs.getD 18 ⟨(Str.empty, none), Str.empty, Str.empty, defArgs (top 0), [], defScope (top 0), [], []⟩) rfl
  exact ⟨_, _, _, _, _, _, _, fd, N22, ps22, ⟨1, 1, f22⟩, [], F, sc22, rfl, rfl, rfl, FunD.bindsN (ps := ps22) F (fun _ _ _ _ _ _ us hl => match us, hl with | [_], _ => rfl), .nil, rfl, fun base cdv A outer s H E C k gc => b22 gc⟩
theorem fact23 {P : Program} {w : World} {K : PySem.W.Frag} {mg : Str → Option Value} (c : He.SaysD D.fa dfs K) : Fact (G0 K) (T0 K) prog P w K mg 23 := by
  obtain ⟨fd, F⟩ := c.def_ 19 (d := dfs.getD 19 ⟨(Str.empty, none), Str.empty, Str.empty, defArgs (top 0), [], defScope (top 0), [], []⟩) rfl
  exact ⟨_, _, _, _, _, _, _, fd, N23, ps23, ⟨2, 3, f23⟩, [], F, sc23, rfl, rfl, rfl, FunD.bindsN (ps := ps23) F (fun _ _ _ _ _ _ us hl => match us, hl with | [_, _], _ => rfl), .nil, rfl, fun base cdv A outer s H E C k gc => b23 gc⟩
theorem fact24 {P : Program} {w : World} {K : PySem.W.Frag} {mg : Str → Option Value} (c : He.SaysD D.fa dfs K) : Fact (G0 K) (T0 K) prog P w K mg 24 := by
  obtain ⟨fd, F⟩ := c.def_ 20 (d := dfs.getD 20 ⟨(Str.empty, none), Str.empty, Str.empty, defArgs (top 0), [], defScope (top 0), [], []⟩) rfl
  exact ⟨_, _, _, _, _, _, _, fd, N24, ps24, ⟨1, 1, f24⟩, [], F, sc24, rfl, rfl, rfl, FunD.bindsN (ps := ps24) F (fun _ _ _ _ _ _ us hl => match us, hl with | [_], _ => rfl), .nil, rfl, fun base cdv A outer s H E C k gc => b24 gc⟩
theorem fact28 {P : Program} {w : World} {K : PySem.W.Frag} {mg : Str → Option Value} (c : He.SaysD D.fa dfs K) : Fact (G0 K) (T0 K) prog P w K mg 28 := by
  obtain ⟨fd, F⟩ := c.def_ 21 (d := dfs.getD 21 ⟨(Str.empty, none), Str.empty, Str.empty, defArgs (top 0), [], defScope (top 0), [], []⟩) rfl
  exact ⟨_, _, _, _, _, _, _, fd, N28, ps28, ⟨2, 2, f28⟩, [], F, sc28, rfl, rfl, rfl, FunD.bindsN (ps := ps28) F (fun _ _ _ _ _ _ us hl => match us, hl with | [_, _], _ => rfl), .nil, rfl, fun base cdv A outer s H E C k gc => b28 gc⟩
theorem fact29 {P : Program} {w : World} {K : PySem.W.Frag} {mg : Str → Option Value} (c : He.SaysD D.fa dfs K) : Fact (G0 K) (T0 K) prog P w K mg 29 := by
  obtain ⟨fd, F⟩ := c.def_ 22 (d := dfs.getD 22 ⟨(Str.empty, none), Str.empty, Str.empty, defArgs (top 0), [], defScope (top 0), [], []⟩) rfl
  exact ⟨_, _, _, _, _, _, _, fd, N29, ps29, ⟨2, 5, f29⟩, [], F, sc29, rfl, rfl, rfl, FunD.bindsN (ps := ps29) F (fun _ _ _ _ _ _ us hl => match us, hl with | [_, _], _ => rfl), .nil, rfl, fun base cdv A outer s H E C k gc => b29 gc⟩
theorem fact30 {P : Program} {w : World} {K : PySem.W.Frag} {mg : Str → Option Value} (c : He.SaysD D.fa dfs K) : Fact (G0 K) (T0 K) prog P w K mg 30 := by
  obtain ⟨fd, F⟩ := c.def_ 23 (d := dfs.getD 23 ⟨(Str.empty, none), Str.empty, Str.empty, defArgs (top 0), [], defScope (top 0), [], []⟩) rfl
  exact ⟨_, _, _, _, _, _, _, fd, N30, ps30, ⟨2, 4, f30⟩, [], F, sc30, rfl, rfl, rfl, FunD.bindsN (ps := ps30) F (fun _ _ _ _ _ _ us hl => match us, hl with | [_, _], _ => rfl), .nil, rfl, fun base cdv A outer s H E C k gc => b30 gc⟩
theorem fact31 {P : Program} {w : World} {K : PySem.W.Frag} {mg : Str → Option Value} (c : He.SaysD D.fa dfs K) : Fact (G0 K) (T0 K) prog P w K mg 31 := by
  obtain ⟨fd, F⟩ := c.def_ 24 (d := dfs.getD 24 ⟨(Str.empty, none), Str.empty, Str.empty, defArgs (top 0), [], defScope (top 0), [], []⟩) rfl
  exact ⟨_, _, _, _, _, _, _, fd, N31, ps31, ⟨3, 9, f31⟩, [], F, sc31, rfl, rfl, rfl, FunD.bindsN (ps := ps31) F (fun _ _ _ _ _ _ us hl => match us, hl with | [_, _, _], _ => rfl), .nil, rfl, fun base cdv A outer s H E C k gc => b31 gc⟩
theorem fact32 {P : Program} {w : World} {K : PySem.W.Frag} {mg : Str → Option Value} (c : He.SaysD D.fa dfs K) : Fact (G0 K) (T0 K) prog P w K mg 32 := by
  obtain ⟨fd, F⟩ := c.def_ 25 (d := dfs.getD 25 ⟨(Str.empty, none), Str.empty, Str.empty, defArgs (top 0), [], defScope (top 0), [], []⟩) rfl
  exact ⟨_, _, _, _, _, _, _, fd, N32, ps32, ⟨1, 3, f32⟩, [], F, sc32, rfl, rfl, rfl, FunD.bindsN (ps := ps32) F (fun _ _ _ _ _ _ us hl => match us, hl with | [_], _ => rfl), .nil, rfl, fun base cdv A outer s H E C k gc => b32 gc⟩
theorem fact33 {P : Program} {w : World} {K : PySem.W.Frag} {mg : Str → Option Value} (c : He.SaysD D.fa dfs K) : Fact (G0 K) (T0 K) prog P w K mg 33 := by
  obtain ⟨fd, F⟩ := c.def_ 26 (d := dfs.getD 26 ⟨(Str.empty, none), Str.empty, Str.empty, defArgs (top 0), [], defScope (top 0), [], []⟩) rfl
  exact ⟨_, _, _, _, _, _, _, fd, N33, ps33, ⟨1, 3, f33⟩, [], F, sc33, rfl, rfl, rfl, FunD.bindsN (ps := ps33) F (fun _ _ _ _ _ _ us hl => match us, hl with | [_], _ => rfl), .nil, rfl, fun base cdv A outer s H E C k gc => b33 gc⟩
theorem fact34 {P : Program} {w : World} {K : PySem.W.Frag} {mg : Str → Option Value} (c : He.SaysD D.fa dfs K) : Fact (G0 K) (T0 K) prog P w K mg 34 := by
  obtain ⟨fd, F⟩ := c.def_ 27 (d := dfs.getD 27 ⟨(Str.empty, none), Str.empty, Str.empty, defArgs (top 0), [], defScope (top 0), [], []⟩) rfl
  exact ⟨_, _, _, _, _, _, _, fd, N34, ps34, ⟨1, 2, f34⟩, [], F, sc34, rfl, rfl, rfl, FunD.bindsN (ps := ps34) F (fun _ _ _ _ _ _ us hl => match us, hl with | [_], _ => rfl), .nil, rfl, fun base cdv A outer s H E C k gc => b34 gc⟩
theorem fact35 {P : Program} {w : World} {K : PySem.W.Frag} {mg : Str → Option Value} (c : He.SaysD D.fa dfs K) : Fact (G0 K) (T0 K) prog P w K mg 35 := by
  obtain ⟨fd, F⟩ := c.def_ 28 (d := dfs.getD 28 ⟨(Str.empty, none), Str.empty, Str.empty, defArgs (top 0), [], defScope (top 0), [], []⟩) rfl
  exact ⟨_, _, _, _, _, _, _, fd, N35, ps35, ⟨1, 16, f35⟩, [], F, sc35, rfl, rfl, rfl, FunD.bindsN (ps := ps35) F (fun _ _ _ _ _ _ us hl => match us, hl with | [_], _ => rfl), .nil, rfl, fun base cdv A outer s H E C k gc => b35 gc⟩
theorem facts {P : Program} {w : World} {K : PySem.W.Frag} {mg : Str → Option Value} (c : He.SaysD D.fa dfs K) : ∀ j, (T0 K).has j = true → Fact (G0 K) (T0 K) prog P w K mg j := by
  intro j hj
  have hm : j ∈ has := inL_mem hj
  simp only [has, has_0, has_1, List.mem_append, List.mem_cons, List.not_mem_nil, or_false] at hm
  rcases hm with hm | hm
  · rcases hm with rfl | hm
    · exact fact3 c
    rcases hm with rfl | hm
    · exact fact4 c
    rcases hm with rfl | hm
    · exact fact5 c
    rcases hm with rfl | hm
    · exact fact6 c
    rcases hm with rfl | hm
    · exact fact7 c
    rcases hm with rfl | hm
    · exact fact8 c
    rcases hm with rfl | hm
    · exact fact9 c
    rcases hm with rfl | hm
    · exact fact10 c
    rcases hm with rfl | hm
    · exact fact11 c
    rcases hm with rfl | hm
    · exact fact12 c
    rcases hm with rfl | hm
    · exact fact13 c
    rcases hm with rfl | hm
    · exact fact14 c
    rcases hm with rfl | hm
    · exact fact15 c
    rcases hm with rfl | hm
    · exact fact16 c
    rcases hm with rfl | hm
    · exact fact17 c
    rcases hm with rfl | hm
    · exact fact18 c
    rcases hm with rfl | hm
    · exact fact20 c
    rcases hm with rfl | hm
    · exact fact21 c
    rcases hm with rfl | hm
    · exact fact22 c
    subst hm
    exact fact23 c
  · rcases hm with rfl | hm
    · exact fact24 c
    rcases hm with rfl | hm
    · exact fact28 c
    rcases hm with rfl | hm
    · exact fact29 c
    rcases hm with rfl | hm
    · exact fact30 c
    rcases hm with rfl | hm
    · exact fact31 c
    rcases hm with rfl | hm
    · exact fact32 c
    rcases hm with rfl | hm
    · exact fact33 c
    rcases hm with rfl | hm
    · exact fact34 c
    subst hm
    exact fact35 c
/-- from the plain law to the row -/
theorem whole {d : Nat} (hd : Room (2 * (d + 1)) callerA) (hlaw : ∀ ns : List Int, ns.length ≤ 63 → ∃ S, callF prog (d + 1) 35 [.fro (ns.map Va.int)] ⟨0, .nil⟩ = .ok (.bl true) S) :
    PySem.W.WalkO (PySem.W.view Rw.prog [36]) loose (PySem.W.XL (PySem.W.view Rw.prog [36]) []) hk.says Rw.toRowW (HandSHeadRun.topDef Rw.prog 36) [] (fun f vs => PySem.call f vs) := by
  refine L2.walk_ofE (l := PySem.Challenge.rw_faultward_k88_whole_houses_at_other_time) (n := 63) (k := 2 * (d + 1)) (x := "script") (CX := L2.CX0) rfl (by decide) (by kernel_rfl) hd ?F (fun _ _ _ _ z => z)
  intro w mg fa h Y N hmg0
  obtain ⟨K, KX, c, ex⟩ := Y
  have hmg : mg ("law" : Str) = some (.ref fa) := by
    have e : (HandSHeadRun.topDef Rw.prog 36).name = ("law" : Str) := by kernel_rfl
    rw [← e]
    exact hmg0
  have g : Glob (G0 K) (T0 K) K mg := D.glob D_ok (says_facts c) ex KX N
  obtain ⟨fd, F⟩ := c.def_ 28 (d := dfs.getD 28 ⟨(Str.empty, none), Str.empty, Str.empty, defArgs (top 0), [], defScope (top 0), [], []⟩) rfl
  obtain ⟨_, e1, _⟩ := g.fn 35 ("law" : Str) rfl
  have e2 := hmg.symm.trans e1
  cases e2
  have b := FunD.bindsA (ps := ["script"]) F fun _ _ _ _ _ _ us hl => match us, hl with | [_], _ => rfl
  exact ⟨K, fd, spOf (G0 K) (callF prog (d + 1)) 1 35, KX, fun s v => b s [v] rfl, fun H a ns hl hO hS => law_sp (G := G0 K) hlaw hl hO hS, fun base _ _ => law_fn g (facts c) (j := 35) rfl d F sc35 rfl rfl rfl (fun base cdv A outer s H E C k gc => b35 gc) base⟩
end Pg
namespace Mi
open PySem PySem.Spec PyProof.Rows L2 Pg
/-! ### trees -/
inductive Nd where
  | wk (s : Nat)
  | kp (s : Nat) (mode : Nat) (most span : Int) (ch : List Nd)
mutual
def Nd.dep : Nd → Nat
  | .wk _ => 0
  | .kp _ _ _ _ ch => Nd.depL ch + 1
def Nd.depL : List Nd → Nat
  | [] => 0
  | n :: r => max n.dep (Nd.depL r)
end
def modeS : Nat → Str
  | 0 => s7
  | 1 => s6
  | _ => s5
mutual
def Nd.va (φ : Nat → Str) : Nd → Va
  | .wk s => .tup [.str s4, .str (φ s)]
  | .kp s m a b ch => .tup [.str s1, .str (φ s), .str (modeS m), .int a, .int b, .tup (Nd.vaL φ ch)]
def Nd.vaL (φ : Nat → Str) : List Nd → List Va
  | [] => []
  | n :: r => n.va φ :: Nd.vaL φ r
end
mutual
def Nd.wks : Nd → List Nat
  | .wk s => [s]
  | .kp _ _ _ _ ch => Nd.wksL ch
def Nd.wksL : List Nd → List Nat
  | [] => []
  | n :: r => n.wks ++ Nd.wksL r
end
mutual
def Nd.nms : Nd → List Nat
  | .wk s => [s]
  | .kp s _ _ _ ch => s :: Nd.nmsL ch
def Nd.nmsL : List Nd → List Nat
  | [] => []
  | n :: r => n.nms ++ Nd.nmsL r
end
theorem Nd.depL_le : ∀ {ch : List Nd} {c : Nd}, c ∈ ch → c.dep ≤ Nd.depL ch
  | n :: r, c, h => by
    unfold Nd.depL
    rcases List.mem_cons.mp h with e | h
    · subst e; exact Nat.le_max_left _ _
    · exact Nat.le_trans (Nd.depL_le h) (Nat.le_max_right _ _)
theorem Nd.vaL_map (φ : Nat → Str) : ∀ ch : List Nd, Nd.vaL φ ch = ch.map (Nd.va φ)
  | [] => rfl
  | n :: r => by unfold Nd.vaL; rw [Nd.vaL_map φ r] <;> rfl
theorem Nd.wksL_flat : ∀ ch : List Nd, Nd.wksL ch = (ch.map Nd.wks).flatten
  | [] => rfl
  | n :: r => by unfold Nd.wksL; rw [Nd.wksL_flat r] <;> rfl
theorem Nd.nmsL_flat : ∀ ch : List Nd, Nd.nmsL ch = (ch.map Nd.nms).flatten
  | [] => rfl
  | n :: r => by unfold Nd.nmsL; rw [Nd.nmsL_flat r] <;> rfl
mutual
theorem Nd.wks_le : ∀ n : Nd, n.wks.length ≤ n.nms.length
  | .wk _ => Nat.le_refl _
  | .kp _ _ _ _ ch => Nat.le_succ_of_le (Nd.wksL_le ch)
theorem Nd.wksL_le : ∀ ch : List Nd, (Nd.wksL ch).length ≤ (Nd.nmsL ch).length
  | [] => Nat.le_refl _
  | n :: r => by
    unfold Nd.wksL Nd.nmsL
    rw [List.length_append, List.length_append]
    exact Nat.add_le_add (Nd.wks_le n) (Nd.wksL_le r)
end
theorem Nd.nms_mem {ch : List Nd} {c : Nd} (h : c ∈ ch) : c.nms.length ≤ (Nd.nmsL ch).length := by
  rw [Nd.nmsL_flat]
  induction ch with
  | nil => cases h
  | cons n r ih =>
    rw [List.map_cons, List.flatten_cons, List.length_append]
    rcases List.mem_cons.mp h with e | h
    · subst e; omega
    · have := ih h; omega
abbrev txs (φ : Nat → Str) (l : List Nat) : List Va := l.map fun i => .str (φ i)
theorem txs_app (φ : Nat → Str) (a b : List Nat) : txs φ (a ++ b) = txs φ a ++ txs φ b := List.map_append
theorem txs_flat (φ : Nat → Str) (f : Nd → List Nat) : ∀ ch : List Nd, (ch.map fun c => txs φ (f c)).flatten = txs φ (ch.map f).flatten
  | [] => rfl
  | c :: r => by
    rw [List.map_cons, List.flatten_cons, txs_flat φ f r, List.map_cons, List.flatten_cons, txs_app]
theorem s1_s4 : decide (s1 = s4) = false := by decide
theorem s4_s1 : decide (s4 = s1) = false := by decide
theorem isW {φ : Nat → Str} {s : Nat} {env : Ev} {S : Sto} (h : env[0]? = some (some ((Nd.wk s).va φ))) (t : Str) : mBool (mBin gEq (mIx (mVar 0) (mC (.int 0))) (mC (.str t))) env S = .ok (decide (s4 = t)) S := by
  have : mVar 0 env S = .ok (.tup [.str s4, .str (φ s)]) S := by unfold mVar; rw [h]; unfold Nd.va; rfl
  unfold mBool mBin mIx
  rw [this, bind_ok, mC, bind_ok]
  rfl
theorem isK {φ : Nat → Str} {s m : Nat} {a b : Int} {ch : List Nd} {env : Ev} {S : Sto} (h : env[0]? = some (some ((Nd.kp s m a b ch).va φ))) (t : Str) : mBool (mBin gEq (mIx (mVar 0) (mC (.int 0))) (mC (.str t))) env S = .ok (decide (s1 = t)) S := by
  have : mVar 0 env S = .ok (.tup [.str s1, .str (φ s), .str (modeS m), .int a, .int b, .tup (Nd.vaL φ ch)]) S := by unfold mVar; rw [h]; unfold Nd.va; rfl
  unfold mBool mBin mIx
  rw [this, bind_ok, mC, bind_ok]
  rfl
theorem kidsK {φ : Nat → Str} {s m : Nat} {a b : Int} {ch : List Nd} {env : Ev} {S : Sto} (h : env[0]? = some (some ((Nd.kp s m a b ch).va φ))) : mIx (mVar 0) (mC (.int 5)) env S = .ok (.tup (ch.map (Nd.va φ))) S := by
  have : mVar 0 env S = .ok (.tup [.str s1, .str (φ s), .str (modeS m), .int a, .int b, .tup (Nd.vaL φ ch)]) S := by unfold mVar; rw [h]; unfold Nd.va; rfl
  unfold mIx
  rw [this, bind_ok, mC, bind_ok]
  show R.ok (Va.tup (Nd.vaL φ ch)) S = _
  rw [Nd.vaL_map]
theorem nameN {φ : Nat → Str} {n : Nd} {env : Ev} {S : Sto} {j : Nat} (h : env[j]? = some (some (n.va φ))) : ∃ s r, n.nms = s :: r ∧ mIx (mVar j) (mC (.int 1)) env S = .ok (.str (φ s)) S := by
  cases n with
  | wk s =>
    refine ⟨s, [], rfl, ?_⟩
    have : mVar j env S = .ok (.tup [.str s4, .str (φ s)]) S := by unfold mVar; rw [h]; unfold Nd.va; rfl
    unfold mIx
    rw [this, bind_ok, mC, bind_ok]
    rfl
  | kp s m a b ch =>
    refine ⟨s, Nd.nmsL ch, rfl, ?_⟩
    have : mVar j env S = .ok (.tup [.str s1, .str (φ s), .str (modeS m), .int a, .int b, .tup (Nd.vaL φ ch)]) S := by unfold mVar; rw [h]; unfold Nd.va; rfl
    unfold mIx
    rw [this, bind_ok, mC, bind_ok]
    rfl
/-- workers_in -/
theorem workers9 {φ : Nat → Str} : ∀ (d : Nat) (n : Nd) (S : Sto), n.dep ≤ d → n.nms.length ≤ 100 →
    ∃ L S', callF prog (d + 1) 9 [n.va φ] S = .ok (.ref L) S' ∧ S'.get L = some (.lst (txs φ n.wks)) ∧ S.n ≤ L ∧ L < S'.n ∧ Fr [] S S' := by
  intro d
  induction d with
  | zero =>
    intro n S hd hl
    cases n with
    | kp s m a b ch => simp [Nd.dep] at hd
    | wk s =>
      rw [callF_succ (df := ⟨1, 3, f9⟩) rfl rfl]
      refine ⟨S.n, S.new (.lst [.str (φ s)]), ?_, Sto.get_new, Nat.le_refl _, Nat.lt_succ_self _, Fr.new [] S _⟩
      show runB (f9 (callF prog 0) [some ((Nd.wk s).va φ), none, none] S) = _
      unfold f9
      rw [seq_rt (v := .ref S.n) (S1 := S.new (.lst [.str (φ s)])) (by rw [ifs_t (isW rfl s4)]; unfold Nd.va; rfl)]
      rfl
  | succ d ih =>
    intro n S hd hl
    rw [callF_succ (df := ⟨1, 3, f9⟩) rfl rfl]
    show ∃ L S', runB (f9 (callF prog (d + 1)) [some (n.va φ), none, none] S) = _ ∧ _
    cases n with
    | wk s =>
      refine ⟨S.n, S.new (.lst [.str (φ s)]), ?_, Sto.get_new, Nat.le_refl _, Nat.lt_succ_self _, Fr.new [] S _⟩
      unfold f9
      rw [seq_rt (v := .ref S.n) (S1 := S.new (.lst [.str (φ s)])) (by rw [ifs_t (isW rfl s4)]; unfold Nd.va; rfl)]
      rfl
    | kp s m a b ch =>
      have hch : (Nd.nmsL ch).length ≤ 100 := by
        have : (Nd.nmsL ch).length + 1 ≤ 100 := hl
        omega
      obtain ⟨D, S', e, g, h1, h2, f⟩ := lc2_of (fi := iSeq (mIx (mVar 0) (mC (.int 5)))) (fi1 := iSeq (mCall (callF prog (d + 1)) 9 (mCons (mVar 1) mNil) [])) (t := tNm 1) (t1 := tNm 2) (elt := mVar 2) (vs := [1, 2]) (vs1 := [2]) (env := [some ((Nd.kp s m a b ch).va φ), none, none]) (S := S) (S1 := S) (m := miL (ch.map (Nd.va φ))) (xs := ch.map (Nd.va φ)) (ch.map fun c => txs φ c.wks)
        (by unfold iSeq; rw [kidsK rfl] <;> rfl) (items_L _) (by rw [List.length_map, List.length_map]) (by
          have := Nd.wksL_le ch
          rw [Nd.wksL_flat] at this
          have e : (ch.map fun c => txs φ c.wks).flatten = txs φ (ch.map Nd.wks).flatten := by
            exact txs_flat φ Nd.wks ch
          rw [e, List.length_map]
          omega)
        (fun i x zs S2 hx hz f hlt => by
          rw [List.getElem?_map] at hx hz
          cases q : ch[i]? with
          | none => rw [q] at hx; cases hx
          | some c =>
            rw [q] at hx hz
            cases hx
            cases hz
            have hm := List.mem_of_getElem? q
            obtain ⟨L, S3, e1, e2, e3, e4, e5⟩ := ih c (S2) (by have := Nd.depL_le hm; have hd' : Nd.depL ch + 1 ≤ d + 1 := hd; omega) (Nat.le_trans (Nd.nms_mem hm) hch)
            refine ⟨[some ((Nd.kp s m a b ch).va φ), some (c.va φ), none], L, S3, rfl, ?_, e2, ?_, e5, fun z S4 => ⟨[some ((Nd.kp s m a b ch).va φ), some (c.va φ), some z], rfl, rfl⟩⟩
            · have : mCall (callF prog (d + 1)) 9 (mCons (mVar 1) mNil) [] [some ((Nd.kp s m a b ch).va φ), some (c.va φ), none] S2 = .ok (.ref L) S3 := e1
              unfold iSeq
              rw [this, bind_ok]
              show (match S3.get L with | some (.lst xs) => R.ok (miR L xs.length) S3 | _ => .bad) = _
              rw [e2]
            · omega)
      refine ⟨D, S', ?_, ?_, by omega, h2, f⟩
      · unfold f9
        rw [seq_nx (e1 := [some ((Nd.kp s m a b ch).va φ), none, none]) (S1 := S) (by rw [ifs_f (S1 := S) (by rw [isK rfl s4, s1_s4])]; rfl)]
        rw [ret_ok e]
        rfl
      · rw [g]
        have e : (ch.map fun c => txs φ c.wks).flatten = txs φ (Nd.wksL ch) := by
          rw [Nd.wksL_flat]
          exact txs_flat φ Nd.wks ch
        rw [e]
        rfl
end Mi
namespace Mi
open PySem PySem.Spec PyProof.Rows L2 Pg
theorem loop_nx {I : Ev → Sto → Prop} {r : R Fl} (h : LoopOk I (fun _ _ => False) r) : ∃ e S, r = .ok (.nx e) S ∧ I e S := by
  cases r with
  | bad => exact h.elim
  | ok fl S => cases fl with
    | nx e => exact ⟨e, S, rfl, h⟩
    | rt v => exact h.elim
    | bk e => exact h.elim
    | ct e => exact h.elim
theorem take_flat {α : Type} {f : Nd → List α} {ch : List Nd} {i : Nat} {c : Nd} (h : ch[i]? = some c) : ((ch.take (i + 1)).map f).flatten = ((ch.take i).map f).flatten ++ f c := by
  rw [List.take_succ, h, List.map_append, List.flatten_append]
  simp
theorem flat_le {f : Nd → List Nat} {ch : List Nd} (i : Nat) : ((ch.take i).map f).flatten.length ≤ ((ch.map f).flatten).length := by
  have e : ch.map f = (ch.take i).map f ++ (ch.drop i).map f := by rw [← List.map_append, List.take_append_drop]
  rw [e, List.flatten_append, List.length_append]
  omega
/-- names_in -/
theorem names7 {φ : Nat → Str} : ∀ (d : Nat) (n : Nd) (S : Sto), n.dep ≤ d → n.nms.length ≤ 100 →
    ∃ L S', callF prog (d + 1) 7 [n.va φ] S = .ok (.ref L) S' ∧ S'.get L = some (.lst (txs φ n.nms)) ∧ S.n ≤ L ∧ L < S'.n ∧ Fr [] S S' := by
  intro d
  induction d with
  | zero =>
    intro n S hd hl
    cases n with
    | kp s m a b ch => simp [Nd.dep] at hd
    | wk s =>
      rw [callF_succ (df := ⟨1, 3, f7⟩) rfl rfl]
      refine ⟨S.n, S.new (.lst [.str (φ s)]), ?_, Sto.get_new, Nat.le_refl _, Nat.lt_succ_self _, Fr.new [] S _⟩
      show runB (f7 (callF prog 0) [some ((Nd.wk s).va φ), none, none] S) = _
      unfold f7
      rw [seq_nx (e1 := [some ((Nd.wk s).va φ), some (.ref S.n), none]) (S1 := S.new (.lst [.str (φ s)])) (set_ok (v := .ref S.n) (by unfold Nd.va; rfl) rfl),
        seq_nx (e1 := [some ((Nd.wk s).va φ), some (.ref S.n), none]) (S1 := S.new (.lst [.str (φ s)])) (by rw [ifs_f (by rw [isW rfl s1, s4_s1])]; rfl)]
      rfl
  | succ d ih =>
    intro n S hd hl
    rw [callF_succ (df := ⟨1, 3, f7⟩) rfl rfl]
    show ∃ L S', runB (f7 (callF prog (d + 1)) [some (n.va φ), none, none] S) = _ ∧ _
    cases n with
    | wk s =>
      refine ⟨S.n, S.new (.lst [.str (φ s)]), ?_, Sto.get_new, Nat.le_refl _, Nat.lt_succ_self _, Fr.new [] S _⟩
      unfold f7
      rw [seq_nx (e1 := [some ((Nd.wk s).va φ), some (.ref S.n), none]) (S1 := S.new (.lst [.str (φ s)])) (set_ok (v := .ref S.n) (by unfold Nd.va; rfl) rfl),
        seq_nx (e1 := [some ((Nd.wk s).va φ), some (.ref S.n), none]) (S1 := S.new (.lst [.str (φ s)])) (by rw [ifs_f (by rw [isW rfl s1, s4_s1])]; rfl)]
      rfl
    | kp s m a b ch =>
      have hch : (Nd.nmsL ch).length + 1 ≤ 100 := hl
      have hfl := Nd.nmsL_flat ch
      obtain ⟨S1, eS1⟩ : ∃ S1, S.new (.lst [.str (φ s)]) = S1 := ⟨_, rfl⟩
      have g1 : S1.get S.n = some (.lst [.str (φ s)]) := eS1 ▸ Sto.get_new
      have F1 : Fr [] S S1 := eS1 ▸ Fr.new [] S _
      have lp := for_items (fi := iSeq (mIx (mVar 0) (mC (.int 5)))) (t := tNm 2) (body := mExpr (mBm .list gExtend (mVar 1) (mCons (mCall (callF prog (d + 1)) 7 (mCons (mVar 2) mNil) []) mNil))) (env := [some ((Nd.kp s m a b ch).va φ), some (.ref S.n), none]) (S := S1) (S1 := S1) (xs := ch.map (Nd.va φ))
        (fun i env S' => (∃ x, env = [some ((Nd.kp s m a b ch).va φ), some (.ref S.n), x]) ∧ S'.get S.n = some (.lst (txs φ (s :: ((ch.take i).map Nd.nms).flatten))) ∧ Fr [] S S') (fun _ _ => False)
        (by unfold iSeq; rw [kidsK rfl] <;> rfl) ⟨⟨_, rfl⟩, g1, F1⟩ (fun i v env S' hv ⟨⟨x, he⟩, h2, h3⟩ => by
          subst he
          rw [List.getElem?_map] at hv
          cases q : ch[i]? with
          | none => rw [q] at hv; cases hv
          | some c =>
            rw [q] at hv
            cases hv
            have hm := List.mem_of_getElem? q
            obtain ⟨L, S3, e1, e2, e3, e4, e5⟩ := ih c S' (by have := Nd.depL_le hm; have hd' : Nd.depL ch + 1 ≤ d + 1 := hd; omega) (by have := Nd.nms_mem hm; omega)
            refine ⟨[some ((Nd.kp s m a b ch).va φ), some (.ref S.n), some (c.va φ)], rfl, ?_⟩
            have hlt := Sto.lt h2
            have h2' := e5.at h2 (by simp)
            have hle : Nat.ble ((txs φ (s :: ((ch.take i).map Nd.nms).flatten)).length + (txs φ c.nms).length) 16777216 = true := by
              have h6 := flat_le (f := Nd.nms) (ch := ch) i
              have h7 := Nd.nms_mem hm
              rw [← hfl] at h6
              rw [List.length_map, List.length_map, List.length_cons]
              exact Nat.ble_eq_true_of_le (by omega)
            have hb : mBm .list gExtend (mVar 1) (mCons (mCall (callF prog (d + 1)) 7 (mCons (mVar 2) mNil) []) mNil) [some ((Nd.kp s m a b ch).va φ), some (.ref S.n), some (c.va φ)] S' = .ok .non (S3.set S.n (.lst (txs φ (s :: ((ch.take i).map Nd.nms).flatten) ++ txs φ c.nms))) := by
              have hc : mCall (callF prog (d + 1)) 7 (mCons (mVar 2) mNil) [] [some ((Nd.kp s m a b ch).va φ), some (.ref S.n), some (c.va φ)] S' = .ok (.ref L) S3 := e1
              rw [bm_ok rfl (kn_L h2) (cons_ok hc rfl)]
              exact extend_ok h2' e2 (Nat.le_of_ble_eq_true hle)
            rw [exp_ok hb]
            refine ⟨⟨_, rfl⟩, ?_, (h3.trans e5).upd (Fr.refl _ _) (Nat.le_refl _)⟩
            rw [Sto.get_set (Nat.lt_of_lt_of_le hlt e5.le), take_flat q, ← txs_app] <;> rfl)
      obtain ⟨e6, S6, q6, ⟨x, rfl⟩, h2, h3⟩ := loop_nx lp
      rw [List.length_map, List.take_length] at h2
      refine ⟨S.n, S6, ?_, ?_, Nat.le_refl _, Sto.lt h2, h3⟩
      · unfold f7
        rw [seq_nx (e1 := [some ((Nd.kp s m a b ch).va φ), some (.ref S.n), none]) (S1 := S1) (set_ok (v := .ref S.n) (by unfold Nd.va; rw [← eS1]; rfl) rfl),
          seq_nx (e1 := [some ((Nd.kp s m a b ch).va φ), some (.ref S.n), x]) (S1 := S6) (by rw [ifs_t (S1 := S1) (by rw [isK rfl s1]; simp)]; exact q6)]
        rfl
      · rw [h2, ← hfl] <;> rfl
end Mi
namespace Mi
open PySem PySem.Spec PyProof.Rows L2 Pg
mutual
def Nd.nds : Nd → List Nd
  | .wk s => [.wk s]
  | .kp s m a b ch => .kp s m a b ch :: Nd.ndsL ch
def Nd.ndsL : List Nd → List Nd
  | [] => []
  | n :: r => n.nds ++ Nd.ndsL r
end
theorem Nd.ndsL_flat : ∀ ch : List Nd, Nd.ndsL ch = (ch.map Nd.nds).flatten
  | [] => rfl
  | n :: r => by unfold Nd.ndsL; rw [Nd.ndsL_flat r] <;> rfl
mutual
theorem Nd.nds_len : ∀ n : Nd, n.nds.length = n.nms.length
  | .wk _ => rfl
  | .kp _ _ _ _ ch => congrArg (· + 1) (Nd.ndsL_len ch)
theorem Nd.ndsL_len : ∀ ch : List Nd, (Nd.ndsL ch).length = (Nd.nmsL ch).length
  | [] => rfl
  | n :: r => by
    unfold Nd.ndsL Nd.nmsL
    rw [List.length_append, List.length_append, Nd.nds_len n, Nd.ndsL_len r]
end
theorem flat_leG {α : Type} {f : Nd → List α} {ch : List Nd} (i : Nat) : ((ch.take i).map f).flatten.length ≤ ((ch.map f).flatten).length := by
  have e : ch.map f = (ch.take i).map f ++ (ch.drop i).map f := by rw [← List.map_append, List.take_append_drop]
  rw [e, List.flatten_append, List.length_append]
  omega
theorem add_L {n m : Nat} {l z : List Va} {S : Sto} (h : S.get n = some (.lst l)) (h2 : S.get m = some (.lst z)) (hl : l.length + z.length ≤ 16777216) : gAdd (.ref n) (.ref m) S = .ok (.ref S.n) (S.new (.lst (l ++ z))) := by
  unfold gAdd
  try dsimp only
  rw [h, h2]
  try dsimp only
  rw [Nat.ble_eq_true_of_le hl]
/-- a loop that adds lists: found = found + f(child) -/
theorem add_loop {C : CO} {j : Nat} {fi : IF} {E0 : Va} {F : Nd → List Va} {ch : List Nd} {φ : Nat → Str} {l0 : List Va} {A0 : Nat} {S S1 S2 : Sto} (hf : fi [some E0, some (.ref A0), none] S1 = .ok (miL (ch.map (Nd.va φ))) S2) (h12 : Fr [] S1 S2) (h0 : S1.get A0 = some (.lst l0)) (hA : S.n ≤ A0) (f1 : Fr [] S S1) (hz : l0.length + ((ch.map F).flatten).length ≤ 100000)
    (ih : ∀ c ∈ ch, ∀ S, ∃ L S', C j [c.va φ] S = .ok (.ref L) S' ∧ S'.get L = some (.lst (F c)) ∧ S.n ≤ L ∧ L < S'.n ∧ Fr [] S S') :
    ∃ A x S', mFor fi (tNm 2) (mSet (tNm 1) (mBin gAdd (mVar 1) (mCall C j (mCons (mVar 2) mNil) []))) [some E0, some (.ref A0), none] S1 = .ok (.nx [some E0, some (.ref A), x]) S' ∧ S'.get A = some (.lst (l0 ++ (ch.map F).flatten)) ∧ S.n ≤ A ∧ Fr [] S S' := by
  have lp := for_items (fi := fi) (t := tNm 2) (body := mSet (tNm 1) (mBin gAdd (mVar 1) (mCall C j (mCons (mVar 2) mNil) []))) (env := [some E0, some (.ref A0), none]) (S := S1) (S1 := S2) (xs := ch.map (Nd.va φ))
    (fun i env S' => ∃ A x, env = [some E0, some (.ref A), x] ∧ S'.get A = some (.lst (l0 ++ ((ch.take i).map F).flatten)) ∧ S.n ≤ A ∧ Fr [] S S') (fun _ _ => False) hf ⟨A0, none, rfl, by rw [h12.at h0 (by simp)]; simp, hA, f1.trans h12⟩
    (fun i v env S' hv ⟨A, x, he, h2, h3, h4⟩ => by
      subst he
      rw [List.getElem?_map] at hv
      cases q : ch[i]? with
      | none => rw [q] at hv; cases hv
      | some c =>
        rw [q] at hv
        cases hv
        have hm := List.mem_of_getElem? q
        obtain ⟨L, S3, e1, e2, e3, e4, e5⟩ := ih c hm S'
        refine ⟨[some E0, some (.ref A), some (c.va φ)], rfl, ?_⟩
        have hc : mCall C j (mCons (mVar 2) mNil) [] [some E0, some (.ref A), some (c.va φ)] S' = .ok (.ref L) S3 := e1
        have hle : (l0 ++ ((ch.take i).map F).flatten).length + (F c).length ≤ 16777216 := by
          have h6 := flat_leG (f := F) (ch := ch) (i + 1)
          rw [take_flat q, List.length_append] at h6
          rw [List.length_append]
          omega
        have hs : mSet (tNm 1) (mBin gAdd (mVar 1) (mCall C j (mCons (mVar 2) mNil) [])) [some E0, some (.ref A), some (c.va φ)] S' = .ok (.nx [some E0, some (.ref S3.n), some (c.va φ)]) (S3.new (.lst (l0 ++ ((ch.take i).map F).flatten ++ F c))) :=
          set_ok (by rw [bin_ok rfl hc, add_L (e5.at h2 (by simp)) e2 hle]) rfl
        rw [hs]
        refine ⟨S3.n, _, rfl, ?_, Nat.le_trans h4.le e5.le, (h4.trans e5).trans (Fr.new [] S3 _)⟩
        rw [Sto.get_new, take_flat q, List.append_assoc])
  obtain ⟨e6, S6, q6, A, x, rfl, h2, h3, h4⟩ := loop_nx lp
  rw [List.length_map, List.take_length] at h2
  exact ⟨A, x, S6, q6, h2, h3, h4⟩
theorem wk_va (φ : Nat → Str) (s : Nat) : (Nd.wk s).va φ = .tup [.str s4, .str (φ s)] := by unfold Nd.va; rfl
theorem kp_va (φ : Nat → Str) (s m : Nat) (a b : Int) (ch : List Nd) : (Nd.kp s m a b ch).va φ = .tup [.str s1, .str (φ s), .str (modeS m), .int a, .int b, .tup (ch.map (Nd.va φ))] := by unfold Nd.va; rw [Nd.vaL_map]
/-- _law_workers -/
theorem workers32 {φ : Nat → Str} : ∀ (d : Nat) (n : Nd) (S : Sto), n.dep ≤ d → n.nms.length ≤ 100 →
    ∃ L S', callF prog (d + 1) 32 [n.va φ] S = .ok (.ref L) S' ∧ S'.get L = some (.lst (txs φ n.wks)) ∧ S.n ≤ L ∧ L < S'.n ∧ Fr [] S S' := by
  intro d
  induction d with
  | zero =>
    intro n S hd hl
    cases n with
    | kp s m a b ch => simp [Nd.dep] at hd
    | wk s =>
      rw [callF_succ (df := ⟨1, 3, f32⟩) rfl rfl]
      refine ⟨S.n, S.new (.lst [.str (φ s)]), ?_, Sto.get_new, Nat.le_refl _, Nat.lt_succ_self _, Fr.new [] S _⟩
      show runB (f32 (callF prog 0) [some ((Nd.wk s).va φ), none, none] S) = _
      unfold f32
      rw [seq_rt (v := .ref S.n) (S1 := S.new (.lst [.str (φ s)])) (by rw [ifs_t (isW rfl s4), wk_va]; rfl)]
      rfl
  | succ d ih =>
    intro n S hd hl
    rw [callF_succ (df := ⟨1, 3, f32⟩) rfl rfl]
    show ∃ L S', runB (f32 (callF prog (d + 1)) [some (n.va φ), none, none] S) = _ ∧ _
    cases n with
    | wk s =>
      refine ⟨S.n, S.new (.lst [.str (φ s)]), ?_, Sto.get_new, Nat.le_refl _, Nat.lt_succ_self _, Fr.new [] S _⟩
      unfold f32
      rw [seq_rt (v := .ref S.n) (S1 := S.new (.lst [.str (φ s)])) (by rw [ifs_t (isW rfl s4), wk_va]; rfl)]
      rfl
    | kp s m a b ch =>
      have hch : (Nd.nmsL ch).length + 1 ≤ 100 := hl
      have hwl := Nd.wksL_le ch
      have hwf := Nd.wksL_flat ch
      obtain ⟨A, x, S', e, g, hA, f⟩ := add_loop (C := callF prog (d + 1)) (j := 32) (fi := iSeq (mIx (mVar 0) (mC (.int 5)))) (E0 := (Nd.kp s m a b ch).va φ) (F := fun c => txs φ c.wks) (ch := ch) (φ := φ) (l0 := []) (A0 := S.n) (S := S) (S1 := S.new (.lst [])) (S2 := S.new (.lst []))
        (seq_T (kidsK rfl)) (Fr.refl _ _) Sto.get_new (Nat.le_refl _) (Fr.new [] S _) (by
          rw [txs_flat φ Nd.wks ch, ← hwf, List.length_map, List.length_nil]
          omega) (fun c hm S => ih c S (by have := Nd.depL_le hm; have hd' : Nd.depL ch + 1 ≤ d + 1 := hd; omega) (by have := Nd.nms_mem hm; omega))
      refine ⟨A, S', ?_, ?_, hA, Sto.lt g, f⟩
      · unfold f32
        rw [seq_nx (e1 := [some ((Nd.kp s m a b ch).va φ), none, none]) (S1 := S) (by rw [ifs_f (S1 := S) (by rw [isK rfl s4, s1_s4])]; rfl)]
        rw [seq_nx (e1 := [some ((Nd.kp s m a b ch).va φ), some (.ref S.n), none]) (S1 := S.new (.lst [])) (set_ok (v := .ref S.n) rfl rfl), seq_nx e]
        rfl
      · rw [g, List.nil_append, txs_flat φ Nd.wks ch, ← hwf] <;> rfl
theorem for_none {fi : IF} {t : TF} {body : SF} {env : Ev} {S S1 : Sto} {a : Nat} (hf : fi env S = .ok (miR a 0) S1) (h : S1.get a = some (.lst [])) : mFor fi t body env S = .ok (.nx env) S1 := by
  have lp := for_list' (fi := fi) (t := t) (body := body) (env := env) (S := S) (S1 := S1) (a := a) (xs := []) (fun _ e s => e = env ∧ s = S1) (fun _ _ => False) hf ⟨rfl, rfl⟩ (fun i e s ⟨_, h2⟩ => by rw [h2]; exact h) (fun i v e s hv _ => by simp at hv)
  obtain ⟨e, s, q, h1, h2⟩ := loop_nx lp
  rw [q, h1, h2]
theorem nodes33w {φ : Nat → Str} (d s : Nat) (S : Sto) : ∃ L S', callF prog (d + 1) 33 [(Nd.wk s).va φ] S = .ok (.ref L) S' ∧ S'.get L = some (.lst ((Nd.wk s).nds.map (Nd.va φ))) ∧ S.n ≤ L ∧ L < S'.n ∧ Fr [] S S' := by
  rw [callF_succ (df := ⟨1, 3, f33⟩) rfl rfl]
  obtain ⟨S1, eS1⟩ : ∃ S1, S.new (.lst [(Nd.wk s).va φ]) = S1 := ⟨_, rfl⟩
  have g1 : S1.get S.n = some (.lst [(Nd.wk s).va φ]) := eS1 ▸ Sto.get_new
  have F1 : Fr [] S S1 := eS1 ▸ Fr.new [] S _
  refine ⟨S.n, S1.new (.lst []), ?_, Sto.get_new_of g1, Nat.le_refl _, Nat.lt_succ_of_lt (Sto.lt g1), F1.trans (Fr.new [] S1 _)⟩
  show runB (f33 (callF prog d) [some ((Nd.wk s).va φ), none, none] S) = _
  unfold f33
  have e : mIf (mBool (mBin gEq (mIx (mVar 0) (mC (.int 0))) (mC (.str s1)))) (mIx (mVar 0) (mC (.int 5))) (mLst mNil) [some ((Nd.wk s).va φ), some (.ref S.n), none] S1 = .ok (.ref S1.n) (S1.new (.lst [])) := by
    unfold mIf
    rw [isW rfl s1, s4_s1] <;> rfl
  rw [seq_nx (e1 := [some ((Nd.wk s).va φ), some (.ref S.n), none]) (S1 := S1) (set_ok (v := .ref S.n) (by rw [← eS1]; rfl) rfl),
    seq_nx (for_none (seq_R e Sto.get_new) Sto.get_new)]
  rfl
/-- _law_nodes -/
theorem nodes33 {φ : Nat → Str} : ∀ (d : Nat) (n : Nd) (S : Sto), n.dep ≤ d → n.nms.length ≤ 100 →
    ∃ L S', callF prog (d + 1) 33 [n.va φ] S = .ok (.ref L) S' ∧ S'.get L = some (.lst (n.nds.map (Nd.va φ))) ∧ S.n ≤ L ∧ L < S'.n ∧ Fr [] S S' := by
  intro d
  induction d with
  | zero =>
    intro n S hd hl
    cases n with
    | kp s m a b ch => simp [Nd.dep] at hd
    | wk s => exact nodes33w 0 s S
  | succ d ih =>
    intro n S hd hl
    cases n with
    | wk s => exact nodes33w (d + 1) s S
    | kp s m a b ch =>
      rw [callF_succ (df := ⟨1, 3, f33⟩) rfl rfl]
      show ∃ L S', runB (f33 (callF prog (d + 1)) [some ((Nd.kp s m a b ch).va φ), none, none] S) = _ ∧ _
      have hch : (Nd.nmsL ch).length + 1 ≤ 100 := hl
      have hwf := Nd.ndsL_flat ch
      have hnl := Nd.ndsL_len ch
      have hfm : ∀ l : List Nd, (l.map fun c => c.nds.map (Nd.va φ)).flatten = ((l.map Nd.nds).flatten).map (Nd.va φ) := fun l => by
        induction l with
        | nil => rfl
        | cons c r ih => rw [List.map_cons, List.flatten_cons, ih, List.map_cons, List.flatten_cons, List.map_append]
      obtain ⟨S1, eS1⟩ : ∃ S1, S.new (.lst [(Nd.kp s m a b ch).va φ]) = S1 := ⟨_, rfl⟩
      have g1 : S1.get S.n = some (.lst [(Nd.kp s m a b ch).va φ]) := eS1 ▸ Sto.get_new
      have F1 : Fr [] S S1 := eS1 ▸ Fr.new [] S _
      obtain ⟨A, x, S', e, g, hA, f⟩ := add_loop (C := callF prog (d + 1)) (j := 33) (fi := iSeq (mIf (mBool (mBin gEq (mIx (mVar 0) (mC (.int 0))) (mC (.str s1)))) (mIx (mVar 0) (mC (.int 5))) (mLst mNil))) (E0 := (Nd.kp s m a b ch).va φ) (F := fun c => c.nds.map (Nd.va φ)) (ch := ch) (φ := φ) (l0 := [(Nd.kp s m a b ch).va φ]) (A0 := S.n) (S := S) (S1 := S1) (S2 := S1)
        (seq_T (by
          unfold mIf
          rw [isK rfl s1, decide_eq_true rfl, bind_ok]
          exact kidsK rfl)) (Fr.refl _ _) g1 (Nat.le_refl _) F1 (by
          rw [hfm, ← hwf, List.length_map, hnl, List.length_singleton]
          omega) (fun c hm S => ih c S (by have := Nd.depL_le hm; have hd' : Nd.depL ch + 1 ≤ d + 1 := hd; omega) (by have := Nd.nms_mem hm; omega))
      refine ⟨A, S', ?_, ?_, hA, Sto.lt g, f⟩
      · unfold f33
        rw [seq_nx (e1 := [some ((Nd.kp s m a b ch).va φ), some (.ref S.n), none]) (S1 := S1) (set_ok (v := .ref S.n) (by rw [← eS1]; rfl) rfl), seq_nx e]
        rfl
      · rw [g, hfm, ← hwf] <;> rfl
theorem Str_len_app (a b : Str) : (a ++ b).length = a.length + b.length := by
  show (a.cps ++ b.cps).size = _
  exact Array.size_append
/-- _law_called: all names with an x ahead -/
theorem called34 {φ ψ : Nat → Str} (hψ : ∀ i, ψ i = s0 ++ φ i) (hφ : ∀ i, (φ i).length ≤ 100) : ∀ (d : Nat) (n : Nd) (S : Sto), n.dep ≤ d → n.nms.length ≤ 100 →
    ∃ S', callF prog (d + 1) 34 [n.va φ] S = .ok (n.va ψ) S' ∧ Fr [] S S' := by
  have hx : ∀ (i : Nat) (S : Sto), gAdd (.str s0) (.str (φ i)) S = .ok (.str (ψ i)) S := fun i S => by
    unfold gAdd
    try dsimp only
    rw [Nat.ble_eq_true_of_le (by have := hφ i; have e : s0.length = 1 := rfl; omega), hψ]
  have hw : ∀ (d s : Nat) (S : Sto), ∃ S', callF prog (d + 1) 34 [(Nd.wk s).va φ] S = .ok ((Nd.wk s).va ψ) S' ∧ Fr [] S S' := fun d s S => by
    rw [callF_succ (df := ⟨1, 2, f34⟩) rfl rfl]
    refine ⟨S, ?_, Fr.refl _ _⟩
    show runB (f34 (callF prog d) [some ((Nd.wk s).va φ), none] S) = _
    unfold f34
    rw [seq_rt (v := (Nd.wk s).va ψ) (S1 := S) (by
      rw [ifs_t (isW rfl s4)]
      refine ret_ok ?_
      have e1 : mIx (mVar 0) (mC (.int 1)) [some ((Nd.wk s).va φ), none] S = .ok (.str (φ s)) S := by rw [wk_va]; rfl
      have e2 : mBin gAdd (mC (.str s0)) (mIx (mVar 0) (mC (.int 1))) [some ((Nd.wk s).va φ), none] S = .ok (.str (ψ s)) S := by rw [bin_ok rfl e1]; exact hx s S
      unfold mTup
      rw [cons_ok rfl (cons_ok e2 rfl), bind_ok, wk_va] <;> rfl)]
    rfl
  intro d
  induction d with
  | zero =>
    intro n S hd hl
    cases n with
    | kp s m a b ch => simp [Nd.dep] at hd
    | wk s => exact hw 0 s S
  | succ d ih =>
    intro n S hd hl
    cases n with
    | wk s => exact hw (d + 1) s S
    | kp s m a b ch =>
      have hch : (Nd.nmsL ch).length + 1 ≤ 100 := hl
      rw [callF_succ (df := ⟨1, 2, f34⟩) rfl rfl]
      show ∃ S', runB (f34 (callF prog (d + 1)) [some ((Nd.kp s m a b ch).va φ), none] S) = _ ∧ _
      have hlen : ch.length ≤ (Nd.nmsL ch).length := by
        clear ih hl hd hch
        induction ch with
        | nil => exact Nat.le_refl _
        | cons c r ih =>
          have : 1 ≤ c.nms.length := by cases c <;> simp [Nd.nms]
          show r.length + 1 ≤ (c.nms ++ Nd.nmsL r).length
          rw [List.length_append]
          omega
      obtain ⟨D, S', e, g, h1, h2, f⟩ := lc_map (fi := iSeq (mIx (mVar 0) (mC (.int 5)))) (t := tNm 1) (elt := mCall (callF prog (d + 1)) 34 (mCons (mVar 1) mNil) []) (vs := [1]) (env := [some ((Nd.kp s m a b ch).va φ), none]) (S := S) (S1 := S) (m := miL (ch.map (Nd.va φ))) (xs := ch.map (Nd.va φ)) (ch.map (Nd.va ψ))
        (seq_T (kidsK rfl)) (items_L _) (by rw [List.length_map]; omega) (by rw [List.length_map, List.length_map])
        (fun i x y S2 hx hy f hlt => by
          rw [List.getElem?_map] at hx hy
          cases q : ch[i]? with
          | none => rw [q] at hx; cases hx
          | some c =>
            rw [q] at hx hy
            cases hx
            cases hy
            have hm := List.mem_of_getElem? q
            obtain ⟨S3, e1, e2⟩ := ih c S2 (by have := Nd.depL_le hm; have hd' : Nd.depL ch + 1 ≤ d + 1 := hd; omega) (by have := Nd.nms_mem hm; omega)
            exact ⟨[some ((Nd.kp s m a b ch).va φ), some (c.va φ)], S3, rfl, e1, e2⟩)
      refine ⟨S', ?_, f⟩
      unfold f34
      rw [seq_nx (e1 := [some ((Nd.kp s m a b ch).va φ), none]) (S1 := S) (by rw [ifs_f (S1 := S) (by rw [isK rfl s4, s1_s4])]; rfl)]
      have e1 : mIx (mVar 0) (mC (.int 1)) [some ((Nd.kp s m a b ch).va φ), none] S = .ok (.str (φ s)) S := by rw [kp_va]; rfl
      have e2 : mBin gAdd (mC (.str s0)) (mIx (mVar 0) (mC (.int 1))) [some ((Nd.kp s m a b ch).va φ), none] S = .ok (.str (ψ s)) S := by rw [bin_ok rfl e1]; exact hx s S
      have e3 : mTup (mCons (mC (.str s1)) (mCons (mBin gAdd (mC (.str s0)) (mIx (mVar 0) (mC (.int 1)))) mNil)) [some ((Nd.kp s m a b ch).va φ), none] S = .ok (.tup [.str s1, .str (ψ s)]) S := by
        unfold mTup
        rw [cons_ok rfl (cons_ok e2 rfl), bind_ok] <;> rfl
      have e4 : mSl (mVar 0) (mPart (mC (.int 2))) (mPart (mC (.int 5))) [some ((Nd.kp s m a b ch).va φ), none] S = .ok (.tup [.str (modeS m), .int a, .int b]) S := by rw [kp_va]; rfl
      have e5 : mTup (mCons (mBi gTuple (mCons (mLc (iSeq (mIx (mVar 0) (mC (.int 5)))) (tNm 1) mYes (mCall (callF prog (d + 1)) 34 (mCons (mVar 1) mNil) []) [1]) mNil)) mNil) [some ((Nd.kp s m a b ch).va φ), none] S = .ok (.tup [.tup (ch.map (Nd.va ψ))]) S' := by
        have e6 : mBi gTuple (mCons (mLc (iSeq (mIx (mVar 0) (mC (.int 5)))) (tNm 1) mYes (mCall (callF prog (d + 1)) 34 (mCons (mVar 1) mNil) []) [1]) mNil) [some ((Nd.kp s m a b ch).va φ), none] S = .ok (.tup (ch.map (Nd.va ψ))) S' := by
          rw [bi_ok (cons_ok e rfl)]
          unfold gTuple g1 seqOf
          try dsimp only
          rw [g]
        unfold mTup
        rw [cons_ok e6 rfl, bind_ok] <;> rfl
      rw [ret_ok (v := (Nd.kp s m a b ch).va ψ) (S1 := S') (by rw [bin_ok (bin_ok e3 e4) e5, kp_va]; rfl)]
      rfl
end Mi
namespace Mi
open PySem PySem.Spec PyProof.Rows L2 Pg
theorem is_whole3 {d : Nat} {i : Int} {S : Sto} : callF prog (d + 1) 3 [.int i] S = .ok (.bl true) S := by
  rw [callF_succ (df := ⟨1, 1, f3⟩) rfl rfl]
  simp [f3, startE, runB, mRet, mAndV, mNotV, mIsi, isTInt, isTBool, isTy, mVar, R.bind, truth]
theorem is_within4 {d : Nat} {i lo hi : Int} {S : Sto} : callF prog (d + 2) 4 [.int i, .int lo, .int hi] S = .ok (.bl (decide (lo ≤ i) && decide (i ≤ hi))) S := by
  rw [callF_succ (df := ⟨3, 3, f4⟩) rfl rfl]
  by_cases h : lo ≤ i
  · simp [f4, startE, runB, mRet, mAndV, mCall, mCons, mNil, mVar, R.bind, is_whole3, truth, mChain, gLe, h]
  · simp [f4, startE, runB, mRet, mAndV, mCall, mCons, mNil, mVar, R.bind, is_whole3, truth, mChain, gLe, h]
def NmOk (x : Str) : Prop := 1 ≤ x.length ∧ x.length ≤ 8 ∧ ∀ c ∈ x.cps.toList, c ∈ s8.cps.toList
theorem bls_true {α : Type} : ∀ l : List α, blsOf (l.map fun _ => Va.bl true) = some (l.map fun _ => true)
  | [] => rfl
  | _ :: r => by
    show (match blsOf (r.map fun _ => Va.bl true) with | some bs => some (true :: bs) | none => none) = _
    rw [bls_true r] <;> rfl
theorem all_true {α : Type} : ∀ l : List α, (l.map fun _ => true).all id = true
  | [] => rfl
  | _ :: r => by rw [List.map_cons, List.all_cons, all_true r] <;> rfl
/-- all([..]) of turns that are true -/
theorem all_ok {fi : IF} {t : TF} {elt : EF} {vs : List Nat} {env : Ev} {S S1 : Sto} {m : MI} {xs : List Va} (hf : fi env S = .ok m S1) (hm : Items m S1 xs) (hx : xs.length ≤ 1000000)
    (step : ∀ (i : Nat) x S2, xs[i]? = some x → Fr [] S1 S2 → S1.n < S2.n → ∃ env1 S3, t x (wipeE env vs) S2 = some env1 ∧ elt env1 S2 = .ok (.bl true) S3 ∧ Fr [] S2 S3) :
    ∃ S', mBi gAll (mCons (mLc fi t mYes elt vs) mNil) env S = .ok (.bl true) S' ∧ Fr [] S1 S' := by
  obtain ⟨D, S', e, g, _, _, f⟩ := lc_map (fi := fi) (t := t) (elt := elt) (vs := vs) (env := env) (xs.map fun _ => Va.bl true) hf hm hx (by rw [List.length_map]) (fun i x y S2 hxi hyi f hlt => by
    rw [List.getElem?_map, hxi] at hyi
    cases hyi
    exact step i x S2 hxi f hlt)
  refine ⟨S', ?_, f⟩
  rw [bi_ok (cons_ok e rfl)]
  unfold gAll g1 lstOf
  try dsimp only
  rw [g]
  try dsimp only
  rw [bls_true]
  try dsimp only
  rw [all_true]
theorem is_name5 {d : Nat} {x : Str} {S : Sto} (h : NmOk x) : ∃ S', callF prog (d + 1) 5 [.str x] S = .ok (.bl true) S' ∧ Fr [] S S' := by
  obtain ⟨h1, h2, h3⟩ := h
  rw [callF_succ (df := ⟨1, 2, f5⟩) rfl rfl]
  obtain ⟨S', e, f⟩ := all_ok (fi := iSeq (mVar 0)) (t := tNm 1) (elt := mIn false (mVar 1) (mC (.str s8))) (vs := [1]) (env := [some (.str x), none]) (S := S) (S1 := S) (m := miL (x.cps.toList.map fun c => Va.str ⟨#[c]⟩)) (xs := x.cps.toList.map fun c => Va.str ⟨#[c]⟩) rfl (items_L _)
    (by rw [List.length_map, Array.length_toList]; exact Nat.le_trans h2 (by decide)) (fun i v S2 hv f hlt => by
      rw [List.getElem?_map] at hv
      cases q : x.cps.toList[i]? with
      | none => rw [q] at hv; cases hv
      | some c =>
        rw [q] at hv
        cases hv
        refine ⟨[some (.str x), some (.str ⟨#[c]⟩)], S2, rfl, ?_, Fr.refl _ _⟩
        show (match some (decide (c ∈ s8.cps.toList)) with | some k => R.ok (Va.bl (if false then !k else k)) S2 | none => R.bad) = _
        rw [decide_eq_true (h3 c (List.mem_of_getElem? q))] <;> rfl)
  refine ⟨S', ?_, f⟩
  show runB (f5 (callF prog d) [some (.str x), none] S) = _
  unfold f5
  have e2 : mChain gLe gLe (mC (.int 1)) (mBi gLen (mCons (mVar 0) mNil)) (mC (.int 8)) [some (.str x), none] S = .ok (.bl true) S := by
    have l : mBi gLen (mCons (mVar 0) mNil) [some (.str x), none] S = .ok (.int x.length) S := by
      rw [bi_ok (cons_ok rfl rfl)]
      unfold gLen g1
      try dsimp only
      rw [Nat.ble_eq_true_of_le (show x.length ≤ 16777216 by omega)]
    unfold mChain
    rw [mC, bind_ok, l, bind_ok]
    show R.bind (R.ok (Va.bl (decide ((1 : Int) ≤ x.length))) S) _ = _
    rw [decide_eq_true (by omega), bind_ok]
    show R.ok (Va.bl (decide ((x.length : Int) ≤ 8))) S = _
    rw [decide_eq_true (by omega)]
  have e1 : mIsi isTStr (mVar 0) [some (.str x), none] S = .ok (.bl true) S := rfl
  rw [ret_ok (v := .bl true) (S1 := S') (by
    unfold mAndV
    rw [e1, bind_ok]
    show R.bind _ _ = _
    rw [e2, bind_ok]
    exact e)]
  rfl
mutual
def Nd.ok (φ : Nat → Str) : Nd → Prop
  | .wk s => NmOk (φ s)
  | .kp s m a b ch => NmOk (φ s) ∧ 0 ≤ a ∧ a ≤ 20 ∧ 1 ≤ b ∧ b ≤ 1000 ∧ 1 ≤ ch.length ∧ ch.length ≤ 6 ∧ Nd.okL φ ch
def Nd.okL (φ : Nat → Str) : List Nd → Prop
  | [] => True
  | n :: r => n.ok φ ∧ Nd.okL φ r
end
theorem Nd.okL_mem {φ : Nat → Str} : ∀ {ch : List Nd} {c : Nd}, Nd.okL φ ch → c ∈ ch → c.ok φ
  | n :: r, c, h, hm => by
    rcases List.mem_cons.mp hm with e | hm
    · subst e; exact h.1
    · exact Nd.okL_mem h.2 hm
theorem mode_in (m : Nat) : isIn ⟨0, .nil⟩ (.str (modeS m)) (.tup [.str s7, .str s6, .str s5]) = some true := by
  match m with
  | 0 => decide
  | 1 => decide
  | m + 2 => show isIn ⟨0, .nil⟩ (.str s5) (.tup [.str s7, .str s6, .str s5]) = some true; decide
theorem is_node6w {φ : Nat → Str} {s k d : Nat} {S : Sto} (h : NmOk (φ s)) : ∃ S', callF prog (d + 2) 6 [(Nd.wk s).va φ, .int k] S = .ok (.bl true) S' ∧ Fr [] S S' := by
  rw [callF_succ (df := ⟨2, 3, f6⟩) rfl rfl]
  obtain ⟨S', e, f⟩ := is_name5 (d := d) (S := S) h
  refine ⟨S', ?_, f⟩
  show runB (f6 (callF prog (d + 1)) [some ((Nd.wk s).va φ), some (.int k), none] S) = _
  rw [wk_va]
  unfold f6
  have e1 : mCall (callF prog (d + 1)) 5 (mCons (mIx (mVar 0) (mC (.int 1))) mNil) [] [some (.tup [.str s4, .str (φ s)]), some (.int k), none] S = .ok (.bl true) S' := e
  rw [seq_nx (e1 := [some (.tup [.str s4, .str (φ s)]), some (.int k), none]) (S1 := S') (by
    rw [ifs_f (S1 := S') (by
      rw [or_f (S1 := S) rfl, or_f (S1 := S) rfl, or_f (S1 := S) rfl]
      exact notB_ok (tru_ok e1 rfl))]
    rfl)]
  rw [seq_rt (v := .bl true) (S1 := S') (by
    rw [ifs_t (S1 := S') (by
      show R.ok (decide (s4 = s4)) S' = _
      rw [decide_eq_true rfl])]
    rfl)]
  rfl
theorem is_node6 {φ : Nat → Str} {d : Nat} : ∀ (k : Nat) (n : Nd) (S : Sto), n.dep ≤ k → n.ok φ → ∃ S', callF prog (d + k + 3) 6 [n.va φ, .int k] S = .ok (.bl true) S' ∧ Fr [] S S' := by
  intro k
  induction k with
  | zero =>
    intro n S hd hk
    cases n with
    | kp s m a b ch => simp [Nd.dep] at hd
    | wk s => exact is_node6w (d := d + 0 + 1) hk
  | succ k ih =>
    intro n S hd hk
    cases n with
    | wk s => exact is_node6w (d := d + (k + 1) + 1) hk
    | kp s m a b ch =>
      obtain ⟨h1, a0, a1, b0, b1, c0, c1, hch⟩ := hk
      rw [callF_succ (df := ⟨2, 3, f6⟩) rfl rfl]
      obtain ⟨S1, e, f⟩ := is_name5 (d := d + k + 2) (S := S) h1
      obtain ⟨S', e9, f9⟩ := all_ok (fi := iSeq (mIx (mVar 0) (mC (.int 5)))) (t := tNm 2) (elt := mCall (callF prog (d + (k + 1) + 2)) 6 (mCons (mVar 2) (mCons (mBin gSub (mVar 1) (mC (.int 1))) mNil)) []) (vs := [2]) (env := [some ((Nd.kp s m a b ch).va φ), some (.int (k + 1 : Nat)), none]) (S := S1) (S1 := S1) (m := miL (ch.map (Nd.va φ))) (xs := ch.map (Nd.va φ))
        (seq_T (kidsK rfl)) (items_L _) (by rw [List.length_map]; omega) (fun i x S2 hx f hlt => by
          rw [List.getElem?_map] at hx
          cases q : ch[i]? with
          | none => rw [q] at hx; cases hx
          | some c =>
            rw [q] at hx
            cases hx
            have hm := List.mem_of_getElem? q
            obtain ⟨S3, e1, e2⟩ := ih c S2 (by have := Nd.depL_le hm; have hd' : Nd.depL ch + 1 ≤ k + 1 := hd; omega) (Nd.okL_mem hch hm)
            refine ⟨[some ((Nd.kp s m a b ch).va φ), some (.int (k + 1 : Nat)), some (c.va φ)], S3, rfl, ?_, e2⟩
            have hk1 : ((k + 1 : Nat) : Int) - 1 = k := by omega
            have ea : mBin gSub (mVar 1) (mC (.int 1)) [some ((Nd.kp s m a b ch).va φ), some (.int (k + 1 : Nat)), some (c.va φ)] S2 = .ok (.int k) S2 := by
              show R.ok (Va.int (((k + 1 : Nat) : Int) - 1)) S2 = _
              rw [hk1]
            rw [call_ok' (cons_ok rfl (cons_ok ea rfl))]
            have ed : d + (k + 1) + 2 = d + k + 3 := by omega
            rw [ed]
            exact e1)
      refine ⟨S', ?_, f.trans f9⟩
      have hva := kp_va φ s m a b ch
      show runB (f6 (callF prog (d + (k + 1) + 2)) [some ((Nd.kp s m a b ch).va φ), some (.int (k + 1 : Nat)), none] S) = _
      rw [hva] at e9 ⊢
      obtain ⟨E, eE⟩ : ∃ E, [some (Va.tup [.str s1, .str (φ s), .str (modeS m), .int a, .int b, .tup (ch.map (Nd.va φ))]), some (.int (k + 1 : Nat)), none] = E := ⟨_, rfl⟩
      have v0 : ∀ S, mVar 0 E S = .ok (.tup [.str s1, .str (φ s), .str (modeS m), .int a, .int b, .tup (ch.map (Nd.va φ))]) S := fun S => by rw [← eE] <;> rfl
      have ix : ∀ (S : Sto) (i : Int) (v : Va), gIx (.tup [.str s1, .str (φ s), .str (modeS m), .int a, .int b, .tup (ch.map (Nd.va φ))]) (.int i) S = some v → mIx (mVar 0) (mC (.int i)) E S = .ok v S := fun S i v h => ix_ok (v0 S) rfl h
      have ln : ∀ S, mBi gLen (mCons (mVar 0) mNil) E S = .ok (.int 6) S := fun S => by rw [bi_ok (cons_ok (v0 S) rfl)] <;> rfl
      have e1 : mCall (callF prog (d + (k + 1) + 2)) 5 (mCons (mIx (mVar 0) (mC (.int 1))) mNil) [] E S = .ok (.bl true) S1 := by
        rw [call_ok' (cons_ok (ix S 1 _ rfl) rfl)]
        have ed : d + (k + 1) + 2 = d + k + 2 + 1 := by omega
        rw [ed]
        exact e
      have w1 : mCall (callF prog (d + (k + 1) + 2)) 4 (mCons (mIx (mVar 0) (mC (.int 3))) (mCons (mC (.int 0)) (mCons (mC (.int 20)) mNil))) [] E S1 = .ok (.bl true) S1 := by
        rw [call_ok' (cons_ok (ix S1 3 _ rfl) rfl)]
        have := is_within4 (d := d + (k + 1)) (i := a) (lo := 0) (hi := 20) (S := S1)
        rw [decide_eq_true a0, decide_eq_true a1] at this
        exact this
      have w2 : mCall (callF prog (d + (k + 1) + 2)) 4 (mCons (mIx (mVar 0) (mC (.int 4))) (mCons (mC (.int 1)) (mCons (mC (.int 1000)) mNil))) [] E S1 = .ok (.bl true) S1 := by
        rw [call_ok' (cons_ok (ix S1 4 _ rfl) rfl)]
        have := is_within4 (d := d + (k + 1)) (i := b) (lo := 1) (hi := 1000) (S := S1)
        rw [decide_eq_true b0, decide_eq_true b1] at this
        exact this
      rw [eE] at e9 ⊢
      unfold f6
      rw [seq_nx (e1 := E) (S1 := S1) (by
        rw [ifs_f (S1 := S1) (by
          rw [or_f (S1 := S) (notB_ok (tru_ok (x := .bl true) (by unfold mIsi; rw [v0, bind_ok] <;> rfl) rfl)), or_f (S1 := S) (bool_ok (k := false) (by rw [bin_ok (ln S) rfl] <;> rfl)),
            or_f (S1 := S) (notB_ok (tru_ok (x := .bl true) (by unfold mIsi; rw [ix S 0 _ rfl, bind_ok] <;> rfl) rfl))]
          exact notB_ok (tru_ok e1 rfl))]
        rfl)]
      rw [seq_nx (e1 := E) (S1 := S1) (by
        rw [ifs_f (S1 := S1) (bool_ok (k := false) (by rw [bin_ok (ix S1 0 _ rfl) rfl]; exact congrArg (fun q => R.ok (Va.bl q) S1) s1_s4))]
        rfl)]
      rw [seq_nx (e1 := E) (S1 := S1) (by
        rw [ifs_f (S1 := S1) (by
          rw [or_f (S1 := S1) (bool_ok (k := false) (by rw [bin_ok (ix S1 0 _ rfl) rfl]; show R.ok (Va.bl (!decide (s1 = s1))) S1 = _; rw [decide_eq_true rfl] <;> rfl)), or_f (S1 := S1) (bool_ok (k := false) (by rw [bin_ok (ln S1) rfl] <;> rfl))]
          exact bool_ok (by
            rw [bin_ok (x := .int (k + 1 : Nat)) (y := .int 0) (by rw [← eE] <;> rfl) rfl]
            show R.ok (Va.bl (decide (((k + 1 : Nat) : Int) = 0))) S1 = _
            rw [decide_eq_false (by omega)]))]
        rfl)]
      rw [seq_nx (e1 := E) (S1 := S1) (by
        rw [ifs_f (S1 := S1) (by
          rw [or_f (S1 := S1) (notB_ok (tru_ok (x := .bl true) (by unfold mIsi; rw [ix S1 2 _ rfl, bind_ok] <;> rfl) rfl))]
          exact bool_ok (by
            unfold mIn
            rw [ix S1 2 _ rfl, bind_ok, mC, bind_ok]
            have : isIn S1 (.str (modeS m)) (.tup [.str s7, .str s6, .str s5]) = some true := mode_in m
            rw [this] <;> rfl))]
        rfl)]
      rw [seq_nx (e1 := E) (S1 := S1) (by
        rw [ifs_f (S1 := S1) (by
          rw [or_f (S1 := S1) (notB_ok (tru_ok w1 rfl))]
          exact notB_ok (tru_ok w2 rfl))]
        rfl)]
      rw [seq_nx (e1 := E) (S1 := S1) (by
        rw [ifs_f (S1 := S1) (by
          rw [or_f (S1 := S1) (notB_ok (tru_ok (x := .bl true) (by unfold mIsi; rw [ix S1 5 _ rfl, bind_ok] <;> rfl) rfl))]
          refine notB_ok (bool_ok (k := true) ?_)
          have l5 : mBi gLen (mCons (mIx (mVar 0) (mC (.int 5))) mNil) E S1 = .ok (.int ch.length) S1 := by
            rw [bi_ok (cons_ok (ix S1 5 _ rfl) rfl)]
            show R.ok (Va.int ((ch.map (Nd.va φ)).length : Nat)) S1 = _
            rw [List.length_map]
          unfold mChain
          rw [mC, bind_ok, l5, bind_ok]
          show R.bind (R.ok (Va.bl (decide ((1 : Int) ≤ ch.length))) S1) _ = _
          rw [decide_eq_true (by omega), bind_ok]
          show R.ok (Va.bl (decide ((ch.length : Int) ≤ 6))) S1 = _
          rw [decide_eq_true (by omega)])]
        rfl)]
      rw [ret_ok e9]
      rfl
end Mi
namespace Mi
open PySem PySem.Spec PyProof.Rows L2 Pg
theorem unlikes_nodup {xs : List Str} (h : xs.Nodup) : ∀ i, i ≤ xs.length → unlikes xs i = i
  | 0, _ => rfl
  | i + 1, hi => by
    unfold unlikes
    have e : xs[i]? = some xs[i] := List.getElem?_eq_getElem (by omega)
    have dd : xs.getD i Str.empty = xs[i] := by rw [List.getD_eq_getElem?_getD, e] <;> rfl
    have : ahead xs i (xs.getD i Str.empty) = false := by
      rw [dd]
      unfold ahead
      rw [List.any_eq_false]
      intro z hz hzz
      have e2 : z = xs[i] := by simpa using hzz
      subst e2
      obtain ⟨j, hj, ej⟩ := List.mem_iff_getElem.mp hz
      rw [List.length_take] at hj
      rw [List.getElem_take] at ej
      have := (List.getElem_inj h).mp ej
      omega
    rw [this, unlikes_nodup h i (by omega)]
    rfl
theorem strsOf_txs (φ : Nat → Str) : ∀ l : List Nat, strsOf (txs φ l) = some (l.map φ)
  | [] => rfl
  | a :: r => by
    show (match strsOf (txs φ r) with | some ys => some (φ a :: ys) | none => none) = _
    rw [strsOf_txs φ r] <;> rfl
theorem nodup_map {φ : Nat → Str} (inj : ∀ i j, φ i = φ j → i = j) {l : List Nat} (h : l.Nodup) : (l.map φ).Nodup :=
  List.pairwise_map.mpr (h.imp fun ne e => ne (inj _ _ e))
/-- a tree: a keeper at the top, at most four deep, names unlike -/
structure Tree (φ : Nat → Str) (n : Nd) : Prop where
  top : ∃ s m a b ch, n = .kp s m a b ch
  dep : n.dep ≤ 4
  ok : n.ok φ
  nd : n.nms.Nodup
  len : n.nms.length ≤ 30
theorem is_tree8 {φ : Nat → Str} (inj : ∀ i j, φ i = φ j → i = j) {d : Nat} {n : Nd} {S : Sto} (h : Tree φ n) : ∃ S', callF prog (d + 8) 8 [n.va φ] S = .ok (.bl true) S' ∧ Fr [] S S' := by
  obtain ⟨⟨s, m, a, b, ch, rfl⟩, hd, hk, hn, hl⟩ := h
  rw [callF_succ (df := ⟨1, 1, f8⟩) rfl rfl]
  obtain ⟨S1, e1, F1⟩ := is_node6 (d := d) 4 (.kp s m a b ch) S hd hk
  have hd7 : (Nd.kp s m a b ch).dep ≤ d + 6 := by omega
  obtain ⟨L2, S2, e2, g2, _, _, F2⟩ := names7 (φ := φ) (d + 6) (.kp s m a b ch) S1 hd7 (by omega)
  obtain ⟨L3, S3, e3, g3, _, _, F3⟩ := names7 (φ := φ) (d + 6) (.kp s m a b ch) S2 hd7 (by omega)
  refine ⟨S3, ?_, F1.trans (F2.trans F3)⟩
  show runB (f8 (callF prog (d + 7)) [some ((Nd.kp s m a b ch).va φ)] S) = _
  unfold f8
  have a1 : mCall (callF prog (d + 7)) 6 (mCons (mVar 0) (mCons (mC (.int 4)) mNil)) [] [some ((Nd.kp s m a b ch).va φ)] S = .ok (.bl true) S1 := e1
  rw [seq_nx (e1 := [some ((Nd.kp s m a b ch).va φ)]) (S1 := S1) (by
    rw [ifs_f (S1 := S1) (by
      rw [or_f (S1 := S1) (notB_ok (tru_ok a1 rfl))]
      refine bool_ok (k := false) ?_
      have v : mIx (mVar 0) (mC (.int 0)) [some ((Nd.kp s m a b ch).va φ)] S1 = .ok (.str s1) S1 := by rw [kp_va]; rfl
      rw [bin_ok v rfl]
      show R.ok (Va.bl (!decide (s1 = s1))) S1 = _
      rw [decide_eq_true rfl] <;> rfl)]
    rfl)]
  have a2 : mLenSet (mCall (callF prog (d + 7)) 7 (mCons (mVar 0) mNil) []) [some ((Nd.kp s m a b ch).va φ)] S1 = .ok (.int (Nd.kp s m a b ch).nms.length) S2 := by
    have c2 : mCall (callF prog (d + 7)) 7 (mCons (mVar 0) mNil) [] [some ((Nd.kp s m a b ch).va φ)] S1 = .ok (.ref L2) S2 := e2
    unfold mLenSet
    rw [c2, bind_ok]
    try dsimp only
    rw [g2]
    try dsimp only
    rw [strsOf_txs]
    try dsimp only
    rw [bltT (show ((Nd.kp s m a b ch).nms.map φ).length < 4000 by rw [List.length_map]; omega)]
    try dsimp only
    rw [unlikes_nodup (nodup_map inj hn) _ (Nat.le_refl _), List.length_map]
  have a3 : mBi gLen (mCons (mCall (callF prog (d + 7)) 7 (mCons (mVar 0) mNil) []) mNil) [some ((Nd.kp s m a b ch).va φ)] S2 = .ok (.int (Nd.kp s m a b ch).nms.length) S3 := by
    have c3 : mCall (callF prog (d + 7)) 7 (mCons (mVar 0) mNil) [] [some ((Nd.kp s m a b ch).va φ)] S2 = .ok (.ref L3) S3 := e3
    rw [bi_ok (cons_ok c3 rfl)]
    unfold gLen g1
    try dsimp only
    unfold seqOf
    try dsimp only
    rw [g3]
    try dsimp only
    rw [List.length_map]
  rw [ret_ok (v := .bl true) (S1 := S3) (by
    rw [bin_ok a2 a3]
    show R.ok (Va.bl (decide (((Nd.kp s m a b ch).nms.length : Int) = (Nd.kp s m a b ch).nms.length))) S3 = _
    rw [decide_eq_true rfl])]
  rfl
/-! ### learn -/
mutual
def Nd.lrn (up : Option Nat) : Nd → List (Nat × Nd × Option Nat)
  | .wk s => [(s, .wk s, up)]
  | .kp s m a b ch => (s, .kp s m a b ch, up) :: Nd.lrnL (some s) ch
def Nd.lrnL (up : Option Nat) : List Nd → List (Nat × Nd × Option Nat)
  | [] => []
  | n :: r => n.lrn up ++ Nd.lrnL up r
end
theorem Nd.lrnL_flat (up : Option Nat) : ∀ ch : List Nd, Nd.lrnL up ch = (ch.map (Nd.lrn up)).flatten
  | [] => rfl
  | n :: r => by unfold Nd.lrnL; rw [Nd.lrnL_flat up r] <;> rfl
mutual
theorem Nd.lrn_ids (up : Option Nat) : ∀ n : Nd, (n.lrn up).map (·.1) = n.nms
  | .wk _ => rfl
  | .kp s _ _ _ ch => congrArg (s :: ·) (Nd.lrnL_ids (some s) ch)
theorem Nd.lrnL_ids (up : Option Nat) : ∀ ch : List Nd, (Nd.lrnL up ch).map (·.1) = Nd.nmsL ch
  | [] => rfl
  | n :: r => by
    unfold Nd.lrnL Nd.nmsL
    rw [List.map_append, Nd.lrn_ids up n, Nd.lrnL_ids up r]
end
def upV (φ : Nat → Str) : Option Nat → Va
  | none => .non
  | some i => .str (φ i)
def kN (φ : Nat → Str) (l : List (Nat × Nd × Option Nat)) : List (Key × Va) := l.map fun e => (.inr (φ e.1), e.2.1.va φ)
def kU (φ : Nat → Str) (l : List (Nat × Nd × Option Nat)) : List (Key × Va) := l.map fun e => (.inr (φ e.1), upV φ e.2.2)
theorem dPut_new {β : Type} {kvs : List (Key × β)} {k : Key} {v : β} (h : ∀ e ∈ kvs, e.1 ≠ k) : dPut kvs k v = kvs ++ [(k, v)] := by
  unfold dPut
  have : (kvs.any fun kv => decide (kv.1 = k)) = false := List.any_eq_false.mpr fun e he z => h e he (of_decide_eq_true z)
  rw [this]
theorem setIx_new {o i a : EF} {env : Ev} {S : Sto} {n : Nat} {kvs : List (Key × Va)} {x : Str} {v : Va} (h1 : a env S = .ok v S) (h2 : o env S = .ok (.ref n) S) (h3 : i env S = .ok (.str x) S) (hg : S.get n = some (.dic kvs)) (hl : kvs.length < 1000000) (hk : ∀ e ∈ kvs, e.1 ≠ .inr x) :
    mSetIx o i a env S = .ok (.nx env) (S.set n (.dic (kvs ++ [(.inr x, v)]))) := by
  refine setIx_ok h1 h2 h3 ?_
  unfold gSetIx
  try dsimp only
  rw [hg]
  try dsimp only
  unfold keyOf
  try dsimp only
  rw [bltT hl]
  try dsimp only
  rw [dPut_new hk]
theorem kN_app (φ : Nat → Str) (a b : List (Nat × Nd × Option Nat)) : kN φ (a ++ b) = kN φ a ++ kN φ b := List.map_append
theorem kU_app (φ : Nat → Str) (a b : List (Nat × Nd × Option Nat)) : kU φ (a ++ b) = kU φ a ++ kU φ b := List.map_append
/-- the first two steps: a node is noted -/
theorem learn_two {φ : Nat → Str} (inj : ∀ i j, φ i = φ j → i = j) {h Nn Nu : Nat} {fs : List (Nat × Va)} (hf2 : fGet fs 2 = some (.ref Nn)) (hf3 : fGet fs 3 = some (.ref Nu)) (h1 : h ≠ Nn) (h2 : h ≠ Nu) (h3 : Nn ≠ Nu) {n : Nd} {s : Nat} {r : List Nat} (hs : n.nms = s :: r) {up : Option Nat} {l0 : List (Nat × Nd × Option Nat)} {S : Sto} {c : Option Va} {rest : SF}
    (hnd : (l0.map (·.1) ++ n.nms).Nodup) (hln : (l0.map (·.1) ++ n.nms).length ≤ 100) (g1 : S.get h = some (.ins 0 fs)) (g2 : S.get Nn = some (.dic (kN φ l0))) (g3 : S.get Nu = some (.dic (kU φ l0))) :
    ∃ S2, mSeq (mSetIx (mFld 2 (mVar 0)) (mIx (mVar 1) (mC (.int 1))) (mVar 1)) (mSeq (mSetIx (mFld 3 (mVar 0)) (mIx (mVar 1) (mC (.int 1))) (mVar 2)) rest) [some (.ref h), some (n.va φ), some (upV φ up), c] S = rest [some (.ref h), some (n.va φ), some (upV φ up), c] S2 ∧
      S2.get Nn = some (.dic (kN φ (l0 ++ [(s, n, up)]))) ∧ S2.get Nu = some (.dic (kU φ (l0 ++ [(s, n, up)]))) ∧ Fr [Nn, Nu] S S2 := by
  have hnm : ∀ S, mIx (mVar 1) (mC (.int 1)) [some (.ref h), some (n.va φ), some (upV φ up), c] S = .ok (.str (φ s)) S := fun S => by
    obtain ⟨s', r', e1, e2⟩ := nameN (φ := φ) (n := n) (env := [some (.ref h), some (n.va φ), some (upV φ up), c]) (S := S) (j := 1) rfl
    rw [hs] at e1
    cases e1
    exact e2
  have hl : l0.length < 1000000 := by
    rw [List.length_append, List.length_map] at hln
    omega
  have hnew : ∀ e ∈ l0, φ e.1 ≠ φ s := fun e he z => by
    have e1 : e.1 = s := inj _ _ z
    have := (List.nodup_append.mp hnd).2.2 e.1 (List.mem_map.mpr ⟨e, he, rfl⟩) s (by rw [hs]; exact List.mem_cons_self)
    exact this e1
  have p1 := setIx_new (o := mFld 2 (mVar 0)) (i := mIx (mVar 1) (mC (.int 1))) (a := mVar 1) (env := [some (.ref h), some (n.va φ), some (upV φ up), c]) (S := S) (n := Nn) (kvs := kN φ l0) (x := φ s) (v := n.va φ) rfl (fld_ok rfl g1 hf2) (hnm S) g2 (by unfold kN; rw [List.length_map]; exact hl) (fun e he z => by
    obtain ⟨q, hq, eq⟩ := List.mem_map.mp he
    subst eq
    exact hnew q hq (Sum.inr.inj z))
  obtain ⟨S1, eS1⟩ : ∃ S1, S.set Nn (.dic (kN φ l0 ++ [(.inr (φ s), n.va φ)])) = S1 := ⟨_, rfl⟩
  rw [eS1] at p1
  have F1 : Fr [Nn] S S1 := eS1 ▸ Fr.set _ _
  have g1' := F1.at g1 (by simpa using h1)
  have g3' := F1.at g3 (by simpa using Ne.symm h3)
  have g2' : S1.get Nn = some (.dic (kN φ (l0 ++ [(s, n, up)]))) := by rw [← eS1, Sto.get_set (Sto.lt g2), kN_app] <;> rfl
  have p2 := setIx_new (o := mFld 3 (mVar 0)) (i := mIx (mVar 1) (mC (.int 1))) (a := mVar 2) (env := [some (.ref h), some (n.va φ), some (upV φ up), c]) (S := S1) (n := Nu) (kvs := kU φ l0) (x := φ s) (v := upV φ up) rfl (fld_ok rfl g1' hf3) (hnm S1) g3' (by unfold kU; rw [List.length_map]; exact hl) (fun e he z => by
    obtain ⟨q, hq, eq⟩ := List.mem_map.mp he
    subst eq
    exact hnew q hq (Sum.inr.inj z))
  refine ⟨S1.set Nu (.dic (kU φ l0 ++ [(.inr (φ s), upV φ up)])), by rw [seq_nx p1, seq_nx p2], ?_, ?_, (F1.mono (by simp)).trans ((Fr.set S1 _).mono (by simp))⟩
  · rw [Sto.get_set_ne (Ne.symm h3)]
    exact g2'
  · rw [Sto.get_set (Sto.lt g3'), kU_app] <;> rfl
theorem learn11 {φ : Nat → Str} (inj : ∀ i j, φ i = φ j → i = j) {h Nn Nu : Nat} {fs : List (Nat × Va)} (hf2 : fGet fs 2 = some (.ref Nn)) (hf3 : fGet fs 3 = some (.ref Nu)) (h1 : h ≠ Nn) (h2 : h ≠ Nu) (h3 : Nn ≠ Nu) : ∀ (d : Nat) (n : Nd) (up : Option Nat) (l0 : List (Nat × Nd × Option Nat)) (S : Sto), n.dep ≤ d → (l0.map (·.1) ++ n.nms).Nodup → (l0.map (·.1) ++ n.nms).length ≤ 100 →
    S.get h = some (.ins 0 fs) → S.get Nn = some (.dic (kN φ l0)) → S.get Nu = some (.dic (kU φ l0)) →
    ∃ S', callF prog (d + 1) 11 [.ref h, n.va φ, upV φ up] S = .ok .non S' ∧ S'.get Nn = some (.dic (kN φ (l0 ++ n.lrn up))) ∧ S'.get Nu = some (.dic (kU φ (l0 ++ n.lrn up))) ∧ Fr [Nn, Nu] S S' := by
  have hw : ∀ (d s : Nat) (up : Option Nat) (l0 : List (Nat × Nd × Option Nat)) (S : Sto), (l0.map (·.1) ++ (Nd.wk s).nms).Nodup → (l0.map (·.1) ++ (Nd.wk s).nms).length ≤ 100 →
      S.get h = some (.ins 0 fs) → S.get Nn = some (.dic (kN φ l0)) → S.get Nu = some (.dic (kU φ l0)) →
      ∃ S', callF prog (d + 1) 11 [.ref h, (Nd.wk s).va φ, upV φ up] S = .ok .non S' ∧ S'.get Nn = some (.dic (kN φ (l0 ++ (Nd.wk s).lrn up))) ∧ S'.get Nu = some (.dic (kU φ (l0 ++ (Nd.wk s).lrn up))) ∧ Fr [Nn, Nu] S S' := by
    intro d s up l0 S hnd hln g1 g2 g3
    rw [callF_succ (df := ⟨3, 4, f11⟩) rfl rfl]
    show ∃ S', runB (f11 (callF prog d) [some (.ref h), some ((Nd.wk s).va φ), some (upV φ up), none] S) = _ ∧ _
    unfold f11
    obtain ⟨S2, e, k1, k2, F⟩ := learn_two inj hf2 hf3 h1 h2 h3 (n := .wk s) (s := s) (r := []) rfl (up := up) (c := none) (rest := mIfS (mBool (mBin gEq (mIx (mVar 1) (mC (.int 0))) (mC (.str s1)))) (mFor (iSeq (mIx (mVar 1) (mC (.int 5)))) (tNm 3) (mExpr (mMeth (callF prog d) (Mi.M1 0 11 []) (mVar 0) (mCons (mVar 3) (mCons (mIx (mVar 1) (mC (.int 1))) mNil))))) mEnd) hnd hln g1 g2 g3
    rw [e]
    refine ⟨S2, ?_, k1, k2, F⟩
    rw [ifs_f (S1 := S2) (by
      rw [wk_va]
      show R.ok (decide (s4 = s1)) S2 = _
      rw [s4_s1])]
    rfl
  intro d
  induction d with
  | zero =>
    intro n up l0 S hd hnd hln g1 g2 g3
    cases n with
    | kp s m a b ch => simp [Nd.dep] at hd
    | wk s => exact hw 0 s up l0 S hnd hln g1 g2 g3
  | succ d ih =>
    intro n up l0 S hd hnd hln g1 g2 g3
    cases n with
    | wk s => exact hw (d + 1) s up l0 S hnd hln g1 g2 g3
    | kp s m a b ch =>
      rw [callF_succ (df := ⟨3, 4, f11⟩) rfl rfl]
      show ∃ S', runB (f11 (callF prog (d + 1)) [some (.ref h), some ((Nd.kp s m a b ch).va φ), some (upV φ up), none] S) = _ ∧ _
      unfold f11
      obtain ⟨S2, e, k1, k2, F⟩ := learn_two inj hf2 hf3 h1 h2 h3 (n := .kp s m a b ch) (s := s) (r := Nd.nmsL ch) rfl (up := up) (c := none) (rest := mIfS (mBool (mBin gEq (mIx (mVar 1) (mC (.int 0))) (mC (.str s1)))) (mFor (iSeq (mIx (mVar 1) (mC (.int 5)))) (tNm 3) (mExpr (mMeth (callF prog (d + 1)) (Mi.M1 0 11 []) (mVar 0) (mCons (mVar 3) (mCons (mIx (mVar 1) (mC (.int 1))) mNil))))) mEnd) hnd hln g1 g2 g3
      rw [e]
      have hL := Nd.lrnL_flat (some s) ch
      have hN := Nd.nmsL_flat ch
      have hids : ∀ l : List Nd, ((l.map (Nd.lrn (some s))).flatten).map (·.1) = (l.map Nd.nms).flatten := fun l => by
        induction l with
        | nil => rfl
        | cons c r ih => rw [List.map_cons, List.flatten_cons, List.map_append, ih, Nd.lrn_ids, List.map_cons, List.flatten_cons]
      have lp := for_items (fi := iSeq (mIx (mVar 1) (mC (.int 5)))) (t := tNm 3) (body := mExpr (mMeth (callF prog (d + 1)) (Mi.M1 0 11 []) (mVar 0) (mCons (mVar 3) (mCons (mIx (mVar 1) (mC (.int 1))) mNil)))) (env := [some (.ref h), some ((Nd.kp s m a b ch).va φ), some (upV φ up), none]) (S := S2) (S1 := S2) (xs := ch.map (Nd.va φ))
        (fun i env S' => (∃ x, env = [some (.ref h), some ((Nd.kp s m a b ch).va φ), some (upV φ up), x]) ∧ S'.get Nn = some (.dic (kN φ (l0 ++ [(s, .kp s m a b ch, up)] ++ ((ch.take i).map (Nd.lrn (some s))).flatten))) ∧ S'.get Nu = some (.dic (kU φ (l0 ++ [(s, .kp s m a b ch, up)] ++ ((ch.take i).map (Nd.lrn (some s))).flatten))) ∧ Fr [Nn, Nu] S S') (fun _ _ => False)
        (seq_T (by rw [kp_va]; rfl)) ⟨⟨_, rfl⟩, by rw [List.take_zero, List.map_nil, List.flatten_nil, List.append_nil]; exact k1, by rw [List.take_zero, List.map_nil, List.flatten_nil, List.append_nil]; exact k2, F⟩
        (fun i v env S' hv ⟨⟨x, he⟩, q1, q2, q3⟩ => by
          subst he
          rw [List.getElem?_map] at hv
          cases q : ch[i]? with
          | none => rw [q] at hv; cases hv
          | some c =>
            rw [q] at hv
            cases hv
            have hm := List.mem_of_getElem? q
            have g1' := q3.at g1 (by simp; exact ⟨h1, h2⟩)
            have hsub : List.Sublist ((l0 ++ [(s, Nd.kp s m a b ch, up)] ++ ((ch.take i).map (Nd.lrn (some s))).flatten).map (·.1) ++ c.nms) (l0.map (·.1) ++ (Nd.kp s m a b ch).nms) := by
              have e1 : (l0 ++ [(s, Nd.kp s m a b ch, up)] ++ ((ch.take i).map (Nd.lrn (some s))).flatten).map (·.1) ++ c.nms = l0.map (·.1) ++ (s :: (((ch.take (i + 1)).map Nd.nms).flatten)) := by
                rw [List.map_append, List.map_append, hids, take_flat q]
                simp
              rw [e1]
              refine List.Sublist.append (List.Sublist.refl _) ?_
              show List.Sublist _ (s :: Nd.nmsL ch)
              rw [hN]
              refine List.Sublist.cons₂ s ?_
              have e2 : ch.map Nd.nms = (ch.take (i + 1)).map Nd.nms ++ (ch.drop (i + 1)).map Nd.nms := by rw [← List.map_append, List.take_append_drop]
              rw [e2, List.flatten_append]
              exact List.sublist_append_left _ _
            obtain ⟨S3, e1, e2, e3, e4⟩ := ih c (some s) _ S' (by have := Nd.depL_le hm; have hd' : Nd.depL ch + 1 ≤ d + 1 := hd; omega) (hnd.sublist hsub) (Nat.le_trans hsub.length_le hln) g1' q1 q2
            refine ⟨[some (.ref h), some ((Nd.kp s m a b ch).va φ), some (upV φ up), some (c.va φ)], rfl, ?_⟩
            have en : mIx (mVar 1) (mC (.int 1)) [some (.ref h), some ((Nd.kp s m a b ch).va φ), some (upV φ up), some (c.va φ)] S' = .ok (upV φ (some s)) S' := by rw [kp_va]; rfl
            rw [exp_ok (v := .non) (S1 := S3) (by rw [meth_ok rfl g1' (cons_ok rfl (cons_ok en rfl))]; exact e1)]
            rw [List.append_assoc, ← take_flat (f := Nd.lrn (some s)) q] at e2 e3
            exact ⟨⟨_, rfl⟩, e2, e3, q3.trans e4⟩)
      obtain ⟨e6, S6, q6, ⟨x, rfl⟩, j1, j2, j3⟩ := loop_nx lp
      rw [List.length_map, List.take_length, ← hL] at j1 j2
      refine ⟨S6, ?_, ?_, ?_, j3⟩
      · rw [ifs_t (S1 := S2) (by
          rw [kp_va]
          show R.ok (decide (s1 = s1)) S2 = _
          rw [decide_eq_true rfl])]
        rw [q6]
        rfl
      · rw [j1, List.append_assoc] <;> rfl
      · rw [j2, List.append_assoc] <;> rfl
end Mi
namespace Mi
open PySem PySem.Spec PyProof.Rows L2 Pg
def kvOf (ks : List Str) (vs : List Va) : List (Key × Va) := (ks.zip vs).map fun e => (.inr e.1, e.2)
theorem kvOf_snoc {ks : List Str} {vs : List Va} {k : Str} {v : Va} (h : ks.length = vs.length) : kvOf (ks ++ [k]) (vs ++ [v]) = kvOf ks vs ++ [(.inr k, v)] := by
  unfold kvOf
  rw [List.zip_append h, List.map_append] <;> rfl
/-- a dict comprehension over texts, all unlike; what it makes of the i-th has P, which stays while others than the dict stay -/
theorem dc_of {fi : IF} {t : TF} {fk fv : EF} {vs : List Nat} {env : Ev} {S S1 : Sto} {m : MI} {ks : List Str} (P : Nat → Va → Sto → Prop) (hP : ∀ i v S S', P i v S → Fr [S1.n] S S' → P i v S') (hf : fi env S = .ok m S1) (hm : Items m S1 (ks.map Va.str)) (hn : ks.Nodup) (hl : ks.length ≤ 1000)
    (step : ∀ (i : Nat) k S2, ks[i]? = some k → Fr [] S1 S2 → S1.n < S2.n → ∃ env1 v S3, t (.str k) (wipeE env vs) S2 = some env1 ∧ fk env1 S2 = .ok (.str k) S2 ∧ fv env1 S2 = .ok v S3 ∧ P i v S3 ∧ Fr [] S2 S3) :
    ∃ us S', mDc fi t mYes fk fv vs env S = .ok (.ref S1.n) S' ∧ us.length = ks.length ∧ S'.get S1.n = some (.dic (kvOf ks us)) ∧ (∀ i v, us[i]? = some v → P i v S') ∧ Fr [] S1 S' := by
  obtain ⟨hb, hx⟩ := hm
  rw [List.length_map] at hb
  have main : ∀ (k i : Nat) (us : List Va) (S3 : Sto), i + k = ks.length → us.length = i → S3.get S1.n = some (.dic (kvOf (ks.take i) us)) → (∀ j v, us[j]? = some v → P j v S3) → Fr [] S1 S3 →
      ∃ us' S', loopD m t mYes fk fv S1.n (wipeE env vs) (k + 1) i S3 = .ok (.ref S1.n) S' ∧ us'.length = ks.length ∧ S'.get S1.n = some (.dic (kvOf ks us')) ∧ (∀ j v, us'[j]? = some v → P j v S') ∧ Fr [] S1 S' := by
    intro k
    induction k with
    | zero =>
      intro i us S3 hi hu g hp f
      have e : i = ks.length := by omega
      subst e
      refine ⟨us, S3, ?_, hu, by rw [g, List.take_length], hp, f⟩
      rw [loopD, hx _ S3 f, List.getElem?_eq_none_iff.mpr (by rw [List.length_map]; exact Nat.le_refl _)]
    | succ k ih =>
      intro i us S3 hi hu g hp f
      have hki : ks[i]? = some (ks[i]'(by omega)) := List.getElem?_eq_getElem (by omega)
      obtain ⟨env1, v, S4, h1, h2, h3, h4, h5⟩ := step i _ S3 hki f (Sto.lt g)
      have g4 := h5.at g (by simp)
      have hlen : (kvOf (ks.take i) us).length < 1000000 := by
        unfold kvOf
        rw [List.length_map, List.length_zip, List.length_take]
        omega
      have hnew : ∀ e ∈ kvOf (ks.take i) us, e.1 ≠ .inr (ks[i]'(by omega)) := fun e he z => by
        obtain ⟨q, hq, eq⟩ := List.mem_map.mp he
        subst eq
        have hm1 := (List.of_mem_zip hq).1
        obtain ⟨j, hj, ej⟩ := List.mem_iff_getElem.mp hm1
        rw [List.length_take] at hj
        rw [List.getElem_take] at ej
        have := (List.getElem_inj hn).mp (ej.trans (Sum.inr.inj z))
        omega
      obtain ⟨us', S', e1, e2, e3, e4, e5⟩ := ih (i + 1) (us ++ [v]) (S4.set S1.n (.dic (kvOf (ks.take (i + 1)) (us ++ [v])))) (by omega) (by rw [List.length_append, hu] <;> rfl) (Sto.get_set (Sto.lt g4)) (fun j w hj => by
        have fr : Fr [S1.n] S3 (S4.set S1.n (.dic (kvOf (ks.take (i + 1)) (us ++ [v])))) := (h5.mono (fun _ z => nomatch z)).trans (Fr.set S4 _)
        by_cases hjl : j < us.length
        · rw [List.getElem?_append_left hjl] at hj
          exact hP j w S3 _ (hp j w hj) fr
        · have hj2 : j = us.length := by
            have := (List.getElem?_eq_some_iff.mp hj).1
            rw [List.length_append, List.length_singleton] at this
            omega
          subst hj2
          rw [List.getElem?_append_right (Nat.le_refl _), Nat.sub_self] at hj
          cases hj
          rw [hu]
          exact hP i v S4 _ h4 (Fr.set S4 _)) (f.upd h5 (Nat.le_refl _))
      refine ⟨us', S', ?_, e2, e3, e4, e5⟩
      rw [loopD, hx i S3 f, List.getElem?_map, hki]
      dsimp only [Option.map]
      rw [h1]
      dsimp only
      show R.bind (R.ok true S3) _ = _
      rw [bind_ok]
      dsimp only
      rw [h2, bind_ok, h3, bind_ok]
      unfold keyOf
      dsimp only
      rw [g4]
      dsimp only
      rw [bltT hlen]
      dsimp only
      rw [dPut_new hnew, ← kvOf_snoc (by rw [List.length_take, hu]; omega)]
      have et : ks.take i ++ [ks[i]'(by omega)] = ks.take (i + 1) := by rw [List.take_succ, hki] <;> rfl
      rw [et]
      exact e1
  obtain ⟨us, S', e1, e2, e3, e4, e5⟩ := main ks.length 0 [] (S1.new (.dic [])) (by omega) rfl Sto.get_new (fun j v hj => by simp at hj) (Fr.new [] S1 _)
  refine ⟨us, S', ?_, e2, e3, e4, e5⟩
  unfold mDc
  rw [hf, bind_ok, hb]
  exact e1
/-- a lock around what only makes new objects -/
theorem lock_of {lk : Ev → Sto → Option Nat} {f : EF} {env : Ev} {S S' : Sto} {n : Nat} {kvs : List (Key × Va)} {v : Va} (h1 : lk env S = some n) (h2 : S.get n = some (.dic kvs)) (h3 : f env (S.set n (.frd kvs)) = .ok v S') (h4 : Fr [] (S.set n (.frd kvs)) S') :
    mLockE lk f env S = .ok v (S'.set n (.dic kvs)) ∧ Fr [] S (S'.set n (.dic kvs)) := by
  have g : S'.get n = some (.frd kvs) := h4.at (Sto.get_set (Sto.lt h2)) (by simp)
  refine ⟨?_, ⟨h4.le, fun i hi _ => ?_⟩⟩
  · unfold mLockE
    rw [h1]
    dsimp only
    rw [h2]
    dsimp only
    rw [h3, bind_ok, g]
  · by_cases e : n = i
    · subst e
      rw [Sto.get_set (Sto.lt g), h2]
    · rw [Sto.get_set_ne e, h4.same i hi (by simp), Sto.get_set_ne e]
theorem keys_R {f : EF} {env : Ev} {S S1 : Sto} {a : Nat} {kvs : List (Key × Va)} (h : f env S = .ok (.ref a) S1) (g : S1.get a = some (.frd kvs)) : iKeyL f env S = .ok (miL (kvs.map fun kv => vaK kv.1)) S1 := by
  unfold iKeyL
  rw [h, bind_ok]
  try dsimp only
  rw [g]
theorem lockS_of {lk : Ev → Sto → Option Nat} {f : SF} {env env' : Ev} {S S' : Sto} {n : Nat} {kvs : List (Key × Va)} (h1 : lk env S = some n) (h2 : S.get n = some (.dic kvs)) (h3 : f env (S.set n (.frd kvs)) = .ok (.nx env') S') (h4 : Fr [] (S.set n (.frd kvs)) S') :
    mLockS lk f env S = .ok (.nx env') (S'.set n (.dic kvs)) ∧ Fr [] S (S'.set n (.dic kvs)) := by
  have g : S'.get n = some (.frd kvs) := h4.at (Sto.get_set (Sto.lt h2)) (by simp)
  refine ⟨?_, ⟨h4.le, fun i hi _ => ?_⟩⟩
  · unfold mLockS
    rw [h1]
    dsimp only
    rw [h2]
    dsimp only
    rw [h3]
    dsimp only
    rw [g]
  · by_cases e : n = i
    · subst e
      rw [Sto.get_set (Sto.lt g), h2]
    · rw [Sto.get_set_ne e, h4.same i hi (by simp), Sto.get_set_ne e]
theorem dGet_kv : ∀ {ks : List Str} {us : List Va} {i : Nat} {k : Str} {u : Va}, ks.Nodup → ks[i]? = some k → us[i]? = some u → dGet (kvOf ks us) (.inr k) = some u
  | [], _, i, k, u, _, h, _ => by simp at h
  | _ :: _, [], i, k, u, _, _, h => by simp at h
  | x :: r, y :: t, 0, k, u, hn, h, h2 => by
    have e1 : x = k := by simpa using h
    have e2 : y = u := by simpa using h2
    subst e1 e2
    show dGet ((.inr x, y) :: kvOf r t) (.inr x) = some y
    simp [dGet]
  | x :: r, y :: t, i + 1, k, u, hn, h, h2 => by
    have hk : r[i]? = some k := by simpa using h
    have hu : t[i]? = some u := by simpa using h2
    have ne : x ≠ k := fun e => (List.nodup_cons.mp hn).1 (e ▸ List.mem_of_getElem? hk)
    have ih := dGet_kv (List.nodup_cons.mp hn).2 hk hu
    show dGet ((.inr x, y) :: kvOf r t) (.inr k) = some u
    have ne2 : ¬ ((Sum.inr x : Key) = .inr k) := fun e => ne (Sum.inr.inj e)
    simp [dGet, ne2, ne] at ih ⊢
    exact ih
/-! ### a house -/
/-- what deeds change -/
structure M where
  clock : Int
  up : Nat → Bool
  fallen : Nat → List Int
  rows : List (Int × Str × Nat)
  down : Bool
/-- where a house's parts lie -/
structure Ad where
  h : Nat
  Nn : Nat
  Nu : Nat
  Au : Nat
  Af : Nat
  Ar : Nat
  Ap : Nat
def Ad.muts (A : Ad) : List Nat := [A.h, A.Au, A.Af, A.Ar, A.Ap]
def houseO (φ : Nat → Str) (T : Nd) (A : Ad) (clock : Int) (down : Bool) : Ob :=
  .ins 0 [(1, T.va φ), (2, .ref A.Nn), (3, .ref A.Nu), (4, .int clock), (5, .ref A.Au), (6, .ref A.Af), (7, .ref A.Ar), (8, .bl down), (9, .ref A.Ap)]
def rowV (φ : Nat → Str) (off : Int) (r : Int × Str × Nat) : Va := .tup [.int (r.1 + off), .str r.2.1, .str (φ r.2.2)]
def startV (φ : Nat → Str) (i : Nat) : Va := .tup [.int 0, .str s2, .str (φ i)]
/-- the house at A stands for m, all times off later; W: all places (of all houses) that deeds write -/
structure HRep (φ : Nat → Str) (T : Nd) (off : Int) (A : Ad) (W : List Nat) (np nr : Nat) (m : M) (S : Sto) : Prop where
  obj : S.get A.h = some (houseO φ T A (m.clock + off) m.down)
  up : S.get A.Au = some (.dic (kvOf (T.wks.map φ) (T.wks.map fun i => .bl (m.up i))))
  fal : ∃ us, us.length = T.nms.length ∧ S.get A.Af = some (.dic (kvOf (T.nms.map φ) us)) ∧ ∀ (j i : Nat) (v : Va), T.nms[j]? = some i → us[j]? = some v → ∃ a, v = .ref a ∧ S.get a = some (.lst ((m.fallen i).map fun t => .int (t + off))) ∧ a ∉ W
  row : S.get A.Ar = some (.lst (T.wks.map (startV φ) ++ m.rows.map (rowV φ off)))
  nodes : S.get A.Nn = some (.dic (kN φ (T.lrn none)))
  ups : S.get A.Nu = some (.dic (kU φ (T.lrn none)))
  past : ∃ l, S.get A.Ap = some (.lst l) ∧ l.length ≤ np
  nrow : m.rows.length ≤ nr
  nd : A.muts.Nodup
  sub : ∀ x ∈ A.muts, x ∈ W
  nw : A.Nn ∉ W ∧ A.Nu ∉ W
theorem HRep.fr {φ : Nat → Str} {T : Nd} {off : Int} {A : Ad} {W bs : List Nat} {np nr : Nat} {m : M} {S S' : Sto} (r : HRep φ T off A W np nr m S) (f : Fr bs S S') (h1 : ∀ x ∈ bs, x ∈ W) (h2 : ∀ x ∈ A.muts, x ∉ bs) : HRep φ T off A W np nr m S' := by
  have mh : A.h ∈ A.muts := by simp [Ad.muts]
  have mu : A.Au ∈ A.muts := by simp [Ad.muts]
  have mf : A.Af ∈ A.muts := by simp [Ad.muts]
  have mr : A.Ar ∈ A.muts := by simp [Ad.muts]
  have mp : A.Ap ∈ A.muts := by simp [Ad.muts]
  obtain ⟨us, u1, u2, u3⟩ := r.fal
  obtain ⟨l, p1, p2⟩ := r.past
  refine ⟨f.at r.obj (h2 _ mh), f.at r.up (h2 _ mu), ⟨us, u1, f.at u2 (h2 _ mf), fun j i v hj hv => ?_⟩, f.at r.row (h2 _ mr), f.at r.nodes (fun z => r.nw.1 (h1 _ z)), f.at r.ups (fun z => r.nw.2 (h1 _ z)), ⟨l, f.at p1 (h2 _ mp), p2⟩, r.nrow, r.nd, r.sub, r.nw⟩
  obtain ⟨a, e1, e2, e3⟩ := u3 j i v hj hv
  exact ⟨a, e1, f.at e2 (fun z => e3 (h1 _ z)), e3⟩
/-- state(): some value, nothing written -/
theorem state12 {φ : Nat → Str} (inj : ∀ i j, φ i = φ j → i = j) {T : Nd} {off : Int} {A : Ad} {W : List Nat} {np nr d : Nat} {m : M} {S : Sto} (hT : Tree φ T) (r : HRep φ T off A W np nr m S) : ∃ v S', callF prog (d + 1) 12 [.ref A.h] S = .ok v S' ∧ Fr [] S S' := by
  obtain ⟨us, u1, u2, u3⟩ := r.fal
  have hnd := nodup_map inj hT.nd
  have hne : A.Af ≠ A.h := by
    have := r.nd
    simp only [Ad.muts, List.nodup_cons, List.mem_cons, List.not_mem_nil, or_false, not_or] at this
    exact Ne.symm this.1.2.1
  have hlt := Sto.lt u2
  obtain ⟨S0, eS0⟩ : ∃ S0, S.set A.Af (.frd (kvOf (T.nms.map φ) us)) = S0 := ⟨_, rfl⟩
  have f0 : Fr [A.Af] S S0 := eS0 ▸ Fr.set _ _
  have o0 : S0.get A.h = some (houseO φ T A (m.clock + off) m.down) := f0.at r.obj (by simpa using Ne.symm hne)
  have d0 : S0.get A.Af = some (.frd (kvOf (T.nms.map φ) us)) := by rw [← eS0]; exact Sto.get_set hlt
  have hAW : A.Af ∈ W := r.sub _ (by simp [Ad.muts])
  have hks : ((kvOf (T.nms.map φ) us).map fun kv => vaK kv.1) = (T.nms.map φ).map Va.str := by
    unfold kvOf
    rw [List.map_map]
    have : (fun kv : Key × Va => vaK kv.1) ∘ (fun e : Str × Va => ((.inr e.1, e.2) : Key × Va)) = Va.str ∘ Prod.fst := rfl
    rw [this, ← List.map_map, List.map_fst_zip (by rw [List.length_map, u1]; exact Nat.le_refl _)]
  obtain ⟨vs, S1, e1, e2, e3, _, e5⟩ := dc_of (fi := iKeyL (mFld 6 (mVar 0))) (t := tNm 2) (fk := mVar 2) (fv := mBi gList (mCons (mIx (mFld 6 (mVar 0)) (mVar 2)) mNil)) (vs := [2]) (env := [some (.ref A.h), none, none]) (S := S0) (S1 := S0) (m := miL ((T.nms.map φ).map Va.str)) (ks := T.nms.map φ) (fun _ _ _ => True) (fun _ _ _ _ _ _ => trivial)
    (by rw [keys_R (fld_ok rfl o0 rfl) d0, hks]) (items_L _) hnd (by rw [List.length_map]; have := hT.len; omega) (fun i k S2 hk f hlt2 => by
      rw [List.getElem?_map] at hk
      cases q : T.nms[i]? with
      | none => rw [q] at hk; cases hk
      | some j =>
        rw [q] at hk
        cases hk
        have hil : i < us.length := by rw [u1]; exact (List.getElem?_eq_some_iff.mp q).1
        obtain ⟨a, ea, ga, na⟩ := u3 i j us[i] q (List.getElem?_eq_getElem hil)
        have hdg : dGet (kvOf (T.nms.map φ) us) (.inr (φ j)) = some (.ref a) := by
          rw [← ea]
          exact dGet_kv hnd (by rw [List.getElem?_map, q] <;> rfl) (List.getElem?_eq_getElem hil)
        have ga2 : S2.get a = some (.lst ((m.fallen j).map fun t => .int (t + off))) := f.at (f0.at ga (by
          intro z
          rw [List.mem_singleton.mp z] at na
          exact na hAW)) (by simp)
        refine ⟨[some (.ref A.h), none, some (.str (φ j))], .ref S2.n, S2.new (.lst ((m.fallen j).map fun t => .int (t + off))), rfl, rfl, ?_, trivial, Fr.new [] S2 _⟩
        have ix : mIx (mFld 6 (mVar 0)) (mVar 2) [some (.ref A.h), none, some (.str (φ j))] S2 = .ok (.ref a) S2 := by
          refine ix_ok (fld_ok rfl (f.at o0 (by simp)) rfl) rfl ?_
          show gIxO (S2.get A.Af) (.str (φ j)) = _
          rw [f.at d0 (by simp)]
          exact hdg
        rw [bi_ok (cons_ok ix rfl)]
        unfold gList g1 seqOf
        try dsimp only
        rw [ga2])
  have hs : mSet (tNm 1) (mDc (iKeyL (mFld 6 (mVar 0))) (tNm 2) mYes (mVar 2) (mBi gList (mCons (mIx (mFld 6 (mVar 0)) (mVar 2)) mNil)) [2]) [some (.ref A.h), none, none] S0 = .ok (.nx [some (.ref A.h), some (.ref S0.n), none]) S1 := set_ok e1 rfl
  rw [← eS0] at hs e5
  obtain ⟨k1, k2⟩ := lockS_of (lk := lkF 0 6) (n := A.Af) (by
    unfold lkF
    try dsimp only
    unfold gFld
    simp only [List.getElem?_cons_zero]
    rw [r.obj] <;> rfl) u2 hs e5
  obtain ⟨S2, eS2⟩ : ∃ S2, S1.set A.Af (.dic (kvOf (T.nms.map φ) us)) = S2 := ⟨_, rfl⟩
  rw [eS2] at k1 k2
  rw [eS0] at k1
  have o2 := k2.at r.obj (by simp)
  have a2 := k2.at r.up (by simp)
  have w2 := k2.at r.row (by simp)
  obtain ⟨S3, eS3⟩ : ∃ S3, S2.new (.dic (kvOf (T.wks.map φ) (T.wks.map fun i => .bl (m.up i)))) = S3 := ⟨_, rfl⟩
  have f3 : Fr [] S2 S3 := eS3 ▸ Fr.new [] S2 _
  refine ⟨.tup [.int (m.clock + off), .ref S2.n, .ref S0.n, .ref S3.n, .bl m.down], S3.new (.lst (T.wks.map (startV φ) ++ m.rows.map (rowV φ off))), ?_, k2.trans (f3.trans (Fr.new [] S3 _))⟩
  rw [callF_succ (df := ⟨1, 3, f12⟩) rfl rfl]
  show runB (f12 (callF prog d) [some (.ref A.h), none, none] S) = _
  unfold f12
  rw [seq_nx k1]
  have b1 : mBi gDict1 (mCons (mFld 5 (mVar 0)) mNil) [some (.ref A.h), some (.ref S0.n), none] S2 = .ok (.ref S2.n) S3 := by
    rw [bi_ok (cons_ok (fld_ok rfl o2 rfl) rfl)]
    unfold gDict1 g1
    try dsimp only
    rw [a2, ← eS3]
  have b2 : mBi gList (mCons (mFld 7 (mVar 0)) mNil) [some (.ref A.h), some (.ref S0.n), none] S3 = .ok (.ref S3.n) (S3.new (.lst (T.wks.map (startV φ) ++ m.rows.map (rowV φ off)))) := by
    rw [bi_ok (cons_ok (fld_ok rfl (f3.at o2 (by simp)) rfl) rfl)]
    unfold gList g1 seqOf
    try dsimp only
    rw [f3.at w2 (by simp)]
  have b3 := fld_ok (j := 8) (f := mVar 0) (env := [some (.ref A.h), some (.ref S0.n), none]) (S := S3.new (.lst (T.wks.map (startV φ) ++ m.rows.map (rowV φ off)))) rfl (Sto.get_new_of (f3.at o2 (by simp))) (v := .bl m.down) rfl
  rw [ret_ok (by
    unfold mTup
    rw [cons_ok (fld_ok rfl o2 rfl) (cons_ok b1 (cons_ok rfl (cons_ok b2 (cons_ok b3 rfl)))), bind_ok] <;> rfl)]
  rfl
end Mi
namespace Mi
open PySem PySem.Spec PyProof.Rows L2 Pg
section
variable {φ : Nat → Str} {T : Nd} {off : Int} {A : Ad} {W : List Nat} {np nr d : Nat} {m : M} {S : Sto}
theorem HRep.ne (r : HRep φ T off A W np nr m S) : A.h ≠ A.Au ∧ A.h ≠ A.Af ∧ A.h ≠ A.Ar ∧ A.h ≠ A.Ap ∧ A.Au ≠ A.Af ∧ A.Au ≠ A.Ar ∧ A.Au ≠ A.Ap ∧ A.Af ≠ A.Ar ∧ A.Af ≠ A.Ap ∧ A.Ar ≠ A.Ap := by
  have := r.nd
  simp only [Ad.muts, List.nodup_cons, List.mem_cons, List.not_mem_nil, or_false, not_or, List.nodup_nil, not_false_eq_true, and_true] at this
  obtain ⟨⟨a, b, c, d⟩, ⟨e, f, g⟩, ⟨i, j⟩, k⟩ := this
  exact ⟨a, b, c, d, e, f, g, i, j, k⟩
/-- the object itself is written: clock, down -/
theorem HRep.setObj (r : HRep φ T off A W np nr m S) (clock : Int) (down : Bool) : HRep φ T off A W np nr { m with clock := clock, down := down } (S.set A.h (houseO φ T A (clock + off) down)) := by
  obtain ⟨n1, n2, n3, n4, _⟩ := r.ne
  have hh : A.h ∈ W := r.sub _ (by simp [Ad.muts])
  have f : Fr [A.h] S (S.set A.h (houseO φ T A (clock + off) down)) := Fr.set _ _
  obtain ⟨us, u1, u2, u3⟩ := r.fal
  obtain ⟨l, p1, p2⟩ := r.past
  refine ⟨Sto.get_set (Sto.lt r.obj), f.at r.up (by simpa using Ne.symm n1), ⟨us, u1, f.at u2 (by simpa using Ne.symm n2), fun j i v hj hv => ?_⟩, f.at r.row (by simpa using Ne.symm n3), f.at r.nodes (by simp; exact fun z => r.nw.1 (z ▸ hh)), f.at r.ups (by simp; exact fun z => r.nw.2 (z ▸ hh)), ⟨l, f.at p1 (by simpa using Ne.symm n4), p2⟩, r.nrow, r.nd, r.sub, r.nw⟩
  obtain ⟨a, e1, e2, e3⟩ := u3 j i v hj hv
  exact ⟨a, e1, f.at e2 (by simp; exact fun z => e3 (z ▸ hh)), e3⟩
/-- one more in the past -/
theorem HRep.addPast (r : HRep φ T off A W np nr m S) {l : List Va} (hl : S.get A.Ap = some (.lst l)) (hn : l.length ≤ np) (v : Va) : HRep φ T off A W (np + 1) nr m (S.set A.Ap (.lst (l ++ [v]))) := by
  obtain ⟨_, _, _, n4, _, _, n7, _, n9, n10⟩ := r.ne
  have hh : A.Ap ∈ W := r.sub _ (by simp [Ad.muts])
  have f : Fr [A.Ap] S (S.set A.Ap (.lst (l ++ [v]))) := Fr.set _ _
  obtain ⟨us, u1, u2, u3⟩ := r.fal
  refine ⟨f.at r.obj (by simpa using n4), f.at r.up (by simpa using n7), ⟨us, u1, f.at u2 (by simpa using n9), fun j i v hj hv => ?_⟩, f.at r.row (by simpa using n10), f.at r.nodes (by simp; exact fun z => r.nw.1 (z ▸ hh)), f.at r.ups (by simp; exact fun z => r.nw.2 (z ▸ hh)), ⟨_, Sto.get_set (Sto.lt hl), by rw [List.length_append, List.length_singleton]; omega⟩, r.nrow, r.nd, r.sub, r.nw⟩
  obtain ⟨a, e1, e2, e3⟩ := u3 j i _ hj hv
  exact ⟨a, e1, f.at e2 (by simp; exact fun z => e3 (z ▸ hh)), e3⟩
theorem setFld_ok {c g j : Nat} {fs : List (Nat × Va)} {env : Ev} {S S1 : Sto} {v : Va} {a o : EF} (ha : a env S = .ok v S1) (ho : o env S1 = .ok (.ref g) S1) (hS : S1.get g = some (.ins c fs)) (hn : na c j = true) (hb : Nat.blt fs.length 100 = true) :
    mSetFld na j o a env S = .ok (.nx env) (S1.set g (.ins c (fPut fs j v))) := by
  unfold mSetFld
  rw [ha, bind_ok, ho, bind_ok]
  unfold gSetFld
  try dsimp only
  rw [hS]
  try dsimp only
  rw [hn, hb]
  rfl
/-- go_to -/
theorem go13 (inj : ∀ i j, φ i = φ j → i = j) (hT : Tree φ T) (r : HRep φ T off A W np nr m S) {t : Int} (h1 : m.clock ≤ t) (h2 : t + off ≤ 1000000000) (hp : np < 1000) :
    ∃ S', callF prog (d + 3) 13 [.ref A.h, .int (t + off)] S = .ok .non S' ∧ HRep φ T off A W (np + 1) nr { m with clock := t } S' ∧ Fr A.muts S S' := by
  obtain ⟨l, p1, p2⟩ := r.past
  obtain ⟨v, S1, e1, F1⟩ := state12 (d := d + 1) inj hT r
  have r1 := r.fr F1 (fun _ z => nomatch z) (fun _ _ z => nomatch z)
  have p1' := F1.at p1 (by simp)
  have r2 := r1.addPast p1' p2 v
  have r3 := r2.setObj t m.down
  refine ⟨_, ?_, r3, (F1.mono (fun _ z => nomatch z)).trans (((Fr.set S1 _).mono (by simp [Ad.muts])).trans ((Fr.set _ _).mono (by simp [Ad.muts])))⟩
  rw [callF_succ (df := ⟨2, 2, f13⟩) rfl rfl]
  show runB (f13 (callF prog (d + 2)) [some (.ref A.h), some (.int (t + off))] S) = _
  unfold f13
  have w : mCall (callF prog (d + 2)) 4 (mCons (mVar 1) (mCons (mFld 4 (mVar 0)) (mCons (mC (.int 1000000000)) mNil))) [] [some (.ref A.h), some (.int (t + off))] S = .ok (.bl true) S := by
    rw [call_ok' (cons_ok rfl (cons_ok (fld_ok rfl r.obj rfl) (cons_ok rfl rfl)))]
    have := is_within4 (d := d) (i := t + off) (lo := m.clock + off) (hi := 1000000000) (S := S)
    rw [decide_eq_true (by omega), decide_eq_true h2] at this
    exact this
  rw [seq_nx (e1 := [some (.ref A.h), some (.int (t + off))]) (S1 := S) (by rw [ifs_f (S1 := S) (notB_ok (tru_ok w rfl))]; rfl)]
  have st : mMeth (callF prog (d + 2)) (Mi.M1 0 12 []) (mVar 0) mNil [some (.ref A.h), some (.int (t + off))] S = .ok v S1 := by
    rw [meth_ok rfl r.obj rfl]
    exact e1
  rw [seq_nx (exp_ok (v := .non) (S1 := S1.set A.Ap (.lst (l ++ [v]))) (by
    rw [bm_ok (fld_ok rfl r.obj rfl) (kn_L p1) (cons_ok st rfl)]
    exact append_ok p1' (by omega)))]
  rw [setFld_ok (v := .int (t + off)) rfl rfl r2.obj rfl rfl]
  rfl
end
end Mi
namespace Mi
open PySem PySem.Spec PyProof.Rows L2 Pg
theorem kvOf_map (φ : Nat → Str) (f : Nat → Va) : ∀ ws : List Nat, kvOf (ws.map φ) (ws.map f) = ws.map fun i => ((.inr (φ i), f i) : Key × Va)
  | [] => rfl
  | a :: r => by
    have := kvOf_map φ f r
    unfold kvOf at this ⊢
    rw [List.map_cons, List.map_cons, List.zip_cons_cons, List.map_cons, this] <;> rfl
theorem dPut_old {φ : Nat → Str} (inj : ∀ i j, φ i = φ j → i = j) {f : Nat → Va} {ws : List Nat} {w : Nat} {v : Va} (hw : w ∈ ws) : dPut (kvOf (ws.map φ) (ws.map f)) (.inr (φ w)) v = kvOf (ws.map φ) (ws.map fun i => if i = w then v else f i) := by
  rw [kvOf_map, kvOf_map]
  unfold dPut
  have : ((ws.map fun i => ((.inr (φ i), f i) : Key × Va)).any fun kv => decide (kv.1 = .inr (φ w))) = true := List.any_eq_true.mpr ⟨_, List.mem_map.mpr ⟨w, hw, rfl⟩, decide_eq_true rfl⟩
  rw [this]
  dsimp only
  rw [List.map_map]
  refine List.map_congr_left fun i _ => ?_
  show (match decide ((Sum.inr (φ i) : Key) = .inr (φ w)) with | true => ((.inr (φ i), v) : Key × Va) | false => (.inr (φ i), f i)) = _
  by_cases e : i = w
  · subst e
    rw [decide_eq_true rfl, if_pos rfl]
  · rw [decide_eq_false (fun z => e (inj _ _ (Sum.inr.inj z))), if_neg e]
theorem dGet_map {φ : Nat → Str} (inj : ∀ i j, φ i = φ j → i = j) {f : Nat → Va} {ws : List Nat} {w : Nat} (hn : ws.Nodup) (hw : w ∈ ws) : dGet (kvOf (ws.map φ) (ws.map f)) (.inr (φ w)) = some (f w) := by
  obtain ⟨i, hi, e⟩ := List.mem_iff_getElem.mp hw
  have q : ws[i]? = some w := by rw [List.getElem?_eq_getElem hi, e]
  exact dGet_kv (nodup_map inj hn) (by rw [List.getElem?_map, q] <;> rfl) (by rw [List.getElem?_map, q] <;> rfl)
mutual
theorem Nd.wks_sub : ∀ n : Nd, List.Sublist n.wks n.nms
  | .wk _ => List.Sublist.refl _
  | .kp s _ _ _ ch => List.Sublist.cons s (Nd.wksL_sub ch)
theorem Nd.wksL_sub : ∀ ch : List Nd, List.Sublist (Nd.wksL ch) (Nd.nmsL ch)
  | [] => List.Sublist.refl _
  | n :: r => by
    unfold Nd.wksL Nd.nmsL
    exact List.Sublist.append (Nd.wks_sub n) (Nd.wksL_sub r)
end
section
variable {φ : Nat → Str} {T : Nd} {off : Int} {A : Ad} {W : List Nat} {np nr d : Nat} {m : M} {S : Sto}
/-- a worker's standing -/
theorem HRep.setUp (inj : ∀ i j, φ i = φ j → i = j) (hT : Tree φ T) (r : HRep φ T off A W np nr m S) {w : Nat} (hw : w ∈ T.wks) (b : Bool) : ∃ S', gSetIx (.ref A.Au) (.str (φ w)) (.bl b) S = some S' ∧ HRep φ T off A W np nr { m with up := fun i => if i = w then b else m.up i } S' ∧ Fr [A.Au] S S' := by
  obtain ⟨n1, n2, n3, n4, n5, n6, n7, n8, n9, n10⟩ := r.ne
  have hh : A.Au ∈ W := r.sub _ (by simp [Ad.muts])
  have hl : (kvOf (T.wks.map φ) (T.wks.map fun i => Va.bl (m.up i))).length ≤ T.wks.length := by
    rw [kvOf_map, List.length_map]
    exact Nat.le_refl _
  obtain ⟨S', eS⟩ : ∃ S', S.set A.Au (.dic (kvOf (T.wks.map φ) (T.wks.map fun i => .bl (if i = w then b else m.up i)))) = S' := ⟨_, rfl⟩
  have f : Fr [A.Au] S S' := eS ▸ Fr.set _ _
  obtain ⟨us, u1, u2, u3⟩ := r.fal
  obtain ⟨l, p1, p2⟩ := r.past
  have hlen : (kvOf (T.wks.map φ) (T.wks.map fun i => Va.bl (m.up i))).length < 1000000 := by
    have := hT.len
    have := Nd.wks_le T
    omega
  · refine ⟨S', ?_, ⟨f.at r.obj (by simpa using n1), by rw [← eS]; exact Sto.get_set (Sto.lt r.up), ⟨us, u1, f.at u2 (by simpa using Ne.symm n5), fun j i v hj hv => ?_⟩, f.at r.row (by simpa using Ne.symm n6), f.at r.nodes (by simp; exact fun z => r.nw.1 (z ▸ hh)), f.at r.ups (by simp; exact fun z => r.nw.2 (z ▸ hh)), ⟨l, f.at p1 (by simpa using Ne.symm n7), p2⟩, r.nrow, r.nd, r.sub, r.nw⟩, f⟩
    · unfold gSetIx
      try dsimp only
      rw [r.up]
      try dsimp only
      unfold keyOf
      try dsimp only
      rw [bltT hlen]
      try dsimp only
      rw [dPut_old (f := fun i => Va.bl (m.up i)) inj hw, ← eS]
      have e : (T.wks.map fun i => if i = w then Va.bl b else Va.bl (m.up i)) = T.wks.map fun i => Va.bl (if i = w then b else m.up i) := List.map_congr_left fun i _ => by split <;> rfl
      rw [e]
    · obtain ⟨a, e1, e2, e3⟩ := u3 j i v hj hv
      exact ⟨a, e1, f.at e2 (by simp; exact fun z => e3 (z ▸ hh)), e3⟩
theorem HRep.addRow (hT : Tree φ T) (r : HRep φ T off A W np nr m S) (hr : nr ≤ 900000) (word : Str) (w : Nat) : ∃ S', gAppend (.ref A.Ar) [.tup [.int (m.clock + off), .str word, .str (φ w)]] S = .ok .non S' ∧ HRep φ T off A W np (nr + 1) { m with rows := m.rows ++ [(m.clock, word, w)] } S' ∧ Fr [A.Ar] S S' := by
  obtain ⟨n1, n2, n3, n4, n5, n6, n7, n8, n9, n10⟩ := r.ne
  have hh : A.Ar ∈ W := r.sub _ (by simp [Ad.muts])
  have hlen : (T.wks.map (startV φ) ++ m.rows.map (rowV φ off)).length < 1000000 := by
    have := hT.len
    have := Nd.wks_le T
    have := r.nrow
    rw [List.length_append, List.length_map, List.length_map]
    omega
  obtain ⟨S', eS⟩ : ∃ S', S.set A.Ar (.lst (T.wks.map (startV φ) ++ m.rows.map (rowV φ off) ++ [.tup [.int (m.clock + off), .str word, .str (φ w)]])) = S' := ⟨_, rfl⟩
  have f : Fr [A.Ar] S S' := eS ▸ Fr.set _ _
  obtain ⟨us, u1, u2, u3⟩ := r.fal
  obtain ⟨l, p1, p2⟩ := r.past
  refine ⟨S', by rw [append_ok r.row hlen, eS], ⟨f.at r.obj (by simpa using n3), f.at r.up (by simpa using n6), ⟨us, u1, f.at u2 (by simpa using n8), fun j i v hj hv => ?_⟩, ?_, f.at r.nodes (by simp; exact fun z => r.nw.1 (z ▸ hh)), f.at r.ups (by simp; exact fun z => r.nw.2 (z ▸ hh)), ⟨l, f.at p1 (by simpa using Ne.symm n10), p2⟩, ?_, r.nd, r.sub, r.nw⟩, f⟩
  · obtain ⟨a, e1, e2, e3⟩ := u3 j i v hj hv
    exact ⟨a, e1, f.at e2 (by simp; exact fun z => e3 (z ▸ hh)), e3⟩
  · rw [← eS, Sto.get_set (Sto.lt r.row), List.map_append, List.append_assoc] <;> rfl
  · have := r.nrow
    show (m.rows ++ [(m.clock, word, w)]).length ≤ nr + 1
    rw [List.length_append, List.length_singleton]
    omega
def stopW (m : M) (w : Nat) : M := if m.up w then { m with up := fun i => if i = w then false else m.up i, rows := m.rows ++ [(m.clock, s10, w)] } else m
def stopN (m : M) (n : Nd) : M := n.wks.reverse.foldl stopW m
def stopAll (m : M) (l : List Nd) : M := l.reverse.foldl stopN m
/-- the inner turn of stop_all -/
theorem stopW_ok (inj : ∀ i j, φ i = φ j → i = j) (hT : Tree φ T) (r : HRep φ T off A W np nr m S) (hr : nr ≤ 900000) {w : Nat} (hw : w ∈ T.wks) {x y : Option Va} :
    ∃ S', mIfS (mTru (mIx (mFld 5 (mVar 0)) (mVar 3))) (mSeq (mSetIx (mFld 5 (mVar 0)) (mVar 3) (mC (.bl false))) (mExpr (mBm .list gAppend (mFld 7 (mVar 0)) (mCons (mTup (mCons (mFld 4 (mVar 0)) (mCons (mC (.str s10)) (mCons (mVar 3) mNil)))) mNil)))) mEnd [some (.ref A.h), x, y, some (.str (φ w))] S = .ok (.nx [some (.ref A.h), x, y, some (.str (φ w))]) S' ∧
      HRep φ T off A W np (nr + 1) (stopW m w) S' ∧ Fr A.muts S S' := by
  have hn : T.wks.Nodup := hT.nd.sublist (Nd.wks_sub T)
  have e1 : mIx (mFld 5 (mVar 0)) (mVar 3) [some (.ref A.h), x, y, some (.str (φ w))] S = .ok (.bl (m.up w)) S := by
    refine ix_ok (fld_ok rfl r.obj rfl) rfl ?_
    show gIxO (S.get A.Au) (.str (φ w)) = _
    rw [r.up]
    exact dGet_map (f := fun i => Va.bl (m.up i)) inj hn hw
  unfold stopW
  cases q : m.up w with
  | false =>
    rw [q] at e1
    refine ⟨S, by rw [ifs_f (tru_ok e1 rfl)]; rfl, ⟨r.obj, r.up, r.fal, r.row, r.nodes, r.ups, r.past, Nat.le_succ_of_le r.nrow, r.nd, r.sub, r.nw⟩, Fr.refl _ _⟩
  | true =>
    rw [q] at e1
    obtain ⟨S1, g1, r1, F1⟩ := r.setUp inj hT hw false
    obtain ⟨S2, g2, r2, F2⟩ := r1.addRow hT hr s10 w
    refine ⟨S2, ?_, r2, (F1.mono (by simp [Ad.muts])).trans (F2.mono (by simp [Ad.muts]))⟩
    rw [ifs_t (tru_ok e1 rfl), seq_nx (setIx_ok rfl (fld_ok rfl r.obj rfl) rfl g1)]
    refine exp_ok (v := .non) ?_
    have tp : mTup (mCons (mFld 4 (mVar 0)) (mCons (mC (.str s10)) (mCons (mVar 3) mNil))) [some (.ref A.h), x, y, some (.str (φ w))] S1 = .ok (.tup [.int (m.clock + off), .str s10, .str (φ w)]) S1 := by
      unfold mTup
      rw [cons_ok (fld_ok rfl r1.obj rfl) rfl, bind_ok] <;> rfl
    rw [bm_ok (fld_ok rfl r1.obj rfl) (kn_L r1.row) (cons_ok tp rfl)]
    exact g2
end
/-- for over a list that stays as it is, the last one first -/
theorem for_rev {fi : IF} {t : TF} {body : SF} {env : Ev} {S S1 : Sto} {a : Nat} {xs : List Va} (I : Nat → Ev → Sto → Prop) (Qr : Va → Sto → Prop) (hf : fi env S = .ok (miV a xs.length) S1)
    (h0 : I 0 env S1) (hl : ∀ i env S, I i env S → S.get a = some (.lst xs)) (step : ∀ (i : Nat) v env S, xs.reverse[i]? = some v → I i env S → ∃ env1, t v env S = some env1 ∧ TurnOk (I (i + 1)) Qr (body env1 S)) : LoopOk (I xs.length) Qr (mFor fi t body env S) := by
  unfold mFor
  rw [hf]
  refine loop_inv (m := miV a xs.length) I Qr (fun i env S hi h => ?_) (fun env S h => ?_) xs.length 0 _ env S1 (by omega) (Nat.lt_succ_self _) h0
  · have e : xs.reverse[i]? = some (xs[xs.length - 1 - i]'(by omega)) := by
      rw [List.getElem?_reverse (by omega), List.getElem?_eq_getElem (by omega)]
    obtain ⟨e1, h1, h2⟩ := step i _ env S e h
    refine ⟨_, e1, ?_, h1, h2⟩
    show (match S.get a with | some (.lst ys) => (match Nat.blt i xs.length with | true => (match ys[xs.length - 1 - i]? with | some v => some (some v) | none => none) | false => some none) | _ => none) = _
    rw [hl i env S h]
    dsimp only
    rw [bltT hi]
    dsimp only
    rw [List.getElem?_eq_getElem (by omega)]
  · show (match S.get a with | some (.lst ys) => (match Nat.blt xs.length xs.length with | true => (match ys[xs.length - 1 - xs.length]? with | some v => some (some v) | none => none) | false => some none) | _ => none) = _
    rw [hl _ env S h]
    dsimp only
    rw [bltF (Nat.lt_irrefl _)]
end Mi
namespace Mi
open PySem PySem.Spec PyProof.Rows L2 Pg
theorem fold_take {α β : Type} (f : α → β → α) (a : α) {l : List β} {i : Nat} {x : β} (h : l[i]? = some x) : (l.take (i + 1)).foldl f a = f ((l.take i).foldl f a) x := by
  rw [List.take_succ, h, List.foldl_append] <;> rfl
theorem rev_R {f : EF} {env : Ev} {S S1 : Sto} {a : Nat} {xs : List Va} (h : f env S = .ok (.ref a) S1) (g : S1.get a = some (.lst xs)) : iRevL f env S = .ok (miV a xs.length) S1 := by
  unfold iRevL
  rw [h, bind_ok]
  try dsimp only
  rw [g]
section
variable {φ : Nat → Str} {T : Nd} {off : Int} {A : Ad} {W : List Nat} {np nr d : Nat} {m : M} {S : Sto}
theorem HRep.more (r : HRep φ T off A W np nr m S) {n2 : Nat} (h : nr ≤ n2) : HRep φ T off A W np n2 m S := ⟨r.obj, r.up, r.fal, r.row, r.nodes, r.ups, r.past, Nat.le_trans r.nrow h, r.nd, r.sub, r.nw⟩
/-- stop_all's turn for one node -/
theorem stopN_ok {n : Nd} (inj : ∀ i j, φ i = φ j → i = j) (hT : Tree φ T) (hW : ∀ x ∈ W, x < S.n) (r : HRep φ T off A W np nr m S) (hr : nr + n.wks.length ≤ 900000) (hd : n.dep ≤ d) (hl : n.nms.length ≤ 100) (hw : ∀ w ∈ n.wks, w ∈ T.wks) {x y : Option Va} :
    ∃ z S', mFor (iRevL (mCall (callF prog (d + 1)) 9 (mCons (mVar 2) mNil) [])) (tNm 3) (mIfS (mTru (mIx (mFld 5 (mVar 0)) (mVar 3))) (mSeq (mSetIx (mFld 5 (mVar 0)) (mVar 3) (mC (.bl false))) (mExpr (mBm .list gAppend (mFld 7 (mVar 0)) (mCons (mTup (mCons (mFld 4 (mVar 0)) (mCons (mC (.str s10)) (mCons (mVar 3) mNil)))) mNil)))) mEnd) [some (.ref A.h), x, some (n.va φ), y] S = .ok (.nx [some (.ref A.h), x, some (n.va φ), z]) S' ∧
      HRep φ T off A W np (nr + n.wks.length) (stopN m n) S' ∧ Fr A.muts S S' := by
  obtain ⟨L, S1, e1, e2, e3, e4, e5⟩ := workers9 (φ := φ) d n S hd hl
  have ec : mCall (callF prog (d + 1)) 9 (mCons (mVar 2) mNil) [] [some (.ref A.h), x, some (n.va φ), y] S = .ok (.ref L) S1 := e1
  have r1 := r.fr e5 (fun _ z => nomatch z) (fun _ _ z => nomatch z)
  have hLA : L ∉ A.muts := fun z => by have := hW L (r.sub L z); omega
  have lp := for_rev (fi := iRevL (mCall (callF prog (d + 1)) 9 (mCons (mVar 2) mNil) [])) (t := tNm 3) (body := mIfS (mTru (mIx (mFld 5 (mVar 0)) (mVar 3))) (mSeq (mSetIx (mFld 5 (mVar 0)) (mVar 3) (mC (.bl false))) (mExpr (mBm .list gAppend (mFld 7 (mVar 0)) (mCons (mTup (mCons (mFld 4 (mVar 0)) (mCons (mC (.str s10)) (mCons (mVar 3) mNil)))) mNil)))) mEnd) (env := [some (.ref A.h), x, some (n.va φ), y]) (S := S) (S1 := S1) (a := L) (xs := txs φ n.wks)
    (fun i env S' => (∃ z, env = [some (.ref A.h), x, some (n.va φ), z]) ∧ HRep φ T off A W np (nr + i) ((n.wks.reverse.take i).foldl stopW m) S' ∧ Fr A.muts S1 S') (fun _ _ => False)
    (rev_R ec e2) ⟨⟨_, rfl⟩, r1, Fr.refl _ _⟩ (fun i env S' h => h.2.2.at e2 hLA) (fun i v env S' hv ⟨⟨z, he⟩, h2, h3⟩ => by
      subst he
      rw [← List.map_reverse, List.getElem?_map] at hv
      cases q : n.wks.reverse[i]? with
      | none => rw [q] at hv; cases hv
      | some w =>
        rw [q] at hv
        cases hv
        have hil : i < n.wks.length := by
          have := (List.getElem?_eq_some_iff.mp q).1
          rw [List.length_reverse] at this
          exact this
        have hwm : w ∈ T.wks := hw w (List.mem_reverse.mp (List.mem_of_getElem? q))
        obtain ⟨S2, g1, g2, g3⟩ := stopW_ok (x := x) (y := some (n.va φ)) inj hT h2 (by omega) hwm
        refine ⟨[some (.ref A.h), x, some (n.va φ), some (.str (φ w))], rfl, ?_⟩
        rw [g1]
        exact ⟨⟨_, rfl⟩, by rw [fold_take _ _ q]; exact g2, h3.trans g3⟩)
  obtain ⟨e6, S6, q6, ⟨z, rfl⟩, j1, j2⟩ := loop_nx lp
  rw [List.length_map] at j1
  rw [List.take_of_length_le (by rw [List.length_reverse]; exact Nat.le_refl _)] at j1
  exact ⟨z, S6, q6, j1, (e5.mono (fun _ z => nomatch z)).trans j2⟩
/-- stop_all -/
theorem stop14 (inj : ∀ i j, φ i = φ j → i = j) (hT : Tree φ T) (hW : ∀ x ∈ W, x < S.n) (r : HRep φ T off A W np nr m S) {l : List Nd} {Ls : Nat} (hL : S.get Ls = some (.lst (l.map (Nd.va φ)))) (hLW : Ls ∉ W) (hr : nr + 30 * l.length ≤ 900000) (hl : ∀ n ∈ l, n.dep ≤ d ∧ n.nms.length ≤ 30 ∧ ∀ w ∈ n.wks, w ∈ T.wks) :
    ∃ S', callF prog (d + 2) 14 [.ref A.h, .ref Ls] S = .ok .non S' ∧ HRep φ T off A W np (nr + 30 * l.length) (stopAll m l) S' ∧ Fr A.muts S S' := by
  rw [callF_succ (df := ⟨2, 4, f14⟩) rfl rfl]
  show ∃ S', runB (f14 (callF prog (d + 1)) [some (.ref A.h), some (.ref Ls), none, none] S) = _ ∧ _
  have hLA : Ls ∉ A.muts := fun z => hLW (r.sub _ z)
  have lp := for_rev (fi := iRevL (mVar 1)) (t := tNm 2) (body := mFor (iRevL (mCall (callF prog (d + 1)) 9 (mCons (mVar 2) mNil) [])) (tNm 3) (mIfS (mTru (mIx (mFld 5 (mVar 0)) (mVar 3))) (mSeq (mSetIx (mFld 5 (mVar 0)) (mVar 3) (mC (.bl false))) (mExpr (mBm .list gAppend (mFld 7 (mVar 0)) (mCons (mTup (mCons (mFld 4 (mVar 0)) (mCons (mC (.str s10)) (mCons (mVar 3) mNil)))) mNil)))) mEnd)) (env := [some (.ref A.h), some (.ref Ls), none, none]) (S := S) (S1 := S) (a := Ls) (xs := l.map (Nd.va φ))
    (fun i env S' => (∃ y z, env = [some (.ref A.h), some (.ref Ls), y, z]) ∧ HRep φ T off A W np (nr + 30 * i) ((l.reverse.take i).foldl stopN m) S' ∧ Fr A.muts S S') (fun _ _ => False)
    (rev_R rfl hL) ⟨⟨_, _, rfl⟩, r, Fr.refl _ _⟩ (fun i env S' h => h.2.2.at hL hLA) (fun i v env S' hv ⟨⟨y, z, he⟩, h2, h3⟩ => by
      subst he
      rw [← List.map_reverse, List.getElem?_map] at hv
      cases q : l.reverse[i]? with
      | none => rw [q] at hv; cases hv
      | some n =>
        rw [q] at hv
        cases hv
        have hil : i < l.length := by
          have := (List.getElem?_eq_some_iff.mp q).1
          rw [List.length_reverse] at this
          exact this
        obtain ⟨k1, k2, k3⟩ := hl n (List.mem_reverse.mp (List.mem_of_getElem? q))
        have k4 := Nd.wks_le n
        obtain ⟨z2, S2, g1, g2, g3⟩ := stopN_ok (x := some (.ref Ls)) (y := z) inj hT (fun x hx => Nat.lt_of_lt_of_le (hW x hx) h3.le) h2 (by omega) k1 (by omega) k3
        refine ⟨[some (.ref A.h), some (.ref Ls), some (n.va φ), z], rfl, ?_⟩
        rw [g1]
        exact ⟨⟨_, _, rfl⟩, by rw [fold_take _ _ q]; exact g2.more (by omega), h3.trans g3⟩)
  obtain ⟨e6, S6, q6, ⟨y, z, rfl⟩, j1, j2⟩ := loop_nx lp
  rw [List.length_map] at j1
  rw [List.take_of_length_le (by rw [List.length_reverse]; exact Nat.le_refl _)] at j1
  refine ⟨S6, ?_, j1, j2⟩
  unfold f14
  rw [q6]
  rfl
end
end Mi
namespace Mi
open PySem PySem.Spec PyProof.Rows L2 Pg
def putM (k : Str) (v : Va) (kv : Key × Va) : Key × Va := match decide (kv.1 = .inr k) with
  | true => (kv.1, v)
  | false => kv
theorem put_none {k : Str} {v : Va} : ∀ {ks : List Str} {us : List Va}, k ∉ ks → (kvOf ks us).map (putM k v) = kvOf ks us
  | [], _, _ => rfl
  | _ :: _, [], _ => rfl
  | x :: r, y :: t, h => by
    have ne : ¬ ((Sum.inr x : Key) = .inr k) := fun e => h (by rw [Sum.inr.inj e]; exact List.mem_cons_self)
    show putM k v (.inr x, y) :: (kvOf r t).map (putM k v) = (.inr x, y) :: kvOf r t
    rw [put_none fun z => h (List.mem_cons_of_mem _ z)]
    unfold putM
    rw [decide_eq_false ne]
theorem put_at {k : Str} {v : Va} : ∀ {ks : List Str} {us : List Va} {j : Nat}, ks.Nodup → ks[j]? = some k → us.length = ks.length → (kvOf ks us).map (putM k v) = kvOf ks (us.set j v)
  | [], _, _, _, h, _ => by simp at h
  | _ :: _, [], _, _, _, h => by simp at h
  | x :: r, y :: t, 0, hn, h, hl => by
    have e : x = k := by simpa using h
    subst e
    show putM x v (.inr x, y) :: (kvOf r t).map (putM x v) = (.inr x, v) :: kvOf r t
    rw [put_none (List.nodup_cons.mp hn).1]
    unfold putM
    rw [decide_eq_true rfl]
  | x :: r, y :: t, j + 1, hn, h, hl => by
    have hk : r[j]? = some k := by simpa using h
    have ne : ¬ ((Sum.inr x : Key) = .inr k) := fun e => (List.nodup_cons.mp hn).1 (by rw [Sum.inr.inj e]; exact List.mem_of_getElem? hk)
    show putM k v (.inr x, y) :: (kvOf r t).map (putM k v) = (.inr x, y) :: kvOf r (t.set j v)
    rw [put_at (List.nodup_cons.mp hn).2 hk (by simpa using hl)]
    unfold putM
    rw [decide_eq_false ne]
theorem any_at {k : Str} : ∀ {ks : List Str} {us : List Va} {j : Nat}, ks[j]? = some k → us.length = ks.length → ((kvOf ks us).any fun kv => decide (kv.1 = .inr k)) = true
  | [], _, _, h, _ => by simp at h
  | _ :: _, [], _, _, h => by simp at h
  | x :: r, y :: t, 0, h, hl => by
    have e : x = k := by simpa using h
    subst e
    show (decide ((Sum.inr x : Key) = .inr x) || _) = true
    rw [decide_eq_true rfl] <;> rfl
  | x :: r, y :: t, j + 1, h, hl => by
    show (decide ((Sum.inr x : Key) = .inr k) || (kvOf r t).any fun kv => decide (kv.1 = .inr k)) = true
    rw [any_at (ks := r) (us := t) (j := j) (by simpa using h) (by simpa using hl), Bool.or_true]
theorem dPut_at {k : Str} {v : Va} {ks : List Str} {us : List Va} {j : Nat} (hn : ks.Nodup) (h : ks[j]? = some k) (hl : us.length = ks.length) : dPut (kvOf ks us) (.inr k) v = kvOf ks (us.set j v) := by
  unfold dPut
  rw [any_at h hl]
  exact put_at hn h hl
section
variable {φ : Nat → Str} {T : Nd} {off : Int} {A : Ad} {W : List Nat} {np nr d : Nat} {m : M} {S : Sto}
/-- what a node counts is told anew -/
theorem HRep.setFal (inj : ∀ i j, φ i = φ j → i = j) (hT : Tree φ T) (r : HRep φ T off A W np nr m S) {i : Nat} (hi : i ∈ T.nms) {a : Nat} {ts : List Int} (ha : S.get a = some (.lst (ts.map fun t => .int (t + off)))) (haW : a ∉ W) :
    ∃ S', gSetIx (.ref A.Af) (.str (φ i)) (.ref a) S = some S' ∧ HRep φ T off A W np nr { m with fallen := fun j => if j = i then ts else m.fallen j } S' ∧ Fr [A.Af] S S' := by
  obtain ⟨n1, n2, n3, n4, n5, n6, n7, n8, n9, n10⟩ := r.ne
  have hh : A.Af ∈ W := r.sub _ (by simp [Ad.muts])
  obtain ⟨us, u1, u2, u3⟩ := r.fal
  obtain ⟨l, p1, p2⟩ := r.past
  obtain ⟨j, hj, ej⟩ := List.mem_iff_getElem.mp hi
  have q : T.nms[j]? = some i := by rw [List.getElem?_eq_getElem hj, ej]
  have hks : (T.nms.map φ)[j]? = some (φ i) := by rw [List.getElem?_map, q] <;> rfl
  have hlen : (kvOf (T.nms.map φ) us).length < 1000000 := by
    have := hT.len
    unfold kvOf
    rw [List.length_map, List.length_zip, List.length_map]
    omega
  obtain ⟨S', eS⟩ : ∃ S', S.set A.Af (.dic (kvOf (T.nms.map φ) (us.set j (.ref a)))) = S' := ⟨_, rfl⟩
  have f : Fr [A.Af] S S' := eS ▸ Fr.set _ _
  refine ⟨S', ?_, ⟨f.at r.obj (by simpa using n2), f.at r.up (by simpa using n5), ⟨us.set j (.ref a), by rw [List.length_set]; exact u1, by rw [← eS]; exact Sto.get_set (Sto.lt u2), fun j2 i2 v hj2 hv => ?_⟩, f.at r.row (by simpa using Ne.symm n8), f.at r.nodes (by simp; exact fun z => r.nw.1 (z ▸ hh)), f.at r.ups (by simp; exact fun z => r.nw.2 (z ▸ hh)), ⟨l, f.at p1 (by simpa using Ne.symm n9), p2⟩, r.nrow, r.nd, r.sub, r.nw⟩, f⟩
  · unfold gSetIx
    try dsimp only
    rw [u2]
    try dsimp only
    unfold keyOf
    try dsimp only
    rw [bltT hlen]
    try dsimp only
    rw [dPut_at (nodup_map inj hT.nd) hks (by rw [List.length_map]; exact u1), eS]
  · by_cases e : j2 = j
    · subst e
      rw [q] at hj2
      cases hj2
      rw [List.getElem?_set_self (by rw [u1]; exact hj)] at hv
      cases hv
      refine ⟨a, rfl, ?_, haW⟩
      show S'.get a = some (.lst ((if i = i then ts else m.fallen i).map fun t => .int (t + off)))
      rw [if_pos rfl]
      exact f.at ha (by simp; exact fun z => haW (z ▸ hh))
    · rw [List.getElem?_set_ne (Ne.symm e)] at hv
      obtain ⟨b, e1, e2, e3⟩ := u3 j2 i2 v hj2 hv
      have ne : i2 ≠ i := fun z => by
        subst z
        obtain ⟨h5, e5⟩ := List.getElem?_eq_some_iff.mp hj2
        exact e ((List.getElem_inj hT.nd).mp (e5.trans ej.symm))
      refine ⟨b, e1, ?_, e3⟩
      show S'.get b = some (.lst ((if i2 = i then ts else m.fallen i2).map fun t => .int (t + off)))
      rw [if_neg ne]
      exact f.at e2 (by simp; exact fun z => e3 (z ▸ hh))
/-- what a node counts -/
theorem HRep.getFal (inj : ∀ i j, φ i = φ j → i = j) (hT : Tree φ T) (r : HRep φ T off A W np nr m S) {i : Nat} (hi : i ∈ T.nms) : ∃ a, gIx (.ref A.Af) (.str (φ i)) S = some (.ref a) ∧ S.get a = some (.lst ((m.fallen i).map fun t => .int (t + off))) ∧ a ∉ W := by
  obtain ⟨us, u1, u2, u3⟩ := r.fal
  obtain ⟨j, hj, ej⟩ := List.mem_iff_getElem.mp hi
  have q : T.nms[j]? = some i := by rw [List.getElem?_eq_getElem hj, ej]
  have hju : us[j]? = some (us[j]'(by rw [u1]; exact hj)) := List.getElem?_eq_getElem (by rw [u1]; exact hj)
  obtain ⟨a, e1, e2, e3⟩ := u3 j i _ q hju
  refine ⟨a, ?_, e2, e3⟩
  show gIxO (S.get A.Af) (.str (φ i)) = _
  rw [u2, ← e1]
  exact dGet_kv (nodup_map inj hT.nd) (by rw [List.getElem?_map, q] <;> rfl) hju
def startW (m : M) (w : Nat) : M := { m with up := fun i => if i = w then true else m.up i, rows := m.rows ++ [(m.clock, s2, w)] }
def clr (m : M) (i : Nat) : M := { m with fallen := fun j => if j = i then [] else m.fallen j }
def startN (m : M) (n : Nd) : M := n.wks.foldl startW (n.nms.foldl clr m)
def startAll (m : M) (l : List Nd) : M := l.foldl startN m
theorem startW_ok (inj : ∀ i j, φ i = φ j → i = j) (hT : Tree φ T) (r : HRep φ T off A W np nr m S) (hr : nr ≤ 900000) {w : Nat} (hw : w ∈ T.wks) {x y : Option Va} :
    ∃ S', mSeq (mSetIx (mFld 5 (mVar 0)) (mVar 3) (mC (.bl true))) (mExpr (mBm .list gAppend (mFld 7 (mVar 0)) (mCons (mTup (mCons (mFld 4 (mVar 0)) (mCons (mC (.str s2)) (mCons (mVar 3) mNil)))) mNil))) [some (.ref A.h), x, y, some (.str (φ w))] S = .ok (.nx [some (.ref A.h), x, y, some (.str (φ w))]) S' ∧
      HRep φ T off A W np (nr + 1) (startW m w) S' ∧ Fr A.muts S S' := by
  obtain ⟨S1, g1, r1, F1⟩ := r.setUp inj hT hw true
  obtain ⟨S2, g2, r2, F2⟩ := r1.addRow hT hr s2 w
  refine ⟨S2, ?_, r2, (F1.mono (by simp [Ad.muts])).trans (F2.mono (by simp [Ad.muts]))⟩
  rw [seq_nx (setIx_ok rfl (fld_ok rfl r.obj rfl) rfl g1)]
  refine exp_ok (v := .non) ?_
  have tp : mTup (mCons (mFld 4 (mVar 0)) (mCons (mC (.str s2)) (mCons (mVar 3) mNil))) [some (.ref A.h), x, y, some (.str (φ w))] S1 = .ok (.tup [.int (m.clock + off), .str s2, .str (φ w)]) S1 := by
    unfold mTup
    rw [cons_ok (fld_ok rfl r1.obj rfl) rfl, bind_ok] <;> rfl
  rw [bm_ok (fld_ok rfl r1.obj rfl) (kn_L r1.row) (cons_ok tp rfl)]
  exact g2
theorem clr_ok (inj : ∀ i j, φ i = φ j → i = j) (hT : Tree φ T) (hW : ∀ x ∈ W, x < S.n) (r : HRep φ T off A W np nr m S) {i : Nat} (hi : i ∈ T.nms) {x y : Option Va} :
    ∃ S', mSetIx (mFld 6 (mVar 0)) (mVar 3) (mLst mNil) [some (.ref A.h), x, y, some (.str (φ i))] S = .ok (.nx [some (.ref A.h), x, y, some (.str (φ i))]) S' ∧ HRep φ T off A W np nr (clr m i) S' ∧ Fr A.muts S S' := by
  have r1 := r.fr (Fr.new [] S (.lst [])) (fun _ z => nomatch z) (fun _ _ z => nomatch z)
  obtain ⟨S2, g2, r2, F2⟩ := r1.setFal inj hT hi (a := S.n) (ts := []) Sto.get_new (fun z => by have := hW _ z; omega)
  refine ⟨S2, ?_, r2, ((Fr.new [] S _).mono (fun _ z => nomatch z)).trans (F2.mono (by simp [Ad.muts]))⟩
  exact setIx_ok (S1 := S.new (.lst [])) (v := .ref S.n) rfl (fld_ok rfl r1.obj rfl) rfl g2
end
end Mi
namespace Mi
open PySem PySem.Spec PyProof.Rows L2 Pg
section
variable {φ : Nat → Str} {T : Nd} {off : Int} {A : Ad} {W : List Nat} {np nr d : Nat} {m : M} {S : Sto} {n : Nd}
/-- start_all's turn for one node -/
theorem startN_ok (inj : ∀ i j, φ i = φ j → i = j) (hT : Tree φ T) (hW : ∀ x ∈ W, x < S.n) (r : HRep φ T off A W np nr m S) (hr : nr + n.wks.length ≤ 900000) (hd : n.dep ≤ d) (hl : n.nms.length ≤ 100) (hw : ∀ w ∈ n.wks, w ∈ T.wks) (hnm : ∀ w ∈ n.nms, w ∈ T.nms) {x y : Option Va} :
    ∃ z S', mSeq (mFor (iSeq (mCall (callF prog (d + 1)) 7 (mCons (mVar 2) mNil) [])) (tNm 3) (mSetIx (mFld 6 (mVar 0)) (mVar 3) (mLst mNil)))
      (mFor (iSeq (mCall (callF prog (d + 1)) 9 (mCons (mVar 2) mNil) [])) (tNm 3) (mSeq (mSetIx (mFld 5 (mVar 0)) (mVar 3) (mC (.bl true))) (mExpr (mBm .list gAppend (mFld 7 (mVar 0)) (mCons (mTup (mCons (mFld 4 (mVar 0)) (mCons (mC (.str s2)) (mCons (mVar 3) mNil)))) mNil))))) [some (.ref A.h), x, some (n.va φ), y] S = .ok (.nx [some (.ref A.h), x, some (n.va φ), z]) S' ∧
      HRep φ T off A W np (nr + n.wks.length) (startN m n) S' ∧ Fr A.muts S S' := by
  obtain ⟨L, S1, e1, e2, e3, e4, e5⟩ := names7 (φ := φ) d n S hd hl
  have ec : mCall (callF prog (d + 1)) 7 (mCons (mVar 2) mNil) [] [some (.ref A.h), x, some (n.va φ), y] S = .ok (.ref L) S1 := e1
  have r1 := r.fr e5 (fun _ z => nomatch z) (fun _ _ z => nomatch z)
  have hLA : L ∉ A.muts := fun z => by have := hW L (r.sub L z); omega
  have lp := for_list' (fi := iSeq (mCall (callF prog (d + 1)) 7 (mCons (mVar 2) mNil) [])) (t := tNm 3) (body := mSetIx (mFld 6 (mVar 0)) (mVar 3) (mLst mNil)) (env := [some (.ref A.h), x, some (n.va φ), y]) (S := S) (S1 := S1) (a := L) (xs := txs φ n.nms)
    (fun i env S' => (∃ z, env = [some (.ref A.h), x, some (n.va φ), z]) ∧ HRep φ T off A W np nr ((n.nms.take i).foldl clr m) S' ∧ Fr A.muts S1 S') (fun _ _ => False)
    (seq_R ec e2) ⟨⟨_, rfl⟩, r1, Fr.refl _ _⟩ (fun i env S' h => h.2.2.at e2 hLA) (fun i v env S' hv ⟨⟨z, he⟩, h2, h3⟩ => by
      subst he
      rw [List.getElem?_map] at hv
      cases q : n.nms[i]? with
      | none => rw [q] at hv; cases hv
      | some w =>
        rw [q] at hv
        cases hv
        obtain ⟨S2, g1, g2, g3⟩ := clr_ok (x := x) (y := some (n.va φ)) inj hT (fun x hx => Nat.lt_of_lt_of_le (hW x hx) (Nat.le_trans e5.le h3.le)) h2 (hnm w (List.mem_of_getElem? q))
        refine ⟨[some (.ref A.h), x, some (n.va φ), some (.str (φ w))], rfl, ?_⟩
        rw [g1]
        exact ⟨⟨_, rfl⟩, by rw [fold_take _ _ q]; exact g2, h3.trans g3⟩)
  obtain ⟨e6, S6, q6, ⟨z, rfl⟩, j1, j2⟩ := loop_nx lp
  rw [List.length_map, List.take_length] at j1
  obtain ⟨L2, S7, k1, k2, k3, k4, k5⟩ := workers9 (φ := φ) d n S6 hd hl
  have ek : mCall (callF prog (d + 1)) 9 (mCons (mVar 2) mNil) [] [some (.ref A.h), x, some (n.va φ), z] S6 = .ok (.ref L2) S7 := k1
  have r7 := j1.fr k5 (fun _ z => nomatch z) (fun _ _ z => nomatch z)
  have hle : S.n ≤ S6.n := Nat.le_trans e5.le j2.le
  have hLB : L2 ∉ A.muts := fun z => by have := hW L2 (r.sub L2 z); omega
  have lp2 := for_list' (fi := iSeq (mCall (callF prog (d + 1)) 9 (mCons (mVar 2) mNil) [])) (t := tNm 3) (body := mSeq (mSetIx (mFld 5 (mVar 0)) (mVar 3) (mC (.bl true))) (mExpr (mBm .list gAppend (mFld 7 (mVar 0)) (mCons (mTup (mCons (mFld 4 (mVar 0)) (mCons (mC (.str s2)) (mCons (mVar 3) mNil)))) mNil)))) (env := [some (.ref A.h), x, some (n.va φ), z]) (S := S6) (S1 := S7) (a := L2) (xs := txs φ n.wks)
    (fun i env S' => (∃ z, env = [some (.ref A.h), x, some (n.va φ), z]) ∧ HRep φ T off A W np (nr + i) ((n.wks.take i).foldl startW (n.nms.foldl clr m)) S' ∧ Fr A.muts S7 S') (fun _ _ => False)
    (seq_R ek k2) ⟨⟨_, rfl⟩, r7, Fr.refl _ _⟩ (fun i env S' h => h.2.2.at k2 hLB) (fun i v env S' hv ⟨⟨z, he⟩, h2, h3⟩ => by
      subst he
      rw [List.getElem?_map] at hv
      cases q : n.wks[i]? with
      | none => rw [q] at hv; cases hv
      | some w =>
        rw [q] at hv
        cases hv
        have hil := (List.getElem?_eq_some_iff.mp q).1
        obtain ⟨S2, g1, g2, g3⟩ := startW_ok (x := x) (y := some (n.va φ)) inj hT h2 (by omega) (hw w (List.mem_of_getElem? q))
        refine ⟨[some (.ref A.h), x, some (n.va φ), some (.str (φ w))], rfl, ?_⟩
        rw [g1]
        exact ⟨⟨_, rfl⟩, by rw [fold_take _ _ q]; exact g2, h3.trans g3⟩)
  obtain ⟨e8, S8, q8, ⟨z2, rfl⟩, l1, l2⟩ := loop_nx lp2
  rw [List.length_map, List.take_length] at l1
  exact ⟨z2, S8, by rw [seq_nx q6, q8], l1, (e5.mono (fun _ z => nomatch z)).trans (j2.trans ((k5.mono (fun _ z => nomatch z)).trans l2))⟩
/-- start_all -/
theorem start15 (inj : ∀ i j, φ i = φ j → i = j) (hT : Tree φ T) (hW : ∀ x ∈ W, x < S.n) (r : HRep φ T off A W np nr m S) {l : List Nd} {Ls : Nat} (hL : S.get Ls = some (.lst (l.map (Nd.va φ)))) (hLW : Ls ∉ W) (hr : nr + 30 * l.length ≤ 900000) (hl : ∀ n ∈ l, n.dep ≤ d ∧ n.nms.length ≤ 30 ∧ (∀ w ∈ n.wks, w ∈ T.wks) ∧ ∀ w ∈ n.nms, w ∈ T.nms) :
    ∃ S', callF prog (d + 2) 15 [.ref A.h, .ref Ls] S = .ok .non S' ∧ HRep φ T off A W np (nr + 30 * l.length) (startAll m l) S' ∧ Fr A.muts S S' := by
  rw [callF_succ (df := ⟨2, 4, f15⟩) rfl rfl]
  show ∃ S', runB (f15 (callF prog (d + 1)) [some (.ref A.h), some (.ref Ls), none, none] S) = _ ∧ _
  have hLA : Ls ∉ A.muts := fun z => hLW (r.sub _ z)
  have lp := for_list' (fi := iSeq (mVar 1)) (t := tNm 2) (body := mSeq (mFor (iSeq (mCall (callF prog (d + 1)) 7 (mCons (mVar 2) mNil) [])) (tNm 3) (mSetIx (mFld 6 (mVar 0)) (mVar 3) (mLst mNil)))
      (mFor (iSeq (mCall (callF prog (d + 1)) 9 (mCons (mVar 2) mNil) [])) (tNm 3) (mSeq (mSetIx (mFld 5 (mVar 0)) (mVar 3) (mC (.bl true))) (mExpr (mBm .list gAppend (mFld 7 (mVar 0)) (mCons (mTup (mCons (mFld 4 (mVar 0)) (mCons (mC (.str s2)) (mCons (mVar 3) mNil)))) mNil)))))) (env := [some (.ref A.h), some (.ref Ls), none, none]) (S := S) (S1 := S) (a := Ls) (xs := l.map (Nd.va φ))
    (fun i env S' => (∃ y z, env = [some (.ref A.h), some (.ref Ls), y, z]) ∧ HRep φ T off A W np (nr + 30 * i) ((l.take i).foldl startN m) S' ∧ Fr A.muts S S') (fun _ _ => False)
    (seq_R rfl hL) ⟨⟨_, _, rfl⟩, r, Fr.refl _ _⟩ (fun i env S' h => h.2.2.at hL hLA) (fun i v env S' hv ⟨⟨y, z, he⟩, h2, h3⟩ => by
      subst he
      rw [List.getElem?_map] at hv
      cases q : l[i]? with
      | none => rw [q] at hv; cases hv
      | some n =>
        rw [q] at hv
        cases hv
        have hil := (List.getElem?_eq_some_iff.mp q).1
        obtain ⟨k1, k2, k3, k5⟩ := hl n (List.mem_of_getElem? q)
        have k4 := Nd.wks_le n
        obtain ⟨z2, S2, g1, g2, g3⟩ := startN_ok (x := some (.ref Ls)) (y := z) inj hT (fun x hx => Nat.lt_of_lt_of_le (hW x hx) h3.le) h2 (by omega) k1 (by omega) k3 k5
        refine ⟨[some (.ref A.h), some (.ref Ls), some (n.va φ), z], rfl, ?_⟩
        rw [g1]
        exact ⟨⟨_, _, rfl⟩, by rw [fold_take _ _ q]; exact g2.more (by omega), h3.trans g3⟩)
  obtain ⟨e6, S6, q6, ⟨y, z, rfl⟩, j1, j2⟩ := loop_nx lp
  rw [List.length_map] at j1
  rw [List.take_length] at j1
  refine ⟨S6, ?_, j1, j2⟩
  unfold f15
  rw [q6]
  rfl
end
end Mi
namespace Mi
open PySem PySem.Spec PyProof.Rows L2 Pg
section
variable {φ : Nat → Str} {T : Nd} {off : Int} {A : Ad} {W : List Nat} {np nr d : Nat} {m : M} {S : Sto} {n : Nd}
theorem now20 (r : HRep φ T off A W np nr m S) : callF prog (d + 1) 20 [.ref A.h] S = .ok (.int (m.clock + off)) S := by
  rw [callF_succ (df := ⟨1, 1, f20⟩) rfl rfl]
  show runB (f20 (callF prog d) [some (.ref A.h)] S) = _
  unfold f20
  rw [ret_ok (fld_ok rfl r.obj rfl)]
  rfl
theorem down22 (r : HRep φ T off A W np nr m S) : callF prog (d + 1) 22 [.ref A.h] S = .ok (.bl m.down) S := by
  rw [callF_succ (df := ⟨1, 1, f22⟩) rfl rfl]
  show runB (f22 (callF prog d) [some (.ref A.h)] S) = _
  unfold f22
  rw [ret_ok (fld_ok rfl r.obj rfl)]
  rfl
theorem log24 (r : HRep φ T off A W np nr m S) : callF prog (d + 1) 24 [.ref A.h] S = .ok (.ref S.n) (S.new (.lst (T.wks.map (startV φ) ++ m.rows.map (rowV φ off)))) := by
  rw [callF_succ (df := ⟨1, 1, f24⟩) rfl rfl]
  show runB (f24 (callF prog d) [some (.ref A.h)] S) = _
  unfold f24
  rw [ret_ok (by
    rw [bi_ok (cons_ok (fld_ok rfl r.obj rfl) rfl)]
    unfold gList g1 seqOf
    try dsimp only
    rw [r.row])]
  rfl
/-- running: the workers that are up, in order -/
theorem running21 (inj : ∀ i j, φ i = φ j → i = j) (hT : Tree φ T) (r : HRep φ T off A W np nr m S) : ∃ L S', callF prog (d + 6) 21 [.ref A.h] S = .ok (.ref L) S' ∧ S'.get L = some (.lst (txs φ (T.wks.filter m.up))) ∧ S.n ≤ L ∧ Fr [] S S' := by
  obtain ⟨L0, S1, e1, e2, e3, e4, e5⟩ := workers9 (φ := φ) (d + 4) T S (by have := hT.dep; omega) (by have := hT.len; omega)
  have r1 := r.fr e5 (fun _ z => nomatch z) (fun _ _ z => nomatch z)
  have hn : T.wks.Nodup := hT.nd.sublist (Nd.wks_sub T)
  have hwl : T.wks.length ≤ 100 := by have := hT.len; have := Nd.wks_le T; omega
  have ec : mCall (callF prog (d + 5)) 9 (mCons (mFld 1 (mVar 0)) mNil) [] [some (.ref A.h), none] S = .ok (.ref L0) S1 := by
    rw [call_ok' (cons_ok (fld_ok rfl r.obj rfl) rfl)]
    exact e1
  obtain ⟨D, S', k1, k2, k3, k4, k5⟩ := lc_of (fi := iSeq (mCall (callF prog (d + 5)) 9 (mCons (mFld 1 (mVar 0)) mNil) [])) (t := tNm 1) (cond := mTru (mIx (mFld 5 (mVar 0)) (mVar 1))) (elt := mVar 1) (vs := [1]) (env := [some (.ref A.h), none]) (S := S) (S1 := S1) (m := miR L0 (txs φ T.wks).length) (xs := txs φ T.wks) (T.wks.map fun w => if m.up w then some (Va.str (φ w)) else none)
    (seq_R ec e2) (items_R e2) (by rw [List.length_map]; omega) (by rw [List.length_map, List.length_map]) (fun i x o S2 hx ho f hlt => by
      rw [List.getElem?_map] at hx ho
      cases q : T.wks[i]? with
      | none => rw [q] at hx; cases hx
      | some w =>
        rw [q] at hx ho
        cases hx
        cases ho
        have hw := List.mem_of_getElem? q
        have e : mIx (mFld 5 (mVar 0)) (mVar 1) [some (.ref A.h), some (.str (φ w))] S2 = .ok (.bl (m.up w)) S2 := by
          refine ix_ok (fld_ok rfl (f.at r1.obj (by simp)) rfl) rfl ?_
          show gIxO (S2.get A.Au) (.str (φ w)) = _
          rw [f.at r1.up (by simp)]
          exact dGet_map (f := fun i => Va.bl (m.up i)) inj hn hw
        refine ⟨[some (.ref A.h), some (.str (φ w))], rfl, ?_⟩
        cases qu : m.up w with
        | false =>
          rw [qu] at e
          exact .inl ⟨by simp [qu], S2, tru_ok e rfl, Fr.refl _ _⟩
        | true =>
          rw [qu] at e
          exact .inr ⟨S2, .str (φ w), S2, by simp [qu], tru_ok e rfl, Fr.refl _ _, rfl, Fr.refl _ _⟩)
  refine ⟨D, S', ?_, ?_, Nat.le_trans e5.le k3, e5.trans k5⟩
  · rw [callF_succ (df := ⟨1, 2, f21⟩) rfl rfl]
    show runB (f21 (callF prog (d + 5)) [some (.ref A.h), none] S) = _
    unfold f21
    rw [ret_ok k1]
    rfl
  · rw [k2]
    have : ∀ l : List Nat, (l.map fun w => if m.up w then some (Va.str (φ w)) else none).filterMap id = txs φ (l.filter m.up) := fun l => by
      induction l with
      | nil => rfl
      | cons a t ih =>
        rw [List.map_cons, List.filter_cons]
        cases m.up a
        · rw [if_neg (by simp), if_neg (by simp)]
          exact ih
        · rw [if_pos rfl, if_pos rfl, List.filterMap_cons]
          show Va.str (φ a) :: _ = Va.str (φ a) :: _
          rw [ih]
    rw [this]
end
end Mi
namespace Mi
open PySem PySem.Spec PyProof.Rows L2 Pg
def Nd.nm : Nd → Nat
  | .wk s => s
  | .kp s _ _ _ _ => s
theorem nm_ix {φ : Nat → Str} {n : Nd} {env : Ev} {S : Sto} {j : Nat} (h : env[j]? = some (some (n.va φ))) : mIx (mVar j) (mC (.int 1)) env S = .ok (.str (φ n.nm)) S := by
  obtain ⟨s, r, e1, e2⟩ := nameN (φ := φ) (n := n) (S := S) h
  cases n <;> (cases e1; exact e2)
theorem cut_one {xs : List Va} {j : Nat} (h : j < xs.length) : cutA xs (some (j : Int)) (some ((j : Int) + 1)) = [xs[j]] := by
  unfold cutA
  have e : (j : Int) + 1 = ((j + 1 : Nat) : Int) := by omega
  rw [e, HT.sIx_nat, HT.sIx_nat, Nat.min_eq_left (by omega), Nat.min_eq_left (by omega)]
  have : j + 1 - j = 1 := by omega
  rw [this, List.drop_eq_getElem_cons h, List.take_succ_cons, List.take_zero]
theorem cut_from {xs : List Va} {j : Nat} (h : j < xs.length) : cutA xs (some (j : Int)) none = xs.drop j := by
  unfold cutA
  rw [HT.sIx_nat, Nat.min_eq_left (by omega)]
  show (xs.drop j).take (xs.length - j) = _
  rw [List.take_of_length_le (by rw [List.length_drop]; exact Nat.le_refl _)]
theorem findT_at {y : Str} : ∀ {ys : List Str} {i j : Nat}, ys.Nodup → ys[j]? = some y → findT y ys i = some (i + j)
  | [], _, _, _, h => by simp at h
  | x :: r, i, 0, hn, h => by
    have e : x = y := by simpa using h
    subst e
    unfold findT
    rw [decide_eq_true rfl] <;> rfl
  | x :: r, i, j + 1, hn, h => by
    have hk : r[j]? = some y := by simpa using h
    have ne : x ≠ y := fun e => (List.nodup_cons.mp hn).1 (e ▸ List.mem_of_getElem? hk)
    unfold findT
    rw [decide_eq_false ne]
    show findT y r (i + 1) = _
    rw [findT_at (List.nodup_cons.mp hn).2 hk]
    congr 1
    omega
def touchedM (mode j : Nat) (ch : List Nd) : List Nd := match mode with
  | 0 => (ch.drop j).take 1
  | 1 => ch
  | _ => ch.drop j
theorem mode_eq0 (m : Nat) : decide (modeS m = s7) = decide (m = 0) := by
  match m with
  | 0 => decide
  | 1 => decide
  | m + 2 => show decide (s5 = s7) = _; rw [decide_eq_false (by omega : ¬ m + 2 = 0)]; decide
theorem mode_eq1 (m : Nat) : decide (modeS m = s6) = decide (m = 1) := by
  match m with
  | 0 => decide
  | 1 => decide
  | m + 2 => show decide (s5 = s6) = _; rw [decide_eq_false (by omega : ¬ m + 2 = 1)]; decide
theorem touched16 {φ : Nat → Str} (inj : ∀ i j, φ i = φ j → i = j) {d h s m j : Nat} {a b : Int} {ch : List Nd} {c : Nd} {S : Sto} (hj : ch[j]? = some c) (hn : (ch.map Nd.nm).Nodup) (hl : ch.length ≤ 6) :
    ∃ L S', callF prog (d + 1) 16 [.ref h, (Nd.kp s m a b ch).va φ, .str (φ c.nm)] S = .ok (.ref L) S' ∧ S'.get L = some (.lst ((touchedM m j ch).map (Nd.va φ))) ∧ S.n ≤ L ∧ Fr [] S S' := by
  rw [callF_succ (df := ⟨3, 6, f16⟩) rfl rfl]
  show ∃ L S', runB (f16 (callF prog d) [some (.ref h), some ((Nd.kp s m a b ch).va φ), some (.str (φ c.nm)), none, none, none] S) = _ ∧ _
  have hjl := (List.getElem?_eq_some_iff.mp hj).1
  have hva := kp_va φ s m a b ch
  rw [hva]
  obtain ⟨K, eK⟩ : ∃ K, Va.tup [.str s1, .str (φ s), .str (modeS m), .int a, .int b, .tup (ch.map (Nd.va φ))] = K := ⟨_, rfl⟩
  rw [eK]
  obtain ⟨S1, eS1⟩ : ∃ S1, S.new (.lst (ch.map (Nd.va φ))) = S1 := ⟨_, rfl⟩
  have g1 : S1.get S.n = some (.lst (ch.map (Nd.va φ))) := eS1 ▸ Sto.get_new
  have F1 : Fr [] S S1 := eS1 ▸ Fr.new [] S _
  have x1 : mBi gList (mCons (mIx (mVar 1) (mC (.int 5))) mNil) [some (.ref h), some K, some (.str (φ c.nm)), none, none, none] S = .ok (.ref S.n) S1 := by
    rw [← eK, ← eS1]
    rfl
  obtain ⟨D, S2, k1, k2, k3, k4, k5⟩ := lc_map (fi := iSeq (mVar 3)) (t := tNm 5) (elt := mIx (mVar 5) (mC (.int 1))) (vs := [5]) (env := [some (.ref h), some K, some (.str (φ c.nm)), some (.ref S.n), none, none]) (S := S1) (S1 := S1) (m := miR S.n (ch.map (Nd.va φ)).length) (xs := ch.map (Nd.va φ)) (txs φ (ch.map Nd.nm))
    (seq_R rfl g1) (items_R g1) (by rw [List.length_map]; omega) (by rw [List.length_map, List.length_map, List.length_map]) (fun i x y S2 hx hy f hlt => by
      rw [List.getElem?_map] at hx hy
      rw [List.getElem?_map] at hy
      cases q : ch[i]? with
      | none => rw [q] at hx; cases hx
      | some n =>
        rw [q] at hx hy
        cases hx
        cases hy
        exact ⟨[some (.ref h), some K, some (.str (φ c.nm)), some (.ref S.n), none, some (n.va φ)], S2, rfl, nm_ix rfl, Fr.refl _ _⟩)
  have x2 : mBm .list gIndex (mLc (iSeq (mVar 3)) (tNm 5) mYes (mIx (mVar 5) (mC (.int 1))) [5]) (mCons (mVar 2) mNil) [some (.ref h), some K, some (.str (φ c.nm)), some (.ref S.n), none, none] S1 = .ok (.int (j : Nat)) S2 := by
    rw [bm_ok k1 (kn_L k2) rfl]
    unfold gIndex gmL
    try dsimp only
    rw [k2]
    try dsimp only
    rw [strsOf_txs]
    try dsimp only
    have := findT_at (y := φ c.nm) (ys := (ch.map Nd.nm).map φ) (i := 0) (j := j) (nodup_map inj hn) (by rw [List.getElem?_map, List.getElem?_map, hj] <;> rfl)
    rw [this, Nat.zero_add]
  have g2 := k5.at g1 (by simp)
  have hxl : j < (ch.map (Nd.va φ)).length := by rw [List.length_map]; exact hjl
  have mo : ∀ (t : Str) (x y : Option Va), mBool (mBin gEq (mIx (mVar 1) (mC (.int 2))) (mC (.str t))) [some (.ref h), some K, some (.str (φ c.nm)), some (.ref S.n), some (.int (j : Nat)), y] S2 = .ok (decide (modeS m = t)) S2 := fun t x y => by
    rw [← eK]
    rfl
  unfold f16
  rw [seq_nx (e1 := [some (.ref h), some K, some (.str (φ c.nm)), some (.ref S.n), none, none]) (S1 := S1) (set_ok x1 rfl), seq_nx (e1 := [some (.ref h), some K, some (.str (φ c.nm)), some (.ref S.n), some (.int (j : Nat)), none]) (S1 := S2) (set_ok x2 rfl)]
  match m, mo with
  | 0, mo =>
    refine ⟨S2.n, S2.new (.lst ((touchedM 0 j ch).map (Nd.va φ))), ?_, Sto.get_new, Nat.le_trans F1.le k5.le, F1.trans (k5.trans (Fr.new [] S2 _))⟩
    have x3 : mSl (mVar 3) (mPart (mVar 4)) (mPart (mBin gAdd (mVar 4) (mC (.int 1)))) [some (.ref h), some K, some (.str (φ c.nm)), some (.ref S.n), some (.int (j : Nat)), none] S2 = .ok (.ref S2.n) (S2.new (.lst ((touchedM 0 j ch).map (Nd.va φ)))) := by
      show (match S2.get S.n with | some (.lst xs) => R.ok (Va.ref S2.n) (S2.new (.lst (cutA xs (some (j : Int)) (some ((j : Int) + 1))))) | _ => R.bad) = _
      rw [g2]
      dsimp only
      rw [cut_one hxl]
      show _ = R.ok (Va.ref S2.n) (S2.new (.lst (((ch.drop j).take 1).map (Nd.va φ))))
      rw [List.drop_eq_getElem_cons hjl, List.take_succ_cons, List.take_zero, List.getElem_map] <;> rfl
    rw [seq_rt (v := .ref S2.n) (S1 := S2.new (.lst ((touchedM 0 j ch).map (Nd.va φ)))) (by
      rw [ifs_t (S1 := S2) (by rw [mo s7 none none, mode_eq0] <;> rfl)]
      exact ret_ok x3)]
    rfl
  | 1, mo =>
    refine ⟨S.n, S2, ?_, g2, Nat.le_refl _, F1.trans k5⟩
    rw [seq_nx (e1 := [some (.ref h), some K, some (.str (φ c.nm)), some (.ref S.n), some (.int (j : Nat)), none]) (S1 := S2) (by rw [ifs_f (S1 := S2) (by rw [mo s7 none none, mode_eq0] <;> rfl)]; rfl)]
    rw [ret_ok (v := .ref S.n) (S1 := S2) (by
      unfold mIf
      rw [mo s6 none none, mode_eq1] <;> rfl)]
    rfl
  | m + 2, mo =>
    refine ⟨S2.n, S2.new (.lst ((ch.drop j).map (Nd.va φ))), ?_, Sto.get_new, Nat.le_trans F1.le k5.le, F1.trans (k5.trans (Fr.new [] S2 _))⟩
    have x3 : mSl (mVar 3) (mPart (mVar 4)) mNoP [some (.ref h), some K, some (.str (φ c.nm)), some (.ref S.n), some (.int (j : Nat)), none] S2 = .ok (.ref S2.n) (S2.new (.lst ((ch.drop j).map (Nd.va φ)))) := by
      show (match S2.get S.n with | some (.lst xs) => R.ok (Va.ref S2.n) (S2.new (.lst (cutA xs (some (j : Int)) none))) | _ => R.bad) = _
      rw [g2]
      dsimp only
      rw [cut_from hxl, List.map_drop]
    rw [seq_nx (e1 := [some (.ref h), some K, some (.str (φ c.nm)), some (.ref S.n), some (.int (j : Nat)), none]) (S1 := S2) (by rw [ifs_f (S1 := S2) (by rw [mo s7 none none, mode_eq0, decide_eq_false (by omega)])]; rfl)]
    rw [ret_ok (v := .ref S2.n) (S1 := S2.new (.lst ((ch.drop j).map (Nd.va φ)))) (by
      unfold mIf
      rw [mo s6 none none, mode_eq1, decide_eq_false (by omega), bind_ok]
      exact x3)]
    rfl
end Mi
namespace Mi
open PySem PySem.Spec PyProof.Rows L2 Pg
theorem dGet_ent {φ : Nat → Str} (inj : ∀ i j, φ i = φ j → i = j) {f : (Nat × Nd × Option Nat) → Va} : ∀ {l : List (Nat × Nd × Option Nat)} {e : Nat × Nd × Option Nat}, (l.map (·.1)).Nodup → e ∈ l → dGet (l.map fun (z : Nat × Nd × Option Nat) => ((.inr (φ z.1), f z) : Key × Va)) (.inr (φ e.1)) = some (f e)
  | [], _, _, h => nomatch h
  | x :: r, e, hn, h => by
    rw [List.map_cons] at hn
    show (match decide ((Sum.inr (φ x.1) : Key) = .inr (φ e.1)) with | true => some (f x) | false => dGet (r.map fun (z : Nat × Nd × Option Nat) => ((.inr (φ z.1), f z) : Key × Va)) (.inr (φ e.1))) = _
    rcases List.mem_cons.mp h with he | he
    · subst he
      rw [decide_eq_true rfl]
    · have ne : ¬ ((Sum.inr (φ x.1) : Key) = .inr (φ e.1)) := fun z => (List.nodup_cons.mp hn).1 (by rw [inj _ _ (Sum.inr.inj z)]; exact List.mem_map.mpr ⟨e, he, rfl⟩)
      rw [decide_eq_false ne]
      exact dGet_ent inj (List.nodup_cons.mp hn).2 he
section
variable {φ : Nat → Str} {T : Nd} {off : Int} {A : Ad} {W : List Nat} {np nr d : Nat} {m : M} {S : Sto}
theorem lrn_nodup (hT : Tree φ T) : ((T.lrn none).map (·.1)).Nodup := by
  rw [Nd.lrn_ids]
  exact hT.nd
/-- the node of a name, the name above -/
theorem HRep.node (inj : ∀ i j, φ i = φ j → i = j) (hT : Tree φ T) (r : HRep φ T off A W np nr m S) {e : Nat × Nd × Option Nat} (he : e ∈ T.lrn none) : gIx (.ref A.Nn) (.str (φ e.1)) S = some (e.2.1.va φ) ∧ gIx (.ref A.Nu) (.str (φ e.1)) S = some (upV φ e.2.2) := by
  refine ⟨?_, ?_⟩
  · show gIxO (S.get A.Nn) (.str (φ e.1)) = _
    rw [r.nodes]
    exact dGet_ent (f := fun e => e.2.1.va φ) inj (lrn_nodup hT) he
  · show gIxO (S.get A.Nu) (.str (φ e.1)) = _
    rw [r.ups]
    exact dGet_ent (f := fun e => upV φ e.2.2) inj (lrn_nodup hT) he
end
/-- what a fall comes to, told to the keepers above: of each the place of what fell, its name, mode, most, span, children -/
def toldM : List (Nat × Nat × Nat × Int × Int × List Nd) → M → M
  | [], m => { m with down := true }
  | (j, s, mode, most, span, ch) :: rest, m =>
    let times := (m.fallen s).filter (fun t => decide (m.clock - span < t)) ++ [m.clock]
    let m1 : M := { m with fallen := fun i => if i = s then times else m.fallen i }
    if most < times.length then
      let m2 := stopAll m1 ch
      toldM rest { m2 with rows := m2.rows ++ [(m2.clock, s9, s)] }
    else startAll (stopAll m1 (touchedM mode j ch)) (touchedM mode j ch)
/-- the keepers above a name -/
inductive Above (l : List (Nat × Nd × Option Nat)) : Nat → List (Nat × Nat × Nat × Int × Int × List Nd) → Prop where
  | top {n : Nat} {x : Nd} : (n, x, none) ∈ l → Above l n []
  | up {n s mode j : Nat} {x c : Nd} {most span : Int} {ch : List Nd} {up : Option Nat} {rest : List (Nat × Nat × Nat × Int × Int × List Nd)} : (n, x, some s) ∈ l → (s, .kp s mode most span ch, up) ∈ l → ch[j]? = some c → c.nm = n → Above l s rest → Above l n ((j, s, mode, most, span, ch) :: rest)
end Mi
namespace Mi
open PySem PySem.Spec PyProof.Rows L2 Pg
section
variable {φ : Nat → Str} {T : Nd} {off : Int} {A : Ad} {W : List Nat} {np nr d : Nat} {m : M} {S : Sto}
/-- told, at the top: all is down -/
theorem told_top (inj : ∀ i j, φ i = φ j → i = j) (hT : Tree φ T) (r : HRep φ T off A W np nr m S) {n : Nat} {x : Nd} (hn : (n, x, none) ∈ T.lrn none) :
    ∃ S', callF prog (d + 1) 17 [.ref A.h, .str (φ n)] S = .ok .non S' ∧ HRep φ T off A W np nr (toldM [] m) S' ∧ Fr A.muts S S' := by
  rw [callF_succ (df := ⟨2, 7, f17⟩) rfl rfl]
  show ∃ S', runB (f17 (callF prog d) [some (.ref A.h), some (.str (φ n)), none, none, none, none, none] S) = _ ∧ _
  unfold f17
  have e1 : mIx (mFld 3 (mVar 0)) (mVar 1) [some (.ref A.h), some (.str (φ n)), none, none, none, none, none] S = .ok .non S := ix_ok (fld_ok rfl r.obj rfl) rfl (r.node inj hT hn).2
  refine ⟨_, ?_, r.setObj m.clock true, (Fr.set _ _).mono (by simp [Ad.muts])⟩
  rw [seq_nx (e1 := [some (.ref A.h), some (.str (φ n)), some .non, none, none, none, none]) (S1 := S) (set_ok e1 rfl)]
  rw [seq_rt (v := .non) (S1 := S.set A.h (houseO φ T A (m.clock + off) true)) (by
    rw [ifs_t (S1 := S) rfl, seq_nx (e1 := [some (.ref A.h), some (.str (φ n)), some .non, none, none, none, none]) (setFld_ok (v := .bl true) rfl rfl r.obj rfl rfl)]
    rfl)]
  rfl
/-- what is counted, with those gone by left out, and one more -/
theorem times_ok (inj : ∀ i j, φ i = φ j → i = j) (hT : Tree φ T) (hW : ∀ x ∈ W, x < S.n) (r : HRep φ T off A W np nr m S) {s mode : Nat} {most span : Int} {ch : List Nd} (hs : s ∈ T.nms) (hf : (m.fallen s).length ≤ 1000) {x : Va} {y z w : Option Va} :
    ∃ L S', mBin gAdd (mLc (iSeq (mIx (mFld 6 (mVar 0)) (mVar 2))) (tNm 5) (mBool (mBin gGt (mVar 5) (mBin gSub (mFld 4 (mVar 0)) (mIx (mVar 3) (mC (.int 4)))))) (mVar 5) [5]) (mLst (mCons (mFld 4 (mVar 0)) mNil)) [some (.ref A.h), some x, some (.str (φ s)), some ((Nd.kp s mode most span ch).va φ), y, z, w] S = .ok (.ref L) S' ∧
      S'.get L = some (.lst (((m.fallen s).filter (fun t => decide (m.clock - span < t)) ++ [m.clock]).map fun t => .int (t + off))) ∧ S.n ≤ L ∧ Fr [] S S' := by
  obtain ⟨a, g1, g2, g3⟩ := r.getFal inj hT hs
  have e1 : mIx (mFld 6 (mVar 0)) (mVar 2) [some (.ref A.h), some x, some (.str (φ s)), some ((Nd.kp s mode most span ch).va φ), y, z, w] S = .ok (.ref a) S := ix_ok (fld_ok rfl r.obj rfl) rfl g1
  obtain ⟨D, S1, k1, k2, k3, k4, k5⟩ := lc_of (fi := iSeq (mIx (mFld 6 (mVar 0)) (mVar 2))) (t := tNm 5) (cond := mBool (mBin gGt (mVar 5) (mBin gSub (mFld 4 (mVar 0)) (mIx (mVar 3) (mC (.int 4)))))) (elt := mVar 5) (vs := [5]) (env := [some (.ref A.h), some x, some (.str (φ s)), some ((Nd.kp s mode most span ch).va φ), y, z, w]) (S := S) (S1 := S) (xs := (m.fallen s).map fun t => Va.int (t + off)) ((m.fallen s).map fun t => if decide (m.clock - span < t) then some (Va.int (t + off)) else none)
    (seq_R e1 g2) (items_R g2) (by rw [List.length_map]; omega) (by rw [List.length_map, List.length_map]) (fun i v o S2 hx ho f hlt => by
      rw [List.getElem?_map] at hx ho
      cases q : (m.fallen s)[i]? with
      | none => rw [q] at hx; cases hx
      | some t =>
        rw [q] at hx ho
        cases hx
        cases ho
        refine ⟨[some (.ref A.h), some x, some (.str (φ s)), some ((Nd.kp s mode most span ch).va φ), y, some (.int (t + off)), w], rfl, ?_⟩
        have c1 : mBool (mBin gGt (mVar 5) (mBin gSub (mFld 4 (mVar 0)) (mIx (mVar 3) (mC (.int 4))))) [some (.ref A.h), some x, some (.str (φ s)), some ((Nd.kp s mode most span ch).va φ), y, some (.int (t + off)), w] S2 = .ok (decide (m.clock - span < t)) S2 := by
          have i4 : mIx (mVar 3) (mC (.int 4)) [some (.ref A.h), some x, some (.str (φ s)), some ((Nd.kp s mode most span ch).va φ), y, some (.int (t + off)), w] S2 = .ok (.int span) S2 := by rw [kp_va]; rfl
          have sb : mBin gSub (mFld 4 (mVar 0)) (mIx (mVar 3) (mC (.int 4))) [some (.ref A.h), some x, some (.str (φ s)), some ((Nd.kp s mode most span ch).va φ), y, some (.int (t + off)), w] S2 = .ok (.int (m.clock + off - span)) S2 := by
            rw [bin_ok (fld_ok rfl (f.at r.obj (by simp)) rfl) i4] <;> rfl
          refine bool_ok ?_
          rw [bin_ok rfl sb]
          show R.ok (Va.bl (decide (m.clock + off - span < t + off))) S2 = _
          rw [decide_eq_decide.mpr (show (m.clock + off - span < t + off) ↔ (m.clock - span < t) by omega)]
        cases qd : decide (m.clock - span < t) with
        | false =>
          rw [qd] at c1
          exact .inl ⟨by dsimp only; rw [qd] <;> rfl, S2, c1, Fr.refl _ _⟩
        | true =>
          rw [qd] at c1
          exact .inr ⟨S2, .int (t + off), S2, by dsimp only; rw [qd] <;> rfl, c1, Fr.refl _ _, rfl, Fr.refl _ _⟩)
  have hfm : ∀ l : List Int, (l.map fun t => if decide (m.clock - span < t) then some (Va.int (t + off)) else none).filterMap id = (l.filter (fun t => decide (m.clock - span < t))).map fun t => Va.int (t + off) := fun l => by
    induction l with
    | nil => rfl
    | cons t l ih =>
      rw [List.map_cons, List.filter_cons]
      cases decide (m.clock - span < t)
      · rw [if_neg (by decide), if_neg (by decide)]
        exact ih
      · rw [if_pos rfl, if_pos rfl, List.filterMap_cons]
        show Va.int (t + off) :: _ = Va.int (t + off) :: _
        rw [ih]
  rw [hfm] at k2
  have eb : mLst (mCons (mFld 4 (mVar 0)) mNil) [some (.ref A.h), some x, some (.str (φ s)), some ((Nd.kp s mode most span ch).va φ), y, z, w] S1 = .ok (.ref S1.n) (S1.new (.lst [.int (m.clock + off)])) := by
    unfold mLst
    rw [cons_ok (fld_ok rfl (k5.at r.obj (by simp)) rfl) rfl, bind_ok] <;> rfl
  have hlen : ((m.fallen s).filter (fun t => decide (m.clock - span < t))).length ≤ 1000 := Nat.le_trans (List.length_filter_le _ _) hf
  refine ⟨(S1.new (.lst [.int (m.clock + off)])).n, (S1.new (.lst [.int (m.clock + off)])).new (.lst (((m.fallen s).filter (fun t => decide (m.clock - span < t))).map (fun t => Va.int (t + off)) ++ [.int (m.clock + off)])), ?_, ?_, Nat.le_trans k5.le (Nat.le_succ _), k5.trans ((Fr.new [] S1 _).trans (Fr.new [] _ _))⟩
  · rw [bin_ok k1 eb]
    exact add_L (Sto.get_new_of k2) Sto.get_new (by rw [List.length_map, List.length_singleton]; omega)
  · rw [Sto.get_new, List.map_append] <;> rfl
end
end Mi
namespace Mi
open PySem PySem.Spec PyProof.Rows L2 Pg
section
variable {φ : Nat → Str} {T : Nd} {off : Int} {A : Ad} {W : List Nat} {np nr d : Nat} {m : M} {S : Sto}
/-- told: up to the keeper in hand, its times noted -/
theorem told_head (inj : ∀ i j, φ i = φ j → i = j) (hT : Tree φ T) (hW : ∀ x ∈ W, x < S.n) (r : HRep φ T off A W np nr m S) {n s mode : Nat} {x : Nd} {most span : Int} {ch : List Nd} {up : Option Nat} (hn : (n, x, some s) ∈ T.lrn none) (hs : (s, .kp s mode most span ch, up) ∈ T.lrn none) (hf : (m.fallen s).length ≤ 1000) {rest : SF} :
    ∃ L S', mSeq (mSet (tNm 2) (mIx (mFld 3 (mVar 0)) (mVar 1))) (mSeq (mIfS (mBool (mBin gIsN (mVar 2) (mC .non))) (mSeq (mSetFld na 8 (mVar 0) (mC (.bl true))) mRetN) mEnd)
      (mSeq (mSet (tNm 3) (mIx (mFld 2 (mVar 0)) (mVar 2)))
      (mSeq (mSet (tNm 4) (mBin gAdd (mLc (iSeq (mIx (mFld 6 (mVar 0)) (mVar 2))) (tNm 5) (mBool (mBin gGt (mVar 5) (mBin gSub (mFld 4 (mVar 0)) (mIx (mVar 3) (mC (.int 4)))))) (mVar 5) [5]) (mLst (mCons (mFld 4 (mVar 0)) mNil))))
      (mSeq (mSetIx (mFld 6 (mVar 0)) (mVar 2) (mVar 4)) rest)))) [some (.ref A.h), some (.str (φ n)), none, none, none, none, none] S =
        rest [some (.ref A.h), some (.str (φ n)), some (.str (φ s)), some ((Nd.kp s mode most span ch).va φ), some (.ref L), none, none] S' ∧
      S'.get L = some (.lst (((m.fallen s).filter (fun t => decide (m.clock - span < t)) ++ [m.clock]).map fun t => .int (t + off))) ∧ L ∉ W ∧
      HRep φ T off A W np nr { m with fallen := fun i => if i = s then (m.fallen s).filter (fun t => decide (m.clock - span < t)) ++ [m.clock] else m.fallen i } S' ∧ Fr A.muts S S' := by
  have hsT : s ∈ T.nms := by
    rw [← Nd.lrn_ids none T]
    exact List.mem_map.mpr ⟨_, hs, rfl⟩
  obtain ⟨L, S1, t1, t2, t3, t4⟩ := times_ok (x := .str (φ n)) (y := none) (z := none) (w := none) (mode := mode) (most := most) (span := span) (ch := ch) inj hT hW r hsT hf
  have hLW : L ∉ W := fun z => by have := hW _ z; omega
  have r1 := r.fr t4 (fun _ z => nomatch z) (fun _ _ z => nomatch z)
  obtain ⟨S2, g2, r2, F2⟩ := r1.setFal inj hT hsT t2 hLW
  have hfA : A.Af ∈ W := r.sub _ (by simp [Ad.muts])
  refine ⟨L, S2, ?_, F2.at t2 (by simp; exact fun z => hLW (z ▸ hfA)), hLW, r2, (t4.mono (fun _ z => nomatch z)).trans (F2.mono (by simp [Ad.muts]))⟩
  have e1 : mIx (mFld 3 (mVar 0)) (mVar 1) [some (.ref A.h), some (.str (φ n)), none, none, none, none, none] S = .ok (.str (φ s)) S := ix_ok (fld_ok rfl r.obj rfl) rfl (r.node inj hT hn).2
  have e2 : mIx (mFld 2 (mVar 0)) (mVar 2) [some (.ref A.h), some (.str (φ n)), some (.str (φ s)), none, none, none, none] S = .ok ((Nd.kp s mode most span ch).va φ) S := ix_ok (fld_ok rfl r.obj rfl) rfl (r.node inj hT hs).1
  rw [seq_nx (e1 := [some (.ref A.h), some (.str (φ n)), some (.str (φ s)), none, none, none, none]) (S1 := S) (set_ok e1 rfl),
    seq_nx (e1 := [some (.ref A.h), some (.str (φ n)), some (.str (φ s)), none, none, none, none]) (S1 := S) (by rw [ifs_f (S1 := S) rfl]; rfl),
    seq_nx (e1 := [some (.ref A.h), some (.str (φ n)), some (.str (φ s)), some ((Nd.kp s mode most span ch).va φ), none, none, none]) (S1 := S) (set_ok e2 rfl),
    seq_nx (e1 := [some (.ref A.h), some (.str (φ n)), some (.str (φ s)), some ((Nd.kp s mode most span ch).va φ), some (.ref L), none, none]) (S1 := S1) (set_ok t1 rfl),
    seq_nx (setIx_ok rfl (fld_ok rfl r1.obj rfl) rfl g2)]
end
end Mi
namespace Mi
open PySem PySem.Spec PyProof.Rows L2 Pg
/-! ### within a tree -/
theorem Nd.nm_nms (n : Nd) : ∃ r, n.nms = n.nm :: r := by
  cases n with
  | wk s => exact ⟨[], rfl⟩
  | kp s m a b ch => exact ⟨Nd.nmsL ch, rfl⟩
theorem Nd.nm_sub : ∀ ch : List Nd, List.Sublist (ch.map Nd.nm) (Nd.nmsL ch)
  | [] => List.Sublist.refl _
  | n :: r => by
    obtain ⟨q, e⟩ := n.nm_nms
    unfold Nd.nmsL
    rw [e, List.map_cons, List.cons_append]
    exact List.Sublist.cons₂ _ ((Nd.nm_sub r).trans (List.sublist_append_right _ _))
theorem Nd.lrn_head (n : Nd) (up : Option Nat) : (n.nm, n, up) ∈ n.lrn up := by
  cases n with
  | wk s => exact List.mem_cons_self
  | kp s m a b ch => exact List.mem_cons_self
mutual
theorem Nd.lrn_sub : ∀ (n : Nd) (up : Option Nat) (e : Nat × Nd × Option Nat), e ∈ n.lrn up → e.2.1.dep ≤ n.dep ∧ List.Sublist e.2.1.nms n.nms ∧ List.Sublist e.2.1.wks n.wks ∧ (∀ φ, n.ok φ → e.2.1.ok φ) ∧ e.2.1.nm = e.1
  | .wk s, up, e, h => by
    have : e = (s, .wk s, up) := by simpa [Nd.lrn] using h
    subst this
    exact ⟨Nat.le_refl _, List.Sublist.refl _, List.Sublist.refl _, fun _ h => h, rfl⟩
  | .kp s m a b ch, up, e, h => by
    rcases List.mem_cons.mp (show e ∈ (s, Nd.kp s m a b ch, up) :: Nd.lrnL (some s) ch from h) with q | q
    · subst q
      exact ⟨Nat.le_refl _, List.Sublist.refl _, List.Sublist.refl _, fun _ h => h, rfl⟩
    · obtain ⟨h1, h2, h3, h4, h5⟩ := Nd.lrnL_sub ch (some s) e q
      exact ⟨Nat.le_succ_of_le h1, List.Sublist.cons s h2, h3, fun φ hk => h4 φ hk.2.2.2.2.2.2.2, h5⟩
theorem Nd.lrnL_sub : ∀ (ch : List Nd) (up : Option Nat) (e : Nat × Nd × Option Nat), e ∈ Nd.lrnL up ch → e.2.1.dep ≤ Nd.depL ch ∧ List.Sublist e.2.1.nms (Nd.nmsL ch) ∧ List.Sublist e.2.1.wks (Nd.wksL ch) ∧ (∀ φ, Nd.okL φ ch → e.2.1.ok φ) ∧ e.2.1.nm = e.1
  | [], up, e, h => nomatch h
  | n :: r, up, e, h => by
    unfold Nd.depL Nd.nmsL Nd.wksL
    rcases List.mem_append.mp (show e ∈ n.lrn up ++ Nd.lrnL up r from h) with q | q
    · obtain ⟨h1, h2, h3, h4, h5⟩ := Nd.lrn_sub n up e q
      exact ⟨Nat.le_trans h1 (Nat.le_max_left _ _), h2.trans (List.sublist_append_left _ _), h3.trans (List.sublist_append_left _ _), fun φ hk => h4 φ hk.1, h5⟩
    · obtain ⟨h1, h2, h3, h4, h5⟩ := Nd.lrnL_sub r up e q
      exact ⟨Nat.le_trans h1 (Nat.le_max_right _ _), h2.trans (List.sublist_append_right _ _), h3.trans (List.sublist_append_right _ _), fun φ hk => h4 φ hk.2, h5⟩
end
/-- what the children of a keeper are -/
structure Kids (φ : Nat → Str) (T : Nd) (ch : List Nd) : Prop where
  len : ch.length ≤ 6
  nd : (ch.map Nd.nm).Nodup
  each : ∀ c ∈ ch, c.dep ≤ 4 ∧ c.nms.length ≤ 30 ∧ (∀ w ∈ c.wks, w ∈ T.wks) ∧ ∀ w ∈ c.nms, w ∈ T.nms
theorem Nd.nms_subL {ch : List Nd} {c : Nd} (h : c ∈ ch) : List.Sublist c.nms (Nd.nmsL ch) := by
  induction ch with
  | nil => cases h
  | cons n r ih =>
    unfold Nd.nmsL
    rcases List.mem_cons.mp h with e | h
    · subst e; exact List.sublist_append_left _ _
    · exact (ih h).trans (List.sublist_append_right _ _)
theorem Nd.wks_subL {ch : List Nd} {c : Nd} (h : c ∈ ch) : List.Sublist c.wks (Nd.wksL ch) := by
  induction ch with
  | nil => cases h
  | cons n r ih =>
    unfold Nd.wksL
    rcases List.mem_cons.mp h with e | h
    · subst e; exact List.sublist_append_left _ _
    · exact (ih h).trans (List.sublist_append_right _ _)
theorem kids_of {φ : Nat → Str} {T : Nd} (hT : Tree φ T) {s s2 mode : Nat} {most span : Int} {ch : List Nd} {up : Option Nat} (h : (s2, Nd.kp s mode most span ch, up) ∈ T.lrn none) : Kids φ T ch := by
  obtain ⟨h1, h2, h3, h4, _⟩ := Nd.lrn_sub T none _ h
  have hk := h4 φ hT.ok
  have hs : List.Sublist (Nd.nmsL ch) T.nms := (List.Sublist.cons s (List.Sublist.refl _)).trans h2
  refine ⟨hk.2.2.2.2.2.2.1, (hT.nd.sublist hs).sublist (Nd.nm_sub ch), fun c hc => ⟨?_, ?_, fun w hw => ?_, fun w hw => ?_⟩⟩
  · have a := Nd.depL_le hc
    have b : Nd.depL ch + 1 ≤ T.dep := h1
    have := hT.dep
    omega
  · exact Nat.le_trans ((Nd.nms_subL hc).trans hs).length_le hT.len
  · exact ((Nd.wks_subL hc).trans h3).subset hw
  · exact ((Nd.nms_subL hc).trans hs).subset hw
theorem touchedM_mem {mode j : Nat} {ch : List Nd} {c : Nd} (h : c ∈ touchedM mode j ch) : c ∈ ch := by
  match mode, h with
  | 0, h => exact List.drop_subset _ _ (List.take_subset _ _ h)
  | 1, h => exact h
  | m + 2, h => exact List.drop_subset _ _ h
theorem touchedM_len {mode j : Nat} {ch : List Nd} : (touchedM mode j ch).length ≤ ch.length := by
  match mode with
  | 0 => show ((ch.drop j).take 1).length ≤ _; rw [List.length_take, List.length_drop]; omega
  | 1 => exact Nat.le_refl _
  | m + 2 => show (ch.drop j).length ≤ _; rw [List.length_drop]; omega
/-- all names have keepers above -/
theorem above_all {l : List (Nat × Nd × Option Nat)} : ∀ (d : Nat) (n : Nd) (up : Option Nat) (ks : List (Nat × Nat × Nat × Int × Int × List Nd)), n.dep ≤ d → Above l n.nm ks → (∀ e ∈ n.lrn up, e ∈ l) → ∀ e ∈ n.lrn up, ∃ ks', Above l e.1 ks' ∧ ks'.length ≤ ks.length + d := by
  intro d
  induction d with
  | zero =>
    intro n up ks hd hA hl e he
    cases n with
    | kp s m a b ch => simp [Nd.dep] at hd
    | wk s =>
      have : e = (s, .wk s, up) := by simpa [Nd.lrn] using he
      subst this
      exact ⟨ks, hA, Nat.le_refl _⟩
  | succ d ih =>
    intro n up ks hd hA hl e he
    cases n with
    | wk s =>
      have : e = (s, .wk s, up) := by simpa [Nd.lrn] using he
      subst this
      exact ⟨ks, hA, Nat.le_add_right _ _⟩
    | kp s m a b ch =>
      rcases List.mem_cons.mp (show e ∈ (s, Nd.kp s m a b ch, up) :: Nd.lrnL (some s) ch from he) with q | q
      · subst q
        exact ⟨ks, hA, Nat.le_add_right _ _⟩
      · rw [Nd.lrnL_flat] at q
        obtain ⟨z, hz, hez⟩ := List.mem_flatten.mp q
        obtain ⟨c, hc, rfl⟩ := List.mem_map.mp hz
        obtain ⟨j, hj, ej⟩ := List.mem_iff_getElem.mp hc
        have hch : ∀ e ∈ c.lrn (some s), e ∈ l := fun e he' => hl e (List.mem_cons_of_mem _ (by
          rw [Nd.lrnL_flat]
          exact List.mem_flatten.mpr ⟨_, List.mem_map.mpr ⟨c, hc, rfl⟩, he'⟩))
        have hself : (s, Nd.kp s m a b ch, up) ∈ l := hl _ List.mem_cons_self
        have hA2 : Above l c.nm ((j, s, m, a, b, ch) :: ks) := Above.up (hch _ (c.lrn_head (some s))) hself (by rw [List.getElem?_eq_getElem hj, ej]) rfl hA
        obtain ⟨ks', k1, k2⟩ := ih c (some s) _ (by have := Nd.depL_le hc; have hd' : Nd.depL ch + 1 ≤ d + 1 := hd; omega) hA2 hch e hez
        exact ⟨ks', k1, by rw [List.length_cons] at k2; omega⟩
theorem above_of {φ : Nat → Str} {T : Nd} (hT : Tree φ T) {w : Nat} (hw : w ∈ T.nms) : ∃ ks, Above (T.lrn none) w ks ∧ ks.length ≤ 4 := by
  rw [← Nd.lrn_ids none T] at hw
  obtain ⟨e, he, rfl⟩ := List.mem_map.mp hw
  obtain ⟨ks, h1, h2⟩ := above_all 4 T none [] hT.dep (.top (T.lrn_head none)) (fun _ h => h) e he
  exact ⟨ks, h1, by simpa using h2⟩
/-! ### how much is counted -/
theorem stopW_fal (m : M) (w : Nat) : (stopW m w).fallen = m.fallen ∧ (stopW m w).clock = m.clock := by
  unfold stopW
  split <;> exact ⟨rfl, rfl⟩
theorem stopN_fal (m : M) (n : Nd) : (stopN m n).fallen = m.fallen ∧ (stopN m n).clock = m.clock := by
  unfold stopN
  generalize n.wks.reverse = l
  induction l generalizing m with
  | nil => exact ⟨rfl, rfl⟩
  | cons a r ih => rw [List.foldl_cons]; exact ⟨(ih _).1.trans (stopW_fal m a).1, (ih _).2.trans (stopW_fal m a).2⟩
theorem stopAll_fal (m : M) (l : List Nd) : (stopAll m l).fallen = m.fallen ∧ (stopAll m l).clock = m.clock := by
  unfold stopAll
  generalize l.reverse = l
  induction l generalizing m with
  | nil => exact ⟨rfl, rfl⟩
  | cons a r ih => rw [List.foldl_cons]; exact ⟨(ih _).1.trans (stopN_fal m a).1, (ih _).2.trans (stopN_fal m a).2⟩
theorem clr_fal (m : M) : ∀ (l : List Nat) (i : Nat), ((l.foldl clr m).fallen i).length ≤ (m.fallen i).length ∧ (l.foldl clr m).clock = m.clock := by
  intro l
  induction l generalizing m with
  | nil => exact fun i => ⟨Nat.le_refl _, rfl⟩
  | cons a r ih =>
    intro i
    rw [List.foldl_cons]
    refine ⟨Nat.le_trans (ih (clr m a) i).1 ?_, (ih (clr m a) i).2⟩
    show (if i = a then ([] : List Int) else m.fallen i).length ≤ _
    split
    · exact Nat.zero_le _
    · exact Nat.le_refl _
theorem startW_fal (m : M) : ∀ (l : List Nat), (l.foldl startW m).fallen = m.fallen ∧ (l.foldl startW m).clock = m.clock := by
  intro l
  induction l generalizing m with
  | nil => exact ⟨rfl, rfl⟩
  | cons a r ih => rw [List.foldl_cons]; exact ⟨(ih _).1, (ih _).2⟩
theorem startAll_fal (m : M) : ∀ (l : List Nd) (i : Nat), ((startAll m l).fallen i).length ≤ (m.fallen i).length ∧ (startAll m l).clock = m.clock := by
  intro l
  induction l generalizing m with
  | nil => exact fun i => ⟨Nat.le_refl _, rfl⟩
  | cons a r ih =>
    intro i
    show ((startAll (startN m a) r).fallen i).length ≤ _ ∧ _
    have e : (startN m a).fallen = (a.nms.foldl clr m).fallen := (startW_fal _ _).1
    have e2 : (startN m a).clock = (a.nms.foldl clr m).clock := (startW_fal _ _).2
    refine ⟨Nat.le_trans (ih (startN m a) i).1 (by rw [e]; exact (clr_fal m a.nms i).1), ((ih (startN m a) i).2).trans (e2.trans (clr_fal m a.nms i).2)⟩
abbrev timesM (m : M) (s : Nat) (span : Int) : List Int := (m.fallen s).filter (fun t => decide (m.clock - span < t)) ++ [m.clock]
def notedM (m : M) (s : Nat) (span : Int) : M := { m with fallen := fun i => if i = s then timesM m s span else m.fallen i }
def yieldM (m : M) (s : Nat) : M := { m with rows := m.rows ++ [(m.clock, s9, s)] }
theorem toldM_yes {j s mode : Nat} {most span : Int} {ch : List Nd} {rest : List (Nat × Nat × Nat × Int × Int × List Nd)} {m : M} (h : most < (timesM m s span).length) : toldM ((j, s, mode, most, span, ch) :: rest) m = toldM rest (yieldM (stopAll (notedM m s span) ch) s) := by
  show (if most < (timesM m s span).length then _ else _) = _
  rw [if_pos h]
  rfl
theorem toldM_no {j s mode : Nat} {most span : Int} {ch : List Nd} {rest : List (Nat × Nat × Nat × Int × Int × List Nd)} {m : M} (h : ¬ most < (timesM m s span).length) : toldM ((j, s, mode, most, span, ch) :: rest) m = startAll (stopAll (notedM m s span) (touchedM mode j ch)) (touchedM mode j ch) := by
  show (if most < (timesM m s span).length then _ else _) = _
  rw [if_neg h]
  rfl
theorem noted_len {m : M} {s : Nat} {span : Int} {k : Nat} (h : ∀ i, (m.fallen i).length ≤ k) : ∀ i, ((notedM m s span).fallen i).length ≤ k + 1 := fun i => by
  show (if i = s then timesM m s span else m.fallen i).length ≤ _
  split
  · have := List.length_filter_le (fun t => decide (m.clock - span < t)) (m.fallen s)
    have := h s
    rw [List.length_append, List.length_singleton]
    omega
  · have := h i
    omega
theorem toldM_len : ∀ (ks : List (Nat × Nat × Nat × Int × Int × List Nd)) (m : M) (k : Nat), (∀ i, (m.fallen i).length ≤ k) → (∀ i, ((toldM ks m).fallen i).length ≤ k + ks.length) ∧ (toldM ks m).clock = m.clock
  | [], m, k, h => ⟨h, rfl⟩
  | (j, s, mode, most, span, ch) :: rest, m, k, h => by
    have hn := noted_len (s := s) (span := span) h
    by_cases q : most < (timesM m s span).length
    · rw [toldM_yes q]
      have e : (yieldM (stopAll (notedM m s span) ch) s).fallen = (notedM m s span).fallen := (stopAll_fal _ _).1
      have e2 : (yieldM (stopAll (notedM m s span) ch) s).clock = m.clock := (stopAll_fal _ _).2
      obtain ⟨h1, h2⟩ := toldM_len rest (yieldM (stopAll (notedM m s span) ch) s) (k + 1) (by rw [e]; exact hn)
      exact ⟨fun i => by have := h1 i; rw [List.length_cons]; omega, h2.trans e2⟩
    · rw [toldM_no q]
      refine ⟨fun i => ?_, (startAll_fal _ _ 0).2.trans (stopAll_fal _ _).2⟩
      have h1 := (startAll_fal (stopAll (notedM m s span) (touchedM mode j ch)) (touchedM mode j ch) i).1
      rw [(stopAll_fal (notedM m s span) (touchedM mode j ch)).1] at h1
      have := hn i
      rw [List.length_cons]
      omega
section
variable {φ : Nat → Str} {T : Nd} {off : Int} {A : Ad} {W : List Nat} {np : Nat}
theorem told17 (inj : ∀ i j, φ i = φ j → i = j) (hT : Tree φ T) : ∀ (ks : List (Nat × Nat × Nat × Int × Int × List Nd)) (n d nr : Nat) (m : M) (S : Sto), Above (T.lrn none) n ks → (∀ x ∈ W, x < S.n) → HRep φ T off A W np nr m S → (∀ i, (m.fallen i).length + ks.length ≤ 1000) → nr + 400 * ks.length ≤ 900000 →
    ∃ S', callF prog (d + ks.length + 7) 17 [.ref A.h, .str (φ n)] S = .ok .non S' ∧ HRep φ T off A W np (nr + 400 * ks.length) (toldM ks m) S' ∧ Fr A.muts S S' := by
  intro ks
  induction ks with
  | nil =>
    intro n d nr m S hA hW r hf hr
    cases hA with
    | top hn => exact told_top (d := d + 6) inj hT r hn
  | cons k rest ih =>
    obtain ⟨j, s, mode, most, span, ch⟩ := k
    intro n d nr m S hA hW r hf hr
    rw [List.length_cons] at hf hr
    cases hA with
    | up hn hs hj hc hA' =>
      rename_i x c up
      have hK := kids_of hT hs
      have hlen := hK.len
      obtain ⟨L, S1, e1, gt1, hLW, r1, F1⟩ := told_head inj hT hW r hn hs (by have := hf s; omega) (rest := mIfS (mBool (mBin gGt (mBi gLen (mCons (mVar 4) mNil)) (mIx (mVar 3) (mC (.int 3))))) (mSeq (mExpr (mMeth (callF prog (d + rest.length + 7)) (Mi.M1 0 14 []) (mVar 0) (mCons (mBi gList (mCons (mIx (mVar 3) (mC (.int 5))) mNil)) mNil)))
    (mSeq (mExpr (mBm .list gAppend (mFld 7 (mVar 0)) (mCons (mTup (mCons (mFld 4 (mVar 0)) (mCons (mC (.str s9)) (mCons (mVar 2) mNil)))) mNil)))
    (mExpr (mMeth (callF prog (d + rest.length + 7)) (Mi.M1 0 17 []) (mVar 0) (mCons (mVar 2) mNil))))) (mSeq (mSet (tNm 6) (mMeth (callF prog (d + rest.length + 7)) (Mi.M1 0 16 []) (mVar 0) (mCons (mVar 3) (mCons (mVar 1) mNil))))
    (mSeq (mExpr (mMeth (callF prog (d + rest.length + 7)) (Mi.M1 0 14 []) (mVar 0) (mCons (mVar 6) mNil)))
    (mExpr (mMeth (callF prog (d + rest.length + 7)) (Mi.M1 0 15 []) (mVar 0) (mCons (mVar 6) mNil))))))
      have hW1 : ∀ x ∈ W, x < S1.n := fun x hx => Nat.lt_of_lt_of_le (hW x hx) F1.le
      have ek : mIx (mVar 3) (mC (.int 3)) [some (.ref A.h), some (.str (φ n)), some (.str (φ s)), some ((Nd.kp s mode most span ch).va φ), some (.ref L), none, none] S1 = .ok (.int most) S1 := by rw [kp_va]; rfl
      have el : mBi gLen (mCons (mVar 4) mNil) [some (.ref A.h), some (.str (φ n)), some (.str (φ s)), some ((Nd.kp s mode most span ch).va φ), some (.ref L), none, none] S1 = .ok (.int (timesM m s span).length) S1 := by
        rw [bi_ok (cons_ok rfl rfl)]
        unfold gLen g1 seqOf
        try dsimp only
        rw [gt1]
        try dsimp only
        rw [List.length_map]
      have et : mBool (mBin gGt (mBi gLen (mCons (mVar 4) mNil)) (mIx (mVar 3) (mC (.int 3)))) [some (.ref A.h), some (.str (φ n)), some (.str (φ s)), some ((Nd.kp s mode most span ch).va φ), some (.ref L), none, none] S1 = .ok (decide (most < (timesM m s span).length)) S1 := by
        refine bool_ok ?_
        rw [bin_ok el ek]
        rfl
      show ∃ S', callF prog ((d + rest.length + 7) + 1) 17 [.ref A.h, .str (φ n)] S = _ ∧ _
      rw [callF_succ (df := ⟨2, 7, f17⟩) rfl rfl]
      show ∃ S', runB (f17 (callF prog (d + rest.length + 7)) [some (.ref A.h), some (.str (φ n)), none, none, none, none, none] S) = _ ∧ _
      unfold f17
      rw [e1]
      by_cases q : most < (timesM m s span).length
      · rw [decide_eq_true q] at et
        rw [ifs_t et, toldM_yes q]
        obtain ⟨S2, eS2⟩ : ∃ S2, S1.new (.lst (ch.map (Nd.va φ))) = S2 := ⟨_, rfl⟩
        have F2 : Fr [] S1 S2 := eS2 ▸ Fr.new [] S1 _
        have g2 : S2.get S1.n = some (.lst (ch.map (Nd.va φ))) := eS2 ▸ Sto.get_new
        have r2 := r1.fr F2 (fun _ z => nomatch z) (fun _ _ z => nomatch z)
        have x1 : mBi gList (mCons (mIx (mVar 3) (mC (.int 5))) mNil) [some (.ref A.h), some (.str (φ n)), some (.str (φ s)), some ((Nd.kp s mode most span ch).va φ), some (.ref L), none, none] S1 = .ok (.ref S1.n) S2 := by
          rw [← eS2, kp_va]
          rfl
        have hW2 : ∀ x ∈ W, x < S2.n := fun x hx => Nat.lt_of_lt_of_le (hW1 x hx) F2.le
        obtain ⟨S3, y1, r3, F3⟩ := stop14 (d := d + rest.length + 5) inj hT hW2 r2 g2 (fun z => by have := hW1 _ z; omega) (by omega) (fun c hc => ⟨by have := (hK.each c hc).1; omega, (hK.each c hc).2.1, (hK.each c hc).2.2.1⟩)
        have hW3 : ∀ x ∈ W, x < S3.n := fun x hx => Nat.lt_of_lt_of_le (hW2 x hx) F3.le
        rw [seq_nx (exp_ok (v := .non) (S1 := S3) (by rw [meth_ok rfl r1.obj (cons_ok x1 rfl)]; exact y1))]
        obtain ⟨S4, y2, r4, F4⟩ := r3.addRow hT (by omega) s9 s
        have hW4 : ∀ x ∈ W, x < S4.n := fun x hx => Nat.lt_of_lt_of_le (hW3 x hx) F4.le
        rw [seq_nx (exp_ok (v := .non) (S1 := S4) (by
          have tp : mTup (mCons (mFld 4 (mVar 0)) (mCons (mC (.str s9)) (mCons (mVar 2) mNil))) [some (.ref A.h), some (.str (φ n)), some (.str (φ s)), some ((Nd.kp s mode most span ch).va φ), some (.ref L), none, none] S3 = .ok (.tup [.int ((stopAll (notedM m s span) ch).clock + off), .str s9, .str (φ s)]) S3 := by
            unfold mTup
            rw [cons_ok (fld_ok rfl r3.obj rfl) rfl, bind_ok] <;> rfl
          rw [bm_ok (fld_ok rfl r3.obj rfl) (kn_L r3.row) (cons_ok tp rfl)]
          exact y2))]
        have hlf : ∀ i, ((yieldM (stopAll (notedM m s span) ch) s).fallen i).length + rest.length ≤ 1000 := fun i => by
          have e : (yieldM (stopAll (notedM m s span) ch) s).fallen = (notedM m s span).fallen := (stopAll_fal _ _).1
          rw [e]
          show (if i = s then timesM m s span else m.fallen i).length + _ ≤ _
          split
          · have := List.length_filter_le (fun t => decide (m.clock - span < t)) (m.fallen s)
            have := hf s
            rw [List.length_append, List.length_singleton]
            omega
          · have := hf i
            omega
        obtain ⟨S5, y3, r5, F5⟩ := ih s d (nr + 30 * ch.length + 1) (yieldM (stopAll (notedM m s span) ch) s) S4 hA' hW4 r4 hlf (by omega)
        refine ⟨S5, ?_, r5.more (by rw [List.length_cons]; omega), F1.trans ((F2.mono (fun _ z => nomatch z)).trans (F3.trans ((F4.mono (by simp [Ad.muts])).trans F5)))⟩
        rw [exp_ok (v := .non) (S1 := S5) (by rw [meth_ok rfl r4.obj (cons_ok rfl rfl)]; exact y3)]
        rfl
      · rw [decide_eq_false q] at et
        rw [ifs_f et, toldM_no q]
        subst hc
        obtain ⟨L2, S2, x1, g2, hL2, F2⟩ := touched16 (φ := φ) (d := d + rest.length + 6) (h := A.h) (s := s) (m := mode) (a := most) (b := span) (S := S1) inj hj hK.nd hlen
        have r2 := r1.fr F2 (fun _ z => nomatch z) (fun _ _ z => nomatch z)
        have hW2 : ∀ x ∈ W, x < S2.n := fun x hx => Nat.lt_of_lt_of_le (hW1 x hx) F2.le
        have hL2W : L2 ∉ W := fun z => by have := hW1 _ z; omega
        have htl := touchedM_len (mode := mode) (j := j) (ch := ch)
        rw [seq_nx (e1 := [some (.ref A.h), some (.str (φ c.nm)), some (.str (φ s)), some ((Nd.kp s mode most span ch).va φ), some (.ref L), none, some (.ref L2)]) (S1 := S2) (set_ok (v := .ref L2) (by rw [meth_ok rfl r1.obj (cons_ok rfl (cons_ok rfl rfl))]; exact x1) rfl)]
        obtain ⟨S3, y1, r3, F3⟩ := stop14 (d := d + rest.length + 5) inj hT hW2 r2 g2 hL2W (by omega) (fun c hc => by
          have := hK.each c (touchedM_mem hc)
          exact ⟨by have := this.1; omega, this.2.1, this.2.2.1⟩)
        have hW3 : ∀ x ∈ W, x < S3.n := fun x hx => Nat.lt_of_lt_of_le (hW2 x hx) F3.le
        have g3 := F3.at g2 (fun z => hL2W (r.sub _ z))
        rw [seq_nx (exp_ok (v := .non) (S1 := S3) (by rw [meth_ok rfl r2.obj (cons_ok rfl rfl)]; exact y1))]
        obtain ⟨S4, y2, r4, F4⟩ := start15 (d := d + rest.length + 5) inj hT hW3 r3 g3 hL2W (by omega) (fun c hc => by
          have := hK.each c (touchedM_mem hc)
          exact ⟨by have := this.1; omega, this.2.1, this.2.2.1, this.2.2.2⟩)
        refine ⟨S4, ?_, r4.more (by rw [List.length_cons]; omega), F1.trans ((F2.mono (fun _ z => nomatch z)).trans (F3.trans F4))⟩
        rw [exp_ok (v := .non) (S1 := S4) (by rw [meth_ok rfl r3.obj (cons_ok rfl rfl)]; exact y2)]
        rfl
end
end Mi
namespace Mi
open PySem PySem.Spec PyProof.Rows L2 Pg
mutual
theorem Nd.wks_lrn : ∀ (n : Nd) (up : Option Nat) (w : Nat), w ∈ n.wks → ∃ up', (w, Nd.wk w, up') ∈ n.lrn up
  | .wk s, up, w, h => by
    have : w = s := by simpa [Nd.wks] using h
    subst this
    exact ⟨up, List.mem_cons_self⟩
  | .kp s m a b ch, up, w, h => by
    obtain ⟨up', h2⟩ := Nd.wksL_lrn ch (some s) w h
    exact ⟨up', List.mem_cons_of_mem _ h2⟩
theorem Nd.wksL_lrn : ∀ (ch : List Nd) (up : Option Nat) (w : Nat), w ∈ Nd.wksL ch → ∃ up', (w, Nd.wk w, up') ∈ Nd.lrnL up ch
  | [], up, w, h => nomatch h
  | n :: r, up, w, h => by
    unfold Nd.lrnL
    rcases List.mem_append.mp (show w ∈ n.wks ++ Nd.wksL r from h) with q | q
    · obtain ⟨up', h2⟩ := Nd.wks_lrn n up w q
      exact ⟨up', List.mem_append_left _ h2⟩
    · obtain ⟨up', h2⟩ := Nd.wksL_lrn r up w q
      exact ⟨up', List.mem_append_right _ h2⟩
end
def fallM (ks : List (Nat × Nat × Nat × Int × Int × List Nd)) (m : M) (w : Nat) : M := toldM ks { m with up := fun i => if i = w then false else m.up i, rows := m.rows ++ [(m.clock, s3, w)] }
theorem in_ok {a b : EF} {neg : Bool} {env : Ev} {S S1 S2 : Sto} {x y : Va} {k : Bool} (h1 : a env S = .ok x S1) (h2 : b env S1 = .ok y S2) (h3 : isIn S2 x y = some k) : mIn neg a b env S = .ok (.bl (if neg then !k else k)) S2 := by
  unfold mIn
  rw [h1, bind_ok, h2, bind_ok, h3]
section
variable {φ : Nat → Str} {T : Nd} {off : Int} {A : Ad} {W : List Nat} {np nr d : Nat} {m : M} {S : Sto}
theorem HRep.known (inj : ∀ i j, φ i = φ j → i = j) (hT : Tree φ T) (r : HRep φ T off A W np nr m S) {e : Nat × Nd × Option Nat} (he : e ∈ T.lrn none) : isIn S (.str (φ e.1)) (.ref A.Nn) = some true := by
  show isInO (S.get A.Nn) (.str (φ e.1)) = _
  rw [r.nodes]
  show some (dGet (kN φ (T.lrn none)) (.inr (φ e.1))).isSome = _
  have : dGet (kN φ (T.lrn none)) (.inr (φ e.1)) = some (e.2.1.va φ) := dGet_ent (f := fun e => e.2.1.va φ) inj (lrn_nodup hT) he
  rw [this]
  rfl
/-- fall -/
theorem fall18 (inj : ∀ i j, φ i = φ j → i = j) (hT : Tree φ T) (hW : ∀ x ∈ W, x < S.n) (r : HRep φ T off A W np nr m S) {w : Nat} (hw : w ∈ T.wks) (hd : m.down = false) (hu : m.up w = true) {ks : List (Nat × Nat × Nat × Int × Int × List Nd)} (hA : Above (T.lrn none) w ks) (hk : ks.length ≤ 4) (hf : ∀ i, (m.fallen i).length + 4 ≤ 1000) (hr : nr + 1601 ≤ 900000) (hp : np < 1000) :
    ∃ S', callF prog (d + 12) 18 [.ref A.h, .str (φ w)] S = .ok .non S' ∧ HRep φ T off A W (np + 1) (nr + 1601) (fallM ks m w) S' ∧ Fr A.muts S S' := by
  obtain ⟨up', hl⟩ := Nd.wks_lrn T none w hw
  have hn : T.wks.Nodup := hT.nd.sublist (Nd.wks_sub T)
  obtain ⟨l, p1, p2⟩ := r.past
  obtain ⟨v, S1, e1, F1⟩ := state12 (d := d + 10) inj hT r
  have r1 := r.fr F1 (fun _ z => nomatch z) (fun _ _ z => nomatch z)
  have p1' := F1.at p1 (by simp)
  have r2 := r1.addPast p1' p2 v
  have hW1 : ∀ x ∈ W, x < S1.n := fun x hx => Nat.lt_of_lt_of_le (hW x hx) F1.le
  obtain ⟨S2, eS2⟩ : ∃ S2, S1.set A.Ap (.lst (l ++ [v])) = S2 := ⟨_, rfl⟩
  rw [eS2] at r2
  have F2 : Fr [A.Ap] S1 S2 := eS2 ▸ Fr.set S1 _
  obtain ⟨S3, g3, r3, F3⟩ := r2.setUp inj hT hw false
  obtain ⟨S4, g4, r4, F4⟩ := r3.addRow hT (by omega) s3 w
  have hW4 : ∀ x ∈ W, x < S4.n := fun x hx => Nat.lt_of_lt_of_le (hW1 x hx) (Nat.le_trans F2.le (Nat.le_trans F3.le F4.le))
  obtain ⟨S5, e5, r5, F5⟩ := told17 inj hT ks w (d + 4 - ks.length) (nr + 1) { m with up := fun i => if i = w then false else m.up i, rows := m.rows ++ [(m.clock, s3, w)] } S4 hA hW4 r4 (fun i => by have := hf i; show (m.fallen i).length + _ ≤ _; omega) (by omega)
  have ed : d + 4 - ks.length + ks.length + 7 = d + 11 := by omega
  rw [ed] at e5
  refine ⟨S5, ?_, r5.more (by omega), (F1.mono (fun _ z => nomatch z)).trans ((F2.mono (by simp [Ad.muts])).trans ((F3.mono (by simp [Ad.muts])).trans ((F4.mono (by simp [Ad.muts])).trans F5)))⟩
  rw [callF_succ (df := ⟨2, 2, f18⟩) rfl rfl]
  show runB (f18 (callF prog (d + 11)) [some (.ref A.h), some (.str (φ w))] S) = _
  unfold f18
  have c1 : mBool (mIn true (mVar 1) (mFld 2 (mVar 0))) [some (.ref A.h), some (.str (φ w))] S = .ok false S := bool_ok (in_ok rfl (fld_ok rfl r.obj rfl) (r.known inj hT hl))
  have c2 : mBool (mBin gNe (mIx (mIx (mFld 2 (mVar 0)) (mVar 1)) (mC (.int 0))) (mC (.str s4))) [some (.ref A.h), some (.str (φ w))] S = .ok false S := by
    refine bool_ok ?_
    have i1 : mIx (mFld 2 (mVar 0)) (mVar 1) [some (.ref A.h), some (.str (φ w))] S = .ok ((Nd.wk w).va φ) S := ix_ok (fld_ok rfl r.obj rfl) rfl (r.node inj hT hl).1
    have i2 : mIx (mIx (mFld 2 (mVar 0)) (mVar 1)) (mC (.int 0)) [some (.ref A.h), some (.str (φ w))] S = .ok (.str s4) S := ix_ok i1 rfl (by rw [wk_va]; rfl)
    rw [bin_ok i2 rfl]
    show R.ok (Va.bl (!decide (s4 = s4))) S = _
    rw [decide_eq_true rfl] <;> rfl
  rw [seq_nx (e1 := [some (.ref A.h), some (.str (φ w))]) (S1 := S) (by rw [ifs_f (S1 := S) (by rw [or_f (S1 := S) c1]; exact c2)]; rfl)]
  have c3 : mTru (mFld 8 (mVar 0)) [some (.ref A.h), some (.str (φ w))] S = .ok false S := by
    have := tru_ok (k := m.down) (fld_ok (j := 8) (f := mVar 0) (env := [some (.ref A.h), some (.str (φ w))]) rfl r.obj (v := .bl m.down) rfl) rfl
    rw [hd] at this
    exact this
  rw [seq_nx (e1 := [some (.ref A.h), some (.str (φ w))]) (S1 := S) (by rw [ifs_f (S1 := S) c3]; rfl)]
  have c4 : mIx (mFld 5 (mVar 0)) (mVar 1) [some (.ref A.h), some (.str (φ w))] S = .ok (.bl true) S := by
    refine ix_ok (fld_ok rfl r.obj rfl) rfl ?_
    show gIxO (S.get A.Au) (.str (φ w)) = _
    rw [r.up, ← hu]
    exact dGet_map (f := fun i => Va.bl (m.up i)) inj hn hw
  rw [seq_nx (e1 := [some (.ref A.h), some (.str (φ w))]) (S1 := S) (by rw [ifs_f (S1 := S) (notB_ok (tru_ok c4 rfl))]; rfl)]
  have st : mMeth (callF prog (d + 11)) (Mi.M1 0 12 []) (mVar 0) mNil [some (.ref A.h), some (.str (φ w))] S = .ok v S1 := by
    rw [meth_ok rfl r.obj rfl]
    exact e1
  rw [seq_nx (exp_ok (v := .non) (S1 := S2) (by
    rw [bm_ok (fld_ok rfl r.obj rfl) (kn_L p1) (cons_ok st rfl), ← eS2]
    exact append_ok p1' (by omega)))]
  rw [seq_nx (setIx_ok rfl (fld_ok rfl r2.obj rfl) rfl g3)]
  rw [seq_nx (exp_ok (v := .non) (S1 := S4) (by
    have tp : mTup (mCons (mFld 4 (mVar 0)) (mCons (mC (.str s3)) (mCons (mVar 1) mNil))) [some (.ref A.h), some (.str (φ w))] S3 = .ok (.tup [.int (m.clock + off), .str s3, .str (φ w)]) S3 := by
      unfold mTup
      rw [cons_ok (fld_ok rfl r3.obj rfl) rfl, bind_ok] <;> rfl
    rw [bm_ok (fld_ok rfl r3.obj rfl) (kn_L r3.row) (cons_ok tp rfl)]
    exact g4))]
  rw [exp_ok (v := .non) (S1 := S5) (by rw [meth_ok rfl r4.obj (cons_ok rfl rfl)]; exact e5)]
  rfl
/-- counted -/
theorem counted23 (inj : ∀ i j, φ i = φ j → i = j) (hT : Tree φ T) (r : HRep φ T off A W np nr m S) {s mode : Nat} {most span : Int} {ch : List Nd} {up : Option Nat} (hs : (s, Nd.kp s mode most span ch, up) ∈ T.lrn none) (hf : (m.fallen s).length ≤ 1000) :
    ∃ S', callF prog (d + 1) 23 [.ref A.h, .str (φ s)] S = .ok (.int ((m.fallen s).filter (fun t => decide (m.clock - span < t))).length) S' ∧ Fr [] S S' := by
  have hsT : s ∈ T.nms := by
    rw [← Nd.lrn_ids none T]
    exact List.mem_map.mpr ⟨_, hs, rfl⟩
  obtain ⟨a, ga1, g2, g3⟩ := r.getFal inj hT hsT
  have e1 : ∀ z, mIx (mFld 6 (mVar 0)) (mVar 1) [some (.ref A.h), some (.str (φ s)), z] S = .ok (.ref a) S := fun z => ix_ok (fld_ok rfl r.obj rfl) rfl ga1
  have hix : ∀ (z : Option Va) (S2 : Sto), Fr [] S S2 → mIx (mFld 2 (mVar 0)) (mVar 1) [some (.ref A.h), some (.str (φ s)), z] S2 = .ok ((Nd.kp s mode most span ch).va φ) S2 := fun z S2 f => ix_ok (fld_ok rfl (f.at r.obj (by simp)) rfl) rfl ((r.fr f (fun _ z => nomatch z) (fun _ _ z => nomatch z)).node inj hT hs).1
  obtain ⟨D, S1, k1, k2, k3, k4, k5⟩ := lc_of (fi := iSeq (mIx (mFld 6 (mVar 0)) (mVar 1))) (t := tNm 2) (cond := mBool (mBin gGt (mVar 2) (mBin gSub (mFld 4 (mVar 0)) (mIx (mIx (mFld 2 (mVar 0)) (mVar 1)) (mC (.int 4)))))) (elt := mVar 2) (vs := [2]) (env := [some (.ref A.h), some (.str (φ s)), none]) (S := S) (S1 := S) (xs := (m.fallen s).map fun t => Va.int (t + off)) ((m.fallen s).map fun t => if decide (m.clock - span < t) then some (Va.int (t + off)) else none)
    (seq_R (e1 none) g2) (items_R g2) (by rw [List.length_map]; omega) (by rw [List.length_map, List.length_map]) (fun i v o S2 hx ho f hlt => by
      rw [List.getElem?_map] at hx ho
      cases q : (m.fallen s)[i]? with
      | none => rw [q] at hx; cases hx
      | some t =>
        rw [q] at hx ho
        cases hx
        cases ho
        refine ⟨[some (.ref A.h), some (.str (φ s)), some (.int (t + off))], rfl, ?_⟩
        have c1 : mBool (mBin gGt (mVar 2) (mBin gSub (mFld 4 (mVar 0)) (mIx (mIx (mFld 2 (mVar 0)) (mVar 1)) (mC (.int 4))))) [some (.ref A.h), some (.str (φ s)), some (.int (t + off))] S2 = .ok (decide (m.clock - span < t)) S2 := by
          have i4 : mIx (mIx (mFld 2 (mVar 0)) (mVar 1)) (mC (.int 4)) [some (.ref A.h), some (.str (φ s)), some (.int (t + off))] S2 = .ok (.int span) S2 := ix_ok (hix _ S2 f) rfl (by rw [kp_va]; rfl)
          have sb : mBin gSub (mFld 4 (mVar 0)) (mIx (mIx (mFld 2 (mVar 0)) (mVar 1)) (mC (.int 4))) [some (.ref A.h), some (.str (φ s)), some (.int (t + off))] S2 = .ok (.int (m.clock + off - span)) S2 := by
            rw [bin_ok (fld_ok rfl (f.at r.obj (by simp)) rfl) i4] <;> rfl
          refine bool_ok ?_
          rw [bin_ok rfl sb]
          show R.ok (Va.bl (decide (m.clock + off - span < t + off))) S2 = _
          rw [decide_eq_decide.mpr (show (m.clock + off - span < t + off) ↔ (m.clock - span < t) by omega)]
        cases qd : decide (m.clock - span < t) with
        | false =>
          rw [qd] at c1
          exact .inl ⟨by dsimp only; rw [qd] <;> rfl, S2, c1, Fr.refl _ _⟩
        | true =>
          rw [qd] at c1
          exact .inr ⟨S2, .int (t + off), S2, by dsimp only; rw [qd] <;> rfl, c1, Fr.refl _ _, rfl, Fr.refl _ _⟩)
  have hfm : ∀ l : List Int, (l.map fun t => if decide (m.clock - span < t) then some (Va.int (t + off)) else none).filterMap id = (l.filter (fun t => decide (m.clock - span < t))).map fun t => Va.int (t + off) := fun l => by
    induction l with
    | nil => rfl
    | cons t l ih =>
      rw [List.map_cons, List.filter_cons]
      cases decide (m.clock - span < t)
      · rw [if_neg (by decide), if_neg (by decide)]
        exact ih
      · rw [if_pos rfl, if_pos rfl, List.filterMap_cons]
        show Va.int (t + off) :: _ = Va.int (t + off) :: _
        rw [ih]
  rw [hfm] at k2
  refine ⟨S1, ?_, k5⟩
  rw [callF_succ (df := ⟨2, 3, f23⟩) rfl rfl]
  show runB (f23 (callF prog d) [some (.ref A.h), some (.str (φ s)), none] S) = _
  unfold f23
  have c1 : mBool (mIn true (mVar 1) (mFld 2 (mVar 0))) [some (.ref A.h), some (.str (φ s)), none] S = .ok false S := bool_ok (in_ok rfl (fld_ok rfl r.obj rfl) (r.known inj hT hs))
  have c2 : mBool (mBin gNe (mIx (mIx (mFld 2 (mVar 0)) (mVar 1)) (mC (.int 0))) (mC (.str s1))) [some (.ref A.h), some (.str (φ s)), none] S = .ok false S := by
    refine bool_ok ?_
    have i2 : mIx (mIx (mFld 2 (mVar 0)) (mVar 1)) (mC (.int 0)) [some (.ref A.h), some (.str (φ s)), none] S = .ok (.str s1) S := ix_ok (hix none S (Fr.refl _ _)) rfl (by rw [kp_va]; rfl)
    rw [bin_ok i2 rfl]
    show R.ok (Va.bl (!decide (s1 = s1))) S = _
    rw [decide_eq_true rfl] <;> rfl
  rw [seq_nx (e1 := [some (.ref A.h), some (.str (φ s)), none]) (S1 := S) (by rw [ifs_f (S1 := S) (by rw [or_f (S1 := S) c1]; exact c2)]; rfl)]
  rw [ret_ok (v := .int ((m.fallen s).filter (fun t => decide (m.clock - span < t))).length) (S1 := S1) (by
    rw [bi_ok (cons_ok k1 rfl)]
    unfold gLen g1 seqOf
    try dsimp only
    rw [k2]
    try dsimp only
    rw [List.length_map])]
  rfl
end
end Mi
namespace Mi
open PySem PySem.Spec PyProof.Rows L2 Pg
def M0 : M := ⟨0, fun _ => true, fun _ => [], [], false⟩
theorem kN_keys (φ : Nat → Str) (l : List (Nat × Nd × Option Nat)) : ((kN φ l).map fun kv => vaK kv.1) = ((l.map (·.1)).map φ).map Va.str := by
  unfold kN
  rw [List.map_map, List.map_map, List.map_map] <;> rfl
theorem us_true {us : List Va} {ws : List Nat} (hl : us.length = ws.length) (h : ∀ (i : Nat) v, us[i]? = some v → v = .bl true) : us = ws.map fun _ => Va.bl true := by
  refine List.ext_getElem? fun i => ?_
  cases q : us[i]? with
  | none =>
    rw [List.getElem?_eq_none_iff] at q
    rw [List.getElem?_eq_none_iff.mpr (by rw [List.length_map]; omega)]
  | some v =>
    have hi := (List.getElem?_eq_some_iff.mp q).1
    rw [h i v q, List.getElem?_map, List.getElem?_eq_getElem (by omega)] <;> rfl
/-- a new house -/
theorem init10 {φ : Nat → Str} (inj : ∀ i j, φ i = φ j → i = j) {T : Nd} (hT : Tree φ T) {d h : Nat} {S : Sto} {W0 : List Nat} (hh : S.get h = some (.ins 0 [])) (hW0 : ∀ x ∈ W0, x < S.n) (hhW : h ∉ W0) :
    ∃ A S', A.h = h ∧ callF prog (d + 9) 10 [.ref h, T.va φ] S = .ok .non S' ∧ HRep φ T 0 A (W0 ++ A.muts) 0 0 M0 S' ∧ (∀ x ∈ A.muts, (x = h ∨ S.n ≤ x) ∧ x < S'.n) ∧ Fr [h] S S' := by
  have hlt := Sto.lt hh
  have hwl : T.wks.length ≤ 100 := by have := hT.len; have := Nd.wks_le T; omega
  have hwn : T.wks.Nodup := hT.nd.sublist (Nd.wks_sub T)
  obtain ⟨S1, a1, F1⟩ := is_tree8 (d := d) (S := S) inj hT
  have l1 := F1.le
  have h1 := F1.at hh (by simp)
  -- tree
  obtain ⟨S2, eS2⟩ : ∃ S2, S1.set h (.ins 0 [(1, T.va φ)]) = S2 := ⟨_, rfl⟩
  have F2 : Fr [h] S1 S2 := eS2 ▸ Fr.set _ _
  have l2 := F2.le
  have h2 : S2.get h = some (.ins 0 [(1, T.va φ)]) := by rw [← eS2]; exact Sto.get_set (Sto.lt h1)
  -- nodes
  obtain ⟨B3, eB3⟩ : ∃ B3, S2.new (.dic []) = B3 := ⟨_, rfl⟩
  have hB3 : B3.get h = some (.ins 0 [(1, T.va φ)]) := by rw [← eB3]; exact Sto.get_new_of h2
  have nB3 : B3.get S2.n = some (.dic []) := by rw [← eB3]; exact Sto.get_new
  have FB3 : Fr [h] S2 B3 := eB3 ▸ Fr.new _ _ _
  obtain ⟨S3, eS3⟩ : ∃ S3, B3.set h (.ins 0 [(1, T.va φ), (2, .ref S2.n)]) = S3 := ⟨_, rfl⟩
  have FS3 : Fr [h] B3 S3 := eS3 ▸ Fr.set _ _
  have lB3 := Sto.lt nB3
  have l3 := FS3.le
  have h3 : S3.get h = some (.ins 0 [(1, T.va φ), (2, .ref S2.n)]) := by rw [← eS3]; exact Sto.get_set (Sto.lt hB3)
  have n3 : S3.get S2.n = some (.dic []) := FS3.at nB3 (by simp; omega)
  -- ups
  obtain ⟨B4, eB4⟩ : ∃ B4, S3.new (.dic []) = B4 := ⟨_, rfl⟩
  have hB4 : B4.get h = some (.ins 0 [(1, T.va φ), (2, .ref S2.n)]) := by rw [← eB4]; exact Sto.get_new_of h3
  have nB4 : B4.get S2.n = some (.dic []) := by rw [← eB4]; exact Sto.get_new_of n3
  have uB4 : B4.get S3.n = some (.dic []) := by rw [← eB4]; exact Sto.get_new
  have FB4 : Fr [h] S3 B4 := eB4 ▸ Fr.new _ _ _
  obtain ⟨S4, eS4⟩ : ∃ S4, B4.set h (.ins 0 [(1, T.va φ), (2, .ref S2.n), (3, .ref S3.n)]) = S4 := ⟨_, rfl⟩
  have FS4 : Fr [h] B4 S4 := eS4 ▸ Fr.set _ _
  have lB4 := Sto.lt uB4
  have l4 := FS4.le
  have h4 : S4.get h = some (.ins 0 [(1, T.va φ), (2, .ref S2.n), (3, .ref S3.n)]) := by rw [← eS4]; exact Sto.get_set (Sto.lt hB4)
  have n4 : S4.get S2.n = some (.dic []) := FS4.at nB4 (by simp; omega)
  have u4 : S4.get S3.n = some (.dic []) := FS4.at uB4 (by simp; omega)
  -- learn
  obtain ⟨S5, a5, n5, u5, F5⟩ := learn11 (φ := φ) inj (h := h) (Nn := S2.n) (Nu := S3.n) (fs := [(1, T.va φ), (2, .ref S2.n), (3, .ref S3.n)]) rfl rfl (by omega) (by omega) (by omega) (d + 7) T none [] S4 (by have := hT.dep; omega) (by simpa using hT.nd) (by have := hT.len; simp; omega) h4 n4 u4
  rw [List.nil_append] at n5 u5
  have l5 := F5.le
  have h5 := F5.at h4 (by simp; omega)
  -- clock
  obtain ⟨S6, eS6⟩ : ∃ S6, S5.set h (.ins 0 [(1, T.va φ), (2, .ref S2.n), (3, .ref S3.n), (4, .int 0)]) = S6 := ⟨_, rfl⟩
  have F6 : Fr [h] S5 S6 := eS6 ▸ Fr.set _ _
  have l6 := F6.le
  have h6 : S6.get h = some (.ins 0 [(1, T.va φ), (2, .ref S2.n), (3, .ref S3.n), (4, .int 0)]) := by rw [← eS6]; exact Sto.get_set (Sto.lt h5)
  have n6 := F6.at n5 (by simp; omega)
  have u6 := F6.at u5 (by simp; omega)
  -- up
  obtain ⟨L7, S7, a7, g7, q7, _, F7⟩ := workers9 (φ := φ) (d + 7) T S6 (by have := hT.dep; omega) (by have := hT.len; omega)
  have l7 := F7.le
  have ec7 : mCall (callF prog (d + 8)) 9 (mCons (mVar 1) mNil) [] [some (.ref h), some (T.va φ), none] S6 = .ok (.ref L7) S7 := a7
  obtain ⟨us, S8, a8, k8, g8, p8, F8⟩ := dc_of (fi := iSeq (mCall (callF prog (d + 8)) 9 (mCons (mVar 1) mNil) [])) (t := tNm 2) (fk := mVar 2) (fv := mC (.bl true)) (vs := [2]) (env := [some (.ref h), some (T.va φ), none]) (S := S6) (S1 := S7) (m := miR L7 (txs φ T.wks).length) (ks := T.wks.map φ) (fun _ v _ => v = .bl true) (fun _ _ _ _ h _ => h)
    (seq_R ec7 g7) (by rw [List.map_map]; exact items_R g7) (nodup_map inj hwn) (by rw [List.length_map]; omega) (fun i k S2 hk f hlt2 => ⟨[some (.ref h), some (T.va φ), some (.str k)], .bl true, S2, rfl, rfl, rfl, rfl, Fr.refl _ _⟩)
  have eus := us_true (by rw [k8, List.length_map]) p8
  rw [eus] at g8
  have l8 := F8.le
  have lg8 := Sto.lt g8
  have h8 := F8.at (F7.at h6 (by simp)) (by simp)
  have n8 := F8.at (F7.at n6 (by simp)) (by simp)
  have u8 := F8.at (F7.at u6 (by simp)) (by simp)
  obtain ⟨S9, eS9⟩ : ∃ S9, S8.set h (.ins 0 [(1, T.va φ), (2, .ref S2.n), (3, .ref S3.n), (4, .int 0), (5, .ref S7.n)]) = S9 := ⟨_, rfl⟩
  have F9 : Fr [h] S8 S9 := eS9 ▸ Fr.set _ _
  have l9 : S9.n = S8.n := by rw [← eS9] <;> rfl
  have h9 : S9.get h = some (.ins 0 [(1, T.va φ), (2, .ref S2.n), (3, .ref S3.n), (4, .int 0), (5, .ref S7.n)]) := by rw [← eS9]; exact Sto.get_set (Sto.lt h8)
  have n9 := F9.at n8 (by simp; omega)
  have u9 := F9.at u8 (by simp; omega)
  have w9 := F9.at g8 (by simp; omega)
  -- fallen
  obtain ⟨Z9, eZ9⟩ : ∃ Z9, S9.set S2.n (.frd (kN φ (T.lrn none))) = Z9 := ⟨_, rfl⟩
  have FZ9 : Fr [S2.n] S9 Z9 := eZ9 ▸ Fr.set _ _
  have lZ : Z9.n = S9.n := by rw [← eZ9] <;> rfl
  have hZ := FZ9.at h9 (by simp; omega)
  have nZ : Z9.get S2.n = some (.frd (kN φ (T.lrn none))) := by rw [← eZ9]; exact Sto.get_set (Sto.lt n9)
  obtain ⟨vs, S10, a10, k10, g10, p10, F10⟩ := dc_of (fi := iKeyL (mFld 2 (mVar 0))) (t := tNm 2) (fk := mVar 2) (fv := mLst mNil) (vs := [2]) (env := [some (.ref h), some (T.va φ), none]) (S := Z9) (S1 := Z9) (m := miL ((T.nms.map φ).map Va.str)) (ks := T.nms.map φ) (fun _ v S => ∃ a, v = .ref a ∧ S.get a = some (.lst []) ∧ Z9.n < a) (fun i v S S' ⟨a, e1, e2, e3⟩ f => ⟨a, e1, f.at e2 (by simp; omega), e3⟩)
    (by rw [keys_R (fld_ok rfl hZ rfl) nZ, kN_keys, Nd.lrn_ids]) (items_L _) (nodup_map inj hT.nd) (by rw [List.length_map]; have := hT.len; omega) (fun i k S2 hk f hlt2 => ⟨[some (.ref h), some (T.va φ), some (.str k)], .ref S2.n, S2.new (.lst []), rfl, rfl, rfl, ⟨S2.n, rfl, Sto.get_new, hlt2⟩, Fr.new [] S2 _⟩)
  rw [← eZ9] at a10 F10
  obtain ⟨a11, F11⟩ := lock_of (lk := lkF 0 2) (env := [some (.ref h), some (T.va φ), none]) (n := S2.n) (by
    unfold lkF
    try dsimp only
    unfold gFld
    simp only [List.getElem?_cons_zero]
    rw [h9] <;> rfl) n9 a10 F10
  rw [eZ9] at a11 F10
  obtain ⟨S11, eS11⟩ : ∃ S11, S10.set S2.n (.dic (kN φ (T.lrn none))) = S11 := ⟨_, rfl⟩
  rw [eS11] at a11 F11
  have l11 : S11.n = S10.n := by rw [← eS11] <;> rfl
  have lg10 := Sto.lt g10
  have h11 := F11.at h9 (by simp)
  have n11 := F11.at n9 (by simp)
  have u11 := F11.at u9 (by simp)
  have w11 := F11.at w9 (by simp)
  have f11 : S11.get Z9.n = some (.dic (kvOf (T.nms.map φ) vs)) := by rw [← eS11, Sto.get_set_ne (by omega)]; exact g10
  have p11 : ∀ (i : Nat) v, vs[i]? = some v → ∃ a, v = .ref a ∧ S11.get a = some (.lst []) ∧ Z9.n < a := fun i v hv => by
    obtain ⟨a, e1, e2, e3⟩ := p10 i v hv
    exact ⟨a, e1, by rw [← eS11, Sto.get_set_ne (by omega)]; exact e2, e3⟩
  obtain ⟨S12, eS12⟩ : ∃ S12, S11.set h (.ins 0 [(1, T.va φ), (2, .ref S2.n), (3, .ref S3.n), (4, .int 0), (5, .ref S7.n), (6, .ref Z9.n)]) = S12 := ⟨_, rfl⟩
  have F12 : Fr [h] S11 S12 := eS12 ▸ Fr.set _ _
  have l12 : S12.n = S11.n := by rw [← eS12] <;> rfl
  have h12 : S12.get h = some (.ins 0 [(1, T.va φ), (2, .ref S2.n), (3, .ref S3.n), (4, .int 0), (5, .ref S7.n), (6, .ref Z9.n)]) := by rw [← eS12]; exact Sto.get_set (Sto.lt h11)
  -- rows
  obtain ⟨L13, S13, a13, g13, q13, _, F13⟩ := workers9 (φ := φ) (d + 7) T S12 (by have := hT.dep; omega) (by have := hT.len; omega)
  have ec13 : mCall (callF prog (d + 8)) 9 (mCons (mVar 1) mNil) [] [some (.ref h), some (T.va φ), none] S12 = .ok (.ref L13) S13 := a13
  have l13 := F13.le
  obtain ⟨Ar, S14, a14, g14, q14, r14, F14⟩ := lc_map (fi := iSeq (mCall (callF prog (d + 8)) 9 (mCons (mVar 1) mNil) [])) (t := tNm 2) (elt := mTup (mCons (mC (.int 0)) (mCons (mC (.str s2)) (mCons (mVar 2) mNil)))) (vs := [2]) (env := [some (.ref h), some (T.va φ), none]) (S := S12) (S1 := S13) (m := miR L13 (txs φ T.wks).length) (xs := txs φ T.wks) (T.wks.map (startV φ))
    (seq_R ec13 g13) (items_R g13) (by rw [List.length_map]; omega) (by rw [List.length_map, List.length_map]) (fun i x y S2 hx hy f hlt2 => by
      rw [List.getElem?_map] at hx hy
      cases q : T.wks[i]? with
      | none => rw [q] at hx; cases hx
      | some w =>
        rw [q] at hx hy
        cases hx
        cases hy
        exact ⟨[some (.ref h), some (T.va φ), some (.str (φ w))], S2, rfl, rfl, Fr.refl _ _⟩)
  have G14 : Fr [] S12 S14 := F13.trans F14
  have h14 := G14.at h12 (by simp)
  obtain ⟨S15, eS15⟩ : ∃ S15, S14.set h (.ins 0 [(1, T.va φ), (2, .ref S2.n), (3, .ref S3.n), (4, .int 0), (5, .ref S7.n), (6, .ref Z9.n), (7, .ref Ar)]) = S15 := ⟨_, rfl⟩
  have F15 : Fr [h] S14 S15 := eS15 ▸ Fr.set _ _
  have l15 : S15.n = S14.n := by rw [← eS15] <;> rfl
  have h15 : S15.get h = some (.ins 0 [(1, T.va φ), (2, .ref S2.n), (3, .ref S3.n), (4, .int 0), (5, .ref S7.n), (6, .ref Z9.n), (7, .ref Ar)]) := by rw [← eS15]; exact Sto.get_set (Sto.lt h14)
  -- down
  obtain ⟨S16, eS16⟩ : ∃ S16, S15.set h (.ins 0 [(1, T.va φ), (2, .ref S2.n), (3, .ref S3.n), (4, .int 0), (5, .ref S7.n), (6, .ref Z9.n), (7, .ref Ar), (8, .bl false)]) = S16 := ⟨_, rfl⟩
  have F16 : Fr [h] S15 S16 := eS16 ▸ Fr.set _ _
  have l16 : S16.n = S15.n := by rw [← eS16] <;> rfl
  have h16 : S16.get h = some (.ins 0 [(1, T.va φ), (2, .ref S2.n), (3, .ref S3.n), (4, .int 0), (5, .ref S7.n), (6, .ref Z9.n), (7, .ref Ar), (8, .bl false)]) := by rw [← eS16]; exact Sto.get_set (Sto.lt h15)
  -- past
  obtain ⟨S17, eS17⟩ : ∃ S17, S16.new (.lst []) = S17 := ⟨_, rfl⟩
  have F17 : Fr [] S16 S17 := eS17 ▸ Fr.new [] _ _
  have l17 : S17.n = S16.n + 1 := by rw [← eS17] <;> rfl
  have h17 := F17.at h16 (by simp)
  have p17 : S17.get S16.n = some (.lst []) := by rw [← eS17]; exact Sto.get_new
  obtain ⟨S18, eS18⟩ : ∃ S18, S17.set h (.ins 0 [(1, T.va φ), (2, .ref S2.n), (3, .ref S3.n), (4, .int 0), (5, .ref S7.n), (6, .ref Z9.n), (7, .ref Ar), (8, .bl false), (9, .ref S16.n)]) = S18 := ⟨_, rfl⟩
  have F18 : Fr [h] S17 S18 := eS18 ▸ Fr.set _ _
  have l18 : S18.n = S17.n := by rw [← eS18] <;> rfl
  have h18 : S18.get h = some (.ins 0 [(1, T.va φ), (2, .ref S2.n), (3, .ref S3.n), (4, .int 0), (5, .ref S7.n), (6, .ref Z9.n), (7, .ref Ar), (8, .bl false), (9, .ref S16.n)]) := by rw [← eS18]; exact Sto.get_set (Sto.lt h17)
  have l14 := G14.le
  have l10 := F10.le
  have F1218 : Fr [h] S12 S18 := (G14.mono (fun _ z => nomatch z)).trans (F15.trans (F16.trans ((F17.mono (fun _ z => nomatch z)).trans F18)))
  have F1118 : Fr [h] S11 S18 := F12.trans F1218
  have F1418 : Fr [h] S14 S18 := F15.trans (F16.trans ((F17.mono (fun _ z => nomatch z)).trans F18))
  refine ⟨⟨h, S2.n, S3.n, S7.n, Z9.n, Ar, S16.n⟩, S18, rfl, ?_, ⟨h18, F1118.at w11 (by simp; omega), ⟨vs, by rw [k10, List.length_map], F1118.at f11 (by simp; omega), fun j i v hj hv => ?_⟩, ?_, F1118.at n11 (by simp; omega), F1118.at u11 (by simp; omega), ⟨[], F18.at p17 (by simp; omega), Nat.le_refl _⟩, Nat.le_refl _, ?_, ?_, ?_⟩, ?_, ?_⟩
  · rw [callF_succ (df := ⟨2, 3, f10⟩) rfl rfl]
    show runB (f10 (callF prog (d + 8)) [some (.ref h), some (T.va φ), none] S) = _
    unfold f10
    have c1 : mCall (callF prog (d + 8)) 8 (mCons (mVar 1) mNil) [] [some (.ref h), some (T.va φ), none] S = .ok (.bl true) S1 := a1
    rw [seq_nx (e1 := [some (.ref h), some (T.va φ), none]) (S1 := S1) (by rw [ifs_f (S1 := S1) (notB_ok (tru_ok c1 rfl))]; rfl)]
    rw [seq_nx (setFld_ok (v := T.va φ) rfl rfl h1 rfl rfl)]
    rw [show S1.set h (.ins 0 (fPut [] 1 (T.va φ))) = S2 from eS2]
    rw [seq_nx (setFld_ok (v := .ref S2.n) (S1 := B3) (by rw [← eB3]; rfl) rfl hB3 rfl rfl)]
    rw [show B3.set h (.ins 0 (fPut [(1, T.va φ)] 2 (.ref S2.n))) = S3 from eS3]
    rw [seq_nx (setFld_ok (v := .ref S3.n) (S1 := B4) (by rw [← eB4]; rfl) rfl hB4 rfl rfl)]
    rw [show B4.set h (.ins 0 (fPut [(1, T.va φ), (2, .ref S2.n)] 3 (.ref S3.n))) = S4 from eS4]
    rw [seq_nx (exp_ok (v := .non) (S1 := S5) (by rw [meth_ok rfl h4 (cons_ok rfl (cons_ok rfl rfl))]; exact a5))]
    rw [seq_nx (setFld_ok (v := .int 0) rfl rfl h5 rfl rfl)]
    rw [show S5.set h (.ins 0 (fPut [(1, T.va φ), (2, .ref S2.n), (3, .ref S3.n)] 4 (.int 0))) = S6 from eS6]
    rw [seq_nx (setFld_ok a8 rfl h8 rfl rfl)]
    rw [show S8.set h (.ins 0 (fPut [(1, T.va φ), (2, .ref S2.n), (3, .ref S3.n), (4, .int 0)] 5 (.ref S7.n))) = S9 from eS9]
    rw [seq_nx (setFld_ok a11 rfl h11 rfl rfl)]
    rw [show S11.set h (.ins 0 (fPut [(1, T.va φ), (2, .ref S2.n), (3, .ref S3.n), (4, .int 0), (5, .ref S7.n)] 6 (.ref Z9.n))) = S12 from eS12]
    rw [seq_nx (setFld_ok a14 rfl h14 rfl rfl)]
    rw [show S14.set h (.ins 0 (fPut [(1, T.va φ), (2, .ref S2.n), (3, .ref S3.n), (4, .int 0), (5, .ref S7.n), (6, .ref Z9.n)] 7 (.ref Ar))) = S15 from eS15]
    rw [seq_nx (setFld_ok (v := .bl false) rfl rfl h15 rfl rfl)]
    rw [show S15.set h (.ins 0 (fPut [(1, T.va φ), (2, .ref S2.n), (3, .ref S3.n), (4, .int 0), (5, .ref S7.n), (6, .ref Z9.n), (7, .ref Ar)] 8 (.bl false))) = S16 from eS16]
    rw [setFld_ok (v := .ref S16.n) (S1 := S17) (by rw [← eS17]; rfl) rfl h17 rfl rfl]
    rw [show S17.set h (.ins 0 (fPut [(1, T.va φ), (2, .ref S2.n), (3, .ref S3.n), (4, .int 0), (5, .ref S7.n), (6, .ref Z9.n), (7, .ref Ar), (8, .bl false)] 9 (.ref S16.n))) = S18 from eS18]
    rfl
  · obtain ⟨a, e1, e2, e3⟩ := p11 j v hv
    have hal := Sto.lt e2
    refine ⟨a, e1, F1118.at e2 (by simp; omega), fun z => ?_⟩
    rcases List.mem_append.mp z with z | z
    · have := hW0 a z; omega
    · simp [Ad.muts] at z; omega
  · have : S18.get Ar = some (.lst (T.wks.map (startV φ))) := F1418.at g14 (by simp; omega)
    rw [this]
    show _ = some (Ob.lst (T.wks.map (startV φ) ++ []))
    rw [List.append_nil]
  · simp [Ad.muts]; omega
  · exact fun x hx => List.mem_append_right _ hx
  · refine ⟨fun z => ?_, fun z => ?_⟩
    · rcases List.mem_append.mp z with z | z
      · have : S2.n < S.n := hW0 _ z
        omega
      · simp [Ad.muts] at z; omega
    · rcases List.mem_append.mp z with z | z
      · have : S3.n < S.n := hW0 _ z
        omega
      · simp [Ad.muts] at z; omega
  · intro x hx
    simp [Ad.muts] at hx
    omega
  · have F15' : Fr [h] S1 S4 := F2.trans (FB3.trans (FS3.trans (FB4.trans FS4)))
    have F5' : Fr [h, S2.n, S3.n] S4 S5 := F5.mono (by simp)
    have Fa : Fr [h, S2.n, S3.n] S S18 := (F1.mono (fun _ z => nomatch z)).trans ((F15'.mono (by simp)).trans (F5'.trans ((F6.mono (by simp)).trans ((F7.mono (fun _ z => nomatch z)).trans ((F8.mono (fun _ z => nomatch z)).trans ((F9.mono (by simp)).trans ((F11.mono (fun _ z => nomatch z)).trans (F1118.mono (by simp)))))))))
    exact Fa.old fun i hi hil => by simp at hi ⊢; omega
/-- more places that deeds write -/
theorem HRep.grow {φ : Nat → Str} {T : Nd} {off : Int} {A : Ad} {W W2 : List Nat} {np nr : Nat} {m : M} {S : Sto} (r : HRep φ T off A W np nr m S) (h1 : ∀ x ∈ W, x ∈ W2) (h2 : ∀ x ∈ W2, x ∈ W ∨ S.n ≤ x) : HRep φ T off A W2 np nr m S := by
  have no : ∀ x o, S.get x = some o → x ∉ W → x ∉ W2 := fun x o g hn z => by
    rcases h2 x z with q | q
    · exact hn q
    · have := Sto.lt g; omega
  obtain ⟨us, u1, u2, u3⟩ := r.fal
  exact ⟨r.obj, r.up, ⟨us, u1, u2, fun j i v hj hv => by
    obtain ⟨a, e1, e2, e3⟩ := u3 j i v hj hv
    exact ⟨a, e1, e2, no a _ e2 e3⟩⟩, r.row, r.nodes, r.ups, r.past, r.nrow, r.nd, fun x hx => h1 x (r.sub x hx), ⟨no _ _ r.nodes r.nw.1, no _ _ r.ups r.nw.2⟩⟩
/-- a house whose clock alone went on is one that is as much later -/
theorem HRep.late {φ : Nat → Str} {T : Nd} {A : Ad} {W : List Nat} {np nr : Nat} {by_ : Int} {S : Sto} (r : HRep φ T 0 A W np nr { M0 with clock := by_ } S) : HRep φ T by_ A W np nr M0 S := by
  have e : (0 : Int) + by_ = by_ + 0 := Int.add_comm _ _
  refine ⟨?_, r.up, r.fal, r.row, r.nodes, r.ups, r.past, r.nrow, r.nd, r.sub, r.nw⟩
  show S.get A.h = some (houseO φ T A (0 + by_) false)
  rw [e]
  exact r.obj
end Mi
namespace Mi
open PySem PySem.Spec PyProof.Rows L2 Pg
/-! ### the law's tree -/
def φ0 (i : Nat) : Str := ⟨#[97 + i]⟩
theorem φ0_inj (i j : Nat) (h : φ0 i = φ0 j) : i = j := by
  have : (#[97 + i] : Array Nat) = #[97 + j] := congrArg Str.cps h
  have e : 97 + i = 97 + j := by simpa using this
  omega
theorem letter_at : ∀ k < 26, atI s8.cps.toList ((k : Nat) : Int) = some (97 + k) := by decide +kernel
theorem letter_in : ∀ k < 26, 97 + k ∈ s8.cps.toList := by decide +kernel
theorem letter_ix {k : Nat} (h : k < 26) (S : Sto) : gIx (.str s8) (.int k) S = some (.str (φ0 k)) := by
  show (match Nat.ble s8.length 16777216 with | true => (match atI s8.cps.toList (k : Int) with | some c => some (Va.str ⟨#[c]⟩) | none => none) | false => none) = _
  rw [letter_at k h]
  rfl
theorem draw29 {E : Nat} (d : Nat) {b n j : Nat} {m : Int} {f : EF} {env : Ev} {S : Sto} (hE : E = d + 1) (hx : env[j]? = some (some (.ref b))) (hf : f env S = .ok (.int m) S) (hb : Bag n b S) (hn : n < 1000000000000) (h0 : 0 < m) (h1 : m < 1073741824) :
    ∃ r S1, mCall (callF prog E) 29 (mCons (mVar j) (mCons f mNil)) [] env S = .ok (.int r) S1 ∧ 0 ≤ r ∧ r < m ∧ Bag (n + 1) b S1 ∧ Fr [b] S S1 := by
  subst hE
  obtain ⟨r, S1, h, q⟩ := take_ok (C := callF prog d) hb hn h0 h1
  refine ⟨r, S1, ?_, q⟩
  have : mVar j env S = .ok (.ref b) S := by unfold mVar; rw [hx]
  rw [call_ok' (cons_ok this (cons_ok hf rfl))]
  rw [callF_succ (df := ⟨2, 5, f29⟩) rfl rfl]
  exact h
theorem well28 {d : Nat} {c t : Int} {S : Sto} : callF prog (d + 1) 28 [.int c, .int t] S = .ok (.ref S.n) (S.new (.lst [.int (wellX c), .int (c % 2305843009213693951), .int t])) := by
  rw [callF_succ (df := ⟨2, 2, f28⟩) rfl rfl]
  exact well_ok (C := callF prog d)
theorem bags30 {d : Nat} {ns : List Int} {S : Sto} (hl : ns.length ≤ 63) :
    ∃ (L : Nat) (bs : List Nat) (S' : Sto), callF prog (d + 2) 30 [.fro (ns.map Va.int), .int (5 : Nat)] S = .ok (.ref L) S' ∧ S'.get L = some (.lst (bs.map Va.ref)) ∧ bs.length ≤ 64 ∧ bs.Nodup ∧ (∀ b ∈ bs, L < b ∧ b < S'.n ∧ Bag 61551 b S') ∧ Fr [] S S' ∧ S.n ≤ L := by
  rw [callF_succ (df := ⟨2, 4, f30⟩) rfl rfl]
  exact bags_ok (C := callF prog (d + 1)) (fun c t S => well28) hl (by decide)
theorem Nd.nmsL_app : ∀ (a b : List Nd), Nd.nmsL (a ++ b) = Nd.nmsL a ++ Nd.nmsL b
  | [], b => rfl
  | n :: r, b => by
    show n.nms ++ Nd.nmsL (r ++ b) = (n.nms ++ Nd.nmsL r) ++ Nd.nmsL b
    rw [Nd.nmsL_app r b, List.append_assoc]
theorem Nd.nmsL_one (c : Nd) : Nd.nmsL [c] = c.nms := by
  show c.nms ++ [] = _
  rw [List.append_nil]
theorem Nd.okL_of {φ : Nat → Str} : ∀ {ch : List Nd}, (∀ c ∈ ch, c.ok φ) → Nd.okL φ ch
  | [], _ => trivial
  | n :: r, h => ⟨h n List.mem_cons_self, Nd.okL_of fun c hc => h c (List.mem_cons_of_mem _ hc)⟩
theorem Nd.depL_of {d : Nat} : ∀ {ch : List Nd}, (∀ c ∈ ch, c.dep ≤ d) → Nd.depL ch ≤ d
  | [], _ => Nat.zero_le _
  | n :: r, h => by
    unfold Nd.depL
    exact Nat.max_le.mpr ⟨h n List.mem_cons_self, Nd.depL_of fun c hc => h c (List.mem_cons_of_mem _ hc)⟩
def nmsAll (x : Nd) : Prop := ∀ φ, (∀ i, i < 26 → NmOk (φ i)) → x.ok φ
/-- what a drawn node is, ahead of it k names -/
structure Drawn (d k n b Na : Nat) (x : Nd) (S S' : Sto) : Prop where
  dep : x.dep ≤ d
  ok : nmsAll x
  nms : x.nms = List.range' k x.nms.length
  pos : 1 ≤ x.nms.length
  len : k + x.nms.length ≤ max (k + 1) (15 + 2 * d)
  got : S'.get Na = some (.lst (txs φ0 (List.range (k + x.nms.length))))
  bag : Bag (n + 5 * x.nms.length) b S'
  fr : Fr [b, Na] S S'
def restK (C : CO) : SF :=
    (mSeq (mSet (tNm 4) (mIx (mLst (mCons (mC (.str s7)) (mCons (mC (.str s6)) (mCons (mC (.str s5)) mNil)))) (mCall C 29 (mCons (mVar 0) (mCons (mC (.int 3)) mNil)) [])))
    (mSeq (mSet (tNm 5) (mCall C 29 (mCons (mVar 0) (mCons (mC (.int 4)) mNil)) []))
    (mSeq (mSet (tNm 6) (mBin gAdd (mC (.int 1)) (mCall C 29 (mCons (mVar 0) (mCons (mC (.int 12)) mNil)) [])))
    (mSeq (mSet (tNm 7) (mLc (iRange1 (mCons (mBin gAdd (mC (.int 1)) (mCall C 29 (mCons (mVar 0) (mCons (mC (.int 3)) mNil)) [])) mNil)) (tNm 8) mYes (mCall C 31 (mCons (mVar 0) (mCons (mBin gSub (mVar 1) (mC (.int 1))) (mCons (mVar 2) mNil))) []) [8]))
    (mRet (mTup (mCons (mC (.str s1)) (mCons (mVar 3) (mCons (mVar 4) (mCons (mVar 5) (mCons (mVar 6) (mCons (mBi gTuple (mCons (mVar 7) mNil)) mNil))))))))))))
theorem mode_ix {r : Int} (h0 : 0 ≤ r) (h1 : r < 3) : atA [.str s7, .str s6, .str s5] r = some (.str (modeS r.toNat)) := by
  have : r = 0 ∨ r = 1 ∨ r = 2 := by omega
  rcases this with h | h | h <;> subst h <;> rfl
theorem kp31 {b Na : Nat} (hbN : b ≠ Na) {d D k n : Nat} {S : Sto}
    (ih : ∀ (k n : Nat) (S : Sto), k ≤ 22 → n + 1000 * d ≤ 200000 → Bag n b S → S.get Na = some (.lst (txs φ0 (List.range k))) → ∃ x S', callF prog (D + d + 2) 31 [.ref b, .int d, .ref Na] S = .ok (Nd.va φ0 x) S' ∧ Drawn d k n b Na x S S')
    (hk : k ≤ 13) (hd : d ≤ 3) (hn : n + 1000 * d + 200 ≤ 200000) (hb : Bag n b S) (g : S.get Na = some (.lst (txs φ0 (List.range (k + 1))))) :
    ∃ m a c ch S', restK (callF prog (D + d + 2)) [some (.ref b), some (.int ((d + 1 : Nat) : Int)), some (.ref Na), some (.str (φ0 k)), none, none, none, none, none] S = .ok (.rt ((Nd.kp k m a c ch).va φ0)) S' ∧ Drawn (d + 1) k (n - 1) b Na (.kp k m a c ch) S S' := by
  -- mode
  obtain ⟨S1, eS1⟩ : ∃ S1, S.new (.lst [.str s7, .str s6, .str s5]) = S1 := ⟨_, rfl⟩
  have F1 : Fr [] S S1 := eS1 ▸ Fr.new _ _ _
  have g1' := F1.at g (by simp)
  have m1 : S1.get S.n = some (.lst [.str s7, .str s6, .str s5]) := by rw [← eS1]; exact Sto.get_new
  have hb1 := hb.fr F1 (by simp)
  obtain ⟨r, S2, t2, r0, r1, hb2, F2⟩ := draw29 (E := D + d + 2) (D + d + 1) (j := 0) (f := mC (.int 3)) (env := [some (.ref b), some (.int ((d + 1 : Nat) : Int)), some (.ref Na), some (.str (φ0 k)), none, none, none, none, none]) rfl rfl rfl hb1 (by omega) (by decide) (by decide)
  have g2 := F2.at g1' (by simp; exact Ne.symm hbN)
  have bS := hb.lt
  have m2 := F2.at m1 (by simp; omega)
  have x4 : mIx (mLst (mCons (mC (.str s7)) (mCons (mC (.str s6)) (mCons (mC (.str s5)) mNil)))) (mCall (callF prog (D + d + 2)) 29 (mCons (mVar 0) (mCons (mC (.int 3)) mNil)) []) [some (.ref b), some (.int ((d + 1 : Nat) : Int)), some (.ref Na), some (.str (φ0 k)), none, none, none, none, none] S = .ok (.str (modeS r.toNat)) S2 := by
    refine ix_ok (x := .ref S.n) (S1 := S1) (by rw [← eS1]; rfl) t2 ?_
    show gIxO (S2.get S.n) (.int r) = _
    rw [m2]
    exact mode_ix r0 r1
  obtain ⟨a, S3, t3, a0, a1, hb3, F3⟩ := draw29 (E := D + d + 2) (D + d + 1) (j := 0) (f := mC (.int 4)) (env := [some (.ref b), some (.int ((d + 1 : Nat) : Int)), some (.ref Na), some (.str (φ0 k)), some (.str (modeS r.toNat)), none, none, none, none]) rfl rfl rfl hb2 (by omega) (by decide) (by decide)
  have g3 := F3.at g2 (by simp; exact Ne.symm hbN)
  obtain ⟨c, S4, t4, c0, c1, hb4, F4⟩ := draw29 (E := D + d + 2) (D + d + 1) (j := 0) (f := mC (.int 12)) (env := [some (.ref b), some (.int ((d + 1 : Nat) : Int)), some (.ref Na), some (.str (φ0 k)), some (.str (modeS r.toNat)), some (.int a), none, none, none]) rfl rfl rfl hb3 (by omega) (by decide) (by decide)
  have g4 := F4.at g3 (by simp; exact Ne.symm hbN)
  obtain ⟨q, S5, t5, q0, q1, hb5, F5⟩ := draw29 (E := D + d + 2) (D + d + 1) (j := 0) (f := mC (.int 3)) (env := [some (.ref b), some (.int ((d + 1 : Nat) : Int)), some (.ref Na), some (.str (φ0 k)), some (.str (modeS r.toNat)), some (.int a), some (.int (1 + c)), none, none]) rfl rfl rfl hb4 (by omega) (by decide) (by decide)
  have g5 := F5.at g4 (by simp; exact Ne.symm hbN)
  obtain ⟨N, eN⟩ : ∃ N, (1 + q).toNat = N := ⟨_, rfl⟩
  have hN : 1 ≤ N ∧ N ≤ 3 := by omega
  have Fb : Fr [b, Na] S S5 := (F1.mono (fun _ z => nomatch z)).trans ((F2.mono (by simp)).trans ((F3.mono (by simp)).trans ((F4.mono (by simp)).trans (F5.mono (by simp)))))
  have ok5 : okR (1 + q) = true := by
    have : q = 0 ∨ q = 1 ∨ q = 2 := by omega
    rcases this with h | h | h <;> subst h <;> decide
  have ei : iRange1 (mCons (mBin gAdd (mC (.int 1)) (mCall (callF prog (D + d + 2)) 29 (mCons (mVar 0) (mCons (mC (.int 3)) mNil)) [])) mNil) [some (.ref b), some (.int ((d + 1 : Nat) : Int)), some (.ref Na), some (.str (φ0 k)), some (.str (modeS r.toNat)), some (.int a), some (.int (1 + c)), none, none] S4 = .ok (miN 0 N) S5 := by
    have e : mBin gAdd (mC (.int 1)) (mCall (callF prog (D + d + 2)) 29 (mCons (mVar 0) (mCons (mC (.int 3)) mNil)) []) [some (.ref b), some (.int ((d + 1 : Nat) : Int)), some (.ref Na), some (.str (φ0 k)), some (.str (modeS r.toNat)), some (.int a), some (.int (1 + c)), none, none] S4 = .ok (.int (1 + q)) S5 := by
      rw [bin_ok rfl t5] <;> rfl
    unfold iRange1
    rw [cons_ok e rfl, bind_ok]
    try dsimp only
    rw [ok5]
    try dsimp only
    rw [eN]
  have lc := lc_inv (m := miN 0 N) (t := tNm 8) (cond := mYes) (elt := mCall (callF prog (D + d + 2)) 31 (mCons (mVar 0) (mCons (mBin gSub (mVar 1) (mC (.int 1))) (mCons (mVar 2) mNil))) []) (D := S5.n)
    (env := [some (.ref b), some (.int ((d + 1 : Nat) : Int)), some (.ref Na), some (.str (φ0 k)), some (.str (modeS r.toNat)), some (.int a), some (.int (1 + c)), none, none]) (n := N)
    (fun i acc S' => ∃ ch : List Nd, ch.length = i ∧ acc = ch.map (Nd.va φ0) ∧ (∀ x ∈ ch, x.dep ≤ d ∧ nmsAll x) ∧ Nd.nmsL ch = List.range' (k + 1) (Nd.nmsL ch).length ∧ k + 1 + (Nd.nmsL ch).length ≤ 14 + i + 2 * d ∧ S'.get Na = some (.lst (txs φ0 (List.range (k + 1 + (Nd.nmsL ch).length)))) ∧ Bag (n + 4 + 5 * (Nd.nmsL ch).length) b S' ∧ S'.get S5.n = some (.lst acc) ∧ Fr [b, Na] S5 S')
    (fun i acc S' ⟨ch, h1, h2, _, _, _, _, _, h8, _⟩ => ⟨h8, by rw [h2, List.length_map]; omega⟩) (by omega)
    (fun i acc S' hi ⟨ch, h1, h2, h3, h4, h5, h6, h7, h8, h9⟩ => by
      obtain ⟨x, S6, e6, dr⟩ := ih (k + 1 + (Nd.nmsL ch).length) (n + 4 + 5 * (Nd.nmsL ch).length) S' (by omega) (by omega) h7 h6
      refine ⟨.int (0 + i), [some (.ref b), some (.int ((d + 1 : Nat) : Int)), some (.ref Na), some (.str (φ0 k)), some (.str (modeS r.toNat)), some (.int a), some (.int (1 + c)), none, some (.int (0 + i))], ?_, rfl, .inr ⟨S', x.va φ0, S6, rfl, ?_, ?_, ?_⟩⟩
      · show (match Nat.blt i N with | true => some (some (Va.int (0 + i))) | false => some none) = _
        rw [bltT hi]
      · have e : mBin gSub (mVar 1) (mC (.int 1)) [some (.ref b), some (.int ((d + 1 : Nat) : Int)), some (.ref Na), some (.str (φ0 k)), some (.str (modeS r.toNat)), some (.int a), some (.int (1 + c)), none, some (.int (0 + i))] S' = .ok (.int d) S' := by
          show R.ok (Va.int (((d + 1 : Nat) : Int) - 1)) S' = _
          rw [show ((d + 1 : Nat) : Int) - 1 = d by omega]
        rw [call_ok' (cons_ok rfl (cons_ok e (cons_ok rfl rfl)))]
        exact e6
      · refine dr.fr.at h8 ?_
        have := Sto.lt g5
        have := hb5.lt
        simp
        omega
      · have hl : (Nd.nmsL (ch ++ [x])).length = (Nd.nmsL ch).length + x.nms.length := by rw [Nd.nmsL_app, Nd.nmsL_one, List.length_append]
        have l5 := Sto.lt g5
        have b5 := hb5.lt
        have d5 := dr.len
        refine ⟨ch ++ [x], by rw [List.length_append, h1] <;> rfl, by rw [h2, List.map_append] <;> rfl, ?_, ?_, ?_, ?_, ?_, Sto.get_set (Nat.lt_of_lt_of_le (Sto.lt h8) dr.fr.le), ?_⟩
        · intro y hy
          rcases List.mem_append.mp hy with hy | hy
          · exact h3 y hy
          · rw [List.mem_singleton.mp hy]
            exact ⟨dr.dep, dr.ok⟩
        · rw [hl, Nd.nmsL_app, Nd.nmsL_one]
          have e1 := dr.nms
          rw [e1, h4]
          simp only [List.length_range']
          rw [List.range'_append_1]
        · rw [hl]; omega
        · rw [Sto.get_set_ne (by omega), hl, ← Nat.add_assoc]
          exact dr.got
        · rw [hl]
          refine (dr.bag.fr (Fr.set S6 _) (by simp; omega)).mono (by omega)
        · exact (((h9.trans dr.fr).mono (cs := [b, Na, S5.n]) (by intro z hz; simp at hz ⊢; omega)).trans ((Fr.set S6 _).mono (cs := [b, Na, S5.n]) (by intro z hz; simp at hz ⊢; omega))).old (fun z hz hzl => by simp at hz ⊢; omega))
    (fun acc S' _ => by
      show (match Nat.blt N N with | true => some (some (Va.int (0 + N))) | false => some none) = _
      rw [bltF (Nat.lt_irrefl N)])
    N 0 (N + 1) [] (S5.new (.lst [])) (by omega) (Nat.lt_succ_self _) ⟨[], rfl, rfl, fun x hx => absurd hx (List.not_mem_nil), rfl, show k + 1 + 0 ≤ 14 + 0 + 2 * d by omega, show (S5.new (.lst [])).get Na = some (.lst (txs φ0 (List.range (k + 1 + 0)))) from Sto.get_new_of g5, show Bag (n + 4 + 5 * 0) b (S5.new (.lst [])) from (hb5.fr (Fr.new [] S5 _) (by simp)).mono (by omega), Sto.get_new, Fr.new _ S5 _⟩
  obtain ⟨acc, S7, e7, ch, h1, h2, h3, h4, h5, h6, h7, h8, h9⟩ := lc
  have hl : (Nd.kp k r.toNat a (1 + c) ch).nms.length = (Nd.nmsL ch).length + 1 := rfl
  refine ⟨r.toNat, a, 1 + c, ch, S7, ?_, ⟨?_, ?_, ?_, ?_, ?_, ?_, ?_, Fb.trans h9⟩⟩
  · unfold restK
    rw [seq_nx (e1 := [some (.ref b), some (.int ((d + 1 : Nat) : Int)), some (.ref Na), some (.str (φ0 k)), some (.str (modeS r.toNat)), none, none, none, none]) (S1 := S2) (set_ok x4 rfl)]
    rw [seq_nx (e1 := [some (.ref b), some (.int ((d + 1 : Nat) : Int)), some (.ref Na), some (.str (φ0 k)), some (.str (modeS r.toNat)), some (.int a), none, none, none]) (S1 := S3) (set_ok t3 rfl)]
    rw [seq_nx (e1 := [some (.ref b), some (.int ((d + 1 : Nat) : Int)), some (.ref Na), some (.str (φ0 k)), some (.str (modeS r.toNat)), some (.int a), some (.int (1 + c)), none, none]) (S1 := S4) (set_ok (v := .int (1 + c)) (by rw [bin_ok rfl t4] <;> rfl) rfl)]
    have e8 : mLc (iRange1 (mCons (mBin gAdd (mC (.int 1)) (mCall (callF prog (D + d + 2)) 29 (mCons (mVar 0) (mCons (mC (.int 3)) mNil)) [])) mNil)) (tNm 8) mYes (mCall (callF prog (D + d + 2)) 31 (mCons (mVar 0) (mCons (mBin gSub (mVar 1) (mC (.int 1))) (mCons (mVar 2) mNil))) []) [8] [some (.ref b), some (.int ((d + 1 : Nat) : Int)), some (.ref Na), some (.str (φ0 k)), some (.str (modeS r.toNat)), some (.int a), some (.int (1 + c)), none, none] S4 = .ok (.ref S5.n) S7 := by
      unfold mLc
      rw [ei, bind_ok]
      exact e7
    rw [seq_nx (e1 := [some (.ref b), some (.int ((d + 1 : Nat) : Int)), some (.ref Na), some (.str (φ0 k)), some (.str (modeS r.toNat)), some (.int a), some (.int (1 + c)), some (.ref S5.n), none]) (S1 := S7) (set_ok e8 rfl)]
    have e9 : mBi gTuple (mCons (mVar 7) mNil) [some (.ref b), some (.int ((d + 1 : Nat) : Int)), some (.ref Na), some (.str (φ0 k)), some (.str (modeS r.toNat)), some (.int a), some (.int (1 + c)), some (.ref S5.n), none] S7 = .ok (.tup (ch.map (Nd.va φ0))) S7 := by
      rw [bi_ok (cons_ok rfl rfl)]
      unfold gTuple g1 seqOf
      try dsimp only
      rw [h8]
      try dsimp only
      rw [h2]
    rw [ret_ok (v := (Nd.kp k r.toNat a (1 + c) ch).va φ0) (S1 := S7) (by
      unfold mTup
      rw [cons_ok rfl (cons_ok rfl (cons_ok rfl (cons_ok rfl (cons_ok rfl (cons_ok e9 rfl))))), bind_ok, kp_va] <;> rfl)]
  · exact Nat.succ_le_succ (Nd.depL_of fun x hx => (h3 x hx).1)
  · intro φ hφ
    exact ⟨hφ k (by omega), a0, by omega, by omega, by omega, by omega, by omega, Nd.okL_of fun x hx => (h3 x hx).2 φ hφ⟩
  · rw [hl, List.range'_succ]
    show k :: Nd.nmsL ch = _
    rw [← h4]
  · rw [hl]; omega
  · rw [hl]; omega
  · rw [hl, show k + ((Nd.nmsL ch).length + 1) = k + 1 + (Nd.nmsL ch).length by omega]
    exact h6
  · rw [hl]
    exact h7.mono (by omega)
end Mi
namespace Mi
open PySem PySem.Spec PyProof.Rows L2 Pg
def condK (C : CO) : BF := (mOrB (mBool (mBin gEq (mVar 1) (mC (.int 0)))) (mOrB (mBool (mBin gGt (mBi gLen (mCons (mVar 2) mNil)) (mC (.int 14)))) (mAndB (mBool (mBin gGt (mBi gLen (mCons (mVar 2) mNil)) (mC (.int 1)))) (mBool (mBin gGt (mCall C 29 (mCons (mVar 0) (mCons (mC (.int 3)) mNil)) []) (mC (.int 0)))))))
theorem f31_eq (C : CO) : f31 C = (mSeq (mSet (tNm 3) (mIx (mC (.str s8)) (mBi gLen (mCons (mVar 2) mNil))))
    (mSeq (mExpr (mBm .list gAppend (mVar 2) (mCons (mVar 3) mNil)))
    (mSeq (mIfS (condK C) (mRet (mTup (mCons (mC (.str s4)) (mCons (mVar 3) mNil)))) mEnd) (restK C)))) := rfl
theorem node31 {b Na : Nat} (hbN : b ≠ Na) : ∀ (d : Nat) (D k n : Nat) (S : Sto), d ≤ 4 → k ≤ 22 → n + 1000 * d ≤ 200000 → Bag n b S → S.get Na = some (.lst (txs φ0 (List.range k))) →
    ∃ x S', callF prog (D + d + 2) 31 [.ref b, .int d, .ref Na] S = .ok (Nd.va φ0 x) S' ∧ Drawn d k n b Na x S S' ∧ (k = 0 → 0 < d → ∃ s m a c ch, x = .kp s m a c ch) := by
  -- the first two steps, then a worker
  have wkr : ∀ (d : Nat) (k n : Nat) (S1 S2 : Sto), k ≤ 22 → S1.get Na = some (.lst (txs φ0 (List.range (k + 1)))) → Bag (n + 1) b S2 → Fr [b] S1 S2 → ∀ (S : Sto), Fr [b, Na] S S1 → Drawn d k n b Na (.wk k) S S2 := by
    intro d k n S1 S2 hk g1' hb F2 S F1
    have hl : (Nd.wk k).nms.length = 1 := rfl
    exact ⟨Nat.zero_le _, fun φ hφ => hφ k (by omega), by rw [hl]; rfl, Nat.le_refl _, by rw [hl]; omega, by rw [hl]; exact F2.at g1' (by simp; exact Ne.symm hbN), hb.mono (by rw [hl]; omega), F1.trans (F2.mono (by simp))⟩
  intro d
  induction d with
  | zero =>
    intro D k n S hd hk hn hb g
    rw [callF_succ (df := ⟨3, 9, f31⟩) rfl rfl]
    show ∃ x S', runB (f31 (callF prog (D + 0 + 1)) [some (.ref b), some (.int 0), some (.ref Na), none, none, none, none, none, none] S) = _ ∧ _
    rw [f31_eq]
    obtain ⟨S1, eS1⟩ : ∃ S1, S.set Na (.lst (txs φ0 (List.range k) ++ [.str (φ0 k)])) = S1 := ⟨_, rfl⟩
    have F1 : Fr [Na] S S1 := eS1 ▸ Fr.set _ _
    have g1' : S1.get Na = some (.lst (txs φ0 (List.range (k + 1)))) := by
      rw [← eS1, Sto.get_set (Sto.lt g), List.range_succ, txs_app] <;> rfl
    have ln : mBi gLen (mCons (mVar 2) mNil) [some (.ref b), some (.int 0), some (.ref Na), none, none, none, none, none, none] S = .ok (.int k) S := by
      rw [bi_ok (cons_ok rfl rfl)]
      unfold gLen g1 seqOf
      try dsimp only
      rw [g]
      try dsimp only
      rw [List.length_map, List.length_range]
    refine ⟨.wk k, S1, ?_, wkr 0 k n S1 S1 hk g1' ((hb.fr F1 (by simpa using hbN)).mono (by omega)) (Fr.refl _ _) S (F1.mono (by simp)), fun _ h => absurd h (Nat.lt_irrefl _)⟩
    rw [seq_nx (e1 := [some (.ref b), some (.int 0), some (.ref Na), some (.str (φ0 k)), none, none, none, none, none]) (S1 := S) (set_ok (v := .str (φ0 k)) (ix_ok rfl ln (letter_ix (by omega) S)) rfl)]
    rw [seq_nx (exp_ok (v := .non) (S1 := S1) (by
      rw [bm_ok rfl (kn_L g) rfl, ← eS1]
      exact append_ok g (by rw [List.length_map, List.length_range]; omega)))]
    rw [seq_rt (v := (Nd.wk k).va φ0) (S1 := S1) (by
      rw [ifs_t (S1 := S1) (by unfold condK; exact or_t rfl)]
      rfl)]
    rfl
  | succ d ih =>
    intro D k n S hd hk hn hb g
    rw [show D + (d + 1) + 2 = (D + d + 2) + 1 by omega, callF_succ (df := ⟨3, 9, f31⟩) rfl rfl]
    show ∃ x S', runB (f31 (callF prog (D + d + 2)) [some (.ref b), some (.int ((d + 1 : Nat) : Int)), some (.ref Na), none, none, none, none, none, none] S) = _ ∧ _
    rw [f31_eq]
    obtain ⟨S1, eS1⟩ : ∃ S1, S.set Na (.lst (txs φ0 (List.range k) ++ [.str (φ0 k)])) = S1 := ⟨_, rfl⟩
    have F1 : Fr [Na] S S1 := eS1 ▸ Fr.set _ _
    have g1' : S1.get Na = some (.lst (txs φ0 (List.range (k + 1)))) := by
      rw [← eS1, Sto.get_set (Sto.lt g), List.range_succ, txs_app] <;> rfl
    have hb1 := hb.fr F1 (by simpa using hbN)
    have ln : mBi gLen (mCons (mVar 2) mNil) [some (.ref b), some (.int ((d + 1 : Nat) : Int)), some (.ref Na), none, none, none, none, none, none] S = .ok (.int k) S := by
      rw [bi_ok (cons_ok rfl rfl)]
      unfold gLen g1 seqOf
      try dsimp only
      rw [g]
      try dsimp only
      rw [List.length_map, List.length_range]
    rw [seq_nx (e1 := [some (.ref b), some (.int ((d + 1 : Nat) : Int)), some (.ref Na), some (.str (φ0 k)), none, none, none, none, none]) (S1 := S) (set_ok (v := .str (φ0 k)) (ix_ok rfl ln (letter_ix (by omega) S)) rfl)]
    rw [seq_nx (exp_ok (v := .non) (S1 := S1) (by
      rw [bm_ok rfl (kn_L g) rfl, ← eS1]
      exact append_ok g (by rw [List.length_map, List.length_range]; omega)))]
    obtain ⟨E, eE⟩ : ∃ E, [some (Va.ref b), some (.int ((d + 1 : Nat) : Int)), some (.ref Na), some (.str (φ0 k)), none, none, none, none, none] = E := ⟨_, rfl⟩
    simp only [eE]
    have ln1 : mBi gLen (mCons (mVar 2) mNil) E S1 = .ok (.int ((k + 1 : Nat) : Int)) S1 := by
      rw [← eE, bi_ok (cons_ok rfl rfl)]
      unfold gLen g1 seqOf
      try dsimp only
      rw [g1']
      try dsimp only
      rw [List.length_map, List.length_range]
    have c0 : mBool (mBin gEq (mVar 1) (mC (.int 0))) E S1 = .ok false S1 := by
      rw [← eE]
      refine bool_ok ?_
      rw [bin_ok rfl rfl]
      show R.ok (Va.bl (decide (((d + 1 : Nat) : Int) = 0))) S1 = _
      rw [decide_eq_false (by omega)]
    have c1 : mBool (mBin gGt (mBi gLen (mCons (mVar 2) mNil)) (mC (.int 14))) E S1 = .ok (decide (14 < ((k + 1 : Nat) : Int))) S1 := bool_ok (by rw [bin_ok ln1 rfl]; rfl)
    have c2 : mBool (mBin gGt (mBi gLen (mCons (mVar 2) mNil)) (mC (.int 1))) E S1 = .ok (decide (1 < ((k + 1 : Nat) : Int))) S1 := bool_ok (by rw [bin_ok ln1 rfl]; rfl)
    have wret : ∀ S2, (mRet (mTup (mCons (mC (.str s4)) (mCons (mVar 3) mNil)))) E S2 = .ok (.rt ((Nd.wk k).va φ0)) S2 := fun S2 => by
      rw [← eE, wk_va]
      rfl
    by_cases q1 : 14 < ((k + 1 : Nat) : Int)
    · rw [decide_eq_true q1] at c1
      refine ⟨.wk k, S1, ?_, wkr (d + 1) k n S1 S1 hk g1' (hb1.mono (by omega)) (Fr.refl _ _) S (F1.mono (by simp)), fun h => by omega⟩
      rw [seq_rt (v := (Nd.wk k).va φ0) (S1 := S1) (by
        rw [ifs_t (S1 := S1) (by unfold condK; rw [or_f c0]; exact or_t c1)]
        exact wret S1)]
      rfl
    · rw [decide_eq_false q1] at c1
      have ihK := fun (k n : Nat) (S : Sto) (h1 : k ≤ 22) (h2 : n + 1000 * d ≤ 200000) (h3 : Bag n b S) (h4 : S.get Na = some (.lst (txs φ0 (List.range k)))) => (ih D k n S (by omega) h1 h2 h3 h4)
      by_cases q2 : 1 < ((k + 1 : Nat) : Int)
      · rw [decide_eq_true q2] at c2
        obtain ⟨r, S2, t2, r0, r1, hb2, F2⟩ := draw29 (E := D + d + 2) (D + d + 1) (j := 0) (f := mC (.int 3)) (env := E) (S := S1) rfl (by rw [← eE] <;> rfl) rfl hb1 (by omega) (by decide) (by decide)
        have c3 : mBool (mBin gGt (mCall (callF prog (D + d + 2)) 29 (mCons (mVar 0) (mCons (mC (.int 3)) mNil)) []) (mC (.int 0))) E S1 = .ok (decide (0 < r)) S2 := bool_ok (by rw [bin_ok t2 rfl]; rfl)
        by_cases q3 : 0 < r
        · rw [decide_eq_true q3] at c3
          refine ⟨.wk k, S2, ?_, wkr (d + 1) k n S1 S2 hk g1' hb2 F2 S (F1.mono (by simp)), fun h => by omega⟩
          rw [seq_rt (v := (Nd.wk k).va φ0) (S1 := S2) (by
            rw [ifs_t (S1 := S2) (by unfold condK; rw [or_f c0, or_f c1, and_t c2]; exact c3)]
            exact wret S2)]
          rfl
        · rw [decide_eq_false q3] at c3
          rw [seq_nx (e1 := E) (S1 := S2) (by
            rw [ifs_f (S1 := S2) (by unfold condK; rw [or_f c0, or_f c1, and_t c2]; exact c3)]
            rfl)]
          have g2 := F2.at g1' (by simp; exact Ne.symm hbN)
          obtain ⟨m, a, c, ch, S3, e3, dr⟩ := kp31 (D := D) (d := d) (k := k) (n := n + 1) hbN (fun k n S h1 h2 h3 h4 => by obtain ⟨x, S', e1, e2, _⟩ := ihK k n S h1 h2 h3 h4; exact ⟨x, S', e1, e2⟩) (by omega) (by omega) (by omega) hb2 g2
          refine ⟨_, S3, ?_, ⟨dr.dep, dr.ok, dr.nms, dr.pos, dr.len, dr.got, dr.bag, (F1.mono (by simp)).trans ((F2.mono (by simp)).trans dr.fr)⟩, fun h => by omega⟩
          rw [← eE, e3]
          rfl
      · rw [decide_eq_false q2] at c2
        rw [seq_nx (e1 := E) (S1 := S1) (by
          rw [ifs_f (S1 := S1) (by unfold condK; rw [or_f c0, or_f c1]; exact and_f c2)]
          rfl)]
        obtain ⟨m, a, c, ch, S3, e3, dr⟩ := kp31 (D := D) (d := d) (k := k) (n := n + 1) hbN (fun k n S h1 h2 h3 h4 => by obtain ⟨x, S', e1, e2, _⟩ := ihK k n S h1 h2 h3 h4; exact ⟨x, S', e1, e2⟩) (by omega) (by omega) (by omega) (hb1.mono (by omega)) g1'
        refine ⟨_, S3, ?_, ⟨dr.dep, dr.ok, dr.nms, dr.pos, dr.len, dr.got, dr.bag, (F1.mono (by simp)).trans dr.fr⟩, fun _ _ => ⟨_, _, _, _, _, rfl⟩⟩
        rw [← eE, e3]
        rfl
def φ1 (i : Nat) : Str := s0 ++ φ0 i
theorem φ1_cps (i : Nat) : (φ1 i).cps = #[120, 97 + i] := rfl
theorem φ1_inj (i j : Nat) (h : φ1 i = φ1 j) : i = j := by
  have : (#[120, 97 + i] : Array Nat) = #[120, 97 + j] := congrArg Str.cps h
  have e : 97 + i = 97 + j := by simpa using this
  omega
theorem nm0 (i : Nat) (h : i < 26) : NmOk (φ0 i) := by
  refine ⟨Nat.le_refl 1, show 1 ≤ 8 by omega, fun c hc => ?_⟩
  have : c ∈ [97 + i] := hc
  rw [List.mem_singleton.mp this]
  exact letter_in i h
theorem nm1 (i : Nat) (h : i < 26) : NmOk (φ1 i) := by
  refine ⟨show 1 ≤ 2 by omega, show 2 ≤ 8 by omega, fun c hc => ?_⟩
  have : c ∈ [120, 97 + i] := hc
  rcases List.mem_cons.mp this with e | e
  · rw [e]; exact letter_in 23 (by omega)
  · rw [List.mem_singleton.mp e]; exact letter_in i h
/-- the law's tree, under both namings -/
theorem tree31 {b Na D n : Nat} {S : Sto} (hbN : b ≠ Na) (hn : n ≤ 100000) (hb : Bag n b S) (g : S.get Na = some (.lst [])) :
    ∃ T S', callF prog (D + 6) 31 [.ref b, .int 4, .ref Na] S = .ok (Nd.va φ0 T) S' ∧ Tree φ0 T ∧ Tree φ1 T ∧ (∀ i ∈ T.nms, i < 26) ∧ Bag (n + 500) b S' ∧ Fr [b, Na] S S' := by
  obtain ⟨T, S', e, dr, tp⟩ := node31 hbN 4 D 0 n S (Nat.le_refl _) (by omega) (by omega) hb g
  have hl := dr.len
  have top := tp rfl (by omega)
  have nd : T.nms.Nodup := by rw [dr.nms]; exact List.nodup_range'
  exact ⟨T, S', e, ⟨top, dr.dep, dr.ok φ0 nm0, nd, by omega⟩, ⟨top, dr.dep, dr.ok φ1 nm1, nd, by omega⟩, fun i hi => by rw [dr.nms] at hi; have := List.mem_range'_1.mp hi; omega, dr.bag.mono (by omega), dr.fr⟩
end Mi
namespace Mi
open PySem PySem.Spec PyProof.Rows L2 Pg
/-! ### equal data -/
theorem veq_same {S : Sto} {x y : Va} {d : PyData} (hs : sEq x y = none) (h1 : toD 66 S x = some d) (h2 : toD 66 S y = some d) (hd : SeqAt.shaped d = true) : veq S x y = some true := by
  unfold veq
  rw [hs, h1, h2]
  try dsimp only
  rw [hd]
  try dsimp only
  show some (PyData.eqv d d) = _
  have : d.plain = true := PyData.plain_of_canLay0 d (SeqAt.canLay_of_shaped hd)
  rw [SeqAt.eqv_refl_plain d this]
theorem toD_L {S : Sto} {n : Nat} {xs : List Va} {ds : List PyData} (h : S.get n = some (.lst xs)) (hm : mapO (toD 65 S) xs = some ds) : toD 66 S (.ref n) = some (.list ds) := by
  show (match S.get n with | some (.lst xs) => (match mapO (toD 65 S) xs with | some ds => some (PyData.list ds) | none => none) | _ => none) = _
  rw [h]
  try dsimp only
  rw [hm]
theorem mapO_map {α β γ : Type} {f : β → Option γ} {g : α → β} {k : α → γ} : ∀ {l : List α}, (∀ a ∈ l, f (g a) = some (k a)) → mapO f (l.map g) = some (l.map k)
  | [], _ => rfl
  | a :: r, h => by
    rw [List.map_cons, mapO, h a List.mem_cons_self, mapO_map fun b hb => h b (List.mem_cons_of_mem _ hb)] <;> rfl
theorem canLay_map {α : Type} {k : α → PyData} : ∀ {l : List α}, (∀ a ∈ l, (k a).canLay0 = true) → PyData.canLayAll0 (l.map k) = true
  | [], _ => rfl
  | a :: r, h => by
    rw [List.map_cons, PyData.canLayAll0, h a List.mem_cons_self, canLay_map fun b hb => h b (List.mem_cons_of_mem _ hb)] <;> rfl
theorem depth_map {α : Type} {k : α → PyData} {n : Nat} : ∀ {l : List α}, (∀ a ∈ l, (k a).depth ≤ n) → PyData.depthAll (l.map k) ≤ n
  | [], _ => Nat.zero_le _
  | a :: r, h => by
    rw [List.map_cons, PyData.depthAll]
    exact Nat.max_le.mpr ⟨h a List.mem_cons_self, depth_map fun b hb => h b (List.mem_cons_of_mem _ hb)⟩
theorem shaped_L {α : Type} {k : α → PyData} {l : List α} (h : ∀ a ∈ l, (k a).canLay0 = true ∧ (k a).depth ≤ 3) : SeqAt.shaped (.list (l.map k)) = true := by
  unfold SeqAt.shaped
  rw [PyData.canLay0, canLay_map fun a ha => (h a ha).1, Bool.true_and]
  refine decide_eq_true ?_
  rw [PyData.depth]
  have := depth_map (n := 3) fun a ha => (h a ha).2
  omega
/-! ### texts -/
theorem ok0 {φ : Nat → Str} {i : Nat} (h : NmOk (φ i)) : PyData.strOk (φ i) = true := by
  unfold PyData.strOk
  rw [← Array.all_toList, List.all_eq_true]
  intro c hc
  have h2 := h.2.2 c hc
  have : ∀ c ∈ s8.cps.toList, decide (c < 0x110000) = true := by decide +kernel
  exact this c h2
def tD (φ : Nat → Str) (i : Nat) : PyData := .str (φ i)
theorem txs_D {φ : Nat → Str} {S : Sto} (l : List Nat) : mapO (toD 65 S) (txs φ l) = some (l.map (tD φ)) := mapO_map fun _ _ => rfl
theorem eq_txs {φ : Nat → Str} {S : Sto} {a b : Nat} {l : List Nat} (h : ∀ i ∈ l, NmOk (φ i)) (ha : S.get a = some (.lst (txs φ l))) (hb : S.get b = some (.lst (txs φ l))) : veq S (.ref a) (.ref b) = some true :=
  veq_same rfl (toD_L ha (txs_D l)) (toD_L hb (txs_D l)) (shaped_L fun i hi => ⟨ok0 (h i hi), Nat.zero_le _⟩)
theorem eq_none {φ : Nat → Str} {S : Sto} {a b : Nat} {l : List Nat} (h : ∀ i ∈ l, NmOk (φ i)) (ha : S.get a = some (.lst (txs φ l))) (hb : S.get b = some (.lst [])) : veq S (.ref a) (.ref b) = some l.isEmpty := by
  unfold veq
  have e1 := toD_L ha (txs_D l)
  have e2 : toD 66 S (.ref b) = some (.list []) := toD_L hb rfl
  rw [e1, e2]
  show (match SeqAt.shaped (.list (l.map (tD φ))) && SeqAt.shaped (.list []) with | true => some (PyData.eqv (.list (l.map (tD φ))) (.list [])) | false => none) = _
  rw [shaped_L (k := tD φ) fun i hi => ⟨ok0 (h i hi), Nat.zero_le _⟩]
  cases l <;> rfl
def rD (φ : Nat → Str) (off : Int) (r : Int × Str × Nat) : PyData := .tuple [.int (r.1 + off), .str r.2.1, .str (φ r.2.2)]
theorem rows_D {φ : Nat → Str} {off : Int} {S : Sto} (l : List (Int × Str × Nat)) : mapO (toD 65 S) (l.map (rowV φ off)) = some (l.map (rD φ off)) := mapO_map fun _ _ => rfl
theorem rD_ok {φ : Nat → Str} {off : Int} {r : Int × Str × Nat} (h1 : PyData.strOk r.2.1 = true) (h2 : NmOk (φ r.2.2)) : (rD φ off r).canLay0 = true ∧ (rD φ off r).depth ≤ 3 := by
  refine ⟨?_, ?_⟩
  · simp [rD, PyData.canLay0, PyData.canLayAll0, h1, ok0 h2]
  · simp [rD, PyData.depth, PyData.depthAll]
theorem eq_rows {φ : Nat → Str} {off : Int} {S : Sto} {a b : Nat} {l : List (Int × Str × Nat)} (h : ∀ r ∈ l, PyData.strOk r.2.1 = true ∧ NmOk (φ r.2.2)) (ha : S.get a = some (.lst (l.map (rowV φ off)))) (hb : S.get b = some (.lst (l.map (rowV φ off)))) : veq S (.ref a) (.ref b) = some true :=
  veq_same rfl (toD_L ha (rows_D l)) (toD_L hb (rows_D l)) (shaped_L fun r hr => rD_ok (h r hr).1 (h r hr).2)
/-! ### what deeds keep -/
structure MdOk (T : Nd) (k : Nat) (m : M) : Prop where
  fal : ∀ j, (m.fallen j).length ≤ k
  down : m.down = true → ∀ w ∈ T.wks, m.up w = false
  rows : ∀ r ∈ m.rows, PyData.strOk r.2.1 = true ∧ r.2.2 ∈ T.nms
/-- rows told further -/
def More (ns : List Nat) (m m' : M) : Prop := m'.down = m.down ∧ ∀ r ∈ m'.rows, r ∈ m.rows ∨ (PyData.strOk r.2.1 = true ∧ r.2.2 ∈ ns)
theorem More.refl (ns : List Nat) (m : M) : More ns m m := ⟨rfl, fun r h => .inl h⟩
theorem More.trans {ns : List Nat} {a b c : M} (h1 : More ns a b) (h2 : More ns b c) : More ns a c := ⟨h2.1.trans h1.1, fun r h => by
  rcases h2.2 r h with q | q
  · exact h1.2 r q
  · exact .inr q⟩
theorem More.row {ns : List Nat} {m m' : M} {t : Int} {s : Str} {i : Nat} (h1 : m'.down = m.down) (h2 : m'.rows = m.rows ++ [(t, s, i)]) (h3 : PyData.strOk s = true) (h4 : i ∈ ns) : More ns m m' := ⟨h1, fun r h => by
  rw [h2] at h
  rcases List.mem_append.mp h with q | q
  · exact .inl q
  · rw [List.mem_singleton.mp q]
    exact .inr ⟨h3, h4⟩⟩
theorem More.fold {ns : List Nat} {α : Type} {f : M → α → M} {P : α → Prop} (hf : ∀ m a, P a → More ns m (f m a)) : ∀ (l : List α) (m : M), (∀ a ∈ l, P a) → More ns m (l.foldl f m)
  | [], m, _ => More.refl ns m
  | a :: r, m, h => (hf m a (h a List.mem_cons_self)).trans (More.fold hf r (f m a) fun b hb => h b (List.mem_cons_of_mem _ hb))
theorem stopW_more {ns : List Nat} (m : M) (w : Nat) (h : w ∈ ns) : More ns m (stopW m w) := by
  unfold stopW
  split
  · exact More.row rfl rfl (by decide +kernel) h
  · exact More.refl ns m
theorem stopN_more {ns : List Nat} (m : M) (n : Nd) (h : ∀ w ∈ n.wks, w ∈ ns) : More ns m (stopN m n) := More.fold (P := fun w => w ∈ ns) (fun m w h => stopW_more m w h) _ m fun w hw => h w (List.mem_reverse.mp hw)
theorem stopAll_more {ns : List Nat} (m : M) (l : List Nd) (h : ∀ n ∈ l, ∀ w ∈ n.wks, w ∈ ns) : More ns m (stopAll m l) := More.fold (P := fun n => ∀ w ∈ Nd.wks n, w ∈ ns) (fun m n h => stopN_more m n h) _ m fun n hn => h n (List.mem_reverse.mp hn)
theorem startN_more {ns : List Nat} (m : M) (n : Nd) (h : ∀ w ∈ n.wks, w ∈ ns) : More ns m (startN m n) :=
  (More.fold (f := clr) (P := fun _ => True) (fun m i _ => ⟨rfl, fun r h => .inl h⟩) n.nms m fun _ _ => trivial).trans (More.fold (f := startW) (P := fun w => w ∈ ns) (fun m w h => More.row rfl rfl (by decide +kernel) h) n.wks _ h)
theorem startAll_more {ns : List Nat} (m : M) (l : List Nd) (h : ∀ n ∈ l, ∀ w ∈ n.wks, w ∈ ns) : More ns m (startAll m l) := More.fold (P := fun n => ∀ w ∈ Nd.wks n, w ∈ ns) (fun m n h => startN_more m n h) _ m h
theorem noted_more {ns : List Nat} (m : M) (s : Nat) (span : Int) : More ns m (notedM m s span) := ⟨rfl, fun r h => .inl h⟩
/-- what is stopped -/
theorem stopW_up (m : M) (w i : Nat) : (stopW m w).up i = true → m.up i = true ∧ i ≠ w := by
  unfold stopW
  by_cases q : m.up w
  · rw [if_pos q]
    intro h
    have h' : (if i = w then false else m.up i) = true := h
    by_cases e : i = w
    · rw [if_pos e] at h'; cases h'
    · rw [if_neg e] at h'; exact ⟨h', e⟩
  · rw [if_neg q]
    exact fun h => ⟨h, fun e => q (e ▸ h)⟩
theorem stopN_up (i : Nat) : ∀ (l : List Nat) (m : M), (l.foldl stopW m).up i = true → m.up i = true ∧ i ∉ l
  | [], m, h => ⟨h, by simp⟩
  | w :: r, m, h => by
    obtain ⟨h1, h2⟩ := stopN_up i r (stopW m w) h
    obtain ⟨h3, h4⟩ := stopW_up m w i h1
    exact ⟨h3, by simp [h4, h2]⟩
theorem stopA_up (i : Nat) : ∀ (l : List Nd) (m : M), (l.foldl stopN m).up i = true → m.up i = true ∧ ∀ n ∈ l, i ∉ n.wks
  | [], m, h => ⟨h, by simp⟩
  | n :: r, m, h => by
    obtain ⟨h1, h2⟩ := stopA_up i r (stopN m n) h
    obtain ⟨h3, h4⟩ := stopN_up i n.wks.reverse m h1
    exact ⟨h3, fun x hx => by
      rcases List.mem_cons.mp hx with e | hx
      · subst e; exact fun z => h4 (List.mem_reverse.mpr z)
      · exact h2 x hx⟩
theorem stopAll_up {m : M} {ch : List Nd} {i : Nat} (h : i ∈ Nd.wksL ch) : (stopAll m ch).up i = false := by
  cases q : (stopAll m ch).up i with
  | false => rfl
  | true =>
    have h2 := (stopA_up i ch.reverse m q).2
    rw [Nd.wksL_flat] at h
    obtain ⟨z, hz, hiz⟩ := List.mem_flatten.mp h
    obtain ⟨c, hc, rfl⟩ := List.mem_map.mp hz
    exact absurd hiz (h2 c (List.mem_reverse.mpr hc))
theorem lrn_up : ∀ {ch : List Nd} {s : Nat} {e : Nat × Nd × Option Nat}, e ∈ Nd.lrnL (some s) ch → e.2.2 ≠ none := by
  have main : ∀ (d : Nat) (n : Nd) (s : Nat) (e : Nat × Nd × Option Nat), n.dep ≤ d → e ∈ n.lrn (some s) → e.2.2 ≠ none := by
    intro d
    induction d with
    | zero =>
      intro n s e hd he
      cases n with
      | kp _ _ _ _ _ => simp [Nd.dep] at hd
      | wk w =>
        have : e = (w, .wk w, some s) := by simpa [Nd.lrn] using he
        subst this
        simp
    | succ d ih =>
      intro n s e hd he
      cases n with
      | wk w =>
        have : e = (w, .wk w, some s) := by simpa [Nd.lrn] using he
        subst this
        simp
      | kp k m a b ch =>
        rcases List.mem_cons.mp (show e ∈ (k, Nd.kp k m a b ch, some s) :: Nd.lrnL (some k) ch from he) with q | q
        · subst q; simp
        · rw [Nd.lrnL_flat] at q
          obtain ⟨z, hz, hez⟩ := List.mem_flatten.mp q
          obtain ⟨c, hc, rfl⟩ := List.mem_map.mp hz
          exact ih c k e (by have := Nd.depL_le hc; have hd' : Nd.depL ch + 1 ≤ d + 1 := hd; omega) hez
  intro ch s e he
  rw [Nd.lrnL_flat] at he
  obtain ⟨z, hz, hez⟩ := List.mem_flatten.mp he
  obtain ⟨c, hc, rfl⟩ := List.mem_map.mp hz
  exact main c.dep c s e (Nat.le_refl _) hez
theorem lrn_uniq {l : List (Nat × Nd × Option Nat)} (h : (l.map (·.1)).Nodup) {e f : Nat × Nd × Option Nat} (he : e ∈ l) (hf : f ∈ l) (h1 : e.1 = f.1) : e = f := by
  obtain ⟨i, hi, ei⟩ := List.mem_iff_getElem.mp he
  obtain ⟨j, hj, ej⟩ := List.mem_iff_getElem.mp hf
  have : i = j := by
    have := (List.getElem_inj (i := i) (j := j) (h₀ := by rw [List.length_map]; exact hi) (h₁ := by rw [List.length_map]; exact hj) h).mp (by rw [List.getElem_map, List.getElem_map, ei, ej, h1])
    exact this
  subst this
  exact ei.symm.trans ej
section
variable {φ : Nat → Str} {T : Nd}
theorem nms_lrn {e : Nat × Nd × Option Nat} (h : e ∈ T.lrn none) : e.1 ∈ T.nms := by
  rw [← Nd.lrn_ids none T]
  exact List.mem_map.mpr ⟨e, h, rfl⟩
theorem wks_nms {w : Nat} (h : w ∈ T.wks) : w ∈ T.nms := (Nd.wks_sub T).subset h
theorem toldM_ok (hT : Tree φ T) : ∀ (ks : List (Nat × Nat × Nat × Int × Int × List Nd)) (n : Nat) (m : M), Above (T.lrn none) n ks → m.down = false → (ks = [] → ∀ w ∈ T.wks, m.up w = false) → (∀ r ∈ m.rows, PyData.strOk r.2.1 = true ∧ r.2.2 ∈ T.nms) →
    ((toldM ks m).down = true → ∀ w ∈ T.wks, (toldM ks m).up w = false) ∧ ∀ r ∈ (toldM ks m).rows, PyData.strOk r.2.1 = true ∧ r.2.2 ∈ T.nms
  | [], n, m, hA, hd, h0, hr => ⟨fun _ => h0 rfl, hr⟩
  | (j, s, mode, most, span, ch) :: rest, n, m, hA, hd, h0, hr => by
    cases hA with
    | up hn hs hj hc hA' =>
      rename_i x c up
      have hK := kids_of hT hs
      by_cases q : most < (timesM m s span).length
      · rw [toldM_yes q]
        have mo : More T.nms m (yieldM (stopAll (notedM m s span) ch) s) := (noted_more m s span).trans ((stopAll_more _ ch fun c hc w hw => wks_nms ((hK.each c hc).2.2.1 w hw)).trans (More.row rfl rfl (by decide +kernel) (nms_lrn hs)))
        refine toldM_ok hT rest s _ hA' (mo.1.trans hd) (fun e => ?_) (fun r h => ?_)
        · subst e
          cases hA' with
          | top ht =>
            rename_i x2
            have e2 := lrn_uniq (lrn_nodup hT) hs ht rfl
            have e3 : up = none := congrArg (fun z => z.2.2) e2
            subst e3
            obtain ⟨s3, m3, a3, b3, ch3, rfl⟩ := hT.top
            rcases List.mem_cons.mp (show (s, Nd.kp s mode most span ch, none) ∈ (s3, Nd.kp s3 m3 a3 b3 ch3, none) :: Nd.lrnL (some s3) ch3 from hs) with z | z
            · have e4 : Nd.kp s mode most span ch = Nd.kp s3 m3 a3 b3 ch3 := congrArg (fun z => z.2.1) z
              injection e4 with _ _ _ _ e5
              subst e5
              intro w hw
              exact stopAll_up (m := notedM m s span) hw
            · exact absurd rfl (lrn_up z)
        · rcases mo.2 r h with z | z
          · exact hr r z
          · exact z
      · rw [toldM_no q]
        have hch : ∀ c ∈ touchedM mode j ch, ∀ w ∈ c.wks, w ∈ T.nms := fun c hc w hw => wks_nms ((hK.each c (touchedM_mem hc)).2.2.1 w hw)
        have mo : More T.nms m (startAll (stopAll (notedM m s span) (touchedM mode j ch)) (touchedM mode j ch)) := (noted_more m s span).trans ((stopAll_more _ _ hch).trans (startAll_more _ _ hch))
        refine ⟨fun h => ?_, fun r h => ?_⟩
        · rw [mo.1, hd] at h; cases h
        · rcases mo.2 r h with z | z
          · exact hr r z
          · exact z
theorem fallM_ok (hT : Tree φ T) {k : Nat} {m : M} {ks : List (Nat × Nat × Nat × Int × Int × List Nd)} {w : Nat} (h : MdOk T k m) (hw : w ∈ T.wks) (hA : Above (T.lrn none) w ks) (hk : ks.length ≤ 4) (hd : m.down = false) : MdOk T (k + 4) (fallM ks m w) ∧ (fallM ks m w).clock = m.clock := by
  have hl := toldM_len ks { m with up := fun i => if i = w then false else m.up i, rows := m.rows ++ [(m.clock, s3, w)] } k h.fal
  have hne : ks ≠ [] := fun e => by
    subst e
    cases hA with
    | top ht =>
      obtain ⟨up', h2⟩ := Nd.wks_lrn T none w hw
      have e2 := lrn_uniq (lrn_nodup hT) h2 ht rfl
      have e3 : up' = none := congrArg (fun z => z.2.2) e2
      subst e3
      obtain ⟨s3, m3, a3, b3, ch3, rfl⟩ := hT.top
      rcases List.mem_cons.mp (show (w, Nd.wk w, none) ∈ (s3, Nd.kp s3 m3 a3 b3 ch3, none) :: Nd.lrnL (some s3) ch3 from h2) with z | z
      · have e4 : Nd.wk w = Nd.kp s3 m3 a3 b3 ch3 := congrArg (fun z => z.2.1) z
        cases e4
      · exact absurd rfl (lrn_up z)
  obtain ⟨h1, h2⟩ := toldM_ok hT ks w { m with up := fun i => if i = w then false else m.up i, rows := m.rows ++ [(m.clock, s3, w)] } hA hd (fun e => absurd e hne) (fun r hr => by
    rcases List.mem_append.mp hr with z | z
    · exact h.rows r z
    · rw [List.mem_singleton.mp z]
      exact ⟨show PyData.strOk s3 = true by decide +kernel, wks_nms hw⟩)
  exact ⟨⟨fun j => by have := hl.1 j; show ((toldM ks _).fallen j).length ≤ _; omega, h1, h2⟩, hl.2⟩
end
end Mi
namespace Mi
open PySem PySem.Spec PyProof.Rows L2 Pg
/-! ### three houses -/
structure Apart (b : Nat) (W : List Nat) (A1 A2 A3 : Ad) : Prop where
  s1 : ∀ x ∈ A1.muts, x ∈ W
  s2 : ∀ x ∈ A2.muts, x ∈ W
  s3 : ∀ x ∈ A3.muts, x ∈ W
  d12 : ∀ x ∈ A1.muts, x ∉ A2.muts
  d13 : ∀ x ∈ A1.muts, x ∉ A3.muts
  d23 : ∀ x ∈ A2.muts, x ∉ A3.muts
  bW : b ∈ W
  b1 : b ∉ A1.muts
  b2 : b ∉ A2.muts
  b3 : b ∉ A3.muts
theorem Apart.nb {b : Nat} {W : List Nat} {A1 A2 A3 : Ad} (ap : Apart b W A1 A2 A3) : b ∉ A1.muts ++ (A2.muts ++ A3.muts) := fun z => by
  rcases List.mem_append.mp z with z | z
  · exact ap.b1 z
  · rcases List.mem_append.mp z with z | z
    · exact ap.b2 z
    · exact ap.b3 z
theorem Apart.sub {b : Nat} {W : List Nat} {A1 A2 A3 : Ad} (ap : Apart b W A1 A2 A3) (x : Nat) (z : x ∈ A1.muts ++ (A2.muts ++ A3.muts)) : x ∈ W := by
  rcases List.mem_append.mp z with z | z
  · exact ap.s1 x z
  · rcases List.mem_append.mp z with z | z
    · exact ap.s2 x z
    · exact ap.s3 x z
theorem ixN_nat {n k : Nat} (h : k < n) : ixN n (k : Int) = some k := by
  unfold ixN
  rw [if_pos (by omega), if_pos (by omega)]
  rfl
structure Three (T : Nd) (by_ : Int) (A1 A2 A3 : Ad) (W : List Nat) (i : Nat) (m : M) (S : Sto) : Prop where
  r1 : HRep φ0 T 0 A1 W i (1601 * i) m S
  r2 : HRep φ0 T by_ A2 W (i + 1) (1601 * i) m S
  r3 : HRep φ1 T 0 A3 W i (1601 * i) m S
theorem HRep.bag {φ : Nat → Str} {T : Nd} {off : Int} {A : Ad} {W : List Nat} {np nr b : Nat} {m : M} {S S' : Sto} (r : HRep φ T off A W np nr m S) (f : Fr [b] S S') (hW : b ∈ W) (hb : b ∉ A.muts) : HRep φ T off A W np nr m S' :=
  r.fr f (fun x h => by rw [List.mem_singleton.mp h]; exact hW) (fun x h z => hb (by rw [← List.mem_singleton.mp z]; exact h))
theorem HRep.none {φ : Nat → Str} {T : Nd} {off : Int} {A : Ad} {W : List Nat} {np nr : Nat} {m : M} {S S' : Sto} (r : HRep φ T off A W np nr m S) (f : Fr [] S S') : HRep φ T off A W np nr m S' :=
  r.fr f (fun _ z => nomatch z) (fun _ _ z => nomatch z)
section
variable {T : Nd} {by_ : Int} {A1 A2 A3 : Ad} {W : List Nat} {i d b : Nat} {m : M} {S S' : Sto}
theorem Three.bag (t : Three T by_ A1 A2 A3 W i m S) (ap : Apart b W A1 A2 A3) (f : Fr [b] S S') : Three T by_ A1 A2 A3 W i m S' := ⟨t.r1.bag f ap.bW ap.b1, t.r2.bag f ap.bW ap.b2, t.r3.bag f ap.bW ap.b3⟩
theorem Three.none (t : Three T by_ A1 A2 A3 W i m S) (f : Fr [] S S') : Three T by_ A1 A2 A3 W i m S' := ⟨t.r1.none f, t.r2.none f, t.r3.none f⟩
/-- the clocks of all three go on -/
theorem go_three (hT : Tree φ0 T) (hT1 : Tree φ1 T) (ap : Apart b W A1 A2 A3) (t : Three T by_ A1 A2 A3 W i m S) {c : Int} (h1 : m.clock ≤ c) (h0 : 0 ≤ by_) (h2 : c + by_ ≤ 1000000000) (hi : i < 900) :
    ∃ S1 S2 S3, callF prog (d + 12) 13 [.ref A1.h, .int c] S = .ok .non S1 ∧ callF prog (d + 12) 13 [.ref A2.h, .int (c + by_)] S1 = .ok .non S2 ∧ callF prog (d + 12) 13 [.ref A3.h, .int c] S2 = .ok .non S3 ∧
      HRep φ0 T by_ A2 W (i + 1) (1601 * i) m S1 ∧ HRep φ1 T 0 A3 W i (1601 * i) m S2 ∧
      Three T by_ A1 A2 A3 W (i + 1) { m with clock := c } S3 ∧ Fr (A1.muts ++ (A2.muts ++ A3.muts)) S S3 := by
  obtain ⟨S1, e1, a1, F1⟩ := go13 (d := d + 9) φ0_inj hT t.r1 h1 (by omega) (by omega)
  rw [Int.add_zero] at e1
  have k2 := t.r2.fr F1 ap.s1 (fun x h z => ap.d12 x z h)
  have k3 := t.r3.fr F1 ap.s1 (fun x h z => ap.d13 x z h)
  obtain ⟨S2, e2, a2, F2⟩ := go13 (d := d + 9) φ0_inj hT k2 h1 h2 (by omega)
  have l3 := k3.fr F2 ap.s2 (fun x h z => ap.d23 x z h)
  obtain ⟨S3, e3, a3, F3⟩ := go13 (d := d + 9) φ1_inj hT1 l3 h1 (by omega) (by omega)
  rw [Int.add_zero] at e3
  have a1' := (a1.fr F2 ap.s2 (fun x h z => ap.d12 x h z)).fr F3 ap.s3 (fun x h z => ap.d13 x h z)
  have a2' := a2.fr F3 ap.s3 (fun x h z => ap.d23 x h z)
  exact ⟨S1, S2, S3, e1, e2, e3, k2, l3, ⟨a1'.more (by omega), a2'.more (by omega), a3.more (by omega)⟩, (F1.mono (fun x h => List.mem_append_left _ h)).trans ((F2.mono (fun x h => List.mem_append_right _ (List.mem_append_left _ h))).trans (F3.mono (fun x h => List.mem_append_right _ (List.mem_append_right _ h))))⟩
/-- a fall in all three -/
theorem fall_three (hT : Tree φ0 T) (hT1 : Tree φ1 T) (ap : Apart b W A1 A2 A3) (hW : ∀ x ∈ W, x < S.n) (t : Three T by_ A1 A2 A3 W i m S) {w : Nat} (hw : w ∈ T.wks) (hd : m.down = false) (hu : m.up w = true) {ks : List (Nat × Nat × Nat × Int × Int × List Nd)} (hA : Above (T.lrn none) w ks) (hk : ks.length ≤ 4) (hf : ∀ i, (m.fallen i).length + 4 ≤ 1000) (hi : i < 500) :
    ∃ S1 S2 S3, callF prog (d + 12) 18 [.ref A1.h, .str (φ0 w)] S = .ok .non S1 ∧ callF prog (d + 12) 18 [.ref A2.h, .str (φ0 w)] S1 = .ok .non S2 ∧ callF prog (d + 12) 18 [.ref A3.h, .str (φ1 w)] S2 = .ok .non S3 ∧
      HRep φ0 T by_ A2 W (i + 1) (1601 * i) m S1 ∧ HRep φ1 T 0 A3 W i (1601 * i) m S2 ∧
      Three T by_ A1 A2 A3 W (i + 1) (fallM ks m w) S3 ∧ Fr (A1.muts ++ (A2.muts ++ A3.muts)) S S3 := by
  obtain ⟨S1, e1, a1, F1⟩ := fall18 (d := d) φ0_inj hT hW t.r1 hw hd hu hA hk hf (by omega) (by omega)
  have k2 := t.r2.fr F1 ap.s1 (fun x h z => ap.d12 x z h)
  have k3 := t.r3.fr F1 ap.s1 (fun x h z => ap.d13 x z h)
  have hW1 : ∀ x ∈ W, x < S1.n := fun x hx => Nat.lt_of_lt_of_le (hW x hx) F1.le
  obtain ⟨S2, e2, a2, F2⟩ := fall18 (d := d) φ0_inj hT hW1 k2 hw hd hu hA hk hf (by omega) (by omega)
  have l3 := k3.fr F2 ap.s2 (fun x h z => ap.d23 x z h)
  have hW2 : ∀ x ∈ W, x < S2.n := fun x hx => Nat.lt_of_lt_of_le (hW1 x hx) F2.le
  obtain ⟨S3, e3, a3, F3⟩ := fall18 (d := d) φ1_inj hT1 hW2 l3 hw hd hu hA hk hf (by omega) (by omega)
  have a1' := (a1.fr F2 ap.s2 (fun x h z => ap.d12 x h z)).fr F3 ap.s3 (fun x h z => ap.d13 x h z)
  have a2' := a2.fr F3 ap.s3 (fun x h z => ap.d23 x h z)
  exact ⟨S1, S2, S3, e1, e2, e3, k2, l3, ⟨a1'.more (by omega), a2'.more (by omega), a3.more (by omega)⟩, (F1.mono (fun x h => List.mem_append_left _ h)).trans ((F2.mono (fun x h => List.mem_append_right _ (List.mem_append_left _ h))).trans (F3.mono (fun x h => List.mem_append_right _ (List.mem_append_right _ h))))⟩
end
def goB (C : CO) : SF := (mSeq (mSet (tNm 9) (mBin gAdd (mMeth C (Mi.M1 0 20 []) (mVar 4) mNil) (mCall C 29 (mCons (mVar 1) (mCons (mC (.int 8)) mNil)) [])))
    (mSeq (mExpr (mMeth C (Mi.M1 0 13 []) (mVar 4) (mCons (mVar 9) mNil)))
    (mSeq (mExpr (mMeth C (Mi.M1 0 13 []) (mVar 5) (mCons (mBin gAdd (mVar 9) (mVar 3)) mNil)))
    (mExpr (mMeth C (Mi.M1 0 13 []) (mVar 6) (mCons (mVar 9) mNil))))))
def fallB (C : CO) : SF := (mSeq (mSet (tNm 10) (mIx (mVar 8) (mCall C 29 (mCons (mVar 1) (mCons (mBi gLen (mCons (mVar 8) mNil)) mNil)) [])))
    (mSeq (mExpr (mMeth C (Mi.M1 0 18 []) (mVar 4) (mCons (mVar 10) mNil)))
    (mSeq (mExpr (mMeth C (Mi.M1 0 18 []) (mVar 5) (mCons (mVar 10) mNil)))
    (mExpr (mMeth C (Mi.M1 0 18 []) (mVar 6) (mCons (mBin gAdd (mC (.str s0)) (mVar 10)) mNil))))))
def cmpB (C : CO) : SF := (mIfS (mOrB (mBool (mBin gNe (mMeth C (Mi.M1 0 22 []) (mVar 4) mNil) (mMeth C (Mi.M1 0 22 []) (mVar 5) mNil))) (mOrB (mBool (mBin gNe (mMeth C (Mi.M1 0 22 []) (mVar 4) mNil) (mMeth C (Mi.M1 0 22 []) (mVar 6) mNil))) (mBool (mBin gNe (mMeth C (Mi.M1 0 21 []) (mVar 4) mNil) (mMeth C (Mi.M1 0 21 []) (mVar 5) mNil))))) (mRet (mC (.bl false))) mEnd)
def turnB (C : CO) : SF := (mSeq (mSet (tNm 8) (mMeth C (Mi.M1 0 21 []) (mVar 4) mNil))
    (mSeq (mIfS (mOrB (mBool (mBin gEq (mVar 8) (mLst mNil))) (mBool (mBin gEq (mCall C 29 (mCons (mVar 1) (mCons (mC (.int 3)) mNil)) []) (mC (.int 0))))) (goB C) (fallB C)) (cmpB C)))
section
variable {T : Nd} {by_ : Int} {A1 A2 A3 : Ad} {W : List Nat} {i d b n : Nat} {m : M} {S S' : Sto} {n0 Tv y7 y8 y9 y10 y11 y12 y13 y14 y15 : Option Va}
theorem filt_ok (hT : Tree φ0 T) (hT26 : ∀ i ∈ T.nms, i < 26) {m : M} : ∀ i ∈ T.wks.filter m.up, NmOk (φ0 i) := fun i hi => nm0 i (hT26 i (wks_nms (List.mem_filter.mp hi).1))
theorem cmp_ok (hT : Tree φ0 T) (hT26 : ∀ i ∈ T.nms, i < 26) (t : Three T by_ A1 A2 A3 W i m S) :
    ∃ S', cmpB (callF prog (d + 12)) [n0, some (.ref b), Tv, some (.int by_), some (.ref A1.h), some (.ref A2.h), some (.ref A3.h), y7, y8, y9, y10, y11, y12, y13, y14, y15] S = .ok (.nx [n0, some (.ref b), Tv, some (.int by_), some (.ref A1.h), some (.ref A2.h), some (.ref A3.h), y7, y8, y9, y10, y11, y12, y13, y14, y15]) S' ∧ Fr [] S S' := by
  obtain ⟨E, eE⟩ : ∃ E, [n0, some (.ref b), Tv, some (.int by_), some (.ref A1.h), some (.ref A2.h), some (.ref A3.h), y7, y8, y9, y10, y11, y12, y13, y14, y15] = E := ⟨_, rfl⟩
  have v4 : ∀ S, mVar 4 E S = .ok (.ref A1.h) S := fun S => by rw [← eE] <;> rfl
  have v5 : ∀ S, mVar 5 E S = .ok (.ref A2.h) S := fun S => by rw [← eE] <;> rfl
  have v6 : ∀ S, mVar 6 E S = .ok (.ref A3.h) S := fun S => by rw [← eE] <;> rfl
  rw [eE]
  have d1 : mMeth (callF prog (d + 12)) (Mi.M1 0 22 []) (mVar 4) mNil E S = .ok (.bl m.down) S := by rw [meth_ok (v4 S) t.r1.obj rfl]; exact down22 (d := d + 11) t.r1
  have d2 : mMeth (callF prog (d + 12)) (Mi.M1 0 22 []) (mVar 5) mNil E S = .ok (.bl m.down) S := by rw [meth_ok (v5 S) t.r2.obj rfl]; exact down22 (d := d + 11) t.r2
  have d3 : mMeth (callF prog (d + 12)) (Mi.M1 0 22 []) (mVar 6) mNil E S = .ok (.bl m.down) S := by rw [meth_ok (v6 S) t.r3.obj rfl]; exact down22 (d := d + 11) t.r3
  have ne : gNe (.bl m.down) (.bl m.down) S = .ok (.bl false) S := by
    show R.ok (Va.bl (!decide (m.down = m.down))) S = _
    rw [decide_eq_true rfl] <;> rfl
  obtain ⟨L1, S1, q1, g1', l1, F1⟩ := running21 (d := d + 6) φ0_inj hT t.r1
  have t1 := t.none F1
  obtain ⟨L2, S2, q2, g2', l2, F2⟩ := running21 (d := d + 6) φ0_inj hT t1.r2
  have c3 : mBool (mBin gNe (mMeth (callF prog (d + 12)) (Mi.M1 0 21 []) (mVar 4) mNil) (mMeth (callF prog (d + 12)) (Mi.M1 0 21 []) (mVar 5) mNil)) E S = .ok false S2 := by
    have e1 : mMeth (callF prog (d + 12)) (Mi.M1 0 21 []) (mVar 4) mNil E S = .ok (.ref L1) S1 := by rw [meth_ok (v4 S) t.r1.obj rfl]; exact q1
    have e2 : mMeth (callF prog (d + 12)) (Mi.M1 0 21 []) (mVar 5) mNil E S1 = .ok (.ref L2) S2 := by rw [meth_ok (v5 S1) t1.r2.obj rfl]; exact q2
    refine bool_ok ?_
    rw [bin_ok e1 e2]
    unfold gNe
    rw [eq_txs (filt_ok hT hT26) (F2.at g1' (by simp)) g2'] <;> rfl
  refine ⟨S2, ?_, F1.trans F2⟩
  unfold cmpB
  rw [ifs_f (S1 := S2) (by
    rw [or_f (S1 := S) (bool_ok (by rw [bin_ok d1 d2]; exact ne)), or_f (S1 := S) (bool_ok (by rw [bin_ok d1 d3]; exact ne))]
    exact c3)]
  rfl
theorem goB_ok (hT : Tree φ0 T) (hT1 : Tree φ1 T) (ap : Apart b W A1 A2 A3) (t : Three T by_ A1 A2 A3 W i m S) (hb : Bag n b S) (hn : n < 1000000) (h0 : 0 ≤ by_) (h1 : by_ ≤ 1000000) (hc0 : 0 ≤ m.clock) (hc : m.clock ≤ 7 * i) (hi : i < 60) :
    ∃ r S', 0 ≤ r ∧ r < 8 ∧ goB (callF prog (d + 12)) [n0, some (.ref b), Tv, some (.int by_), some (.ref A1.h), some (.ref A2.h), some (.ref A3.h), y7, y8, y9, y10, y11, y12, y13, y14, y15] S = .ok (.nx [n0, some (.ref b), Tv, some (.int by_), some (.ref A1.h), some (.ref A2.h), some (.ref A3.h), y7, y8, some (.int (m.clock + r)), y10, y11, y12, y13, y14, y15]) S' ∧
      Three T by_ A1 A2 A3 W (i + 1) { m with clock := m.clock + r } S' ∧ Bag (n + 1) b S' ∧ Fr W S S' := by
  obtain ⟨r, S1, e1, r0, r1, hb1, F1⟩ := draw29 (E := d + 12) (d + 11) (j := 1) (f := mC (.int 8)) (env := [n0, some (.ref b), Tv, some (.int by_), some (.ref A1.h), some (.ref A2.h), some (.ref A3.h), y7, y8, y9, y10, y11, y12, y13, y14, y15]) rfl rfl rfl hb (by omega) (by decide) (by decide)
  have t1 := t.bag ap F1
  obtain ⟨S2, S3, S4, g1', g2', g3', k2, k3, t4, F4⟩ := go_three (d := d) (c := m.clock + r) hT hT1 ap t1 (by omega) h0 (by omega) (by omega)
  refine ⟨r, S4, r0, r1, ?_, t4, ?_, (F1.mono (by intro z hz; rw [List.mem_singleton.mp hz]; exact ap.bW)).trans (F4.mono ap.sub)⟩
  · unfold goB
    have nw : mMeth (callF prog (d + 12)) (Mi.M1 0 20 []) (mVar 4) mNil [n0, some (.ref b), Tv, some (.int by_), some (.ref A1.h), some (.ref A2.h), some (.ref A3.h), y7, y8, y9, y10, y11, y12, y13, y14, y15] S = .ok (.int (m.clock + 0)) S := by rw [meth_ok rfl t.r1.obj rfl]; exact now20 (d := d + 11) t.r1
    rw [seq_nx (e1 := [n0, some (.ref b), Tv, some (.int by_), some (.ref A1.h), some (.ref A2.h), some (.ref A3.h), y7, y8, some (.int (m.clock + r)), y10, y11, y12, y13, y14, y15]) (S1 := S1) (set_ok (v := .int (m.clock + r)) (by
      rw [bin_ok nw e1]
      show R.ok (Va.int (m.clock + 0 + r)) S1 = _
      rw [Int.add_zero]) rfl)]
    rw [seq_nx (exp_ok (v := .non) (S1 := S2) (by rw [meth_ok rfl t1.r1.obj (cons_ok rfl rfl)]; exact g1'))]
    rw [seq_nx (exp_ok (v := .non) (S1 := S3) (by
      have ad : mBin gAdd (mVar 9) (mVar 3) [n0, some (.ref b), Tv, some (.int by_), some (.ref A1.h), some (.ref A2.h), some (.ref A3.h), y7, y8, some (.int (m.clock + r)), y10, y11, y12, y13, y14, y15] S2 = .ok (.int (m.clock + r + by_)) S2 := rfl
      rw [meth_ok rfl k2.obj (cons_ok ad rfl)]; exact g2'))]
    rw [exp_ok (v := .non) (S1 := S4) (by rw [meth_ok rfl k3.obj (cons_ok rfl rfl)]; exact g3')]
  · exact hb1.fr F4 ap.nb
theorem fallB_ok (hT : Tree φ0 T) (hT1 : Tree φ1 T) (hT26 : ∀ i ∈ T.nms, i < 26) (ap : Apart b W A1 A2 A3) (hW : ∀ x ∈ W, x < S.n) (t : Three T by_ A1 A2 A3 W i m S) (mo : MdOk T (4 * i) m) (hb : Bag n b S) (hn : n < 1000000) (hi : i < 60) {L : Nat} (hL : S.get L = some (.lst (txs φ0 (T.wks.filter m.up)))) (hLb : L ≠ b) (hne : T.wks.filter m.up ≠ []) :
    ∃ y10' m' S', fallB (callF prog (d + 12)) [n0, some (.ref b), Tv, some (.int by_), some (.ref A1.h), some (.ref A2.h), some (.ref A3.h), y7, some (.ref L), y9, y10, y11, y12, y13, y14, y15] S = .ok (.nx [n0, some (.ref b), Tv, some (.int by_), some (.ref A1.h), some (.ref A2.h), some (.ref A3.h), y7, some (.ref L), y9, y10', y11, y12, y13, y14, y15]) S' ∧
      Three T by_ A1 A2 A3 W (i + 1) m' S' ∧ MdOk T (4 * (i + 1)) m' ∧ m'.clock = m.clock ∧ Bag (n + 1) b S' ∧ Fr W S S' := by
  obtain ⟨N, eN⟩ : ∃ N, (T.wks.filter m.up).length = N := ⟨_, rfl⟩
  have hN0 : 0 < N := by rw [← eN]; exact List.length_pos_iff.mpr hne
  have hN1 : N ≤ 100 := by
    rw [← eN]
    have := List.length_filter_le m.up T.wks
    have := Nd.wks_le T
    have := hT.len
    omega
  have ln : mBi gLen (mCons (mVar 8) mNil) [n0, some (.ref b), Tv, some (.int by_), some (.ref A1.h), some (.ref A2.h), some (.ref A3.h), y7, some (.ref L), y9, y10, y11, y12, y13, y14, y15] S = .ok (.int N) S := by
    rw [bi_ok (cons_ok rfl rfl)]
    unfold gLen g1 seqOf
    try dsimp only
    rw [hL]
    try dsimp only
    rw [List.length_map, eN]
  obtain ⟨r, S1, e1, r0, r1, hb1, F1⟩ := draw29 (E := d + 12) (d + 11) (j := 1) (f := mBi gLen (mCons (mVar 8) mNil)) (env := [n0, some (.ref b), Tv, some (.int by_), some (.ref A1.h), some (.ref A2.h), some (.ref A3.h), y7, some (.ref L), y9, y10, y11, y12, y13, y14, y15]) rfl rfl ln hb (by omega) (by omega) (by omega)
  have hL1 := F1.at hL (by simpa using hLb)
  obtain ⟨k, rfl⟩ : ∃ k : Nat, r = k := ⟨r.toNat, by omega⟩
  have hk : k < (T.wks.filter m.up).length := by omega
  obtain ⟨w, ew⟩ : ∃ w, (T.wks.filter m.up)[k] = w := ⟨_, rfl⟩
  have hwk : (T.wks.filter m.up)[k]? = some w := by rw [List.getElem?_eq_getElem hk, ew]
  have hwm := List.mem_filter.mp (List.mem_of_getElem? hwk)
  have hdn : m.down = false := by
    cases q : m.down with
    | false => rfl
    | true => have := mo.down q w hwm.1; rw [hwm.2] at this; cases this
  have t1 := t.bag ap F1
  have hW1 : ∀ x ∈ W, x < S1.n := fun x hx => Nat.lt_of_lt_of_le (hW x hx) F1.le
  obtain ⟨ks, hA, hkl⟩ := above_of hT (wks_nms hwm.1)
  obtain ⟨S2, S3, S4, g1', g2', g3', k2, k3, t4, F4⟩ := fall_three (d := d) hT hT1 ap hW1 t1 hwm.1 hdn hwm.2 hA hkl (fun j => by have := mo.fal j; omega) (by omega)
  obtain ⟨mo', hck⟩ := fallM_ok hT mo hwm.1 hA hkl hdn
  refine ⟨some (.str (φ0 w)), fallM ks m w, S4, ?_, t4, ?_, hck, ?_, (F1.mono (by intro z hz; rw [List.mem_singleton.mp hz]; exact ap.bW)).trans (F4.mono ap.sub)⟩
  · unfold fallB
    have ix : mIx (mVar 8) (mCall (callF prog (d + 12)) 29 (mCons (mVar 1) (mCons (mBi gLen (mCons (mVar 8) mNil)) mNil)) []) [n0, some (.ref b), Tv, some (.int by_), some (.ref A1.h), some (.ref A2.h), some (.ref A3.h), y7, some (.ref L), y9, y10, y11, y12, y13, y14, y15] S = .ok (.str (φ0 w)) S1 := by
      refine ix_ok rfl e1 ?_
      show gIxO (S1.get L) (.int k) = _
      rw [hL1]
      show atA (txs φ0 (T.wks.filter m.up)) k = _
      unfold atA
      rw [show ixN (txs φ0 (T.wks.filter m.up)).length (k : Int) = some k from ixN_nat (by rw [List.length_map]; exact hk)]
      show (txs φ0 (T.wks.filter m.up))[k]? = _
      rw [List.getElem?_map, hwk] <;> rfl
    rw [seq_nx (e1 := [n0, some (.ref b), Tv, some (.int by_), some (.ref A1.h), some (.ref A2.h), some (.ref A3.h), y7, some (.ref L), y9, some (.str (φ0 w)), y11, y12, y13, y14, y15]) (S1 := S1) (set_ok ix rfl)]
    rw [seq_nx (exp_ok (v := .non) (S1 := S2) (by rw [meth_ok rfl t1.r1.obj (cons_ok rfl rfl)]; exact g1'))]
    rw [seq_nx (exp_ok (v := .non) (S1 := S3) (by rw [meth_ok rfl k2.obj (cons_ok rfl rfl)]; exact g2'))]
    have ad : mBin gAdd (mC (.str s0)) (mVar 10) [n0, some (.ref b), Tv, some (.int by_), some (.ref A1.h), some (.ref A2.h), some (.ref A3.h), y7, some (.ref L), y9, some (.str (φ0 w)), y11, y12, y13, y14, y15] S3 = .ok (.str (φ1 w)) S3 := rfl
    rw [exp_ok (v := .non) (S1 := S4) (by rw [meth_ok rfl k3.obj (cons_ok ad rfl)]; exact g3')]
  · rw [show 4 * (i + 1) = 4 * i + 4 by omega]
    exact mo'
  · exact hb1.fr F4 ap.nb
end
end Mi
namespace Mi
open PySem PySem.Spec PyProof.Rows L2 Pg
section
variable {T : Nd} {by_ : Int} {A1 A2 A3 : Ad} {W : List Nat} {i d b n : Nat} {m : M} {S S0 S' : Sto} {n0 Tv y7 y8 y9 y10 y11 y12 y13 y14 y15 : Option Va}
/-- one of the sixty turns -/
theorem turnB_ok (hT : Tree φ0 T) (hT1 : Tree φ1 T) (hT26 : ∀ i ∈ T.nms, i < 26) (ap : Apart b W A1 A2 A3) (hW : ∀ x ∈ W, x < S.n) (t : Three T by_ A1 A2 A3 W i m S) (mo : MdOk T (4 * i) m) (hb : Bag n b S) (hn : n < 900000) (h0 : 0 ≤ by_) (h1 : by_ ≤ 1000000) (hc0 : 0 ≤ m.clock) (hc : m.clock ≤ 7 * i) (hi : i < 60) :
    ∃ z8 z9 z10 m' S', turnB (callF prog (d + 12)) [n0, some (.ref b), Tv, some (.int by_), some (.ref A1.h), some (.ref A2.h), some (.ref A3.h), y7, y8, y9, y10, y11, y12, y13, y14, y15] S = .ok (.nx [n0, some (.ref b), Tv, some (.int by_), some (.ref A1.h), some (.ref A2.h), some (.ref A3.h), y7, z8, z9, z10, y11, y12, y13, y14, y15]) S' ∧
      Three T by_ A1 A2 A3 W (i + 1) m' S' ∧ MdOk T (4 * (i + 1)) m' ∧ 0 ≤ m'.clock ∧ m'.clock ≤ 7 * ((i + 1 : Nat) : Int) ∧ Bag (n + 2) b S' ∧ Fr W S S' := by
  obtain ⟨L, S1, e1, gL, hL, F1⟩ := running21 (d := d + 6) φ0_inj hT t.r1
  have t1 := t.none F1
  have hb1 := hb.fr F1 (by simp)
  have hbl := hb.lt
  have hLb : L ≠ b := by omega
  have hW1 : ∀ x ∈ W, x < S1.n := fun x hx => Nat.lt_of_lt_of_le (hW x hx) F1.le
  unfold turnB
  have r8 : mMeth (callF prog (d + 12)) (Mi.M1 0 21 []) (mVar 4) mNil [n0, some (.ref b), Tv, some (.int by_), some (.ref A1.h), some (.ref A2.h), some (.ref A3.h), y7, y8, y9, y10, y11, y12, y13, y14, y15] S = .ok (.ref L) S1 := by rw [meth_ok rfl t.r1.obj rfl]; exact e1
  rw [seq_nx (e1 := [n0, some (.ref b), Tv, some (.int by_), some (.ref A1.h), some (.ref A2.h), some (.ref A3.h), y7, some (.ref L), y9, y10, y11, y12, y13, y14, y15]) (S1 := S1) (set_ok r8 rfl)]
  -- some == []
  obtain ⟨S2, eS2⟩ : ∃ S2, S1.new (.lst []) = S2 := ⟨_, rfl⟩
  have F2 : Fr [] S1 S2 := eS2 ▸ Fr.new [] _ _
  have c1 : mBool (mBin gEq (mVar 8) (mLst mNil)) [n0, some (.ref b), Tv, some (.int by_), some (.ref A1.h), some (.ref A2.h), some (.ref A3.h), y7, some (.ref L), y9, y10, y11, y12, y13, y14, y15] S1 = .ok (T.wks.filter m.up).isEmpty S2 := by
    refine bool_ok ?_
    have e2 : mLst mNil [n0, some (.ref b), Tv, some (.int by_), some (.ref A1.h), some (.ref A2.h), some (.ref A3.h), y7, some (.ref L), y9, y10, y11, y12, y13, y14, y15] S1 = .ok (.ref S1.n) S2 := by rw [← eS2]; rfl
    rw [bin_ok rfl e2]
    unfold gEq
    rw [eq_none (filt_ok hT hT26) (F2.at gL (by simp)) (by rw [← eS2]; exact Sto.get_new)]
  have t2 := t1.none F2
  have hb2 := hb1.fr F2 (by simp)
  have hW2 : ∀ x ∈ W, x < S2.n := fun x hx => Nat.lt_of_lt_of_le (hW1 x hx) F2.le
  have gL2 := F2.at gL (by simp)
  have F02 : Fr W S S2 := (F1.mono (fun _ z => nomatch z)).trans (F2.mono (fun _ z => nomatch z))
  -- the clocks go on
  have go : ∀ (k : Nat) (S3 : Sto), k ≤ n + 1 → Three T by_ A1 A2 A3 W i m S3 → Bag k b S3 → Fr W S S3 → ∃ z8 z9 z10 m' S', mSeq (goB (callF prog (d + 12))) (cmpB (callF prog (d + 12))) [n0, some (.ref b), Tv, some (.int by_), some (.ref A1.h), some (.ref A2.h), some (.ref A3.h), y7, some (.ref L), y9, y10, y11, y12, y13, y14, y15] S3 = .ok (.nx [n0, some (.ref b), Tv, some (.int by_), some (.ref A1.h), some (.ref A2.h), some (.ref A3.h), y7, z8, z9, z10, y11, y12, y13, y14, y15]) S' ∧
      Three T by_ A1 A2 A3 W (i + 1) m' S' ∧ MdOk T (4 * (i + 1)) m' ∧ 0 ≤ m'.clock ∧ m'.clock ≤ 7 * ((i + 1 : Nat) : Int) ∧ Bag (n + 2) b S' ∧ Fr W S S' := by
    intro k S3 hk t3 hb3 F3
    obtain ⟨r, S4, r0, r1, e4, t4, hb4, F4⟩ := goB_ok (d := d) (y7 := y7) (y8 := some (.ref L)) (y9 := y9) (y10 := y10) (y11 := y11) (y12 := y12) (y13 := y13) (y14 := y14) (y15 := y15) (n0 := n0) (Tv := Tv) hT hT1 ap t3 hb3 (by omega) h0 h1 hc0 hc hi
    obtain ⟨S5, e5, F5⟩ := cmp_ok (d := d) (b := b) (y7 := y7) (y8 := some (.ref L)) (y9 := some (.int (m.clock + r))) (y10 := y10) (y11 := y11) (y12 := y12) (y13 := y13) (y14 := y14) (y15 := y15) (n0 := n0) (Tv := Tv) hT hT26 t4
    refine ⟨some (.ref L), some (.int (m.clock + r)), y10, _, S5, by rw [seq_nx e4]; exact e5, t4.none F5, ⟨fun j => by have := mo.fal j; show (m.fallen j).length ≤ _; omega, mo.down, mo.rows⟩, ?_, ?_, (hb4.fr F5 (by simp)).mono (by omega), F3.trans (F4.trans (F5.mono (fun _ z => nomatch z)))⟩
    · show 0 ≤ m.clock + r; omega
    · show m.clock + r ≤ _; omega
  cases q : (T.wks.filter m.up) with
  | nil =>
    rw [q] at c1
    obtain ⟨z8, z9, z10, m', S', e, h⟩ := go n S2 (by omega) t2 hb2 F02
    refine ⟨z8, z9, z10, m', S', ?_, h⟩
    rw [← e]
    unfold mSeq
    rw [ifs_t (S1 := S2) (or_t c1)]
  | cons w0 ws =>
    rw [q] at c1
    obtain ⟨r, S3, e3, r0, r1, hb3, F3⟩ := draw29 (E := d + 12) (d + 11) (j := 1) (f := mC (.int 3)) (env := [n0, some (.ref b), Tv, some (.int by_), some (.ref A1.h), some (.ref A2.h), some (.ref A3.h), y7, some (.ref L), y9, y10, y11, y12, y13, y14, y15]) rfl rfl rfl hb2 (by omega) (by decide) (by decide)
    have c2 : mBool (mBin gEq (mCall (callF prog (d + 12)) 29 (mCons (mVar 1) (mCons (mC (.int 3)) mNil)) []) (mC (.int 0))) [n0, some (.ref b), Tv, some (.int by_), some (.ref A1.h), some (.ref A2.h), some (.ref A3.h), y7, some (.ref L), y9, y10, y11, y12, y13, y14, y15] S2 = .ok (decide (r = 0)) S3 := bool_ok (by rw [bin_ok e3 rfl]; rfl)
    have t3 := t2.bag ap F3
    have F03 := F02.trans (F3.mono (cs := W) (by intro z hz; rw [List.mem_singleton.mp hz]; exact ap.bW))
    by_cases hr : r = 0
    · rw [decide_eq_true hr] at c2
      obtain ⟨z8, z9, z10, m', S', e, h⟩ := go (n + 1) S3 (by omega) t3 hb3 F03
      refine ⟨z8, z9, z10, m', S', ?_, h⟩
      rw [← e]
      unfold mSeq
      rw [ifs_t (S1 := S3) (by rw [or_f c1]; exact c2)]
    · rw [decide_eq_false hr] at c2
      have hW3 : ∀ x ∈ W, x < S3.n := fun x hx => Nat.lt_of_lt_of_le (hW2 x hx) F3.le
      obtain ⟨z10, m', S4, e4, t4, mo4, hc4, hb4, F4⟩ := fallB_ok (d := d) (y7 := y7) (y9 := y9) (y10 := y10) (y11 := y11) (y12 := y12) (y13 := y13) (y14 := y14) (y15 := y15) (n0 := n0) (Tv := Tv) hT hT1 hT26 ap hW3 t3 mo hb3 (by omega) hi (F3.at gL2 (by simpa using hLb)) hLb (by rw [q]; simp)
      obtain ⟨S5, e5, F5⟩ := cmp_ok (d := d) (b := b) (y7 := y7) (y8 := some (.ref L)) (y9 := y9) (y10 := z10) (y11 := y11) (y12 := y12) (y13 := y13) (y14 := y14) (y15 := y15) (n0 := n0) (Tv := Tv) hT hT26 t4
      refine ⟨some (.ref L), y9, z10, m', S5, ?_, t4.none F5, mo4, by rw [hc4]; exact hc0, by rw [hc4]; omega, (hb4.fr F5 (by simp)).mono (by omega), F03.trans (F4.trans (F5.mono (fun _ z => nomatch z)))⟩
      rw [← e5]
      have e6 : mIfS (mOrB (mBool (mBin gEq (mVar 8) (mLst mNil))) (mBool (mBin gEq (mCall (callF prog (d + 12)) 29 (mCons (mVar 1) (mCons (mC (.int 3)) mNil)) []) (mC (.int 0))))) (goB (callF prog (d + 12))) (fallB (callF prog (d + 12))) [n0, some (.ref b), Tv, some (.int by_), some (.ref A1.h), some (.ref A2.h), some (.ref A3.h), y7, some (.ref L), y9, y10, y11, y12, y13, y14, y15] S1 = .ok (.nx [n0, some (.ref b), Tv, some (.int by_), some (.ref A1.h), some (.ref A2.h), some (.ref A3.h), y7, some (.ref L), y9, z10, y11, y12, y13, y14, y15]) S4 := by
        rw [ifs_f (S1 := S3) (by rw [or_f c1]; exact c2)]
        exact e4
      rw [seq_nx e6]
/-! ### behind the turns -/
theorem cut_drop {xs : List Va} {j : Nat} (h : j ≤ xs.length) : cutA xs (some (j : Int)) none = xs.drop j := by
  unfold cutA
  rw [HT.sIx_nat, Nat.min_eq_left h]
  show (xs.drop j).take (xs.length - j) = _
  rw [List.take_of_length_le (by rw [List.length_drop]; exact Nat.le_refl _)]
mutual
theorem Nd.lrn_nds : ∀ (n : Nd) (up : Option Nat), (n.lrn up).map (·.2.1) = n.nds
  | .wk _, _ => rfl
  | .kp s m a b ch, _ => congrArg (Nd.kp s m a b ch :: ·) (Nd.lrnL_nds ch (some s))
theorem Nd.lrnL_nds : ∀ (ch : List Nd) (up : Option Nat), (Nd.lrnL up ch).map (·.2.1) = Nd.ndsL ch
  | [], _ => rfl
  | n :: r, up => by
    unfold Nd.lrnL Nd.ndsL
    rw [List.map_append, Nd.lrn_nds n up, Nd.lrnL_nds r up]
end
def allRows (T : Nd) (m : M) : List (Int × Str × Nat) := (T.wks.map fun i => ((0 : Int), s2, i)) ++ m.rows
theorem allRows_map (φ : Nat → Str) (T : Nd) (m : M) : T.wks.map (startV φ) ++ m.rows.map (rowV φ 0) = (allRows T m).map (rowV φ 0) := by
  unfold allRows
  rw [List.map_append, List.map_map] <;> rfl
def cntB (C : CO) : SF := (mIfS (mAndB (mBool (mBin gEq (mIx (mVar 15) (mC (.int 0))) (mC (.str s1)))) (mBool (mBin gNe (mMeth C (Mi.M1 0 23 []) (mVar 4) (mCons (mIx (mVar 15) (mC (.int 1))) mNil)) (mMeth C (Mi.M1 0 23 []) (mVar 6) (mCons (mBin gAdd (mC (.str s0)) (mIx (mVar 15) (mC (.int 1)))) mNil))))) (mRet (mC (.bl false))) mEnd)
def endB (C : CO) : SF := (mSeq (mSet (tNm 11) (mBi gLen (mCons (mCall C 32 (mCons (mVar 2) mNil) []) mNil)))
    (mSeq (mSet (tNm 12) (mMeth C (Mi.M1 0 24 []) (mVar 4) mNil))
    (mSeq (mIfS (mBool (mBin gNe (mLc (iSeq (mSl (mVar 12) (mPart (mVar 11)) mNoP)) (tTp 3 (tsCons (tNm 13) (tsCons (tNm 14) (tsCons (tNm 10) tsNil)))) mYes (mTup (mCons (mBin gAdd (mVar 13) (mVar 3)) (mCons (mVar 14) (mCons (mVar 10) mNil)))) [13, 14, 10]) (mSl (mMeth C (Mi.M1 0 24 []) (mVar 5) mNil) (mPart (mVar 11)) mNoP))) (mRet (mC (.bl false))) mEnd)
    (mSeq (mIfS (mBool (mBin gNe (mLc (iSeq (mVar 12)) (tTp 3 (tsCons (tNm 13) (tsCons (tNm 14) (tsCons (tNm 10) tsNil)))) mYes (mTup (mCons (mVar 13) (mCons (mVar 14) (mCons (mBin gAdd (mC (.str s0)) (mVar 10)) mNil)))) [13, 14, 10]) (mMeth C (Mi.M1 0 24 []) (mVar 6) mNil))) (mRet (mC (.bl false))) mEnd)
    (mFor (iSeq (mCall C 33 (mCons (mVar 2) mNil) [])) (tNm 15) (cntB C))))))
theorem cntB_ok (hT : Tree φ0 T) (hT1 : Tree φ1 T) (t : Three T by_ A1 A2 A3 W i m S) (hf : ∀ j, (m.fallen j).length ≤ 1000) {x : Nd} (hx : x ∈ T.nds) :
    ∃ S', cntB (callF prog (d + 12)) [n0, some (.ref b), Tv, some (.int by_), some (.ref A1.h), some (.ref A2.h), some (.ref A3.h), y7, y8, y9, y10, y11, y12, y13, y14, some (x.va φ0)] S = .ok (.nx [n0, some (.ref b), Tv, some (.int by_), some (.ref A1.h), some (.ref A2.h), some (.ref A3.h), y7, y8, y9, y10, y11, y12, y13, y14, some (x.va φ0)]) S' ∧ Fr [] S S' := by
  rw [← Nd.lrn_nds T none] at hx
  obtain ⟨e, he, ex⟩ := List.mem_map.mp hx
  have hnm := (Nd.lrn_sub T none e he).2.2.2.2
  unfold cntB
  cases x with
  | wk s =>
    refine ⟨S, ?_, Fr.refl _ _⟩
    rw [ifs_f (S1 := S) (and_f (bool_ok (by
      rw [wk_va]
      show R.ok (Va.bl (decide (s4 = s1))) S = _
      rw [s4_s1])))]
    rfl
  | kp s mode most span ch =>
    obtain ⟨s', x', up⟩ := e
    have e1 : x' = Nd.kp s mode most span ch := ex
    subst e1
    have e2 : s = s' := hnm
    subst e2
    obtain ⟨Sa, ea, Fa⟩ := counted23 (d := d + 11) φ0_inj hT t.r1 he (hf s)
    have ta := t.none Fa
    obtain ⟨Sb, eb, Fb⟩ := counted23 (d := d + 11) φ1_inj hT1 ta.r3 he (hf s)
    refine ⟨Sb, ?_, Fa.trans Fb⟩
    have c1 : mBool (mBin gEq (mIx (mVar 15) (mC (.int 0))) (mC (.str s1))) [n0, some (.ref b), Tv, some (.int by_), some (.ref A1.h), some (.ref A2.h), some (.ref A3.h), y7, y8, y9, y10, y11, y12, y13, y14, some ((Nd.kp s mode most span ch).va φ0)] S = .ok true S := bool_ok (by
      rw [kp_va]
      show R.ok (Va.bl (decide (s1 = s1))) S = _
      rw [decide_eq_true rfl])
    have nm : ∀ S, mIx (mVar 15) (mC (.int 1)) [n0, some (.ref b), Tv, some (.int by_), some (.ref A1.h), some (.ref A2.h), some (.ref A3.h), y7, y8, y9, y10, y11, y12, y13, y14, some ((Nd.kp s mode most span ch).va φ0)] S = .ok (.str (φ0 s)) S := fun S => by rw [kp_va]; rfl
    have nx : ∀ S, mBin gAdd (mC (.str s0)) (mIx (mVar 15) (mC (.int 1))) [n0, some (.ref b), Tv, some (.int by_), some (.ref A1.h), some (.ref A2.h), some (.ref A3.h), y7, y8, y9, y10, y11, y12, y13, y14, some ((Nd.kp s mode most span ch).va φ0)] S = .ok (.str (φ1 s)) S := fun S => by rw [bin_ok rfl (nm S)]; rfl
    rw [ifs_f (S1 := Sb) (by
      rw [and_t c1]
      refine bool_ok ?_
      rw [bin_ok (S1 := Sa) (by rw [meth_ok rfl t.r1.obj (cons_ok (nm S) rfl)]; exact ea) (by rw [meth_ok rfl ta.r3.obj (cons_ok (nx Sa) rfl)]; exact eb)]
      unfold gNe
      rw [show veq Sb (.int ((m.fallen s).filter fun t => decide (m.clock - span < t)).length) (.int ((m.fallen s).filter fun t => decide (m.clock - span < t)).length) = some true from by
        show some (decide _) = _
        rw [decide_eq_true rfl]] <;> rfl)]
    rfl
theorem endB_ok (hT : Tree φ0 T) (hT1 : Tree φ1 T) (hT26 : ∀ i ∈ T.nms, i < 26) (t : Three T by_ A1 A2 A3 W i m S) (mo : MdOk T 1000 m) (hr : 1601 * i ≤ 900000) :
    ∃ z10 z11 z12 z13 z14 z15 S', endB (callF prog (d + 12)) [n0, some (.ref b), some (T.va φ0), some (.int by_), some (.ref A1.h), some (.ref A2.h), some (.ref A3.h), y7, y8, y9, y10, y11, y12, y13, y14, y15] S = .ok (.nx [n0, some (.ref b), some (T.va φ0), some (.int by_), some (.ref A1.h), some (.ref A2.h), some (.ref A3.h), y7, y8, y9, z10, z11, z12, z13, z14, z15]) S' ∧ Fr [] S S' := by
  have hwl : T.wks.length ≤ 100 := by have := hT.len; have := Nd.wks_le T; omega
  obtain ⟨L1, S1, a1, g1', l1, _, F1⟩ := workers32 (φ := φ0) (d + 11) T S (by have := hT.dep; omega) (by have := hT.len; omega)
  have t1 := t.none F1
  have ro0 : ∀ r ∈ allRows T m, PyData.strOk r.2.1 = true ∧ r.2.2 < 26 := fun r hr => by
    rcases List.mem_append.mp hr with z | z
    · obtain ⟨w, hw, rfl⟩ := List.mem_map.mp z
      exact ⟨show PyData.strOk s2 = true by decide +kernel, hT26 w (wks_nms hw)⟩
    · exact ⟨(mo.rows r z).1, hT26 _ (mo.rows r z).2⟩
  have hal : (allRows T m).length ≤ 1000000 := by
    unfold allRows
    rw [List.length_append, List.length_map]
    have := t.r1.nrow
    omega
  -- start
  unfold endB
  rw [seq_nx (e1 := [n0, some (.ref b), some (T.va φ0), some (.int by_), some (.ref A1.h), some (.ref A2.h), some (.ref A3.h), y7, y8, y9, y10, some (.int (T.wks.length : Nat)), y12, y13, y14, y15]) (S1 := S1) (set_ok (v := .int (T.wks.length : Nat)) (by
    have c : mCall (callF prog (d + 12)) 32 (mCons (mVar 2) mNil) [] [n0, some (.ref b), some (T.va φ0), some (.int by_), some (.ref A1.h), some (.ref A2.h), some (.ref A3.h), y7, y8, y9, y10, y11, y12, y13, y14, y15] S = .ok (.ref L1) S1 := a1
    rw [bi_ok (cons_ok c rfl)]
    unfold gLen g1 seqOf
    try dsimp only
    rw [g1']
    try dsimp only
    rw [List.length_map]) rfl)]
  -- rows
  obtain ⟨S2, eS2⟩ : ∃ S2, S1.new (.lst ((allRows T m).map (rowV φ0 0))) = S2 := ⟨_, rfl⟩
  have F2 : Fr [] S1 S2 := eS2 ▸ Fr.new [] _ _
  have g2' : S2.get S1.n = some (.lst ((allRows T m).map (rowV φ0 0))) := by rw [← eS2]; exact Sto.get_new
  have t2 := t1.none F2
  rw [seq_nx (e1 := [n0, some (.ref b), some (T.va φ0), some (.int by_), some (.ref A1.h), some (.ref A2.h), some (.ref A3.h), y7, y8, y9, y10, some (.int (T.wks.length : Nat)), some (.ref S1.n), y13, y14, y15]) (S1 := S2) (set_ok (v := .ref S1.n) (by
    rw [meth_ok rfl t1.r1.obj rfl, ← eS2, ← allRows_map]
    exact log24 (d := d + 11) t1.r1) rfl)]
  -- the later rows, all times as much later
  have hsl : (((allRows T m).map (rowV φ0 0)).drop T.wks.length) = m.rows.map (rowV φ0 0) := by
    rw [← allRows_map]
    have : (T.wks.map (startV φ0)).length = T.wks.length := List.length_map ..
    rw [← this, List.drop_left]
  obtain ⟨S3, eS3⟩ : ∃ S3, S2.new (.lst (m.rows.map (rowV φ0 0))) = S3 := ⟨_, rfl⟩
  have F3 : Fr [] S2 S3 := eS3 ▸ Fr.new [] _ _
  have g3' : S3.get S2.n = some (.lst (m.rows.map (rowV φ0 0))) := by rw [← eS3]; exact Sto.get_new
  have sl3 : mSl (mVar 12) (mPart (mVar 11)) mNoP [n0, some (.ref b), some (T.va φ0), some (.int by_), some (.ref A1.h), some (.ref A2.h), some (.ref A3.h), y7, y8, y9, y10, some (.int (T.wks.length : Nat)), some (.ref S1.n), y13, y14, y15] S2 = .ok (.ref S2.n) S3 := by
    show (match S2.get S1.n with | some (.lst xs) => R.ok (Va.ref S2.n) (S2.new (.lst (cutA xs (some ((T.wks.length : Nat) : Int)) none))) | _ => R.bad) = _
    rw [g2']
    try dsimp only
    rw [cut_drop (by rw [List.length_map]; unfold allRows; rw [List.length_append, List.length_map]; omega), hsl, eS3]
  obtain ⟨D4, S4, k4, g4', l4, _, F4⟩ := lc_map (fi := iSeq (mSl (mVar 12) (mPart (mVar 11)) mNoP)) (t := tTp 3 (tsCons (tNm 13) (tsCons (tNm 14) (tsCons (tNm 10) tsNil)))) (elt := mTup (mCons (mBin gAdd (mVar 13) (mVar 3)) (mCons (mVar 14) (mCons (mVar 10) mNil)))) (vs := [13, 14, 10]) (env := [n0, some (.ref b), some (T.va φ0), some (.int by_), some (.ref A1.h), some (.ref A2.h), some (.ref A3.h), y7, y8, y9, y10, some (.int (T.wks.length : Nat)), some (.ref S1.n), y13, y14, y15]) (S := S2) (S1 := S3) (m := miR S2.n (m.rows.map (rowV φ0 0)).length) (xs := m.rows.map (rowV φ0 0)) (m.rows.map (rowV φ0 by_))
    (seq_R sl3 g3') (items_R g3') (by rw [List.length_map]; have := t.r1.nrow; omega) (by rw [List.length_map, List.length_map]) (fun j x y Sx hx hy f hlt => by
      rw [List.getElem?_map] at hx hy
      cases q : m.rows[j]? with
      | none => rw [q] at hx; cases hx
      | some r =>
        rw [q] at hx hy
        cases hx
        cases hy
        refine ⟨[n0, some (.ref b), some (T.va φ0), some (.int by_), some (.ref A1.h), some (.ref A2.h), some (.ref A3.h), y7, y8, y9, some (.str (φ0 r.2.2)), some (.int (T.wks.length : Nat)), some (.ref S1.n), some (.int (r.1 + 0)), some (.str r.2.1), y15], Sx, rfl, ?_, Fr.refl _ _⟩
        show R.ok (Va.tup [.int (r.1 + 0 + by_), .str r.2.1, .str (φ0 r.2.2)]) Sx = R.ok (Va.tup [.int (r.1 + by_), .str r.2.1, .str (φ0 r.2.2)]) Sx
        rw [Int.add_zero])
  have t4 := t2.none (F3.trans F4)
  obtain ⟨S5, eS5⟩ : ∃ S5, S4.new (.lst (T.wks.map (startV φ0) ++ m.rows.map (rowV φ0 by_))) = S5 := ⟨_, rfl⟩
  have F5 : Fr [] S4 S5 := eS5 ▸ Fr.new [] _ _
  have g5' : S5.get S4.n = some (.lst (T.wks.map (startV φ0) ++ m.rows.map (rowV φ0 by_))) := by rw [← eS5]; exact Sto.get_new
  obtain ⟨S6, eS6⟩ : ∃ S6, S5.new (.lst (m.rows.map (rowV φ0 by_))) = S6 := ⟨_, rfl⟩
  have F6 : Fr [] S5 S6 := eS6 ▸ Fr.new [] _ _
  have sl6 : mSl (mMeth (callF prog (d + 12)) (Mi.M1 0 24 []) (mVar 5) mNil) (mPart (mVar 11)) mNoP [n0, some (.ref b), some (T.va φ0), some (.int by_), some (.ref A1.h), some (.ref A2.h), some (.ref A3.h), y7, y8, y9, y10, some (.int (T.wks.length : Nat)), some (.ref S1.n), y13, y14, y15] S4 = .ok (.ref S5.n) S6 := by
    have e : mMeth (callF prog (d + 12)) (Mi.M1 0 24 []) (mVar 5) mNil [n0, some (.ref b), some (T.va φ0), some (.int by_), some (.ref A1.h), some (.ref A2.h), some (.ref A3.h), y7, y8, y9, y10, some (.int (T.wks.length : Nat)), some (.ref S1.n), y13, y14, y15] S4 = .ok (.ref S4.n) S5 := by
      rw [meth_ok rfl t4.r2.obj rfl, ← eS5]
      exact log24 (d := d + 11) t4.r2
    unfold mSl
    rw [e, bind_ok]
    show (match S5.get S4.n with | some (.lst xs) => R.ok (Va.ref S5.n) (S5.new (.lst (cutA xs (some ((T.wks.length : Nat) : Int)) none))) | _ => R.bad) = _
    rw [g5']
    try dsimp only
    have : (T.wks.map (startV φ0)).length = T.wks.length := List.length_map ..
    rw [cut_drop (by rw [List.length_append, this]; omega), ← this, List.drop_left, eS6]
  have c1 : mBool (mBin gNe (mLc (iSeq (mSl (mVar 12) (mPart (mVar 11)) mNoP)) (tTp 3 (tsCons (tNm 13) (tsCons (tNm 14) (tsCons (tNm 10) tsNil)))) mYes (mTup (mCons (mBin gAdd (mVar 13) (mVar 3)) (mCons (mVar 14) (mCons (mVar 10) mNil)))) [13, 14, 10]) (mSl (mMeth (callF prog (d + 12)) (Mi.M1 0 24 []) (mVar 5) mNil) (mPart (mVar 11)) mNoP)) [n0, some (.ref b), some (T.va φ0), some (.int by_), some (.ref A1.h), some (.ref A2.h), some (.ref A3.h), y7, y8, y9, y10, some (.int (T.wks.length : Nat)), some (.ref S1.n), y13, y14, y15] S2 = .ok false S6 := by
    refine bool_ok ?_
    rw [bin_ok k4 sl6]
    unfold gNe
    rw [eq_rows (fun r hr => ⟨(mo.rows r hr).1, nm0 _ (hT26 _ (mo.rows r hr).2)⟩) (F6.at (F5.at g4' (by simp)) (by simp)) (by rw [← eS6]; exact Sto.get_new)] <;> rfl
  rw [seq_nx (e1 := [n0, some (.ref b), some (T.va φ0), some (.int by_), some (.ref A1.h), some (.ref A2.h), some (.ref A3.h), y7, y8, y9, y10, some (.int (T.wks.length : Nat)), some (.ref S1.n), y13, y14, y15]) (S1 := S6) (by rw [ifs_f (S1 := S6) c1]; rfl)]
  have t6 := t4.none (F5.trans F6)
  have g26 := F6.at (F5.at (F4.at (F3.at g2' (by simp)) (by simp)) (by simp)) (by simp)
  -- the third by the new names
  obtain ⟨D7, S7, k7, g7', l7, _, F7⟩ := lc_map (fi := iSeq (mVar 12)) (t := tTp 3 (tsCons (tNm 13) (tsCons (tNm 14) (tsCons (tNm 10) tsNil)))) (elt := mTup (mCons (mVar 13) (mCons (mVar 14) (mCons (mBin gAdd (mC (.str s0)) (mVar 10)) mNil)))) (vs := [13, 14, 10]) (env := [n0, some (.ref b), some (T.va φ0), some (.int by_), some (.ref A1.h), some (.ref A2.h), some (.ref A3.h), y7, y8, y9, y10, some (.int (T.wks.length : Nat)), some (.ref S1.n), y13, y14, y15]) (S := S6) (S1 := S6) (m := miR S1.n ((allRows T m).map (rowV φ0 0)).length) (xs := (allRows T m).map (rowV φ0 0)) ((allRows T m).map (rowV φ1 0))
    (seq_R rfl g26) (items_R g26) (by rw [List.length_map]; exact hal) (by rw [List.length_map, List.length_map]) (fun j x y Sx hx hy f hlt => by
      rw [List.getElem?_map] at hx hy
      cases q : (allRows T m)[j]? with
      | none => rw [q] at hx; cases hx
      | some r =>
        rw [q] at hx hy
        cases hx
        cases hy
        refine ⟨[n0, some (.ref b), some (T.va φ0), some (.int by_), some (.ref A1.h), some (.ref A2.h), some (.ref A3.h), y7, y8, y9, some (.str (φ0 r.2.2)), some (.int (T.wks.length : Nat)), some (.ref S1.n), some (.int (r.1 + 0)), some (.str r.2.1), y15], Sx, rfl, ?_, Fr.refl _ _⟩
        rfl)
  have t7 := t6.none F7
  obtain ⟨S8, eS8⟩ : ∃ S8, S7.new (.lst ((allRows T m).map (rowV φ1 0))) = S8 := ⟨_, rfl⟩
  have F8 : Fr [] S7 S8 := eS8 ▸ Fr.new [] _ _
  have c2 : mBool (mBin gNe (mLc (iSeq (mVar 12)) (tTp 3 (tsCons (tNm 13) (tsCons (tNm 14) (tsCons (tNm 10) tsNil)))) mYes (mTup (mCons (mVar 13) (mCons (mVar 14) (mCons (mBin gAdd (mC (.str s0)) (mVar 10)) mNil)))) [13, 14, 10]) (mMeth (callF prog (d + 12)) (Mi.M1 0 24 []) (mVar 6) mNil)) [n0, some (.ref b), some (T.va φ0), some (.int by_), some (.ref A1.h), some (.ref A2.h), some (.ref A3.h), y7, y8, y9, y10, some (.int (T.wks.length : Nat)), some (.ref S1.n), y13, y14, y15] S6 = .ok false S8 := by
    have e : mMeth (callF prog (d + 12)) (Mi.M1 0 24 []) (mVar 6) mNil [n0, some (.ref b), some (T.va φ0), some (.int by_), some (.ref A1.h), some (.ref A2.h), some (.ref A3.h), y7, y8, y9, y10, some (.int (T.wks.length : Nat)), some (.ref S1.n), y13, y14, y15] S7 = .ok (.ref S7.n) S8 := by
      rw [meth_ok rfl t7.r3.obj rfl, ← eS8, ← allRows_map]
      exact log24 (d := d + 11) t7.r3
    refine bool_ok ?_
    rw [bin_ok k7 e]
    unfold gNe
    rw [eq_rows (fun r hr => ⟨(ro0 r hr).1, nm1 _ (ro0 r hr).2⟩) (F8.at g7' (by simp)) (by rw [← eS8]; exact Sto.get_new)] <;> rfl
  rw [seq_nx (e1 := [n0, some (.ref b), some (T.va φ0), some (.int by_), some (.ref A1.h), some (.ref A2.h), some (.ref A3.h), y7, y8, y9, y10, some (.int (T.wks.length : Nat)), some (.ref S1.n), y13, y14, y15]) (S1 := S8) (by rw [ifs_f (S1 := S8) c2]; rfl)]
  have t8 := t7.none F8
  -- counts
  obtain ⟨L9, S9, a9, g9', l9, _, F9⟩ := nodes33 (φ := φ0) (d + 11) T S8 (by have := hT.dep; omega) (by have := hT.len; omega)
  have t9 := t8.none F9
  have e9 : mCall (callF prog (d + 12)) 33 (mCons (mVar 2) mNil) [] [n0, some (.ref b), some (T.va φ0), some (.int by_), some (.ref A1.h), some (.ref A2.h), some (.ref A3.h), y7, y8, y9, y10, some (.int (T.wks.length : Nat)), some (.ref S1.n), y13, y14, y15] S8 = .ok (.ref L9) S9 := a9
  have lp := for_list' (fi := iSeq (mCall (callF prog (d + 12)) 33 (mCons (mVar 2) mNil) [])) (t := tNm 15) (body := cntB (callF prog (d + 12))) (env := [n0, some (.ref b), some (T.va φ0), some (.int by_), some (.ref A1.h), some (.ref A2.h), some (.ref A3.h), y7, y8, y9, y10, some (.int (T.wks.length : Nat)), some (.ref S1.n), y13, y14, y15]) (S := S8) (S1 := S9) (a := L9) (xs := T.nds.map (Nd.va φ0))
    (fun j env S' => (∃ z, env = [n0, some (.ref b), some (T.va φ0), some (.int by_), some (.ref A1.h), some (.ref A2.h), some (.ref A3.h), y7, y8, y9, y10, some (.int (T.wks.length : Nat)), some (.ref S1.n), y13, y14, z]) ∧ Fr [] S9 S') (fun _ _ => False)
    (seq_R e9 g9') ⟨⟨_, rfl⟩, Fr.refl _ _⟩ (fun j env S' h => h.2.at g9' (by simp)) (fun j v env S' hv ⟨⟨z, he⟩, h2⟩ => by
      subst he
      rw [List.getElem?_map] at hv
      cases q : T.nds[j]? with
      | none => rw [q] at hv; cases hv
      | some x =>
        rw [q] at hv
        cases hv
        obtain ⟨Sx, ex, Fx⟩ := cntB_ok (d := d) (b := b) (n0 := n0) (Tv := some (T.va φ0)) (y7 := y7) (y8 := y8) (y9 := y9) (y10 := y10) (y11 := some (.int (T.wks.length : Nat))) (y12 := some (.ref S1.n)) (y13 := y13) (y14 := y14) hT hT1 (t9.none h2) mo.fal (List.mem_of_getElem? q)
        refine ⟨[n0, some (.ref b), some (T.va φ0), some (.int by_), some (.ref A1.h), some (.ref A2.h), some (.ref A3.h), y7, y8, y9, y10, some (.int (T.wks.length : Nat)), some (.ref S1.n), y13, y14, some (x.va φ0)], rfl, ?_⟩
        rw [ex]
        exact ⟨⟨_, rfl⟩, h2.trans Fx⟩)
  obtain ⟨e10, S10, q10, ⟨z, rfl⟩, F10⟩ := loop_nx lp
  exact ⟨y10, _, _, y13, y14, z, S10, q10, F1.trans (F2.trans (F3.trans (F4.trans (F5.trans (F6.trans (F7.trans (F8.trans (F9.trans F10))))))))⟩
end
end Mi
namespace Mi
open PySem PySem.Spec PyProof.Rows L2 Pg
/-- a house is made -/
theorem mk_house {φ : Nat → Str} (inj : ∀ i j, φ i = φ j → i = j) {T : Nd} (hT : Tree φ T) {d : Nat} {S : Sto} {W0 : List Nat} (hW0 : ∀ x ∈ W0, x < S.n) :
    ∃ A S', callF prog (d + 12) 10 [.ref S.n, T.va φ] (S.new (.ins 0 [])) = .ok .non S' ∧ A.h = S.n ∧ HRep φ T 0 A (W0 ++ A.muts) 0 0 M0 S' ∧ (∀ x ∈ A.muts, S.n ≤ x ∧ x < S'.n) ∧ Fr [] S S' := by
  obtain ⟨A, S', h1, h2, h3, h4, h5⟩ := init10 (d := d + 3) (h := S.n) (S := S.new (.ins 0 [])) inj hT Sto.get_new (fun x hx => Nat.lt_succ_of_lt (hW0 x hx)) (fun z => Nat.lt_irrefl _ (hW0 _ z))
  refine ⟨A, S', h2, h1, h3, fun x hx => ?_, ((Fr.new [S.n] S _).trans h5).old fun z hz hzl => ?_⟩
  · have := h4 x hx
    have e : (S.new (.ins 0 [])).n = S.n + 1 := rfl
    omega
  · have := List.mem_singleton.mp hz
    omega
def treeB (C : CO) : SF := (mSeq (mFor (iRange1 (mCons (mC (.int 60)) mNil)) (tNm 7) (turnB C)) (endB C))
def bagB (C : CO) : SF := (mSeq (mSet (tNm 2) (mCall C 31 (mCons (mVar 1) (mCons (mC (.int 4)) (mCons (mLst mNil) mNil))) []))
    (mSeq (mSet (tNm 3) (mBin gAdd (mC (.int 1)) (mCall C 29 (mCons (mVar 1) (mCons (mBin gPow (mC (.int 10)) (mC (.int 6))) mNil)) [])))
    (mSeq (mPar3 4 5 6 (mCons (mMake C 0 10 (mCons (mVar 2) mNil) []) (mCons (mMake C 0 10 (mCons (mVar 2) mNil) []) (mCons (mMake C 0 10 (mCons (mCall C 34 (mCons (mVar 2) mNil) []) mNil) []) mNil))))
    (mSeq (mExpr (mMeth C (Mi.M1 0 13 []) (mVar 5) (mCons (mVar 3) mNil))) (treeB C)))))
theorem f35_eq (C : CO) : f35 C = mSeq (mFor (iSeq (mCall C 30 (mCons (mVar 0) (mCons (mC (.int 5)) mNil)) [])) (tNm 1) (bagB C)) (mRet (mC (.bl true))) := rfl
theorem treeB_ok {T : Nd} {by_ : Int} {A1 A2 A3 : Ad} {W : List Nat} {d b n : Nat} {S : Sto} {n0 y7 y8 y9 y10 y11 y12 y13 y14 y15 : Option Va}
    (hT : Tree φ0 T) (hT1 : Tree φ1 T) (hT26 : ∀ i ∈ T.nms, i < 26) (ap : Apart b W A1 A2 A3) (hW : ∀ x ∈ W, x < S.n) (t : Three T by_ A1 A2 A3 W 0 M0 S) (hb : Bag n b S) (hn : n < 800000) (h0 : 0 ≤ by_) (h1 : by_ ≤ 1000000) :
    ∃ z7 z8 z9 z10 z11 z12 z13 z14 z15 S', treeB (callF prog (d + 12)) [n0, some (.ref b), some (T.va φ0), some (.int by_), some (.ref A1.h), some (.ref A2.h), some (.ref A3.h), y7, y8, y9, y10, y11, y12, y13, y14, y15] S = .ok (.nx [n0, some (.ref b), some (T.va φ0), some (.int by_), some (.ref A1.h), some (.ref A2.h), some (.ref A3.h), z7, z8, z9, z10, z11, z12, z13, z14, z15]) S' ∧ Fr W S S' := by
  have lp := for_rng (fi := iRange1 (mCons (mC (.int 60)) mNil)) (t := tNm 7) (body := turnB (callF prog (d + 12))) (env := [n0, some (.ref b), some (T.va φ0), some (.int by_), some (.ref A1.h), some (.ref A2.h), some (.ref A3.h), y7, y8, y9, y10, y11, y12, y13, y14, y15]) (S := S) (lo := 0) (n := 60)
    (fun i env S' => (∃ x7 x8 x9 x10, env = [n0, some (.ref b), some (T.va φ0), some (.int by_), some (.ref A1.h), some (.ref A2.h), some (.ref A3.h), x7, x8, x9, x10, y11, y12, y13, y14, y15]) ∧ ∃ m, Three T by_ A1 A2 A3 W i m S' ∧ MdOk T (4 * i) m ∧ 0 ≤ m.clock ∧ m.clock ≤ 7 * (i : Int) ∧ Bag (n + 2 * i) b S' ∧ Fr W S S') (fun _ _ => False) rfl
    ⟨⟨_, _, _, _, rfl⟩, M0, t, ⟨fun _ => Nat.zero_le _, fun h => (by cases h), fun r hr => (by cases hr)⟩, Int.le_refl _, by show (0 : Int) ≤ 7 * ((0 : Nat) : Int); omega, hb, Fr.refl _ _⟩
    (fun i env S' hi ⟨⟨x7, x8, x9, x10, he⟩, m, t', mo, c0, c1, hb', F'⟩ => by
      subst he
      obtain ⟨z8, z9, z10, m', S2, e, h2, h3, h4, h5, h6, h7⟩ := turnB_ok (d := d) (n0 := n0) (Tv := some (T.va φ0)) (y7 := some (.int (0 + i))) (y8 := x8) (y9 := x9) (y10 := x10) (y11 := y11) (y12 := y12) (y13 := y13) (y14 := y14) (y15 := y15) hT hT1 hT26 ap (fun x hx => Nat.lt_of_lt_of_le (hW x hx) F'.le) t' mo hb' (by omega) h0 h1 c0 c1 hi
      refine ⟨[n0, some (.ref b), some (T.va φ0), some (.int by_), some (.ref A1.h), some (.ref A2.h), some (.ref A3.h), some (.int (0 + i)), x8, x9, x10, y11, y12, y13, y14, y15], rfl, ?_⟩
      rw [e]
      exact ⟨⟨_, _, _, _, rfl⟩, m', h2, h3, h4, h5, h6.mono (by omega), F'.trans h7⟩)
  obtain ⟨e1, S1, q1, ⟨x7, x8, x9, x10, rfl⟩, m, t1, mo, _, _, _, F1⟩ := loop_nx lp
  obtain ⟨z10, z11, z12, z13, z14, z15, S2, q2, F2⟩ := endB_ok (d := d) (b := b) (n0 := n0) (y7 := x7) (y8 := x8) (y9 := x9) (y10 := x10) (y11 := y11) (y12 := y12) (y13 := y13) (y14 := y14) (y15 := y15) hT hT1 hT26 t1 ⟨fun j => Nat.le_trans (mo.fal j) (by omega), mo.down, mo.rows⟩ (by omega)
  exact ⟨x7, x8, x9, z10, z11, z12, z13, z14, z15, S2, by unfold treeB; rw [seq_nx q1]; exact q2, F1.trans (F2.mono (fun _ z => nomatch z))⟩
theorem bagB_ok {d b : Nat} {n0 y2 y3 y4 y5 y6 y7 y8 y9 y10 y11 y12 y13 y14 y15 : Option Va} {S : Sto} (hb : Bag 61551 b S) :
    ∃ z2 z3 z4 z5 z6 z7 z8 z9 z10 z11 z12 z13 z14 z15 S', bagB (callF prog (d + 12)) [n0, some (.ref b), y2, y3, y4, y5, y6, y7, y8, y9, y10, y11, y12, y13, y14, y15] S = .ok (.nx [n0, some (.ref b), z2, z3, z4, z5, z6, z7, z8, z9, z10, z11, z12, z13, z14, z15]) S' ∧ Fr [b] S S' := by
  have hbl := hb.lt
  -- the tree
  obtain ⟨S1, eS1⟩ : ∃ S1, S.new (.lst []) = S1 := ⟨_, rfl⟩
  have F1 : Fr [] S S1 := eS1 ▸ Fr.new [] _ _
  have g1' : S1.get S.n = some (.lst []) := by rw [← eS1]; exact Sto.get_new
  obtain ⟨T, S2, e2, hT, hT1, hT26, hb2, F2⟩ := tree31 (b := b) (Na := S.n) (D := d + 6) (n := 61551) (by omega) (by omega) (hb.fr F1 (by simp)) g1'
  have e31 : mCall (callF prog (d + 12)) 31 (mCons (mVar 1) (mCons (mC (.int 4)) (mCons (mLst mNil) mNil))) [] [n0, some (.ref b), y2, y3, y4, y5, y6, y7, y8, y9, y10, y11, y12, y13, y14, y15] S = .ok (T.va φ0) S2 := by
    have l : mLst mNil [n0, some (.ref b), y2, y3, y4, y5, y6, y7, y8, y9, y10, y11, y12, y13, y14, y15] S = .ok (.ref S.n) S1 := by rw [← eS1]; rfl
    rw [call_ok' (cons_ok rfl (cons_ok rfl (cons_ok l rfl)))]
    exact e2
  unfold bagB
  rw [seq_nx (e1 := [n0, some (.ref b), some (T.va φ0), y3, y4, y5, y6, y7, y8, y9, y10, y11, y12, y13, y14, y15]) (S1 := S2) (set_ok e31 rfl)]
  -- by
  have pw : mBin gPow (mC (.int 10)) (mC (.int 6)) [n0, some (.ref b), some (T.va φ0), y3, y4, y5, y6, y7, y8, y9, y10, y11, y12, y13, y14, y15] S2 = .ok (.int 1000000) S2 := by
    show (match okPow 10 6 with | true => R.ok (Va.int (10 ^ (6 : Int).toNat)) S2 | false => .bad) = _
    rw [show okPow 10 6 = true by decide]
    rfl
  obtain ⟨r, S3, e3, r0, r1, hb3, F3⟩ := draw29 (E := d + 12) (d + 11) (j := 1) (f := mBin gPow (mC (.int 10)) (mC (.int 6))) (env := [n0, some (.ref b), some (T.va φ0), y3, y4, y5, y6, y7, y8, y9, y10, y11, y12, y13, y14, y15]) rfl rfl pw hb2 (by omega) (by omega) (by omega)
  rw [seq_nx (e1 := [n0, some (.ref b), some (T.va φ0), some (.int (1 + r)), y4, y5, y6, y7, y8, y9, y10, y11, y12, y13, y14, y15]) (S1 := S3) (set_ok (v := .int (1 + r)) (by rw [bin_ok rfl e3] <;> rfl) rfl)]
  obtain ⟨by_, eby⟩ : ∃ x, 1 + r = x := ⟨_, rfl⟩
  rw [eby]
  have hbl3 := hb3.lt
  -- three houses
  obtain ⟨A1, S4, m1, a1, k1, u1, F4⟩ := mk_house (d := d) (S := S3) (W0 := [b]) φ0_inj hT (fun x hx => by rw [List.mem_singleton.mp hx]; exact hbl3)
  have l4 := F4.le
  obtain ⟨A2, S5, m2, a2, k2, u2, F5⟩ := mk_house (d := d) (S := S4) (W0 := [b] ++ A1.muts) φ0_inj hT (fun x hx => by
    rcases List.mem_append.mp hx with z | z
    · rw [List.mem_singleton.mp z]; omega
    · exact (u1 x z).2)
  have l5 := F5.le
  obtain ⟨S6, m6, F6⟩ := called34 (φ := φ0) (ψ := φ1) (fun i => rfl) (fun i => show 1 ≤ 100 by omega) (d + 11) T S5 (by have := hT.dep; omega) (by have := hT.len; omega)
  have l6 := F6.le
  obtain ⟨A3, S7, m3, a3, k3, u3, F7⟩ := mk_house (d := d) (S := S6) (W0 := ([b] ++ A1.muts) ++ A2.muts) φ1_inj hT1 (fun x hx => by
    rcases List.mem_append.mp hx with z | z
    · rcases List.mem_append.mp z with z | z
      · rw [List.mem_singleton.mp z]; omega
      · have := (u1 x z).2; omega
    · have := (u2 x z).2; omega)
  have l7 := F7.le
  obtain ⟨W, eW⟩ : ∃ W, (([b] ++ A1.muts) ++ A2.muts) ++ A3.muts = W := ⟨_, rfl⟩
  have inW : ∀ x, x ∈ W ↔ (x = b ∨ x ∈ A1.muts) ∨ x ∈ A2.muts ∨ x ∈ A3.muts := fun x => by
    rw [← eW]
    simp only [List.mem_append, List.mem_singleton]
    exact ⟨fun h => by rcases h with ((h | h) | h) | h <;> simp [h], fun h => by rcases h with (h | h) | h | h <;> simp [h]⟩
  have ap : Apart b W A1 A2 A3 := by
    refine ⟨fun x h => (inW x).mpr (by simp [h]), fun x h => (inW x).mpr (by simp [h]), fun x h => (inW x).mpr (by simp [h]), fun x h z => ?_, fun x h z => ?_, fun x h z => ?_, (inW b).mpr (by simp), fun z => ?_, fun z => ?_, fun z => ?_⟩
    · have := (u1 x h).2; have := (u2 x z).1; omega
    · have := (u1 x h).2; have := (u3 x z).1; omega
    · have := (u2 x h).2; have := (u3 x z).1; omega
    · have := (u1 b z).1; omega
    · have := (u2 b z).1; omega
    · have := (u3 b z).1; omega
  have j1 : HRep φ0 T 0 A1 W 0 0 M0 S7 := (((k1.grow (W2 := W) (fun x hx => (inW x).mpr (by
      rcases List.mem_append.mp hx with z | z
      · exact .inl (.inl (List.mem_singleton.mp z))
      · exact .inl (.inr z))) (fun x hx => by
    rcases (inW x).mp hx with (z | z) | z | z
    · exact .inl (List.mem_append_left _ (by rw [z]; exact List.mem_singleton.mpr rfl))
    · exact .inl (List.mem_append_right _ z)
    · exact .inr (u2 x z).1
    · exact .inr (by have := (u3 x z).1; omega))).none F5).none F6).none F7
  have j2 : HRep φ0 T 0 A2 W 0 0 M0 S7 := ((k2.grow (W2 := W) (fun x hx => (inW x).mpr (by
      rcases List.mem_append.mp hx with z | z
      · rcases List.mem_append.mp z with z | z
        · exact .inl (.inl (List.mem_singleton.mp z))
        · exact .inl (.inr z)
      · exact .inr (.inl z))) (fun x hx => by
    rcases (inW x).mp hx with (z | z) | z | z
    · exact .inl (List.mem_append_left _ (List.mem_append_left _ (by rw [z]; exact List.mem_singleton.mpr rfl)))
    · exact .inl (List.mem_append_left _ (List.mem_append_right _ z))
    · exact .inl (List.mem_append_right _ z)
    · exact .inr (by have := (u3 x z).1; omega))).none F6).none F7
  have j3 : HRep φ1 T 0 A3 W 0 0 M0 S7 := by rw [← eW]; exact k3
  have pr : mPar3 4 5 6 (mCons (mMake (callF prog (d + 12)) 0 10 (mCons (mVar 2) mNil) []) (mCons (mMake (callF prog (d + 12)) 0 10 (mCons (mVar 2) mNil) []) (mCons (mMake (callF prog (d + 12)) 0 10 (mCons (mCall (callF prog (d + 12)) 34 (mCons (mVar 2) mNil) []) mNil) []) mNil))) [n0, some (.ref b), some (T.va φ0), some (.int by_), y4, y5, y6, y7, y8, y9, y10, y11, y12, y13, y14, y15] S3 = .ok (.nx [n0, some (.ref b), some (T.va φ0), some (.int by_), some (.ref A1.h), some (.ref A2.h), some (.ref A3.h), y7, y8, y9, y10, y11, y12, y13, y14, y15]) S7 := by
    have x1 : mMake (callF prog (d + 12)) 0 10 (mCons (mVar 2) mNil) [] [n0, some (.ref b), some (T.va φ0), some (.int by_), y4, y5, y6, y7, y8, y9, y10, y11, y12, y13, y14, y15] S3 = .ok (.ref A1.h) S4 := by
      show ((callF prog (d + 12) 10 [.ref S3.n, T.va φ0] (S3.new (.ins 0 []))).bind fun v S2 => match v with | .non => R.ok (Va.ref S3.n) S2 | _ => R.bad) = _
      rw [m1, a1] <;> rfl
    have x2 : mMake (callF prog (d + 12)) 0 10 (mCons (mVar 2) mNil) [] [n0, some (.ref b), some (T.va φ0), some (.int by_), y4, y5, y6, y7, y8, y9, y10, y11, y12, y13, y14, y15] S4 = .ok (.ref A2.h) S5 := by
      show ((callF prog (d + 12) 10 [.ref S4.n, T.va φ0] (S4.new (.ins 0 []))).bind fun v S2 => match v with | .non => R.ok (Va.ref S4.n) S2 | _ => R.bad) = _
      rw [m2, a2] <;> rfl
    have x34 : mCall (callF prog (d + 12)) 34 (mCons (mVar 2) mNil) [] [n0, some (.ref b), some (T.va φ0), some (.int by_), y4, y5, y6, y7, y8, y9, y10, y11, y12, y13, y14, y15] S5 = .ok (T.va φ1) S6 := m6
    have x3 : mMake (callF prog (d + 12)) 0 10 (mCons (mCall (callF prog (d + 12)) 34 (mCons (mVar 2) mNil) []) mNil) [] [n0, some (.ref b), some (T.va φ0), some (.int by_), y4, y5, y6, y7, y8, y9, y10, y11, y12, y13, y14, y15] S5 = .ok (.ref A3.h) S7 := by
      unfold mMake
      rw [cons_ok x34 rfl, bind_ok]
      show ((callF prog (d + 12) 10 [.ref S6.n, T.va φ1] (S6.new (.ins 0 []))).bind fun v S2 => match v with | .non => R.ok (Va.ref S6.n) S2 | _ => R.bad) = _
      rw [m3, a3] <;> rfl
    unfold mPar3
    rw [cons_ok x1 (cons_ok x2 (cons_ok x3 rfl)), bind_ok] <;> rfl
  rw [seq_nx pr]
  -- the second one's clock
  obtain ⟨S8, m8, k8, F8⟩ := go13 (d := d + 9) (t := by_) φ0_inj hT j2 (show (0 : Int) ≤ by_ by omega) (by omega) (by omega)
  rw [Int.add_zero] at m8
  rw [seq_nx (exp_ok (v := .non) (S1 := S8) (by rw [meth_ok rfl j2.obj (cons_ok rfl rfl)]; exact m8))]
  have t8 : Three T by_ A1 A2 A3 W 0 M0 S8 := ⟨j1.fr F8 ap.s2 (fun x h z => ap.d12 x h z), k8.late, j3.fr F8 ap.s2 (fun x h z => ap.d23 x z h)⟩
  have hW8 : ∀ x ∈ W, x < S8.n := fun x hx => by
    have l8 := F8.le
    rcases (inW x).mp hx with (z | z) | z | z
    · omega
    · have := (u1 x z).2; omega
    · have := (u2 x z).2; omega
    · have := (u3 x z).2; omega
  have hb8 : Bag (61551 + 500 + 1) b S8 := (((((hb3.fr F4 (by simp)).fr F5 (by simp)).fr F6 (by simp)).fr F7 (by simp)).fr F8 ap.b2)
  obtain ⟨z7, z8, z9, z10, z11, z12, z13, z14, z15, S9, e9, F9⟩ := treeB_ok (d := d) (n0 := n0) (y7 := y7) (y8 := y8) (y9 := y9) (y10 := y10) (y11 := y11) (y12 := y12) (y13 := y13) (y14 := y14) (y15 := y15) hT hT1 hT26 ap hW8 t8 hb8 (by omega) (by omega) (by omega)
  refine ⟨_, _, _, _, _, z7, z8, z9, z10, z11, z12, z13, z14, z15, S9, e9, ?_⟩
  have F02 : Fr [b] S S3 := ((F1.mono (cs := [b, S.n]) (fun _ z => nomatch z)).trans (F2.trans (F3.mono (by simp)))).old (fun z hz hzl => by simp at hz ⊢; omega)
  have F37 : Fr [] S3 S7 := F4.trans (F5.trans (F6.trans F7))
  have F39 : Fr [b] S3 S9 := ((F37.mono (cs := W) (fun _ z => nomatch z)).trans ((F8.mono ap.s2).trans F9)).old (fun z hz hzl => by
    rcases (inW z).mp hz with (q | q) | q | q
    · rw [q]; exact List.mem_singleton.mpr rfl
    · have := (u1 z q).1; omega
    · have := (u2 z q).1; omega
    · have := (u3 z q).1; omega)
  exact F02.trans F39
theorem law35 {d : Nat} {ns : List Int} (hl : ns.length ≤ 63) : ∃ S, callF prog (d + 13) 35 [.fro (ns.map Va.int)] ⟨0, .nil⟩ = .ok (.bl true) S := by
  rw [callF_succ (df := ⟨1, 16, f35⟩) rfl rfl]
  show ∃ S, runB (f35 (callF prog (d + 12)) [some (.fro (ns.map Va.int)), none, none, none, none, none, none, none, none, none, none, none, none, none, none, none] ⟨0, .nil⟩) = _
  rw [f35_eq]
  obtain ⟨L, bs, S1, e1, gL, hbl, hnd, hbs, F1, hLn⟩ := bags30 (d := d + 10) (S := ⟨0, .nil⟩) hl
  have ec : mCall (callF prog (d + 12)) 30 (mCons (mVar 0) (mCons (mC (.int 5)) mNil)) [] [some (.fro (ns.map Va.int)), none, none, none, none, none, none, none, none, none, none, none, none, none, none, none] ⟨0, .nil⟩ = .ok (.ref L) S1 := e1
  have lp := for_list' (fi := iSeq (mCall (callF prog (d + 12)) 30 (mCons (mVar 0) (mCons (mC (.int 5)) mNil)) [])) (t := tNm 1) (body := bagB (callF prog (d + 12))) (env := [some (.fro (ns.map Va.int)), none, none, none, none, none, none, none, none, none, none, none, none, none, none, none]) (S := ⟨0, .nil⟩) (S1 := S1) (a := L) (xs := bs.map Va.ref)
    (fun i env S => (∃ y1 y2 y3 y4 y5 y6 y7 y8 y9 y10 y11 y12 y13 y14 y15, env = [some (.fro (ns.map Va.int)), y1, y2, y3, y4, y5, y6, y7, y8, y9, y10, y11, y12, y13, y14, y15]) ∧ S.get L = some (.lst (bs.map Va.ref)) ∧ ∀ j b, i ≤ j → bs[j]? = some b → Bag 61551 b S) (fun _ _ => False)
    (seq_R ec gL) ⟨⟨_, _, _, _, _, _, _, _, _, _, _, _, _, _, _, rfl⟩, gL, fun j b _ hb => (hbs b (List.mem_of_getElem? hb)).2.2⟩ (fun i env S h => h.2.1) (fun i v env S hv ⟨⟨y1, y2, y3, y4, y5, y6, y7, y8, y9, y10, y11, y12, y13, y14, y15, he⟩, h2, h3⟩ => by
      subst he
      rw [List.getElem?_map] at hv
      cases q : bs[i]? with
      | none => rw [q] at hv; cases hv
      | some b =>
        rw [q] at hv
        cases hv
        refine ⟨[some (.fro (ns.map Va.int)), some (.ref b), y2, y3, y4, y5, y6, y7, y8, y9, y10, y11, y12, y13, y14, y15], rfl, ?_⟩
        obtain ⟨z2, z3, z4, z5, z6, z7, z8, z9, z10, z11, z12, z13, z14, z15, S', e, F⟩ := bagB_ok (d := d) (n0 := some (.fro (ns.map Va.int))) (y2 := y2) (y3 := y3) (y4 := y4) (y5 := y5) (y6 := y6) (y7 := y7) (y8 := y8) (y9 := y9) (y10 := y10) (y11 := y11) (y12 := y12) (y13 := y13) (y14 := y14) (y15 := y15) (h3 i b (Nat.le_refl _) q)
        rw [e]
        have hbL := (hbs b (List.mem_of_getElem? q)).1
        refine ⟨⟨_, _, _, _, _, _, _, _, _, _, _, _, _, _, _, rfl⟩, F.at h2 (by simp; omega), fun j b' hj hb' => (h3 j b' (by omega) hb').fr F ?_⟩
        intro hm
        have e2 : b' = b := List.mem_singleton.mp hm
        subst e2
        obtain ⟨hi', ei'⟩ := List.getElem?_eq_some_iff.mp q
        obtain ⟨hj', ej'⟩ := List.getElem?_eq_some_iff.mp hb'
        have := (List.getElem_inj hnd).mp (ei'.trans ej'.symm)
        omega)
  obtain ⟨e2, S2, q2, _⟩ := loop_nx lp
  exact ⟨S2, by rw [seq_nx q2] <;> rfl⟩
end Mi
namespace Pg
open PySem PySem.Spec PyProof.Rows L2 Mi
theorem law_true : ∀ ns : List Int, ns.length ≤ 63 → ∃ S, callF prog (12 + 1) 35 [.fro (ns.map Va.int)] ⟨0, .nil⟩ = .ok (.bl true) S := fun ns h => law35 (d := 0) h
end Pg
open PySem PySem.W PySem.Calls PyProof.Rows in
set_option maxRecDepth 100000 in
set_option maxHeartbeats 0 in
theorem PySem.Challenge.cw_faultward_k88_whole_houses_at_other_time_holds : PySem.Challenge.rw_faultward_k88_whole_houses_at_other_time.Holds := by
  w_on; o_law
  refine HandSHeadRun.head_any (r := OpenLaw.row PySem.Challenge.rw_faultward_k88_whole_houses_at_other_time) (q := view (OpenLaw.row PySem.Challenge.rw_faultward_k88_whole_houses_at_other_time).prog [36]) (H := Pg.hk) (ob := Pg.ob) (M := 8000) (loose := Pg.loose) (d := HandSHeadRun.topDef (OpenLaw.row PySem.Challenge.rw_faultward_k88_whole_houses_at_other_time).prog 36) (kwd := []) Pg.ob_eq
    (by kernel_rfl) (fun s => by kernel_rfl) Pg.run (by kernel_rfl) (by kernel_rfl) (by kernel_rfl) (by rfl) (by first | assumption | decide +kernel) (by decide +kernel) ⟨rfl, rfl, rfl, rfl, rfl, by decide +kernel⟩ ?hw ?hc
  case hw => w_witness2
  case hc => exact Pg.whole (d := 12) ⟨rfl, by decide, by decide⟩ Pg.law_true
