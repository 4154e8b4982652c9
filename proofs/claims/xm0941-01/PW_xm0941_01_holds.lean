import PyProof.Rows.All
import Wide.All
import OpenK.AllK
import Wide.FinOn
import Lean
import PySem.Challenge.RW_xm0941_01
set_option Elab.async false
set_option tactic.hygienic false
set_option maxRecDepth 100000
set_option maxHeartbeats 0
set_option linter.unusedVariables false
set_option genSizeOf false
set_option genInjectivity false
namespace Mine
open PySem PySem.W PyProof.Rows PySem.Calls PySem.Spec

/-! names as lists of code points, compared by plain recursion -/
noncomputable abbrev Nm := List Nat
noncomputable def nm (x : Str) : Nm := x.cps.toList
noncomputable def nmEq : Nm → Nm → Bool
  | [], [] => true
  | a :: r, b :: s => match Nat.beq a b with
    | true => nmEq r s
    | false => false
  | _, _ => false
theorem nmEq_iff : ∀ {a b : Nm}, nmEq a b = true ↔ a = b
  | [], [] => by simp [nmEq]
  | [], _ :: _ => by simp [nmEq]
  | _ :: _, [] => by simp [nmEq]
  | a :: r, b :: s => by
    have ih := @nmEq_iff r s
    unfold nmEq
    cases h : Nat.beq a b with
    | true => have := Nat.eq_of_beq_eq_true h; simp [ih, this]
    | false => have := Nat.ne_of_beq_eq_false h; simp [this]
theorem nmEq_ff {a b : Nm} (h : nmEq a b = false) : a ≠ b := fun e => by rw [nmEq_iff.mpr e] at h; cases h
theorem nm_inj {x y : Str} (h : nm x = nm y) : x = y := by
  obtain ⟨⟨a⟩⟩ := x; obtain ⟨⟨b⟩⟩ := y; simp only [nm] at h; rw [h]
noncomputable def stn (l : Nm) : Str := ⟨l.toArray⟩
theorem nm_stn (l : Nm) : nm (stn l) = l := rfl
theorem stn_nm (x : Str) : stn (nm x) = x := rfl
theorem stn_inj {a b : Nm} (h : stn a = stn b) : a = b := congrArg nm h

inductive AV where
  | none
  | bool (b : Bool)
  | num (i : Int)
  | int (i : Int)
  | txt (l : Nm)
  | str (l : Nm)
  | ref (l : Nat)
  | con (v : Value)

inductive AO where
  | dead
  | inst (C : Addr) (d : Nat)
  | dict (es : List (Nm × AV))
  | tab (es : List (Nm × AV))
  | list (pre : Option (List AV)) (xs : List AV)
  | tup (xs : List AV)
  | cell (v : Option AV)
  | liter (l i : Nat)
  | rng (p : Bool) (a b : Int)
  | riter (p : Bool) (x left : Int)

/-- the abstract heap: a trie over the locations -/
inductive Tr where
  | nil
  | node (v : AO) (l r : Tr)
namespace Tr
noncomputable def get : Tr → Nat → AO
  | .nil, _ => .dead
  | .node v l r, i => match Nat.beq i 0 with
    | true => v
    | false => match Nat.beq (i % 2) 1 with
      | true => l.get (i / 2)
      | false => r.get (i / 2 - 1)
/-- fuel: one more than the index serves -/
noncomputable def setF (a : AO) : Nat → Tr → Nat → Tr
  | 0, t, _ => t
  | k + 1, .nil, i => match Nat.beq i 0 with
    | true => .node a .nil .nil
    | false => match Nat.beq (i % 2) 1 with
      | true => .node .dead (setF a k .nil (i / 2)) .nil
      | false => .node .dead .nil (setF a k .nil (i / 2 - 1))
  | k + 1, .node v l r, i => match Nat.beq i 0 with
    | true => .node a l r
    | false => match Nat.beq (i % 2) 1 with
      | true => .node v (setF a k l (i / 2)) r
      | false => .node v l (setF a k r (i / 2 - 1))
noncomputable def set (t : Tr) (i : Nat) (a : AO) : Tr := setF a (i + 1) t i
theorem beq_eq (a b : Nat) : Nat.beq a b = decide (a = b) := by
  cases h : Nat.beq a b with
  | true => simp [Nat.eq_of_beq_eq_true h]
  | false => simp [Nat.ne_of_beq_eq_false h]
theorem get_node (v : AO) (l r : Tr) (i : Nat) : (node v l r).get i = if i = 0 then v else if i % 2 = 1 then l.get (i / 2) else r.get (i / 2 - 1) := by
  show (match Nat.beq i 0 with | true => v | false => match Nat.beq (i % 2) 1 with | true => l.get (i / 2) | false => r.get (i / 2 - 1)) = _
  rw [beq_eq, beq_eq]
  by_cases h : i = 0
  · simp [h]
  · by_cases q : i % 2 = 1 <;> simp [h, q]
theorem get_nil' (j : Nat) : (node .dead .nil .nil).get j = .dead := by
  rw [get_node]
  split
  · rfl
  · split <;> rfl
theorem get_setF (a : AO) : ∀ (k : Nat) (t : Tr) (i j : Nat), i < k → (setF a k t i).get j = if j = i then a else t.get j
  | 0, _, _, _, h => absurd h (Nat.not_lt_zero _)
  | k + 1, t, i, j, h => by
    obtain ⟨v, l, r, e1, e2⟩ : ∃ v l r, setF a (k + 1) t i = setF a (k + 1) (.node v l r) i ∧ t.get j = (node v l r).get j := by
      induction t with
      | nil => exact ⟨.dead, .nil, .nil, rfl, (get_nil' j).symm⟩
      | node v l r => exact ⟨v, l, r, rfl, rfl⟩
    rw [e1, e2]
    clear e1 e2
    unfold setF
    rw [beq_eq, beq_eq]
    by_cases h0 : i = 0
    · simp only [h0, decide_true, get_node]
      by_cases hj : j = 0 <;> simp [hj]
    · have hk : i / 2 < k := Nat.lt_of_lt_of_le (Nat.div_lt_self (Nat.pos_of_ne_zero h0) (by decide)) (Nat.le_of_lt_succ h)
      by_cases q : i % 2 = 1
      · simp only [h0, q, decide_true, decide_false, get_node]
        rw [get_setF a k l (i / 2) (j / 2) hk]
        by_cases hj : j = 0
        · simp [hj, Ne.symm h0]
        · by_cases q2 : j % 2 = 1
          · by_cases e : j = i
            · simp [e, h0, q]
            · have : j / 2 ≠ i / 2 := fun z => e (by rw [← Nat.div_add_mod j 2, ← Nat.div_add_mod i 2, z, q, q2])
              simp [hj, q2, e, this]
          · have : j ≠ i := fun z => q2 (z ▸ q)
            simp [hj, q2, this]
      · simp only [h0, q, decide_false, get_node]
        rw [get_setF a k r (i / 2 - 1) (j / 2 - 1) (Nat.lt_of_le_of_lt (Nat.sub_le _ _) hk)]
        by_cases hj : j = 0
        · simp [hj, Ne.symm h0]
        · by_cases q2 : j % 2 = 1
          · have : j ≠ i := fun z => q (z ▸ q2)
            simp [hj, q2, this]
          · by_cases e : j = i
            · simp [e, h0, q]
            · have ri := (Nat.mod_two_eq_zero_or_one i).resolve_right q
              have rj := (Nat.mod_two_eq_zero_or_one j).resolve_right q2
              have pi : 0 < i / 2 := Nat.pos_of_ne_zero fun z => h0 (by rw [← Nat.div_add_mod i 2, z, ri])
              have pj : 0 < j / 2 := Nat.pos_of_ne_zero fun z => hj (by rw [← Nat.div_add_mod j 2, z, rj])
              have : j / 2 - 1 ≠ i / 2 - 1 := fun z => e (by rw [← Nat.div_add_mod j 2, ← Nat.div_add_mod i 2, Nat.sub_one_cancel pj pi z, ri, rj])
              simp [hj, q2, e, this]
theorem get_set (t : Tr) (i : Nat) (a : AO) (j : Nat) : (t.set i a).get j = if j = i then a else t.get j := get_setF a (i + 1) t i j (Nat.lt_succ_self _)
noncomputable def ofL : Nat → Tr → List AO → Tr
  | _, t, [] => t
  | k, t, a :: r => ofL (k + 1) (t.set k a) r
end Tr

structure St where
  mu : List (Nm × AV)
  sg : Tr
  n : Nat
  or : List Nat
  ov : List AV := []
  /-- what is known of tuples in the rest -/
  imm : Nat → List AV → Prop := fun _ _ => False

noncomputable def All2 {α β : Type} (R : α → β → Prop) : List α → List β → Prop
  | [], [] => True
  | a :: r, b :: s => R a b ∧ All2 R r s
  | _, _ => False
theorem All2.length {α β : Type} {R : α → β → Prop} : ∀ {a : List α} {b : List β}, All2 R a b → a.length = b.length
  | [], [], _ => rfl
  | _ :: _, _ :: _, h => congrArg (· + 1) h.2.length
  | [], _ :: _, h => h.elim
  | _ :: _, [], h => h.elim
theorem All2.mono {α β : Type} {R S : α → β → Prop} : ∀ {a : List α} {b : List β}, All2 R a b → (∀ x ∈ a, ∀ y, R x y → S x y) → All2 S a b
  | [], [], _, _ => trivial
  | _ :: _, _ :: _, h, k => ⟨k _ (.head _) _ h.1, h.2.mono fun x m y r => k x (.tail _ m) y r⟩
theorem All2.map2 {α α' β : Type} {R : α → β → Prop} {S : α' → β → Prop} : ∀ {a : List α} {a' : List α'} {b : List β}, All2 (fun x x' => ∀ y, R x y → S x' y) a a' → All2 R a b → All2 S a' b
  | [], [], [], _, _ => trivial
  | _ :: _, _ :: _, _ :: _, h, k => ⟨h.1 _ k.1, h.2.map2 k.2⟩
  | _ :: _, _ :: _, [], _, k => k.elim
  | [], [], _ :: _, _, k => k.elim
  | [], _ :: _, _, h, _ => h.elim
  | _ :: _, [], _, h, _ => h.elim
theorem All2.one {α β : Type} {R : α → β → Prop} {a : α} {vs : List β} (h : All2 R [a] vs) : ∃ v, vs = [v] ∧ R a v ∧ True := by
  cases vs with
  | nil => exact h.elim
  | cons v vs => induction vs with
    | nil => exact ⟨v, rfl, h⟩
    | cons _ _ => exact h.2.elim
theorem All2.two {α β : Type} {R : α → β → Prop} {a b : α} {vs : List β} (h : All2 R [a, b] vs) : ∃ v w, vs = [v, w] ∧ R a v ∧ R b w ∧ True := by
  cases vs with
  | nil => exact h.elim
  | cons v vs =>
    obtain ⟨w, rfl, k⟩ := All2.one h.2
    exact ⟨v, w, rfl, h.1, k⟩
theorem All2.three {α β : Type} {R : α → β → Prop} {a b c : α} {vs : List β} (h : All2 R [a, b, c] vs) : ∃ v w u, vs = [v, w, u] ∧ R a v ∧ R b w ∧ R c u ∧ True := by
  cases vs with
  | nil => exact h.elim
  | cons v vs =>
    obtain ⟨w, u, rfl, k⟩ := All2.two h.2
    exact ⟨v, w, u, rfl, h.1, k⟩
theorem All2.append {α β : Type} {R : α → β → Prop} : ∀ {a c : List α} {b d : List β}, All2 R a b → All2 R c d → All2 R (a ++ c) (b ++ d)
  | [], _, [], _, _, k => k
  | _ :: _, _, _ :: _, _, h, k => ⟨h.1, h.2.append k⟩
theorem All2.get {α β : Type} {R : α → β → Prop} : ∀ {a : List α} {b : List β} {i : Nat} {x : α}, All2 R a b → a[i]? = some x → ∃ y, b[i]? = some y ∧ R x y
  | a :: _, b :: _, 0, x, h, e => ⟨b, rfl, by cases e; exact h.1⟩
  | _ :: r, _ :: s, i + 1, x, h, e => All2.get (a := r) (b := s) (i := i) h.2 (by simpa using e)
theorem All2.drop {α β : Type} {R : α → β → Prop} : ∀ {a : List α} {b : List β} (n : Nat), All2 R a b → All2 R (a.drop n) (b.drop n)
  | _, _, 0, h => by simpa using h
  | [], [], n + 1, _ => by simp [All2]
  | _ :: r, _ :: s, n + 1, h => by simpa using All2.drop n h.2
theorem All2.take {α β : Type} {R : α → β → Prop} : ∀ {a : List α} {b : List β} (n : Nat), All2 R a b → All2 R (a.take n) (b.take n)
  | _, _, 0, _ => by simp [All2]
  | [], [], n + 1, _ => by simp [All2]
  | _ :: r, _ :: s, n + 1, h => by simpa [All2] using ⟨h.1, All2.take n h.2⟩
theorem All2.reverse {α β : Type} {R : α → β → Prop} : ∀ {a : List α} {b : List β}, All2 R a b → All2 R a.reverse b.reverse
  | [], [], _ => trivial
  | _ :: _, _ :: _, h => by simpa using h.2.reverse.append (c := [_]) (d := [_]) ⟨h.1, trivial⟩
theorem All2.set {α β : Type} {R : α → β → Prop} : ∀ {a : List α} {b : List β} {i : Nat} {x : α} {y : β}, All2 R a b → R x y → All2 R (a.set i x) (b.set i y)
  | [], [], _, _, _, _, _ => trivial
  | _ :: _, _ :: _, 0, _, _, h, k => ⟨k, h.2⟩
  | _ :: _, _ :: _, i + 1, _, _, h, k => ⟨h.1, h.2.set k⟩

/-- a list's items: what stands ahead is a letter, or nothing -/
noncomputable def itm : Option (List AV) → List AV → List AV
  | none, xs => xs
  | some pre, xs => pre ++ xs
theorem itm_append (pre : Option (List AV)) (xs ys : List AV) : itm pre (xs ++ ys) = itm pre xs ++ ys := by
  cases pre <;> simp [itm]
noncomputable def RepV (ρ : Nat → Addr) (n : Nat) : AV → Value → Prop
  | .none, v => v = .none
  | .bool b, v => v = .bool b
  | .num i, v => ∃ t, v = .int i t
  | .int i, v => ∃ t, v = .int i t
  | .txt l, v => ∃ t, v = .str (stn l) t
  | .str l, v => ∃ t, v = .str (stn l) t
  | .ref l, v => l < n ∧ v = .ref (ρ l)
  | .con c, v => v = c ∧ handedIn c = true

noncomputable def RepE (P : Params) (ρ : Nat → Addr) (n : Nat) (e : Nm × AV) (d : DictEntry) : Prop :=
  d.hash = PyData.keyHash P (stn e.1) ∧ (∃ t, d.key = .str (stn e.1) t) ∧ RepV ρ n e.2 d.val
noncomputable def RepO (P : Params) (ρ : Nat → Addr) (n : Nat) : AO → Obj → Prop
  | .dead, _ => True
  | .inst C d, o => d < n ∧ o = instObj C (ρ d)
  | .dict es, o => ∃ ds k, o = dictOf ds k ∧ All2 (RepE P ρ n) es ds
  | .tab es, o => ∃ ds k, o = dictOf ds k ∧ All2 (RepE P ρ n) es ds ∧ (es.map (·.1)).Nodup
  | .list pre xs, o => ∃ vs k, o = listOf (List.toArray vs) k ∧ All2 (RepV ρ n) (itm pre xs) vs
  | .tup xs, o => ∃ vs k, o = { cls := .type "tuple", data := .seq (List.toArray vs) k } ∧ All2 (RepV ρ n) xs vs
  | .cell (some a), o => ∃ v, o.data = .cell (some v) ∧ RepV ρ n a v
  | .cell none, o => o.data = .cell none
  | .liter l i, o => l < n ∧ o.cls = .type "list_iterator" ∧ o.data = .fields #[.ref (ρ l), .int i 0]
  | .rng _ a b, o => (-(2 ^ 62) ≤ a ∧ a < 2 ^ 62 ∧ -(2 ^ 62) ≤ b ∧ b < 2 ^ 62) ∧ ∃ t u v, o = { cls := .type "range", dict := none, data := .fields #[.int a t, .int b u, .int 1 v], slots := #[] }
  | .riter _ x left, o => o = { cls := .type "range_iterator", dict := none, data := .fields #[rawInt x, rawInt left, rawInt 1], slots := #[] }

noncomputable def Ext (ρ : Nat → Addr) (n : Nat) (ρ' : Nat → Addr) (n' : Nat) : Prop := n ≤ n' ∧ ∀ i, i < n → ρ' i = ρ i
theorem Ext.refl {ρ : Nat → Addr} {n : Nat} : Ext ρ n ρ n := ⟨Nat.le_refl _, fun _ _ => rfl⟩
theorem Ext.trans {ρ ρ' ρ'' : Nat → Addr} {n n' n'' : Nat} (a : Ext ρ n ρ' n') (b : Ext ρ' n' ρ'' n'') : Ext ρ n ρ'' n'' :=
  ⟨Nat.le_trans a.1 b.1, fun i h => (b.2 i (Nat.lt_of_lt_of_le h a.1)).trans (a.2 i h)⟩
theorem RepV.ext {ρ ρ' : Nat → Addr} {n n' : Nat} (x : Ext ρ n ρ' n') : ∀ {a : AV} {v : Value}, RepV ρ n a v → RepV ρ' n' a v
  | .none, _, h => h
  | .bool _, _, h => h
  | .num _, _, h => h
  | .int _, _, h => h
  | .txt _, _, h => h
  | .str _, _, h => h
  | .ref l, _, h => ⟨Nat.lt_of_lt_of_le h.1 x.1, by rw [x.2 l h.1]; exact h.2⟩
  | .con _, _, h => h
theorem RepE.ext {P : Params} {ρ ρ' : Nat → Addr} {n n' : Nat} (x : Ext ρ n ρ' n') {e : Nm × AV} {d : DictEntry} (h : RepE P ρ n e d) : RepE P ρ' n' e d := ⟨h.1, h.2.1, h.2.2.ext x⟩
theorem RepO.ext {P : Params} {ρ ρ' : Nat → Addr} {n n' : Nat} (x : Ext ρ n ρ' n') : ∀ {a : AO} {o : Obj}, RepO P ρ n a o → RepO P ρ' n' a o
  | .dead, _, h => h
  | .inst C d, _, h => ⟨Nat.lt_of_lt_of_le h.1 x.1, by rw [x.2 d h.1]; exact h.2⟩
  | .dict _, _, ⟨ds, k, e, h⟩ => ⟨ds, k, e, h.mono fun _ _ _ r => r.ext x⟩
  | .tab _, _, ⟨ds, k, e, h, q⟩ => ⟨ds, k, e, h.mono fun _ _ _ r => r.ext x, q⟩
  | .list _ _, _, ⟨ds, k, e, h⟩ => ⟨ds, k, e, h.mono fun _ _ _ r => r.ext x⟩
  | .tup _, _, ⟨ds, k, e, h⟩ => ⟨ds, k, e, h.mono fun _ _ _ r => r.ext x⟩
  | .cell (some _), _, ⟨v, e, h⟩ => ⟨v, e, h.ext x⟩
  | .cell none, _, h => h
  | .liter l i, _, h => ⟨Nat.lt_of_lt_of_le h.1 x.1, by rw [x.2 l h.1]; exact h.2⟩
  | .rng _ _ _, _, h => h
  | .riter _ _ _, _, h => h

/-! the ledger of the abstract heap: what is dead is left out -/
noncomputable def AO.isDead : AO → Bool
  | .dead => true
  | _ => false
noncomputable def AO.mut : AO → Bool
  | .dead => false
  | .tup _ => false
  | .inst _ _ => false
  | .rng _ _ _ => false
  | _ => true
theorem AO.mut_live {a : AO} (h : a.mut = true) : a ≠ .dead := by
  intro q; rw [q] at h; cases h
theorem AO.isDead_iff {a : AO} : a.isDead = true ↔ a = .dead := by cases a <;> simp [AO.isDead]
noncomputable def ledF (sg : Tr) (ρ : Nat → Addr) : Nat → List Obj → List (Addr × Obj)
  | _, [] => []
  | k, o :: r => match (sg.get k).isDead with
    | true => ledF sg ρ (k + 1) r
    | false => (ρ k, o) :: ledF sg ρ (k + 1) r
theorem mem_ledF {sg : Tr} {ρ : Nat → Addr} : ∀ {k : Nat} {os : List Obj} {p : Addr × Obj}, p ∈ ledF sg ρ k os ↔ ∃ i o, os[i]? = some o ∧ sg.get (k + i) ≠ .dead ∧ p = (ρ (k + i), o)
  | k, [], p => by simp [ledF]
  | k, o :: r, p => by
    have ih := @mem_ledF sg ρ (k + 1) r p
    unfold ledF
    have tailIff : (∃ i o', (o :: r)[i]? = some o' ∧ sg.get (k + i) ≠ .dead ∧ p = (ρ (k + i), o')) ↔ (sg.get k ≠ .dead ∧ p = (ρ k, o)) ∨ ∃ i o', r[i]? = some o' ∧ sg.get (k + 1 + i) ≠ .dead ∧ p = (ρ (k + 1 + i), o') := by
      constructor
      · rintro ⟨i, o', h, hd, rfl⟩
        induction i with
        | zero => left; cases h; exact ⟨hd, rfl⟩
        | succ i =>
          right
          have e : k + (i + 1) = k + 1 + i := by lia
          exact ⟨i, o', by simpa using h, by rw [← e]; exact hd, by rw [e]⟩
      · rintro (⟨hd, rfl⟩ | ⟨i, o', h, hd, rfl⟩)
        · exact ⟨0, o, rfl, hd, rfl⟩
        · have e : k + (i + 1) = k + 1 + i := by lia
          exact ⟨i + 1, o', by simpa using h, by rw [e]; exact hd, by rw [e]⟩
    rw [tailIff]
    cases h : (sg.get k).isDead with
    | true =>
      have := AO.isDead_iff.mp h
      simp only [this, ne_eq, not_true_eq_false, false_and, false_or]
      exact ih
    | false =>
      have : sg.get k ≠ .dead := fun e => by rw [AO.isDead_iff.mpr e] at h; cases h
      simp only [List.mem_cons, this, ne_eq, not_false_eq_true, true_and]
      rw [ih]
theorem ledF_upd {sg : Tr} {ρ : Nat → Addr} {rest : List (Addr × Obj)} {o o' : Obj} : ∀ {k i : Nat} {os : List Obj}, os[i]? = some o → sg.get (k + i) ≠ .dead →
    (∀ j, j < os.length → sg.get (k + j) ≠ .dead → ρ (k + j) = ρ (k + i) → j = i) → (∀ p ∈ rest, p.1 ≠ ρ (k + i)) →
    Upd (ρ (k + i)) o o' (ledF sg ρ k os ++ rest) (ledF sg ρ k (os.set i o') ++ rest)
  | _, _, [], e, _, _, _ => by simp at e
  | k, 0, x :: r, e, hd, inj, ap => by
    cases e
    have h : (sg.get k).isDead = false := by cases q : (sg.get k).isDead with | false => rfl | true => exact absurd (AO.isDead_iff.mp q) hd
    simp only [ledF, List.set_cons_zero, h, List.cons_append]
    refine .head fun p hp => ?_
    rcases List.mem_append.mp hp with hp | hp
    · obtain ⟨j, y, hj, hdj, rfl⟩ := mem_ledF.mp hp
      intro q
      have e3 : k + (j + 1) = k + 1 + j := by lia
      have := inj (j + 1) (Nat.succ_lt_succ (List.getElem?_eq_some_iff.mp hj).1) (by rw [e3]; exact hdj) (by rw [e3]; exact q)
      cases this
    · exact ap p hp
  | k, i + 1, x :: r, e, hd, inj, ap => by
    have e2 : k + (i + 1) = k + 1 + i := by lia
    have ih := @ledF_upd sg ρ rest o o' (k + 1) i r (by simpa using e) (by rw [← e2]; exact hd) (fun j hj hdj q => by
      have e3 : k + (j + 1) = k + 1 + j := by lia
      have := inj (j + 1) (Nat.succ_lt_succ hj) (by rw [e3]; exact hdj) (by rw [e2, ← q, e3])
      lia) (by rw [← e2]; exact ap)
    rw [e2]
    simp only [ledF, List.set_cons_succ]
    cases h : (sg.get k).isDead with
    | true => exact ih
    | false =>
      simp only [List.cons_append]
      refine .tail (fun q => ?_) ih
      have hk : sg.get k ≠ .dead := fun z => by rw [AO.isDead_iff.mpr z] at h; cases h
      have := inj 0 (Nat.succ_pos _) hk (by rw [e2]; exact q)
      cases this

noncomputable def look (x : Nm) : List (Nm × α) → Option α
  | [] => none
  | p :: r => match nmEq x p.1 with
    | true => some p.2
    | false => look x r
noncomputable def put (x : Nm) (a : α) : List (Nm × α) → List (Nm × α)
  | [] => [(x, a)]
  | p :: r => match nmEq x p.1 with
    | true => (x, a) :: r
    | false => p :: put x a r
theorem look_put (x : Nm) (a : α) (y : Nm) : ∀ l : List (Nm × α), look y (put x a l) = if y = x then some a else look y l
  | [] => by
    simp only [put, look]
    cases h : nmEq y x with
    | true => simp [nmEq_iff.mp h]
    | false => simp [nmEq_ff h]
  | p :: r => by
    simp only [put]
    cases h : nmEq x p.1 with
    | true =>
      have e := nmEq_iff.mp h
      simp only [look]
      cases h2 : nmEq y x with
      | true => simp [nmEq_iff.mp h2]
      | false => rw [← e, h2]; simp [nmEq_ff h2]
    | false =>
      simp only [look]
      cases h2 : nmEq y p.1 with
      | true =>
        have e := nmEq_iff.mp h2
        have : y ≠ x := fun q => nmEq_ff h (q ▸ e)
        simp [this]
      | false => exact look_put x a y r

structure FI where
  sc : Scope
  cl : List (Nm × Nat)
  own : Bool
  /-- a list of the ground -/
  scr : Option (Nat × List AV)
structure FC where
  A : Around
  A₀ : Around
  base : Heap
  outer : List Env
  h₀ : Heap
  env : Env
  rest : List (Addr × Obj)

structure RelAt (P : Params) (fi : FI) (fc : FC) (ρ : Nat → Addr) (st : St) (h : Heap) (m : Str → Option Value) (os : List Obj) : Prop where
  F : Fr fc.h₀ fc.env.locals h m
  N : News fc.h₀ fc.env.locals h (ledF st.sg ρ 0 os ++ fc.rest)
  mu : ∀ x a, look x st.mu = some a → ∃ v, m (stn x) = some v ∧ RepV ρ st.n a v
  len : os.length = st.n
  os : ∀ i o, os[i]? = some o → RepO P ρ st.n (st.sg.get i) o
  out : ∀ i, st.n ≤ i → st.sg.get i = .dead
  inj : ∀ i j, (st.sg.get i).mut = true → st.sg.get j ≠ .dead → ρ i = ρ j → i = j
  ap : ∀ i, (st.sg.get i).mut = true → ∀ p ∈ fc.rest, p.1 ≠ ρ i
  cl : ∀ x l, look x fi.cl = some l → l < st.n ∧ fc.env.cells.lookup (stn x) = some (ρ l)
  lo : ∀ i es, st.sg.get i = .tab es → ρ i ≠ sysModules
  im : ∀ c xs, st.imm c xs → ∃ o, (c, o) ∈ fc.rest ∧ RepO P (fun _ => 0) 0 (.tup xs) o
noncomputable def Rel (P : Params) (fi : FI) (fc : FC) (ρ : Nat → Addr) (st : St) (h : Heap) : Prop := ∃ m os, RelAt P fi fc ρ st h m os

section
variable {P : Params} {fi : FI} {fc : FC} {ρ : Nat → Addr} {st : St} {h h' : Heap} {m : Str → Option Value} {os : List Obj}
theorem RelAt.lt (R : RelAt P fi fc ρ st h m os) {l : Nat} (e : st.sg.get l ≠ .dead) : l < st.n := by
  apply Classical.byContradiction
  intro q
  exact e (R.out l (by lia))
theorem RelAt.get (R : RelAt P fi fc ρ st h m os) {l : Nat} {a : AO} (e : st.sg.get l = a) (hd : a ≠ .dead) : ∃ o, os[l]? = some o ∧ RepO P ρ st.n a o ∧ (ρ l, o) ∈ ledF st.sg ρ 0 os ++ fc.rest ∧ h.get? (ρ l) = some o := by
  have hl : l < st.n := R.lt (e ▸ hd)
  have ho : os[l]? = some (os[l]'(by rw [R.len]; exact hl)) := by simp
  have hm : (ρ l, os[l]'(by rw [R.len]; exact hl)) ∈ ledF st.sg ρ 0 os ++ fc.rest := List.mem_append_left _ (mem_ledF.mpr ⟨l, _, ho, by rw [Nat.zero_add]; exact e ▸ hd, by rw [Nat.zero_add]⟩)
  exact ⟨_, ho, e ▸ R.os l _ ho, hm, (R.N _ hm).1⟩
theorem RelAt.upd (R : RelAt P fi fc ρ st h m os) {l : Nat} {o o' : Obj} (e : os[l]? = some o) (hm : (st.sg.get l).mut = true := by simp [*, AO.mut]) : Upd (ρ l) o o' (ledF st.sg ρ 0 os ++ fc.rest) (ledF st.sg ρ 0 (os.set l o') ++ fc.rest) := by
  have hl : l < st.n := by rw [← R.len]; exact (List.getElem?_eq_some_iff.mp e).1
  have hd := AO.mut_live hm
  have := ledF_upd (sg := st.sg) (ρ := ρ) (k := 0) (i := l) (os := os) (o' := o') (rest := fc.rest) e (by simpa using hd) (fun j hj hdj q => (R.inj l j hm (by simpa using hdj) (by simpa using q.symm)).symm) (by simpa using R.ap l hm)
  simpa using this
/-- an object of the abstract heap has changed -/
theorem RelAt.set (R : RelAt P fi fc ρ st h m os) {l : Nat} {a' : AO} {o' : Obj} (hl : l < st.n) (F : Fr fc.h₀ fc.env.locals h' m) (N : News fc.h₀ fc.env.locals h' (ledF st.sg ρ 0 (os.set l o') ++ fc.rest)) (r : RepO P ρ st.n a' o')
    (hlo : ∀ es, a' = .tab es → ρ l ≠ sysModules := by intro _ q; cases q) (hm : (st.sg.get l).mut = true := by simp [*, AO.mut]) :
    RelAt P fi fc ρ { st with sg := st.sg.set l a' } h' m (os.set l o') := by
  have hd := AO.mut_live hm
  have N2 : News fc.h₀ fc.env.locals h' (ledF (st.sg.set l a') ρ 0 (os.set l o') ++ fc.rest) := fun p hp => by
    refine N p ?_
    rcases List.mem_append.mp hp with hp | hp
    · obtain ⟨i, o, ho, hg, rfl⟩ := mem_ledF.mp hp
      refine List.mem_append_left _ (mem_ledF.mpr ⟨i, o, ho, ?_, rfl⟩)
      rw [Nat.zero_add] at hg ⊢
      rw [Tr.get_set] at hg
      by_cases q : i = l
      · rw [q]; exact hd
      · rw [if_neg q] at hg; exact hg
    · exact List.mem_append_right _ hp
  have lv : ∀ i, (st.sg.set l a').get i ≠ .dead → st.sg.get i ≠ .dead := fun i hg => by
    rw [Tr.get_set] at hg
    by_cases q : i = l
    · rw [q]; exact hd
    · rw [if_neg q] at hg; exact hg
  have mv : ∀ i, ((st.sg.set l a').get i).mut = true → (st.sg.get i).mut = true := fun i hg => by
    rw [Tr.get_set] at hg
    by_cases q : i = l
    · rw [q]; exact hm
    · rw [if_neg q] at hg; exact hg
  refine ⟨F, N2, R.mu, by simpa using R.len, fun i o e => ?_, fun i hi => ?_, fun i j hi hj => R.inj i j (mv i hi) (lv j hj), fun i hi => R.ap i (mv i hi), R.cl, fun i es q => ?_, R.im⟩
  · show RepO P ρ st.n ((st.sg.set l a').get i) o
    rw [Tr.get_set]
    by_cases q : i = l
    · subst q
      rw [if_pos rfl]
      rw [List.getElem?_set_self (by rw [R.len]; exact hl)] at e
      cases e; exact r
    · rw [if_neg q]
      rw [List.getElem?_set_ne (Ne.symm q)] at e
      exact R.os i o e
  · show (st.sg.set l a').get i = _
    rw [Tr.get_set, if_neg (by show ¬ i = l; have : st.n ≤ i := hi; lia)]
    exact R.out i hi
  · have q : (st.sg.set l a').get i = .tab es := q
    rw [Tr.get_set] at q
    by_cases e : i = l
    · rw [if_pos e] at q
      rw [e]; exact hlo es q
    · rw [if_neg e] at q
      exact R.lo i es q
/-- an object that is given up -/
theorem RelAt.kill (R : RelAt P fi fc ρ st h m os) {l : Nat} (F : Fr fc.h₀ fc.env.locals h' m) (hm : (st.sg.get l).mut = true) (k : ∀ q ∈ ledF st.sg ρ 0 os ++ fc.rest, q.1 ≠ ρ l → h'.get? q.1 = some q.2) :
    RelAt P fi fc ρ { st with sg := st.sg.set l .dead } h' m os := by
  have lv : ∀ i, (st.sg.set l .dead).get i ≠ .dead → st.sg.get i ≠ .dead ∧ i ≠ l := fun i hg => by
    rw [Tr.get_set] at hg
    by_cases q : i = l
    · rw [if_pos q] at hg; exact absurd rfl hg
    · rw [if_neg q] at hg; exact ⟨hg, q⟩
  have mv : ∀ i, ((st.sg.set l .dead).get i).mut = true → (st.sg.get i).mut = true := fun i hg => by
    rw [Tr.get_set] at hg
    by_cases q : i = l
    · rw [if_pos q] at hg; cases hg
    · rw [if_neg q] at hg; exact hg
  have N2 : News fc.h₀ fc.env.locals h' (ledF (st.sg.set l .dead) ρ 0 os ++ fc.rest) := fun p hp => by
    have hm : p ∈ ledF st.sg ρ 0 os ++ fc.rest ∧ p.1 ≠ ρ l := by
      rcases List.mem_append.mp hp with hp | hp
      · obtain ⟨i, o, ho, hg, rfl⟩ := mem_ledF.mp hp
        rw [Nat.zero_add] at hg
        obtain ⟨h1, h2⟩ := lv i hg
        exact ⟨List.mem_append_left _ (mem_ledF.mpr ⟨i, o, ho, by rw [Nat.zero_add]; exact h1, rfl⟩), fun z => h2 (R.inj l i hm h1 (by simpa using z.symm)).symm⟩
      · exact ⟨List.mem_append_right _ hp, R.ap l hm p hp⟩
    exact ⟨k p hm.1 hm.2, (R.N p hm.1).2⟩
  refine ⟨F, N2, R.mu, R.len, fun i o e => ?_, fun i hi => ?_, fun i j hi hj => R.inj i j (mv i hi) (lv j hj).1, fun i hi => R.ap i (mv i hi), R.cl, fun i es q => ?_, R.im⟩
  · show RepO P ρ st.n ((st.sg.set l .dead).get i) o
    rw [Tr.get_set]
    by_cases q : i = l
    · rw [if_pos q]; trivial
    · rw [if_neg q]; exact R.os i o e
  · show (st.sg.set l .dead).get i = _
    rw [Tr.get_set]
    split
    · rfl
    · exact R.out i hi
  · have q : (st.sg.set l .dead).get i = .tab es := q
    rw [Tr.get_set] at q
    by_cases e : i = l
    · rw [if_pos e] at q; cases q
    · rw [if_neg e] at q; exact R.lo i es q
/-- a new object -/
theorem RelAt.push (R : RelAt P fi fc ρ st h m os) {a : Addr} {ao : AO} {o : Obj} (F : Fr fc.h₀ fc.env.locals h' m) (N : News fc.h₀ fc.env.locals h' ((a, o) :: (ledF st.sg ρ 0 os ++ fc.rest)))
    (lt : ∀ p ∈ ledF st.sg ρ 0 os ++ fc.rest, p.1 < a) (r : RepO P (fun i => if i = st.n then a else ρ i) (st.n + 1) ao o)
    (hlo : ∀ es, ao = .tab es → a ≠ sysModules := by intro _ q; cases q) :
    RelAt P fi fc (fun i => if i = st.n then a else ρ i) { st with sg := st.sg.set st.n ao, n := st.n + 1 } h' m (os ++ [o]) ∧ Ext ρ st.n (fun i => if i = st.n then a else ρ i) (st.n + 1) := by
  have X : Ext ρ st.n (fun i => if i = st.n then a else ρ i) (st.n + 1) := ⟨Nat.le_succ _, fun i hi => by simp [Nat.ne_of_lt hi]⟩
  have lv : ∀ i, (st.sg.set st.n ao).get i ≠ .dead → i ≠ st.n → st.sg.get i ≠ .dead := fun i hg q => by
    rw [Tr.get_set, if_neg q] at hg; exact hg
  have hlt : ∀ i, st.sg.get i ≠ .dead → ρ i < a := fun i hi => by
    obtain ⟨o', _, _, hm, _⟩ := R.get (l := i) rfl hi
    exact lt (ρ i, o') hm
  refine ⟨⟨F, ?_, ?_, by simp [R.len], ?_, ?_, ?_, ?_, ?_, ?_, R.im⟩, X⟩
  · intro p hp
    rcases List.mem_append.mp hp with hp | hp
    · obtain ⟨i, o', ho, hg, rfl⟩ := mem_ledF.mp hp
      rw [Nat.zero_add] at hg ⊢
      by_cases q : i = st.n
      · subst q
        rw [← R.len, List.getElem?_append_right (Nat.le_refl _)] at ho
        simp only [Nat.sub_self, List.getElem?_cons_zero, Option.some.injEq] at ho
        subst ho
        simp only [if_true]
        exact N _ (.head _)
      · have hi : i < os.length := by have := (List.getElem?_eq_some_iff.mp ho).1; simp only [List.length_append, List.length_cons, List.length_nil, R.len] at this ⊢; lia
        rw [List.getElem?_append_left hi] at ho
        simp only [q, if_false]
        exact N _ (.tail _ (List.mem_append_left _ (mem_ledF.mpr ⟨i, o', ho, by rw [Nat.zero_add]; exact lv i hg q, by rw [Nat.zero_add]⟩)))
    · exact N _ (.tail _ (List.mem_append_right _ hp))
  · intro x b hb
    obtain ⟨v, hv, rv⟩ := R.mu x b hb
    exact ⟨v, hv, rv.ext X⟩
  · intro i o' e
    show RepO P _ (st.n + 1) ((st.sg.set st.n ao).get i) o'
    rw [Tr.get_set]
    by_cases q : i = st.n
    · rw [if_pos q]
      rw [q, ← R.len, List.getElem?_append_right (Nat.le_refl _)] at e
      simp only [Nat.sub_self, List.getElem?_cons_zero, Option.some.injEq] at e
      subst e; exact r
    · rw [if_neg q]
      have hi : i < os.length := by have := (List.getElem?_eq_some_iff.mp e).1; simp only [List.length_append, List.length_cons, List.length_nil, R.len] at this ⊢; lia
      rw [List.getElem?_append_left hi] at e
      exact (R.os i o' e).ext X
  · intro i hi
    show (st.sg.set st.n ao).get i = _
    have hi' : st.n + 1 ≤ i := hi
    rw [Tr.get_set, if_neg (by lia)]
    exact R.out i (by lia)
  · intro i j hi hj q
    have him : ((st.sg.set st.n ao).get i).mut = true := hi
    have hi : (st.sg.set st.n ao).get i ≠ .dead := AO.mut_live hi
    have mv : ∀ i, ((st.sg.set st.n ao).get i).mut = true → i ≠ st.n → (st.sg.get i).mut = true := fun i hg q => by
      rw [Tr.get_set, if_neg q] at hg; exact hg
    have hj : (st.sg.set st.n ao).get j ≠ .dead := hj
    by_cases h1 : i = st.n <;> by_cases h2 : j = st.n <;> simp only [h1, h2, if_true, if_false] at q ⊢
    · have := hlt j (lv j hj h2); exact absurd q (by intro e; rw [← e] at this; exact Nat.lt_irrefl _ this)
    · have := hlt i (lv i hi h1); exact absurd q (by intro e; rw [e] at this; exact Nat.lt_irrefl _ this)
    · exact R.inj i j (mv i him h1) (lv j hj h2) q
  · intro i hi p hp
    have hi : ((st.sg.set st.n ao).get i).mut = true := hi
    by_cases h1 : i = st.n
    · simp only [h1, if_true]
      exact Nat.ne_of_lt (lt p (List.mem_append_right _ hp))
    · simp only [h1, if_false]
      rw [Tr.get_set, if_neg h1] at hi
      exact R.ap i hi p hp
  · intro x l hl
    obtain ⟨q1, q2⟩ := R.cl x l hl
    refine ⟨Nat.lt_succ_of_lt q1, ?_⟩
    rw [q2]; simp [Nat.ne_of_lt q1]
  · intro i es q
    have q : (st.sg.set st.n ao).get i = .tab es := q
    rw [Tr.get_set] at q
    by_cases e : i = st.n
    · rw [if_pos e] at q
      simp only [e, if_true]; exact hlo es q
    · rw [if_neg e] at q
      simp only [e, if_false]; exact R.lo i es q
/-- a local name has been bound -/
theorem RelAt.bind (R : RelAt P fi fc ρ st h m os) {x : Nm} {a : AV} {v : Value} (F : Fr fc.h₀ fc.env.locals h' (fun y => if y = stn x then some v else m y)) (N : News fc.h₀ fc.env.locals h' (ledF st.sg ρ 0 os ++ fc.rest))
    (r : RepV ρ st.n a v) : RelAt P fi fc ρ { st with mu := put x a st.mu } h' (fun y => if y = stn x then some v else m y) os := by
  refine ⟨F, N, ?_, R.len, R.os, R.out, R.inj, R.ap, R.cl, R.lo, R.im⟩
  intro y b hb
  rw [look_put] at hb
  by_cases e : y = x
  · rw [if_pos e] at hb
    cases hb
    exact ⟨v, by simp [e], r⟩
  · rw [if_neg e] at hb
    obtain ⟨u, hu, q⟩ := R.mu y b hb
    exact ⟨u, by simp [show stn y ≠ stn x from fun q => e (stn_inj q), hu], q⟩
/-- the same state seen in another heap -/
theorem RelAt.heap (R : RelAt P fi fc ρ st h m os) (F : Fr fc.h₀ fc.env.locals h' m) (N : News fc.h₀ fc.env.locals h' (ledF st.sg ρ 0 os ++ fc.rest)) : RelAt P fi fc ρ st h' m os := ⟨F, N, R.mu, R.len, R.os, R.out, R.inj, R.ap, R.cl, R.lo, R.im⟩
/-- the oracle is of no weight -/
theorem RelAt.orc (R : RelAt P fi fc ρ st h m os) (o : List Nat) (v : List AV) : RelAt P fi fc ρ { st with or := o, ov := v } h m os := ⟨R.F, R.N, R.mu, R.len, R.os, R.out, R.inj, R.ap, R.cl, R.lo, R.im⟩
end
end Mine
namespace Mine
open PySem PySem.W PyProof.Rows PySem.Calls PySem.Spec

/-! results: the value, the state, what is asked of the letters -/
noncomputable abbrev Rr (α : Type) := Option (α × St × List Prop)
noncomputable def ret {α : Type} (a : α) (st : St) : Rr α := some (a, st, [])
/-- a premise that is left out where it is seen to hold -/
noncomputable def hcP (c : Bool) (p : Prop) : List Prop := match c with
  | true => []
  | false => [p]
noncomputable def hyp {α : Type} (p : Prop) (a : α) (st : St) : Rr α := some (a, st, [p])
noncomputable def hypc {α : Type} (c : Bool) (p : Prop) (a : α) (st : St) : Rr α := some (a, st, hcP c p)
noncomputable def bnd {α β : Type} (x : Rr α) (k : α → St → Rr β) : Rr β := match x with
  | none => none
  | some (a, st, P) => match k a st with
    | none => none
    | some (b, st', P') => some (b, st', P ++ P')
noncomputable def opt {γ α : Type} (o : Option γ) (k : γ → Rr α) : Rr α := match o with
  | some a => k a
  | none => none
theorem opt_el {γ α : Type} {o : Option γ} {k : γ → Rr α} {x : α × St × List Prop} {C : Prop} (h : opt o k = some x) (H : ∀ a, o = some a → k a = some x → C) : C := by
  cases o with
  | none => cases h
  | some a => exact H a rfl h
noncomputable def Ps : List Prop → Prop
  | [] => True
  | p :: r => p ∧ Ps r
theorem Ps.append {a b : List Prop} (h : Ps (a ++ b)) : Ps a ∧ Ps b := by
  induction a with
  | nil => exact ⟨trivial, h⟩
  | cons p r ih => exact ⟨⟨h.1, (ih h.2).1⟩, (ih h.2).2⟩
theorem hyc {c : Bool} {p : Prop} (h : Ps (hcP c p)) (k : c = true → p) : p := by
  cases c with
  | true => exact k rfl
  | false => exact h.1
set_option tactic.hygienic true in
theorem bnd_some {α β : Type} {x : Rr α} {k : α → St → Rr β} {b : β} {st' : St} {P : List Prop} (h : bnd x k = some (b, st', P)) (hP : Ps P) :
    ∃ a st P1 P2, x = some (a, st, P1) ∧ k a st = some (b, st', P2) ∧ Ps P1 ∧ Ps P2 := by
  unfold bnd at h
  split at h
  · cases h
  · rename_i a st P1
    split at h
    · cases h
    · rename_i b' st'' P2 hk
      cases h
      exact ⟨a, st, P1, P2, rfl, hk, (Ps.append hP).1, (Ps.append hP).2⟩
theorem nn {α : Type} {x : α} {G : Prop} (h : none = some x) : G := nomatch h
theorem ret_some {α : Type} {x a : α} {st st' : St} {P : List Prop} (h : ret x st = some (a, st', P)) : x = a ∧ st = st' ∧ [] = P := by cases h; exact ⟨rfl, rfl, rfl⟩
theorem bnd_el {α β : Type} {x : Rr α} {k : α → St → Rr β} {b : β} {st' : St} {P : List Prop} {C : Prop} (h : bnd x k = some (b, st', P)) (hP : Ps P) (H : ∀ a st P1 P2, x = some (a, st, P1) → k a st = some (b, st', P2) → Ps P1 → Ps P2 → C) : C := by
  obtain ⟨a, st, P1, P2, h1, h2, h3, h4⟩ := bnd_some h hP
  exact H a st P1 P2 h1 h2 h3 h4
noncomputable def ask (p : Prop) (st : St) : Rr Bool := match st.or with
  | [] => none
  | k :: r => match Nat.beq k 0 with
    | true => some (false, { st with or := r }, [¬ p])
    | false => some (true, { st with or := r }, [p])
theorem ask_some {p : Prop} {st st' : St} {b : Bool} {P : List Prop} (h : ask p st = some (b, st', P)) (hP : Ps P) : (b = true ↔ p) ∧ ∃ o, st' = { st with or := o, ov := st.ov } := by
  unfold ask at h
  split at h
  · cases h
  · split at h
    · cases h; exact ⟨by simpa using hP.1, _, rfl⟩
    · cases h; exact ⟨by simpa using hP.1, _, rfl⟩
/-- literal: decided; else asked -/
noncomputable def dec (lit : Bool) (p : Prop) (b : Bool) (st : St) : Rr Bool := match lit with
  | true => ret b st
  | false => ask p st
theorem dec_some {lit : Bool} {p : Prop} {c : Bool} {st st' : St} {b : Bool} {P : List Prop} (hc : c = true ↔ p) (h : dec lit p c st = some (b, st', P)) (hP : Ps P) : (b = true ↔ p) ∧ ∃ o, st' = { st with or := o, ov := st.ov } := by
  unfold dec at h
  split at h
  · cases h; exact ⟨hc, st.or, rfl⟩
  · exact ask_some h hP

inductive Bi where
  | len | isin | sum | abs | range | list | int | tstr | ttup | append | pop | extend | reverse | dget | join
noncomputable def Bi.val : Bi → Value
  | .len => .builtin "len" | .isin => .builtin "isinstance" | .sum => .builtin "sum" | .abs => .builtin "abs"
  | .range => .type "range" | .list => .type "list" | .int => .type "int" | .tstr => .type "str" | .ttup => .type "tuple"
  | .append => .builtin "list.append" | .pop => .builtin "list.pop" | .extend => .builtin "list.extend" | .reverse => .builtin "list.reverse"
  | .dget => .builtin "dict.get" | .join => .builtin "str.join"

/-- a thing that is called -/
inductive Fn where
  | fn (f : Addr)
  | bi (b : Bi)
noncomputable def Fn.val : Fn → Value
  | .fn f => .ref f
  | .bi b => b.val
inductive AFl where
  | next | brk | cont
  | ret (a : AV)

structure FnI where
  ps : List Nm
  body : List Stmt
  sc : Scope
structure ClI where
  flds : List Nm
  mths : List (Nm × Addr)
  ini : Addr
/-- a global name: a plain value or a thing to be called -/
inductive GV where
  | av (a : AV)
  | fn (f : Fn)
structure PT where
  glob : List (Nm × GV)
  fns : List (Nat × FnI)
  cls : List (Nat × ClI)
  tups : List (Nat × List Nm)
  ncls : List Nat
  ext : Nat → Option (List AV → St → Rr AV)

noncomputable def lookN {α : Type} (n : Nat) : List (Nat × α) → Option α
  | [] => none
  | p :: r => match Nat.beq n p.1 with
    | true => some p.2
    | false => lookN n r
set_option tactic.hygienic true in
theorem lookN_mem {α : Type} {n : Nat} {a : α} : ∀ {l : List (Nat × α)}, lookN n l = some a → (n, a) ∈ l
  | p :: r, h => by
    unfold lookN at h
    split at h
    · rename_i e; cases h; rw [Nat.eq_of_beq_eq_true e]; exact .head _
    · exact .tail _ (lookN_mem h)
set_option tactic.hygienic true in
theorem look_mem {α : Type} {x : Nm} {a : α} : ∀ {l : List (Nm × α)}, look x l = some a → (x, a) ∈ l
  | p :: r, h => by
    unfold look at h
    split at h
    · rename_i e; cases h; rw [nmEq_iff.mp e]; exact .head _
    · exact .tail _ (look_mem h)
noncomputable def kindL (x : Nm) : List (Str × NameKind) → Option NameKind
  | [] => none
  | p :: r => match nmEq x (nm p.1) with
    | true => some p.2
    | false => kindL x r
theorem kindL_eq (x : Nm) : ∀ l : List (Str × NameKind), kindL x l = l.lookup (stn x)
  | [] => rfl
  | p :: r => by
    unfold kindL
    rw [List.lookup_cons, ← kindL_eq x r]
    cases h : nmEq x (nm p.1) with
    | true =>
      have e := nmEq_iff.mp h
      have : (stn x == p.1) = true := by rw [e]; simp [stn_nm]
      rw [this]
    | false =>
      have : (stn x == p.1) = false := by
        have := nmEq_ff h
        simp only [beq_eq_false_iff_ne, ne_eq]
        intro q; exact this (by rw [← q]; rfl)
      rw [this]
noncomputable def memN (x : Nm) : List Nm → Bool
  | [] => false
  | y :: r => match nmEq x y with
    | true => true
    | false => memN x r
set_option tactic.hygienic true in
theorem memN_iff {x : Nm} : ∀ {l : List Nm}, memN x l = true → x ∈ l
  | y :: r, h => by
    unfold memN at h
    split at h
    · rename_i e; rw [nmEq_iff.mp e]; exact .head _
    · exact .tail _ (memN_iff h)
noncomputable def nDebug : Nm := [95, 95, 100, 101, 98, 117, 103, 95, 95]
noncomputable def nClassdict : Nm := [95, 95, 99, 108, 97, 115, 115, 100, 105, 99, 116, 95, 95]
theorem nDebug_is : stn nDebug = ("__debug__" : Str) := by decide +kernel
theorem nClassdict_is : stn nClassdict = ("__classdict__" : Str) := by decide +kernel

noncomputable def asInt : AV → Option (Bool × Int)
  | .num i => some (true, i)
  | .int i => some (false, i)
  | _ => none
noncomputable def asStr : AV → Option (Bool × Nm)
  | .txt i => some (true, i)
  | .str i => some (false, i)
  | _ => none
noncomputable def mkI : Bool → Int → AV
  | true, i => .num i
  | false, i => .int i
noncomputable def mkS : Bool → Nm → AV
  | true, i => .txt i
  | false, i => .str i
noncomputable def both : Bool → Bool → Bool
  | true, b => b
  | false, _ => false
noncomputable def alloc (o : AO) (st : St) : Rr AV := ret (.ref st.n) { st with sg := st.sg.set st.n o, n := st.n + 1 }
noncomputable def setO (l : Nat) (o : AO) (st : St) : St := { st with sg := st.sg.set l o }

/-- two lists, one behind the other -/
noncomputable def cat (p : Option (List AV)) (xs : List AV) (q : Option (List AV)) (ys : List AV) : AO := match q with
  | none => .list p (xs ++ ys)
  | some q => .list (some (itm p xs ++ q)) ys
/-- an expected value, out of the oracle -/
noncomputable def expect (f : AV → Prop) (st : St) : Rr AV := match st.ov with
  | [] => none
  | v :: r => some (v, { st with ov := r }, [f v])
noncomputable def short {α : Type} : Nat → List α → Bool
  | _, [] => true
  | 0, _ :: _ => false
  | n + 1, _ :: r => short n r
theorem short_le {α : Type} : ∀ {n : Nat} {l : List α}, short n l = true → l.length ≤ n
  | _, [], _ => Nat.zero_le _
  | n + 1, _ :: r, h => Nat.succ_le_succ (short_le (n := n) (l := r) h)
noncomputable def shortP (p : Option (List AV)) (xs : List AV) : Bool := match p with
  | none => short 1000 xs
  | some _ => false
theorem shortP_le {p : Option (List AV)} {xs : List AV} (h : shortP p xs = true) : (itm p xs).length ≤ 1000 := by
  cases p with
  | none => exact short_le h
  | some _ => cases h
noncomputable def andB (a b : Bool) : Bool := match a with
  | true => b
  | false => false
theorem andB_iff {a b : Bool} (h : andB a b = true) : a = true ∧ b = true := by
  cases a with
  | true => exact ⟨rfl, h⟩
  | false => cases h
/-! operations -/
noncomputable def powB (x y : Int) : Bool := andB (decide (0 ≤ y)) (andB (decide (y ≤ 100)) (Nat.blt x.natAbs 1000))
theorem powB_iff {x y : Int} (h : powB x y = true) : 0 ≤ y ∧ y ≤ 1000000 ∧ x.natAbs < 2 ^ 64 := by
  obtain ⟨h1, h2⟩ := andB_iff h
  obtain ⟨h2, h3⟩ := andB_iff h2
  have h1 := of_decide_eq_true h1
  have h2 := of_decide_eq_true h2
  have h3 := Nat.blt_eq.mp h3
  exact ⟨h1, by lia, by lia⟩
@[irreducible] noncomputable def intz {α : Type} (a b : AV) (k : Bool → Int → Bool → Int → Rr α) (e : Rr α) : Rr α := match asInt a with
  | some p => match asInt b with
    | some q => k p.1 p.2 q.1 q.2
    | none => e
  | none => e
@[irreducible] noncomputable def strz {α : Type} (a b : AV) (k : Bool → Nm → Bool → Nm → Rr α) (e : Rr α) : Rr α := match asStr a with
  | some p => match asStr b with
    | some q => k p.1 p.2 q.1 q.2
    | none => e
  | none => e
noncomputable def asRef : AV → Option Nat
  | .ref l => some l
  | _ => none
noncomputable def asList : AO → Option (Option (List AV) × List AV)
  | .list p xs => some (p, xs)
  | _ => none
noncomputable def asTup : AO → Option (List AV)
  | .tup xs => some xs
  | _ => none
theorem asRef_eq {a : AV} {l : Nat} (h : asRef a = some l) : a = .ref l := by
  cases a <;> cases h; rfl
theorem asList_eq {a : AO} {q : Option (List AV) × List AV} (h : asList a = some q) : a = .list q.1 q.2 := by
  cases a <;> cases h; rfl
theorem asTup_eq {a : AO} {q : List AV} (h : asTup a = some q) : a = .tup q := by
  cases a <;> cases h; rfl
noncomputable def bin (op : Operator) (a b : AV) (st : St) : Rr AV := match op with
  | .Add => intz a b (fun p x q y => ret (mkI (both p q) (x + y)) st) (strz a b (fun p x q y => hypc (andB (both p q) (andB (short 1000 x) (short 1000 y))) (x.length + y.length ≤ sizeLine) (mkS (both p q) (x ++ y)) st)
      (opt (asRef a) fun l => opt (asRef b) fun k => opt (asList (st.sg.get l)) fun x => opt (asList (st.sg.get k)) fun y =>
        bnd (hypc (andB (shortP x.1 x.2) (shortP y.1 y.2)) ((itm x.1 x.2).length + (itm y.1 y.2).length ≤ sizeLine) () st) fun _ st => alloc (cat x.1 x.2 y.1 y.2) st))
  | .Sub => intz a b (fun p x q y => ret (mkI (both p q) (x - y)) st) none
  | .Mult => intz a b (fun p x q y => hyp (IntMulOk x y) (mkI (both p q) (x * y)) st) none
  | .FloorDiv => intz a b (fun p x q y => hyp (y ≠ 0 ∧ Builtin.divisionGoesByPylong x y = false) (mkI (both p q) (x.fdiv y)) st) none
  | .Mod => intz a b (fun p x q y => hypc (andB q (decide (y ≠ 0))) (y ≠ 0) (mkI (both p q) (x.fmod y)) st) none
  | .Pow => intz a b (fun p x q y => hypc (andB (both p q) (powB x y)) (0 ≤ y ∧ y ≤ 1000000 ∧ x.natAbs < 2 ^ 64) (mkI (both p q) (x ^ y.toNat)) st) none
  | _ => none

noncomputable def isNone : AV → Option Bool
  | .none => some true
  | .con (.ref _) => some false
  | .con _ => none
  | _ => some false
/-- the texts in a row of values -/
noncomputable def strsOf : List AV → Option (List (Bool × Nm))
  | [] => some []
  | a :: r => match asStr a with
    | some q => match strsOf r with
      | some l => some (q :: l)
      | none => none
    | none => none
/-- is the text one of these? -/
noncomputable def inGo (p : Bool) (x : Nm) : List (Bool × Nm) → St → Rr Bool
  | [], st => ret false st
  | q :: r, st => bnd (dec (both p q.1) (x = q.2) (nmEq x q.2) st) fun b st => match b with
      | true => ret true st
      | false => inGo p x r st
/-- the texts that a membership test looks through -/
noncomputable def seqOf (T : PT) (b : AV) (st : St) : Option (List AV) := match b with
  | .ref l => match st.sg.get l with
    | .list none ys => some ys
    | .tup ys => some ys
    | _ => none
  | .con (.ref k) => match lookN k T.tups with
    | some ys => some (ys.map .txt)
    | none => none
  | _ => none
mutual
/-- what a value reads as -/
inductive RdV (sg : Tr) (imm : Nat → List AV → Prop) : AV → PyData → Prop
  | none : RdV sg imm .none .none
  | bool (b : Bool) : RdV sg imm (.bool b) (.bool b)
  | num (i : Int) : RdV sg imm (.num i) (.int i)
  | int (i : Int) : RdV sg imm (.int i) (.int i)
  | txt (l : Nm) : RdV sg imm (.txt l) (.str (stn l))
  | str (l : Nm) : RdV sg imm (.str l) (.str (stn l))
  | tup {l : Nat} {xs : List AV} {ds : List PyData} : sg.get l = .tup xs → RdVs sg imm xs ds → RdV sg imm (.ref l) (.tuple ds)
  | list {l : Nat} {p : Option (List AV)} {xs : List AV} {ds : List PyData} : sg.get l = .list p xs → RdVs sg imm (itm p xs) ds → RdV sg imm (.ref l) (.list ds)
  | con {c : Nat} {xs : List AV} {ds : List PyData} : imm c xs → RdVs sg imm xs ds → RdV sg imm (.con (.ref c)) (.tuple ds)
inductive RdVs (sg : Tr) (imm : Nat → List AV → Prop) : List AV → List PyData → Prop
  | nil : RdVs sg imm [] []
  | cons {a : AV} {as : List AV} {d : PyData} {ds : List PyData} : RdV sg imm a d → RdVs sg imm as ds → RdVs sg imm (a :: as) (d :: ds)
end
noncomputable def DatEq (sg : Tr) (imm : Nat → List AV → Prop) (a b : AV) (c : Bool) : Prop := ∃ da db, RdV sg imm a da ∧ RdV sg imm b db ∧ SeqAt.shaped da = true ∧ SeqAt.shaped db = true ∧ PyData.eqv da db = c
noncomputable def isRf : AV → Bool
  | .ref _ => true
  | .con (.ref _) => true
  | _ => false
/-- two lists or tuples compared: the oracle says, the premise holds it -/
noncomputable def eqD (a b : AV) (st : St) : Rr Bool := match both (isRf a) (isRf b) with
  | true => match st.or with
    | [] => none
    | k :: r => some (!Nat.beq k 0, { st with or := r }, [DatEq st.sg st.imm a b (!Nat.beq k 0)])
  | false => none
/-- a text in a list of texts that is not written out -/
noncomputable def inL (x : Nm) (b : AV) (st : St) : Rr Bool := match b with
  | .ref l => match st.sg.get l with
    | .list (some p) xs => bnd (some ((), st, [∀ y ∈ itm (some p) xs, ∃ z, y = AV.str z])) fun _ st => ask (AV.str x ∈ itm (some p) xs) st
    | _ => none
  | _ => none
noncomputable def oDec (lit : Bool) (p : Prop) (d : Bool) (f : Bool → Bool) (st : St) : Rr AV := bnd (dec lit p d st) fun c st => ret (.bool (f c)) st
noncomputable def oEq (f : Bool → Bool) (a b : AV) (st : St) : Rr AV := intz a b (fun p x q y => oDec (both p q) (x = y) (decide (x = y)) f st) (strz a b (fun p x q y => oDec (both p q) (x = y) (nmEq x y) f st)
  (bnd (eqD a b st) fun c st => ret (.bool (f c)) st))
noncomputable def oIs (f : Bool → Bool) (a b : AV) (st : St) : Rr AV := match b with
  | .none => opt (isNone a) fun c => ret (.bool (f c)) st
  | _ => none
noncomputable def oIn (T : PT) (f : Bool → Bool) (a b : AV) (st : St) : Rr AV := opt (asStr a) fun p => match seqOf T b st with
  | some ys => opt (strsOf ys) fun l => bnd (inGo p.1 p.2 l st) fun c st => ret (.bool (f c)) st
  | none => bnd (inL p.2 b st) fun c st => ret (.bool (f c)) st
noncomputable def cmp (T : PT) (op : CmpOp) (a b : AV) (st : St) : Rr AV := match op with
  | .Eq => oEq id a b st
  | .NotEq => oEq not a b st
  | .Lt => intz a b (fun p x q y => oDec (both p q) (x < y) (decide (x < y)) id st) none
  | .LtE => intz a b (fun p x q y => oDec (both p q) (x ≤ y) (decide (x ≤ y)) id st) none
  | .Gt => intz a b (fun p x q y => oDec (both p q) (y < x) (decide (y < x)) id st) none
  | .GtE => intz a b (fun p x q y => oDec (both p q) (y ≤ x) (decide (y ≤ x)) id st) none
  | .Is => oIs id a b st
  | .IsNot => oIs not a b st
  | .In => oIn T id a b st
  | .NotIn => oIn T not a b st
noncomputable def loadN (T : PT) (fi : FI) (x : Nm) (st : St) : Rr AV := match nmEq x nDebug with
  | true => none
  | false => match kindL x fi.sc.names with
    | some .local => match look x st.mu with
      | some a => ret a st
      | none => none
    | some .cell => match look x fi.cl with
      | some l => match st.sg.get l with
        | .cell (some a) => ret a st
        | _ => none
      | none => none
    | some .free => match nmEq x nClassdict with
      | true => none
      | false => match look x fi.cl with
        | some l => match st.sg.get l with
          | .cell (some a) => ret a st
          | _ => none
        | none => none
    | some .globalImplicit => match look x T.glob with
      | some (.av a) => ret a st
      | _ => none
    | _ => none
noncomputable def loadF (T : PT) (fi : FI) (x : Nm) : Option Fn := match nmEq x nDebug with
  | true => none
  | false => match kindL x fi.sc.names with
    | some .globalImplicit => match look x T.glob with
      | some (.fn f) => some f
      | _ => none
    | _ => none
noncomputable def storeN (fi : FI) (x : Nm) (a : AV) (st : St) : Rr Unit := match kindL x fi.sc.names with
  | some .local => ret () { st with mu := put x a st.mu }
  | some .cell => match look x fi.cl with
    | some l => match st.sg.get l with
      | .cell _ => ret () (setO l (.cell (some a)) st)
      | _ => none
    | none => none
  | _ => none
noncomputable def storeNs (fi : FI) : List Str → List AV → St → Rr Unit
  | [], [], st => ret () st
  | x :: xs, a :: as, st => bnd (storeN fi (nm x) a st) fun _ st => storeNs fi xs as st
  | _, _, _ => none
noncomputable def getA (T : PT) (a : AV) (x : Nm) (st : St) : Rr AV := match a with
  | .ref l => match st.sg.get l with
    | .inst C d => match lookN C T.cls with
      | some ci => match memN x ci.flds with
        | true => match st.sg.get d with
          | .dict es => match look x es with
            | some v => ret v st
            | none => none
          | _ => none
        | false => none
      | none => none
    | _ => none
  | _ => none
noncomputable def setA (T : PT) (a : AV) (x : Nm) (v : AV) (st : St) : Rr Unit := match a with
  | .ref l => match st.sg.get l with
    | .inst C d => match lookN C T.cls with
      | some ci => match memN x ci.flds with
        | true => match st.sg.get d with
          | .dict es => match short 50 es with
            | true => ret () (setO d (.dict (put x v es)) st)
            | false => none
          | _ => none
        | false => none
      | none => none
    | _ => none
  | _ => none
noncomputable def nAppend : Nm := [97, 112, 112, 101, 110, 100]
noncomputable def nPop : Nm := [112, 111, 112]
noncomputable def nExtend : Nm := [101, 120, 116, 101, 110, 100]
noncomputable def nReverse : Nm := [114, 101, 118, 101, 114, 115, 101]
noncomputable def nGet : Nm := [103, 101, 116]
noncomputable def nJoin : Nm := [106, 111, 105, 110]
noncomputable def listM : List (Nm × Bi) := [(nAppend, .append), (nPop, .pop), (nExtend, .extend), (nReverse, .reverse)]
noncomputable def dictM : List (Nm × Bi) := [(nGet, .dget)]
noncomputable def strM : List (Nm × Bi) := [(nJoin, .join)]
noncomputable def meth (T : PT) (a : AV) (x : Nm) (st : St) : Option Fn := match a with
  | .ref l => match st.sg.get l with
    | .inst C d => match lookN C T.cls with
      | some ci => match look x ci.mths with
        | some f => match st.sg.get d with
          | .dict es => match look x es with
            | some _ => none
            | none => some (.fn f)
          | _ => none
        | none => none
      | none => none
    | .list _ _ => match look x listM with
      | some b => some (.bi b)
      | none => none
    | .tab _ => match look x dictM with
      | some b => some (.bi b)
      | none => none
    | _ => none
  | .txt _ => match look x strM with
    | some b => some (.bi b)
    | none => none
  | _ => none
/-- an index; a literal one is reckoned, another must be non-negative and is asked -/
noncomputable def nth {α : Type} : List α → Nat → Option α
  | [], _ => none
  | a :: _, 0 => some a
  | _ :: r, n + 1 => nth r n
theorem nth_eq {α : Type} : ∀ (l : List α) (n : Nat), nth l n = l[n]?
  | [], _ => rfl
  | _ :: _, 0 => rfl
  | _ :: r, n + 1 => by simpa [nth] using nth_eq r n
noncomputable def getI (a i : AV) (st : St) : Rr AV := match a with
  | .ref l => match i with
    | .num (.ofNat k) => match st.sg.get l with
      | .tup xs => match nth xs k with
        | some v => hypc (Nat.blt k 1000000) (k < 2 ^ 62) v st
        | none => none
      | .list none xs => match nth xs k with
        | some v => hypc (Nat.blt k 1000000) (k < 2 ^ 62) v st
        | none => none
      | _ => none
    | .int k => match st.sg.get l with
      | .list p xs => expect (fun v => 0 ≤ k ∧ k < 2 ^ 62 ∧ (itm p xs)[k.toNat]? = some v) st
      | _ => none
    | _ => none
  | .txt l => match i with
    | .int k => expect (fun v => 0 ≤ k ∧ k < 2 ^ 62 ∧ ∃ c, v = .str [c] ∧ l[k.toNat]? = some c) st
    | _ => none
  | _ => none
noncomputable def setI (a i v : AV) (st : St) : Rr Unit := match a with
  | .ref l => match i with
    | .num (.ofNat k) => match st.sg.get l with
      | .list none xs => match nth xs k with
        | some _ => hypc (Nat.blt k 1000000) (k < 2 ^ 62) () (setO l (.list none (xs.set k v)) st)
        | none => none
      | _ => none
    | .txt x => match st.sg.get l with
      | .tab es => match short 50 es with
        | true => ret () (setO l (.tab (put x v es)) st)
        | false => none
      | _ => none
    | _ => none
  | _ => none
/-- a bound of a slice: none, or a number that is not negative -/
noncomputable def lowB : AV → Option Int
  | .none => some 0
  | .num i => some i
  | .int i => some i
  | _ => none
noncomputable def cut {α : Type} (lo : Int) (l : List α) : AV → Option (List α)
  | .none => some (l.drop lo.toNat)
  | .num i => some ((l.take i.toNat).drop lo.toNat)
  | .int i => some ((l.take i.toNat).drop lo.toNat)
  | _ => none
noncomputable def okB : AV → Prop
  | .none => True
  | .num i => 0 ≤ i ∧ i < 2 ^ 62
  | .int i => 0 ≤ i ∧ i < 2 ^ 62
  | _ => False
noncomputable def litB : AV → Bool
  | .int _ => false
  | _ => true
noncomputable def okBB : AV → Bool
  | .none => true
  | .num i => andB (decide (0 ≤ i)) (decide (i < 1000000))
  | _ => false
theorem okBB_iff {a : AV} (h : okBB a = true) : okB a := by
  cases a with
  | none => trivial
  | num i =>
    obtain ⟨h1, h2⟩ := andB_iff h
    have h1 := of_decide_eq_true h1
    have h2 := of_decide_eq_true h2
    exact ⟨h1, by lia⟩
  | _ => cases h
/-- a slice -/
noncomputable def slc (a lo hi step : AV) (st : St) : Rr AV := match step with
  | .none => match lowB lo with
    | none => none
    | some i => match asStr a with
      | some (p, l) => match cut i l hi with
        | some r => some (mkS (both p (both (litB lo) (litB hi))) r, st, hcP (okBB lo) (okB lo) ++ (hcP (okBB hi) (okB hi) ++ hcP (andB p (short 1000 l)) (l.length ≤ sizeLine)))
        | none => none
      | none => match a with
        | .ref k => match st.sg.get k with
          | .list none xs => match cut i xs hi with
            | some r => bnd (some ((), st, hcP (okBB lo) (okB lo) ++ (hcP (okBB hi) (okB hi) ++ hcP (short 1000 xs) (xs.length < 2 ^ 20)))) fun _ st => alloc (.list none r) st
            | none => none
          | _ => none
        | _ => none
  | .num i => match decide (i = -1) with
    | true => match a with
      | .ref k => match st.sg.get k with
        | .list none xs => match lo, hi with
          | .none, .none => bnd (hypc (short 1000 xs) (xs.length < 2 ^ 20) () st) fun _ st => alloc (.list none xs.reverse) st
          | .none, .num (.ofNat 0) => bnd (hypc (short 1000 xs) (xs.length < 2 ^ 20) () st) fun _ st => alloc (.list none (xs.drop 1).reverse) st
          | _, _ => none
        | _ => none
      | _ => none
    | false => none
  | _ => none

/-- a slice of the list of the ground -/
noncomputable def slcS (fi : FI) (a lo hi step : AV) (st : St) : Rr AV := match a with
  | .con (.ref k) => match fi.scr, step with
    | some (b, xs), .none => match lowB lo with
      | none => none
      | some i => match cut i xs hi with
        | some r => bnd (some ((), st, (k = b) :: (hcP (okBB lo) (okB lo) ++ (hcP (okBB hi) (okB hi) ++ [xs.length < 2 ^ 20])))) fun _ st => alloc (.list none r) st
        | none => none
    | _, _ => none
  | _ => slc a lo hi step st

noncomputable def lenL (p : Option (List AV)) (xs : List AV) : AV := match p with
  | none => .num xs.length
  | some pre => .int (pre.length + xs.length : Nat)
noncomputable def popO : List AV → Option (List AV × AV)
  | [] => none
  | a :: r => match popO r with
    | some (xs, y) => some (a :: xs, y)
    | none => some ([], a)
noncomputable def typeB (st : St) (a : AV) : Option Bi := match a with
  | .num _ => some .int
  | .int _ => some .int
  | .txt _ => some .tstr
  | .str _ => some .tstr
  | .ref l => match st.sg.get l with
    | .tup _ => some .ttup
    | .list _ _ => some .list
    | _ => none
  | _ => none
noncomputable def biEq : Bi → Bi → Bool
  | .int, .int => true
  | .tstr, .tstr => true
  | .ttup, .ttup => true
  | .list, .list => true
  | _, _ => false
noncomputable def memNat (n : Nat) : List Nat → Bool
  | [] => false
  | k :: r => match Nat.beq n k with
    | true => true
    | false => memNat n r
set_option tactic.hygienic true in
theorem memNat_iff {n : Nat} : ∀ {l : List Nat}, memNat n l = true → n ∈ l
  | k :: r, h => by
    unfold memNat at h
    split at h
    · rename_i e; rw [Nat.eq_of_beq_eq_true e]; exact .head _
    · exact .tail _ (memNat_iff h)
noncomputable def isin (T : PT) (a : AV) (t : Fn) (st : St) : Rr AV := match typeB st a with
  | some k => match t with
    | .bi .int => match k with
      | .int => ret (.bool true) st
      | .tstr => ret (.bool false) st
      | _ => none
    | .bi .tstr => match k with
      | .int => ret (.bool false) st
      | .tstr => ret (.bool true) st
      | .ttup => ret (.bool false) st
      | _ => none
    | .bi .ttup => match k with
      | .int => ret (.bool false) st
      | .tstr => ret (.bool false) st
      | .ttup => ret (.bool true) st
      | _ => none
    | .fn C => match k with
      | .tstr => match memNat C T.ncls with
        | true => ret (.bool false) st
        | false => none
      | _ => none
    | _ => none
  | none => none
noncomputable def okI (p : Bool) (x : Int) : Bool := andB p (andB (decide (-1000000 < x)) (decide (x < 1000000)))
theorem okI_iff {p : Bool} {x : Int} (h : okI p x = true) : -(2 ^ 62) ≤ x ∧ x < 2 ^ 62 := by
  obtain ⟨_, h2⟩ := andB_iff h
  obtain ⟨h3, h4⟩ := andB_iff h2
  have h3 := of_decide_eq_true h3
  have h4 := of_decide_eq_true h4
  exact ⟨by lia, by lia⟩
noncomputable def upL (p : Bool) (a : Int) : Nat → List AV
  | 0 => []
  | c + 1 => mkI p a :: upL p (a + 1) c
noncomputable def catL : List (Bool × Nm) → Nm
  | [] => []
  | q :: r => q.2 ++ catL r
noncomputable def litL : List (Bool × Nm) → Bool
  | [] => true
  | q :: r => andB q.1 (litL r)
noncomputable def bcall (b : Bi) (vs : List AV) (st : St) : Rr AV := match b with
  | .range => match vs with
    | [a] => match asInt a with
      | some (p, x) => bnd (hypc (okI p x) (-(2 ^ 62) ≤ x ∧ x < 2 ^ 62) () st) fun _ st => alloc (.rng p 0 x) st
      | none => none
    | [a, b] => match asInt a, asInt b with
      | some (p, x), some (q, y) => bnd (some ((), st, hcP (okI p x) (-(2 ^ 62) ≤ x ∧ x < 2 ^ 62) ++ hcP (okI q y) (-(2 ^ 62) ≤ y ∧ y < 2 ^ 62))) fun _ st => alloc (.rng (both p q) x y) st
      | _, _ => none
    | _ => none
  | .list => match vs with
    | [.ref k] => match st.sg.get k with
      | .rng p a b => match st.or with
        | c :: r => bnd (some ((), { st with or := r }, [(if a < b then b - a else 0) = (c : Int), c ≤ 1000])) fun _ st => alloc (.list none (upL p a c)) st
        | [] => none
      | _ => none
    | _ => none
  | .abs => match vs with
    | [a] => match asInt a with
      | some (p, x) => ret (mkI p (if x < 0 then -x else x)) st
      | none => none
    | _ => none
  | .int => match vs with
    | [a] => match asInt a with
      | some _ => ret a st
      | none => none
    | _ => none
  | .join => match vs with
    | [.txt [], .ref k] => match st.sg.get k with
      | .list none xs => match strsOf xs with
        | some l => match short 1000 xs with
          | true => hypc (andB (litL l) (short 1000 (catL l))) ((catL l).length ≤ 1000) (mkS (litL l) (catL l)) st
          | false => none
        | none => none
      | _ => none
    | _ => none
  | .len => match vs with
    | [a] => match asStr a with
      | some (p, l) => hypc (andB p (short 1000 l)) (l.length < 2 ^ 62) (mkI p l.length) st
      | none => match a with
        | .ref k => match st.sg.get k with
          | .list p xs => hypc (shortP p xs) ((itm p xs).length < 2 ^ 62) (lenL p xs) st
          | .tup xs => hypc (short 1000 xs) (xs.length < 2 ^ 62) (.num xs.length) st
          | _ => none
        | _ => none
    | _ => none
  | .append => match vs with
    | [.ref k, v] => match st.sg.get k with
      | .list p xs => hypc (shortP p xs) ((itm p xs).length ≤ sizeLine) .none (setO k (.list p (xs ++ [v])) st)
      | _ => none
    | _ => none
  | .pop => match vs with
    | [.ref k] => match st.sg.get k with
      | .list p xs => match popO xs with
        | some (ys, v) => hypc (shortP p xs) ((itm p xs).length ≤ sizeLine) v (setO k (.list p ys) st)
        | none => none
      | _ => none
    | _ => none
  | .reverse => match vs with
    | [.ref k] => match st.sg.get k with
      | .list none xs => hypc (short 1000 xs) (xs.length ≤ sizeLine) .none (setO k (.list none xs.reverse) st)
      | _ => none
    | _ => none
  | .extend => match vs with
    | [.ref k, .ref j] => match st.sg.get k, st.sg.get j with
      | .list p xs, .list none ys => hypc (andB (!Nat.beq k j) (andB (shortP p xs) (short 1000 ys))) (k ≠ j ∧ (itm p xs).length + ys.length ≤ sizeLine) .none (setO k (.list p (xs ++ ys)) st)
      | _, _ => none
    | _ => none
  | .dget => match vs with
    | [.ref k, .txt x, d] => match st.sg.get k with
      | .tab es => match look x es with
        | some v => ret v st
        | none => ret d st
      | _ => none
    | _ => none
  | _ => none

noncomputable def takeN {α : Type} : Nat → List α → Option (List α × List α)
  | 0, l => some ([], l)
  | _ + 1, [] => none
  | n + 1, a :: l => match takeN n l with
    | some (r, l') => some (a :: r, l')
    | none => none
/-- a tuple's items -/
noncomputable def unp (a : AV) (n : Nat) (st : St) : Rr (List AV) := match a with
  | .ref l => match st.sg.get l with
    | .tup xs => match Nat.beq n xs.length with
      | true => ret xs st
      | false => none
    | _ => none
  | .con (.ref c) => match takeN n st.ov with
    | some (xs, r) => some (xs, { st with ov := r }, [st.imm c xs])
    | none => none
  | _ => none
/-- an iterator is made -/
noncomputable def mkIt (l : Nat) (st : St) : Rr AV := match st.sg.get l with
  | .list _ _ => alloc (.liter l 0) st
  | .rng p a b => alloc (.riter p a (if a < b then b - a else 0)) st
  | _ => none
/-- an iterator's next item -/
noncomputable def nxt (k : Nat) (st : St) : Rr (Option AV) := match st.sg.get k with
  | .liter l i => match st.sg.get l with
    | .list none xs => match nth xs i with
      | none => ret none (setO k .dead st)
      | some a => ret (some a) (setO k (.liter l (i + 1)) st)
    | .list (some p) xs => match st.or with
      | [] => none
      | c :: r => match Nat.beq c 0 with
        | true => some (none, { setO k .dead st with or := r }, [nth (itm (some p) xs) i = none])
        | false => match st.ov with
          | [] => none
          | v :: rv => some (some v, { setO k (.liter l (i + 1)) st with or := r, ov := rv }, [nth (itm (some p) xs) i = some v])
    | _ => none
  | .riter p x left => bnd (dec p (0 < left) (decide (0 < left)) st) fun c st => match c with
    | true => ret (some (mkI p x)) (setO k (.riter p (x + 1) (left - 1)) st)
    | false => ret none (setO k .dead st)
  | _ => none
structure Evs where
  e : FI → Expr → St → Rr AV
  es : FI → List Expr → St → Rr (List AV)
  b : FI → Expr → St → Rr Bool
  s : FI → Stmt → St → Rr AFl
  ss : FI → List Stmt → St → Rr AFl
  call : Bool → Fn → List AV → St → Rr AV
  asg : FI → Expr → AV → St → Rr Unit
  asgs : FI → List Expr → List AV → St → Rr Unit
  wh : FI → Expr → List Stmt → St → Rr AFl
  fr : FI → Expr → Nat → List Stmt → St → Rr AFl
  cp : FI → Expr → Expr → List Expr → Nat → Nat → St → Rr Unit
  ts : FI → List Expr → St → Rr Bool

/-- the callee's frame, and back -/
noncomputable def zipP : List Nm → List AV → Option (List (Nm × AV))
  | [], [] => some []
  | x :: xs, a :: as => match zipP xs as with
    | some r => some ((x, a) :: r)
    | none => none
  | _, _ => none
noncomputable def flV : AFl → AV
  | .ret a => a
  | _ => .none
noncomputable def enter (I : Evs) (f : FnI) (vs : List AV) (st : St) : Rr AV := match zipP f.ps vs with
  | some mu => bnd (I.ss ⟨f.sc, [], true, none⟩ f.body { st with mu := mu }) fun fl st' => ret (flV fl) { st' with mu := st.mu }
  | none => none
noncomputable def stepCall (T : PT) (I : Evs) (own : Bool) (f : Fn) (vs : List AV) (st : St) : Rr AV := match f with
  | .bi b => match b with
    | .isin => none
    | _ => bcall b vs st
  | .fn a => match own with
    | false => none
    | true => match T.ext a with
      | some k => k vs st
      | none => match lookN a T.fns with
        | some f => enter I f vs st
        | none => match lookN a T.cls with
          | some ci => match lookN ci.ini T.fns with
            | some f => bnd (alloc (.dict []) st) fun _ st1 => bnd (alloc (.inst a st.n) st1) fun x st2 =>
                bnd (enter I f (x :: vs) st2) fun r st3 => match r with
                  | .none => ret x st3
                  | _ => none
            | none => none
          | none => none

noncomputable def noStar : Expr → Bool
  | .Starred .. => false
  | _ => true
noncomputable def plainV : Expr → Bool
  | .ListComp .. => false
  | .SetComp .. => false
  | .DictComp .. => false
  | _ => true
noncomputable def plainIt : Expr → Bool
  | .Name .. => true
  | .Attribute .. => true
  | .Call .. => true
  | .Subscript .. => true
  | _ => false
noncomputable def plainO : Expr → Bool
  | .Name .. => true
  | .Attribute .. => true
  | .Subscript .. => true
  | .Constant .. => true
  | .Call (.Name ..) (_ :: _) _ _ => true
  | .Call (.Attribute ..) _ _ _ => true
  | _ => false
noncomputable def constE : Const → Option AV
  | .none => some .none
  | .bool b => some (.bool b)
  | .int i => some (.num i)
  | .str s => some (.txt (nm s))
  | _ => none
noncomputable def argsE (I : Evs) (fi : FI) : List Expr → St → Rr (List AV)
  | [], st => ret [] st
  | e :: r, st => match List.all (e :: r) noStar with
    | true => I.es fi (e :: r) st
    | false => none
noncomputable def optE (I : Evs) (fi : FI) : Option Expr → St → Rr AV
  | none, st => ret .none st
  | some e, st => I.e fi e st

/-- the cells that a comprehension takes from its frame -/
noncomputable def closA (cl : List (Nm × Nat)) : List (Str × NameKind) → Option (List (Nm × Nat))
  | [] => some []
  | p :: r => match p.2 with
    | .free => match look (nm p.1) cl with
      | some l => match closA cl r with
        | some q => some ((nm p.1, l) :: q)
        | none => none
      | none => none
    | _ => closA cl r
noncomputable def dumEnv (sc : Scope) : Env := { scope := sc, locals := 0, globals := 0, cells := [] }
noncomputable def noCell : List (Str × NameKind) → Bool
  | [] => true
  | p :: r => match p.2 with
    | .cell => false
    | _ => noCell r
set_option tactic.hygienic true in
theorem noCell_iff : ∀ {l : List (Str × NameKind)}, noCell l = true → ∀ y ∈ l, y.2 ≠ .cell
  | p :: r, h, y, hy => by
    unfold noCell at h
    split at h
    · cases h
    · rename_i hn
      rcases List.mem_cons.mp hy with rfl | hy
      · exact hn
      · exact noCell_iff h y hy
noncomputable def localsOk (names : List (Str × NameKind)) : List (Str × NameKind) → Bool
  | [] => true
  | p :: r => match p.2 with
    | .local => match kindL (nm p.1) names with
      | some .local => localsOk names r
      | _ => false
    | _ => localsOk names r
noncomputable def isIsin : Fn → Bool
  | .bi .isin => true
  | _ => false
noncomputable def asNm : Expr → Option Nm
  | .Name x _ => some (nm x)
  | _ => none
noncomputable def compE (I : Evs) (fi : FI) (elt target iter : Expr) (ifs : List Expr) (sc : Scope) (st : St) : Rr AV := match andB (both (plainIt iter) (noCell sc.names)) (localsOk sc.names sc.names) with
  | true => match sc.kind with
    | .function => opt (closA fi.cl sc.names) fun cl => bnd (I.e fi iter st) fun a st => opt (asRef a) fun l => bnd (mkIt l st) fun it st => opt (asRef it) fun k => bnd (alloc (.list none []) st) fun _ st1 =>
        bnd (I.cp ⟨relabel sc (dumEnv fi.sc), cl, false, none⟩ target elt ifs k st.n { st1 with mu := [] }) fun _ st' => ret (.ref st.n) { st' with mu := st1.mu }
    | _ => none
  | false => none
noncomputable def stepE (T : PT) (I : Evs) (fi : FI) (x : Expr) (st : St) : Rr AV := match x with
  | .Constant c _ _ => match constE c with
    | some a => ret a st
    | none => none
  | .Name x _ => loadN T fi (nm x) st
  | .BoolOp op vs p => match vs with
    | [] => none
    | [e] => I.e fi e st
    | e :: e' :: r => bnd (I.e fi e st) fun a st => match a with
      | .bool c => match op, c with
        | .And, true => I.e fi (.BoolOp op (e' :: r) p) st
        | .And, false => ret a st
        | .Or, true => ret a st
        | .Or, false => I.e fi (.BoolOp op (e' :: r) p) st
      | _ => none
  | .BinOp l op r _ => bnd (I.e fi l st) fun a st => bnd (I.e fi r st) fun b st => bin op a b st
  | .UnaryOp op x _ => match op with
    | .USub => bnd (I.e fi x st) fun a st => opt (asInt a) fun q => ret (mkI q.1 (-q.2)) st
    | .Not => bnd (I.e fi x st) fun a st => match a with
      | .bool c => ret (.bool !c) st
      | _ => none
    | _ => none
  | .IfExp t b o _ => bnd (I.b fi t st) fun c st => match c with
    | true => I.e fi b st
    | false => I.e fi o st
  | .Dict ks vs _ => match ks, vs with
    | [], [] => alloc (.tab []) st
    | _, _ => none
  | .List es _ => bnd (I.es fi es st) fun vs st => match short 100 vs with
    | true => alloc (.list none vs) st
    | false => none
  | .Tuple es _ _ => bnd (I.es fi es st) fun vs st => match short 100 vs with
    | true => alloc (.tup vs) st
    | false => none
  | .Compare l ops rs _ => match ops, rs with
    | [op], [r] => match behindInMarks op r with
      | true => none
      | false => bnd (I.e fi l st) fun a st => bnd (I.e fi r st) fun b st => cmp T op a b st
    | _, _ => none
  | .Call f args kws p => match kws with
    | _ :: _ => none
    | [] => match f with
      | .Attribute o name apos => match andB (plainO o) (andB (Nat.beq apos.endLine p.line) (short 20 args)) with
        | true => bnd (I.e fi o st) fun a st => opt (meth T a (nm name) st) fun f => bnd (argsE I fi args st) fun vs st => I.call fi.own f (a :: vs) st
        | false => none
      | .Name x _ => opt (loadF T fi (nm x)) fun f => match isIsin f with
          | true => match args with
            | [e, z] => match noStar e with
              | true => opt (asNm z) fun y => bnd (I.e fi e st) fun a st => opt (loadF T fi y) fun t => isin T a t st
              | false => none
            | _ => none
          | false => match short 20 args with
            | true => bnd (argsE I fi args st) fun vs st => I.call fi.own f vs st
            | false => none
      | _ => none
  | .Attribute o x _ => match plainO o with
    | true => bnd (I.e fi o st) fun a st => getA T a (nm x) st
    | false => none
  | .Subscript o i _ => bnd (I.e fi o st) fun a st => match i with
    | .Slice l u s _ => bnd (optE I fi l st) fun lo st => bnd (optE I fi u st) fun hi st => bnd (optE I fi s st) fun sp st =>
        match s, sp with
        | some _, .none => none
        | _, _ => slcS fi a lo hi sp st
    | _ => bnd (I.e fi i st) fun k st => getI a k st
  | .ListComp elt gens sc _ => match gens with
    | [⟨target, iter, ifs, 0⟩] => compE I fi elt target iter ifs sc st
    | _ => none
  | _ => none

noncomputable def stepEs (I : Evs) (fi : FI) (xs : List Expr) (st : St) : Rr (List AV) := match xs with
  | [] => ret [] st
  | e :: r => match noStar e with
    | true => bnd (I.e fi e st) fun a st => bnd (I.es fi r st) fun as st => ret (a :: as) st
    | false => none

noncomputable def stepB (T : PT) (I : Evs) (fi : FI) (x : Expr) (st : St) : Rr Bool := match x with
  | .UnaryOp .Not x _ => bnd (I.b fi x st) fun c st => ret (!c) st
  | .BoolOp op vs p => match op, vs with
    | .And, [] => ret true st
    | .Or, [] => ret false st
    | .And, e :: r => bnd (I.b fi e st) fun c st => match c with
      | true => I.b fi (.BoolOp .And r p) st
      | false => ret false st
    | .Or, e :: r => bnd (I.b fi e st) fun c st => match c with
      | true => ret true st
      | false => I.b fi (.BoolOp .Or r p) st
  | .IfExp t b o _ => bnd (I.b fi t st) fun c st => match c with
    | true => I.b fi b st
    | false => I.b fi o st
  | .Compare l ops rs _ => match ops, rs with
    | [op], [r] => match behindInMarks op r with
      | true => none
      | false => bnd (I.e fi l st) fun a st => bnd (I.e fi r st) fun b st => bnd (cmp T op a b st) fun c st => match c with
        | .bool c => ret c st
        | _ => none
    | _, _ => none
  | .Call f as ks p => bnd (I.e fi (.Call f as ks p) st) fun a st => match a with
    | .bool c => ret c st
    | _ => none
  | .Name x p => bnd (I.e fi (.Name x p) st) fun a st => match a with
    | .bool c => ret c st
    | _ => none
  | _ => none

noncomputable def pureOf {α : Type} : Sem α → Option α
  | .pure a => some a
  | _ => none

noncomputable def stepS (T : PT) (I : Evs) (fi : FI) (x : Stmt) (st : St) : Rr AFl := match x with
  | .Expr v _ => match plainV v with
    | true => bnd (I.e fi v st) fun _ st => ret .next st
    | false => none
  | .Pass _ => ret .next st
  | .Break _ => ret .brk st
  | .Continue _ => ret .cont st
  | .Return v _ => match v with
    | none => ret (.ret .none) st
    | some e => bnd (I.e fi e st) fun a st => ret (.ret a) st
  | .Assign ts v p => match plainV v with
    | true => match ts with
      | [t] => match t with
        | .Name x _ => bnd (I.e fi v st) fun a st => bnd (storeN fi (nm x) a st) fun _ st => ret .next st
        | .Attribute o x _ => bnd (I.e fi v st) fun a st => bnd (I.e fi o st) fun b st => bnd (setA T b (nm x) a st) fun _ st => ret .next st
        | .Subscript o i _ => bnd (I.e fi v st) fun a st => bnd (I.e fi o st) fun b st => bnd (I.e fi i st) fun k st => bnd (setI b k a st) fun _ st => ret .next st
        | .Tuple es k tp => opt (pureOf (swappedStores [.Tuple es k tp] v (dumEnv fi.sc))) fun o => match o with
          | none => bnd (I.e fi v st) fun a st => bnd (I.asg fi (.Tuple es k tp) a st) fun _ st => ret .next st
          | some names => bnd (I.e fi v st) fun a st => bnd (unp a names.length st) fun xs st => bnd (storeNs fi names.reverse xs.reverse st) fun _ st => ret .next st
        | _ => none
      | _ => none
    | false => match v, ts with
      | .ListComp .., [.Name x tp] => match pureOf (swapsWith v (some (.Name x tp)) p.line (dumEnv fi.sc)) with
        | some _ => bnd (I.e fi v st) fun a st => bnd (storeN fi (nm x) a st) fun _ st => ret .next st
        | none => none
      | _, _ => none
  | .AugAssign t op v _ => match t with
    | .Attribute o x _ => match op with
      | .Add => bnd (I.e fi o st) fun b st => bnd (getA T b (nm x) st) fun old st => bnd (I.e fi v st) fun a st => opt (asInt old) fun p => opt (asInt a) fun q => bnd (setA T b (nm x) (mkI (both p.1 q.1) (p.2 + q.2)) st) fun _ st => ret .next st
      | _ => none
    | _ => none
  | .If t b o _ => bnd (I.b fi t st) fun c st => match c with
    | true => I.ss fi b st
    | false => I.ss fi o st
  | .While t b o _ => match o with
    | [] => I.wh fi t b st
    | _ => none
  | .For t i b o _ => match o with
    | [] => match plainIt i with
      | true => bnd (I.e fi i st) fun a st => match a with
        | .ref l => bnd (mkIt l st) fun it st => match it with
            | .ref k => I.fr fi t k b st
            | _ => none
        | _ => none
      | false => none
    | _ => none
  | _ => none

noncomputable def stepSs (I : Evs) (fi : FI) (xs : List Stmt) (st : St) : Rr AFl := match xs with
  | [] => ret .next st
  | s :: r => bnd (I.s fi s st) fun f st => match f with
    | .next => I.ss fi r st
    | f => ret f st

noncomputable def stepAsg (T : PT) (I : Evs) (fi : FI) (t : Expr) (a : AV) (st : St) : Rr Unit := match t with
  | .Name x _ => storeN fi (nm x) a st
  | .Attribute o x _ => bnd (I.e fi o st) fun b st => setA T b (nm x) a st
  | .Tuple es _ _ => bnd (unp a es.length st) fun xs st => match es.all noStar with
    | true => I.asgs fi es xs st
    | false => none
  | _ => none
noncomputable def stepAsgs (I : Evs) (fi : FI) (ts : List Expr) (vs : List AV) (st : St) : Rr Unit := match ts, vs with
  | [], [] => ret () st
  | t :: ts, v :: vs => bnd (I.asg fi t v st) fun _ st => I.asgs fi ts vs st
  | _, _ => none

noncomputable def stepWh (I : Evs) (fi : FI) (t : Expr) (b : List Stmt) (st : St) : Rr AFl := bnd (I.b fi t st) fun c st => match c with
  | true => bnd (I.ss fi b st) fun f st => match f with
    | .next => I.wh fi t b st
    | .cont => I.wh fi t b st
    | .brk => ret .next st
    | .ret a => ret (.ret a) st
  | false => ret .next st
noncomputable def stepFr (I : Evs) (fi : FI) (t : Expr) (k : Nat) (b : List Stmt) (st : St) : Rr AFl := bnd (nxt k st) fun o st => match o with
  | none => ret .next st
  | some a => bnd (I.asg fi t a st) fun _ st => bnd (I.ss fi b st) fun f st => match f with
    | .next => I.fr fi t k b st
    | .cont => I.fr fi t k b st
    | .brk => ret .next st
    | .ret a => ret (.ret a) st

noncomputable def stepCp (I : Evs) (fi : FI) (t elt : Expr) (ifs : List Expr) (k j : Nat) (st : St) : Rr Unit := bnd (nxt k st) fun o st => match o with
  | none => ret () st
  | some a => bnd (I.asg fi t a st) fun _ st => bnd (I.ts fi ifs st) fun c st => match c with
    | false => I.cp fi t elt ifs k j st
    | true => bnd (I.e fi elt st) fun v st => bnd (bcall .append [.ref j, v] st) fun _ st => I.cp fi t elt ifs k j st
noncomputable def stepTs (I : Evs) (fi : FI) (xs : List Expr) (st : St) : Rr Bool := match xs with
  | [] => ret true st
  | e :: r => bnd (I.b fi e st) fun c st => match c with
    | true => I.ts fi r st
    | false => ret false st

noncomputable def evStep (T : PT) (I : Evs) : Evs where
  e := stepE T I
  es := stepEs I
  b := stepB T I
  s := stepS T I
  ss := stepSs I
  call := stepCall T I
  asg := stepAsg T I
  asgs := stepAsgs I
  wh := stepWh I
  fr := stepFr I
  cp := stepCp I
  ts := stepTs I
noncomputable def ev0 : Evs where
  e := fun _ _ _ => none
  es := fun _ _ _ => none
  b := fun _ _ _ => none
  s := fun _ _ _ => none
  ss := fun _ _ _ => none
  call := fun _ _ _ _ => none
  asg := fun _ _ _ _ => none
  asgs := fun _ _ _ _ => none
  wh := fun _ _ _ _ => none
  fr := fun _ _ _ _ _ => none
  cp := fun _ _ _ _ _ _ _ => none
  ts := fun _ _ _ => none
noncomputable def evs (T : PT) : Nat → Evs
  | 0 => ev0
  | n + 1 => evStep T (evs T n)
end Mine
namespace Mine
open PySem PySem.W PyProof.Rows PySem.Calls PySem.Spec

noncomputable def NoE : Value → Shared → Prop := fun _ _ => False

structure FrOk (K : Frag) (p : Program) (loose : List Str) (mean : ExcName → Option Value) (mg mb : Str → Option Value) (fi : FI) (fc : FC) : Prop where
  X : K.In fc.h₀
  T : Top p loose mean mg mb fc.h₀
  hh : fc.A.handled = none
  hk : fc.env.scope.kind = .function
  sc : fc.env.scope = fi.sc
  gl : fc.env.globals = mainGlobals
  bl : fc.env.builtins = builtinsNs
  own : fi.own = true → Below fc.A₀ fc.base fc.outer fc.h₀ ∧ fc.A.frames = some (fc.env :: fc.outer) ∧ fc.env.frame = some fc.env.locals
  scr : ∀ b xs, fi.scr = some (b, xs) → ∃ vs : List Value, fc.h₀.IsList b vs.toArray ∧ ∀ (ρ : Nat → Addr) (n : Nat), All2 (RepV ρ n) xs vs

noncomputable def Room (D n : Nat) (fc : FC) : Prop := fc.A.depth + n ≤ D ∧ fc.A.units + 10 * n ≤ 10 * D

noncomputable def Pst {α : Type} (P : Params) (fi : FI) (fc : FC) (ρ : Nat → Addr) (st st' : St) (s : Shared) (R : (Nat → Addr) → α → Prop) (Q : α → Shared → Prop) : Prop :=
  ∀ ρ' h' tk v, Ext ρ st.n ρ' st'.n → Rel P fi fc ρ' st' h' → R ρ' v → Q v { s with heap := h', toks := tk }
theorem Pst.of {α : Type} {P : Params} {fi : FI} {fc : FC} {ρ : Nat → Addr} {st st' : St} {s : Shared} {R : (Nat → Addr) → α → Prop} {Q : α → Shared → Prop} (H : Pst P fi fc ρ st st' s R Q) {h' : Heap} {tk : Nat} {v : α}
    (hs : st'.n = st.n) (r : Rel P fi fc ρ st' h') (q : R ρ v) : Q v { s with heap := h', toks := tk } := H ρ h' tk v ⟨Nat.le_of_eq hs.symm, fun _ _ => rfl⟩ r q

theorem sizeL : sizeLine = 16777216 := by rw [sizeLine_eq]
theorem stn_append (a b : Nm) : stn a ++ stn b = stn (a ++ b) := by
  show Str.append _ _ = _
  simp [Str.append, stn]
theorem stn_len (a : Nm) : (stn a).length = a.length := by simp [Str.length, stn]
theorem stn_beq (a b : Nm) : (stn a == stn b) = nmEq a b := by
  cases h : nmEq a b with
  | true => rw [nmEq_iff.mp h]; simp
  | false => simp only [beq_eq_false_iff_ne]; exact fun e => nmEq_ff h (stn_inj e)

theorem asInt_rep {ρ : Nat → Addr} {n : Nat} {a : AV} {v : Value} {p : Bool} {x : Int} (e : asInt a = some (p, x)) (r : RepV ρ n a v) : ∃ t, v = .int x t := by
  cases a <;> simp only [asInt] at e <;> cases e <;> exact r
theorem asStr_rep {ρ : Nat → Addr} {n : Nat} {a : AV} {v : Value} {p : Bool} {x : Nm} (e : asStr a = some (p, x)) (r : RepV ρ n a v) : ∃ t, v = .str (stn x) t := by
  cases a <;> simp only [asStr] at e <;> cases e <;> exact r
theorem mkI_rep {ρ : Nat → Addr} {n : Nat} (p : Bool) (x : Int) (t : Tok) : RepV ρ n (mkI p x) (.int x t) := by cases p <;> exact ⟨t, rfl⟩
theorem mkS_rep {ρ : Nat → Addr} {n : Nat} (p : Bool) (x : Nm) (t : Tok) : RepV ρ n (mkS p x) (.str (stn x) t) := by cases p <;> exact ⟨t, rfl⟩

section
variable {prog : Program} {w : World} {K : Frag} {fi : FI} {fc : FC} {ρ : Nat → Addr} {st st' : St} {s : Shared}

theorem Rel.pst {h : Heap} {α : Type} {R : (Nat → Addr) → α → Prop} {Q : α → Shared → Prop} {tk : Nat} {v : α} (r : Rel w.params fi fc ρ st h) (H : Pst w.params fi fc ρ st st s R Q) (q : R ρ v) : Q v { s with heap := h, toks := tk } := H.of rfl r q

theorem shared_eta (s : Shared) : { s with heap := s.heap, toks := s.toks } = s := rfl

/-- an object made: a list -/
theorem alloc_list {xs : List AV} {pre : Option (List AV)} {vs : List Value} {Q : Value → Shared → Prop} {A : Around} {M : Model} (r : Rel w.params fi fc ρ st s.heap) (hv : All2 (RepV ρ st.n) (itm pre xs) vs) (hz : vs.length ≤ sizeLine)
    (H : Pst w.params fi fc ρ st { st with sg := st.sg.set st.n (.list pre xs), n := st.n + 1 } s (fun ρ' v => RepV ρ' (st.n + 1) (.ref st.n) v) Q) : wpAny M A (newList vs) Q NoE s := by
  obtain ⟨m, os, R⟩ := r
  refine newList_K R.F R.N (fun l h' F' N' lt => ?_) hz
  obtain ⟨R', X⟩ := R.push (ao := .list pre xs) (o := listOf vs.toArray 0) F' N' lt ⟨vs, 0, rfl, hv.mono fun _ _ _ q => q.ext ⟨Nat.le_succ _, fun i hi => by simp [Nat.ne_of_lt hi]⟩⟩
  exact H _ h' s.toks _ X ⟨_, _, R'⟩ ⟨Nat.lt_succ_self _, by simp⟩
theorem alloc_tup {xs : List AV} {vs : List Value} {Q : Value → Shared → Prop} {A : Around} {M : Model} (r : Rel w.params fi fc ρ st s.heap) (hv : All2 (RepV ρ st.n) xs vs) (hz : vs.length ≤ sizeLine)
    (H : Pst w.params fi fc ρ st { st with sg := st.sg.set st.n (.tup xs), n := st.n + 1 } s (fun ρ' v => RepV ρ' (st.n + 1) (.ref st.n) v) Q) : wpAny M A (newTuple vs) Q NoE s := by
  obtain ⟨m, os, R⟩ := r
  refine newTuple_N R.F R.N (fun h' F' N' => ?_) hz
  have lt : ∀ p ∈ ledF st.sg ρ 0 os ++ fc.rest, p.1 < s.heap.objs.size := fun p hp => Heap.lt_size (R.N p hp).1
  obtain ⟨R', X⟩ := R.push (ao := .tup xs) F' N' lt ⟨vs, 0, rfl, hv.mono fun _ _ _ q => q.ext ⟨Nat.le_succ _, fun i hi => by simp [Nat.ne_of_lt hi]⟩⟩
  exact H _ h' s.toks _ X ⟨_, _, R'⟩ ⟨Nat.lt_succ_self _, by simp⟩

theorem list_get (r : Rel w.params fi fc ρ st s.heap) {l : Nat} {pre : Option (List AV)} {xs : List AV} (e : st.sg.get l = .list pre xs) :
    ∃ m os vs k, RelAt w.params fi fc ρ st s.heap m os ∧ os[l]? = some (listOf (List.toArray vs) k) ∧ All2 (RepV ρ st.n) (itm pre xs) vs ∧ (ρ l, listOf (List.toArray vs) k) ∈ ledF st.sg ρ 0 os ++ fc.rest ∧ s.heap.IsList (ρ l) vs.toArray ∧ l < st.n := by
  obtain ⟨m, os, R⟩ := r
  obtain ⟨o, ho, ⟨vs, k, rfl, hv⟩, hm, hg⟩ := R.get e (by intro q; cases q)
  exact ⟨m, os, vs, k, R, ho, hv, hm, ⟨_, hg, rfl, _, rfl⟩, R.lt (by rw [e]; intro q; cases q)⟩
theorem tup_get (r : Rel w.params fi fc ρ st s.heap) {l : Nat} {xs : List AV} (e : st.sg.get l = .tup xs) :
    ∃ m os vs, RelAt w.params fi fc ρ st s.heap m os ∧ All2 (RepV ρ st.n) xs vs ∧ IsTup s.heap (ρ l) vs.toArray ∧ l < st.n := by
  obtain ⟨m, os, R⟩ := r
  obtain ⟨o, ho, ⟨vs, k, rfl, hv⟩, hm, hg⟩ := R.get e (by intro q; cases q)
  exact ⟨m, os, vs, R, hv, ⟨_, hg, rfl, _, rfl⟩, R.lt (by rw [e]; intro q; cases q)⟩

theorem Pst.then {α : Type} {st1 : St} {R : (Nat → Addr) → α → Prop} {Q : α → Shared → Prop} {ρ1 : Nat → Addr} {h1 : Heap} {tk1 : Nat} (H : Pst w.params fi fc ρ st st' s R Q) (X : Ext ρ st.n ρ1 st1.n) :
    Pst w.params fi fc ρ1 st1 st' { s with heap := h1, toks := tk1 } R Q := fun ρ' h' tk v X' r q => H ρ' h' tk v (X.trans X') r q
/-- one piece of the evaluator against one piece of the program -/
noncomputable def J (w : World) (fi : FI) (fc : FC) (L : List AV) (V : List Value) {α β : Type} (ev : St → Rr α) (R : (Nat → Addr) → Nat → α → β → Prop) (wp : (β → Shared → Prop) → Shared → Prop) : Prop :=
  ∀ st a st' P, ev st = some (a, st', P) → Ps P → ∀ ρ s Q, Rel w.params fi fc ρ st s.heap → All2 (RepV ρ st.n) L V → Pst w.params fi fc ρ st st' s (fun ρ' v => R ρ' st'.n a v) Q → wp Q s
noncomputable def rB : (Nat → Addr) → Nat → Bool → Bool → Prop := fun _ _ a v => v = a
noncomputable def rU : (Nat → Addr) → Nat → Unit → Unit → Prop := fun _ _ _ _ => True
noncomputable def rL : (Nat → Addr) → Nat → List AV → List Value → Prop := fun ρ n a v => All2 (RepV ρ n) a v
theorem All2.exts {ρ ρ' : Nat → Addr} {n n' : Nat} (x : Ext ρ n ρ' n') {a : List AV} {v : List Value} (h : All2 (RepV ρ n) a v) : All2 (RepV ρ' n') a v := h.mono fun _ _ _ q => q.ext x
section
variable {α β γ δ : Type} {L : List AV} {V : List Value} {ev : St → Rr α} {R : (Nat → Addr) → Nat → α → β → Prop} {wp wp' : (β → Shared → Prop) → Shared → Prop}
theorem J.by (hw : ∀ Q s, wp' Q s → wp Q s) (h : J w fi fc L V ev R wp') : J w fi fc L V ev R wp := fun st a st' P e hP ρ s Q r c H => hw Q s (h st a st' P e hP ρ s Q r c H)
theorem J.none : J w fi fc L V (fun _ => (none : Rr α)) R wp := fun _ _ _ _ e => nn e
theorem J.ret {a : α} (h : ∀ Q s ρ n, All2 (RepV ρ n) L V → (∀ v tk, R ρ n a v → Q v { s with toks := tk }) → wp Q s) : J w fi fc L V (ret a) R wp := fun st b st' P e hP ρ s Q r c H => by
  obtain ⟨rfl, rfl, rfl⟩ := ret_some e
  exact h Q s ρ st.n c fun v tk q => H.of rfl r q
theorem J.bnd {e1 : St → Rr γ} {k : γ → St → Rr α} {R1 : (Nat → Addr) → Nat → γ → δ → Prop} {wp1 : (δ → Shared → Prop) → Shared → Prop} {wp2 : δ → (β → Shared → Prop) → Shared → Prop} (h1 : J w fi fc L V e1 R1 wp1)
    (h2 : ∀ a v st a' st' P, k a st = some (a', st', P) → Ps P → ∀ ρ s Q, Rel w.params fi fc ρ st s.heap → R1 ρ st.n a v → All2 (RepV ρ st.n) L V → Pst w.params fi fc ρ st st' s (fun ρ' v => R ρ' st'.n a' v) Q → wp2 v Q s) :
    J w fi fc L V (fun st => bnd (e1 st) k) R (fun Q s => wp1 (fun v s' => wp2 v Q s') s) := fun st a st' P h hP ρ s Q r c H =>
  bnd_el h hP fun b st1 P1 P2 g1 g2 hP1 hP2 => h1 st b st1 P1 g1 hP1 ρ s _ r c fun ρ1 h' tk v X r1 q => h2 b v st1 a st' P2 g2 hP2 ρ1 { s with heap := h', toks := tk } Q r1 q (c.exts X) (H.then X)
theorem J.bndV {e1 : St → Rr AV} {k : AV → St → Rr α} {wp1 : (Value → Shared → Prop) → Shared → Prop} {wp2 : Value → (β → Shared → Prop) → Shared → Prop} (h1 : J w fi fc L V e1 RepV wp1) (h2 : ∀ a v, J w fi fc (a :: L) (v :: V) (k a) R (wp2 v)) :
    J w fi fc L V (fun st => Mine.bnd (e1 st) k) R (fun Q s => wp1 (fun v s' => wp2 v Q s') s) := J.bnd h1 fun a v st a' st' P e hP ρ s Q r q c H => h2 a v st a' st' P e hP ρ s Q r ⟨q, c⟩ H
theorem J.bndL {e1 : St → Rr (List AV)} {k : List AV → St → Rr α} {wp1 : (List Value → Shared → Prop) → Shared → Prop} {wp2 : List Value → (β → Shared → Prop) → Shared → Prop} (h1 : J w fi fc L V e1 rL wp1) (h2 : ∀ a v, J w fi fc a v (k a) R (wp2 v)) :
    J w fi fc L V (fun st => Mine.bnd (e1 st) k) R (fun Q s => wp1 (fun v s' => wp2 v Q s') s) := J.bnd h1 fun a v st a' st' P e hP ρ s Q r q c H => h2 a v st a' st' P e hP ρ s Q r q H
theorem J.bndB {e1 : St → Rr Bool} {k : Bool → St → Rr α} {wp1 : (Bool → Shared → Prop) → Shared → Prop} {wp2 : Bool → (β → Shared → Prop) → Shared → Prop} (h1 : J w fi fc L V e1 rB wp1) (ht : J w fi fc L V (k true) R (wp2 true)) (hf : J w fi fc L V (k false) R (wp2 false)) :
    J w fi fc L V (fun st => Mine.bnd (e1 st) k) R (fun Q s => wp1 (fun v s' => wp2 v Q s') s) := J.bnd h1 fun a v st a' st' P e hP ρ s Q r q c H => by
  obtain rfl : v = a := q
  induction v with
  | true => exact ht st a' st' P e hP ρ s Q r c H
  | false => exact hf st a' st' P e hP ρ s Q r c H
theorem J.bndU {e1 : St → Rr Unit} {k : Unit → St → Rr α} {wp1 : (Unit → Shared → Prop) → Shared → Prop} {wp2 : Unit → (β → Shared → Prop) → Shared → Prop} (h1 : J w fi fc L V e1 rU wp1) (h2 : J w fi fc L V (k ()) R (wp2 ())) :
    J w fi fc L V (fun st => Mine.bnd (e1 st) k) R (fun Q s => wp1 (fun v s' => wp2 v Q s') s) := J.bnd h1 fun _ _ st a' st' P e hP ρ s Q r _ c H => h2 st a' st' P e hP ρ s Q r c H
theorem J.bool {c : Bool} {e1 e2 : St → Rr α} (ht : c = true → J w fi fc L V e1 R wp) (hf : c = false → J w fi fc L V e2 R wp) : J w fi fc L V (fun st => match c with | true => e1 st | false => e2 st) R wp := by
  induction c with
  | true => exact ht rfl
  | false => exact hf rfl
theorem J.opt {o : Option γ} {e1 : γ → St → Rr α} (h : ∀ f, o = some f → J w fi fc L V (e1 f) R wp) : J w fi fc L V (fun st => Mine.opt o fun f => e1 f st) R wp := by
  induction o with
  | none => exact J.none
  | some f => exact h f rfl
theorem J.only {c : Bool} {e1 : St → Rr α} (ht : c = true → J w fi fc L V e1 R wp) : J w fi fc L V (fun st => match c with | true => e1 st | false => Option.none) R wp := J.bool ht fun _ => J.none
end
theorem J.hyp {α β : Type} {L : List AV} {V : List Value} {p : Prop} {a : α} {R : (Nat → Addr) → Nat → α → β → Prop} {wp : (β → Shared → Prop) → Shared → Prop} (h : p → J w fi fc L V (Mine.ret a) R wp) : J w fi fc L V (Mine.hyp p a) R wp := fun st b st' P e hP ρ s Q r c H => by
  cases e
  exact h hP.1 st a st [] rfl trivial ρ s Q r c H
theorem J.hypc {α β : Type} {L : List AV} {V : List Value} {c : Bool} {p : Prop} {a : α} {R : (Nat → Addr) → Nat → α → β → Prop} {wp : (β → Shared → Prop) → Shared → Prop} (hc : c = true → p) (h : p → J w fi fc L V (Mine.ret a) R wp) : J w fi fc L V (Mine.hypc c p a) R wp := fun st b st' P e hP ρ s Q r cc H => by
  cases e
  exact h (hyc hP hc) st a st [] rfl trivial ρ s Q r cc H
section
variable {α β : Type} {L : List AV} {V : List Value} {R : (Nat → Addr) → Nat → α → β → Prop} {a b : AV} {va vb : Value}
theorem intsJ {wp : Value → Value → (β → Shared → Prop) → Shared → Prop} {k : Bool → Int → Bool → Int → St → Rr α} {e1 : St → Rr α} (h : ∀ p x q y t u, J w fi fc (mkI q y :: mkI p x :: L) (.int y u :: .int x t :: V) (k p x q y) R (wp (.int x t) (.int y u))) (he : J w fi fc (b :: a :: L) (vb :: va :: V) e1 R (wp va vb)) :
    J w fi fc (b :: a :: L) (vb :: va :: V) (fun st => intz a b (fun p x q y => k p x q y st) (e1 st)) R (wp va vb) := fun st r st' P e hP ρ s Q rr c H => by
  unfold intz at e
  cases ea : asInt a with
  | none => rw [ea] at e; exact he st r st' P e hP ρ s Q rr c H
  | some p => cases eb : asInt b with
    | none => rw [ea, eb] at e; exact he st r st' P e hP ρ s Q rr c H
    | some q =>
      rw [ea, eb] at e
      obtain ⟨t, rfl⟩ := asInt_rep (p := p.1) (x := p.2) ea c.2.1
      obtain ⟨u, rfl⟩ := asInt_rep (p := q.1) (x := q.2) eb c.1
      exact h _ _ _ _ t u st r st' P e hP ρ s Q rr ⟨mkI_rep _ _ _, mkI_rep _ _ _, c.2.2⟩ H
theorem strsJ {wp : Value → Value → (β → Shared → Prop) → Shared → Prop} {k : Bool → Nm → Bool → Nm → St → Rr α} {e1 : St → Rr α} (h : ∀ p x q y t u, J w fi fc (mkS q y :: mkS p x :: L) (.str (stn y) u :: .str (stn x) t :: V) (k p x q y) R (wp (.str (stn x) t) (.str (stn y) u))) (he : J w fi fc (b :: a :: L) (vb :: va :: V) e1 R (wp va vb)) :
    J w fi fc (b :: a :: L) (vb :: va :: V) (fun st => strz a b (fun p x q y => k p x q y st) (e1 st)) R (wp va vb) := fun st r st' P e hP ρ s Q rr c H => by
  unfold strz at e
  cases ea : asStr a with
  | none => rw [ea] at e; exact he st r st' P e hP ρ s Q rr c H
  | some p => cases eb : asStr b with
    | none => rw [ea, eb] at e; exact he st r st' P e hP ρ s Q rr c H
    | some q =>
      rw [ea, eb] at e
      obtain ⟨t, rfl⟩ := asStr_rep (p := p.1) (x := p.2) ea c.2.1
      obtain ⟨u, rfl⟩ := asStr_rep (p := q.1) (x := q.2) eb c.1
      exact h _ _ _ _ t u st r st' P e hP ρ s Q rr ⟨mkS_rep _ _ _, mkS_rep _ _ _, c.2.2⟩ H
theorem intJ {wp : Value → (β → Shared → Prop) → Shared → Prop} {k : Bool × Int → St → Rr α} (h : ∀ p t, J w fi fc (mkI p.1 p.2 :: L) (.int p.2 t :: V) (k p) R (wp (.int p.2 t))) : J w fi fc (a :: L) (va :: V) (fun st => opt (asInt a) fun p => k p st) R (wp va) := fun st r st' P e hP ρ s Q rr c H =>
  opt_el e fun p ea e => by
    obtain ⟨t, rfl⟩ := asInt_rep (p := p.1) (x := p.2) ea c.1
    exact h p t st r st' P e hP ρ s Q rr ⟨mkI_rep _ _ _, c.2⟩ H
end
theorem some3 {α β γ : Type} {a a' : α} {b b' : β} {c c' : γ} (h : some (a, b, c) = some (a', b', c')) : a = a' ∧ b = b' ∧ c = c' := by cases h; exact ⟨rfl, rfl, rfl⟩
theorem add_lists {l k : Nat} {p q : Option (List AV)} {xs ys : List AV} {Q : Value → Shared → Prop} (r : Rel w.params fi fc ρ st s.heap) (ex : st.sg.get l = .list p xs) (ey : st.sg.get k = .list q ys) (hz : (itm p xs).length + (itm q ys).length ≤ sizeLine)
    (H : Pst w.params fi fc ρ st { st with sg := st.sg.set st.n (cat p xs q ys), n := st.n + 1 } s (fun ρ' v => RepV ρ' (st.n + 1) (.ref st.n) v) Q) : wpAny (model prog w) fc.A (binaryOp .Add (.ref (ρ l)) (.ref (ρ k))) Q NoE s := by
  obtain ⟨m, os, vs, n1, R, ho, hv, hm, hl, hlt⟩ := list_get r ex
  obtain ⟨_, _, ws, n2, _, _, hw, _, hl2, _⟩ := list_get r ey
  refine add_arrays R.F R.N hl hl2 (fun h' F' N' => ?_) (by simp only [List.size_toArray]; rw [← hv.length, ← hw.length]; exact hz)
  have lt : ∀ p ∈ ledF st.sg ρ 0 os ++ fc.rest, p.1 < s.heap.objs.size := fun p hp => Heap.lt_size (R.N p hp).1
  have X : Ext ρ st.n (fun i => if i = st.n then s.heap.objs.size else ρ i) (st.n + 1) := ⟨Nat.le_succ _, fun i hi => if_neg (Nat.ne_of_lt hi)⟩
  have ro : RepO w.params (fun i => if i = st.n then s.heap.objs.size else ρ i) (st.n + 1) (cat p xs q ys) (listOf (vs ++ ws).toArray 0) := by
    have hvw := (hv.append hw).exts X
    induction q with
    | none => exact ⟨_, _, rfl, by rw [itm_append]; exact hvw⟩
    | some q => exact ⟨_, _, rfl, by show All2 _ ((itm p xs ++ q) ++ ys) _; rw [List.append_assoc]; exact hvw⟩
  obtain ⟨R', X'⟩ := R.push F' N' lt ro (by intro es e; cases q <;> cases e)
  exact H _ h' s.toks _ X' ⟨_, _, R'⟩ ⟨Nat.lt_succ_self _, by simp⟩
theorem addListJ {a b : AV} {va vb : Value} : J w fi fc [b, a] [vb, va] (fun st => opt (asRef a) fun l => opt (asRef b) fun k => opt (asList (st.sg.get l)) fun x => opt (asList (st.sg.get k)) fun y =>
        bnd (hypc (andB (shortP x.1 x.2) (shortP y.1 y.2)) ((itm x.1 x.2).length + (itm y.1 y.2).length ≤ sizeLine) () st) fun _ st => alloc (cat x.1 x.2 y.1 y.2) st) RepV (fun Q s => wpAny (model prog w) fc.A (binaryOp .Add va vb) Q NoE s) :=
  J.opt fun l el => J.opt fun k ek => fun st r st' P e2 hP ρ s Q rr c H => opt_el e2 fun x ex e3 => opt_el e3 fun y ey e4 => by
    have e5 : some (AV.ref st.n, { st with sg := st.sg.set st.n (cat x.1 x.2 y.1 y.2), n := st.n + 1 }, hcP (andB (shortP x.1 x.2) (shortP y.1 y.2)) ((itm x.1 x.2).length + (itm y.1 y.2).length ≤ sizeLine) ++ []) = some (r, st', P) := e4
    clear e2 e3 e4
    obtain ⟨h1, h2, h3⟩ := some3 e5
    clear e5
    subst h1 h2 h3
    rw [asRef_eq el, asRef_eq ek] at c
    obtain ⟨_, rfl⟩ := c.2.1
    obtain ⟨_, rfl⟩ := c.1
    exact add_lists rr (asList_eq ex) (asList_eq ey) (hyc (Ps.append hP).1 fun hc => by
      have h1 := shortP_le (andB_iff hc).1
      have h2 := shortP_le (andB_iff hc).2
      rw [sizeL]; lia) H
theorem binJ0 {op : Operator} {a b : AV} {va vb : Value} : J w fi fc [b, a] [vb, va] (bin op a b) RepV (fun Q s => wpAny (model prog w) fc.A (binaryOp op va vb) Q NoE s) := by
  induction op using PySem.Operator.casesOn with
  | Add =>
    refine intsJ (wp := fun va vb Q s => wpAny (model prog w) fc.A (binaryOp .Add va vb) Q NoE s) (fun p x q y t u => ?_) ?_
    · exact J.ret fun _ _ _ _ _ k => add_int (k _ _ (mkI_rep _ _ _))
    refine strsJ (wp := fun va vb Q s => wpAny (model prog w) fc.A (binaryOp .Add va vb) Q NoE s) (fun p x q y t u => ?_) addListJ
    refine J.hypc (fun hc => ?_) fun hz => J.ret fun _ _ _ _ _ k => add_str (fun t' tk => ?_) (by rw [stn_len, stn_len]; exact hz)
    · have h1 := short_le (andB_iff (andB_iff hc).2).1
      have h2 := short_le (andB_iff (andB_iff hc).2).2
      rw [sizeL]; lia
    · rw [stn_append]; exact k _ _ (mkS_rep _ _ _)
  | Sub =>
    refine intsJ (wp := fun va vb Q s => wpAny (model prog w) fc.A (binaryOp .Sub va vb) Q NoE s) (fun p x q y t u => ?_) J.none
    exact J.ret fun _ _ _ _ _ k => sub_int (k _ _ (mkI_rep _ _ _))
  | Mult =>
    refine intsJ (wp := fun va vb Q s => wpAny (model prog w) fc.A (binaryOp .Mult va vb) Q NoE s) (fun p x q y t u => ?_) J.none
    exact J.hyp fun hp => J.ret fun _ _ _ _ _ k => mul_int (k _ _ (mkI_rep _ _ _)) hp
  | FloorDiv =>
    refine intsJ (wp := fun va vb Q s => wpAny (model prog w) fc.A (binaryOp .FloorDiv va vb) Q NoE s) (fun p x q y t u => ?_) J.none
    exact J.hyp fun hp => J.ret fun _ _ _ _ _ k => floordiv_int hp.1 (k _ _ (mkI_rep _ _ _)) (.inl hp.2)
  | Mod =>
    refine intsJ (wp := fun va vb Q s => wpAny (model prog w) fc.A (binaryOp .Mod va vb) Q NoE s) (fun p x q y t u => ?_) J.none
    exact J.hypc (fun hc => of_decide_eq_true (andB_iff hc).2) fun hp => J.ret fun _ _ _ _ _ k => mod_int' hp (k _ _ (mkI_rep _ _ _))
  | Pow =>
    refine intsJ (wp := fun va vb Q s => wpAny (model prog w) fc.A (binaryOp .Pow va vb) Q NoE s) (fun p x q y t u => ?_) J.none
    exact J.hypc (fun hc => powB_iff (andB_iff hc).2) fun hp => J.ret fun _ _ _ _ _ k => pow_int_small hp.1 hp.2.1 hp.2.2 (k _ _ (mkI_rep _ _ _))
  | _ => exact J.none
theorem binJ {op : Operator} {a b : AV} {va vb : Value} {L : List AV} {V : List Value} : J w fi fc (b :: a :: L) (vb :: va :: V) (bin op a b) RepV (fun Q s => wpAny (model prog w) fc.A (binaryOp op va vb) Q NoE s) :=
  fun st r st' P e hP ρ s Q rr c H => binJ0 st r st' P e hP ρ s Q rr ⟨c.1, c.2.1, trivial⟩ H

structure PTOk (K : Frag) (T : PT) : Prop where
  tups : ∀ k l, lookN k T.tups = some l → ∃ dd n sl vs, K.lookup k = some ⟨.type "tuple", dd, .seq (List.toArray vs) n, sl⟩ ∧ StrsAre vs (l.map stn)

set_option tactic.hygienic true in
theorem strsAre_of {ρ : Nat → Addr} {n : Nat} : ∀ {xs : List AV} {l : List (Bool × Nm)} {vs : List Value}, strsOf xs = some l → All2 (RepV ρ n) xs vs → StrsAre vs (l.map fun q => stn q.2)
  | [], l, [], h, _ => by cases h; exact .nil
  | a :: r, l, v :: vs, h, k => by
    unfold strsOf at h
    split at h
    · rename_i q eq
      split at h
      · rename_i l' el
        first | (obtain ⟨rfl, rfl, rfl⟩ := ret_some h) | cases h
        obtain ⟨t, rfl⟩ := asStr_rep (p := q.1) (x := q.2) eq k.1
        exact .cons _ t (strsAre_of el k.2)
      · first | exact nn h | cases h
    · first | exact nn h | cases h
theorem strsOf_txt : ∀ l : List Nm, strsOf (l.map .txt) = some (l.map fun x => (true, x))
  | [] => rfl
  | x :: r => by simp [strsOf, asStr, strsOf_txt r]
theorem orc_pst {R : (Nat → Addr) → Value → Prop} {Q : Value → Shared → Prop} {v : Value} (r : Rel w.params fi fc ρ st s.heap) (e : ∃ o, st' = { st with or := o, ov := st.ov }) (H : Pst w.params fi fc ρ st st' s R Q) (q : R ρ v) : Q v s := by
  obtain ⟨o, rfl⟩ := e
  obtain ⟨m, os, R'⟩ := r
  exact H.of rfl ⟨m, os, R'.orc o st.ov⟩ q
theorem inGo_some {p : Bool} {x : Nm} : ∀ {l : List (Bool × Nm)} {st st' : St} {b : Bool} {P : List Prop}, inGo p x l st = some (b, st', P) → Ps P →
    ((l.map fun q => stn q.2).any (· == stn x)) = b ∧ ∃ o, st' = { st with or := o, ov := st.ov }
  | [], st, st', b, P, h, _ => by cases h; exact ⟨rfl, _, rfl⟩
  | q :: r, st, st', b, P, h, hP => by
    unfold inGo at h
    refine bnd_el h hP fun c st1 P1 P2 h1 h2 hP1 hP2 => ?_
    obtain ⟨hc, o, rfl⟩ := dec_some nmEq_iff h1 hP1
    induction c with
    | true =>
      first | (obtain ⟨rfl, rfl, rfl⟩ := ret_some h2) | cases h2
      have e : x = q.2 := hc.mp rfl
      exact ⟨by simp [e], _, rfl⟩
    | false =>
      obtain ⟨h3, o', rfl⟩ := inGo_some h2 hP2
      have e : stn q.2 ≠ stn x := fun e => by have := hc.mpr (stn_inj e).symm; cases this
      refine ⟨?_, _, rfl⟩
      rw [List.map_cons, List.any_cons, h3]
      simp [e]
set_option tactic.hygienic true in
theorem seqOf_strs {T : PT} {b : AV} {ys : List AV} {l : List (Bool × Nm)} {vb : Value} (ok : PTOk K T) (X : K.In s.heap) (r : Rel w.params fi fc ρ st s.heap) (h : seqOf T b st = some ys) (hl : strsOf ys = some l) (rb : RepV ρ st.n b vb) :
    ∃ k vs, vb = .ref k ∧ StrsAre vs (l.map fun q => stn q.2) ∧ (s.heap.IsList k vs.toArray ∨ IsTup s.heap k vs.toArray) := by
  unfold seqOf at h
  split at h
  · rename_i k
    obtain ⟨_, rfl⟩ := rb
    split at h
    · rename_i xs e
      first | (obtain ⟨rfl, rfl, rfl⟩ := ret_some h) | cases h
      obtain ⟨m, os, vs, n1, R, ho, hv, hm, hL, hlt⟩ := list_get r e
      exact ⟨_, vs, rfl, strsAre_of hl hv, .inl hL⟩
    · rename_i xs e
      first | (obtain ⟨rfl, rfl, rfl⟩ := ret_some h) | cases h
      obtain ⟨m, os, vs, R, hv, hL, hlt⟩ := tup_get r e
      exact ⟨_, vs, rfl, strsAre_of hl hv, .inr hL⟩
    · first | exact nn h | cases h
  · rename_i k
    obtain ⟨rfl, _⟩ := rb
    split at h
    · rename_i l' e
      first | (obtain ⟨rfl, rfl, rfl⟩ := ret_some h) | cases h
      rw [strsOf_txt] at hl
      first | (obtain ⟨rfl, rfl, rfl⟩ := ret_some hl) | cases hl
      obtain ⟨dd, n, sl, vs, hk, hs⟩ := ok.tups _ _ e
      exact ⟨k, vs, rfl, by rw [List.map_map]; exact hs, .inr ⟨_, X _ _ hk, rfl, _, rfl⟩⟩
    · first | exact nn h | cases h
  · first | exact nn h | cases h

theorem dec_beq {c : Bool} {p : Prop} [Decidable p] (h : c = true ↔ p) : decide p = c := by
  cases c <;> simp_all
theorem repV_clo {ρ : Nat → Addr} {n : Nat} {a : AV} {v : Value} (r : RepV (fun _ => 0) 0 a v) : RepV ρ n a v := by
  induction a with
  | ref l => exact absurd r.1 (Nat.not_lt_zero _)
  | _ => exact r
section
variable {h : Heap} {m : Str → Option Value} {os : List Obj}
theorem rdV_reads (R : RelAt w.params fi fc ρ st h m os) {a : AV} {d : PyData} {v : Value} (k : RdV st.sg st.imm a d) (r : RepV ρ st.n a v) : ∃ as, Reads h v d as := by
  refine RdV.rec (motive_1 := fun a d _ => ∀ v, RepV ρ st.n a v → ∃ as, Reads h v d as) (motive_2 := fun a d _ => ∀ v, All2 (RepV ρ st.n) a v → ∃ as, ReadsAll h v d as) ?_ ?_ ?_ ?_ ?_ ?_ ?_ ?_ ?_ ?_ ?_ k v r
  · intro v r; cases r; exact ⟨_, .none⟩
  · intro b v r; cases r; exact ⟨_, .bool b⟩
  · intro i v r; obtain ⟨t, rfl⟩ := r; exact ⟨_, .int i t⟩
  · intro i v r; obtain ⟨t, rfl⟩ := r; exact ⟨_, .int i t⟩
  · intro i v r; obtain ⟨t, rfl⟩ := r; exact ⟨_, .str _ t⟩
  · intro i v r; obtain ⟨t, rfl⟩ := r; exact ⟨_, .str _ t⟩
  · intro l xs ds e k ih v r
    obtain ⟨_, rfl⟩ := r
    obtain ⟨o, ho, ⟨vs, n, rfl, hv⟩, hm, hg⟩ := R.get e (by intro q; cases q)
    obtain ⟨as, q⟩ := ih _ hv
    exact ⟨_, .tuple hg rfl rfl (by simpa using q)⟩
  · intro l p xs ds e k ih v r
    obtain ⟨_, rfl⟩ := r
    obtain ⟨o, ho, ⟨vs, n, rfl, hv⟩, hm, hg⟩ := R.get e (by intro q; cases q)
    obtain ⟨as, q⟩ := ih _ hv
    exact ⟨_, .list hg rfl rfl (by simpa using q)⟩
  · intro c xs ds e k ih v r
    obtain ⟨rfl, _⟩ := r
    obtain ⟨o, ho, vs, n, rfl, hv⟩ := R.im _ _ e
    obtain ⟨as, q⟩ := ih _ (hv.mono fun _ _ _ q => repV_clo q)
    exact ⟨_, .tuple (R.N _ (List.mem_append_right _ ho)).1 rfl rfl (by simpa using q)⟩
  · intro v r
    induction v with
    | nil => exact ⟨_, .nil⟩
    | cons _ _ => exact r.elim
  · intro a as d ds k1 k2 i1 i2 v r
    induction v with
    | nil => exact r.elim
    | cons _ _ =>
      obtain ⟨as, q⟩ := i1 _ r.1
      obtain ⟨bs, q'⟩ := i2 _ r.2
      exact ⟨_, .cons q q'⟩
end
theorem eqD_sound {a b : AV} {c : Bool} {P : List Prop} {va vb : Value} (h : eqD a b st = some (c, st', P)) (hP : Ps P) (r : Rel w.params fi fc ρ st s.heap) (ra : RepV ρ st.n a va) (rb : RepV ρ st.n b vb) :
    ∃ da db as bs, Reads s.heap va da as ∧ Reads s.heap vb db bs ∧ SeqAt.shaped da = true ∧ SeqAt.shaped db = true ∧ PyData.eqv da db = c ∧ ∃ o, st' = { st with or := o, ov := st.ov } := by
  unfold eqD at h
  split at h
  · split at h
    · first | exact nn h | cases h
    · first | (obtain ⟨rfl, rfl, rfl⟩ := ret_some h) | cases h
      obtain ⟨⟨da, db, h1, h2, h3, h4, h5⟩, _⟩ := hP
      obtain ⟨m, os, R⟩ := r
      obtain ⟨as, q1⟩ := rdV_reads R h1 ra
      obtain ⟨bs, q2⟩ := rdV_reads R h2 rb
      exact ⟨da, db, as, bs, q1, q2, h3, h4, h5, _, rfl⟩
  · first | exact nn h | cases h
set_option tactic.hygienic true in
theorem inL_sound {x : Nm} {b : AV} {c : Bool} {P : List Prop} {vb : Value} (h : inL x b st = some (c, st', P)) (hP : Ps P) (r : Rel w.params fi fc ρ st s.heap) (rb : RepV ρ st.n b vb) :
    ∃ (k : Addr) (vs : List Value) (L : List Nm), vb = .ref k ∧ s.heap.IsList k (List.toArray vs) ∧ StrsAre vs (L.map stn) ∧ (L.map stn).any (· == stn x) = c ∧ ∃ o, st' = { st with or := o, ov := st.ov } := by
  unfold inL at h
  split at h
  · rename_i l
    obtain ⟨_, rfl⟩ := rb
    split at h
    · rename_i p xs e1
      refine bnd_el h hP fun _ st1 P1 P2 h1 h2 hP1 hP2 => ?_
      first | (obtain ⟨rfl, rfl, rfl⟩ := ret_some h1) | cases h1
      obtain ⟨hc, e⟩ := ask_some h2 hP2
      obtain ⟨m, os, vs, k1, R, ho, hv, hm, hl, hlt⟩ := list_get r e1
      have key : ∀ {ys : List AV} {us : List Value}, (∀ y ∈ ys, ∃ z, y = AV.str z) → All2 (RepV ρ st.n) ys us → ∃ L : List Nm, ys = L.map AV.str ∧ StrsAre us (L.map stn) := by
        intro ys
        induction ys with
        | nil => intro us _ h; induction us with | nil => exact ⟨[], rfl, .nil⟩ | cons => exact h.elim
        | cons y ys ih =>
          intro us hy h
          induction us with
          | nil => exact h.elim
          | cons u us =>
            obtain ⟨L, e1, e2⟩ := ih (fun z hz => hy z (.tail _ hz)) h.2
            obtain ⟨z, rfl⟩ := hy _ (.head _)
            obtain ⟨t, rfl⟩ := h.1
            exact ⟨z :: L, by rw [e1]; rfl, .cons _ _ e2⟩
      obtain ⟨L, eL, sL⟩ := key hP1.1 hv
      refine ⟨_, vs, L, rfl, hl, sL, ?_, e⟩
      rw [Bool.eq_iff_iff, hc, eL]
      simp only [List.any_eq_true, List.mem_map, beq_iff_eq]
      constructor
      · rintro ⟨_, ⟨y, hy, rfl⟩, q⟩
        exact ⟨y, hy, by rw [stn_inj q]⟩
      · rintro ⟨y, hy, q⟩
        cases q
        exact ⟨_, ⟨x, hy, rfl⟩, rfl⟩
    · first | exact nn h | cases h
  · first | exact nn h | cases h
theorem decJ {L : List AV} {V : List Value} {lit : Bool} {pr : Prop} {d : Bool} {f : Bool → Bool} {wp : (Value → Shared → Prop) → Shared → Prop} (hd : d = true ↔ pr) (hw : ∀ Q s, Q (.bool (f d)) s → wp Q s) : J w fi fc L V (oDec lit pr d f) RepV wp := fun st r st' P e0 hP ρ s Q rr c H =>
  bnd_el e0 hP fun b st1 P1 P2 h1 h2 hP1 hP2 => by
    obtain ⟨hc, e⟩ := dec_some hd h1 hP1
    obtain ⟨rfl, rfl, rfl⟩ := ret_some h2
    obtain rfl : d = b := by rw [Bool.eq_iff_iff, hd, hc]
    exact hw Q s (orc_pst rr e H rfl)
theorem isNone_rep {ρ : Nat → Addr} {n : Nat} {a : AV} {c : Bool} {v : Value} (h : isNone a = some c) (r : RepV ρ n a v) : c = true ∧ v = .none ∨ c = false ∧ v ≠ .none := by
  induction a with
  | none => cases h; exact .inl ⟨rfl, r⟩
  | con u => cases u <;> cases h; obtain ⟨rfl, _⟩ := r; exact .inr ⟨rfl, fun q => nomatch q⟩
  | bool b => cases h; obtain rfl := r; exact .inr ⟨rfl, fun q => nomatch q⟩
  | _ => cases h; obtain ⟨_, rfl⟩ := r; exact .inr ⟨rfl, fun q => nomatch q⟩
theorem isJ {L : List AV} {V : List Value} {f : Bool → Bool} {a b : AV} {va vb : Value} {wp : Value → Value → (Value → Shared → Prop) → Shared → Prop} (h1 : ∀ Q s, Q (.bool (f true)) s → wp .none .none Q s) (h2 : ∀ v Q s, v ≠ .none → Q (.bool (f false)) s → wp v .none Q s) :
    J w fi fc (b :: a :: L) (vb :: va :: V) (oIs f a b) RepV (wp va vb) := by
  induction b using AV.casesOn with
  | none =>
    refine J.opt fun c hc => J.ret fun Q s ρ n cc k => ?_
    obtain rfl := cc.1
    rcases isNone_rep hc cc.2.1 with ⟨rfl, rfl⟩ | ⟨rfl, hv⟩
    · exact h1 Q s (k _ s.toks rfl)
    · exact h2 va Q s hv (k _ s.toks rfl)
  | _ => exact J.none
theorem eqJ {L : List AV} {V : List Value} {f : Bool → Bool} {a b : AV} {va vb : Value} {wp : Value → Value → (Value → Shared → Prop) → Shared → Prop} (h1 : ∀ {x y : Int} {t u : Tok} Q s, Q (.bool (f (decide (x = y)))) s → wp (.int x t) (.int y u) Q s)
    (h2 : ∀ {x y : Str} {t u : Tok} Q s, Q (.bool (f (x == y))) s → wp (.str x t) (.str y u) Q s) (h3 : ∀ {da db as bs} Q (s : Shared), Reads s.heap va da as → Reads s.heap vb db bs → SeqAt.shaped da = true → SeqAt.shaped db = true → Q (.bool (f (PyData.eqv da db))) s → wp va vb Q s) :
    J w fi fc (b :: a :: L) (vb :: va :: V) (oEq f a b) RepV (wp va vb) := by
  refine intsJ (wp := wp) (fun p x q y t u => decJ (by simp) fun Q s h => h1 Q s h) ?_
  refine strsJ (wp := wp) (fun p x q y t u => decJ nmEq_iff fun Q s h => h2 Q s (by rw [stn_beq]; exact h)) ?_
  intro st r st' P e0 hP ρ s Q rr c H
  refine bnd_el e0 hP fun d st1 P1 P2 h4 h5 hP1 hP2 => ?_
  obtain ⟨da, db, as, bs, q1, q2, q3, q4, rfl, e⟩ := eqD_sound h4 hP1 rr c.2.1 c.1
  obtain ⟨rfl, rfl, rfl⟩ := ret_some h5
  exact h3 Q s q1 q2 q3 q4 (orc_pst rr e H rfl)
theorem inJ {T : PT} {L : List AV} {V : List Value} {f : Bool → Bool} {a b : AV} {va vb : Value} {wp : Value → Value → (Value → Shared → Prop) → Shared → Prop} (ok : PTOk K T) (hX : ∀ ρ st (s : Shared), Rel w.params fi fc ρ st s.heap → K.In s.heap)
    (h1 : ∀ {k x t vs ys} Q (s : Shared), s.heap.IsList k (List.toArray vs) ∨ IsTup s.heap k vs.toArray → StrsAre vs ys → Q (.bool (f (ys.any (· == x)))) s → wp (.str x t) (.ref k) Q s) :
    J w fi fc (b :: a :: L) (vb :: va :: V) (oIn T f a b) RepV (wp va vb) := fun st r st' P e0 hP ρ s Q rr c H => opt_el e0 fun p ep e0 => by
  obtain ⟨t, rfl⟩ := asStr_rep (p := p.1) (x := p.2) ep c.2.1
  cases es : seqOf T b st with
  | some ys =>
    rw [es] at e0
    refine opt_el e0 fun l el e0 => bnd_el e0 hP fun d st1 P1 P2 h4 h5 hP1 hP2 => ?_
    obtain ⟨k, vs, rfl, hs, hl⟩ := seqOf_strs ok (hX _ _ _ rr) rr es el c.1
    obtain ⟨rfl, e⟩ := inGo_some h4 hP1
    obtain ⟨rfl, rfl, rfl⟩ := ret_some h5
    exact h1 Q s hl hs (orc_pst rr e H rfl)
  | none =>
    rw [es] at e0
    refine bnd_el e0 hP fun d st1 P1 P2 h4 h5 hP1 hP2 => ?_
    obtain ⟨k, vs, M, rfl, hl, hs, rfl, e⟩ := inL_sound h4 hP1 rr c.1
    obtain ⟨rfl, rfl, rfl⟩ := ret_some h5
    exact h1 Q s (.inl hl) hs (orc_pst rr e H rfl)
theorem cmpJ0 {T : PT} {op : CmpOp} {a b : AV} {va vb : Value} {L : List AV} {V : List Value} (ok : PTOk K T) (hX : ∀ ρ st (s : Shared), Rel w.params fi fc ρ st s.heap → K.In s.heap) (hu : fc.A.units + 64 < cLine) :
    J w fi fc (b :: a :: L) (vb :: va :: V) (cmp T op a b) RepV (fun Q s => wpAny (model prog w) fc.A (compareOp op va vb) Q NoE s) := by
  induction op using PySem.CmpOp.casesOn with
  | Eq => exact eqJ (wp := fun va vb Q s => wpAny (model prog w) fc.A (compareOp .Eq va vb) Q NoE s) (fun _ _ h => eq_int h) (fun _ _ h => eq_str h) fun _ _ q1 q2 q3 q4 h => eq_dataH q1 q2 q3 q4 hu h
  | NotEq => exact eqJ (wp := fun va vb Q s => wpAny (model prog w) fc.A (compareOp .NotEq va vb) Q NoE s) (fun _ _ h => ne_int h) (fun _ _ h => ne_str h) fun _ _ q1 q2 q3 q4 h => ne_dataH q1 q2 q3 q4 hu h
  | Lt =>
    refine intsJ (wp := fun va vb Q s => wpAny (model prog w) fc.A (compareOp .Lt va vb) Q NoE s) (fun p x q y t u => ?_) J.none
    exact decJ decide_eq_true_iff fun Q s h => lt_int h
  | LtE =>
    refine intsJ (wp := fun va vb Q s => wpAny (model prog w) fc.A (compareOp .LtE va vb) Q NoE s) (fun p x q y t u => ?_) J.none
    exact decJ decide_eq_true_iff fun Q s h => le_int h
  | Gt =>
    refine intsJ (wp := fun va vb Q s => wpAny (model prog w) fc.A (compareOp .Gt va vb) Q NoE s) (fun p x q y t u => ?_) J.none
    exact decJ decide_eq_true_iff fun Q s h => gt_int h
  | GtE =>
    refine intsJ (wp := fun va vb Q s => wpAny (model prog w) fc.A (compareOp .GtE va vb) Q NoE s) (fun p x q y t u => ?_) J.none
    exact decJ decide_eq_true_iff fun Q s h => ge_int h
  | Is => exact isJ (wp := fun va vb Q s => wpAny (model prog w) fc.A (compareOp .Is va vb) Q NoE s) (fun _ _ h => is_none_none h) fun _ _ _ hv h => is_none_ne hv h
  | IsNot => exact isJ (wp := fun va vb Q s => wpAny (model prog w) fc.A (compareOp .IsNot va vb) Q NoE s) (fun _ _ h => isnot_none_none h) fun _ _ _ hv h => isnot_none_ne hv h
  | In => exact inJ (wp := fun va vb Q s => wpAny (model prog w) fc.A (compareOp .In va vb) Q NoE s) ok hX fun _ _ hl hs h => hl.elim (fun hl => in_list_strs hl hs h) fun hl => in_tuple_strs hl (by simpa using hs) h
  | NotIn => exact inJ (wp := fun va vb Q s => wpAny (model prog w) fc.A (compareOp .NotIn va vb) Q NoE s) ok hX fun _ _ hl hs h => hl.elim (fun hl => notin_list_strs hl hs h) fun hl => notin_tuple_strs hl (by simpa using hs) h
end
end Mine
namespace Mine
open PySem PySem.W PyProof.Rows PySem.Calls PySem.Spec PySem.Builtin.Str

/-! slices -/
theorem cut_len {α : Type} (l : List α) (a b : Nat) : (l.drop (min a l.length)).take (min b l.length - min a l.length) = (l.take b).drop a := by
  rw [List.drop_take]
  rcases Nat.le_total a l.length with h | h
  · rw [Nat.min_eq_left h]
    rcases Nat.le_total b l.length with g | g
    · rw [Nat.min_eq_left g]
    · have e : (l.drop a).length = l.length - a := List.length_drop
      rw [Nat.min_eq_right g, List.take_of_length_le (Nat.le_of_eq e), List.take_of_length_le (Nat.le_trans (Nat.le_of_eq e) (Nat.sub_le_sub_right g a))]
  · rw [Nat.min_eq_right h, List.drop_of_length_le (Nat.le_refl _), List.drop_of_length_le h, List.take_nil, List.take_nil]
theorem clip_nn (a n : Nat) : (if (1 : Int) > 0 then max 0 (min (if (a : Int) < 0 then (a : Int) + n else (a : Int)) (n : Int)) else max (-1) (min (if (a : Int) < 0 then (a : Int) + n else (a : Int)) ((n : Int) - 1))) = ((min a n : Nat) : Int) := by
  rw [if_pos (show (1 : Int) > 0 by decide), if_neg (Int.not_lt.mpr (Int.natCast_nonneg a))]
  rcases Nat.le_total a n with h | h
  · rw [Nat.min_eq_left h, Int.min_eq_left (Int.ofNat_le.mpr h), Int.max_eq_right (Int.natCast_nonneg _)]
  · rw [Nat.min_eq_right h, Int.min_eq_right (Int.ofNat_le.mpr h), Int.max_eq_right (Int.natCast_nonneg _)]
theorem bounds_nn (i j : Int) (hi : 0 ≤ i) (hj : 0 ≤ j) (n : Nat) : sliceBounds (some i) (some j) none n = (((min i.toNat n : Nat) : Int), ((min j.toNat n : Nat) : Int), 1) := by
  obtain ⟨a, rfl⟩ := Int.eq_ofNat_of_zero_le hi
  obtain ⟨b, rfl⟩ := Int.eq_ofNat_of_zero_le hj
  exact congr (congrArg Prod.mk (clip_nn a n)) (congrArg (fun x => Prod.mk x (1 : Int)) (clip_nn b n))
theorem bounds_zn (j : Int) (hj : 0 ≤ j) (n : Nat) : sliceBounds none (some j) none n = (((0 : Nat) : Int), ((min j.toNat n : Nat) : Int), 1) := by
  obtain ⟨b, rfl⟩ := Int.eq_ofNat_of_zero_le hj
  exact congrArg (fun x => Prod.mk (0 : Int) (Prod.mk x (1 : Int))) (clip_nn b n)
theorem bounds_nz (i : Int) (hi : 0 ≤ i) (n : Nat) : sliceBounds (some i) none none n = (((min i.toNat n : Nat) : Int), ((n : Nat) : Int), 1) := by
  obtain ⟨a, rfl⟩ := Int.eq_ofNat_of_zero_le hi
  exact congrArg (fun x => Prod.mk x (Prod.mk (n : Int) (1 : Int))) (clip_nn a n)
theorem bounds_zz (n : Nat) : sliceBounds none none none n = (((0 : Nat) : Int), ((n : Nat) : Int), 1) := by
  simp only [sliceBounds, Option.getD_none, show (1 : Int) > 0 by decide, if_true]
  rfl
/-- a bound as the library has it -/
noncomputable def partO : AV → Option Int
  | .num i => some i
  | .int i => some i
  | _ => none
theorem bounds_cut {α : Type} {lo hi : AV} {i : Int} {l r : List α} (h1 : lowB lo = some i) (h2 : cut i l hi = some r) (o1 : okB lo) (o2 : okB hi) :
    ∃ a b : Nat, sliceBounds (partO lo) (partO hi) none l.length = ((a : Int), (b : Int), 1) ∧ (l.drop a).take (b - a) = r := by
  have key : ∀ (x y : Int), 0 ≤ x → 0 ≤ y → ∃ a b : Nat, sliceBounds (some x) (some y) none l.length = ((a : Int), (b : Int), 1) ∧ (l.drop a).take (b - a) = (l.take y.toNat).drop x.toNat :=
    fun x y hx hy => ⟨_, _, bounds_nn x y hx hy _, cut_len l _ _⟩
  have keyz : ∀ (y : Int), 0 ≤ y → ∃ a b : Nat, sliceBounds none (some y) none l.length = ((a : Int), (b : Int), 1) ∧ (l.drop a).take (b - a) = (l.take y.toNat).drop (0 : Int).toNat :=
    fun y hy => ⟨_, _, bounds_zn y hy _, by simpa using kmk_take_min l y.toNat⟩
  have keyn : ∀ (x : Int), 0 ≤ x → ∃ a b : Nat, sliceBounds (some x) none none l.length = ((a : Int), (b : Int), 1) ∧ (l.drop a).take (b - a) = l.drop x.toNat := fun x hx => by
    refine ⟨_, _, bounds_nz x hx _, ?_⟩
    rw [kmk_drop_min]
    apply List.take_of_length_le
    simp only [List.length_drop]; omega
  have keyzz : ∃ a b : Nat, sliceBounds none none none l.length = ((a : Int), (b : Int), 1) ∧ (l.drop a).take (b - a) = l.drop (0 : Int).toNat :=
    ⟨_, _, bounds_zz _, by simp⟩
  cases lo <;> simp only [lowB] at h1 <;> cases h1 <;> cases hi <;> simp only [cut] at h2 <;> cases h2
  · exact keyzz
  · exact keyz _ o2.1
  · exact keyz _ o2.1
  · exact keyn _ o1.1
  · exact key _ _ o1.1 o2.1
  · exact key _ _ o1.1 o2.1
  · exact keyn _ o1.1
  · exact key _ _ o1.1 o2.1
  · exact key _ _ o1.1 o2.1
theorem strIdx_eq (lo hi : Option Int) (n : Nat) : strSliceIndices lo hi 1 n = sliceRange (sliceBounds lo hi none n).1 (sliceBounds lo hi none n).2.1 1 := rfl
set_option tactic.hygienic true in
theorem txt_slice {lo hi : AV} {i : Int} {l r : Nm} (h1 : lowB lo = some i) (h2 : cut i l hi = some r) (o1 : okB lo) (o2 : okB hi) : Txt.slice (stn l) (partO lo) (partO hi) = stn r := by
  obtain ⟨a, b, e, hr⟩ := bounds_cut h1 h2 o1 o2
  have pick : (strSliceIndices (partO lo) (partO hi) 1 (stn l).length).filterMap ((stn l).cps[·]?) = r := by
    rw [strIdx_eq, stn_len, e, sliceRange_one]
    have := pick_run l.toArray a (b - a)
    simpa [stn, hr] using this
  unfold Txt.slice
  split
  · rename_i q
    simp only [beq_self_eq_true, Bool.true_and, beq_iff_eq] at q
    -- the whole text
    have hlen : ((strSliceIndices (partO lo) (partO hi) 1 (stn l).length).filterMap ((stn l).cps[·]?)) = l := by
      have hr' : r = (l.drop a).take (b - a) := hr.symm
      rw [pick, hr']
      rw [strIdx_eq, stn_len, e, sliceRange_one] at q
      simp only [List.length_map, List.length_range] at q
      have hb : b - a = l.length := by simpa using q
      have ha : a = 0 ∨ l.length = 0 := by
        have hle : b ≤ l.length := by
          have := congrArg (fun z => z.2.1) e
          simp only [sliceBounds, Option.getD_none, show (1 : Int) > 0 by decide, if_true] at this
          revert this
          cases partO hi with
          | none => intro this; simp only at this; omega
          | some v => intro this; simp only at this; split at this <;> omega
        omega
      rcases ha with rfl | h0
      · simp only [List.drop_zero]; apply List.take_of_length_le; omega
      · have : l = [] := List.length_eq_zero_iff.mp h0
        subst this; simp
    rw [← pick, hlen]
  · show Str.mk _ = _
    rw [pick]; rfl
end Mine
namespace Mine
open PySem PySem.W PyProof.Rows PySem.Calls PySem.Spec

/-! dictionaries -/
section
variable {P : Params} {ρ : Nat → Addr} {n : Nat}
theorem isStr_stn (x : Nm) (y : Nm) (t : Tok) : (Value.str (stn y) t).isStr (stn x) = nmEq y x := stn_beq y x
theorem nmEq_comm (a b : Nm) : nmEq a b = nmEq b a := by
  cases h : nmEq a b with
  | true => rw [nmEq_iff.mp h]; exact (nmEq_iff.mpr rfl).symm
  | false => cases h2 : nmEq b a with
    | true => exact absurd (nmEq_iff.mp h2).symm (nmEq_ff h)
    | false => rfl
theorem find_rep (x : Nm) : ∀ {es : List (Nm × AV)} {ds : List DictEntry}, All2 (RepE P ρ n) es ds →
    (∀ a, look x es = some a → ∃ d, ds.find? (·.key.isStr (stn x)) = some d ∧ RepV ρ n a d.val) ∧ (look x es = none → ds.find? (·.key.isStr (stn x)) = none) ∧ ds.any (·.refKey) = false
  | [], [], _ => ⟨(fun _ h => by cases h), (fun _ => rfl), rfl⟩
  | [], _ :: _, h => h.elim
  | _ :: _, [], h => h.elim
  | e :: es, d :: ds, h => by
    obtain ⟨⟨_, ⟨t, hk⟩, hv⟩, hr⟩ := h
    obtain ⟨i1, i2, i3⟩ := find_rep x hr
    have hs : d.key.isStr (stn x) = nmEq x e.1 := by rw [hk, isStr_stn, nmEq_comm]
    have hf : d.refKey = false := by unfold DictEntry.refKey; rw [hk]
    unfold look
    simp only [List.find?_cons, hs, List.any_cons, hf, i3, Bool.false_or]
    cases q : nmEq x e.1 with
    | true => exact ⟨fun a ha => ⟨d, rfl, by cases ha; exact hv⟩, (fun h => by cases h), trivial⟩
    | false => exact ⟨i1, i2, trivial⟩
theorem getL_some {x : Nm} {es : List (Nm × AV)} {ds : List DictEntry} {a : AV} (h : All2 (RepE P ρ n) es ds) (e : look x es = some a) : ∃ v, getL (stn x) ds = some (some v) ∧ RepV ρ n a v := by
  obtain ⟨d, hd, r⟩ := (find_rep x h).1 a e
  exact ⟨d.val, by unfold getL; rw [hd], r⟩
theorem getL_none {x : Nm} {es : List (Nm × AV)} {ds : List DictEntry} (h : All2 (RepE P ρ n) es ds) (e : look x es = none) : getL (stn x) ds = some none := by
  unfold getL; rw [(find_rep x h).2.1 e, (find_rep x h).2.2]; rfl
theorem getL_isSome {x : Nm} {es : List (Nm × AV)} {ds : List DictEntry} (h : All2 (RepE P ρ n) es ds) : (getL (stn x) ds).isSome = true := by
  cases e : look x es with
  | none => rw [getL_none h e]; rfl
  | some a => obtain ⟨v, hv, _⟩ := getL_some h e; rw [hv]; rfl
theorem putL_rep {x : Nm} {a : AV} {v : Value} {t : Tok} (r : RepV ρ n a v) : ∀ {es : List (Nm × AV)} {ds : List DictEntry}, All2 (RepE P ρ n) es ds →
    All2 (RepE P ρ n) (put x a es) (putL (stn x) (PyData.keyHash P (stn x)) (.str (stn x) t) v ds)
  | [], [], _ => ⟨⟨rfl, ⟨t, rfl⟩, r⟩, trivial⟩
  | [], _ :: _, h => h.elim
  | _ :: _, [], h => h.elim
  | e :: es, d :: ds, h => by
    obtain ⟨⟨hh, ⟨t', hk⟩, hv⟩, hr⟩ := h
    have hs : d.key.isStr (stn x) = nmEq x e.1 := by rw [hk, isStr_stn, nmEq_comm]
    unfold put putL
    rw [hs]
    cases q : nmEq x e.1 with
    | true =>
      have e1 := nmEq_iff.mp q
      exact ⟨⟨by rw [e1]; exact hh, ⟨t', by rw [e1]; exact hk⟩, r⟩, hr⟩
    | false =>
      simp only [Bool.false_eq_true, if_false]
      exact ⟨⟨hh, ⟨t', hk⟩, hv⟩, putL_rep r hr⟩
theorem put_length {α : Type} (x : Nm) (a : α) : ∀ es : List (Nm × α), (put x a es).length ≤ es.length + 1
  | [] => Nat.le_refl _
  | e :: es => by
    unfold put
    split
    · simp
    · have := put_length x a es; simp only [List.length_cons]; lia
end

noncomputable def FnOk (K : Frag) : Fn → Prop
  | .fn a => keepIn K (.ref a) = true
  | .bi _ => True
structure ClsOk (K : Frag) (C : Addr) (ci : ClI) : Prop where
  makes : makesIn K C = true
  ini : findIn K (.ref C) "__init__" = some (some (.ref ci.ini))
  inif : isFn K (.ref ci.ini) = true
  hasD : hasDictIn K C = true
  setat : findIn K (.ref C) "__setattr__" = some (some (.builtin "object.__setattr__"))
  over : plainOver K C = true
  flds : ∀ x ∈ ci.flds, plainGet K C (stn x) = true ∧ findIn K (.ref C) (stn x) = some none ∧ takerIn K C (stn x) = some none
  mths : ∀ q ∈ ci.mths, plainGet K C (stn q.1) = true ∧ findIn K (.ref C) (stn q.1) = some (some (.ref q.2)) ∧ isFn K (.ref q.2) = true ∧ keepIn K (.ref q.2) = true
structure PTOk2 (K : Frag) (T : PT) : Prop extends PTOk K T where
  globA : ∀ x a, look x T.glob = some (.av a) → ∃ v, nsIn K mainGlobals (stn x) = some (some v) ∧ ∀ ρ n, RepV ρ n a v
  globF : ∀ x f, look x T.glob = some (.fn f) → FnOk K f ∧ (nsIn K mainGlobals (stn x) = some (some f.val) ∨ (nsIn K mainGlobals (stn x) = some none ∧ bootBuiltins (stn x) = some f.val ∧ stn x ≠ "__name__"))
  cls : ∀ C ci, lookN C T.cls = some ci → ClsOk K C ci
  ncls : ∀ C ∈ T.ncls, isNotIn K "str" C = true

section
variable {prog : Program} {w : World} {K : Frag} {p : Program} {loose : List Str} {mean : ExcName → Option Value} {mg mb : Str → Option Value} {T : PT} {fi : FI} {fc : FC} {ρ : Nat → Addr} {st st' : St} {s : Shared}

theorem notDebug {x : Nm} (h : nmEq x nDebug = false) : (stn x == ("__debug__" : Str)) = false := by
  rw [← nDebug_is, stn_beq]; exact h
theorem FrOk.kind (O : FrOk K p loose mean mg mb fi fc) {x : Nm} {k : NameKind} (h : kindL x fi.sc.names = some k) : fc.env.kindOf (stn x) = some k := by
  rw [kindL_eq] at h
  show fc.env.scope.names.lookup _ = _
  rw [O.sc]; exact h

set_option tactic.hygienic true in
theorem loadN_sound {x : Str} {pos : Pos} {a : AV} {P : List Prop} {Q : Value → Shared → Prop} (ok : PTOk2 K T) (O : FrOk K p loose mean mg mb fi fc) (h : loadN T fi (nm x) st = some (a, st', P)) (r : Rel w.params fi fc ρ st s.heap)
    (H : Pst w.params fi fc ρ st st' s (fun ρ' v => RepV ρ' st'.n a v) Q) : wpAny (model prog w) fc.A (eval (.Name x pos) fc.env) Q NoE s := by
  unfold loadN at h
  split at h
  · first | exact nn h | cases h
  · rename_i hd
    have hd' := notDebug hd
    rw [stn_nm] at hd'
    obtain ⟨m, os, R⟩ := id r
    split at h
    · rename_i hk
      split at h
      · rename_i b hb
        first | (obtain ⟨rfl, rfl, rfl⟩ := ret_some h) | cases h
        obtain ⟨v, hv, rv⟩ := R.mu _ _ hb
        refine wpAny_Name (wpAny_loadName_local O.hk (O.kind hk) R.F.ns hv ?_) hd'
        exact r.pst (tk := s.toks) H rv
      · first | exact nn h | cases h
    · rename_i hk
      split at h
      · rename_i l hl
        split at h
        · rename_i b hc
          first | (obtain ⟨rfl, rfl, rfl⟩ := ret_some h) | cases h
          obtain ⟨_, hcl⟩ := R.cl _ _ hl
          obtain ⟨o, ho, ⟨v, hov, rv⟩, hm, hg⟩ := R.get hc (by intro q; cases q)
          refine wpAny_Name (wpAny_loadName_cell O.hk (O.kind hk) hcl ⟨o, hg, hov⟩ ?_) hd'
          exact r.pst (tk := s.toks) H rv
        · first | exact nn h | cases h
      · first | exact nn h | cases h
    · rename_i hk
      split at h
      · first | exact nn h | cases h
      · rename_i hn
        split at h
        · rename_i l hl
          split at h
          · rename_i b hc
            first | (obtain ⟨rfl, rfl, rfl⟩ := ret_some h) | cases h
            obtain ⟨_, hcl⟩ := R.cl _ _ hl
            obtain ⟨o, ho, ⟨v, hov, rv⟩, hm, hg⟩ := R.get hc (by intro q; cases q)
            refine wpAny_Name (wpAny_loadName_free O.hk (O.kind hk) hcl ⟨o, hg, hov⟩ ?_ (by rw [← nClassdict_is]; exact (stn_beq _ _).trans hn)) hd'
            exact r.pst (tk := s.toks) H rv
          · first | exact nn h | cases h
        · first | exact nn h | cases h
    · rename_i hk
      split at h
      · rename_i b hb
        first | (obtain ⟨rfl, rfl, rfl⟩ := ret_some h) | cases h
        obtain ⟨v, hv, rv⟩ := ok.globA _ _ hb
        have e := mg_of (O.X.keeps R.F.keep) (O.T.g.keeps R.F.keep) hv
        refine Name_function_global O.hk (O.kind hk) (loadGlobal_global (env := fc.env) (mg := mg) (by rw [O.gl]; exact O.T.g.keeps R.F.keep) e ?_) hd'
        exact r.pst (tk := s.toks) H (rv _ _)
      · first | exact nn h | cases h
    · first | exact nn h | cases h

set_option tactic.hygienic true in
theorem loadF_sound {x : Str} {pos : Pos} {f : Fn} {Q : Value → Shared → Prop} (ok : PTOk2 K T) (O : FrOk K p loose mean mg mb fi fc) (h : loadF T fi (nm x) = some f) (r : Rel w.params fi fc ρ st s.heap)
    (H : FnOk K f → Q f.val s) : wpAny (model prog w) fc.A (eval (.Name x pos) fc.env) Q NoE s := by
  unfold loadF at h
  split at h
  · first | exact nn h | cases h
  · rename_i hd
    have hd' := notDebug hd
    rw [stn_nm] at hd'
    obtain ⟨m, os, R⟩ := id r
    split at h
    · rename_i hk
      split at h
      · rename_i b hb
        first | (obtain ⟨rfl, rfl, rfl⟩ := ret_some h) | cases h
        obtain ⟨hf, hv | ⟨hn, hb, hne⟩⟩ := ok.globF _ _ hb
        · have e := mg_of (O.X.keeps R.F.keep) (O.T.g.keeps R.F.keep) hv
          exact Name_function_global O.hk (O.kind hk) (loadGlobal_global (env := fc.env) (mg := mg) (by rw [O.gl]; exact O.T.g.keeps R.F.keep) e (H hf)) hd'
        · have e := mg_none_of (O.X.keeps R.F.keep) (O.T.g.keeps R.F.keep) hn
          exact Name_function_global O.hk (O.kind hk) (loadGlobal_builtin (env := fc.env) (mg := mg) (mb := mb) (by rw [O.gl]; exact O.T.g.keeps R.F.keep) e (by rw [O.bl]; exact O.T.b.keeps R.F.keep) ((O.T.builtins _ hne).trans hb) (H hf)) hd'
      · first | exact nn h | cases h
    · first | exact nn h | cases h

set_option tactic.hygienic true in
theorem storeN_sound {x : Str} {a : AV} {v : Value} {P : List Prop} {Q : Unit → Shared → Prop} (O : FrOk K p loose mean mg mb fi fc) (h : storeN fi (nm x) a st = some ((), st', P)) (r : Rel w.params fi fc ρ st s.heap) (ra : RepV ρ st.n a v)
    (H : Pst w.params fi fc ρ st st' s (fun _ _ => True) Q) : wpAny (model prog w) fc.A (storeName fc.env x v) Q NoE s := by
  unfold storeN at h
  obtain ⟨m, os, R⟩ := id r
  split at h
  · rename_i hk
    first | (obtain ⟨rfl, rfl, rfl⟩ := ret_some h) | cases h
    refine wpAny_storeName_local (O.kind hk) R.F.ns (fun h' hn hs => ?_) (by rw [O.hk]; rfl)
    have F' := R.F.set hn hs
    exact H ρ h' (s.toks + 1) () ⟨Nat.le_refl _, fun _ _ => rfl⟩ ⟨_, _, R.bind F' (R.N.set hs) ra⟩ trivial
  · rename_i hk
    split at h
    · rename_i l hl
      split at h
      · rename_i c hc
        first | (obtain ⟨rfl, rfl, rfl⟩ := ret_some h) | cases h
        obtain ⟨hlt, hcl⟩ := R.cl _ _ hl
        obtain ⟨o, ho, ro, hm, hg⟩ := R.get hc (by intro q; cases q)
        have hdat : ∃ v₀, o.data = .cell v₀ := by
          induction c with
          | none => exact ⟨_, ro⟩
          | some b => obtain ⟨v', hv', _⟩ := ro; exact ⟨_, hv'⟩
        obtain ⟨v₀, hd⟩ := hdat
        refine wpAny_storeName_cell O.hk (O.kind hk) hcl ⟨o, hg, hd⟩ fun h' hv hs => ?_
        obtain ⟨o', ho', hd'⟩ := hv
        have hmem := R.N _ hm
        obtain ⟨pre, post, e1, e2, p1, p2⟩ := (R.upd (o' := o') ho).split
        have F' : Fr fc.h₀ fc.env.locals h' m := ⟨R.F.ns.sameBut hs (Ne.symm hmem.2.1), fun b ob e => (hs.2 b (fun q => by rw [q] at e; rw [hmem.2.2] at e; cases e)).trans (R.F.keep b ob e), R.F.above⟩
        have N' : News fc.h₀ fc.env.locals h' (ledF st.sg ρ 0 (os.set l o') ++ fc.rest) := by
          rw [e2]
          intro q hq
          have hN := R.N
          rw [e1] at hN
          rcases List.mem_append.mp hq with hq | hq
          · have z := hN q (List.mem_append_left _ hq); exact ⟨(hs.2 q.1 (p1 q hq)).trans z.1, z.2⟩
          · rcases List.mem_cons.mp hq with rfl | hq
            · exact ⟨ho', hmem.2⟩
            · have z := hN q (List.mem_append_right _ (.tail _ hq)); exact ⟨(hs.2 q.1 (p2 q hq)).trans z.1, z.2⟩
        exact H ρ h' s.toks () ⟨Nat.le_refl _, fun _ _ => rfl⟩ ⟨_, _, R.set (a' := .cell (some a)) hlt F' N' ⟨v, hd', ra⟩⟩ trivial
      · first | exact nn h | cases h
    · first | exact nn h | cases h
  · first | exact nn h | cases h

/-- an instance and its dictionary -/
theorem inst_get (r : Rel w.params fi fc ρ st s.heap) {l d : Nat} {C : Addr} {es : List (Nm × AV)} (e1 : st.sg.get l = .inst C d) (e2 : st.sg.get d = .dict es) :
    ∃ m os ds k, RelAt w.params fi fc ρ st s.heap m os ∧ os[d]? = some (dictOf ds k) ∧ All2 (RepE w.params ρ st.n) es ds ∧ W.InstAt s.heap (ρ l) (instObj C (ρ d)) C (some (dictOf ds k)) ∧ d < st.n := by
  obtain ⟨m, os, R⟩ := r
  obtain ⟨o1, ho1, ⟨_, rfl⟩, hm1, hg1⟩ := R.get e1 (by intro q; cases q)
  obtain ⟨o2, ho2, ⟨ds, k, rfl, hd⟩, hm2, hg2⟩ := R.get e2 (by intro q; cases q)
  exact ⟨m, os, ds, k, R, ho2, hd, InstAt.of_news R.N hm1 hm2, R.lt (by rw [e2]; intro q; cases q)⟩

theorem handed_rep {a : AV} {v : Value} {n : Nat} (r : RepV ρ n a v) : handedIn v = true := by
  induction a with
  | none => obtain rfl := r; rfl
  | bool b => obtain rfl := r; rfl
  | num b => obtain ⟨_, rfl⟩ := r; rfl
  | int b => obtain ⟨_, rfl⟩ := r; rfl
  | txt b => obtain ⟨_, rfl⟩ := r; rfl
  | str b => obtain ⟨_, rfl⟩ := r; rfl
  | ref b => obtain ⟨_, rfl⟩ := r; rfl
  | con b => obtain ⟨rfl, h⟩ := r; exact h

set_option tactic.hygienic true in
theorem getA_sound {x : Str} {a c : AV} {va : Value} {P : List Prop} {ex : Bool} {Q : Value → Shared → Prop} (ok : PTOk2 K T) (O : FrOk K p loose mean mg mb fi fc) (h : getA T a (nm x) st = some (c, st', P)) (r : Rel w.params fi fc ρ st s.heap) (ra : RepV ρ st.n a va)
    (H : Pst w.params fi fc ρ st st' s (fun ρ' v => RepV ρ' st'.n c v) Q) : wpAny (model prog w) fc.A (getAttr va x ex) Q NoE s := by
  unfold getA at h
  split at h
  · rename_i l
    obtain ⟨_, rfl⟩ := ra
    split at h
    · rename_i C d e1
      split at h
      · rename_i ci hci
        split at h
        · rename_i hfl
          split at h
          · rename_i es e2
            split at h
            · rename_i v hv
              first | (obtain ⟨rfl, rfl, rfl⟩ := ret_some h) | cases h
              obtain ⟨m, os, ds, k, R, ho, hd, I, hlt⟩ := inst_get r e1 e2
              have co := ok.cls _ _ hci
              obtain ⟨f1, f2, f3⟩ := co.flds _ (memN_iff hfl)
              obtain ⟨v', hv', rv⟩ := getL_some hd hv
              exact get_own R.F O.X I f1 co.hasD f2 rfl hv' (handed_rep rv) (r.pst H rv)
            · first | exact nn h | cases h
          · first | exact nn h | cases h
        · first | exact nn h | cases h
      · first | exact nn h | cases h
    · first | exact nn h | cases h
  · first | exact nn h | cases h

set_option tactic.hygienic true in
theorem setA_sound {x : Str} {a c : AV} {va vc : Value} {P : List Prop} {Q : Unit → Shared → Prop} (ok : PTOk2 K T) (O : FrOk K p loose mean mg mb fi fc) (h : setA T a (nm x) c st = some ((), st', P)) (r : Rel w.params fi fc ρ st s.heap) (ra : RepV ρ st.n a va) (rc : RepV ρ st.n c vc)
    (H : Pst w.params fi fc ρ st st' s (fun _ _ => True) Q) : wpAny (model prog w) fc.A (setAttr va x vc) Q NoE s := by
  unfold setA at h
  split at h
  · rename_i l
    obtain ⟨_, rfl⟩ := ra
    split at h
    · rename_i C d e1
      split at h
      · rename_i ci hci
        split at h
        · rename_i hfl
          split at h
          · rename_i es e2
            split at h
            · rename_i hsh
              first | (obtain ⟨rfl, rfl, rfl⟩ := ret_some h) | cases h
              obtain ⟨m, os, ds, k, R, ho, hd, I, hlt⟩ := inst_get r e1 e2
              have co := ok.cls _ _ hci
              obtain ⟨f1, f2, f3⟩ := co.flds _ (memN_iff hfl)
              have hlen := short_le hsh
              have hput := putL_rep (x := nm x) (t := s.toks + 1) rc hd
              refine set_dict (es' := putL x (PyData.keyHash w.params x) (.str x (s.toks + 1)) vc ds) (n' := putN x ds k) R.F O.X R.N I rfl co.setat co.over f3 co.hasD (getL_isSome (x := nm x) hd) rfl (R.upd ho) ?_ (fun h' F' N' => ?_)
              · have := hput.length
                have h2 := put_length (nm x) c es
                have e3 : (putL x (PyData.keyHash w.params x) (.str x (s.toks + 1)) vc ds).length = (put (nm x) c es).length := this.symm
                rw [e3]; lia
              · exact H ρ h' (s.toks + 2) () ⟨Nat.le_refl _, fun _ _ => rfl⟩ ⟨_, _, R.set (a' := .dict (put (nm x) c es)) hlt F' N' ⟨_, _, rfl, hput⟩⟩ trivial
            · first | exact nn h | cases h
          · first | exact nn h | cases h
        · first | exact nn h | cases h
      · first | exact nn h | cases h
    · first | exact nn h | cases h
  · first | exact nn h | cases h
end
end Mine
namespace Mine
open PySem PySem.W PyProof.Rows PySem.Calls PySem.Spec

section
variable {prog : Program} {w : World} {K : Frag} {p : Program} {loose : List Str} {mean : ExcName → Option Value} {mg mb : Str → Option Value} {T : PT} {fi : FI} {fc : FC} {ρ : Nat → Addr} {st st' : St} {s : Shared}

theorem look_listM {x : Nm} {b : Bi} (h : look x listM = some b) : (x = nAppend ∧ b = .append) ∨ (x = nPop ∧ b = .pop) ∨ (x = nExtend ∧ b = .extend) ∨ (x = nReverse ∧ b = .reverse) := by
  have := look_mem h
  simp only [listM, List.mem_cons, Prod.mk.injEq, List.not_mem_nil, or_false] at this
  exact this
theorem nAppend_is : stn nAppend = ("append" : Str) := by decide +kernel
theorem nPop_is : stn nPop = ("pop" : Str) := by decide +kernel
theorem nExtend_is : stn nExtend = ("extend" : Str) := by decide +kernel
theorem nReverse_is : stn nReverse = ("reverse" : Str) := by decide +kernel
theorem nGet_is : stn nGet = ("get" : Str) := by decide +kernel
theorem nJoin_is : stn nJoin = ("join" : Str) := by decide +kernel

/-- a plain dictionary, as the library says it -/
theorem tab_is {ds : List DictEntry} {es : List (Nm × AV)} {k n : Nat} (h : All2 (RepE w.params ρ n) es ds) (nd : (es.map (·.1)).Nodup) : (dictOf ds k).IsDictOf (strKind prog w) ((ds.zip es).map fun q => (stn q.2.1, q.1.val)) := by
  have hP : ∀ {es : List (Nm × AV)} {ds : List DictEntry}, All2 (RepE w.params ρ n) es ds → KeysOf (strKind prog w) ds.toArray ∧ Pairs (strKind prog w) ds ((ds.zip es).map fun q => (stn q.2.1, q.1.val)) ∧ ((ds.zip es).map fun q => (stn q.2.1, q.1.val)).map (·.1) = es.map fun e => stn e.1 := by
    intro es
    induction es with
    | nil =>
      intro ds h
      induction ds with
      | nil => exact ⟨fun e he => by simp at he, .nil, rfl⟩
      | cons => exact h.elim
    | cons e es ih =>
      intro ds h
      induction ds with
      | nil => exact h.elim
      | cons d ds =>
        obtain ⟨⟨hh, ⟨t, hk⟩, hv⟩, hr⟩ := h
        obtain ⟨i1, i2, i3⟩ := ih hr
        have is1 : (strKind prog w).is (stn e.1) d.key = true := by rw [hk]; exact strKind_is prog w _ t
        refine ⟨fun x hx => ?_, .cons is1 rfl i2, by simp [List.zip_cons_cons] at i3 ⊢; exact i3⟩
        simp only [List.mem_toArray, List.mem_cons] at hx
        rcases hx with rfl | hx
        · exact ⟨_, is1, hh⟩
        · exact i1 x (by simpa using hx)
  obtain ⟨h1, h2, h3⟩ := hP h
  refine ⟨ds.toArray, k, ⟨rfl, rfl, rfl⟩, rfl, h1, h2, ?_⟩
  rw [h3]
  have : (es.map fun e => stn e.1) = (es.map (·.1)).map stn := by simp [List.map_map]
  rw [this]
  exact List.Pairwise.map _ (fun a b (q : a ≠ b) e => q (stn_inj e)) nd
theorem tab_get (r : Rel w.params fi fc ρ st s.heap) {l : Nat} {es : List (Nm × AV)} (e : st.sg.get l = .tab es) :
    ∃ m os ds k, RelAt w.params fi fc ρ st s.heap m os ∧ os[l]? = some (dictOf ds k) ∧ All2 (RepE w.params ρ st.n) es ds ∧ (es.map (·.1)).Nodup ∧ (ρ l, dictOf ds k) ∈ ledF st.sg ρ 0 os ++ fc.rest ∧ l < st.n ∧ (ρ l == sysModules) = false := by
  obtain ⟨m, os, R⟩ := r
  obtain ⟨o, ho, ⟨ds, k, rfl, hv, nd⟩, hm, hg⟩ := R.get e (by intro q; cases q)
  exact ⟨m, os, ds, k, R, ho, hv, nd, hm, R.lt (by rw [e]; intro q; cases q), by simpa using R.lo _ _ e⟩

set_option tactic.hygienic true in
theorem meth_sound {a : AV} {x : Str} {f : Fn} {va : Value} {pl : Sem Bool} {Q : Value × List Value → Shared → Prop} (ok : PTOk2 K T) (O : FrOk K p loose mean mg mb fi fc) (h : meth T a (nm x) st = some f) (r : Rel w.params fi fc ρ st s.heap) (ra : RepV ρ st.n a va)
    (H : FnOk K f → Q (f.val, [va]) s) : wpAny (model prog w) fc.A (getMethod va x pl) Q NoE s := by
  unfold meth at h
  split at h
  · rename_i l
    obtain ⟨_, rfl⟩ := ra
    split at h
    · rename_i C d e1
      split at h
      · rename_i ci hci
        split at h
        · rename_i g hg
          split at h
          · rename_i es e2
            split at h
            · first | exact nn h | cases h
            · rename_i hn
              first | (obtain ⟨rfl, rfl, rfl⟩ := ret_some h) | cases h
              obtain ⟨m, os, ds, k, R, ho, hd, I, hlt⟩ := inst_get r e1 e2
              obtain ⟨f1, f2, f3, f4⟩ := (ok.cls _ _ hci).mths _ (look_mem hg)
              exact method_inst R.F O.X I f1 f2 f3 (getL_none (x := nm x) hd hn) (H f4)
          · first | exact nn h | cases h
        · first | exact nn h | cases h
      · first | exact nn h | cases h
    · rename_i pre xs e1
      obtain ⟨m, os, vs, k, R, ho, hv, hm, hl, hlt⟩ := list_get r e1
      have nd : ∀ a, (Value.ref (ρ l)) = .ref a → ∃ o, s.heap.get? a = some o ∧ o.dict = none := fun a q => by
        cases q; exact ⟨_, (R.N _ hm).1, rfl⟩
      have hT := hl.typeIs
      split at h
      · rename_i b hb
        first | (obtain ⟨rfl, rfl, rfl⟩ := ret_some h) | cases h
        rcases look_listM hb with ⟨hx, rfl⟩ | ⟨hx, rfl⟩ | ⟨hx, rfl⟩ | ⟨hx, rfl⟩
        · obtain rfl : x = ("append" : Str) := by rw [← nAppend_is, ← hx, stn_nm]
          exact getMethod_builtin hT PySem.F.plainAttrs_list PySem.F.slot_list_append PySem.F.type_list_append nd (H trivial)
        · obtain rfl : x = ("pop" : Str) := by rw [← nPop_is, ← hx, stn_nm]
          exact getMethod_builtin hT PySem.F.plainAttrs_list PySem.F.slot_list_pop PySem.F.type_list_pop nd (H trivial)
        · obtain rfl : x = ("extend" : Str) := by rw [← nExtend_is, ← hx, stn_nm]
          exact getMethod_builtin hT PySem.F.plainAttrs_list PySem.F.slot_list_extend PySem.F.type_list_extend nd (H trivial)
        · obtain rfl : x = ("reverse" : Str) := by rw [← nReverse_is, ← hx, stn_nm]
          exact getMethod_builtin hT PySem.F.plainAttrs_list PySem.F.slot_list_reverse PySem.F.type_list_reverse nd (H trivial)
      · first | exact nn h | cases h
    · rename_i es e1
      obtain ⟨m, os, ds, k, R, ho, hv, nd, hm, hlt, hs⟩ := tab_get r e1
      split at h
      · rename_i b hb
        first | (obtain ⟨rfl, rfl, rfl⟩ := ret_some h) | cases h
        have := look_mem hb
        simp only [dictM, List.mem_cons, Prod.mk.injEq, List.not_mem_nil, or_false] at this
        obtain ⟨hx, rfl⟩ := this
        obtain rfl : x = ("get" : Str) := by rw [← nGet_is, ← hx, stn_nm]
        exact kdg_method R.N hm (tab_is (prog := prog) hv nd) (H trivial)
      · first | exact nn h | cases h
    · first | exact nn h | cases h
  · obtain ⟨t, rfl⟩ := ra
    split at h
    · rename_i b hb
      first | (obtain ⟨rfl, rfl, rfl⟩ := ret_some h) | cases h
      have := look_mem hb
      simp only [strM, List.mem_cons, Prod.mk.injEq, List.not_mem_nil, or_false] at this
      obtain ⟨hx, rfl⟩ := this
      obtain rfl : x = ("join" : Str) := by rw [← nJoin_is, ← hx, stn_nm]
      exact getMethod_builtin (typeIs_str _ _ _) PySem.F.plainAttrs_str PySem.F.slot_str_join PySem.F.type_str_join (fun a q => by cases q) (H trivial)
    · first | exact nn h | cases h
  · first | exact nn h | cases h

set_option tactic.hygienic true in
theorem getI_sound {a i c : AV} {va vi : Value} {value slice : Expr} {P : List Prop} {Q : Value → Shared → Prop} (h : getI a i st = some (c, st', P)) (hP : Ps P) (r : Rel w.params fi fc ρ st s.heap) (ra : RepV ρ st.n a va) (ri : RepV ρ st.n i vi)
    (hs : ∀ o k, subscripted slice false o k = operate [o, k] (getItem o k))
    (H : Pst w.params fi fc ρ st st' s (fun ρ' v => RepV ρ' st'.n c v) Q) : wpAny (model prog w) fc.A (subscriptTail value slice va vi) Q NoE s := by
  unfold getI at h
  split at h
  · rename_i l
    obtain ⟨_, rfl⟩ := ra
    split at h
    · rename_i k
      obtain ⟨u, rfl⟩ := ri
      split at h
      · rename_i xs e1
        split at h
        · rename_i v hn
          first | (obtain ⟨rfl, rfl, rfl⟩ := ret_some h) | cases h
          obtain ⟨m, os, vs, R, hv, ht, hlt⟩ := tup_get r e1
          rw [nth_eq] at hn
          obtain ⟨y, hy, ry⟩ := hv.get hn
          have hk : k < 2 ^ 62 := hyc hP fun hc => by have := (Nat.blt_eq).mp hc; lia
          have hkl : k < vs.length := (List.getElem?_eq_some_iff.mp hy).1
          refine item_tupleT ht (j := k) ?_ ?_ ?_ hy (r.pst (tk := s.toks) H ry) (hs _ _)
          · show (-2 ^ 63 : Int) ≤ ((k : Nat) : Int); lia
          · show ((k : Nat) : Int) < 2 ^ 63; lia
          · unfold seqIndex?
            show (if _ then _ else _) = _
            simp; lia
        · first | exact nn h | cases h
      · rename_i xs e1
        split at h
        · rename_i v hn
          first | (obtain ⟨rfl, rfl, rfl⟩ := ret_some h) | cases h
          obtain ⟨m, os, vs, k1, R, ho, hv, hm, hl, hlt⟩ := list_get r e1
          rw [nth_eq] at hn
          obtain ⟨y, hy, ry⟩ := hv.get hn
          have hk : k < 2 ^ 62 := hyc hP fun hc => by have := (Nat.blt_eq).mp hc; lia
          exact tail_any hl.typeIs slot_list_getitem.lookup (wpAny_getItem_list hl (by show (0 : Int) ≤ ((k : Nat) : Int); lia) (by show ((k : Nat) : Int) < 2 ^ 63; lia) (by simpa using hy) (r.pst (tk := s.toks) H ry)) (hs _ _)
        · first | exact nn h | cases h
      · first | exact nn h | cases h
    · rename_i k
      obtain ⟨u, rfl⟩ := ri
      split at h
      · rename_i pre xs e1
        obtain ⟨m, os, vs, k1, R, ho, hv, hm, hl, hlt⟩ := list_get r e1
        unfold expect at h
        split at h
        · first | exact nn h | cases h
        · first | (obtain ⟨rfl, rfl, rfl⟩ := ret_some h) | cases h
          obtain ⟨h0, hk, hn⟩ := hP.1
          obtain ⟨y, hy, ry⟩ := hv.get hn
          refine tail_any hl.typeIs slot_list_getitem.lookup (wpAny_getItem_list hl h0 (by lia) (by simpa using hy) ?_) (hs _ _)
          exact H.of rfl ⟨m, os, R.orc st.or _⟩ ry
      · first | exact nn h | cases h
    · first | exact nn h | cases h
  · rename_i l
    obtain ⟨t, rfl⟩ := ra
    split at h
    · rename_i k
      obtain ⟨u, rfl⟩ := ri
      unfold expect at h
      split at h
      · first | exact nn h | cases h
      · first | (obtain ⟨rfl, rfl, rfl⟩ := ret_some h) | cases h
        obtain ⟨h0, hk, c', rfl, hc⟩ := hP.1
        obtain ⟨m, os, R⟩ := r
        have hkl : k.toNat < l.length := (List.getElem?_eq_some_iff.mp hc).1
        refine tail_any (typeIs_str _ _ _) PySem.F.slot_str_getitem.lookup (getItem_str (c := c') ?_ ?_ ?_) (hs _ _)
        · simp; lia
        · have e1 : seqIndex? k (stn l).length = some k.toNat := by
            unfold seqIndex?
            rw [stn_len]
            have hk0 : ¬ k < 0 := by lia
            simp only [hk0, if_false]
            rw [if_pos]
            simp; lia
          rw [e1]
          simpa [stn] using hc
        · exact H.of rfl ⟨m, os, R.orc st.or _⟩ ⟨_, rfl⟩
    · first | exact nn h | cases h
  · first | exact nn h | cases h
end
end Mine
namespace Mine
open PySem PySem.W PyProof.Rows PySem.Calls PySem.Spec

theorem nodup_put {α : Type} (x : Nm) (a : α) : ∀ {es : List (Nm × α)}, (es.map (·.1)).Nodup → ((put x a es).map (·.1)).Nodup ∧ (∀ y, y ∈ (put x a es).map (·.1) → y = x ∨ y ∈ es.map (·.1))
  | [], _ => by simp [put]
  | e :: es, h => by
    simp only [List.map_cons, List.nodup_cons] at h
    unfold put
    cases q : nmEq x e.1 with
    | true =>
      have e1 := nmEq_iff.mp q
      simp only [List.map_cons, List.nodup_cons, List.mem_cons]
      rw [e1]
      exact ⟨h, fun y hy => by rcases hy with rfl | hy; exact .inl rfl; exact .inr (.inr hy)⟩
    | false =>
      obtain ⟨h1, h2⟩ := nodup_put x a h.2
      simp only [List.map_cons, List.nodup_cons, List.mem_cons]
      refine ⟨⟨fun hm => ?_, h1⟩, fun y hy => ?_⟩
      · rcases h2 _ hm with e1 | hm
        · exact nmEq_ff q e1.symm
        · exact h.1 hm
      · rcases hy with rfl | hy
        · exact .inr (.inl rfl)
        · rcases h2 _ hy with e1 | hm
          · exact .inl e1
          · exact .inr (.inr hm)
theorem kl_last_append (l : List Value) (y : Value) : kl_last (l ++ [y]) = some (l, y) := by
  induction l with
  | nil => rfl
  | cons x r ih => simp [kl_last, ih]
set_option tactic.hygienic true in
theorem popO_spec : ∀ {l xs : List AV} {y : AV}, popO l = some (xs, y) → l = xs ++ [y]
  | [], _, _, h => by cases h
  | a :: r, xs, y, h => by
    unfold popO at h
    split at h
    · rename_i xs' y' e
      first | (obtain ⟨rfl, rfl, rfl⟩ := ret_some h) | cases h
      rw [popO_spec e]; rfl
    · rename_i e
      first | (obtain ⟨rfl, rfl, rfl⟩ := ret_some h) | cases h
      induction r with
      | nil => rfl
      | cons b r =>
        exfalso
        unfold popO at e
        split at e <;> cases e
theorem ki_setL_of (v : Value) : ∀ {l : List Value} {k : Nat}, k < l.length → ki_setL l k v = some (l.set k v)
  | [], _, h => absurd h (Nat.not_lt_zero _)
  | _ :: _, 0, _ => rfl
  | x :: r, k + 1, h => by simp [ki_setL, ki_setL_of v (l := r) (k := k) (by simpa using h)]
theorem All2.snoc {α β : Type} {R : α → β → Prop} : ∀ {xs : List α} {y : α} {vs : List β}, All2 R (xs ++ [y]) vs → ∃ us v, vs = us ++ [v] ∧ All2 R xs us ∧ R y v
  | [], y, [v], h => ⟨[], v, rfl, trivial, h.1⟩
  | [], y, [], h => h.elim
  | [], y, _ :: _ :: _, h => h.2.elim
  | x :: xs, y, [], h => h.elim
  | x :: xs, y, v :: vs, h => by
    obtain ⟨us, u, rfl, h1, h2⟩ := All2.snoc (xs := xs) h.2
    exact ⟨v :: us, u, rfl, ⟨h.1, h1⟩, h2⟩

section
variable {prog : Program} {w : World} {K : Frag} {p : Program} {loose : List Str} {mean : ExcName → Option Value} {mg mb : Str → Option Value} {T : PT} {fi : FI} {fc : FC} {ρ : Nat → Addr} {st st' : St} {s : Shared}

set_option tactic.hygienic true in
theorem setI_sound {a i c : AV} {va vi vc : Value} {P : List Prop} {Q : Unit → Shared → Prop} (h : setI a i c st = some ((), st', P)) (hP : Ps P) (r : Rel w.params fi fc ρ st s.heap) (ra : RepV ρ st.n a va) (ri : RepV ρ st.n i vi) (rc : RepV ρ st.n c vc)
    (H : Pst w.params fi fc ρ st st' s (fun _ _ => True) Q) : wpAny (model prog w) fc.A (setItem va vi vc) Q NoE s := by
  unfold setI at h
  split at h
  · rename_i l
    obtain ⟨_, rfl⟩ := ra
    split at h
    · rename_i k
      obtain ⟨u, rfl⟩ := ri
      split at h
      · rename_i xs e1
        split at h
        · rename_i v hn
          first | (obtain ⟨rfl, rfl, rfl⟩ := ret_some h) | cases h
          obtain ⟨m, os, vs, k1, R, ho, hv, hm, hl, hlt⟩ := list_get r e1
          rw [nth_eq] at hn
          have hk : k < 2 ^ 62 := hyc hP fun hc => by have := (Nat.blt_eq).mp hc; lia
          obtain ⟨y, hy, ry⟩ := hv.get hn
          have hkl : k < vs.length := (List.getElem?_eq_some_iff.mp hy).1
          refine ki_set R.F R.N (by show (0 : Int) ≤ ((k : Nat) : Int); lia) (by show ((k : Nat) : Int) < 2 ^ 63; lia) (ki_setL_of vc (by simpa using hkl)) (R.upd ho) fun h' F' N' => ?_
          exact H ρ h' s.toks () ⟨Nat.le_refl _, fun _ _ => rfl⟩ ⟨_, _, R.set (a' := .list none (xs.set k c)) hlt F' N' ⟨_, _, rfl, hv.set rc⟩⟩ trivial
        · first | exact nn h | cases h
      · first | exact nn h | cases h
    · rename_i x
      obtain ⟨u, rfl⟩ := ri
      split at h
      · rename_i es e1
        split at h
        · rename_i hsh
          first | (obtain ⟨rfl, rfl, rfl⟩ := ret_some h) | cases h
          obtain ⟨m, os, ds, k, R, ho, hv, nd, hm, hlt, hs⟩ := tab_get r e1
          have hsz : ((ds.zip es).map fun q => (stn q.2.1, q.1.val)).length ≤ sizeLine := by
            have := short_le hsh
            have h2 := hv.length
            rw [sizeL]
            simp only [List.length_map, List.length_zip]; lia
          have hN := R.N
          obtain ⟨pre, post, e2, e3, p1, p2⟩ := (R.upd (o' := dictOf ds k) ho).split
          have hmem := R.N _ hm
          refine wpAny_setItem_pairs (hsz := hsz) (strKind_is prog w (stn x) u) (Heap.dictOf_iff.mpr ⟨_, hmem.1, tab_is (prog := prog) hv nd⟩) fun h' hmm hsb => ?_
          obtain ⟨o', ho', es', ep, hex, hdat, hkeys, hpairs, hnd⟩ := Heap.dictOf_iff.mp hmm
          have F' : Fr fc.h₀ fc.env.locals h' m := R.F.change hsb hmem.2.1 hmem.2.2
          have eo : o' = dictOf es'.toList ep := by
            obtain ⟨oc, od, odd, osl⟩ := o'
            obtain ⟨q1, q2, q3⟩ := hex
            simp only at q1 q2 q3 hdat
            rw [q1, q2, q3, hdat]
          have N' : News fc.h₀ fc.env.locals h' (ledF st.sg ρ 0 (os.set l o') ++ fc.rest) := by
            have hu := (R.upd (o' := o') ho).split
            obtain ⟨pre, post, e2, e3, p1, p2⟩ := hu
            rw [e3]
            intro q hq
            rw [e2] at hN
            rcases List.mem_append.mp hq with hq | hq
            · have z := hN q (List.mem_append_left _ hq); exact ⟨(hsb.2 q.1 (p1 q hq)).trans z.1, z.2⟩
            · rcases List.mem_cons.mp hq with rfl | hq
              · exact ⟨ho', hmem.2⟩
              · have z := hN q (List.mem_append_right _ (.tail _ hq)); exact ⟨(hsb.2 q.1 (p2 q hq)).trans z.1, z.2⟩
          -- what the new dictionary holds
          have key : ∀ {kvs : List (Str × Value)} {zs : List DictEntry} {as : List (Nm × AV)}, Pairs (strKind prog w) zs kvs → (∀ e ∈ zs, ∃ k, (strKind prog w).is k e.key = true ∧ e.hash = (strKind prog w).hash k) →
              All2 (fun (q : Nm × AV) (kv : Str × Value) => kv.1 = stn q.1 ∧ RepV ρ st.n q.2 kv.2) as kvs → All2 (RepE w.params ρ st.n) as zs := by
            intro kvs zs as hp
            induction hp generalizing as with
            | nil => intro _ h; induction as with | nil => trivial | cons => exact h.elim
            | @cons e kv zs kvs h1 h2 _ ih =>
              intro hk h
              induction as with
              | nil => exact h.elim
              | cons q as =>
                obtain ⟨k', g1, g2⟩ := hk e (.head _)
                obtain ⟨t, ht⟩ := Value.isStrOf_shape h1
                obtain ⟨t', ht'⟩ := Value.isStrOf_shape g1
                have hin : k' = kv.1 := by rw [ht] at ht'; injection ht' with z _; exact z.symm
                refine ⟨⟨?_, ⟨t, by rw [ht, h.1.1]⟩, by rw [h2]; exact h.1.2⟩, ih (fun e he => hk e (.tail _ he)) h.2⟩
                rw [g2, hin, h.1.1]; rfl
          have base : ∀ {as : List (Nm × AV)} {zs : List DictEntry}, All2 (RepE w.params ρ st.n) as zs → All2 (fun (q : Nm × AV) (kv : Str × Value) => kv.1 = stn q.1 ∧ RepV ρ st.n q.2 kv.2) as ((zs.zip as).map fun q => (stn q.2.1, q.1.val)) := by
            intro as
            induction as with
            | nil => intro zs h; induction zs with | nil => trivial | cons => exact h.elim
            | cons q as ih => intro zs h; induction zs with | nil => exact h.elim | cons z zs => exact ⟨⟨rfl, h.1.2.2⟩, ih h.2⟩
          have put2 : ∀ {as : List (Nm × AV)} {kvs : List (Str × Value)}, (as.map (·.1)).Nodup → All2 (fun (q : Nm × AV) (kv : Str × Value) => kv.1 = stn q.1 ∧ RepV ρ st.n q.2 kv.2) as kvs →
              All2 (fun (q : Nm × AV) (kv : Str × Value) => kv.1 = stn q.1 ∧ RepV ρ st.n q.2 kv.2) (put x c as) (stored kvs (stn x) vc) := by
            intro as
            induction as with
            | nil => intro kvs _ h; induction kvs with | nil => exact ⟨⟨rfl, rc⟩, trivial⟩ | cons => exact h.elim
            | cons q as ih =>
              intro kvs nd h
              induction kvs with
              | nil => exact h.elim
              | cons kv kvs =>
                simp only [List.map_cons, List.nodup_cons] at nd
                have ih' := ih nd.2 h.2
                unfold put
                cases e : nmEq x q.1 with
                | true =>
                  have e1 := nmEq_iff.mp e
                  have hkv : kv.1 = stn x := by rw [h.1.1, e1]
                  have same : ∀ {as : List (Nm × AV)} {kvs : List (Str × Value)}, x ∉ as.map (·.1) → All2 (fun (q : Nm × AV) (kv : Str × Value) => kv.1 = stn q.1 ∧ RepV ρ st.n q.2 kv.2) as kvs → kvs.map (fun kv => if kv.1 = stn x then (kv.1, vc) else kv) = kvs := by
                    intro as
                    induction as with
                    | nil => intro kvs _ h; induction kvs with | nil => rfl | cons => exact h.elim
                    | cons q as ih =>
                      intro kvs nx h
                      induction kvs with
                      | nil => rfl
                      | cons kv kvs =>
                        simp only [List.map_cons, List.mem_cons, not_or] at nx
                        have : kv.1 ≠ stn x := by rw [h.1.1]; exact fun z => nx.1 (stn_inj z).symm
                        simp only [List.map_cons, if_neg this, ih nx.2 h.2]
                  unfold stored
                  rw [if_pos (by simp [hkv]), List.map_cons, if_pos hkv, same (by rw [e1]; exact nd.1) h.2]
                  exact ⟨⟨hkv, rc⟩, h.2⟩
                | false =>
                  have hne : kv.1 ≠ stn x := by rw [h.1.1]; exact fun z => nmEq_ff e (stn_inj z).symm
                  have hst : stored (kv :: kvs) (stn x) vc = kv :: stored kvs (stn x) vc := by
                    unfold stored
                    simp only [List.any_cons, hne, decide_false, Bool.false_or, List.map_cons, if_false]
                    split <;> rfl
                  rw [hst]
                  exact ⟨h.1, ih'⟩
          have hE : All2 (RepE w.params ρ st.n) (put x c es) es'.toList := key hpairs (fun e he => hkeys e (by simpa using he)) (put2 nd (base hv))
          exact H ρ h' (s.toks + 1) () ⟨Nat.le_refl _, fun _ _ => rfl⟩ ⟨_, _, R.set (a' := .tab (put x c es)) hlt F' N' ⟨_, _, eo, hE, (nodup_put x c nd).1⟩ (fun _ _ => by simpa using hs)⟩ trivial
        · first | exact nn h | cases h
      · first | exact nn h | cases h
    · first | exact nn h | cases h
  · first | exact nn h | cases h

set_option tactic.hygienic true in
theorem isin_sound {a c : AV} {t : Fn} {va : Value} {P : List Prop} {Q : Value → Shared → Prop} (ok : PTOk2 K T) (X : K.In s.heap) (h : isin T a t st = some (c, st', P)) (r : Rel w.params fi fc ρ st s.heap) (ra : RepV ρ st.n a va)
    (H : Pst w.params fi fc ρ st st' s (fun ρ' v => RepV ρ' st'.n c v) Q) : wpAny (model prog w) fc.A (call (.builtin "isinstance") [va, t.val]) Q NoE s := by
  unfold isin at h
  have hint : ∀ {i : AV}, typeB st i = some .int → ∀ {v}, RepV ρ st.n i v → ∃ x u, v = .int x u := by
    intro i hi v rv
    induction i with
    | num x => obtain ⟨u, rfl⟩ := rv; exact ⟨_, _, rfl⟩
    | int x => obtain ⟨u, rfl⟩ := rv; exact ⟨_, _, rfl⟩
    | ref l => simp only [typeB] at hi; split at hi <;> cases hi
    | _ => first | exact nn hi | cases hi
  have hstr : ∀ {i : AV}, typeB st i = some .tstr → ∀ {v}, RepV ρ st.n i v → ∃ x u, v = .str x u := by
    intro i hi v rv
    induction i with
    | txt x => obtain ⟨u, rfl⟩ := rv; exact ⟨_, _, rfl⟩
    | str x => obtain ⟨u, rfl⟩ := rv; exact ⟨_, _, rfl⟩
    | ref l => simp only [typeB] at hi; split at hi <;> cases hi
    | _ => first | exact nn hi | cases hi
  have htup : ∀ {i : AV}, typeB st i = some .ttup → ∀ {v}, RepV ρ st.n i v → ∃ x o, v = .ref x ∧ s.heap.get? x = some o ∧ o.cls = .type "tuple" := by
    intro i hi v rv
    induction i with
    | ref l =>
      simp only [typeB] at hi
      split at hi
      · rename_i xs e
        obtain ⟨_, rfl⟩ := rv
        obtain ⟨m, os, vs, R, hv, ⟨o, ho, hc, _⟩, hlt⟩ := tup_get r e
        exact ⟨_, o, rfl, ho, hc⟩
      · first | exact nn hi | cases hi
      · first | exact nn hi | cases hi
    | _ => first | exact nn hi | cases hi
  split at h
  · rename_i k hk
    split at h
    · split at h
      · cases h; obtain ⟨x, u, rfl⟩ := hint hk ra; exact IsiPair.int_int (r.pst (tk := s.toks) H rfl)
      · cases h; obtain ⟨x, u, rfl⟩ := hstr hk ra; exact IsiPair.str_int (r.pst H rfl)
      · first | exact nn h | cases h
    · split at h
      · cases h; obtain ⟨x, u, rfl⟩ := hint hk ra; exact IsiPair.int_str (r.pst H rfl)
      · cases h; obtain ⟨x, u, rfl⟩ := hstr hk ra; exact IsiPair.str_str (r.pst (tk := s.toks) H rfl)
      · cases h; obtain ⟨x, o, rfl, h1, h2⟩ := htup hk ra; exact IsiPair.tuple_str h1 h2 (r.pst H rfl)
      · first | exact nn h | cases h
    · split at h
      · cases h; obtain ⟨x, u, rfl⟩ := hint hk ra; exact IsiPair.int_tuple (r.pst H rfl)
      · cases h; obtain ⟨x, u, rfl⟩ := hstr hk ra; exact IsiPair.str_tuple (r.pst H rfl)
      · cases h; obtain ⟨x, o, rfl, h1, h2⟩ := htup hk ra; exact IsiPair.tuple_tuple h1 h2 (r.pst (tk := s.toks) H rfl)
      · first | exact nn h | cases h
    · split at h
      · split at h
        · rename_i hm
          cases h; obtain ⟨x, u, rfl⟩ := hstr hk ra
          exact isn_call (P := fun _ => True) X (fun M => Looks.of_pure rfl) (ok.ncls _ (memNat_iff hm)) (by intro q; cases q) trivial str_cls (r.pst H rfl)
        · first | exact nn h | cases h
      · first | exact nn h | cases h
    · first | exact nn h | cases h
  · first | exact nn h | cases h

theorem upL_rep {ρ : Nat → Addr} {n : Nat} (p : Bool) : ∀ (c : Nat) (a : Int) (vs : List Value), vs.length = c → (∀ j v, vs[j]? = some v → ∃ t, v = Value.int (a + (j : Nat) * 1) t) → All2 (RepV ρ n) (upL p a c) vs
  | 0, _, [], _, _ => trivial
  | 0, _, _ :: _, h, _ => by simp at h
  | _ + 1, _, [], h, _ => by simp at h
  | c + 1, a, v :: vs, h, k => by
    refine ⟨?_, upL_rep p c (a + 1) vs (by simpa using h) fun j v hv => ?_⟩
    · obtain ⟨t, e⟩ := k 0 v rfl
      have : v = .int a t := by simpa using e
      rw [this]; exact mkI_rep _ _ _
    · obtain ⟨t, e⟩ := k (j + 1) v (by simpa using hv)
      refine ⟨t, ?_⟩
      rw [e]
      congr 1
      lia
set_option tactic.hygienic true in
theorem strsOf_vals {ρ : Nat → Addr} {n : Nat} : ∀ {xs : List AV} {l : List (Bool × Nm)} {vs : List Value}, strsOf xs = some l → All2 (RepV ρ n) xs vs → ∃ tl : List (Str × Tok), vs = strValues tl ∧ tl.map (·.1) = l.map fun q => stn q.2
  | [], l, [], h, _ => by cases h; exact ⟨[], rfl, rfl⟩
  | [], _, _ :: _, _, h => h.elim
  | _ :: _, _, [], _, h => h.elim
  | a :: xs, l, v :: vs, h, k => by
    unfold strsOf at h
    split at h
    · rename_i q hq
      split at h
      · rename_i r hr
        first | (obtain ⟨rfl, rfl, rfl⟩ := ret_some h) | cases h
        obtain ⟨tl, e1, e2⟩ := strsOf_vals hr k.2
        obtain ⟨t, rfl⟩ := asStr_rep (p := q.1) (x := q.2) hq k.1
        exact ⟨(stn q.2, t) :: tl, by rw [e1]; rfl, by simp [e2]⟩
      · first | exact nn h | cases h
    · first | exact nn h | cases h
theorem sum_len : ∀ l : List (Bool × Nm), ((l.map fun q => stn q.2).map (·.length)).sum = (catL l).length := by
  intro l
  induction l with
  | nil => rfl
  | cons q r ih => simp only [List.map_cons, List.sum_cons, catL, List.length_append, ih, stn_len]
theorem glued_cat : ∀ l : List (Bool × Nm), Builtin.Str.glued ⟨#[]⟩ (l.map fun q => stn q.2) = stn (catL l) := by
  intro l
  rw [StrLaws.glued_eq_join]
  induction l with
  | nil => rfl
  | cons q r ih =>
    induction r with
    | nil => simp [catL, Str.join]
    | cons q' r =>
      have e : ∀ (a b : Str), Str.join ⟨#[]⟩ (a :: b :: (r.map fun q => stn q.2)) = a ++ ⟨#[]⟩ ++ Str.join ⟨#[]⟩ (b :: (r.map fun q => stn q.2)) := fun a b => rfl
      simp only [List.map_cons] at ih ⊢
      rw [e, ih]
      show stn q.2 ++ stn [] ++ _ = _
      rw [stn_append, stn_append, List.append_nil]
      rfl

set_option tactic.hygienic true in
theorem bcall_sound {b : Bi} {vs : List AV} {c : AV} {cvs : List Value} {P : List Prop} {Q : Value → Shared → Prop} {A : Around} (hh : A.handled = none) (h : bcall b vs st = some (c, st', P)) (hP : Ps P) (r : Rel w.params fi fc ρ st s.heap) (ra : All2 (RepV ρ st.n) vs cvs)
    (H : Pst w.params fi fc ρ st st' s (fun ρ' v => RepV ρ' st'.n c v) Q) : wpAny (model prog w) A (call b.val cvs) Q NoE s := by
  cases b with
  | range  =>
    dsimp only [bcall] at h
    split at h
    · rename_i a
      obtain ⟨va, rfl, ra⟩ := All2.one ra
      have ra := ra.1
      split at h
      · rename_i q x ea
        obtain ⟨t, rfl⟩ := asInt_rep ea ra
        refine bnd_el h hP fun _ _ _ _ h1 h2 hP1 hP2 => ?_
        first | (obtain ⟨rfl, rfl, rfl⟩ := ret_some h1) | cases h1
        first | (obtain ⟨rfl, rfl, rfl⟩ := ret_some h2) | cases h2
        have hb := hyc hP1 okI_iff
        refine call_range_1 ?_
        obtain ⟨m, os, R⟩ := r
        have F' := R.F.push { cls := .type "range", data := .fields #[.int 0 s.toks, .int x t, .int 1 (s.toks + 1)] }
        have N' := R.N.push R.F { cls := .type "range", data := .fields #[.int 0 s.toks, .int x t, .int 1 (s.toks + 1)] }
        obtain ⟨R', X'⟩ := R.push (ao := .rng q 0 x) F' N' (fun q hq => Heap.lt_size (R.N q hq).1) ⟨⟨by lia, by lia, hb⟩, _, _, _, rfl⟩
        exact H _ _ _ _ X' ⟨_, _, R'⟩ ⟨Nat.lt_succ_self _, by simp⟩
      · first | exact nn h | cases h
    · rename_i a b
      obtain ⟨va, vb, rfl, ra⟩ := All2.two ra
      have ra1 := ra.1
      have ra2 := ra.2.1
      split at h
      · rename_i q x q2 y ea eb
        obtain ⟨t, rfl⟩ := asInt_rep ea ra1
        obtain ⟨u, rfl⟩ := asInt_rep eb ra2
        refine bnd_el h hP fun _ _ _ _ h1 h2 hP1 hP2 => ?_
        first | (obtain ⟨rfl, rfl, rfl⟩ := ret_some h1) | cases h1
        first | (obtain ⟨rfl, rfl, rfl⟩ := ret_some h2) | cases h2
        obtain ⟨p1, p2⟩ := Ps.append hP1
        have hb := hyc p1 okI_iff
        have hb2 := hyc p2 okI_iff
        refine call_range_2 ?_
        obtain ⟨m, os, R⟩ := r
        have F' := R.F.push { cls := .type "range", data := .fields #[.int x t, .int y u, .int 1 s.toks] }
        have N' := R.N.push R.F { cls := .type "range", data := .fields #[.int x t, .int y u, .int 1 s.toks] }
        obtain ⟨R', X'⟩ := R.push (ao := .rng (both q q2) x y) F' N' (fun q hq => Heap.lt_size (R.N q hq).1) ⟨⟨hb.1, hb.2, hb2⟩, _, _, _, rfl⟩
        exact H _ _ _ _ X' ⟨_, _, R'⟩ ⟨Nat.lt_succ_self _, by simp⟩
      · first | exact nn h | cases h
    · first | exact nn h | cases h
  | list  =>
    dsimp only [bcall] at h
    split at h
    · rename_i k
      obtain ⟨va, rfl, ra⟩ := All2.one ra
      obtain ⟨⟨_, rfl⟩, _⟩ := ra
      split at h
      · rename_i q x y e1
        split at h
        · rename_i cc rr eor
          refine bnd_el h hP fun _ _ _ _ h1 h2 hP1 hP2 => ?_
          first | (obtain ⟨rfl, rfl, rfl⟩ := ret_some h1) | cases h1
          first | (obtain ⟨rfl, rfl, rfl⟩ := ret_some h2) | cases h2
          obtain ⟨m, os, R⟩ := r
          obtain ⟨o, ho, ⟨hb, t, u, v, rfl⟩, hm, hg⟩ := R.get e1 (by intro q; cases q)
          have hc := hP1.1
          refine call_list_range (n := cc) hh hg (small_one hb.1 hb.2.1 hb.2.2.1 hb.2.2.2) (by rw [rangeSize_one]; exact hc) (by have := hP1.2.1; lia) fun h' tk acc' c' hk hS' hacc => ?_
          have N' : News fc.h₀ fc.env.locals h' ((s.heap.objs.size, { cls := .type "list", dict := none, data := .seq acc' c', slots := #[] }) :: (ledF st.sg ρ 0 os ++ fc.rest)) := by
            intro p hp
            rcases List.mem_cons.mp hp with rfl | hp
            · refine ⟨hS', fun q => ?_, ?_⟩
              · have := R.F.ns.lt
                rw [← q] at this
                exact Nat.lt_irrefl _ this
              · cases z : fc.h₀.get? s.heap.objs.size with
                | none => rfl
                | some o => exact absurd (Heap.lt_size (R.F.keep _ _ z)) (Nat.lt_irrefl _)
            · exact ⟨hk _ _ (R.N p hp).1, (R.N p hp).2⟩
          obtain ⟨R', X'⟩ := (R.orc rr st.ov).push (ao := .list none (upL q x cc)) (R.F.keeps hk) N' (fun q hq => Heap.lt_size (R.N q hq).1) ⟨acc'.toList, c', by simp, by
            show All2 _ (upL q x cc) _
            refine upL_rep q cc x _ (by simpa using hacc.1) fun j v hv => hacc.2 j v (by simpa using hv)⟩
          exact H _ _ _ _ X' ⟨_, _, R'⟩ ⟨Nat.lt_succ_self _, by simp⟩
        · first | exact nn h | cases h
      · first | exact nn h | cases h
    · first | exact nn h | cases h
  | abs  =>
    dsimp only [bcall] at h
    split at h
    · rename_i a
      obtain ⟨va, rfl, ra⟩ := All2.one ra
      have ra := ra.1
      split at h
      · rename_i q x ea
        obtain ⟨t, rfl⟩ := asInt_rep ea ra
        first | (obtain ⟨rfl, rfl, rfl⟩ := ret_some h) | cases h
        exact call_abs_int fun u tk => r.pst H (mkI_rep _ _ _)
      · first | exact nn h | cases h
    · first | exact nn h | cases h
  | int  =>
    dsimp only [bcall] at h
    split at h
    · rename_i a
      obtain ⟨va, rfl, ra⟩ := All2.one ra
      have ra := ra.1
      split at h
      · rename_i q ea
        obtain ⟨t, rfl⟩ := asInt_rep (p := q.1) (x := q.2) ea ra
        first | (obtain ⟨rfl, rfl, rfl⟩ := ret_some h) | cases h
        exact call_int_int (r.pst (tk := s.toks) H ra)
      · first | exact nn h | cases h
    · first | exact nn h | cases h
  | join  =>
    dsimp only [bcall] at h
    split at h
    · rename_i k
      obtain ⟨va, vb, rfl, ra⟩ := All2.two ra
      obtain ⟨⟨t, rfl⟩, ⟨_, rfl⟩, _⟩ := ra
      split at h
      · rename_i xs e1
        split at h
        · rename_i l hl
          split at h
          · rename_i hsh
            first | (obtain ⟨rfl, rfl, rfl⟩ := ret_some h) | cases h
            obtain ⟨m, os, us, k1, R, ho, hv, hm, hil, hlt⟩ := list_get r e1
            have hz : (catL l).length ≤ 1000 := hyc hP fun hc => short_le (andB_iff hc).2
            obtain ⟨tl, rfl, htl⟩ := strsOf_vals hl hv
            have hok : Builtin.Str.tooLong ((tl.map (·.1)).toArray.foldl (· + ·.length + (stn []).length) 0) = false := by
              have := StrLaws.joinTotal (stn []) (tl.map (·.1))
              rw [this]
              rw [htl, sum_len, stn_len]
              simp only [Builtin.Str.tooLong, List.length_nil, Nat.mul_zero, Nat.add_zero, decide_eq_false_iff_not, Nat.not_lt, gt_iff_lt]
              rw [sizeL]; lia
            have hq : ∀ (t' : Tok) (tk : Nat), Q (.str (Txt.join (stn []) (tl.map (·.1))) t') { s with toks := tk } := fun t' tk => by
              have e : Txt.join (stn []) (tl.map (·.1)) = stn (catL l) := by rw [htl]; exact glued_cat l
              rw [e]
              exact r.pst H (mkS_rep _ _ _)
            exact call_meets PySem.F.slot_str_join (typeIs_str _ _ _) PySem.F.entry_str_join (PySem.F.args_str_join_2 _ _) (meets_str_join_list (stn []) t (ρ k) tl hok) ⟨hil, post_join tl ⟨joinFit_length hok, hq⟩⟩
          · first | exact nn h | cases h
        · first | exact nn h | cases h
      · first | exact nn h | cases h
    · first | exact nn h | cases h
  | len  =>
    dsimp only [bcall] at h
    split at h
    · rename_i a
      obtain ⟨va, rfl, ra⟩ := All2.one ra
      have ra := ra.1
      split at h
      · rename_i q l ea
        obtain ⟨t, rfl⟩ := asStr_rep ea ra
        first | (obtain ⟨rfl, rfl, rfl⟩ := ret_some h) | cases h
        have hl : l.length < 2 ^ 62 := hyc hP fun hc => by have := short_le (andB_iff hc).2; lia
        refine len_str (by rw [stn_len]; lia) ?_
        rw [stn_len]
        exact r.pst H (mkI_rep _ _ _)
      · split at h
        · rename_i k
          obtain ⟨_, rfl⟩ := ra
          split at h
          · rename_i pre xs e1
            first | (obtain ⟨rfl, rfl, rfl⟩ := ret_some h) | cases h
            obtain ⟨m, os, us, k1, R, ho, hv, hm, hl, hlt⟩ := list_get r e1
            have hz : (itm pre xs).length < 2 ^ 62 := hyc hP fun hc => by have := shortP_le hc; lia
            have hlen := hv.length
            refine len_list hl (by simp only [List.size_toArray]; lia) ?_
            refine r.pst H ?_
            simp only [List.size_toArray, ← hlen]
            induction pre with
            | none => exact ⟨_, rfl⟩
            | some pre => exact ⟨_, by simp [itm]; rfl⟩
          · rename_i xs e1
            first | (obtain ⟨rfl, rfl, rfl⟩ := ret_some h) | cases h
            obtain ⟨m, os, us, R, hv, ht, hlt⟩ := tup_get r e1
            have hz : xs.length < 2 ^ 62 := hyc hP fun hc => by have := short_le hc; lia
            have hlen := hv.length
            refine len_tuple ht (by simp only [List.size_toArray]; lia) ?_
            refine r.pst H ?_
            simp only [List.size_toArray, ← hlen]
            exact ⟨_, rfl⟩
          · first | exact nn h | cases h
        · first | exact nn h | cases h
    · first | exact nn h | cases h
  | append  =>
    dsimp only [bcall] at h
    split at h
    · rename_i k v
      obtain ⟨va, vb, rfl, ra⟩ := All2.two ra
      obtain ⟨⟨_, rfl⟩, rb, _⟩ := ra
      split at h
      · rename_i pre xs e1
        first | (obtain ⟨rfl, rfl, rfl⟩ := ret_some h) | cases h
        obtain ⟨m, os, us, k1, R, ho, hv, hm, hl, hlt⟩ := list_get r e1
        have hz : (itm pre xs).length ≤ sizeLine := hyc hP fun hc => by have := shortP_le hc; rw [sizeL]; lia
        refine append_K R.F R.N (R.upd ho) (fun h' F' N' => ?_) (by simp only [List.size_toArray]; rw [← hv.length]; exact hz)
        exact H ρ h' s.toks _ ⟨Nat.le_refl _, fun _ _ => rfl⟩ ⟨_, _, R.set (a' := .list pre (xs ++ [v])) hlt F' N' ⟨us ++ [vb], k1 + 1, by simp, by rw [itm_append]; exact hv.append ⟨rb, trivial⟩⟩⟩ rfl
      · first | exact nn h | cases h
    · first | exact nn h | cases h
  | pop  =>
    dsimp only [bcall] at h
    split at h
    · rename_i k
      obtain ⟨va, rfl, ra⟩ := All2.one ra
      obtain ⟨⟨_, rfl⟩, _⟩ := ra
      split at h
      · rename_i pre xs e1
        split at h
        · rename_i ys v hpop
          first | (obtain ⟨rfl, rfl, rfl⟩ := ret_some h) | cases h
          obtain ⟨m, os, us, k1, R, ho, hv, hm, hl, hlt⟩ := list_get r e1
          have hz : (itm pre xs).length ≤ sizeLine := hyc hP fun hc => by have := shortP_le hc; rw [sizeL]; lia
          have hlen := hv.length
          rw [popO_spec hpop, itm_append] at hv
          obtain ⟨us', u, rfl, h1, h2⟩ := hv.snoc
          refine kl_pop R.F R.N (p := us') (y := u) (by simpa using kl_last_append us' u) (R.upd ho) (by show (us' ++ [u]).length ≤ _; rw [← hlen]; exact hz) fun h' F' N' => ?_
          exact H ρ h' s.toks _ ⟨Nat.le_refl _, fun _ _ => rfl⟩ ⟨_, _, R.set (a' := .list pre ys) hlt F' N' ⟨us', k1 + 1, rfl, h1⟩⟩ h2
        · first | exact nn h | cases h
      · first | exact nn h | cases h
    · first | exact nn h | cases h
  | reverse  =>
    dsimp only [bcall] at h
    split at h
    · rename_i k
      obtain ⟨va, rfl, ra⟩ := All2.one ra
      obtain ⟨⟨_, rfl⟩, _⟩ := ra
      split at h
      · rename_i xs e1
        first | (obtain ⟨rfl, rfl, rfl⟩ := ret_some h) | cases h
        obtain ⟨m, os, us, k1, R, ho, hv, hm, hl, hlt⟩ := list_get r e1
        have hz : xs.length ≤ sizeLine := hyc hP fun hc => by have := short_le hc; rw [sizeL]; lia
        refine kl_reverse R.F R.N (l := us.reverse) (by simp) (R.upd ho) (by show us.length ≤ _; rw [← hv.length]; exact hz) fun h' F' N' => ?_
        exact H ρ h' s.toks _ ⟨Nat.le_refl _, fun _ _ => rfl⟩ ⟨_, _, R.set (a' := .list none xs.reverse) hlt F' N' ⟨us.reverse, k1, rfl, All2.reverse hv⟩⟩ rfl
      · first | exact nn h | cases h
    · first | exact nn h | cases h
  | extend  =>
    dsimp only [bcall] at h
    split at h
    · rename_i k j
      obtain ⟨va, vb, rfl, ra⟩ := All2.two ra
      obtain ⟨⟨_, rfl⟩, ⟨_, rfl⟩, _⟩ := ra
      split at h
      · rename_i pre xs ys e1 e2
        first | (obtain ⟨rfl, rfl, rfl⟩ := ret_some h) | cases h
        obtain ⟨m, os, us, k1, R, ho, hv, hm, hl, hlt⟩ := list_get r e1
        obtain ⟨hkj, hz⟩ : k ≠ j ∧ (itm pre xs).length + ys.length ≤ sizeLine := hyc hP fun hc => by
          obtain ⟨c1, c2⟩ := andB_iff hc
          have h1 := shortP_le (andB_iff c2).1
          have h2 := short_le (andB_iff c2).2
          refine ⟨fun e => ?_, by rw [sizeL]; lia⟩
          rw [e, Nat.beq_refl] at c1; cases c1
        obtain ⟨o2, ho2, ⟨ws, k2, rfl, hw⟩, hm2, hg2⟩ := R.get e2 (by intro q; cases q)
        have hw : All2 (RepV ρ st.n) ys ws := hw
        have hl1 := hv.length
        have hl2 := hw.length
        have big : ¬ (!us.toArray.isEmpty && Builtin.List.listTooLong (us.toArray.size + ws.toArray.size)) = true := by
          simp only [Builtin.List.listTooLong, List.size_toArray, Bool.and_eq_true, decide_eq_true_eq, not_and]
          intro _; lia
        induction ys with
        | nil =>
          have : ws = [] := List.length_eq_zero_iff.mp hl2.symm
          subst this
          refine kxn_extend R.F R.N hm2 rfl (R.upd ho) big (by show us.length ≤ _; lia) (by simp only [List.size_toArray, List.length_nil]; lia) fun h' F' N' => ?_
          exact H ρ h' s.toks _ ⟨Nat.le_refl _, fun _ _ => rfl⟩ ⟨_, _, R.set (a' := .list pre (xs ++ [])) hlt F' N' ⟨us, k1, rfl, by rw [List.append_nil]; exact hv⟩⟩ rfl
        | cons y ys =>
          refine kl_extend R.F R.N hm2 (l := us ++ ws) (by simp) (by simp only [List.length_cons] at hl2 ⊢; lia) (R.upd ho) big (by show us.length ≤ _; lia) (by simp only [List.size_toArray]; lia) fun h' F' N' => ?_
          exact H ρ h' s.toks _ ⟨Nat.le_refl _, fun _ _ => rfl⟩ ⟨_, _, R.set (a' := .list pre (xs ++ (y :: ys))) hlt F' N' ⟨us ++ ws, k1 + 1, rfl, by rw [itm_append]; exact hv.append hw⟩⟩ rfl
      · first | exact nn h | cases h
    · first | exact nn h | cases h
  | dget  =>
    dsimp only [bcall] at h
    split at h
    · rename_i k x d
      obtain ⟨va, vb, vd, rfl, ra⟩ := All2.three ra
      obtain ⟨⟨_, rfl⟩, ⟨t, rfl⟩, rd, _⟩ := ra
      split at h
      · rename_i es e1
        obtain ⟨m, os, ds, k1, R, ho, hv, nd, hm, hlt, hs⟩ := tab_get r e1
        have find : ∀ {as : List (Nm × AV)} {zs : List DictEntry}, All2 (RepE w.params ρ st.n) as zs →
            (∀ a, look x as = some a → ∃ v, valueAt ((zs.zip as).map fun q => (stn q.2.1, q.1.val)) (stn x) = some v ∧ RepV ρ st.n a v) ∧ (look x as = none → valueAt ((zs.zip as).map fun q => (stn q.2.1, q.1.val)) (stn x) = none) := by
          intro as
          induction as with
          | nil => intro zs h; induction zs with | nil => exact ⟨(fun a h => by cases h), fun _ => rfl⟩ | cons => exact h.elim
          | cons q as ih =>
            intro zs h
            induction zs with
            | nil => exact h.elim
            | cons z zs =>
              obtain ⟨i1, i2⟩ := ih h.2
              unfold look
              cases e : nmEq x q.1 with
              | true =>
                have e1 := nmEq_iff.mp e
                refine ⟨(fun a ha => ⟨z.val, ?_, (by cases ha; exact h.1.2.2)⟩), (fun h => by cases h)⟩
                simp [valueAt, List.zip_cons_cons, e1]
              | false =>
                have hne : stn q.1 ≠ stn x := fun z => nmEq_ff e (stn_inj z).symm
                have hst : valueAt (((z :: zs).zip (q :: as)).map fun q => (stn q.2.1, q.1.val)) (stn x) = valueAt ((zs.zip as).map fun q => (stn q.2.1, q.1.val)) (stn x) := by
                  simp [valueAt, List.zip_cons_cons, hne]
                rw [hst]
                exact ⟨i1, i2⟩
        split at h
        · rename_i v hl
          first | (obtain ⟨rfl, rfl, rfl⟩ := ret_some h) | cases h
          obtain ⟨v', hv', rv⟩ := (find hv).1 _ hl
          exact kdg_get2 R.N hm (tab_is (prog := prog) hv nd) hs (strKind_is prog w (stn x) t) _ hv' (r.pst H rv)
        · rename_i hl
          first | (obtain ⟨rfl, rfl, rfl⟩ := ret_some h) | cases h
          exact kdg_get2 R.N hm (tab_is (prog := prog) hv nd) hs (strKind_is prog w (stn x) t) _ ((find hv).2 hl) (r.pst H rd)
      · first | exact nn h | cases h
    · first | exact nn h | cases h
  | _ => exact nn h

end
end Mine
namespace Mine
open PySem PySem.W PyProof.Rows PySem.Calls PySem.Spec

theorem part_of {ρ : Nat → Addr} {n : Nat} {a : AV} {v : Value} (h : okB a) (r : RepV ρ n a v) : IsPart v (partO a) := by
  induction a with
  | none => obtain rfl := r; exact .none
  | num i => obtain ⟨t, rfl⟩ := r; exact .int i t
  | int i => obtain ⟨t, rfl⟩ := r; exact .int i t
  | _ => exact h.elim
theorem All2.map_get {R : AV → Value → Prop} {xs : List AV} {vs : List Value} (h : All2 R xs vs) : ∀ {is : List Nat} {ys : List AV}, (is.filterMap (xs[·]?)) = ys → All2 R ys (is.filterMap (vs[·]?))
  | [], ys, e => by cases e; trivial
  | i :: is, ys, e => by
    simp only [List.filterMap_cons] at e ⊢
    cases q : xs[i]? with
    | none =>
      have hl := h.length
      have : vs[i]? = none := by rw [List.getElem?_eq_none_iff] at q ⊢; lia
      rw [q] at e; rw [this]
      exact h.map_get e
    | some x =>
      obtain ⟨y, hy, r⟩ := h.get q
      rw [q] at e; rw [hy]
      cases e
      exact ⟨r, h.map_get rfl⟩
theorem pick_rev {α : Type} (xs : List α) : ((List.range xs.length).map fun k => xs.length - 1 - k).filterMap (xs[·]?) = xs.reverse := by
  rw [krv_range, List.filterMap_reverse]
  have := krv_all xs.toArray
  simp only [List.size_toArray, List.getElem?_toArray] at this
  rw [this]
theorem rng_rev (n : Nat) : sliceRange ((n : Int) - 1) (-1) (-1) = (List.range n).map fun k => n - 1 - k := by
  unfold sliceRange
  have hc : (if (-1 : Int) > 0 then (if (n : Int) - 1 < -1 then (-1 - ((n : Int) - 1) + -1 - 1) / -1 else 0) else (if (n : Int) - 1 > -1 then ((n : Int) - 1 - -1 - -1 - 1) / (- -1) else 0)) = n := by
    rw [if_neg (by decide)]
    split
    · show _ / (1 : Int) = _
      rw [Int.ediv_one]; lia
    · lia
  simp only [hc, Int.toNat_natCast]
  apply List.map_congr_left
  intro k hk
  have := List.mem_range.mp hk
  lia
theorem rng_rev0 (n : Nat) : sliceRange ((n : Int) - 1) 0 (-1) = (List.range (n - 1)).map fun k => n - 1 - k := by
  unfold sliceRange
  have hc : (if (-1 : Int) > 0 then (if (n : Int) - 1 < 0 then (0 - ((n : Int) - 1) + -1 - 1) / -1 else 0) else (if (n : Int) - 1 > 0 then ((n : Int) - 1 - 0 - -1 - 1) / (- -1) else 0)) = ((n - 1 : Nat) : Int) := by
    rw [if_neg (by decide)]
    split
    · show _ / (1 : Int) = _
      rw [Int.ediv_one]; omega
    · omega
  simp only [hc, Int.toNat_natCast]
  apply List.map_congr_left
  intro k hk
  have := List.mem_range.mp hk
  omega
theorem pick_rev0 {α : Type} (xs : List α) : ((List.range (xs.length - 1)).map fun k => xs.length - 1 - k).filterMap (xs[·]?) = (xs.drop 1).reverse := by
  induction xs with
  | nil => rfl
  | cons a r =>
    have h := pick_rev r
    simp only [List.length_cons, Nat.add_sub_cancel, List.drop_one, List.tail_cons]
    rw [← h]
    have e : (List.range r.length).map (fun k => r.length - k) = ((List.range r.length).map fun k => r.length - 1 - k).map (· + 1) := by
      rw [List.map_map]
      apply List.map_congr_left
      intro k hk
      have := List.mem_range.mp hk
      simp only [Function.comp]; lia
    rw [e, List.filterMap_map]
    congr 1
theorem bounds_rev (n : Nat) : sliceBounds none none (some (-1)) n = ((n : Int) - 1, -1, -1) := by
  simp [sliceBounds]
theorem bounds_rev0 (n : Nat) : sliceBounds none (some 0) (some (-1)) n = ((n : Int) - 1, (if n = 0 then -1 else 0), -1) := by
  simp only [sliceBounds, Option.getD_some, show ¬ ((-1 : Int) > 0) by decide, if_false, show ¬ ((0 : Int) < 0) by decide]
  congr 1
  congr 1
  split <;> lia

section
variable {prog : Program} {w : World} {K : Frag} {p : Program} {loose : List Str} {mean : ExcName → Option Value} {mg mb : Str → Option Value} {T : PT} {fi : FI} {fc : FC} {ρ : Nat → Addr} {st st' : St} {s : Shared}

set_option tactic.hygienic true in
theorem slc_sound {a lo hi sp c : AV} {va vl vh vs : Value} {value : Expr} {el eu es : Option Expr} {pos : Pos} {P : List Prop} {Q : Value → Shared → Prop} (h : slc a lo hi sp st = some (c, st', P)) (hP : Ps P) (r : Rel w.params fi fc ρ st s.heap)
    (ra : RepV ρ st.n a va) (rl : RepV ρ st.n lo vl) (rh : RepV ρ st.n hi vh) (rs : RepV ρ st.n sp vs) (hes : es = none → sp = .none) (hes2 : sp = .none → es = none)
    (H : Pst w.params fi fc ρ st st' s (fun ρ' v => RepV ρ' st'.n c v) Q) :
    wpAny (model prog w) fc.A (subscriptTail value (.Slice el eu es pos) va (.ref s.heap.objs.size)) Q NoE { s with heap := s.heap.push { cls := .type "slice", data := .fields #[vl, vh, vs] } } := by
  have hgo : ∀ l r, letTemporaryGo (.Name (Str.ofString "x") default) (.ref l) r = pure () := fun _ _ => rfl
  have lt1 : ∀ {m os}, RelAt w.params fi fc ρ st s.heap m os → ∀ q ∈ ledF st.sg ρ 0 os ++ fc.rest, q.1 < s.heap.objs.size + 1 := fun R q hq => Nat.lt_succ_of_lt (Heap.lt_size (R.N q hq).1)
  have X : Ext ρ st.n (fun i => if i = st.n then s.heap.objs.size + 1 else ρ i) (st.n + 1) := ⟨Nat.le_succ _, fun i hi => by simp [Nat.ne_of_lt hi]⟩
  unfold slc at h
  split at h
  · -- no step
    obtain rfl : es = none := hes2 rfl
    obtain rfl := rs
    split at h
    · first | exact nn h | cases h
    · rename_i i hlo
      split at h
      · rename_i q l ea
        split at h
        · rename_i rr hcut
          first | (obtain ⟨rfl, rfl, rfl⟩ := ret_some h) | cases h
          obtain ⟨q1, q2⟩ := Ps.append hP
          obtain ⟨q2, q3⟩ := Ps.append q2
          have o1 := hyc q1 okBB_iff
          have o2 := hyc q2 okBB_iff
          have hz := hyc q3 fun hc => by have := short_le (andB_iff hc).2; rw [sizeL]; lia
          obtain ⟨t, rfl⟩ := asStr_rep ea ra
          obtain ⟨m, os, R⟩ := id r
          have e := txt_slice hlo hcut o1 o2
          have fin : ∀ (h' : Heap) (t' : Tok) (k : Nat), Fr fc.h₀ fc.env.locals h' m → News fc.h₀ fc.env.locals h' (ledF st.sg ρ 0 os ++ fc.rest) → Q (.str (Txt.slice (stn l) (partO lo) (partO hi)) t') { s with heap := h', toks := k } := fun h' t' k F' N' => by
            rw [e]
            exact H ρ h' k _ Ext.refl ⟨m, os, R.heap F' N'⟩ (mkS_rep _ _ _)
          have hz' : (stn l).length ≤ sizeLine := by rw [stn_len]; exact hz
          have hv : ∀ r, letTemporaryGo value (.str (stn l) t) r = pure () := fun r => by cases value <;> rfl
          have p1 := part_of o1 rl
          have p2 := part_of o2 rh
          revert fin
          generalize partO lo = x at p1
          generalize partO hi = y at p2
          intro fin
          cases p1 <;> cases p2
          · exact slice_strN_nn R.F R.N fin rfl hv hz'
          · exact slice_strN_ns R.F R.N fin rfl hv hz'
          · exact slice_strN_sn R.F R.N fin rfl hv hz'
          · exact slice_strN_ss R.F R.N fin rfl hv hz'
        · first | exact nn h | cases h
      · split at h
        · rename_i k
          obtain ⟨_, rfl⟩ := ra
          split at h
          · rename_i xs e1
            split at h
            · rename_i rr hcut
              refine bnd_el h hP fun _ _ _ _ h1 h2 hP1 hP2 => ?_
              first | (obtain ⟨rfl, rfl, rfl⟩ := ret_some h1) | cases h1
              first | (obtain ⟨rfl, rfl, rfl⟩ := ret_some h2) | cases h2
              obtain ⟨q1, q2⟩ := Ps.append hP1
              obtain ⟨q2, q3⟩ := Ps.append q2
              have o1 := hyc q1 okBB_iff
              have o2 := hyc q2 okBB_iff
              have hz := hyc q3 fun hc => by have := short_le hc; lia
              obtain ⟨m, os, us, k1, R, ho, hv, hm, hl, hlt⟩ := list_get r e1
              have hlen := hv.length
              have hv : All2 (RepV ρ st.n) xs us := hv
              have hlen : xs.length = us.length := hlen
              obtain ⟨a0, b0, hb, hr⟩ := bounds_cut hlo hcut o1 o2
              have hpick : slicePick us.toArray (partO lo) (partO hi) none = ((us.drop a0).take (b0 - a0)).toArray := by
                rw [kmk_pick_nat (a := a0) (b := b0) us.toArray (by simpa [← hlen] using hb)]
              refine kba_turn (value' := .Name (Str.ofString "x") default) (hgo _) (slice_list R.F R.N hl (part_of o1 rl) (part_of o2 rh) (fun h' F' N' => ?_) rfl (hgo _) (by simp only [List.size_toArray]; rw [sizeL]; lia))
              rw [hpick] at N'
              obtain ⟨R', X'⟩ := R.push (ao := .list none rr) F' N' (lt1 R) ⟨_, 0, rfl, by
                show All2 _ rr _
                rw [← hr]
                exact ((hv.drop a0).take (b0 - a0)).mono fun _ _ _ q => q.ext X⟩
              exact H _ h' s.toks _ X' ⟨_, _, R'⟩ ⟨Nat.lt_succ_self _, by simp⟩
            · first | exact nn h | cases h
          · first | exact nn h | cases h
        · first | exact nn h | cases h
  · -- a step
    rename_i i
    split at h
    · rename_i hi1
      have hi1 : i = -1 := by simpa using hi1
      subst hi1
      obtain ⟨u, rfl⟩ := rs
      have hne : es ≠ none := fun q => by have := hes q; cases this
      obtain ⟨e0, rfl⟩ := Option.ne_none_iff_exists'.mp hne
      split at h
      · rename_i k
        obtain ⟨_, rfl⟩ := ra
        split at h
        · rename_i xs e1
          obtain ⟨m, os, us, k1, R, ho, hv, hm, hl, hlt⟩ := list_get r e1
          have hlen := hv.length
          have hv : All2 (RepV ρ st.n) xs us := hv
          have hlen : xs.length = us.length := hlen
          split at h
          · refine bnd_el h hP fun _ _ _ _ h1 h2 hP1 hP2 => ?_
            first | (obtain ⟨rfl, rfl, rfl⟩ := ret_some h1) | cases h1
            first | (obtain ⟨rfl, rfl, rfl⟩ := ret_some h2) | cases h2
            obtain rfl := rl
            obtain rfl := rh
            have hz : xs.length < 2 ^ 20 := hyc hP1 fun hc => by have := short_le hc; lia
            refine kba_turn (value' := .Name (Str.ofString "x") default) (hgo _) (slice_list3 (ops := [.ref (ρ k), .ref s.heap.objs.size]) R.F R.N hl .none .none (.int (-1) u) (by intro q; cases q) (fun h' F' N' => ?_) rfl (hgo _) (by simp only [List.size_toArray]; rw [sizeL]; lia))
            have hpick : slicePick us.toArray none none (some (-1)) = us.reverse.toArray := by
              unfold slicePick
              rw [List.size_toArray, bounds_rev, rng_rev]
              have := pick_rev us
              simpa using this
            rw [hpick] at N'
            obtain ⟨R', X'⟩ := R.push (ao := .list none xs.reverse) F' N' (lt1 R) ⟨_, 0, rfl, (All2.reverse hv).mono fun _ _ _ q => q.ext X⟩
            exact H _ h' s.toks _ X' ⟨_, _, R'⟩ ⟨Nat.lt_succ_self _, by simp⟩
          · refine bnd_el h hP fun _ _ _ _ h1 h2 hP1 hP2 => ?_
            first | (obtain ⟨rfl, rfl, rfl⟩ := ret_some h1) | cases h1
            first | (obtain ⟨rfl, rfl, rfl⟩ := ret_some h2) | cases h2
            obtain rfl := rl
            obtain ⟨u2, rfl⟩ := rh
            have hz : xs.length < 2 ^ 20 := hyc hP1 fun hc => by have := short_le hc; lia
            refine kba_turn (value' := .Name (Str.ofString "x") default) (hgo _) (slice_list3 (ops := [.ref (ρ k), .ref s.heap.objs.size]) R.F R.N hl .none (.int 0 u2) (.int (-1) u) (by intro q; cases q) (fun h' F' N' => ?_) rfl (hgo _) (by simp only [List.size_toArray]; rw [sizeL]; lia))
            have hpick : slicePick us.toArray none (some 0) (some (-1)) = (us.drop 1).reverse.toArray := by
              unfold slicePick
              rw [List.size_toArray, bounds_rev0]
              have e2 : sliceRange ((us.length : Int) - 1) (if us.length = 0 then -1 else 0) (-1) = (List.range (us.length - 1)).map fun k => us.length - 1 - k := by
                split
                · rename_i q; rw [q]; rfl
                · exact rng_rev0 _
              simp only [e2]
              have := pick_rev0 us
              simpa using this
            have N'' : News fc.h₀ fc.env.locals h' ((s.heap.objs.size + 1, { cls := .type "list", data := .seq (us.drop 1).reverse.toArray }) :: (ledF st.sg ρ 0 os ++ fc.rest)) := by
              rw [← hpick]; exact N'
            obtain ⟨R', X'⟩ := R.push (ao := .list none (xs.drop 1).reverse) F' N'' (lt1 R) ⟨_, 0, rfl, (All2.reverse (hv.drop 1)).mono fun _ _ _ q => q.ext X⟩
            exact H _ h' s.toks _ X' ⟨_, _, R'⟩ ⟨Nat.lt_succ_self _, by simp⟩
          · first | exact nn h | cases h
        · first | exact nn h | cases h
      · first | exact nn h | cases h
    · first | exact nn h | cases h
  · first | exact nn h | cases h
set_option tactic.hygienic true in
theorem slcS_sound (O : FrOk K p loose mean mg mb fi fc) {a lo hi sp c : AV} {va vl vh vs : Value} {value : Expr} {el eu es : Option Expr} {pos : Pos} {P : List Prop} {Q : Value → Shared → Prop} (h : slcS fi a lo hi sp st = some (c, st', P)) (hP : Ps P) (r : Rel w.params fi fc ρ st s.heap)
    (ra : RepV ρ st.n a va) (rl : RepV ρ st.n lo vl) (rh : RepV ρ st.n hi vh) (rs : RepV ρ st.n sp vs) (hes : es = none → sp = .none) (hes2 : sp = .none → es = none)
    (H : Pst w.params fi fc ρ st st' s (fun ρ' v => RepV ρ' st'.n c v) Q) :
    wpAny (model prog w) fc.A (subscriptTail value (.Slice el eu es pos) va (.ref s.heap.objs.size)) Q NoE { s with heap := s.heap.push { cls := .type "slice", data := .fields #[vl, vh, vs] } } := by
  have hgo : ∀ l r, letTemporaryGo (.Name (Str.ofString "x") default) (.ref l) r = pure () := fun _ _ => rfl
  have lt1 : ∀ {m os}, RelAt w.params fi fc ρ st s.heap m os → ∀ q ∈ ledF st.sg ρ 0 os ++ fc.rest, q.1 < s.heap.objs.size + 1 := fun R q hq => Nat.lt_succ_of_lt (Heap.lt_size (R.N q hq).1)
  have X : Ext ρ st.n (fun i => if i = st.n then s.heap.objs.size + 1 else ρ i) (st.n + 1) := ⟨Nat.le_succ _, fun i hi => by simp [Nat.ne_of_lt hi]⟩
  unfold slcS at h
  split at h
  · rename_i k
    split at h
    · rename_i b xs hb
      split at h
      · first | exact nn h | cases h
      · rename_i i hlo
        split at h
        · rename_i rr hcut
          refine bnd_el h hP fun _ _ _ _ h1 h2 hP1 hP2 => ?_
          first | (obtain ⟨rfl, rfl, rfl⟩ := ret_some h1) | cases h1
          first | (obtain ⟨rfl, rfl, rfl⟩ := ret_some h2) | cases h2
          obtain ⟨q0, hP1⟩ := hP1
          subst q0
          obtain ⟨q1, q2⟩ := Ps.append hP1
          obtain ⟨q2, q3⟩ := Ps.append q2
          have o1 := hyc q1 okBB_iff
          have o2 := hyc q2 okBB_iff
          have hz := q3.1
          obtain rfl : es = none := hes2 rfl
          obtain rfl := rs
          obtain ⟨rfl, _⟩ := ra
          obtain ⟨us, hl0, hv0⟩ := O.scr _ _ hb
          obtain ⟨m, os, R⟩ := r
          have hv : All2 (RepV ρ st.n) xs us := hv0 ρ st.n
          have hl : s.heap.IsList k us.toArray := by
            obtain ⟨o, ho, h1, h2⟩ := hl0
            exact ⟨o, R.F.keep _ _ ho, h1, h2⟩
          have hlen : xs.length = us.length := hv.length
          obtain ⟨a0, b0, hb, hr⟩ := bounds_cut hlo hcut o1 o2
          have hpick : slicePick us.toArray (partO lo) (partO hi) none = ((us.drop a0).take (b0 - a0)).toArray := by
            rw [kmk_pick_nat (a := a0) (b := b0) us.toArray (by simpa [← hlen] using hb)]
          refine kba_turn (value' := .Name (Str.ofString "x") default) (hgo _) (slice_list R.F R.N hl (part_of o1 rl) (part_of o2 rh) (fun h' F' N' => ?_) rfl (hgo _) (by simp only [List.size_toArray]; rw [sizeL]; lia))
          rw [hpick] at N'
          obtain ⟨R', X'⟩ := R.push (ao := .list none rr) F' N' (lt1 R) ⟨_, 0, rfl, by
            show All2 _ rr _
            rw [← hr]
            exact ((hv.drop a0).take (b0 - a0)).mono fun _ _ _ q => q.ext X⟩
          exact H _ h' s.toks _ X' ⟨_, _, R'⟩ ⟨Nat.lt_succ_self _, by simp⟩
        · first | exact nn h | cases h
    · first | exact nn h | cases h
  · exact slc_sound h hP r ra rl rh rs hes hes2 H
end
end Mine
namespace Mine
open PySem PySem.W PyProof.Rows PySem.Calls PySem.Spec

noncomputable def Room2 (D n : Nat) (A : Around) : Prop := A.depth + 2 * n ≤ D ∧ A.units + 10 * n ≤ 10 * D
theorem Room2.step {D n : Nat} {A : Around} (h : Room2 D (n + 1) A) : Room2 D n A := ⟨by have := h.1; lia, by have := h.2; lia⟩

structure FnRec (K : Frag) (f : Addr) (g : FnI) : Prop where
  ex : ∃ oc od name qual params dV kV doc pm an cdv ct osl, K.lookup f = some ⟨oc, od, .func (fnOf name qual params g.body g.sc dV kV doc pm an cdv ct), osl⟩ ∧ codeIn K cdv qual = true ∧
    ∀ vs : List Value, vs.length = g.ps.length → bindArgs (fnOf name qual params g.body g.sc dV kV doc pm an cdv ct) ⟨vs, []⟩ = pure ((g.ps.map stn).zip vs)
  loc : ∀ x ∈ g.ps, g.sc.names.lookup (stn x) = some .local
  nd : g.ps.Nodup
  co : g.sc.isCoroutine = false
  gen : g.sc.isGenerator = false
  kind : g.sc.kind = .function
  cell : ∀ x ∈ g.sc.names, x.2 ≠ .cell

noncomputable def RepF (ρ : Nat → Addr) (n : Nat) : AFl → Flow → Prop
  | .next, f => f = .next
  | .brk, f => f = .brk
  | .cont, f => f = .cont
  | .ret a, f => ∃ v, f = .ret v ∧ RepV ρ n a v

section
variable (prog : Program) (w : World) (K : Frag) (p : Program) (loose : List Str) (mean : ExcName → Option Value) (mg mb : Str → Option Value) (T : PT) (D : Nat)

noncomputable def SndExt : Prop := ∀ a k, T.ext a = some k → ∀ fi fc vs st b st' P, k vs st = some (b, st', P) → Ps P → FrOk K p loose mean mg mb fi fc → fi.own = true → Room2 D 0 fc.A →
  ∀ ρ s cvs Q, Rel w.params fi fc ρ st s.heap → All2 (RepV ρ st.n) vs cvs → Pst w.params fi fc ρ st st' s (fun ρ' v => RepV ρ' st'.n b v) Q → wpAny (model prog w) fc.A (call (.ref a) cvs) Q NoE s
structure PTOk3 : Prop extends PTOk2 K T where
  fns : ∀ f g, lookN f T.fns = some g → FnRec K f g
  ext : SndExt prog w K p loose mean mg mb T D
  big : D ≤ 900

structure Snd (n : Nat) (I : Evs) : Prop where
  e : ∀ fi fc x st a st' P, I.e fi x st = some (a, st', P) → Ps P → FrOk K p loose mean mg mb fi fc → Room2 D n fc.A → ∀ ρ s Q, Rel w.params fi fc ρ st s.heap →
    Pst w.params fi fc ρ st st' s (fun ρ' v => RepV ρ' st'.n a v) Q → wpAny (model prog w) fc.A (eval x fc.env) Q NoE s
  es : ∀ fi fc xs st a st' P, I.es fi xs st = some (a, st', P) → Ps P → FrOk K p loose mean mg mb fi fc → Room2 D n fc.A → ∀ ρ s Q pos, Rel w.params fi fc ρ st s.heap →
    Pst w.params fi fc ρ st st' s (fun ρ' v => All2 (RepV ρ' st'.n) a v) Q → wpAny (model prog w) fc.A (spliced (backTo pos (starEach xs fc.env))) Q NoE s
  b : ∀ fi fc x st a st' P, I.b fi x st = some (a, st', P) → Ps P → FrOk K p loose mean mg mb fi fc → Room2 D n fc.A → ∀ ρ s Q, Rel w.params fi fc ρ st s.heap →
    Pst w.params fi fc ρ st st' s (fun _ v => v = a) Q → wpAny (model prog w) fc.A (isTrue x fc.env (eval x fc.env)) Q NoE s
  s : ∀ fi fc x st a st' P, I.s fi x st = some (a, st', P) → Ps P → FrOk K p loose mean mg mb fi fc → Room2 D n fc.A → ∀ ρ s Q, Rel w.params fi fc ρ st s.heap →
    Pst w.params fi fc ρ st st' s (fun ρ' v => RepF ρ' st'.n a v) Q → wpAny (model prog w) fc.A (exec x fc.env) Q NoE s
  ss : ∀ fi fc xs st a st' P, I.ss fi xs st = some (a, st', P) → Ps P → FrOk K p loose mean mg mb fi fc → Room2 D n fc.A → ∀ ρ s Q, Rel w.params fi fc ρ st s.heap →
    Pst w.params fi fc ρ st st' s (fun ρ' v => RepF ρ' st'.n a v) Q → wpAny (model prog w) fc.A (execs xs fc.env) Q NoE s
  call : ∀ fi fc own f vs st a st' P, I.call own f vs st = some (a, st', P) → Ps P → FrOk K p loose mean mg mb fi fc → (own = true → fi.own = true) → Room2 D n fc.A → ∀ ρ s cvs Q, Rel w.params fi fc ρ st s.heap → All2 (RepV ρ st.n) vs cvs →
    Pst w.params fi fc ρ st st' s (fun ρ' v => RepV ρ' st'.n a v) Q → wpAny (model prog w) fc.A (call f.val cvs) Q NoE s
  asg : ∀ fi fc t a st st' P, I.asg fi t a st = some ((), st', P) → Ps P → FrOk K p loose mean mg mb fi fc → Room2 D n fc.A → ∀ ρ s v Q, Rel w.params fi fc ρ st s.heap → RepV ρ st.n a v →
    Pst w.params fi fc ρ st st' s (fun _ _ => True) Q → wpAny (model prog w) fc.A (assign t fc.env v) Q NoE s
  asgs : ∀ fi fc ts as st st' P, I.asgs fi ts as st = some ((), st', P) → Ps P → FrOk K p loose mean mg mb fi fc → Room2 D n fc.A → ∀ ρ s vs Q, Rel w.params fi fc ρ st s.heap → All2 (RepV ρ st.n) as vs →
    Pst w.params fi fc ρ st st' s (fun _ _ => True) Q → wpAny (model prog w) fc.A (assignInOrder (ts.map fun t => assign t fc.env) vs) Q NoE s
  wh : ∀ fi fc t b st a st' P, I.wh fi t b st = some (a, st', P) → Ps P → FrOk K p loose mean mg mb fi fc → Room2 D n fc.A → ∀ ρ s Q k, Rel w.params fi fc ρ st s.heap →
    Pst w.params fi fc ρ st st' s (fun ρ' v => RepF ρ' st'.n a v) Q → WhlRest prog w fc.A NoE fc.env t b [] Q k s
  fr : ∀ fi fc t k b st a st' P, I.fr fi t k b st = some (a, st', P) → Ps P → FrOk K p loose mean mg mb fi fc → Room2 D n fc.A → ∀ ρ s Q, Rel w.params fi fc ρ st s.heap →
    Pst w.params fi fc ρ st st' s (fun ρ' v => RepF ρ' st'.n a v) Q → codeAny (model prog w) fc.A (.forLoop t (.ref (ρ k)) b [] fc.env) (fun r s' => match r with | .ok f => Q f s' | .error _ => False) s
  ts : ∀ fi fc xs st a st' P, I.ts fi xs st = some (a, st', P) → Ps P → FrOk K p loose mean mg mb fi fc → Room2 D n fc.A → ∀ ρ s Q, Rel w.params fi fc ρ st s.heap →
    Pst w.params fi fc ρ st st' s (fun _ v => v = a) Q → wpAny (model prog w) fc.A (forIn xs true fun c r => if r = true then do let ok ← isTrue c fc.env (eval c fc.env); pure (ForInStep.yield ok) else pure (ForInStep.yield r)) Q NoE s
  cp : ∀ fi fc t elt ifs k j st st' P, I.cp fi t elt ifs k j st = some ((), st', P) → Ps P → FrOk K p loose mean mg mb fi fc → Room2 D n fc.A → ∀ ρ s Q iter sc pos, Rel w.params fi fc ρ st s.heap → j < st.n →
    Pst w.params fi fc ρ st st' s (fun _ _ => True) Q → codeAny (model prog w) fc.A (.compLoop (.ListComp elt [⟨t, iter, ifs, 0⟩] sc pos) 0 (.ref (ρ k)) (.ref (ρ j)) fc.env) (fun r s' => match r with | .ok _ => Q () s' | .error _ => False) s
end

section
variable {prog : Program} {w : World} {K : Frag} {p : Program} {loose : List Str} {mean : ExcName → Option Value} {mg mb : Str → Option Value} {T : PT} {D n : Nat} {I : Evs} {fi : FI} {fc : FC} {ρ : Nat → Addr} {st st' : St} {s : Shared}

theorem passesNo (M : Model) (A : Around) (env : Env) : PassesOwn M A env NoE := fun _ _ h => h.elim
theorem truthy_bool {A : Around} {v : Value} {c : Bool} {m : Nat} {Q : Bool → Shared → Prop} (r : RepV ρ m (.bool c) v) (h : Q c s) : wpAny (model prog w) A (truthy v) Q NoE s := by
  obtain rfl := r
  exact wpAny_truthy_bool h
theorem FrOk.In (O : FrOk K p loose mean mg mb fi fc) (r : Rel w.params fi fc ρ st s.heap) : K.In s.heap := by
  obtain ⟨m, os, R⟩ := r
  exact O.X.keeps R.F.keep

/-- a table's or a class's thing is called: who keeps what -/
theorem keeper_of {M : Model} {f : Fn} (hf : FnOk K f) (h : Heap) (X : K.In h) : ∃ k, (k = Keeper.frame ∨ k = Keeper.machine ∨ k = Keeper.boundFrame) ∧ Looks M h (keeperOf f.val) k := by
  cases f with
  | fn a => exact keeps_K hf h X
  | bi b => exact ⟨.machine, .inr (.inl rfl), by cases b <;> exact Looks.of_pure rfl⟩
theorem starEach_cons {e : Expr} {r : List Expr} {env : Env} (h : noStar e = true) : starEach (e :: r) env = (false, eval e env) :: starEach r env := by
  cases e <;> first | rfl | cases h
theorem starEach_no : ∀ {xs : List Expr} {env : Env} {pos : Pos}, xs.all noStar = true → ((backTo pos (starEach xs env)).any fun x => x.1) = false
  | [], _, _, _ => rfl
  | e :: r, env, pos, h => by
    simp only [List.all_cons, Bool.and_eq_true] at h
    rw [starEach_cons h.1]
    show (false || (backTo pos (starEach r env)).any fun x => x.1) = false
    rw [Bool.false_or]; exact starEach_no h.2
set_option tactic.hygienic true in
/-- a call with plain arguments -/
theorem callWith_sound (S : Snd prog w K p loose mean mg mb D n I) {f : Fn} {first : List Value} {args : List Expr} {vs : List AV} {st1 : St} {P1 : List Prop} {pos : Pos} {Q : Value → Shared → Prop} (O : FrOk K p loose mean mg mb fi fc) (B : Room2 D n fc.A)
    (r : Rel w.params fi fc ρ st s.heap) (hf : FnOk K f) (h : argsE I fi args st = some (vs, st1, P1)) (hP : Ps P1)
    (H : Pst w.params fi fc ρ st st1 s (fun ρ' cvs => All2 (RepV ρ' st1.n) vs cvs) fun cvs s₁ => wpAny (model prog w) fc.A (call f.val (first ++ cvs)) Q NoE s₁) :
    wpAny (model prog w) fc.A (callWith pos f.val first (backTo pos (starEach args fc.env)) []) Q NoE s := by
  induction args with
  | nil =>
    first | (obtain ⟨rfl, rfl, rfl⟩ := ret_some h) | cases h
    have z := H.of (h' := s.heap) (tk := s.toks) (v := []) rfl r trivial
    exact callWith_of (P := K.In) rfl (keeper_of hf) (evalArgs_nil3 ⟨O.In r, z⟩)
  | cons e r' =>
    have h : (match (e :: r').all noStar with | true => I.es fi (e :: r') st | false => none) = some (vs, st1, P1) := h
    split at h
    · rename_i hns
      refine callWith_of (P := K.In) (by rw [starEach_no hns]; rfl) (keeper_of hf) ?_
      have h1 := S.es _ _ _ _ _ _ _ h hP O B ρ s (fun cvs s₁ => K.In s₁.heap ∧ wpAny (model prog w) fc.A (call f.val (first ++ cvs)) Q NoE s₁) pos r
        (fun ρ' h' tk cvs X r1 q => ⟨O.In (s := { s with heap := h', toks := tk }) r1, H ρ' h' tk cvs X r1 q⟩)
      simp only [List.all_cons, Bool.and_eq_true] at hns
      rw [starEach_cons hns.1] at h1 ⊢
      exact evalArgs_plain h1
    · first | exact nn h | cases h
theorem subscripted_plain {i : Expr} (h : ∀ l u s p, i ≠ .Slice l u s p) (o k : Value) : subscripted i false o k = operate [o, k] (getItem o k) := by
  cases i <;> first | rfl | exact absurd rfl (h _ _ _ _)
theorem baseOf {o : Expr} {x : Str} {env : Env} {t : Sem Value} (h : plainO o = true) : attributeBase o x env t = t := by
  induction o using PySem.Expr.casesOn with
  | Name | Attribute | Subscript | Constant => rfl
  | Call f args kw p =>
    induction f using PySem.Expr.casesOn with
    | Name => induction args with
      | nil => exact Bool.noConfusion h
      | cons => rfl
    | Attribute => rfl
    | _ => exact Bool.noConfusion h
  | _ => exact Bool.noConfusion h
theorem optE_sound (S : Snd prog w K p loose mean mg mb D n I) {x : Option Expr} {a : AV} {P : List Prop} (h : optE I fi x st = some (a, st', P)) (hP : Ps P) (O : FrOk K p loose mean mg mb fi fc) (B : Room2 D n fc.A) {Q : Value → Shared → Prop}
    (r : Rel w.params fi fc ρ st s.heap) (H : Pst w.params fi fc ρ st st' s (fun ρ' v => RepV ρ' st'.n a v) Q) : wpAny (model prog w) fc.A (evalPart x fc.env) Q NoE s := by
  induction x with
  | none => cases h; exact wpAny_pure (r.pst (tk := s.toks) H rfl)
  | some e => exact S.e _ _ _ _ _ _ _ h hP O B ρ s Q r H
theorem optE_none {x : Option Expr} {a : AV} {P : List Prop} (h : optE I fi x st = some (a, st', P)) : x = none → a = .none := by
  rintro rfl; cases h; rfl

theorem all_star : ∀ {xs : List Expr} {env : Env} {pos : Pos}, xs.all noStar = true → ((backTo pos (starEach xs env)).all fun x => !x.1) = true
  | [], _, _, _ => rfl
  | e :: r, env, pos, h => by
    simp only [List.all_cons, Bool.and_eq_true] at h
    rw [starEach_cons h.1]
    show (!false && (backTo pos (starEach r env)).all fun x => !x.1) = true
    rw [all_star h.2]; rfl
theorem few_of {args : List Expr} {vs : List AV} {st1 : St} {P1 : List Prop} {pos : Pos} {env : Env} (h : argsE I fi args st = some (vs, st1, P1)) (hl : args.length ≤ 20) : methodCallForm (args.length + 0) (backTo pos (starEach args env)) [] = true := by
  have hns : args.all noStar = true := by
    induction args with
    | nil => rfl
    | cons e r' =>
      have h : (match (e :: r').all noStar with | true => I.es fi (e :: r') st | false => none) = some (vs, st1, P1) := h
      split at h
      · assumption
      · first | exact nn h | cases h
  unfold methodCallForm
  rw [all_star hns]
  simp
  lia
theorem methodCall_eq {o : Expr} {name : Str} {apos pos : Pos} {env : Env} {args : List Expr} (hpo : plainO o = true) (hpos : Nat.beq apos.endLine pos.line = true) (few : methodCallForm (args.length + 0) (backTo pos (starEach args env)) [] = true) :
    eval (.Call (.Attribute o name apos) args [] pos) env = (do
      let ov ← eval o env
      standAt apos.atName
      let (f, first) ← holding [ov] (getMethod ov name (do return (← importBound o env).getD true))
      callWith pos f first (backTo pos (starEach args env)) []) := by
  rw [arm_eval_Call, baseOf hpo]
  unfold methodCall
  have e1 : methodCallForm (args.length + ([] : List Keyword).length) (backTo pos (starEach args env)) (backToKw pos (keywordEach [] env)) = true := few
  have e2 : (apos.endLine == pos.line) = true := by
    have := Nat.eq_of_beq_eq_true hpos
    simpa using this
  rw [e1]
  simp only [calleeOf, methodCallPos, e2, if_true, Bool.not_true, Bool.false_or]
  rfl
theorem Snd.je (S : Snd prog w K p loose mean mg mb D n I) (O : FrOk K p loose mean mg mb fi fc) (B : Room2 D n fc.A) {L : List AV} {V : List Value} (x : Expr) : J w fi fc L V (I.e fi x) RepV (fun Q s => wpAny (model prog w) fc.A (eval x fc.env) Q NoE s) :=
  fun _ _ _ _ h hP ρ s Q r _ H => S.e _ _ _ _ _ _ _ h hP O B ρ s Q r H
theorem Snd.jb (S : Snd prog w K p loose mean mg mb D n I) (O : FrOk K p loose mean mg mb fi fc) (B : Room2 D n fc.A) {L : List AV} {V : List Value} (x : Expr) : J w fi fc L V (I.b fi x) rB (fun Q s => wpAny (model prog w) fc.A (isTrue x fc.env (eval x fc.env)) Q NoE s) :=
  fun _ _ _ _ h hP ρ s Q r _ H => S.b _ _ _ _ _ _ _ h hP O B ρ s Q r H
theorem Snd.jes (S : Snd prog w K p loose mean mg mb D n I) (O : FrOk K p loose mean mg mb fi fc) (B : Room2 D n fc.A) {L : List AV} {V : List Value} (x : List Expr) (pos : Pos) : J w fi fc L V (I.es fi x) rL (fun Q s => wpAny (model prog w) fc.A (spliced (backTo pos (starEach x fc.env))) Q NoE s) :=
  fun _ _ _ _ h hP ρ s Q r _ H => S.es _ _ _ _ _ _ _ h hP O B ρ s Q pos r H
theorem unitsB (ok : PTOk3 prog w K p loose mean mg mb T D) (B : Room2 D (n + 1) fc.A) : fc.A.units + 64 < cLine := by have := B.2; have := ok.big; show _ < 9900; lia
theorem cmpJ (ok : PTOk3 prog w K p loose mean mg mb T D) (O : FrOk K p loose mean mg mb fi fc) (B : Room2 D (n + 1) fc.A) {op : CmpOp} {a b : AV} {va vb : Value} {L : List AV} {V : List Value} :
    J w fi fc (b :: a :: L) (vb :: va :: V) (cmp T op a b) RepV (fun Q s => wpAny (model prog w) fc.A (compareOp op va vb) Q NoE s) := cmpJ0 ok.toPTOk (fun _ _ _ r => O.In r) (unitsB ok B)
theorem truthyJ {α β : Type} {c : Bool} {v : Value} {L : List AV} {V : List Value} {ev : St → Rr α} {R : (Nat → Addr) → Nat → α → β → Prop} {wp2 : Bool → (β → Shared → Prop) → Shared → Prop} (h : J w fi fc (.bool c :: L) (v :: V) ev R (wp2 c)) :
    J w fi fc (.bool c :: L) (v :: V) ev R (fun Q s => wpAny (model prog w) fc.A (truthy v) (fun c s2 => wp2 c Q s2) NoE s) :=
  fun _ _ _ _ e hP _ _ _ r cc H => truthy_bool cc.1 (h _ _ _ _ e hP _ _ _ r cc H)
theorem listJ {vs : List AV} {cvs : List Value} : J w fi fc vs cvs (fun st => match short 100 vs with | true => alloc (.list none vs) st | false => none) RepV (fun Q s => wpAny (model prog w) fc.A (newList cvs) Q NoE s) :=
  J.only fun hs _ _ _ _ e _ _ _ _ r c H => by
    obtain ⟨rfl, rfl, rfl⟩ := ret_some e
    exact alloc_list r (xs := vs) (pre := none) c (by have := short_le hs; have := c.length; rw [sizeL]; lia) H
theorem tupJ {vs : List AV} {cvs : List Value} : J w fi fc vs cvs (fun st => match short 100 vs with | true => alloc (.tup vs) st | false => none) RepV (fun Q s => wpAny (model prog w) fc.A (newTuple cvs) Q NoE s) :=
  J.only fun hs _ _ _ _ e _ _ _ _ r c H => by
    obtain ⟨rfl, rfl, rfl⟩ := ret_some e
    exact alloc_tup r c (by have := short_le hs; have := c.length; rw [sizeL]; lia) H
theorem dictJ (O : FrOk K p loose mean mg mb fi fc) {pos : Pos} : J w fi fc [] [] (fun st => alloc (.tab []) st) RepV (fun Q s => wpAny (model prog w) fc.A (eval (.Dict [] [] pos) fc.env) Q NoE s) := fun _ _ _ _ e _ _ s _ r _ H => by
  obtain ⟨rfl, rfl, rfl⟩ := ret_some e
  obtain ⟨m, os, R⟩ := r
  refine newDict_K (w := w) R.F R.N O.T.nolimit fun d h' o F' N' lt lo hd _ _ _ => ?_
  obtain ⟨es, ep, ⟨q1, q2, q3⟩, hdat, _, hp, _⟩ := hd
  have he : es = #[] := by
    cases hq : es.toList with
    | nil => exact Array.toList_inj.mp hq
    | cons a b => rw [hq] at hp; cases hp
  have eo : o = dictOf [] ep := by
    obtain ⟨oc, od, odd, osl⟩ := o
    simp only at q1 q2 q3 hdat
    rw [q1, q2, q3, hdat, he]
  obtain ⟨R', X'⟩ := R.push (ao := .tab []) F' N' lt ⟨[], ep, eo, trivial, List.nodup_nil⟩ (fun _ _ => by simpa using lo)
  exact H _ h' s.toks _ X' ⟨_, _, R'⟩ ⟨Nat.lt_succ_self _, by simp⟩
theorem callJ (S : Snd prog w K p loose mean mg mb D n I) (O : FrOk K p loose mean mg mb fi fc) (B : Room2 D n fc.A) {f : Fn} {first : List AV} {cfirst : List Value} {args : List Expr} {pos : Pos} (hf : FnOk K f) :
    J w fi fc first cfirst (fun st => bnd (argsE I fi args st) fun vs st => I.call fi.own f (first ++ vs) st) RepV (fun Q s => wpAny (model prog w) fc.A (callWith pos f.val cfirst (backTo pos (starEach args fc.env)) []) Q NoE s) :=
  fun _ _ _ _ h hP ρ s Q r c H => bnd_el h hP fun vs st1 P1 P2 h1 h2 hP1 hP2 => callWith_sound S O B r hf h1 hP1 fun ρ2 h'' tk2 cvs X2 r2 q2 =>
    S.call _ _ _ _ _ _ _ _ _ h2 hP2 O (fun z => z) B ρ2 _ _ _ r2 ((c.exts X2).append q2) (H.then X2)
theorem isIsin_eq {f : Fn} (h : isIsin f = true) : f = .bi .isin := by
  cases f with
  | fn => cases h
  | bi b => cases b <;> first | rfl | cases h
theorem asNm_eq {z : Expr} {y : Nm} (h : asNm z = some y) : ∃ x p, z = .Name x p ∧ y = nm x := by
  unfold asNm at h
  split at h
  · cases h; exact ⟨_, _, rfl, rfl⟩
  · cases h
theorem isinJ (S : Snd prog w K p loose mean mg mb D n I) (ok : PTOk3 prog w K p loose mean mg mb T D) (O : FrOk K p loose mean mg mb fi fc) (B : Room2 D n fc.A) {x : Str} {xp pos : Pos} {e z : Expr} {y : Nm} (hl : loadF T fi (nm x) = some (.bi .isin)) (hns : noStar e = true) (hz : asNm z = some y) :
    J w fi fc [] [] (fun st => bnd (I.e fi e st) fun a st => opt (loadF T fi y) fun t => isin T a t st) RepV (fun Q s => wpAny (model prog w) fc.A (eval (.Call (.Name x xp) [e, z] [] pos) fc.env) Q NoE s) := fun _ _ _ _ h hP ρ s Q r _ H =>
  bnd_el h hP fun b st1 P1 P2 h1 h2 hP1 hP2 => by
    obtain ⟨y', yp, rfl, rfl⟩ := asNm_eq hz
    refine opt_el h2 fun t ht h2 => ?_
    refine Call_ (loadF_sound ok.toPTOk2 O hl r fun hf => ?_) rfl
    have hst : starEach [e, .Name y' yp] fc.env = [(false, eval e fc.env), (false, eval (.Name y' yp) fc.env)] := by rw [starEach_cons hns]; rfl
    refine callWith_of (P := K.In) (by rw [hst]; rfl) (keeper_of hf) ?_
    rw [hst]
    refine evalArgs_plain (spliced_cons (S.e _ _ _ _ _ _ _ h1 hP1 O B ρ s _ r fun ρ1 h' tk v X r1 q => ?_))
    refine spliced_cons (s := { s with heap := h', toks := tk }) (loadF_sound ok.toPTOk2 O ht r1 fun hf2 => spliced_nil ⟨O.In r1, ?_⟩)
    exact isin_sound (s := { s with heap := h', toks := tk }) ok.toPTOk2 (O.In r1) h2 r1 q (H.then X)
theorem fnCallJ (S : Snd prog w K p loose mean mg mb D n I) (ok : PTOk3 prog w K p loose mean mg mb T D) (O : FrOk K p loose mean mg mb fi fc) (B : Room2 D n fc.A) {x : Str} {xp pos : Pos} {args : List Expr} {f : Fn} (hl : loadF T fi (nm x) = some f) :
    J w fi fc [] [] (fun st => match short 20 args with | true => bnd (argsE I fi args st) fun vs st => I.call fi.own f vs st | false => none) RepV (fun Q s => wpAny (model prog w) fc.A (eval (.Call (.Name x xp) args [] pos) fc.env) Q NoE s) :=
  J.only fun _ _ _ _ _ h hP ρ s Q r c H => Call_ (loadF_sound ok.toPTOk2 O hl r fun hf => callJ S O B hf _ _ _ _ h hP ρ s Q r c H) rfl
theorem methCallJ (S : Snd prog w K p loose mean mg mb D n I) (ok : PTOk3 prog w K p loose mean mg mb T D) (O : FrOk K p loose mean mg mb fi fc) (B : Room2 D n fc.A) {o : Expr} {name : Str} {apos pos : Pos} {args : List Expr} (hpo : plainO o = true) (hpos : Nat.beq apos.endLine pos.line = true) (hsh : short 20 args = true) :
    J w fi fc [] [] (fun st => bnd (I.e fi o st) fun a st => opt (meth T a (nm name) st) fun f => bnd (argsE I fi args st) fun vs st => I.call fi.own f (a :: vs) st) RepV (fun Q s => wpAny (model prog w) fc.A (eval (.Call (.Attribute o name apos) args [] pos) fc.env) Q NoE s) := fun _ _ _ _ h hP ρ s Q r _ H =>
  bnd_el h hP fun b st1 P1 P2 h1 h2 hP1 hP2 => by
    refine opt_el h2 fun f hm h2 => ?_
    refine bnd_el h2 hP2 fun vs st2 P3 P4 h3 h4 hP3 hP4 => ?_
    refine MethodCall_ (pl := do return (← importBound o fc.env).getD true) ?_ (methodCall_eq hpo hpos (few_of h3 (short_le hsh)))
    refine S.e _ _ _ _ _ _ _ h1 hP1 O B ρ s _ r fun ρ1 h' tk v X r1 q => ?_
    refine meth_sound (s := { s with heap := h', toks := tk }) ok.toPTOk2 O hm r1 q fun hf => ?_
    exact callJ (first := [b]) S O B hf _ _ _ _ h2 hP2 ρ1 { s with heap := h', toks := tk } Q r1 ⟨q, trivial⟩ (H.then X)
theorem sliceJ (S : Snd prog w K p loose mean mg mb D n I) (O : FrOk K p loose mean mg mb fi fc) (B : Room2 D n fc.A) {o : Expr} {l u sp : Option Expr} {ps : Pos} {a : AV} {va : Value} :
    J w fi fc [a] [va] (fun st => bnd (optE I fi l st) fun lo st => bnd (optE I fi u st) fun hi st => bnd (optE I fi sp st) fun se st =>
        match sp, se with
        | some _, .none => none
        | _, _ => slcS fi a lo hi se st) RepV (fun Q s => wpAny (model prog w) fc.A (eval (.Slice l u sp ps) fc.env) (fun i s2 => wpAny (model prog w) fc.A (subscriptTail o (.Slice l u sp ps) va i) Q NoE s2) NoE s) := fun _ _ _ _ h2 hP2 ρ1 s Q r1 c H =>
  bnd_el h2 hP2 fun lo st2 P3 P4 h3 h4 hP3 hP4 => bnd_el h4 hP4 fun hi st3 P5 P6 h5 h6 hP5 hP6 => bnd_el h6 hP6 fun se st4 P7 P8 h7 h8 hP7 hP8 => by
    have key : ∀ {z}, (match sp, se with | some _, .none => none | _, _ => slcS fi a lo hi se st4) = some z → slcS fi a lo hi se st4 = some z ∧ (se = .none → sp = none) := by
      intro z h8
      induction sp with
      | none => exact ⟨h8, fun _ => rfl⟩
      | some e' => induction se with
        | none => exact nn h8
        | _ => exact ⟨h8, fun e => nomatch e⟩
    obtain ⟨h8, h9⟩ := key h8
    refine wpAny_Slice (optE_sound S h3 hP3 O B r1 fun ρ2 h2' tk2 v2 X2 r2 q2 => ?_)
    refine optE_sound (s := { s with heap := h2', toks := tk2 }) S h5 hP5 O B r2 fun ρ3 h3' tk3 v3 X3 r3 q3 => ?_
    refine optE_sound (s := { s with heap := h3', toks := tk3 }) S h7 hP7 O B r3 fun ρ4 h4' tk4 v4 X4 r4 q4 => ?_
    exact slcS_sound (s := { s with heap := h4', toks := tk4 }) O h8 hP8 r4 (((c.1.ext X2).ext X3).ext X4) ((q2.ext X3).ext X4) (q3.ext X4) q4 (optE_none h7) h9 (H.then ((X2.trans X3).trans X4))
set_option tactic.hygienic true in
theorem subJ {α β : Type} {L : List AV} {V : List Value} {R : (Nat → Addr) → Nat → α → β → Prop} {i : Expr} {eS : Option Expr → Option Expr → Option Expr → St → Rr α} {eN : St → Rr α} {wp : Expr → (β → Shared → Prop) → Shared → Prop} (hS : ∀ l u sp ps, J w fi fc L V (eS l u sp) R (wp (.Slice l u sp ps))) (hN : (∀ l u s p, i ≠ .Slice l u s p) → J w fi fc L V eN R (wp i)) :
    J w fi fc L V (fun st => match i with | .Slice l u sp _ => eS l u sp st | _ => eN st) R (wp i) := by
  split
  · exact hS _ _ _ _
  · rename_i h; exact hN fun l u sp ps e => h l u sp ps e
theorem nameCallJ (S : Snd prog w K p loose mean mg mb D n I) (ok : PTOk3 prog w K p loose mean mg mb T D) (O : FrOk K p loose mean mg mb fi fc) (B' : Room2 D n fc.A) {x : Str} {xp pos : Pos} {args : List Expr} :
    J w fi fc [] [] (fun st => opt (loadF T fi (nm x)) fun f => match isIsin f with
          | true => match args with
            | [e, z] => match noStar e with
              | true => opt (asNm z) fun y => bnd (I.e fi e st) fun a st => opt (loadF T fi y) fun t => isin T a t st
              | false => none
            | _ => none
          | false => match short 20 args with
            | true => bnd (argsE I fi args st) fun vs st => I.call fi.own f vs st
            | false => none) RepV (fun Q s => wpAny (model prog w) fc.A (eval (.Call (.Name x xp) args [] pos) fc.env) Q NoE s) := by
  refine J.opt fun f hl => ?_
  refine J.bool (fun hi => ?_) fun _ => fnCallJ S ok O B' hl
  induction args using List.casesOn with
  | nil => exact J.none
  | cons e t => induction t using List.casesOn with
    | nil => exact J.none
    | cons z u => induction u using List.casesOn with
      | cons => exact J.none
      | nil => exact J.only fun hns => J.opt fun y hy => isinJ S ok O B' (isIsin_eq hi ▸ hl) hns hy
theorem boolJ {α β : Type} {L : List AV} {V : List Value} {R : (Nat → Addr) → Nat → α → β → Prop} {wp : (β → Shared → Prop) → Shared → Prop} {a : AV} {va : Value} {e1 : Bool → St → Rr α} (h : ∀ c, a = .bool c → J w fi fc (.bool c :: L) (va :: V) (e1 c) R wp) : J w fi fc (a :: L) (va :: V) (fun st => match a with | .bool c => e1 c st | _ => none) R wp := by
  induction a using AV.casesOn with
  | bool c => exact h c rfl
  | _ => exact J.none
/-- an expression's step is sound -/
noncomputable def JE (prog : Program) (w : World) (fi : FI) (fc : FC) (T : PT) (I : Evs) (x : Expr) : Prop := J w fi fc [] [] (stepE T I fi x) RepV (fun Q s => wpAny (model prog w) fc.A (eval x fc.env) Q NoE s)
theorem JE.none {x : Expr} (h : stepE T I fi x = fun _ => Option.none) : JE prog w fi fc T I x := fun st _ _ _ e => by rw [h] at e; exact nn e
theorem stepE_J (S : Snd prog w K p loose mean mg mb D n I) (ok : PTOk3 prog w K p loose mean mg mb T D) (O : FrOk K p loose mean mg mb fi fc) (B : Room2 D (n + 1) fc.A)
    (comp : ∀ elt gens sc pos, JE prog w fi fc T I (.ListComp elt gens sc pos)) (x : Expr) : JE prog w fi fc T I x := by
  have B' := B.step
  induction x using PySem.Expr.casesOn with
  | Constant c k pos => induction c using PySem.Const.casesOn with
    | none => exact J.ret fun _ s _ _ _ k => Constant_none (k _ s.toks rfl)
    | bool b => exact J.ret fun _ s _ _ _ k => Constant_bool (k _ s.toks rfl)
    | int i => exact J.ret fun _ _ _ _ _ k => wpAny_Constant_int (k _ _ ⟨_, rfl⟩)
    | str x => exact J.ret fun _ _ _ _ _ k => Constant_str (k _ _ ⟨_, rfl⟩)
    | _ => exact JE.none rfl
  | Name x xp => exact fun _ _ _ _ h _ _ _ _ r _ H => loadN_sound ok.toPTOk2 O h r H
  | BoolOp op vs pos => induction vs using List.casesOn with
    | nil => exact JE.none rfl
    | cons e t => induction t using List.casesOn with
      | nil => exact J.by (fun _ _ h => BoolOp_one h) (S.je O B' e)
      | cons e' rr => induction op using PySem.BoolOp.casesOn with
        | And =>
          refine J.by (fun _ _ h => BoolOp_and h) ?_
          refine J.bndV (S.je O B' e) fun a va => ?_
          refine boolJ fun c ea => ?_
          induction c using Bool.casesOn with
            | true => exact truthyJ (J.by (fun _ _ h => h) (S.je O B' (.BoolOp .And (e' :: rr) pos)))
            | false => exact truthyJ (J.ret fun _ s _ _ c k => k _ s.toks (ea ▸ c.1))
        | Or =>
          refine J.by (fun _ _ h => BoolOp_or h) ?_
          refine J.bndV (S.je O B' e) fun a va => ?_
          refine boolJ fun c ea => ?_
          induction c using Bool.casesOn with
            | true => exact truthyJ (J.ret fun _ s _ _ c k => k _ s.toks (ea ▸ c.1))
            | false => exact truthyJ (J.by (fun _ _ h => h) (S.je O B' (.BoolOp .Or (e' :: rr) pos)))
  | BinOp l op rr pos =>
    refine J.by (fun _ _ h => wpAny_BinOp h) ?_
    exact J.bndV (S.je O B' l) fun a va => J.bndV (S.je O B' rr) fun b vb => binJ
  | UnaryOp op x pos => induction op using PySem.UnaryOp.casesOn with
    | USub =>
      refine J.by (fun _ _ h => UnaryOp_ h) ?_
      refine J.bndV (S.je O B' x) fun a va => ?_
      refine intJ (wp := fun va Q s => wpAny (model prog w) fc.A (unaryOp .USub va) Q NoE s) fun p t => ?_
      exact J.ret fun _ _ _ _ _ k => neg_int (k _ _ (mkI_rep _ _ _))
    | Not =>
      refine J.by (fun _ _ h => UnaryOp_ h) ?_
      refine J.bndV (S.je O B' x) fun a va => ?_
      exact boolJ fun b _ => J.ret fun _ s _ _ c k => not_of (truthy_bool c.1 (k _ s.toks rfl))
    | _ => exact JE.none rfl
  | IfExp t b o pos =>
    refine J.by (fun _ _ h => IfExp_ h) ?_
    refine J.bndB (S.jb O B' t) ?_ ?_
    · exact J.by (fun _ _ h => h) (S.je O B' b)
    · exact J.by (fun _ _ h => h) (S.je O B' o)
  | Dict ks vs pos => induction ks using List.casesOn with
    | nil => induction vs using List.casesOn with
      | nil => exact dictJ O
      | cons => exact JE.none rfl
    | cons => exact JE.none rfl
  | List es pos =>
    refine J.by (fun _ _ h => List_ h) ?_
    exact J.bndL (S.jes O B' es pos) fun vs cvs => listJ
  | Tuple es k pos =>
    refine J.by (fun _ _ h => Tuple_ h) ?_
    exact J.bndL (S.jes O B' es pos) fun vs cvs => tupJ
  | Compare l ops rs pos => induction ops using List.casesOn with
    | nil => exact JE.none rfl
    | cons op t => induction t using List.casesOn with
      | cons => exact JE.none rfl
      | nil => induction rs using List.casesOn with
        | nil => exact JE.none rfl
        | cons rr u => induction u using List.casesOn with
          | cons => exact JE.none rfl
          | nil =>
            refine J.bool (c := behindInMarks op rr) (fun _ => J.none) fun hm => ?_
            refine J.by (fun _ _ h => wpAny_Compare1 h hm) ?_
            exact J.bndV (S.je O B' l) fun a va => J.bndV (S.je O B' rr) fun b vb => cmpJ ok O B
  | Call f args kws pos => induction kws using List.casesOn with
    | cons => exact JE.none rfl
    | nil => induction f using PySem.Expr.casesOn with
      | Attribute o name apos => exact J.only fun h => methCallJ S ok O B' (andB_iff h).1 (andB_iff (andB_iff h).2).1 (andB_iff (andB_iff h).2).2
      | Name x xp => exact nameCallJ S ok O B'
      | _ => exact JE.none rfl
  | Attribute o x pos =>
    refine J.only fun hpo => ?_
    refine J.by (wp' := fun Q s => wpAny (model prog w) fc.A (eval o fc.env) (fun v s₁ => wpAny (model prog w) fc.A (getAttr v x true) Q NoE s₁) NoE s) (fun _ _ h => Attribute_any_ h ?_) ?_
    · show (do let o' ← attributeBase o x fc.env (eval o fc.env); standAt pos.atName; let r ← holding [o'] (getAttr o' x true); letTemporaryGo o o' r; pure r) = _
      rw [baseOf hpo]
    · exact J.bndV (S.je O B' o) fun a va _ _ _ _ h _ _ _ _ r c H => getA_sound ok.toPTOk2 O h r c.1 H
  | Subscript o i pos =>
    refine J.by (fun _ _ h => Subscript_ h) ?_
    refine J.bndV (S.je O B' o) fun a va => ?_
    refine subJ (wp := fun i Q s => wpAny (model prog w) fc.A (eval i fc.env) (fun v s₁ => wpAny (model prog w) fc.A (subscriptTail o i va v) Q NoE s₁) NoE s) (fun l u sp ps => sliceJ S O B') fun hns => ?_
    exact J.bndV (S.je O B' i) fun k vk _ _ _ _ h hP _ _ _ r c H => getI_sound h hP r c.2.1 c.1 (subscripted_plain hns) H
  | ListComp elt gens sc pos => exact comp _ _ _ _
  | _ => exact JE.none rfl
theorem stepE_sound (S : Snd prog w K p loose mean mg mb D n I) (ok : PTOk3 prog w K p loose mean mg mb T D) {x : Expr} {a : AV} {P : List Prop} (h : stepE T I fi x st = some (a, st', P)) (hP : Ps P) (O : FrOk K p loose mean mg mb fi fc) (B : Room2 D (n + 1) fc.A) {Q : Value → Shared → Prop}
    (comp : ∀ elt gens sc pos, JE prog w fi fc T I (.ListComp elt gens sc pos))
    (r : Rel w.params fi fc ρ st s.heap) (H : Pst w.params fi fc ρ st st' s (fun ρ' v => RepV ρ' st'.n a v) Q) : wpAny (model prog w) fc.A (eval x fc.env) Q NoE s := stepE_J S ok O B comp x _ _ _ _ h hP ρ s Q r trivial H

end
end Mine
namespace Mine
open PySem PySem.W PyProof.Rows PySem.Calls PySem.Spec

section
variable {prog : Program} {w : World} {K : Frag} {p : Program} {loose : List Str} {mean : ExcName → Option Value} {mg mb : Str → Option Value} {T : PT} {D n : Nat} {I : Evs} {fi : FI} {fc : FC} {ρ : Nat → Addr} {st st' : St} {s : Shared}

set_option tactic.hygienic true in
theorem J.bndF {α β : Type} {L : List AV} {V : List Value} {R : (Nat → Addr) → Nat → α → β → Prop} {e1 : St → Rr AFl} {k : AFl → St → Rr α} {wp1 : (Flow → Shared → Prop) → Shared → Prop} {wp2 : Flow → (β → Shared → Prop) → Shared → Prop} (h1 : J w fi fc L V e1 RepF wp1) (hn : J w fi fc L V (k .next) R (wp2 .next))
    (hb : J w fi fc L V (k .brk) R (wp2 .brk)) (hc : J w fi fc L V (k .cont) R (wp2 .cont)) (hr : ∀ a v, J w fi fc (a :: L) (v :: V) (k (.ret a)) R (wp2 (.ret v))) : J w fi fc L V (fun st => Mine.bnd (e1 st) k) R (fun Q s => wp1 (fun v s' => wp2 v Q s') s) :=
  J.bnd h1 fun a v st a' st' P e hP ρ s Q r q c H => by
    induction a using AFl.casesOn with
    | next => obtain rfl := q; exact hn _ _ _ _ e hP _ _ _ r c H
    | brk => obtain rfl := q; exact hb _ _ _ _ e hP _ _ _ r c H
    | cont => obtain rfl := q; exact hc _ _ _ _ e hP _ _ _ r c H
    | ret a => obtain ⟨u, rfl, ru⟩ := q; exact hr a u _ _ _ _ e hP _ _ _ r ⟨ru, c⟩ H
theorem Snd.js (S : Snd prog w K p loose mean mg mb D n I) (O : FrOk K p loose mean mg mb fi fc) (B : Room2 D n fc.A) {L : List AV} {V : List Value} (x : Stmt) : J w fi fc L V (I.s fi x) RepF (fun Q s => wpAny (model prog w) fc.A (exec x fc.env) Q NoE s) :=
  fun _ _ _ _ h hP ρ s Q r _ H => S.s _ _ _ _ _ _ _ h hP O B ρ s Q r H
theorem Snd.jss (S : Snd prog w K p loose mean mg mb D n I) (O : FrOk K p loose mean mg mb fi fc) (B : Room2 D n fc.A) {L : List AV} {V : List Value} (x : List Stmt) : J w fi fc L V (I.ss fi x) RepF (fun Q s => wpAny (model prog w) fc.A (execs x fc.env) Q NoE s) :=
  fun _ _ _ _ h hP ρ s Q r _ H => S.ss _ _ _ _ _ _ _ h hP O B ρ s Q r H
theorem stepEs_sound (S : Snd prog w K p loose mean mg mb D n I) {xs : List Expr} {a : List AV} {P : List Prop} (h : stepEs I fi xs st = some (a, st', P)) (hP : Ps P) (O : FrOk K p loose mean mg mb fi fc) (B : Room2 D (n + 1) fc.A) {Q : List Value → Shared → Prop} {pos : Pos}
    (r : Rel w.params fi fc ρ st s.heap) (H : Pst w.params fi fc ρ st st' s (fun ρ' v => All2 (RepV ρ' st'.n) a v) Q) : wpAny (model prog w) fc.A (spliced (backTo pos (starEach xs fc.env))) Q NoE s := by
  have B' := B.step
  have key : J w fi fc [] [] (stepEs I fi xs) rL (fun Q s => wpAny (model prog w) fc.A (spliced (backTo pos (starEach xs fc.env))) Q NoE s) := by
    clear h H r
    induction xs using List.casesOn with
    | nil => exact J.ret fun _ s _ _ _ k => spliced_nil (k [] s.toks (by exact trivial))
    | cons e rr =>
      refine J.only (c := noStar e) fun hns => ?_
      refine J.by (wp' := fun Q s => wpAny (model prog w) fc.A (eval e fc.env) (fun v s₁ => wpAny (model prog w) fc.A (spliced (backTo pos (starEach rr fc.env))) (fun vs s₂ => Q (v :: vs) s₂) NoE s₁) NoE s) (fun _ _ h => by rw [starEach_cons hns]; exact spliced_cons h) ?_
      refine J.bndV (S.je O B' e) fun a v => ?_
      exact J.bnd (S.jes O B' rr pos) fun as vs st a' st' P e' hP ρ s Q r q c H => by
        obtain ⟨rfl, rfl, rfl⟩ := ret_some e'
        exact H.of rfl r ⟨c.1, q⟩
  exact key _ _ _ _ h hP ρ s Q r trivial H

theorem isTrue_bool_eq (op : BoolOp) (vs : List Expr) (p : Pos) (env : Env) (w1 w2 : Sem Value) : isTrue (.BoolOp op vs p) env w1 = isTrue (.BoolOp op vs p) env w2 := by
  rfl
/-- a condition's step is sound -/
noncomputable def JB (prog : Program) (w : World) (fi : FI) (fc : FC) (T : PT) (I : Evs) (x : Expr) : Prop := J w fi fc [] [] (stepB T I fi x) rB (fun Q s => wpAny (model prog w) fc.A (isTrue x fc.env (eval x fc.env)) Q NoE s)
theorem JB.none {x : Expr} (h : stepB T I fi x = fun _ => Option.none) : JB prog w fi fc T I x := fun st _ _ _ e => by rw [h] at e; exact nn e
theorem truthJ {L : List AV} {V : List Value} {a : AV} {va : Value} : J w fi fc (a :: L) (va :: V) (fun st => match a with | .bool c => ret c st | _ => none) rB (fun Q s => wpAny (model prog w) fc.A (truthy va) Q NoE s) :=
  boolJ fun _ _ => J.ret fun _ s _ _ c k => truthy_bool c.1 (k _ s.toks rfl)
theorem andJ {op : BoolOp} {rr : List Expr} {pos : Pos} {wh : Sem Value} (h : J w fi fc [] [] (I.b fi (.BoolOp op rr pos)) rB (fun Q s => wpAny (model prog w) fc.A (isTrue (.BoolOp op rr pos) fc.env (eval (.BoolOp op rr pos) fc.env)) Q NoE s)) :
    J w fi fc [] [] (I.b fi (.BoolOp op rr pos)) rB (fun Q s => wpAny (model prog w) fc.A (isTrue (.BoolOp op rr pos) fc.env wh) Q NoE s) := J.by (fun _ _ h => by rw [isTrue_bool_eq _ _ _ _ _ (eval (.BoolOp op rr pos) fc.env)]; exact h) h
theorem stepB_J (S : Snd prog w K p loose mean mg mb D n I) (ok : PTOk3 prog w K p loose mean mg mb T D) (O : FrOk K p loose mean mg mb fi fc) (B : Room2 D (n + 1) fc.A) (x : Expr) : JB prog w fi fc T I x := by
  have B' := B.step
  induction x using PySem.Expr.casesOn with
  | UnaryOp op x p => induction op using PySem.UnaryOp.casesOn with
    | Not =>
      refine J.by (fun _ _ h => isTrue_not h) ?_
      show J w fi fc [] [] (fun st => bnd (I.b fi x st) fun c st => ret (!c) st) rB (fun Q s => wpAny (model prog w) fc.A (PySem.isTrue x fc.env (eval x fc.env)) (fun c s' => Q (!c) s') NoE s)
      refine J.bndB (wp2 := fun c Q s' => Q (!c) s') (S.jb O B' x) ?_ ?_
      · exact J.ret fun _ s _ _ _ k => k _ s.toks rfl
      · exact J.ret fun _ s _ _ _ k => k _ s.toks rfl
    | _ => exact JB.none rfl
  | BoolOp op vs p => induction vs using List.casesOn with
    | nil => induction op using PySem.BoolOp.casesOn with
      | And => exact J.ret fun _ s _ _ _ k => isTrue_and_nil (k _ s.toks rfl)
      | Or => exact J.ret fun _ s _ _ _ k => isTrue_or_nil (k _ s.toks rfl)
    | cons e rr => induction op using PySem.BoolOp.casesOn with
      | And =>
        refine J.by (fun _ _ h => isTrue_and h) ?_
        refine J.bndB (S.jb O B' e) ?_ (J.ret fun _ s _ _ _ k => k _ s.toks rfl)
        exact J.by (fun _ _ h => h) (andJ (S.jb O B' (.BoolOp .And rr p)))
      | Or =>
        refine J.by (fun _ _ h => isTrue_or h) ?_
        refine J.bndB (S.jb O B' e) (J.ret fun _ s _ _ _ k => k _ s.toks rfl) ?_
        exact J.by (fun _ _ h => h) (andJ (S.jb O B' (.BoolOp .Or rr p)))
  | IfExp t b o p =>
    refine J.by (fun _ _ h => isTrue_IfExp h) ?_
    refine J.bndB (S.jb O B' t) ?_ ?_
    · exact J.by (fun _ _ h => h) (S.jb O B' b)
    · exact J.by (fun _ _ h => h) (S.jb O B' o)
  | Compare l ops rs pos => induction ops using List.casesOn with
    | nil => exact JB.none rfl
    | cons op t => induction t using List.casesOn with
      | cons => exact JB.none rfl
      | nil => induction rs using List.casesOn with
        | nil => exact JB.none rfl
        | cons rr u => induction u using List.casesOn with
          | cons => exact JB.none rfl
          | nil =>
            refine J.bool (c := behindInMarks op rr) (fun _ => J.none) fun hm => ?_
            refine J.by (fun _ _ h => wpAny_isTrue_Compare1 h hm) ?_
            exact J.bndV (S.je O B' l) fun a va => J.bndV (S.je O B' rr) fun b vb => J.bndV (cmpJ ok O B) fun d vd => truthJ
  | Call f as ks p =>
    refine J.by (fun _ _ h => isTrue_plain h rfl) ?_
    exact J.bndV (S.je O B' (.Call f as ks p)) fun a va => truthJ
  | Name x p =>
    refine J.by (fun _ _ h => isTrue_plain h rfl) ?_
    exact J.bndV (S.je O B' (.Name x p)) fun a va => truthJ
  | _ => exact JB.none rfl
theorem stepB_sound (S : Snd prog w K p loose mean mg mb D n I) (ok : PTOk3 prog w K p loose mean mg mb T D) {x : Expr} {a : Bool} {P : List Prop} (h : stepB T I fi x st = some (a, st', P)) (hP : Ps P) (O : FrOk K p loose mean mg mb fi fc) (B : Room2 D (n + 1) fc.A) {Q : Bool → Shared → Prop}
    (r : Rel w.params fi fc ρ st s.heap) (H : Pst w.params fi fc ρ st st' s (fun _ v => v = a) Q) : wpAny (model prog w) fc.A (isTrue x fc.env (eval x fc.env)) Q NoE s := stepB_J S ok O B x _ _ _ _ h hP ρ s Q r trivial H

theorem plain_swaps {v : Expr} (h : plainV v = true) (t : Option Expr) (line : Nat) (env : Env) : swapsWith v t line env = pure false := by
  cases v <;> first | rfl | cases h
set_option tactic.hygienic true in
theorem pureOf_some {α : Type} {x : Sem α} {a : α} (h : pureOf x = some a) : x = pure a := by
  cases x
  case pure b => exact congrArg Sem.pure (Option.some.inj h)
  all_goals (have h : (none : Option α) = some a := h; cases h)
theorem swapped_dum (ts : List Expr) (v : Expr) (env : Env) : swappedStores ts v env = swappedStores ts v (dumEnv env.scope) := rfl
theorem swaps_dum (v : Expr) (t : Option Expr) (line : Nat) (env : Env) : swapsWith v t line env = swapsWith v t line (dumEnv env.scope) := rfl
theorem RelAt.extBut {h h' : Heap} {m : Str → Option Value} {os : List Obj} (R : RelAt w.params fi fc ρ st h m os) (he : Heap.ExtBut h.objs.size h h') : RelAt w.params fi fc ρ st h' m os :=
  R.heap (R.F.extBut he (Nat.le_refl _)) fun q hq => ⟨he q.1 q.2 (Nat.ne_of_lt (Heap.lt_size (R.N q hq).1)) (R.N q hq).1, (R.N q hq).2⟩
theorem storeNs_sound (O : FrOk K p loose mean mg mb fi fc) (xs : List Str) : ∀ (as : List AV) (vs : List Value) (st : St) (ρ : Nat → Addr) (s : Shared) (P : List Prop) (Q : Unit → Shared → Prop), storeNs fi xs as st = some ((), st', P) → Ps P →
    Rel w.params fi fc ρ st s.heap → All2 (RepV ρ st.n) as vs → Pst w.params fi fc ρ st st' s (fun _ _ => True) Q → wpAny (model prog w) fc.A (assignInOrder (xs.map fun x => bindName fc.env x) vs) Q NoE s := by
  induction xs with
  | nil =>
    intro as vs st ρ s P Q h hP r ra H
    induction as with
    | nil =>
      first | (obtain ⟨rfl, rfl, rfl⟩ := ret_some h) | cases h
      exact assignInOrder_nil (H.of (h' := s.heap) (tk := s.toks) (v := ()) rfl r trivial)
    | cons => first | exact nn h | cases h
  | cons x xs ih =>
    intro as vs st ρ s P Q h hP r ra H
    cases as with
    | nil => first | exact nn h | cases h
    | cons a as =>
      induction vs with
      | nil => exact ra.elim
      | cons v vs =>
        have h : bnd (storeN fi (nm x) a st) (fun _ st => storeNs fi xs as st) = some ((), st', P) := h
        refine bnd_el h hP fun _ st1 P1 P2 h1 h2 hP1 hP2 => ?_
        refine assignInOrder_cons (wpAny_bindName (storeN_sound O h1 r ra.1 fun ρ1 h' tk _ X r1 _ => ?_))
        exact ih _ _ _ _ { s with heap := h', toks := tk } _ _ h2 hP2 r1 (ra.2.mono fun _ _ _ q => q.ext X) (H.then X)

set_option tactic.hygienic true in
theorem unp_sound {a : AV} {k : Nat} {xs : List AV} {v : Value} {P : List Prop} (h : unp a k st = some (xs, st', P)) (hP : Ps P) (r : Rel w.params fi fc ρ st s.heap) (ra : RepV ρ st.n a v) :
    ∃ l vs, v = .ref l ∧ s.heap.IsTuple l (List.toArray vs) ∧ All2 (RepV ρ st'.n) xs vs ∧ xs.length = k ∧ st'.n = st.n ∧ Rel w.params fi fc ρ st' s.heap := by
  unfold unp at h
  split at h
  · obtain ⟨_, rfl⟩ := ra
    split at h
    · rename_i ys e1
      split at h
      · rename_i hl
        first | (obtain ⟨rfl, rfl, rfl⟩ := ret_some h) | cases h
        obtain ⟨m, os, vs, R, hv, ht, hlt⟩ := tup_get r e1
        exact ⟨_, vs, rfl, ht, hv, (Nat.eq_of_beq_eq_true hl).symm, rfl, r⟩
      · first | exact nn h | cases h
    · first | exact nn h | cases h
  · obtain ⟨rfl, _⟩ := ra
    split at h
    · rename_i ys rr ht
      first | (obtain ⟨rfl, rfl, rfl⟩ := ret_some h) | cases h
      obtain ⟨m, os, R⟩ := r
      obtain ⟨o, ho, vs, n, rfl, hv⟩ := R.im _ _ hP.1
      have hlen : ∀ {k : Nat} {l ys rr : List AV}, takeN k l = some (ys, rr) → ys.length = k := by
        intro k
        induction k with
        | zero => intro l ys rr h; cases h; rfl
        | succ k ih =>
          intro l ys rr h
          cases l with
          | nil => first | exact nn h | cases h
          | cons a l =>
            unfold takeN at h
            split at h
            · rename_i q; cases h; exact congrArg (· + 1) (ih q)
            · first | exact nn h | cases h
      exact ⟨_, vs, rfl, ⟨_, (R.N _ (List.mem_append_right _ ho)).1, rfl, _, rfl⟩, hv.mono fun _ _ _ q => repV_clo q, hlen ht, rfl, m, os, R.orc _ _⟩
    · first | exact nn h | cases h
  · first | exact nn h | cases h
set_option tactic.hygienic true in
theorem stepAsg_sound (S : Snd prog w K p loose mean mg mb D n I) (ok : PTOk3 prog w K p loose mean mg mb T D) {t : Expr} {a : AV} {v : Value} {P : List Prop} (h : stepAsg T I fi t a st = some ((), st', P)) (hP : Ps P) (O : FrOk K p loose mean mg mb fi fc) (B : Room2 D (n + 1) fc.A) {Q : Unit → Shared → Prop}
    (r : Rel w.params fi fc ρ st s.heap) (ra : RepV ρ st.n a v) (H : Pst w.params fi fc ρ st st' s (fun _ _ => True) Q) : wpAny (model prog w) fc.A (assign t fc.env v) Q NoE s := by
  have B' := B.step
  unfold stepAsg at h
  split at h
  · exact assign_Name (storeN_sound O h r ra H)
  · rename_i o x pos
    refine bnd_el h hP fun b st1 P1 P2 h1 h2 hP1 hP2 => ?_
    show wpAny _ _ (do let ov ← holding [v] (eval o fc.env); standAt pos.atName; holding [v, ov] (setAttr ov x v); release [v, ov] []) _ _ _
    refine wpAny_bind (wpAny_holding (S.e _ _ _ _ _ _ _ h1 hP1 O B' ρ s _ r fun ρ1 h' tk v1 X r1 q => ?_))
    refine wpAny_bind (wpAny_standAt (wpAny_bind (wpAny_holding (setA_sound (s := { s with heap := h', toks := tk }) ok.toPTOk2 O h2 r1 q (ra.ext X) fun ρ2 h2' tk2 _ X2 r2 _ => ?_))))
    exact wpAny_release (H _ _ _ _ (X.trans X2) r2 trivial)
  · rename_i es k pos
    refine bnd_el h hP fun xs st1 P1 P2 h1 h2 hP1 hP2 => ?_
    split at h2
    · rename_i hns
      obtain ⟨l, vs, rfl, ht, hv, hlen, hn, r1⟩ := unp_sound h1 hP1 r ra
      have hvl := hv.length
      have hstar : ∀ {es : List Expr}, es.all noStar = true → (assignEach es fc.env) = es.map fun e => (false, assign e fc.env) := by
        intro es
        induction es with
        | nil => intro _; rfl
        | cons e r ih =>
          intro h
          simp only [List.all_cons, Bool.and_eq_true] at h
          have := ih h.2
          cases e <;> first | (show _ :: assignEach r fc.env = _; rw [this]; rfl) | cases h.1
      refine wpAny_assign_Tuple O.hh ht (by rw [hstar hns]; simp; lia) (by rw [hstar hns]; simp) fun h' he => ?_
      rw [hstar hns]
      have e2 : (es.map fun e => (false, assign e fc.env)).map (·.2) = es.map fun e => assign e fc.env := by simp [List.map_map]
      rw [e2]
      obtain ⟨m, os, R⟩ := r1
      have r1 : Rel w.params fi fc ρ st1 h' := ⟨m, os, R.extBut he⟩
      exact S.asgs _ _ _ _ _ _ _ h2 hP2 O B' ρ { s with heap := h' } _ _ r1 hv (fun ρ2 h2' tk2 u X2 r2 q2 => H ρ2 h2' tk2 u (by rw [hn] at X2; exact X2) r2 q2)
    · first | exact nn h2 | cases h2
  · first | exact nn h | cases h

set_option tactic.hygienic true in
theorem stepAsgs_sound (S : Snd prog w K p loose mean mg mb D n I) {ts : List Expr} {as : List AV} {vs : List Value} {P : List Prop} (h : stepAsgs I fi ts as st = some ((), st', P)) (hP : Ps P) (O : FrOk K p loose mean mg mb fi fc) (B : Room2 D (n + 1) fc.A) {Q : Unit → Shared → Prop}
    (r : Rel w.params fi fc ρ st s.heap) (ra : All2 (RepV ρ st.n) as vs) (H : Pst w.params fi fc ρ st st' s (fun _ _ => True) Q) : wpAny (model prog w) fc.A (assignInOrder (ts.map fun t => assign t fc.env) vs) Q NoE s := by
  have B' := B.step
  unfold stepAsgs at h
  split at h
  · first | (obtain ⟨rfl, rfl, rfl⟩ := ret_some h) | cases h
    exact assignInOrder_nil (r.pst (tk := s.toks) H trivial)
  · rename_i t ts a as
    match vs, ra with
    | v :: vs, ra =>
    refine bnd_el h hP fun _ st1 P1 P2 h1 h2 hP1 hP2 => ?_
    refine assignInOrder_cons (S.asg _ _ _ _ _ _ _ h1 hP1 O B' ρ s _ _ r ra.1 fun ρ1 h' tk _ X r1 _ => ?_)
    exact S.asgs _ _ _ _ _ _ _ h2 hP2 O B' ρ1 _ _ _ r1 (ra.2.mono fun _ _ _ q => q.ext X) (H.then X)
  · first | exact nn h | cases h

theorem stepSs_sound (S : Snd prog w K p loose mean mg mb D n I) {xs : List Stmt} {a : AFl} {P : List Prop} (h : stepSs I fi xs st = some (a, st', P)) (hP : Ps P) (O : FrOk K p loose mean mg mb fi fc) (B : Room2 D (n + 1) fc.A) {Q : Flow → Shared → Prop}
    (r : Rel w.params fi fc ρ st s.heap) (H : Pst w.params fi fc ρ st st' s (fun ρ' v => RepF ρ' st'.n a v) Q) : wpAny (model prog w) fc.A (execs xs fc.env) Q NoE s := by
  have B' := B.step
  have key : J w fi fc [] [] (stepSs I fi xs) RepF (fun Q s => wpAny (model prog w) fc.A (execs xs fc.env) Q NoE s) := by
    clear h H r
    induction xs using List.casesOn with
    | nil => exact J.ret fun _ s _ _ _ k => wpAny_execs_nil (k _ s.toks rfl)
    | cons x rr =>
      refine J.by (fun _ _ h => wpAny_execs_cons h) ?_
      exact J.bndF (S.js O B' x) (S.jss O B' rr) (J.ret fun _ s _ _ _ k => k _ s.toks rfl) (J.ret fun _ s _ _ _ k => k _ s.toks rfl) fun a v => J.ret fun _ s _ _ c k => k _ s.toks ⟨_, rfl, c.1⟩
  exact key _ _ _ _ h hP ρ s Q r trivial H

theorem stepWh_sound (S : Snd prog w K p loose mean mg mb D n I) {t : Expr} {b : List Stmt} {a : AFl} {P : List Prop} (h : stepWh I fi t b st = some (a, st', P)) (hP : Ps P) (O : FrOk K p loose mean mg mb fi fc) (B : Room2 D (n + 1) fc.A) {Q : Flow → Shared → Prop} {k : Nat}
    (r : Rel w.params fi fc ρ st s.heap) (H : Pst w.params fi fc ρ st st' s (fun ρ' v => RepF ρ' st'.n a v) Q) : WhlRest prog w fc.A NoE fc.env t b [] Q k s := by
  have B' := B.step
  have key : J w fi fc [] [] (stepWh I fi t b) RepF (fun Q s => WhlRest prog w fc.A NoE fc.env t b [] Q (0 + 1) s) := by
    refine J.by (fun _ _ h => whl_turn (k := 0) (passesNo _ _ _) h) ?_
    have wh : ∀ L V, J w fi fc L V (I.wh fi t b) RepF (fun Q s => WhlRest prog w fc.A NoE fc.env t b [] Q 0 s) := fun L V _ _ _ _ h hP ρ s Q r _ H => S.wh _ _ _ _ _ _ _ _ h hP O B' ρ s Q 0 r H
    refine J.bndB (S.jb O B' t) ?_ (J.ret fun _ s _ _ _ k => WhlIf.no rfl (wpAny_execs_nil (k _ s.toks rfl)))
    refine J.by (fun _ _ h => WhlIf.yes rfl h) ?_
    exact J.bndF (S.jss O B' b) (wh _ _) (J.ret fun _ s _ _ _ k => k _ s.toks rfl) (wh _ _) fun a v => J.ret fun _ s _ _ c k => k _ s.toks ⟨_, rfl, c.1⟩
  exact key _ _ _ _ h hP ρ s Q r trivial H
end
end Mine
namespace Mine
open PySem PySem.W PyProof.Rows PySem.Calls PySem.Spec

section
variable {prog : Program} {w : World} {K : Frag} {p : Program} {loose : List Str} {mean : ExcName → Option Value} {mg mb : Str → Option Value} {T : PT} {D n : Nat} {I : Evs} {fi : FI} {fc : FC} {ρ : Nat → Addr} {st st' : St} {s : Shared}

theorem plain_folds {i : Expr} (h : plainIt i = true) (env : Env) (x : Value) : foldedSetIterable i env x = pure x := by
  cases i <;> first | rfl | cases h

/-- an iterator over a list is made -/
theorem liter_push {m : Str → Option Value} {os : List Obj} (R : RelAt w.params fi fc ρ st s.heap m os) {l : Nat} (hl : l < st.n) :
    Rel w.params fi fc (fun i => if i = st.n then s.heap.objs.size else ρ i) { st with sg := st.sg.set st.n (.liter l 0), n := st.n + 1 } (s.heap.push { cls := .type "list_iterator", data := .fields #[.ref (ρ l), .int 0 0] }) ∧
    Ext ρ st.n (fun i => if i = st.n then s.heap.objs.size else ρ i) (st.n + 1) := by
  have F' := R.F.push { cls := .type "list_iterator", data := .fields #[.ref (ρ l), .int 0 0] }
  have N' := R.N.push R.F { cls := .type "list_iterator", data := .fields #[.ref (ρ l), .int 0 0] }
  obtain ⟨R', X'⟩ := R.push (ao := .liter l 0) F' N' (fun q hq => Heap.lt_size (R.N q hq).1) ⟨Nat.lt_succ_of_lt hl, rfl, by simp [Nat.ne_of_lt hl]⟩
  exact ⟨⟨_, _, R'⟩, X'⟩

/-- the iterator hands on an item -/
theorem liter_next {A : Around} {k l i : Nat} {pre : Option (List AV)} {xs : List AV} {a : AV} {Q : Option Value → Shared → Prop} (r : Rel w.params fi fc ρ st s.heap) (e1 : st.sg.get k = .liter l i) (e2 : st.sg.get l = .list pre xs) (hn : nth (itm pre xs) i = some a)
    (H : ∀ h' v, Rel w.params fi fc ρ (setO k (.liter l (i + 1)) st) h' → RepV ρ st.n a v → Q (some v) { s with heap := h' }) : wpAny (model prog w) A (pyNext (.ref (ρ k))) Q NoE s := by
  obtain ⟨m, os, vs, k1, R, ho, hv, hm, hl, hlt⟩ := list_get r e2
  obtain ⟨o, ho2, ⟨hll, hc, hd⟩, hm2, hg2⟩ := R.get e1 (by intro q; cases q)
  rw [nth_eq] at hn
  obtain ⟨y, hy, ry⟩ := hv.get hn
  refine wpAny_pyNext_list_item ⟨o, hg2, hc, hd⟩ hl (by simpa using hy) fun h' hit' hs' => ?_
  obtain ⟨o', ho', hc', hd'⟩ := hit'
  have hmem := R.N _ hm2
  have hk : k < st.n := R.lt (by rw [e1]; intro q; cases q)
  have F' : Fr fc.h₀ fc.env.locals h' m := R.F.change hs' hmem.2.1 hmem.2.2
  have N' : News fc.h₀ fc.env.locals h' (ledF st.sg ρ 0 (os.set k o') ++ fc.rest) := by
    obtain ⟨pre, post, q2, q3, p1, p2⟩ := (R.upd (o' := o') ho2).split
    have hN := R.N
    rw [q3]
    rw [q2] at hN
    intro q hq
    rcases List.mem_append.mp hq with hq | hq
    · have z := hN q (List.mem_append_left _ hq); exact ⟨(hs'.2 q.1 (p1 q hq)).trans z.1, z.2⟩
    · rcases List.mem_cons.mp hq with rfl | hq
      · exact ⟨ho', hmem.2⟩
      · have z := hN q (List.mem_append_right _ (.tail _ hq)); exact ⟨(hs'.2 q.1 (p2 q hq)).trans z.1, z.2⟩
  exact H h' y ⟨_, _, R.set (a' := .liter l (i + 1)) hk F' N' ⟨hll, hc', hd'⟩⟩ ry
/-- the iterator is at its end -/
theorem liter_end {A : Around} {k l i : Nat} {pre : Option (List AV)} {xs : List AV} {Q : Option Value → Shared → Prop} (hh : A.handled = none) (r : Rel w.params fi fc ρ st s.heap) (e1 : st.sg.get k = .liter l i) (e2 : st.sg.get l = .list pre xs) (hn : nth (itm pre xs) i = none)
    (H : ∀ h', Rel w.params fi fc ρ (setO k .dead st) h' → Q none { s with heap := h' }) : wpAny (model prog w) A (pyNext (.ref (ρ k))) Q NoE s := by
  obtain ⟨m, os, vs, k1, R, ho, hv, hm, hl, hlt⟩ := list_get r e2
  obtain ⟨o, ho2, ⟨hll, hc, hd⟩, hm2, hg2⟩ := R.get e1 (by intro q; cases q)
  rw [nth_eq] at hn
  have hlen := hv.length
  have hx : vs.toArray[i]? = none := by
    rw [List.getElem?_eq_none_iff] at hn
    rw [List.getElem?_toArray, List.getElem?_eq_none_iff, ← hlen]; exact hn
  refine wpAny_pyNext_list_end hh ⟨o, hg2, hc, hd⟩ hl hx fun h' he' => ?_
  have hmem := R.N _ hm2
  have F' : Fr fc.h₀ fc.env.locals h' m := ⟨R.F.ns.at' fun o e => he' _ o (Ne.symm hmem.2.1) e, fun b ob e => he' b ob (fun q => by rw [q] at e; rw [hmem.2.2] at e; cases e) (R.F.keep b ob e), R.F.above⟩
  exact H h' ⟨_, _, R.kill F' (by rw [e1]; rfl) fun q hq hne => he' q.1 q.2 hne (R.N q hq).1⟩

/-- an iterator over a range is made -/
theorem riter_push {m : Str → Option Value} {os : List Obj} (R : RelAt w.params fi fc ρ st s.heap m os) (p : Bool) (x left : Int) :
    Rel w.params fi fc (fun i => if i = st.n then s.heap.objs.size else ρ i) { st with sg := st.sg.set st.n (.riter p x left), n := st.n + 1 } (s.heap.push { cls := .type "range_iterator", data := .fields #[rawInt x, rawInt left, rawInt 1] }) ∧
    Ext ρ st.n (fun i => if i = st.n then s.heap.objs.size else ρ i) (st.n + 1) := by
  have F' := R.F.push { cls := .type "range_iterator", data := .fields #[rawInt x, rawInt left, rawInt 1] }
  have N' := R.N.push R.F { cls := .type "range_iterator", data := .fields #[rawInt x, rawInt left, rawInt 1] }
  obtain ⟨R', X'⟩ := R.push (ao := .riter p x left) F' N' (fun q hq => Heap.lt_size (R.N q hq).1) rfl
  exact ⟨⟨_, _, R'⟩, X'⟩
set_option tactic.hygienic true in
theorem mkIt_sound {A : Around} {l : Nat} {a : AV} {P : List Prop} {Q : Value → Shared → Prop} (h : mkIt l st = some (a, st', P)) (r : Rel w.params fi fc ρ st s.heap) (hl : l < st.n)
    (H : Pst w.params fi fc ρ st st' s (fun ρ' v => RepV ρ' st'.n a v) Q) : wpAny (model prog w) A (pyIter (.ref (ρ l))) Q NoE s := by
  unfold mkIt at h
  split at h
  · rename_i pre xs e1
    first | (obtain ⟨rfl, rfl, rfl⟩ := ret_some h) | cases h
    obtain ⟨m1, os1, vs1, k1, R1, ho1, hv1, hm1, hL1, hlt1⟩ := list_get r e1
    refine wpAny_pyIter_list hL1 ?_
    obtain ⟨r2, X2⟩ := liter_push R1 hl
    exact H _ _ s.toks _ X2 r2 ⟨Nat.lt_succ_self _, by simp⟩
  · rename_i p x y e1
    first | (obtain ⟨rfl, rfl, rfl⟩ := ret_some h) | cases h
    obtain ⟨m, os, R⟩ := r
    obtain ⟨o, ho, ⟨hb, t, u, v, rfl⟩, hm, hg⟩ := R.get e1 (by intro q; cases q)
    refine wpAny_pyIter_range hg (small_one hb.1 hb.2.1 hb.2.2.1 hb.2.2.2) ?_
    rw [rangeSize_one]
    obtain ⟨r2, X2⟩ := riter_push R p x (if x < y then y - x else 0)
    exact H _ _ s.toks _ X2 r2 ⟨Nat.lt_succ_self _, by simp⟩
  · first | exact nn h | cases h
/-- what was handed on -/
noncomputable def Handed (ρ : Nat → Addr) (n : Nat) : Option AV → Option Value → Prop
  | none, none => True
  | some a, some v => RepV ρ n a v
  | _, _ => False
noncomputable def isIter : AO → Bool
  | .liter _ _ => true
  | .riter _ _ _ => true
  | _ => false
/-- what holds of an outcome -/
noncomputable def post {α : Type} (r : Rr α) (F : α → St → List Prop → Prop) : Prop := match r with
  | none => True
  | some (a, st, P) => F a st P
theorem post_of {α : Type} {r : Rr α} {F : α → St → List Prop → Prop} {a : α} {st : St} {P : List Prop} (h : post r F) (e : r = some (a, st, P)) : F a st P := by rw [e] at h; exact h
theorem post_bnd {α β : Type} {x : Rr α} {k : α → St → Rr β} {F : β → St → List Prop → Prop} (h : post x fun a st P => post (k a st) fun b st' P' => F b st' (P ++ P')) : post (bnd x k) F := by
  unfold bnd
  induction x with
  | none => trivial
  | some q =>
    obtain ⟨a, st, P⟩ := q
    have h : post (k a st) _ := h
    show post (match k a st with | none => none | some (b, st', P') => some (b, st', P ++ P')) F
    cases e : k a st with
    | none => trivial
    | some z => rw [e] at h; exact h
theorem dec_n {lit : Bool} {p : Prop} {d : Bool} : post (dec lit p d st) fun _ st1 _ => st1.n = st.n := by
  induction lit with
  | true => rfl
  | false =>
    show post (match st.or with | [] => none | k :: r => match Nat.beq k 0 with | true => some (false, { st with or := r }, [¬ p]) | false => some (true, { st with or := r }, [p])) _
    cases st.or with
    | nil => trivial
    | cons k r =>
      dsimp only
      cases Nat.beq k 0 <;> exact rfl
theorem nxt_n' {k : Nat} : post (nxt k st) fun _ st1 _ => st1.n = st.n := by
  unfold nxt
  induction st.sg.get k using AO.casesOn with
  | liter l i =>
    dsimp only
    induction st.sg.get l using AO.casesOn with
    | list p xs => induction p with
      | none =>
        dsimp only
        cases nth xs i <;> rfl
      | some p =>
        dsimp only
        cases st.or with
        | nil => trivial
        | cons c r =>
          dsimp only
          cases Nat.beq c 0 with
          | true => rfl
          | false => cases st.ov <;> first | trivial | rfl
    | _ => trivial
  | riter p x left =>
    refine post_bnd ?_
    have := @dec_n st p (0 < left) (decide (0 < left))
    unfold post at this ⊢
    cases e : dec p (0 < left) (decide (0 < left)) st with
    | none => trivial
    | some q =>
      rw [e] at this
      obtain ⟨b, st1, P⟩ := q
      cases b <;> exact this
  | _ => trivial
theorem nxt_n {k : Nat} {oa : Option AV} {P : List Prop} (h : nxt k st = some (oa, st', P)) : st'.n = st.n := post_of nxt_n' h
set_option tactic.hygienic true in
theorem nxt_sound {A : Around} {k : Nat} {oa : Option AV} {P : List Prop} {Q : Option Value → Shared → Prop} (hh : A.handled = none) (h : nxt k st = some (oa, st', P)) (hP : Ps P) (r : Rel w.params fi fc ρ st s.heap)
    (H : ∀ h' tk o, Rel w.params fi fc ρ st' h' → Handed ρ st.n oa o → (oa ≠ none → isIter (st'.sg.get k) = true) → Q o { s with heap := h', toks := tk }) : wpAny (model prog w) A (pyNext (.ref (ρ k))) Q NoE s := by
  unfold nxt at h
  split at h
  · rename_i l i e1
    split at h
    · rename_i xs e2
      split at h
      · rename_i hn
        first | (obtain ⟨rfl, rfl, rfl⟩ := ret_some h) | cases h
        exact liter_end hh r e1 (pre := none) e2 hn fun h' r' => H h' s.toks none r' trivial fun q => absurd rfl q
      · rename_i a hn
        first | (obtain ⟨rfl, rfl, rfl⟩ := ret_some h) | cases h
        refine liter_next r e1 (pre := none) e2 hn fun h' v r' rv => H h' s.toks (some v) r' rv fun _ => ?_
        show isIter ((st.sg.set k _).get k) = true
        rw [Tr.get_set, if_pos rfl]; rfl
    · rename_i p xs e2
      split at h
      · first | exact nn h | cases h
      · rename_i c rr eor
        split at h
        · first | (obtain ⟨rfl, rfl, rfl⟩ := ret_some h) | cases h
          refine liter_end hh r e1 e2 hP.1 fun h' r' => H h' s.toks none ?_ trivial fun q => absurd rfl q
          obtain ⟨m, os, R⟩ := r'
          exact ⟨m, os, R.orc rr st.ov⟩
        · split at h
          · first | exact nn h | cases h
          · rename_i v rv eov
            first | (obtain ⟨rfl, rfl, rfl⟩ := ret_some h) | cases h
            refine liter_next r e1 e2 hP.1 fun h' v r' rv' => H h' s.toks (some v) ?_ rv' fun _ => ?_
            · obtain ⟨m, os, R⟩ := r'
              exact ⟨m, os, R.orc rr rv⟩
            · show isIter ((st.sg.set k _).get k) = true
              rw [Tr.get_set, if_pos rfl]; rfl
    · first | exact nn h | cases h
  · rename_i p x left e1
    refine bnd_el h hP fun b st1 P1 P2 h1 h2 hP1 hP2 => ?_
    obtain ⟨hb, o, rfl⟩ := dec_some (c := decide (0 < left)) (by simp) h1 hP1
    obtain ⟨m, os, R⟩ := r
    have R := R.orc o st.ov
    obtain ⟨ob, ho2, hob, hm2, hg2⟩ := R.get (l := k) e1 (by intro q; cases q)
    have hob : ob = { cls := .type "range_iterator", dict := none, data := .fields #[rawInt x, rawInt left, rawInt 1], slots := #[] } := hob
    subst hob
    have hmem := R.N _ hm2
    induction b with
    | true =>
      first | (obtain ⟨rfl, rfl, rfl⟩ := ret_some h2) | cases h2
      refine wpAny_pyNext_range_item hg2 (hb.mp rfl) fun h' hit' hs' => ?_
      have hk : k < st.n := R.lt (by show st.sg.get k ≠ _; rw [e1]; intro q; cases q)
      have F' : Fr fc.h₀ fc.env.locals h' m := R.F.change hs' hmem.2.1 hmem.2.2
      have N' : News fc.h₀ fc.env.locals h' (ledF st.sg ρ 0 (os.set k { cls := .type "range_iterator", dict := none, data := .fields #[rawInt (x + 1), rawInt (left - 1), rawInt 1], slots := #[] }) ++ fc.rest) := by
        obtain ⟨pre, post, q2, q3, p1, p2⟩ := (R.upd (o' := { cls := .type "range_iterator", dict := none, data := .fields #[rawInt (x + 1), rawInt (left - 1), rawInt 1], slots := #[] }) ho2 (by show (st.sg.get k).mut = true; rw [e1]; rfl)).split
        have hN := R.N
        have q3 : ledF st.sg ρ 0 (os.set k { cls := .type "range_iterator", dict := none, data := .fields #[rawInt (x + 1), rawInt (left - 1), rawInt 1], slots := #[] }) ++ fc.rest = _ := q3
        rw [q3]
        rw [q2] at hN
        intro q hq
        rcases List.mem_append.mp hq with hq | hq
        · have z := hN q (List.mem_append_left _ hq); exact ⟨(hs'.2 q.1 (p1 q hq)).trans z.1, z.2⟩
        · rcases List.mem_cons.mp hq with rfl | hq
          · exact ⟨hit', hmem.2⟩
          · have z := hN q (List.mem_append_right _ (.tail _ hq)); exact ⟨(hs'.2 q.1 (p2 q hq)).trans z.1, z.2⟩
      have R' := R.set (l := k) (a' := .riter p (x + 1) (left - 1)) hk F' N' rfl (hm := by show (st.sg.get k).mut = true; rw [e1]; rfl)
      exact H h' _ (some _) ⟨_, _, R'⟩ (mkI_rep _ _ _) fun _ => by
        show isIter ((st.sg.set k _).get k) = true
        rw [Tr.get_set, if_pos rfl]; rfl
    | false =>
      first | (obtain ⟨rfl, rfl, rfl⟩ := ret_some h2) | cases h2
      refine wpAny_pyNext_range_end hh hg2 (by have : ¬ 0 < left := fun q => by have := hb.mpr q; cases this
                                               lia) fun h' he' => ?_
      have F' : Fr fc.h₀ fc.env.locals h' m := ⟨R.F.ns.at' fun o e => he' _ o (Ne.symm hmem.2.1) e, fun b ob e => he' b ob (fun q => by rw [q] at e; rw [hmem.2.2] at e; cases e) (R.F.keep b ob e), R.F.above⟩
      exact H h' s.toks none ⟨_, _, R.kill F' (by show (st.sg.get k).mut = true; rw [e1]; rfl) fun q hq hne => he' q.1 q.2 hne (R.N q hq).1⟩ trivial fun q => absurd rfl q
  · first | exact nn h | cases h

set_option tactic.hygienic true in
theorem forTurn_sound {A : Around} {t : Expr} {it : Value} {b : List Stmt} {env : Env} {Q : Flow → Shared → Prop} {s : Shared}
    (h : wpAny (model prog w) A (pyNext it) (fun o s₁ => match o with
      | none => wpAny (model prog w) A (execs [] env) Q NoE s₁
      | some v => wpAny (model prog w) A (letOwnedTupleGo t it v) (fun _ s₂ => wpAny (model prog w) A (assign t env v) (fun _ s₃ => wpAny (model prog w) A (execs b env) (fun f s₄ => match f with
        | .next => codeAny (model prog w) A (.forLoop t it b [] env) (fun r s' => match r with | .ok f => Q f s' | .error _ => False) s₄
        | .cont => codeAny (model prog w) A (.forLoop t it b [] env) (fun r s' => match r with | .ok f => Q f s' | .error _ => False) s₄
        | .brk => Q .next s₄
        | .ret v => Q (.ret v) s₄) NoE s₃) NoE s₂) NoE s₁) NoE s) :
    codeAny (model prog w) A (.forLoop t it b [] env) (fun r s' => match r with | .ok f => Q f s' | .error _ => False) s := by
  refine codeAny_of_tree ?_
  show wpAny _ A ((forTurn t it b [] env).onRaise (fun x => do noteFrame x env; theTreesLotGoes x)) _ _ s
  refine wpAny_noted ?_
  unfold forTurn
  refine wpAny_bind (wpAny_standAt (wpAny_bind (wpAny_onRaise (wpAny_mono h (fun o s₁ h₁ => ?_) fun _ _ z => z.elim))))
  induction o with
  | none =>
    refine wpAny_pure ⟨rfl, codeAny_of_tree ?_⟩
    show wpAny _ A (do return Fin.done (← (execs [] env).onRaise (fun x => do noteFrame x env; theTreesLotGoes x))) _ _ s₁
    exact wpAny_bind (wpAny_onRaise (wpAny_mono h₁ (fun f s' hq => wpAny_pure hq) fun _ _ z => z.elim))
  | some v =>
    refine wpAny_bind (wpAny_mono h₁ (fun _ s₂ h₂ => wpAny_bind (wpAny_mono h₂ (fun _ s₃ h₃ => wpAny_bind (wpAny_mono h₃ (fun f s₄ h₄ => ?_) fun _ _ z => z.elim)) fun _ _ z => z.elim)) fun _ _ z => z.elim)
    induction f with
    | next => exact wpAny_pure ⟨rfl, h₄⟩
    | cont => exact wpAny_pure ⟨rfl, h₄⟩
    | brk => exact wpAny_pure h₄
    | ret u => exact wpAny_pure h₄
/-- the tuple that a list iterator hands on is its own -/
theorem owned_no {A : Around} {k : Nat} {t : Expr} {v : Value} {Q : Unit → Shared → Prop} (r : Rel w.params fi fc ρ st s.heap) (e1 : isIter (st.sg.get k) = true) (H : Q () s) :
    wpAny (model prog w) A (letOwnedTupleGo t (.ref (ρ k)) v) Q NoE s := by
  obtain ⟨m, os, R⟩ := r
  obtain ⟨o, hg2, hc⟩ : ∃ o, s.heap.get? (ρ k) = some o ∧ ∃ n vs, o.cls = .type n ∧ o.data = .fields vs ∧ (["enumerate", "zip", "dict_itemiterator", "dict_reverseitemiterator", "odict_iterator", "itertools.zip_longest", "itertools.pairwise"].contains n) = false := by
    cases q : st.sg.get k with
    | liter l i =>
      obtain ⟨o, ho2, ⟨hll, hc, hd⟩, hm2, hg2⟩ := R.get q (by intro q; cases q)
      exact ⟨o, hg2, _, _, hc, hd, by decide⟩
    | riter p x left =>
      obtain ⟨o, ho2, hob, hm2, hg2⟩ := R.get q (by intro q; cases q)
      have hob : o = { cls := .type "range_iterator", dict := none, data := .fields #[rawInt x, rawInt left, rawInt 1], slots := #[] } := hob
      subst hob
      exact ⟨_, hg2, _, _, rfl, rfl, by decide⟩
    | _ => rw [q] at e1; cases e1
  obtain ⟨n, vs, hc, hd, hno⟩ := hc
  have tup : ∀ a : Addr, wpAny (model prog w) A (do
      let o ← load (ρ k)
      match o.cls, o.data with
      | .type n, .fields vs =>
        if ["enumerate", "zip", "dict_itemiterator", "dict_reverseitemiterator", "odict_iterator", "itertools.zip_longest", "itertools.pairwise"].contains n && vs[0]? == some (rawInt a) then
          rule "for.unpacks-the-owned-tuple"
          updateField (ρ k) 0 .none
      | _, _ => pure ()) Q NoE s := fun a => by
    refine wpAny_bind (wpAny_load hg2 ?_)
    rw [hc, hd]
    simp only [hno, Bool.false_and, Bool.false_eq_true, if_false]
    exact wpAny_pure H
  cases t <;> first
    | exact wpAny_pure H
    | (cases v <;> first | exact wpAny_pure H | exact tup _)

set_option tactic.hygienic true in
theorem stepFr_sound (S : Snd prog w K p loose mean mg mb D n I) {t : Expr} {k : Nat} {b : List Stmt} {a : AFl} {P : List Prop} (h : stepFr I fi t k b st = some (a, st', P)) (hP : Ps P) (O : FrOk K p loose mean mg mb fi fc) (B : Room2 D (n + 1) fc.A) {Q : Flow → Shared → Prop}
    (r : Rel w.params fi fc ρ st s.heap) (H : Pst w.params fi fc ρ st st' s (fun ρ' v => RepF ρ' st'.n a v) Q) :
    codeAny (model prog w) fc.A (.forLoop t (.ref (ρ k)) b [] fc.env) (fun r s' => match r with | .ok f => Q f s' | .error _ => False) s := by
  have B' := B.step
  unfold stepFr at h
  refine bnd_el h hP fun oa st0 P1 P2 h1 h2 hP1 hP2 => ?_
  have hn := nxt_n h1
  have hk : k < st.n := by
    obtain ⟨m, os, R⟩ := r
    refine R.lt fun q => ?_
    unfold nxt at h1
    rw [q] at h1
    first | exact nn h1 | cases h1
  refine forTurn_sound (nxt_sound O.hh h1 hP1 r fun h' tk o r' ro hi => ?_)
  induction oa with
  | none =>
    induction o with
    | some v => exact ro.elim
    | none =>
      first | (obtain ⟨rfl, rfl, rfl⟩ := ret_some h2) | cases h2
      exact wpAny_execs_nil (H ρ h' tk _ ⟨Nat.le_of_eq hn.symm, fun _ _ => rfl⟩ r' rfl)
  | some a =>
    induction o with
    | none => exact ro.elim
    | some v =>
      refine bnd_el h2 hP2 fun _ st1 P3 P4 h3 h4 hP3 hP4 => ?_
      refine bnd_el h4 hP4 fun f st2 P5 P6 h5 h6 hP5 hP6 => ?_
      have rv : RepV ρ st0.n a v := by rw [hn]; exact ro
      refine owned_no (s := { s with heap := h', toks := tk }) r' (hi (by intro q; cases q)) ?_
      refine S.asg _ _ _ _ _ _ _ h3 hP3 O B' ρ { s with heap := h', toks := tk } _ _ r' rv fun ρ1 h1' tk1 _ X1 r1 _ => ?_
      refine S.ss _ _ _ _ _ _ _ h5 hP5 O B' ρ1 { s with heap := h1', toks := tk1 } _ r1 fun ρ2 h2' tk2 v2 X2 r2 q2 => ?_
      have X12 : Ext ρ st.n ρ2 st2.n := by
        have := X1.trans X2
        rw [hn] at this; exact this
      have ek : ρ2 k = ρ k := X12.2 k hk
      induction f with
      | next =>
        obtain rfl := q2
        have := S.fr _ _ _ _ _ _ _ _ _ h6 hP6 O B' ρ2 { s with heap := h2', toks := tk2 } Q r2 (fun ρ' h' tk v X r q => H ρ' h' tk v (X12.trans X) r q)
        rw [ek] at this
        exact this
      | cont =>
        obtain rfl := q2
        have := S.fr _ _ _ _ _ _ _ _ _ h6 hP6 O B' ρ2 { s with heap := h2', toks := tk2 } Q r2 (fun ρ' h' tk v X r q => H ρ' h' tk v (X12.trans X) r q)
        rw [ek] at this
        exact this
      | brk => cases h6; obtain rfl := q2; exact H _ _ _ _ X12 r2 rfl
      | ret b => cases h6; obtain ⟨u, rfl, ru⟩ := q2; exact H _ _ _ _ X12 r2 ⟨u, rfl, ru⟩

set_option tactic.hygienic true in
theorem stepTs_sound (S : Snd prog w K p loose mean mg mb D n I) {xs : List Expr} {a : Bool} {P : List Prop} (h : stepTs I fi xs st = some (a, st', P)) (hP : Ps P) (O : FrOk K p loose mean mg mb fi fc) (B : Room2 D (n + 1) fc.A) {Q : Bool → Shared → Prop}
    (r : Rel w.params fi fc ρ st s.heap) (H : Pst w.params fi fc ρ st st' s (fun _ v => v = a) Q) :
    wpAny (model prog w) fc.A (forIn xs true fun c r => if r = true then do let ok ← isTrue c fc.env (eval c fc.env); pure (ForInStep.yield ok) else pure (ForInStep.yield r)) Q NoE s := by
  have B' := B.step
  have skip : ∀ (xs : List Expr) (Q : Bool → Shared → Prop) (s : Shared), Q false s → wpAny (model prog w) fc.A (forIn xs false fun c r => if r = true then do let ok ← isTrue c fc.env (eval c fc.env); pure (ForInStep.yield ok) else pure (ForInStep.yield r)) Q NoE s := by
    intro xs
    induction xs with
    | nil => intro Q s h; simp only [List.forIn_nil]; exact wpAny_pure h
    | cons x xs ih =>
      intro Q s h
      simp only [List.forIn_cons, Bool.false_eq_true, if_false]
      exact wpAny_bind (wpAny_pure (ih Q s h))
  unfold stepTs at h
  split at h
  · first | (obtain ⟨rfl, rfl, rfl⟩ := ret_some h) | cases h
    simp only [List.forIn_nil]
    exact wpAny_pure (r.pst (tk := s.toks) H rfl)
  · rename_i e rr
    refine bnd_el h hP fun b st1 P1 P2 h1 h2 hP1 hP2 => ?_
    simp only [List.forIn_cons, if_true]
    refine wpAny_bind (wpAny_bind (S.b _ _ _ _ _ _ _ h1 hP1 O B' ρ s _ r fun ρ1 h' tk v X r1 q => ?_))
    subst q
    refine wpAny_pure ?_
    induction v with
    | true => exact S.ts _ _ _ _ _ _ _ h2 hP2 O B' ρ1 _ Q r1 (H.then X)
    | false => cases h2; exact skip rr Q _ (H _ _ _ _ X r1 rfl)
end
end Mine
namespace Mine
open PySem PySem.W PyProof.Rows PySem.Calls PySem.Spec

set_option tactic.hygienic true in
theorem localsOk_iff {names : List (Str × NameKind)} : ∀ {l : List (Str × NameKind)}, localsOk names l = true → ∀ y ∈ l, y.2 = .local → names.lookup y.1 = some .local
  | p :: r, h, y, hy, hl => by
    unfold localsOk at h
    split at h
    · rename_i hp
      split at h
      · rename_i hk
        rcases List.mem_cons.mp hy with rfl | hy
        · rw [kindL_eq, stn_nm] at hk; exact hk
        · exact localsOk_iff h y hy hl
      · first | exact nn h | cases h
    · rename_i hp
      rcases List.mem_cons.mp hy with rfl | hy
      · exact absurd hl hp
      · exact localsOk_iff h y hy hl
set_option tactic.hygienic true in
theorem clos_names {env : Env} {cl : List (Nm × Nat)} {ρ : Nat → Addr} (hc : ∀ x l, look x cl = some l → env.cells.lookup (stn x) = some (ρ l)) : ∀ {names : List (Str × NameKind)} {q : List (Nm × Nat)} {acc : List (Str × Addr)}, closA cl names = some q →
    (∀ y a, (y, a) ∈ acc → env.cells.lookup y = some a) →
    ∃ clv : List (Str × Addr), (forIn names acc (fun (x : Str × NameKind) (r : List (Str × Addr)) => (if (x.2 == .free) = true then (do let a ← cellOf env x.1; pure (ForInStep.yield ((x.1, a) :: r))) else pure (ForInStep.yield r) : Sem (ForInStep (List (Str × Addr)))))) = pure clv ∧
      (∀ y a, (y, a) ∈ clv → env.cells.lookup y = some a) ∧ (∀ z, z ∈ acc → z ∈ clv) ∧ (∀ x l, look x q = some l → look x cl = some l ∧ ∃ a, (stn x, a) ∈ clv)
  | [], q, acc, h, ha => by
    first | (obtain ⟨rfl, rfl, rfl⟩ := ret_some h) | cases h
    exact ⟨acc, rfl, ha, fun _ h => h, fun x l h => by cases h⟩
  | p :: r, q, acc, h, ha => by
    unfold closA at h
    simp only [List.forIn_cons]
    split at h
    · rename_i hp
      split at h
      · rename_i l hl
        split at h
        · rename_i q' hq'
          first | (obtain ⟨rfl, rfl, rfl⟩ := ret_some h) | cases h
          have hcell : cellOf env p.1 = pure (ρ l) := by
            unfold cellOf
            have := hc _ _ hl
            rw [stn_nm] at this
            rw [this]
          obtain ⟨clv, e, h1, h2, h3⟩ := clos_names hc (acc := (p.1, ρ l) :: acc) hq' (fun y a hm => by
            rcases List.mem_cons.mp hm with e | hm
            · cases e; have := hc _ _ hl; rwa [stn_nm] at this
            · exact ha y a hm)
          refine ⟨clv, ?_, h1, fun z hz => h2 z (.tail _ hz), fun x l' hx => ?_⟩
          · rw [if_pos (by rw [hp]; rfl), hcell]
            exact e
          · unfold look at hx
            split at hx
            · rename_i hxe
              have := nmEq_iff.mp hxe
              first | (obtain ⟨rfl, rfl, rfl⟩ := ret_some hx) | cases hx
              subst this
              exact ⟨hl, ρ l, by rw [stn_nm]; exact h2 _ (.head _)⟩
            · exact h3 x l' hx
        · first | exact nn h | cases h
      · first | exact nn h | cases h
    · rename_i hp
      obtain ⟨clv, e, h1, h2, h3⟩ := clos_names hc (acc := acc) h ha
      refine ⟨clv, ?_, h1, h2, h3⟩
      rw [if_neg (by simpa using hp)]
      exact e
theorem lookup_of_mem {y : Str} {a : Addr} : ∀ {l : List (Str × Addr)}, (y, a) ∈ l → ∃ b, l.lookup y = some b ∧ (y, b) ∈ l
  | p :: r, h => by
    rw [List.lookup_cons]
    cases e : y == p.1 with
    | true => exact ⟨p.2, rfl, by rw [beq_iff_eq.mp e]; exact .head _⟩
    | false =>
      rcases List.mem_cons.mp h with q | h
      · rw [← q] at e; simp at e
      · obtain ⟨b, hb, hm⟩ := lookup_of_mem h
        exact ⟨b, hb, .tail _ hm⟩
theorem closure_of {env : Env} {cl : List (Nm × Nat)} {ρ : Nat → Addr} {sc : Scope} {q : List (Nm × Nat)} (hc : ∀ x l, look x cl = some l → env.cells.lookup (stn x) = some (ρ l)) (h : closA cl sc.names = some q) :
    ∃ clv, closureFor sc env = pure clv ∧ ∀ x l, look x q = some l → look x cl = some l ∧ clv.lookup (stn x) = some (ρ l) := by
  obtain ⟨clv, e, h1, _, h3⟩ := clos_names hc (acc := []) h (fun y a hm => by cases hm)
  refine ⟨clv, ?_, fun x l hx => ?_⟩
  · unfold closureFor
    have := e
    simp only [bind_pure_comp] at this ⊢
    rw [this]
    rfl
  · obtain ⟨h4, a, ha⟩ := h3 x l hx
    refine ⟨h4, ?_⟩
    obtain ⟨b, hb, hm⟩ := lookup_of_mem ha
    rw [hb]
    have := h1 _ _ hm
    rw [hc _ _ h4] at this
    exact this.symm

section
variable {prog : Program} {w : World} {K : Frag} {p : Program} {loose : List Str} {mean : ExcName → Option Value} {mg mb : Str → Option Value} {T : PT} {D n : Nat} {I : Evs} {fi : FI} {fc : FC} {ρ : Nat → Addr} {st st' : St} {s : Shared}

/-- the ground a comprehension's block stands on: all but the ledger -/
theorem ground_of {h : Heap} {m : Str → Option Value} {os : List Obj} (R : RelAt w.params fi fc ρ st h m os) : ∃ g : Heap, g.objs.size = h.objs.size ∧ (∀ b o, g.get? b = some o → h.get? b = some o) ∧ (∀ q ∈ ledF st.sg ρ 0 os ++ fc.rest, g.get? q.1 = none) ∧
    fc.h₀.StaysIn g ∧ g.get? fc.env.locals ≠ none ∧ ∀ h1 C m1 led1, Fr g C h1 m1 → News g C h1 led1 → Fr fc.h₀ fc.env.locals h1 m ∧ News fc.h₀ fc.env.locals h1 led1 := by
  obtain ⟨oL, es, ep, hL, hLd, hLk, hLf⟩ := R.F.ns
  have nm : ∀ b o, fc.h₀.get? b = some o → b ∉ (ledF st.sg ρ 0 os ++ fc.rest).map (·.1) := fun b o e q => by
    obtain ⟨p, hp, rfl⟩ := List.mem_map.mp q
    rw [(R.N p hp).2.2] at e; cases e
  have nL : fc.env.locals ∉ (ledF st.sg ρ 0 os ++ fc.rest).map (·.1) := fun q => by
    obtain ⟨p, hp, e⟩ := List.mem_map.mp q
    exact (R.N p hp).2.1 e
  have hLg := hideAll_get ((ledF st.sg ρ 0 os ++ fc.rest).map (·.1)) hL nL
  have st0 : fc.h₀.StaysIn (hideAll h ((ledF st.sg ρ 0 os ++ fc.rest).map (·.1))) := fun b o e => hideAll_get _ (R.F.keep b o e) (nm b o e)
  refine ⟨_, hideAll_size _ _, fun b o e => of_hideAll _ e, fun q hq => hideAll_none _ (List.mem_map_of_mem hq), st0, (fun q => by rw [hLg] at q; cases q), fun h1 C m1 led1 F1 N1 => ?_⟩
  refine ⟨⟨⟨oL, es, ep, F1.keep _ oL hLg, hLd, hLk, hLf⟩, fun b o e => F1.keep b o (st0 b o e), R.F.above⟩, fun p hp => ⟨(N1 p hp).1, fun q => ?_, ?_⟩⟩
  · have := (N1 p hp).2.2; rw [q, hLg] at this; cases this
  · cases q : fc.h₀.get? p.1 with
    | none => rfl
    | some o => have := (N1 p hp).2.2; rw [st0 _ _ q] at this; cases this

theorem compTurn_sound {A : Around} {t elt iter : Expr} {ifs : List Expr} {sc : Scope} {pos : Pos} {it acc : Value} {env : Env} {Q : Unit → Shared → Prop} {s : Shared}
    (h : wpAny (model prog w) A (pyNext it) (fun o s₁ => match o with
      | none => Q () s₁
      | some v => wpAny (model prog w) A (letOwnedTupleGo t it v) (fun _ s₂ => wpAny (model prog w) A (assign t env v) (fun _ s₃ =>
          wpAny (model prog w) A (forIn ifs true fun c r => if r = true then do let ok ← isTrue c env (eval c env); pure (ForInStep.yield ok) else pure (ForInStep.yield r)) (fun ok s₄ =>
            if ok = true then wpAny (model prog w) A (eval elt env) (fun x s₅ => wpAny (model prog w) A (call (.builtin "list.append") [acc, x]) (fun _ s₆ =>
              codeAny (model prog w) A (.compLoop (.ListComp elt [⟨t, iter, ifs, 0⟩] sc pos) 0 it acc env) (fun r s' => match r with | .ok _ => Q () s' | .error _ => False) s₆) NoE s₅) NoE s₄
            else codeAny (model prog w) A (.compLoop (.ListComp elt [⟨t, iter, ifs, 0⟩] sc pos) 0 it acc env) (fun r s' => match r with | .ok _ => Q () s' | .error _ => False) s₄) NoE s₃) NoE s₂) NoE s₁) NoE s) :
    codeAny (model prog w) A (.compLoop (.ListComp elt [⟨t, iter, ifs, 0⟩] sc pos) 0 it acc env) (fun r s' => match r with | .ok _ => Q () s' | .error _ => False) s := by
  refine codeAny_of_tree ?_
  show wpAny _ A ((compTurn (.ListComp elt [⟨t, iter, ifs, 0⟩] sc pos) 0 it acc env).onRaise (fun x => do noteFrame x env; theTreesLotGoes x)) _ _ s
  refine wpAny_noted ?_
  rw [compTurn_list]
  refine wpAny_bind (wpAny_standAt (wpAny_bind (wpAny_mono h (fun o s₁ h₁ => ?_) fun _ _ z => z.elim)))
  induction o with
  | none => exact wpAny_pure h₁
  | some v =>
    refine wpAny_bind (wpAny_mono h₁ (fun _ s₂ h₂ => ?_) fun _ _ z => z.elim)
    refine wpAny_bind (wpAny_mono h₂ (fun _ s₃ h₃ => ?_) fun _ _ z => z.elim)
    refine wpAny_bind (wpAny_mono h₃ (fun ok s₄ h₄ => ?_) fun _ _ z => z.elim)
    induction ok with
    | true =>
      rw [if_pos rfl] at h₄
      exact wpAny_bind (wpAny_bind (wpAny_mono h₄ (fun x s₅ h₅ => wpAny_bind (wpAny_mono h₅ (fun _ s₆ h₆ => wpAny_pure (wpAny_pure ⟨rfl, h₆⟩)) fun _ _ z => z.elim)) fun _ _ z => z.elim))
    | false =>
      rw [if_neg (by decide)] at h₄
      exact wpAny_pure ⟨rfl, h₄⟩
end
end Mine
namespace Mine
open PySem PySem.W PyProof.Rows PySem.Calls PySem.Spec

section
variable {prog : Program} {w : World} {K : Frag} {p : Program} {loose : List Str} {mean : ExcName → Option Value} {mg mb : Str → Option Value} {T : PT} {D n : Nat} {I : Evs} {fi : FI} {fc : FC} {ρ : Nat → Addr} {st st' : St} {s : Shared}

theorem stepCp_sound (S : Snd prog w K p loose mean mg mb D n I) {t elt : Expr} {ifs : List Expr} {k j : Nat} {P : List Prop} (h : stepCp I fi t elt ifs k j st = some ((), st', P)) (hP : Ps P) (O : FrOk K p loose mean mg mb fi fc) (B : Room2 D (n + 1) fc.A) {Q : Unit → Shared → Prop}
    {iter : Expr} {sc : Scope} {pos : Pos} (r : Rel w.params fi fc ρ st s.heap) (hj : j < st.n) (H : Pst w.params fi fc ρ st st' s (fun _ _ => True) Q) :
    codeAny (model prog w) fc.A (.compLoop (.ListComp elt [⟨t, iter, ifs, 0⟩] sc pos) 0 (.ref (ρ k)) (.ref (ρ j)) fc.env) (fun r s' => match r with | .ok _ => Q () s' | .error _ => False) s := by
  have B' := B.step
  unfold stepCp at h
  refine bnd_el h hP fun oa st0 P1 P2 h1 h2 hP1 hP2 => ?_
  have hn := nxt_n h1
  have hk : k < st.n := by
    obtain ⟨m, os, R⟩ := r
    refine R.lt fun q => ?_
    unfold nxt at h1
    rw [q] at h1
    first | exact nn h1 | cases h1
  refine compTurn_sound (nxt_sound O.hh h1 hP1 r fun h' tk o r' ro hi => ?_)
  induction oa with
  | none =>
    induction o with
    | some v => exact ro.elim
    | none =>
      first | (obtain ⟨rfl, rfl, rfl⟩ := ret_some h2) | cases h2
      exact H ρ h' tk () ⟨Nat.le_of_eq hn.symm, fun _ _ => rfl⟩ r' trivial
  | some a =>
    cases o with
    | none => exact ro.elim
    | some v =>
      refine bnd_el h2 hP2 fun _ st1 P3 P4 h3 h4 hP3 hP4 => ?_
      refine bnd_el h4 hP4 fun c st2 P5 P6 h5 h6 hP5 hP6 => ?_
      have rv : RepV ρ st0.n a v := by rw [hn]; exact ro
      refine owned_no (s := { s with heap := h', toks := tk }) r' (hi (by intro q; cases q)) ?_
      refine S.asg _ _ _ _ _ _ _ h3 hP3 O B' ρ { s with heap := h', toks := tk } _ _ r' rv fun ρ1 h1' tk1 _ X1 r1 _ => ?_
      refine S.ts _ _ _ _ _ _ _ h5 hP5 O B' ρ1 { s with heap := h1', toks := tk1 } _ r1 fun ρ2 h2' tk2 v2 X2 r2 q2 => ?_
      subst q2
      have X12 : Ext ρ st.n ρ2 st2.n := by
        have := X1.trans X2
        rw [hn] at this; exact this
      induction v2 with
      | false =>
        rw [if_neg (by decide)]
        have ek : ρ2 k = ρ k := X12.2 k hk
        have ej : ρ2 j = ρ j := X12.2 j hj
        have := S.cp _ _ _ _ _ _ _ _ _ _ h6 hP6 O B' ρ2 { s with heap := h2', toks := tk2 } Q iter sc pos r2 (Nat.lt_of_lt_of_le hj X12.1) (fun ρ' h' tk v X r q => H ρ' h' tk v (X12.trans X) r q)
        rw [ek, ej] at this
        exact this
      | true =>
        rw [if_pos rfl]
        refine bnd_el h6 hP6 fun u st3 P7 P8 h7 h8 hP7 hP8 => ?_
        refine bnd_el h8 hP8 fun _ st4 P9 P10 h9 h10 hP9 hP10 => ?_
        refine S.e _ _ _ _ _ _ _ h7 hP7 O B' ρ2 { s with heap := h2', toks := tk2 } _ r2 fun ρ3 h3' tk3 v3 X3 r3 q3 => ?_
        have X13 := X12.trans X3
        have ej3 : ρ3 j = ρ j := X13.2 j hj
        have hb : bcall .append [.ref j, u] st3 = some (_, st4, P9) := h9
        refine bcall_sound (s := { s with heap := h3', toks := tk3 }) (b := .append) (cvs := [.ref (ρ j), v3]) O.hh hb hP9 r3 ⟨⟨Nat.lt_of_lt_of_le hj X13.1, by rw [ej3]⟩, q3, trivial⟩ fun ρ4 h4' tk4 _ X4 r4 _ => ?_
        have X14 := X13.trans X4
        have ek : ρ4 k = ρ k := X14.2 k hk
        have ej : ρ4 j = ρ j := X14.2 j hj
        have := S.cp _ _ _ _ _ _ _ _ _ _ h10 hP10 O B' ρ4 { s with heap := h4', toks := tk4 } Q iter sc pos r4 (Nat.lt_of_lt_of_le hj X14.1) (fun ρ' h' tk v X r q => H ρ' h' tk v (X14.trans X) r q)
        rw [ek, ej] at this
        exact this

/-- the block's own dictionary is let go -/
theorem Rel.dropC {C : Addr} {oC : Obj} {h h' : Heap} (r : Rel w.params fi { fc with rest := (C, oC) :: fc.rest } ρ st h) (hC : ∀ p ∈ fc.rest, p.1 ≠ C) (hs : Heap.SameBut C h h') (hoC : ∃ es ep, oC.data = .dict es ep) : Rel w.params fi fc ρ st h' := by
  obtain ⟨m, os, R⟩ := r
  have hmem := R.N (C, oC) (List.mem_append_right _ (.head _))
  refine ⟨m, os, ⟨R.F.ns.sameBut hs (Ne.symm hmem.2.1), fun b o e => (hs.2 b fun q => by rw [q] at e; rw [hmem.2.2] at e; cases e).trans (R.F.keep b o e), R.F.above⟩, fun p hp => ?_, R.mu, R.len, R.os, R.out, R.inj, fun i hi p hp => R.ap i hi p (.tail _ hp), R.cl, R.lo, fun c xs hc => ?_⟩
  · have hp' : p ∈ ledF st.sg ρ 0 os ++ (C, oC) :: fc.rest ∧ p.1 ≠ C := by
      rcases List.mem_append.mp hp with hp | hp
      · refine ⟨List.mem_append_left _ hp, ?_⟩
        obtain ⟨i, o, ho, hd, rfl⟩ := mem_ledF.mp hp
        rw [Nat.zero_add] at hd ⊢
        intro q
        cases e : st.sg.get i with
        | dead => exact hd e
        | inst D d =>
          have ro := R.os i o ho
          rw [e] at ro
          have h1 := (R.N (ρ i, o) (List.mem_append_left _ (mem_ledF.mpr ⟨i, o, ho, by rw [Nat.zero_add]; exact hd, by rw [Nat.zero_add]⟩))).1
          have q : ρ i = C := q
          rw [show (ρ i, o).1 = C from q, hmem.1] at h1
          first | (obtain ⟨rfl, rfl, rfl⟩ := ret_some h1) | cases h1
          obtain ⟨es, ep, hoC⟩ := hoC; rw [ro.2] at hoC; cases hoC
        | tup xs =>
          have ro := R.os i o ho
          rw [e] at ro
          have h1 := (R.N (ρ i, o) (List.mem_append_left _ (mem_ledF.mpr ⟨i, o, ho, by rw [Nat.zero_add]; exact hd, by rw [Nat.zero_add]⟩))).1
          have q : ρ i = C := q
          rw [show (ρ i, o).1 = C from q, hmem.1] at h1
          first | (obtain ⟨rfl, rfl, rfl⟩ := ret_some h1) | cases h1
          obtain ⟨es, ep, hoC⟩ := hoC
          obtain ⟨vs, k, rfl, _⟩ := ro
          cases hoC
        | rng q1 x y =>
          have ro := R.os i o ho
          rw [e] at ro
          have h1 := (R.N (ρ i, o) (List.mem_append_left _ (mem_ledF.mpr ⟨i, o, ho, by rw [Nat.zero_add]; exact hd, by rw [Nat.zero_add]⟩))).1
          have q : ρ i = C := q
          rw [show (ρ i, o).1 = C from q, hmem.1] at h1
          first | (obtain ⟨rfl, rfl, rfl⟩ := ret_some h1) | cases h1
          obtain ⟨es, ep, hoC⟩ := hoC
          obtain ⟨_, t, u, v, rfl⟩ := ro
          cases hoC
        | _ => exact R.ap i (by rw [e]; rfl) (C, oC) (.head _) q.symm
      · exact ⟨List.mem_append_right _ (.tail _ hp), hC p hp⟩
    exact ⟨(hs.2 _ hp'.2).trans (R.N p hp'.1).1, (R.N p hp'.1).2⟩
  · obtain ⟨o, ho, vs, n, rfl, hv⟩ := R.im c xs hc
    rcases List.mem_cons.mp ho with q | ho
    · cases q
      obtain ⟨es, ep, hoC⟩ := hoC
      cases hoC
    · exact ⟨_, ho, vs, n, rfl, hv⟩

theorem compE_el {elt target iter : Expr} {ifs : List Expr} {sc : Scope} {x : AV × St × List Prop} {C : Prop} (h : compE I fi elt target iter ifs sc st = some x) (H : plainIt iter = true → noCell sc.names = true → localsOk sc.names sc.names = true → sc.kind = .function → ∀ cl, closA fi.cl sc.names = some cl →
    (bnd (I.e fi iter st) fun a st => opt (asRef a) fun l => bnd (mkIt l st) fun it st => opt (asRef it) fun k => bnd (alloc (.list none []) st) fun _ st1 =>
        bnd (I.cp ⟨relabel sc (dumEnv fi.sc), cl, false, none⟩ target elt ifs k st.n { st1 with mu := [] }) fun _ st' => ret (.ref st.n) { st' with mu := st1.mu }) = some x → C) : C := by
  unfold compE at h
  cases hb : andB (both (plainIt iter) (noCell sc.names)) (localsOk sc.names sc.names) with
  | false => rw [hb] at h; exact nn h
  | true =>
    rw [hb] at h
    obtain ⟨h1, h2⟩ := andB_iff hb
    have h3 : plainIt iter = true ∧ noCell sc.names = true := by
      cases q : plainIt iter with
      | true => rw [q] at h1; exact ⟨rfl, h1⟩
      | false => rw [q] at h1; cases h1
    cases hk : sc.kind with
    | function => rw [hk] at h; exact opt_el h fun cl hc h => H h3.1 h3.2 h2 hk cl hc h
    | _ => rw [hk] at h; exact nn h

set_option tactic.hygienic true in
/-- a comprehension: what it hands on, and how the frame it stands in is told -/
theorem compr_sound (S : Snd prog w K p loose mean mg mb D n I) {elt : Expr} {gens : List Comprehension} {sc : Scope} {pos : Pos} {a : AV} {P : List Prop} (h : stepE T I fi (.ListComp elt gens sc pos) st = some (a, st', P)) (hP : Ps P)
    (O : FrOk K p loose mean mg mb fi fc) (B : Room2 D (n + 1) fc.A) {Q : Value → Shared → Prop} (use : Option (Value → Sem Unit)) (r : Rel w.params fi fc ρ st s.heap)
    (H : ∀ ρ' h' tk v C oC m', Ext ρ st.n ρ' st'.n → Rel w.params fi { fc with rest := (C, oC) :: fc.rest } ρ' st' h' → (∀ p ∈ fc.rest, p.1 ≠ C) → (∃ es ep, oC.data = .dict es ep) → RepV ρ' st'.n a v → h'.Ns C m' →
      compPost (model prog w) fc.A NoE use Q v C (.ok .next) { s with heap := h', toks := tk }) :
    wpAny (model prog w) fc.A (comprehension (.ListComp elt gens sc pos) sc fc.env (firstIterPos gens pos) (newList []) (firstAsync gens) (firstIter gens fc.env) use) Q NoE s := by
  have B' := B.step
  unfold stepE at h
  dsimp only at h
  split at h
  · rename_i target iter ifs
    refine compE_el h fun hpl hnc hlocs hkind cl hclos h => ?_
    refine bnd_el h hP fun x st1 P1 P2 h1 h2 hP1 hP2 => opt_el h2 fun l el h2 => ?_
    refine bnd_el h2 hP2 fun it st2 P3 P4 h3 h4 hP3 hP4 => opt_el h4 fun kI ei h4 => ?_
    refine bnd_el h4 hP4 fun acc st3 P5 P6 h5 h6 hP5 hP6 => ?_
    obtain ⟨rfl, rfl, rfl⟩ := ret_some h5
    obtain rfl := asRef_eq el
    obtain rfl := asRef_eq ei
    refine bnd_el h6 hP6 fun _ st4 P7 P8 h7 h8 hP7 hP8 => ?_
    obtain ⟨rfl, rfl, rfl⟩ := ret_some h8
    clear h h2 h4 h6 h8 h5
    have hcl0 : ∀ x l, look x fi.cl = some l → fc.env.cells.lookup (stn x) = some (ρ l) := by
      obtain ⟨m, os, R⟩ := r
      exact fun x l hx => (R.cl x l hx).2
    obtain ⟨clv, hcv, hcl⟩ := closure_of hcl0 hclos
    refine wpAny_comprehension_free (g := ⟨target, iter, ifs, 0⟩) (gs := []) rfl (plain_folds hpl fc.env) hcv hkind (localsOk_iff hlocs) ?_
    show wpAny _ _ (eval iter fc.env) _ _ _
    refine S.e _ _ _ _ _ _ _ h1 hP1 O B' ρ s _ r fun ρ1 h1' tk1 v1 X1 r1 q1 => ?_
    obtain ⟨hl1, rfl⟩ := q1
    refine mkIt_sound (s := { s with heap := h1', toks := tk1 }) h3 r1 hl1 fun ρ2 h2' tk2 v2 X2 r2 q2 => ?_
    obtain ⟨hI, rfl⟩ := q2
    refine alloc_list (s := { s with heap := h2', toks := tk2 }) r2 (xs := []) (pre := none) (vs := []) trivial (Nat.zero_le _) fun ρ3 h3' tk3 v3 X3 r3 q3 => ?_
    have X3 : Ext ρ2 st2.n ρ3 (st2.n + 1) := X3
    obtain ⟨hj3, rfl⟩ := q3
    have ek : ρ3 kI = ρ2 kI := X3.2 _ hI
    have X13 : Ext ρ st.n ρ3 (st2.n + 1) := X1.trans (X2.trans X3)
    refine wpAny_newFunctionEnv (noCell_iff hnc) (by intro y hy; simp at hy) (fun h₁ hns hsb => ?_) hkind
    obtain ⟨m3, os3, R3⟩ := r3
    obtain ⟨g, hg1, hg2, hg3, hg4, hg5, hg6⟩ := ground_of R3
    dsimp only at hns hsb ⊢
    have kp : ∀ b o, h3'.get? b = some o → h₁.get? b = some o := fun b o e => hsb.extBut b o (Nat.ne_of_lt (Heap.lt_size e)) (Heap.get?_push_of_some _ e)
    have F' : Fr g h3'.objs.size h₁ (fun x => ([] : List (Str × Value)).reverse.lookup x) := ⟨hns, fun b o e => kp b o (hg2 b o e), Nat.le_of_eq hg1⟩
    have N' : News g h3'.objs.size h₁ (ledF _ ρ3 0 os3 ++ fc.rest) := fun q hq => ⟨kp _ _ (R3.N q hq).1, Nat.ne_of_lt (Heap.lt_size (R3.N q hq).1), hg3 q hq⟩
    let fc' : FC := { A := fc.A, A₀ := fc.A₀, base := fc.base, outer := fc.outer, h₀ := g, env := compEnvC sc clv h3'.objs.size fc.env, rest := fc.rest }
    let fi' : FI := ⟨relabel sc (dumEnv fi.sc), cl, false, none⟩
    have O' : FrOk K p loose mean mg mb fi' fc' := ⟨O.X.keeps hg4, O.T.keeps hg4, O.hh, hkind, by show relabel sc fc.env = relabel sc (dumEnv fi.sc); rw [← O.sc]; rfl, O.gl, O.bl, (fun z => by cases z), fun b xs z => by cases z⟩
    have Rc : RelAt w.params fi' fc' ρ3 { (⟨st2.mu, st2.sg.set st2.n (.list none []), st2.n + 1, st2.or, st2.ov, st2.imm⟩ : St) with mu := [] } h₁ _ os3 :=
      ⟨F', N', (fun x b hb => by cases hb), R3.len, R3.os, R3.out, R3.inj, R3.ap, (fun x l' hx => by
        obtain ⟨c1, c2⟩ := hcl x l' hx
        obtain ⟨c3, c4⟩ := R3.cl x l' c1
        refine ⟨c3, ?_⟩
        show clv.lookup (stn x) = _
        rw [c2]
        have := hcl0 x l' c1
        rw [c4] at this
        exact this.symm), R3.lo, R3.im⟩
    have loop : ∀ tk, codeAny (model prog w) fc.A (.compLoop (.ListComp elt [⟨target, iter, ifs, 0⟩] sc pos) 0 (.ref (ρ2 kI)) (.ref (ρ3 st2.n)) (compEnvC sc clv h3'.objs.size fc.env))
        (compPost (model prog w) fc.A NoE use Q (.ref (ρ3 st2.n)) h3'.objs.size) { s with heap := h₁, toks := tk } := fun tk => by
      have := S.cp fi' fc' target elt ifs kI st2.n _ _ _ h7 hP7 O' B' ρ3 { s with heap := h₁, toks := tk } (fun _ s' => compPost (model prog w) fc.A NoE use Q (.ref (ρ3 st2.n)) h3'.objs.size (.ok .next) s') iter sc pos ⟨_, _, Rc⟩ (Nat.lt_succ_self _)
        (fun ρ4 h4' tk4 _ X4 r4 _ => by
          have X4 : Ext ρ3 (st2.n + 1) ρ4 st4.n := X4
          obtain ⟨m4, os4, R4⟩ := r4
          obtain ⟨F4, N4⟩ := hg6 _ _ _ _ R4.F R4.N
          obtain ⟨oC, es, ep, hgC, hdC, hkC, hfC⟩ := id R4.F.ns
          have hgC : h4'.get? h3'.objs.size = some oC := hgC
          refine H ρ4 h4' tk4 (.ref (ρ3 st2.n)) h3'.objs.size oC m4 (X13.trans X4) ⟨m3, os4, F4, ?_, ?_, R4.len, R4.os, R4.out, R4.inj, ?_, ?_, R4.lo, fun c xs hc => by obtain ⟨o, ho, q⟩ := R4.im c xs hc; exact ⟨o, .tail _ ho, q⟩⟩ ?_ ⟨es, ep, hdC⟩ ⟨Nat.lt_of_lt_of_le (Nat.lt_succ_self _) X4.1, by rw [X4.2 _ (Nat.lt_succ_self _)]⟩ R4.F.ns
          · intro q hq
            rcases List.mem_append.mp hq with hq | hq
            · exact N4 q (List.mem_append_left _ hq)
            · rcases List.mem_cons.mp hq with rfl | hq
              · refine ⟨hgC, fun z => ?_, ?_⟩
                · have := R3.F.ns.lt
                  rw [← z] at this
                  exact Nat.lt_irrefl _ this
                · cases z : fc.h₀.get? h3'.objs.size with
                  | none => rfl
                  | some o => exact absurd (Heap.lt_size (R3.F.keep _ _ z)) (Nat.lt_irrefl _)
              · exact N4 q (List.mem_append_right _ hq)
          · intro x b hb
            obtain ⟨v, hv, rv⟩ := R3.mu x b hb
            exact ⟨v, hv, rv.ext X4⟩
          · intro i hi q hq
            rcases List.mem_cons.mp hq with rfl | hq
            · obtain ⟨o, _, _, hm, _⟩ := R4.get (l := i) rfl (AO.mut_live hi)
              exact fun z => (R4.N _ hm).2.1 z.symm
            · exact R4.ap i hi q hq
          · intro x l' hx
            obtain ⟨c3, c4⟩ := R3.cl x l' hx
            exact ⟨Nat.lt_of_lt_of_le c3 X4.1, by rw [X4.2 _ c3]; exact c4⟩
          · intro q hq
            exact (R4.N q (List.mem_append_right _ hq)).2.1)
      rw [ek] at this
      refine codeAny_mono this fun r s' hr => ?_
      induction r with
      | ok f => (cases use <;> exact hr)
      | error e => exact hr.elim
    have hlive : ∀ ao, (⟨[], st2.sg.set st2.n (.list none []), st2.n + 1, st2.or, st2.ov, st2.imm⟩ : St).sg.get kI = ao → st2.sg.get kI = ao := fun ao e => by
      have e : (st2.sg.set st2.n (.list none [])).get kI = ao := e
      rw [Tr.get_set, if_neg (Nat.ne_of_lt hI)] at e
      exact e
    unfold mkIt at h3
    split at h3
    · rename_i pre xs e1
      first | (obtain ⟨rfl, rfl, rfl⟩ := ret_some h3) | cases h3
      refine codeAny_compStart_list (loop _) (wpAny_pyIter_listiter (i := 0) (l := ρ3 l) ?_ (loop _))
      obtain ⟨o, ho, ⟨hll, hc, hd⟩, hm, hgt⟩ := Rc.get (l := st1.n) (a := .liter l 0) (by
        show ((st1.sg.set st1.n (.liter l 0)).set (st1.n + 1) (.list none [])).get st1.n = _
        rw [Tr.get_set, if_neg (by lia), Tr.get_set, if_pos rfl]) (by intro q; cases q)
      rw [ek] at hgt
      exact ⟨o, hgt, hc, hd⟩
    · rename_i q x y e1
      first | (obtain ⟨rfl, rfl, rfl⟩ := ret_some h3) | cases h3
      obtain ⟨o, ho, hob, hm, hgt⟩ := Rc.get (l := st1.n) (a := .riter q x (if x < y then y - x else 0)) (by
        show ((st1.sg.set st1.n (.riter q x (if x < y then y - x else 0))).set (st1.n + 1) (.list none [])).get st1.n = _
        rw [Tr.get_set, if_neg (by lia), Tr.get_set, if_pos rfl]) (by intro q; cases q)
      rw [ek] at hgt
      have hob : o = { cls := .type "range_iterator", dict := none, data := .fields #[rawInt x, rawInt (if x < y then y - x else 0), rawInt 1], slots := #[] } := hob
      subst hob
      exact codeAny_compStart_list (loop _) (wpAny_pyIter_rangeiter hgt (loop _))
    · first | exact nn h3 | cases h3
  · first | exact nn h | cases h
end
end Mine
namespace Mine
open PySem PySem.W PyProof.Rows PySem.Calls PySem.Spec

theorem lookup_of_memV {x : Str} {v : Value} : ∀ {l : List (Str × Value)}, (l.map (·.1)).Nodup → (x, v) ∈ l → l.lookup x = some v
  | (y, u) :: r, nd, h => by
    rw [List.map_cons, List.nodup_cons] at nd
    rw [List.lookup_cons]
    rcases List.mem_cons.mp h with h | h
    · cases h; simp
    · have : x ≠ y := fun q => nd.1 (List.mem_map.mpr ⟨(x, v), h, q⟩)
      rw [show (x == y) = false from by simpa using this]
      exact lookup_of_memV nd.2 h

section
variable {prog : Program} {w : World} {K : Frag} {p : Program} {loose : List Str} {mean : ExcName → Option Value} {mg mb : Str → Option Value} {T : PT} {D n : Nat} {I : Evs} {fi : FI} {fc : FC} {ρ : Nat → Addr} {st st' : St} {s : Shared}

set_option tactic.hygienic true in
theorem zipP_some {m : Nat} : ∀ {ps : List Nm} {vs : List AV} {mu : List (Nm × AV)} {cvs : List Value}, zipP ps vs = some mu → All2 (RepV ρ m) vs cvs →
    cvs.length = ps.length ∧ ∀ x a, look x mu = some a → ∃ v, (stn x, v) ∈ (ps.map stn).zip cvs ∧ RepV ρ m a v
  | [], [], mu, [], h, _ => by cases h; exact ⟨rfl, fun x a h => by cases h⟩
  | y :: ps, b :: vs, mu, v :: cvs, h, ha => by
    unfold zipP at h
    split at h
    · rename_i r hr
      first | (obtain ⟨rfl, rfl, rfl⟩ := ret_some h) | cases h
      obtain ⟨h1, h2⟩ := zipP_some hr ha.2
      refine ⟨by simp [h1], fun x a hx => ?_⟩
      unfold look at hx
      split at hx
      · rename_i q
        first | (obtain ⟨rfl, rfl, rfl⟩ := ret_some hx) | cases hx
        rw [nmEq_iff.mp q]
        exact ⟨v, .head _, ha.1⟩
      · obtain ⟨u, hu, ru⟩ := h2 x a hx
        exact ⟨u, .tail _ hu, ru⟩
    · first | exact nn h | cases h
  | [], [], _, _ :: _, _, ha => ha.elim
  | [], _ :: _, _, _, h, _ => by cases h
  | _ :: _, [], _, _, h, _ => by cases h
  | _ :: _, _ :: _, _, [], _, ha => ha.elim

theorem zip_keys : ∀ {ps : List Nm} {cvs : List Value}, cvs.length = ps.length → ((ps.map stn).zip cvs).map (·.1) = ps.map stn
  | [], [], _ => rfl
  | x :: ps, v :: cvs, h => by
    show stn x :: ((ps.map stn).zip cvs).map (·.1) = _
    rw [zip_keys (by simpa using h)]; rfl

set_option tactic.hygienic true in
theorem enter_sound (S : Snd prog w K p loose mean mg mb D n I) {f : Addr} {g : FnI} (G : FnRec K f g) {A : Around} (hd : A.depth ≤ fc.A.depth + 1) (hu : A.units ≤ fc.A.units + 1) (hfr : A.frames = fc.A.frames) (hhA : A.handled = none)
    {vs : List AV} {cvs : List Value} {a : AV} {P : List Prop} (h : enter I g vs st = some (a, st', P)) (hP : Ps P) (O : FrOk K p loose mean mg mb fi fc) (own : fi.own = true) (B : Room2 D (n + 1) fc.A) (big : D ≤ 900)
    {R : Result → Shared → Prop} (r : Rel w.params fi fc ρ st s.heap) (rv : All2 (RepV ρ st.n) vs cvs)
    (H : ∀ ρ' h' tk v, Ext ρ st.n ρ' st'.n → Rel w.params fi fc ρ' st' h' → RepV ρ' st'.n a v → R (.ok (.ret v)) { s with heap := h', toks := tk }) :
    codeAny (model prog w) A (.call (.ref f) ⟨cvs, []⟩) R s := by
  obtain ⟨m, os, R0⟩ := r
  obtain ⟨oc, od, name, qual, params, dV, kV, doc, pm, an, cdv, ct, osl, ho, hcd, hbind⟩ := G.ex
  obtain ⟨hB, hF, hL⟩ := O.own own
  unfold enter at h
  split at h
  · rename_i mu hz
    refine bnd_el h hP fun fl st1 P1 P2 h1 h2 hP1 hP2 => ?_
    first | (obtain ⟨rfl, rfl, rfl⟩ := ret_some h2) | cases h2
    obtain ⟨hlen, hmu⟩ := zipP_some hz rv
    have hk := zip_keys hlen
    have hA : A.frames = some (fc.env :: fc.outer) := hfr.trans hF
    refine code_def (binds := (g.ps.map stn).zip cvs) (s := s) hB R0.F O.X R0.N O.T hA hL O.hk ho hcd ?_ (BindsTo.of_eq (hbind cvs hlen)) (fun y hy => ?_) (fun g' L' h₁ FG F' N' B' X' T' => ?_) G.co G.gen G.kind G.cell
    · have := B.1
      have e : recursionLimit = 1000 := rfl
      rw [e]; lia
    · have : y.1 ∈ g.ps.map stn := by rw [← hk]; exact List.mem_map.mpr ⟨y, hy, rfl⟩
      obtain ⟨x, hx, hxy⟩ := List.mem_map.mp this
      rw [← hxy]; exact G.loc x hx
    · have O' : FrOk K p loose mean mg mb ⟨g.sc, [], true, none⟩ { A := A.deeper (envOf qual g.sc L' f cdv), A₀ := A, base := fc.base, outer := fc.env :: fc.outer, h₀ := g', env := envOf qual g.sc L' f cdv, rest := fc.rest } :=
        ⟨X', T', hhA, G.kind, rfl, rfl, rfl, (fun _ => ⟨B', Around.frames_deeper hA, rfl⟩), fun b xs z => by cases z⟩
      have Rc : RelAt w.params ⟨g.sc, [], true, none⟩ { A := A.deeper (envOf qual g.sc L' f cdv), A₀ := A, base := fc.base, outer := fc.env :: fc.outer, h₀ := g', env := envOf qual g.sc L' f cdv, rest := fc.rest } ρ { st with mu := mu } h₁ _ os :=
        ⟨F', N', (fun x b hb => by
          obtain ⟨v, hv, rv⟩ := hmu x b hb
          refine ⟨v, lookup_of_memV ?_ (List.mem_reverse.mpr hv), rv⟩
          rw [List.map_reverse, hk]
          refine (List.reverse_perm _).nodup_iff.mpr ?_
          exact List.Pairwise.map _ (fun a b q e => q (stn_inj e)) G.nd), R0.len, R0.os, R0.out, R0.inj, R0.ap, (fun x l hx => by cases hx), R0.lo, R0.im⟩
      refine wpAny_mono (S.ss _ _ _ _ _ _ _ h1 hP1 O' ⟨?_, ?_⟩ ρ { s with heap := h₁, toks := s.toks + ((g.ps.map stn).zip cvs).length } _ ⟨_, _, Rc⟩ fun ρ1 h1' tk v X r1 q => ?_) (fun _ _ x => x) (fun _ _ x => x.elim)
      · show A.depth + 1 + 2 * n ≤ D
        have := B.1; lia
      · show A.units + 3 + 10 * n ≤ 10 * D
        have := B.2; lia
      · obtain ⟨m1, os1, R1⟩ := r1
        have X : Ext ρ st.n ρ1 st1.n := X
        refine leaveK_ R1.F R1.N fun F2 N2 => H ρ1 h1' tk _ X ⟨m, os1, F2, N2, (fun x b hb => ?_), R1.len, R1.os, R1.out, R1.inj, R1.ap, (fun x l hx => ?_), R1.lo, R1.im⟩ ?_
        · obtain ⟨u, hu, ru⟩ := R0.mu x b hb
          exact ⟨u, hu, ru.ext X⟩
        · obtain ⟨c1, c2⟩ := R0.cl x l hx
          exact ⟨Nat.lt_of_lt_of_le c1 X.1, by rw [c2, X.2 l c1]⟩
        · induction fl with
          | next => obtain rfl := q; rfl
          | brk => obtain rfl := q; rfl
          | cont => obtain rfl := q; rfl
          | ret b => obtain ⟨u, rfl, ru⟩ := q; exact ru
  · first | exact nn h | cases h
end
end Mine
namespace Mine
open PySem PySem.W PyProof.Rows PySem.Calls PySem.Spec

section
variable {prog : Program} {w : World} {K : Frag} {p : Program} {loose : List Str} {mean : ExcName → Option Value} {mg mb : Str → Option Value} {T : PT} {D n : Nat} {I : Evs} {fi : FI} {fc : FC} {ρ : Nat → Addr} {st st' : St} {s : Shared}

theorem Room2.zero {D n : Nat} {A : Around} (h : Room2 D n A) : Room2 D 0 A := ⟨by have := h.1; lia, by have := h.2; lia⟩

set_option tactic.hygienic true in
theorem stepCall_sound (S : Snd prog w K p loose mean mg mb D n I) (ok : PTOk3 prog w K p loose mean mg mb T D) {own : Bool} {f : Fn} {vs : List AV} {cvs : List Value} {a : AV} {P : List Prop} (h : stepCall T I own f vs st = some (a, st', P)) (hP : Ps P)
    (O : FrOk K p loose mean mg mb fi fc) (ho : own = true → fi.own = true) (B : Room2 D (n + 1) fc.A) {Q : Value → Shared → Prop} (r : Rel w.params fi fc ρ st s.heap) (rv : All2 (RepV ρ st.n) vs cvs)
    (H : Pst w.params fi fc ρ st st' s (fun ρ' v => RepV ρ' st'.n a v) Q) : wpAny (model prog w) fc.A (call f.val cvs) Q NoE s := by
  unfold stepCall at h
  split at h
  · split at h
    · first | exact nn h | cases h
    · exact bcall_sound O.hh h hP r rv H
  · rename_i fa
    split at h
    · first | exact nn h | cases h
    · have hown := ho rfl
      split at h
      · rename_i k hk
        exact ok.ext _ _ hk _ _ _ _ _ _ _ h hP O hown B.zero ρ s cvs Q r rv H
      · split at h
        · rename_i g hg
          refine wpAny_call (enter_sound S (ok.fns _ _ hg) (Nat.le_succ _) (Nat.le_succ _) rfl O.hh h hP O hown B ok.big r rv fun ρ' h' tk v X r' q => ?_)
          exact H ρ' h' tk v X r' q
        · split at h
          · rename_i ci hci
            split at h
            · rename_i g hg
              refine bnd_el h hP fun _ st1 P1 P2 h1 h2 hP1 hP2 => ?_
              first | (obtain ⟨rfl, rfl, rfl⟩ := ret_some h1) | cases h1
              refine bnd_el h2 hP2 fun x st2 P3 P4 h3 h4 hP3 hP4 => ?_
              first | (obtain ⟨rfl, rfl, rfl⟩ := ret_some h3) | cases h3
              refine bnd_el h4 hP4 fun rr st3 P5 P6 h5 h6 hP5 hP6 => ?_
              obtain ⟨m, os, R⟩ := r
              have C := ok.cls _ _ hci
              refine call_cls R.F O.X R.N C.makes C.ini C.inif fun xa dx h' F' N' hlt hxd => ?_
              obtain ⟨R1, X1⟩ := R.push (ao := .dict []) (a := dx) (o := dictOf [] 0) F' (fun q hq => N' q (.tail _ hq)) hlt ⟨[], 0, rfl, trivial⟩
              have hlt2 : ∀ q ∈ ledF (st.sg.set st.n (.dict [])) (fun i => if i = st.n then dx else ρ i) 0 (os ++ [dictOf [] 0]) ++ fc.rest, q.1 < xa := by
                intro q hq
                rcases List.mem_append.mp hq with hq | hq
                · obtain ⟨i, o', ho', hgi, rfl⟩ := mem_ledF.mp hq
                  rw [Nat.zero_add] at hgi ⊢
                  by_cases e : i = st.n
                  · simp only [e, if_true]; exact hxd
                  · simp only [e, if_false]
                    rw [Tr.get_set, if_neg e] at hgi
                    obtain ⟨o2, _, _, hm2, _⟩ := R.get (l := i) rfl hgi
                    exact Nat.lt_trans (hlt _ hm2) hxd
                · exact Nat.lt_trans (hlt q (List.mem_append_right _ hq)) hxd
              obtain ⟨R2, X2⟩ := R1.push (ao := .inst fa st.n) (a := xa) (o := instObj fa dx) F' (fun q hq => by
                rcases List.mem_cons.mp hq with rfl | hq
                · exact N' _ (.head _)
                · exact R1.N q hq) hlt2 ⟨Nat.lt_succ_of_lt (Nat.lt_succ_self _), by simp⟩
              have X12 := X1.trans X2
              refine enter_sound S (ok.fns _ _ hg) (s := { s with heap := h' }) (Nat.le_of_eq (depth_under_make _ _ _)) (Nat.le_of_eq (units_under_make _ _ _)) rfl O.hh h5 hP5 O hown B ok.big ⟨_, _, R2⟩ ⟨⟨Nat.lt_succ_self _, by simp⟩, rv.mono fun _ _ _ q => q.ext X12⟩ fun ρ' h'' tk v X r' q => ?_
              have hxx : ρ' (st.n + 1) = xa := by
                rw [X.2 _ (Nat.lt_succ_self _)]; simp
              split at h6
              · first | (obtain ⟨rfl, rfl, rfl⟩ := ret_some h6) | cases h6
                obtain rfl := q
                exact ⟨rfl, H ρ' h'' tk (.ref xa) (X12.trans X) r' ⟨Nat.lt_of_lt_of_le (Nat.lt_succ_self _) X.1, by rw [hxx]⟩⟩
              · first | exact nn h6 | cases h6
            · first | exact nn h | cases h
          · first | exact nn h | cases h
end
end Mine
namespace Mine
open PySem PySem.W PyProof.Rows PySem.Calls PySem.Spec

section
variable {prog : Program} {w : World} {K : Frag} {p : Program} {loose : List Str} {mean : ExcName → Option Value} {mg mb : Str → Option Value} {T : PT} {D n : Nat} {I : Evs} {fi : FI} {fc : FC} {ρ : Nat → Addr} {st st' : St} {s : Shared}

theorem comp_sound (S : Snd prog w K p loose mean mg mb D n I) {elt : Expr} {gens : List Comprehension} {sc : Scope} {pos : Pos} {a : AV} {P : List Prop} (h : stepE T I fi (.ListComp elt gens sc pos) st = some (a, st', P)) (hP : Ps P)
    (O : FrOk K p loose mean mg mb fi fc) (B : Room2 D (n + 1) fc.A) {Q : Value → Shared → Prop} (r : Rel w.params fi fc ρ st s.heap) (H : Pst w.params fi fc ρ st st' s (fun ρ' v => RepV ρ' st'.n a v) Q) :
    wpAny (model prog w) fc.A (eval (.ListComp elt gens sc pos) fc.env) Q NoE s := by
  rw [eval_ListComp]
  have hfa : firstAsync gens = false := by
    unfold stepE at h
    dsimp only at h
    split at h
    · rfl
    · first | exact nn h | cases h
  have := compr_sound (Q := Q) S h hP O B none r (fun ρ' h' tk v C oC m' X r' hC hD rv hns => by
    exact ⟨m', hns, fun h'' hs => H ρ' h'' tk v X (r'.dropC hC hs hD) rv⟩)
  rw [hfa] at this ⊢
  exact this

theorem swapsSole {es : List Expr} {k : Nat} {tp : Pos} {v : Expr} {line : Nat} {env : Env} (hv : plainV v = true) : swapsWithSole [.Tuple es k tp] v line env = pure false := by
  cases v <;> first | rfl | cases hv

/-- a statement's step is sound -/
noncomputable def JS (prog : Program) (w : World) (fi : FI) (fc : FC) (T : PT) (I : Evs) (x : Stmt) : Prop := J w fi fc [] [] (stepS T I fi x) RepF (fun Q s => wpAny (model prog w) fc.A (exec x fc.env) Q NoE s)
theorem JS.none {x : Stmt} (h : stepS T I fi x = fun _ => Option.none) : JS prog w fi fc T I x := fun st _ _ _ e => by rw [h] at e; exact nn e
theorem refJ {α β : Type} {L : List AV} {V : List Value} {R : (Nat → Addr) → Nat → α → β → Prop} {wp : (β → Shared → Prop) → Shared → Prop} {a : AV} {va : Value} {e1 : Nat → St → Rr α} (h : ∀ l, J w fi fc (.ref l :: L) (va :: V) (e1 l) R wp) : J w fi fc (a :: L) (va :: V) (fun st => match a with | .ref l => e1 l st | _ => none) R wp := by
  induction a using AV.casesOn with
  | ref c => exact h c
  | _ => exact J.none
theorem storeNJ (O : FrOk K p loose mean mg mb fi fc) {x : Str} {a : AV} {va : Value} {L : List AV} {V : List Value} : J w fi fc (a :: L) (va :: V) (storeN fi (nm x) a) rU (fun Q s => wpAny (model prog w) fc.A (storeName fc.env x va) Q NoE s) :=
  fun _ _ _ _ h _ _ _ _ r c H => storeN_sound O h r c.1 H
theorem setAJ (ok : PTOk3 prog w K p loose mean mg mb T D) (O : FrOk K p loose mean mg mb fi fc) {x : Str} {a b : AV} {va vb : Value} {L : List AV} {V : List Value} : J w fi fc (b :: a :: L) (vb :: va :: V) (setA T b (nm x) a) rU (fun Q s => wpAny (model prog w) fc.A (setAttr vb x va) Q NoE s) :=
  fun _ _ _ _ h _ _ _ _ r c H => setA_sound ok.toPTOk2 O h r c.1 c.2.1 H
theorem setIJ {a b k : AV} {va vb vk : Value} {L : List AV} {V : List Value} : J w fi fc (k :: b :: a :: L) (vk :: vb :: va :: V) (setI b k a) rU (fun Q s => wpAny (model prog w) fc.A (setItem vb vk va) Q NoE s) :=
  fun _ _ _ _ h hP _ _ _ r c H => setI_sound h hP r c.2.1 c.1 c.2.2.1 H
set_option tactic.hygienic true in
theorem swapJ (S : Snd prog w K p loose mean mg mb D n I) (O : FrOk K p loose mean mg mb fi fc) (B' : Room2 D n fc.A) {es : List Expr} {k : Nat} {tp pos : Pos} {v : Expr} {names : List Str} (hv : plainV v = true) (hsw : swappedStores [.Tuple es k tp] v fc.env = pure (some names)) :
    J w fi fc [] [] (fun st => bnd (I.e fi v st) fun a st => bnd (unp a names.length st) fun xs st => bnd (storeNs fi names.reverse xs.reverse st) fun _ st => ret .next st) RepF (fun Q s => wpAny (model prog w) fc.A (exec (.Assign [.Tuple es k tp] v pos) fc.env) Q NoE s) := by
  refine J.by (fun _ _ h => Assign_Tuple_swapped h (swapsSole hv) hsw) ?_
  refine J.bndV (S.je O B' v) fun a va => ?_
  intro st a' st' P h hP ρ s Q r c H
  refine bnd_el h hP fun xs st2 P3 P4 h3 h4 hP3 hP4 => ?_
  refine bnd_el h4 hP4 fun _ st3 P5 P6 h5 h6 hP5 hP6 => ?_
  obtain ⟨rfl, rfl, rfl⟩ := ret_some h6
  obtain ⟨l, vs, rfl, ht, hv', hlen, hn, r2⟩ := unp_sound h3 hP3 r c.1
  have hvl := hv'.length
  have e2 : names.length = vs.toArray.size := by simp; lia
  rw [e2]
  refine wpAny_unpackItems_tuple O.hh ht fun h2' he => ?_
  obtain ⟨m, os, R⟩ := r2
  exact storeNs_sound O _ _ _ _ ρ { s with heap := h2' } _ _ h5 hP5 ⟨m, os, R.extBut he⟩ hv'.reverse fun ρ3 h3' tk3 _ X3 r3 _ => H _ _ _ _ (by rw [hn] at X3; exact X3) r3 rfl
theorem forJ (S : Snd prog w K p loose mean mg mb D n I) (O : FrOk K p loose mean mg mb fi fc) (B' : Room2 D n fc.A) {t i : Expr} {b : List Stmt} {pos : Pos} (hpl : plainIt i = true) :
    J w fi fc [] [] (fun st => bnd (I.e fi i st) fun a st => match a with
        | .ref l => bnd (mkIt l st) fun it st => match it with
            | .ref k => I.fr fi t k b st
            | _ => none
        | _ => none) RepF (fun Q s => wpAny (model prog w) fc.A (exec (.For t i b [] pos) fc.env) Q NoE s) := by
  refine J.by (fun _ _ h => wpAny_For h (plain_folds hpl fc.env)) ?_
  refine J.bndV (S.je O B' i) fun a va => refJ fun l => ?_
  refine J.bndV (wp1 := fun Q s => wpAny (model prog w) fc.A (pyIter va) Q NoE s) (fun _ _ _ _ h _ _ _ _ r c H => by obtain ⟨hl1, rfl⟩ := c.1; exact mkIt_sound h r hl1 H) fun it vit => refJ fun k => ?_
  intro st a' st' P h hP ρ s Q r c H
  obtain ⟨hI, rfl⟩ := c.1
  refine codeAny_mono (S.fr _ _ _ _ _ _ _ _ _ h hP O B' ρ s Q r H) fun r s' hr => ?_
  induction r with
  | ok f => exact hr
  | error e => exact hr.elim
set_option tactic.hygienic true in
theorem compAsgJ (S : Snd prog w K p loose mean mg mb D n I) (O : FrOk K p loose mean mg mb fi fc) (B' : Room2 D n fc.A)
    (hL : ∀ st ρ s, Rel w.params fi fc ρ st s.heap → ∀ elt gens sc pos v st1 P1, I.e fi (.ListComp elt gens sc pos) st = some (v, st1, P1) → Ps P1 → ∀ (use : Option (Value → Sem Unit)) (Q : Value → Shared → Prop), (∀ ρ' h' tk v' C oC m', Ext ρ st.n ρ' st1.n → Rel w.params fi { fc with rest := (C, oC) :: fc.rest } ρ' st1 h' → (∀ p ∈ fc.rest, p.1 ≠ C) → (∃ es ep, oC.data = .dict es ep) → RepV ρ' st1.n v v' → h'.Ns C m' →
      compPost (model prog w) fc.A NoE use Q v' C (.ok .next) { s with heap := h', toks := tk }) →
      wpAny (model prog w) fc.A (comprehension (.ListComp elt gens sc pos) sc fc.env (firstIterPos gens pos) (newList []) (firstAsync gens) (firstIter gens fc.env) use) Q NoE s)
    {elt : Expr} {gens : List Comprehension} {sc : Scope} {lp tp pos : Pos} {x : Str} :
    J w fi fc [] [] (fun st => match pureOf (swapsWith (.ListComp elt gens sc lp) (some (.Name x tp)) pos.line (dumEnv fi.sc)) with
        | some _ => bnd (I.e fi (.ListComp elt gens sc lp) st) fun a st => bnd (storeN fi (nm x) a st) fun _ st => ret .next st
        | none => none) RepF (fun Q s => wpAny (model prog w) fc.A (exec (.Assign [.Name x tp] (.ListComp elt gens sc lp) pos) fc.env) Q NoE s) := by
  cases hsw : pureOf (swapsWith (.ListComp elt gens sc lp) (some (.Name x tp)) pos.line (dumEnv fi.sc)) with
  | none => exact J.none
  | some bsw =>
    have hsw := pureOf_some hsw
    rw [← O.sc, ← swaps_dum] at hsw
    induction bsw with
    | false =>
      refine J.by (fun _ _ h => wpAny_Assign_Name h hsw) ?_
      refine J.bndV (S.je O B' _) fun a va => ?_
      exact J.bndU (storeNJ O) (J.ret fun _ s _ _ _ k => k _ s.toks rfl)
    | true =>
      intro st a' st' P h hP ρ s Q r c H
      refine bnd_el h hP fun b st1 P1 P2 h1 h2 hP1 hP2 => ?_
      refine bnd_el h2 hP2 fun _ st2 P3 P4 h3 h4 hP3 hP4 => ?_
      obtain ⟨rfl, rfl, rfl⟩ := ret_some h4
      rw [exec_Assign_Name_used _ _ _ _ hsw]
      refine wpAny_bind (wpAny_standAt (wpAny_bind ?_))
      rw [arm_evalThenUse_ListComp]
      refine wpAny_bind (hL st ρ s r _ _ _ _ _ _ _ h1 hP1 _ _ fun ρ1 h' tk v' C oC m' X r1 hC hD rv hns => ?_)
      show wpAny _ _ _ _ _ _
      have O2 : FrOk K p loose mean mg mb fi { fc with rest := (C, oC) :: fc.rest } := ⟨O.X, O.T, O.hh, O.hk, O.sc, O.gl, O.bl, O.own, O.scr⟩
      refine assign_Name (env := fc.env) (storeN_sound (fc := { fc with rest := (C, oC) :: fc.rest }) (s := { s with heap := h', toks := tk }) O2 h3 r1 rv fun ρ2 h2' tk2 _ X2 r2 _ => ?_)
      obtain ⟨m2, os2, R2⟩ := r2
      have hm := R2.N (C, oC) (List.mem_append_right _ (.head _))
      refine ⟨m', ?_, fun h3' hs3 => wpAny_pure (wpAny_pure (H ρ2 h3' tk2 .next (X.trans X2) (Rel.dropC ⟨m2, os2, R2⟩ hC hs3 hD) rfl))⟩
      obtain ⟨m1, os1, R1⟩ := r1
      have hm1 := R1.N (C, oC) (List.mem_append_right _ (.head _))
      obtain ⟨oC', es, ep, hg1, hg2, hg3, hg4⟩ := hns
      exact ⟨oC', es, ep, by rw [hm1.1] at hg1; cases hg1; exact hm.1, hg2, hg3, hg4⟩
set_option tactic.hygienic true in
theorem plainAsgJ (S : Snd prog w K p loose mean mg mb D n I) (ok : PTOk3 prog w K p loose mean mg mb T D) (O : FrOk K p loose mean mg mb fi fc) (B' : Room2 D n fc.A) {t v : Expr} {pos : Pos} (hv : plainV v = true)
    (hz : ∀ L V, J w fi fc L V (ret AFl.next) RepF (fun Q s => Q Flow.next s)) : J w fi fc [] [] (fun st => match t with
      | .Name x _ => bnd (I.e fi v st) fun a st => bnd (storeN fi (nm x) a st) fun _ st => ret .next st
      | .Attribute o x _ => bnd (I.e fi v st) fun a st => bnd (I.e fi o st) fun b st => bnd (setA T b (nm x) a st) fun _ st => ret .next st
      | .Subscript o i _ => bnd (I.e fi v st) fun a st => bnd (I.e fi o st) fun b st => bnd (I.e fi i st) fun k st => bnd (setI b k a st) fun _ st => ret .next st
      | .Tuple es k tp => opt (pureOf (swappedStores [.Tuple es k tp] v (dumEnv fi.sc))) fun o => match o with
        | none => bnd (I.e fi v st) fun a st => bnd (I.asg fi (.Tuple es k tp) a st) fun _ st => ret .next st
        | some names => bnd (I.e fi v st) fun a st => bnd (unp a names.length st) fun xs st => bnd (storeNs fi names.reverse xs.reverse st) fun _ st => ret .next st
      | _ => none) RepF (fun Q s => wpAny (model prog w) fc.A (exec (.Assign [t] v pos) fc.env) Q NoE s) := by
  induction t using PySem.Expr.casesOn with
  | Name x tp =>
    refine J.by (fun _ _ h => wpAny_Assign_Name h (plain_swaps hv _ _ _)) ?_
    refine J.bndV (S.je O B' v) fun a va => ?_
    exact J.bndU (storeNJ O) (hz _ _)
  | Attribute o x tp =>
    refine J.by (fun _ _ h => plainObj_wpAny_Assign_Attribute h (plain_swaps hv _ _ _)) ?_
    refine J.bndV (S.je O B' v) fun a va => ?_
    refine J.bndV (S.je O B' o) fun b vb => ?_
    exact J.bndU (setAJ ok O) (hz _ _)
  | Subscript o i tp =>
    refine J.by (fun _ _ h => wpAny_Assign_Subscript h (plain_swaps hv _ _ _)) ?_
    refine J.bndV (S.je O B' v) fun a va => ?_
    refine J.bndV (S.je O B' o) fun b vb => ?_
    refine J.bndV (S.je O B' i) fun k vk => ?_
    exact J.bndU setIJ (hz _ _)
  | Tuple es k tp =>
    refine J.opt fun o hsw => ?_
    have hsw := pureOf_some hsw
    rw [← O.sc, ← swapped_dum] at hsw
    induction o using Option.casesOn with
    | none =>
      refine J.by (fun _ _ h => Assign_Tuple h (swapsSole hv) hsw) ?_
      refine J.bndV (S.je O B' v) fun a va => ?_
      exact J.bndU (wp1 := fun Q s => wpAny (model prog w) fc.A (assign (.Tuple es k tp) fc.env va) Q NoE s) (fun _ _ _ _ h hP ρ s Q r c H => S.asg _ _ _ _ _ _ _ h hP O B' ρ s _ Q r c.1 H) (hz _ _)
    | some names => exact swapJ S O B' hv hsw
  | _ => exact J.none
set_option tactic.hygienic true in
theorem stepS_J (S : Snd prog w K p loose mean mg mb D n I) (ok : PTOk3 prog w K p loose mean mg mb T D)
    (hL : ∀ st ρ s, Rel w.params fi fc ρ st s.heap → ∀ elt gens sc pos v st1 P1, I.e fi (.ListComp elt gens sc pos) st = some (v, st1, P1) → Ps P1 → ∀ (use : Option (Value → Sem Unit)) (Q : Value → Shared → Prop), (∀ ρ' h' tk v' C oC m', Ext ρ st.n ρ' st1.n → Rel w.params fi { fc with rest := (C, oC) :: fc.rest } ρ' st1 h' → (∀ p ∈ fc.rest, p.1 ≠ C) → (∃ es ep, oC.data = .dict es ep) → RepV ρ' st1.n v v' → h'.Ns C m' →
      compPost (model prog w) fc.A NoE use Q v' C (.ok .next) { s with heap := h', toks := tk }) →
      wpAny (model prog w) fc.A (comprehension (.ListComp elt gens sc pos) sc fc.env (firstIterPos gens pos) (newList []) (firstAsync gens) (firstIter gens fc.env) use) Q NoE s)
    (O : FrOk K p loose mean mg mb fi fc) (B : Room2 D (n + 1) fc.A) (x : Stmt) : JS prog w fi fc T I x := by
  have B' := B.step
  have hz : ∀ L V, J w fi fc L V (ret AFl.next) RepF (fun Q s => Q Flow.next s) := fun _ _ => J.ret fun _ s _ _ _ k => k _ s.toks rfl
  induction x using PySem.Stmt.casesOn with
  | Expr v pos =>
    refine J.only fun hv => ?_
    refine J.by (fun _ _ h => wpAny_Expr_any h (by unfold interactive; rw [O.hk]; rfl) (plain_swaps hv _ _ _)) ?_
    exact J.bndV (S.je O B' v) fun a va => hz _ _
  | Pass pos => exact J.by (fun _ _ h => wpAny_Pass h) (hz _ _)
  | Break pos => exact J.ret fun _ s _ _ _ k => wpAny_Break (k _ s.toks rfl)
  | Continue pos => exact J.ret fun _ s _ _ _ k => wpAny_Continue (k _ s.toks rfl)
  | Return v pos => induction v using Option.casesOn with
    | none => exact J.ret fun _ s _ _ _ k => wpAny_Return_none (k _ s.toks ⟨_, rfl, rfl⟩)
    | some e =>
      refine J.by (fun _ _ h => wpAny_Return_some h) ?_
      exact J.bndV (S.je O B' e) fun a va => J.ret fun _ s _ _ c k => k _ s.toks ⟨_, rfl, c.1⟩
  | Assign ts v pos =>
    refine J.bool (c := plainV v) (fun hv => ?_) fun hv => ?_
    · induction ts using List.casesOn with
      | nil => exact J.none
      | cons t u => induction u using List.casesOn with
        | cons => exact J.none
        | nil => exact plainAsgJ S ok O B' hv hz
    · induction v using PySem.Expr.casesOn with
      | ListComp elt gens sc lp => induction ts using List.casesOn with
        | nil => exact J.none
        | cons t u => induction u using List.casesOn with
          | cons => induction t using PySem.Expr.casesOn <;> exact J.none
          | nil => induction t using PySem.Expr.casesOn with
            | Name x tp => exact compAsgJ S O B' hL
            | _ => exact J.none
      | _ => exact J.none
  | AugAssign t op v pos => induction t using PySem.Expr.casesOn with
    | Attribute o x tp => induction op using PySem.Operator.casesOn with
      | Add =>
        refine J.by (fun _ _ h => wpAny_AugAssign_AttributeAny h) ?_
        refine J.bndV (S.je O B' o) fun b vb => ?_
        refine J.bndV (wp1 := fun Q s => wpAny (model prog w) fc.A (getAttr vb x true) Q NoE s) (fun _ _ _ _ h _ _ _ _ r c H => getA_sound ok.toPTOk2 O h r c.1 H) fun old vo => ?_
        refine J.bndV (S.je O B' v) fun a va => J.opt fun p hp => J.opt fun q hq => ?_
        intro st a' st' P h hP ρ s Q r c H
        obtain ⟨t2, rfl⟩ := asInt_rep (p := q.1) (x := q.2) hq c.1
        obtain ⟨t1, rfl⟩ := asInt_rep (p := p.1) (x := p.2) hp c.2.1
        refine iadd_int ?_
        exact J.bndU (wp2 := fun _ Q s => Q Flow.next s) (L := [b, mkI (both p.1 q.1) (p.2 + q.2)]) (V := [vb, .int (p.2 + q.2) s.toks]) (setAJ ok O) (hz _ _) st a' st' P h hP ρ { s with toks := s.toks + 1 } Q r ⟨c.2.2.1, mkI_rep _ _ _, trivial⟩ H
      | _ => exact JS.none rfl
    | _ => exact JS.none rfl
  | If t b o pos =>
    refine J.by (fun _ _ h => wpAny_If h) ?_
    refine J.bndB (S.jb O B' t) ?_ ?_
    · exact J.by (fun _ _ h => h) (S.jss O B' b)
    · exact J.by (fun _ _ h => h) (S.jss O B' o)
  | While t b o pos => induction o using List.casesOn with
    | nil => exact fun _ _ _ _ h hP ρ s Q r _ H => whl_start 0 (S.wh _ _ _ _ _ _ _ _ h hP O B' ρ s Q 0 r H)
    | cons => exact JS.none rfl
  | For t i b o pos => induction o using List.casesOn with
    | nil => exact J.only (c := plainIt i) fun hpl => forJ S O B' hpl
    | cons => exact JS.none rfl
  | _ => exact JS.none rfl

set_option tactic.hygienic true in
/-- what the comprehension that is used at once needs of the level below -/
theorem comp_used (S : Snd prog w K p loose mean mg mb D n I) (O : FrOk K p loose mean mg mb fi fc) (B : Room2 D (n + 1) fc.A) :
    ∀ st ρ s, Rel w.params fi fc ρ st s.heap → ∀ elt gens sc pos v st1 P1, stepE T I fi (.ListComp elt gens sc pos) st = some (v, st1, P1) → Ps P1 → ∀ (use : Option (Value → Sem Unit)) (Q : Value → Shared → Prop), (∀ ρ' h' tk v' C oC m', Ext ρ st.n ρ' st1.n → Rel w.params fi { fc with rest := (C, oC) :: fc.rest } ρ' st1 h' → (∀ p ∈ fc.rest, p.1 ≠ C) → (∃ es ep, oC.data = .dict es ep) → RepV ρ' st1.n v v' → h'.Ns C m' →
      compPost (model prog w) fc.A NoE use Q v' C (.ok .next) { s with heap := h', toks := tk }) →
      wpAny (model prog w) fc.A (comprehension (.ListComp elt gens sc pos) sc fc.env (firstIterPos gens pos) (newList []) (firstAsync gens) (firstIter gens fc.env) use) Q NoE s := fun st ρ s r elt gens sc pos v st1 P1 h hP use Q H => by
  have hfa : firstAsync gens = false := by
    unfold stepE at h
    dsimp only at h
    split at h
    · rfl
    · first | exact nn h | cases h
  have := compr_sound (Q := Q) S h hP O B use r H
  rw [hfa] at this ⊢
  exact this

theorem snd_evs (ok : PTOk3 prog w K p loose mean mg mb T D) : ∀ n, Snd prog w K p loose mean mg mb D n (evs T n)
  | 0 => by
    refine ⟨?_, ?_, ?_, ?_, ?_, ?_, ?_, ?_, ?_, ?_, ?_, ?_⟩
    · intro _ _ _ _ _ _ _ h; exact nn h
    · intro _ _ _ _ _ _ _ h; exact nn h
    · intro _ _ _ _ _ _ _ h; exact nn h
    · intro _ _ _ _ _ _ _ h; exact nn h
    · intro _ _ _ _ _ _ _ h; exact nn h
    · intro _ _ _ _ _ _ _ _ _ h; exact nn h
    · intro _ _ _ _ _ _ _ h; exact nn h
    · intro _ _ _ _ _ _ _ h; exact nn h
    · intro _ _ _ _ _ _ _ _ h; exact nn h
    · intro _ _ _ _ _ _ _ _ _ h; exact nn h
    · intro _ _ _ _ _ _ _ h; exact nn h
    · intro _ _ _ _ _ _ _ _ _ _ h; exact nn h
  | n + 1 => by
    have S := snd_evs ok n
    refine ⟨?_, ?_, ?_, ?_, ?_, ?_, ?_, ?_, ?_, ?_, ?_, ?_⟩
    · exact fun fi fc x st a st' P h hP O B ρ s Q r H => stepE_sound S ok h hP O B (fun elt gens sc pos st a st' P h hP ρ s Q r _ H => comp_sound (T := T) S h hP O B r H) r H
    · exact fun fi fc x st a st' P h hP O B ρ s Q pos r H => stepEs_sound S h hP O B r H
    · exact fun fi fc x st a st' P h hP O B ρ s Q r H => stepB_sound S ok h hP O B r H
    · refine fun fi fc x st a st' P h hP O B ρ s Q r H => stepS_J S ok ?_ O B x _ _ _ _ h hP ρ s Q r trivial H
      cases n with
      | zero => intro _ _ _ _ _ _ _ _ _ _ _ h; exact nn h
      | succ m => exact comp_used (T := T) (snd_evs ok m) O B.step
    · exact fun fi fc x st a st' P h hP O B ρ s Q r H => stepSs_sound S h hP O B r H
    · exact fun fi fc own f vs st a st' P h hP O ho B ρ s cvs Q r rv H => stepCall_sound S ok h hP O ho B r rv H
    · exact fun fi fc t a st st' P h hP O B ρ s v Q r rv H => stepAsg_sound S ok h hP O B r rv H
    · exact fun fi fc t a st st' P h hP O B ρ s v Q r rv H => stepAsgs_sound S h hP O B r rv H
    · exact fun fi fc t b st a st' P h hP O B ρ s Q k r H => stepWh_sound S h hP O B r H
    · exact fun fi fc t k b st a st' P h hP O B ρ s Q r H => stepFr_sound S h hP O B r H
    · exact fun fi fc xs st a st' P h hP O B ρ s Q r H => stepTs_sound S h hP O B r H
    · exact fun fi fc t elt ifs k j st st' P h hP O B ρ s Q iter sc pos r hj H => stepCp_sound S h hP O B r hj H
end
end Mine
namespace Mine
open PySem PySem.W PyProof.Rows PySem.Calls PySem.Spec

/-! a state is seen anew: some locations are kept under new numbers, some go to the rest, the others are forgotten -/
noncomputable def idxF (l : Nat) : List Nat → Nat → Option Nat
  | [], _ => none
  | k :: r, i => match Nat.beq l k with
    | true => some i
    | false => idxF l r (i + 1)
set_option tactic.hygienic true in
theorem idxF_some {l : Nat} : ∀ {ks : List Nat} {i j : Nat}, idxF l ks i = some j → ∃ d, j = i + d ∧ ks[d]? = some l
  | k :: r, i, j, h => by
    unfold idxF at h
    split at h
    · rename_i e; cases h; exact ⟨0, rfl, by rw [Nat.eq_of_beq_eq_true e]; rfl⟩
    · obtain ⟨d, e1, e2⟩ := idxF_some h
      exact ⟨d + 1, by lia, by simpa using e2⟩
noncomputable def renV (ρ : Nat → Addr) (ks : List Nat) : AV → AV
  | .ref l => match idxF l ks 0 with
    | some j => .ref j
    | none => .con (.ref (ρ l))
  | a => a
noncomputable def renE (ρ : Nat → Addr) (ks : List Nat) (e : Nm × AV) : Nm × AV := (e.1, renV ρ ks e.2)
noncomputable def renL (ρ : Nat → Addr) (ks : List Nat) : List AV → List AV
  | [] => []
  | a :: r => renV ρ ks a :: renL ρ ks r
noncomputable def renP (ρ : Nat → Addr) (ks : List Nat) : List (Nm × AV) → List (Nm × AV)
  | [] => []
  | a :: r => renE ρ ks a :: renP ρ ks r
theorem renL_eq (ρ : Nat → Addr) (ks : List Nat) : ∀ l, renL ρ ks l = l.map (renV ρ ks)
  | [] => rfl
  | a :: r => by simp [renL, renL_eq ρ ks r]
theorem renP_eq (ρ : Nat → Addr) (ks : List Nat) : ∀ l, renP ρ ks l = l.map (renE ρ ks)
  | [] => rfl
  | a :: r => by simp [renP, renP_eq ρ ks r]
noncomputable def AllCon (p : List AV) : Prop := ∀ a ∈ p, ∃ c, a = .con c
noncomputable def absorb (p xs : List AV) : List AV := match xs with
  | [] => p
  | a :: r => p ++ a :: r
theorem absorb_eq (p xs : List AV) : absorb p xs = p ++ xs := by cases xs <;> simp [absorb]
noncomputable def renO (ρ : Nat → Addr) (ks : List Nat) : AO → AO
  | .dead => .dead
  | .inst C d => match idxF d ks 0 with
    | some j => .inst C j
    | none => .dead
  | .dict es => .dict (renP ρ ks es)
  | .tab es => .tab (renP ρ ks es)
  | .list none xs => .list none (renL ρ ks xs)
  | .list (some p) xs => .list (some (absorb (renL ρ ks p) (renL ρ ks xs))) []
  | .tup xs => .tup (renL ρ ks xs)
  | .cell (some a) => .cell (some (renV ρ ks a))
  | .cell none => .cell none
  | .liter l i => match idxF l ks 0 with
    | some j => .liter j i
    | none => .dead
  | .rng p a b => .rng p a b
  | .riter p x y => .riter p x y
noncomputable def renMu (ρ : Nat → Addr) (ks : List Nat) (mu : List (Nm × AV)) : List Nm → List (Nm × AV)
  | [] => []
  | x :: r => match look x mu with
    | some a => (x, renV ρ ks a) :: renMu ρ ks mu r
    | none => renMu ρ ks mu r
set_option tactic.hygienic true in
theorem renMu_look {ρ : Nat → Addr} {ks : List Nat} {mu : List (Nm × AV)} {x : Nm} {a : AV} : ∀ {ns : List Nm}, look x (renMu ρ ks mu ns) = some a → ∃ b, look x mu = some b ∧ a = renV ρ ks b
  | y :: r, h => by
    unfold renMu at h
    split at h
    · rename_i b hb
      unfold look at h
      split at h
      · rename_i e; cases h
        rw [nmEq_iff.mp e]; exact ⟨b, hb, rfl⟩
      · exact renMu_look h
    · exact renMu_look h
noncomputable def renAll (ρ : Nat → Addr) (ks : List Nat) (sg : Tr) : List Nat → List AO
  | [] => []
  | l :: r => renO ρ ks (sg.get l) :: renAll ρ ks sg r
theorem renAll_get {ρ : Nat → Addr} {ks : List Nat} {sg : Tr} : ∀ (l : List Nat) (i : Nat), (renAll ρ ks sg l)[i]? = (l[i]?).map fun l => renO ρ ks (sg.get l)
  | [], i => by simp [renAll]
  | a :: r, 0 => rfl
  | a :: r, i + 1 => by simpa [renAll] using renAll_get r i
noncomputable def subSt (ρ : Nat → Addr) (ks : List Nat) (ns : List Nm) (st : St) : St := { mu := renMu ρ ks st.mu ns, sg := Tr.ofL 0 .nil (renAll ρ ks st.sg ks), n := ks.length, or := [], ov := [] }
/-- no number twice, and all below the bound -/
noncomputable def freshL (n : Nat) : List Nat → Bool
  | [] => true
  | k :: r => match memNat k r with
    | true => false
    | false => match Nat.blt k n with
      | true => freshL n r
      | false => false
set_option tactic.hygienic true in
theorem notMemNat_iff {n : Nat} : ∀ {l : List Nat}, memNat n l = false → n ∉ l
  | [], _, q => nomatch q
  | k :: r, h, q => by
    unfold memNat at h
    split at h
    · first | exact nn h | cases h
    · rename_i e
      rcases List.mem_cons.mp q with rfl | q
      · rw [show Nat.beq n n = true from Nat.beq_refl n] at e; cases e
      · exact notMemNat_iff h q
set_option tactic.hygienic true in
theorem freshL_iff {n : Nat} : ∀ {l : List Nat}, freshL n l = true → l.Nodup ∧ ∀ k ∈ l, k < n
  | [], _ => ⟨.nil, fun _ h => nomatch h⟩
  | k :: r, h => by
    unfold freshL at h
    split at h
    · first | exact nn h | cases h
    · rename_i h1
      split at h
      · rename_i h2
        obtain ⟨a, b⟩ := freshL_iff h
        exact ⟨List.nodup_cons.mpr ⟨notMemNat_iff h1, a⟩, fun j hj => (List.mem_cons.mp hj).elim (fun e => e ▸ (by simpa [Nat.blt_eq] using h2)) (b j)⟩
      · first | exact nn h | cases h

section
variable {P : Params} {fi : FI} {fc : FC} {ρ : Nat → Addr} {st : St} {h h' : Heap} {m : Str → Option Value} {os : List Obj} {ks : List Nat}

theorem handed_ref (a : Addr) : handedIn (.ref a) = true := rfl
set_option tactic.hygienic true in
theorem renV_rep {n : Nat} {a : AV} {v : Value} (r : RepV ρ n a v) : RepV (fun j => ρ (ks.getD j 0)) ks.length (renV ρ ks a) v := by
  induction a with
  | ref l =>
    unfold renV
    dsimp only
    split
    · rename_i j hj
      obtain ⟨d, e1, e2⟩ := idxF_some hj
      rw [Nat.zero_add] at e1
      subst e1
      refine ⟨(List.getElem?_eq_some_iff.mp e2).1, ?_⟩
      rw [r.2]
      simp [List.getD, e2]
    · exact ⟨r.2, rfl⟩
  | _ => exact r
theorem renV_clo {n : Nat} {a : AV} {v : Value} (r : RepV ρ n a v) (ρ' : Nat → Addr) (n' : Nat) : RepV ρ' n' (renV ρ [] a) v := by
  induction a with
  | ref l => exact ⟨r.2, rfl⟩
  | _ => exact r
theorem All2.renL {n : Nat} {xs : List AV} {vs : List Value} (h : All2 (RepV ρ n) xs vs) : All2 (RepV (fun j => ρ (ks.getD j 0)) ks.length) (renL ρ ks xs) vs := by
  induction xs generalizing vs with
  | nil => induction vs with | nil => trivial | cons => exact h.elim
  | cons a r ih => induction vs with | nil => exact h.elim | cons v vs => exact ⟨renV_rep h.1, ih h.2⟩
theorem All2.renP {n : Nat} {xs : List (Nm × AV)} {vs : List DictEntry} (h : All2 (RepE P ρ n) xs vs) : All2 (RepE P (fun j => ρ (ks.getD j 0)) ks.length) (renP ρ ks xs) vs := by
  induction xs generalizing vs with
  | nil => induction vs with | nil => trivial | cons => exact h.elim
  | cons a r ih => induction vs with | nil => exact h.elim | cons v vs => exact ⟨⟨h.1.1, h.1.2.1, renV_rep h.1.2.2⟩, ih h.2⟩
theorem All2.cloL {n : Nat} {xs : List AV} {vs : List Value} (h : All2 (RepV ρ n) xs vs) (ρ' : Nat → Addr) (n' : Nat) : All2 (RepV ρ' n') (Mine.renL ρ [] xs) vs := by
  induction xs generalizing vs with
  | nil => induction vs with | nil => trivial | cons => exact h.elim
  | cons a r ih => induction vs with | nil => exact h.elim | cons v vs => exact ⟨renV_clo h.1 _ _, ih h.2⟩
theorem All2.cloP {n : Nat} {xs : List (Nm × AV)} {vs : List DictEntry} (h : All2 (RepE P ρ n) xs vs) (ρ' : Nat → Addr) (n' : Nat) : All2 (RepE P ρ' n') (Mine.renP ρ [] xs) vs := by
  induction xs generalizing vs with
  | nil => induction vs with | nil => trivial | cons => exact h.elim
  | cons a r ih => induction vs with | nil => exact h.elim | cons v vs => exact ⟨⟨h.1.1, h.1.2.1, renV_clo h.1.2.2 _ _⟩, ih h.2⟩
theorem AllCon.ren {p : List AV} (c : AllCon p) (ρ : Nat → Addr) (ks : List Nat) : Mine.renL ρ ks p = p := by
  induction p with
  | nil => rfl
  | cons a r ih =>
    obtain ⟨x, rfl⟩ := c a (.head _)
    show AV.con x :: Mine.renL ρ ks r = _
    rw [ih fun b hb => c b (.tail _ hb)]
theorem AllCon.rep {n n' : Nat} {p : List AV} {vs : List Value} {ρ' : Nat → Addr} (c : AllCon p) (h : All2 (RepV ρ n) p vs) : All2 (RepV ρ' n') p vs :=
  h.mono fun a ha v r => by obtain ⟨x, rfl⟩ := c a ha; exact r
theorem All2.split {α β : Type} {R : α → β → Prop} : ∀ {a c : List α} {b : List β}, All2 R (a ++ c) b → ∃ b1 b2, b = b1 ++ b2 ∧ All2 R a b1 ∧ All2 R c b2
  | [], c, b, h => ⟨[], b, rfl, trivial, h⟩
  | x :: a, c, [], h => h.elim
  | x :: a, c, y :: b, h => by
    obtain ⟨b1, b2, e, h1, h2⟩ := All2.split (a := a) (c := c) (b := b) h.2
    exact ⟨y :: b1, b2, by rw [e]; rfl, ⟨h.1, h1⟩, h2⟩
theorem renP_keys (ks : List Nat) : ∀ es : List (Nm × AV), (renP ρ ks es).map (·.1) = es.map (·.1)
  | [] => rfl
  | _ :: r => by simp [renP, renE, renP_keys ks r]
set_option tactic.hygienic true in
theorem renO_rep {n : Nat} {a : AO} {o : Obj} (r : RepO P ρ n a o) : RepO P (fun j => ρ (ks.getD j 0)) ks.length (renO ρ ks a) o := by
  have ix : ∀ {l j : Nat}, idxF l ks 0 = some j → j < ks.length ∧ ρ (ks.getD j 0) = ρ l := fun hj => by
    obtain ⟨d, e1, e2⟩ := idxF_some hj
    rw [Nat.zero_add] at e1
    subst e1
    exact ⟨(List.getElem?_eq_some_iff.mp e2).1, by simp [List.getD, e2]⟩
  induction a with
  | dead => trivial
  | inst C d =>
    unfold renO; dsimp only
    split
    · rename_i j hj
      obtain ⟨h1, h2⟩ := ix hj
      exact ⟨h1, by rw [r.2]; exact congrArg _ h2.symm⟩
    · trivial
  | dict es => obtain ⟨ds, k, e, h⟩ := r; exact ⟨ds, k, e, h.renP⟩
  | tab es => obtain ⟨ds, k, e, h, q⟩ := r; exact ⟨ds, k, e, h.renP, by rw [renP_keys]; exact q⟩
  | list p xs =>
    obtain ⟨vs, k, e, h⟩ := r
    induction p with
    | none => exact ⟨vs, k, e, h.renL⟩
    | some p =>
      refine ⟨vs, k, e, ?_⟩
      show All2 _ (absorb (Mine.renL ρ ks p) (Mine.renL ρ ks xs) ++ []) vs
      rw [absorb_eq, List.append_nil]
      obtain ⟨b1, b2, rfl, h1, h2⟩ := All2.split h
      exact h1.renL.append h2.renL
  | tup xs => obtain ⟨vs, k, e, h⟩ := r; exact ⟨vs, k, e, h.renL⟩
  | cell v => induction v with
    | none => exact r
    | some a => obtain ⟨v, e, h⟩ := r; exact ⟨v, e, renV_rep h⟩
  | liter l i =>
    unfold renO; dsimp only
    split
    · rename_i j hj
      obtain ⟨h1, h2⟩ := ix hj
      exact ⟨h1, r.2.1, by rw [r.2.2]; show _ = Data.fields #[.ref (ρ (ks.getD j 0)), .int i 0]; rw [h2]⟩
    · trivial
  | rng => exact r
  | riter => exact r

theorem Tr.get_ofL : ∀ (l : List AO) (k : Nat) (t : Tr) (i : Nat), (Tr.ofL k t l).get i = if i < k then t.get i else (l[i - k]?).getD (t.get i)
  | [], k, t, i => by simp [Tr.ofL]
  | a :: r, k, t, i => by
    unfold Tr.ofL
    rw [Tr.get_ofL r (k + 1) (t.set k a) i, Tr.get_set]
    by_cases h1 : i < k
    · simp [h1, Nat.lt_succ_of_lt h1, Nat.ne_of_lt h1]
    · by_cases h2 : i = k
      · simp [h2]
      · have e : i - k = (i - (k + 1)) + 1 := by lia
        simp [h1, h2, show ¬ i < k + 1 by lia, e]
theorem Tr.nil_get (i : Nat) : Tr.nil.get i = .dead := rfl
theorem sub_get (i : Nat) : (subSt ρ ks ns st).sg.get i = ((ks[i]?).map fun l => renO ρ ks (st.sg.get l)).getD .dead := by
  show (Tr.ofL 0 .nil (renAll ρ ks st.sg ks)).get i = _
  rw [Tr.get_ofL, if_neg (Nat.not_lt_zero _), Nat.sub_zero, renAll_get, Tr.nil_get]

theorem renO_mut {a : AO} (h : (renO ρ ks a).mut = true) : a.mut = true := by
  induction a with
  | inst C d => unfold renO at h; dsimp only at h; split at h <;> cases h
  | dead => first | exact nn h | cases h
  | tup => first | exact nn h | cases h
  | rng => first | exact nn h | cases h
  | _ => rfl
theorem renO_live {a : AO} (h : renO ρ ks a ≠ .dead) : a ≠ .dead := fun e => h (by rw [e]; rfl)

theorem nodup_idx {α : Type} : ∀ {l : List α} {i j : Nat} {a : α}, l.Nodup → l[i]? = some a → l[j]? = some a → i = j
  | [], _, _, _, _, h, _ => by simp at h
  | x :: r, 0, 0, _, _, _, _ => rfl
  | x :: r, 0, j + 1, a, nd, h, k => by
    first | (obtain ⟨rfl, rfl, rfl⟩ := ret_some h) | cases h
    exact absurd (List.mem_of_getElem? (by simpa using k)) (List.nodup_cons.mp nd).1
  | x :: r, i + 1, 0, a, nd, h, k => by
    cases k
    exact absurd (List.mem_of_getElem? (by simpa using h)) (List.nodup_cons.mp nd).1
  | x :: r, i + 1, j + 1, a, nd, h, k => by
    exact congrArg Nat.succ (nodup_idx (a := a) (l := r) (List.nodup_cons.mp nd).2 (by simpa using h) (by simpa using k))
/-- kept: ks; to the rest: xs -/
theorem Rel.sub {ns : List Nm} {xs : List Nat} (r : Rel P fi fc ρ st h) (hk : freshL st.n ks = true) (hx : freshL st.n xs = true) (hkx : ks.all (fun k => !(memNat k xs)) = true)
    (hlive : ∀ l ∈ xs, st.sg.get l ≠ .dead) (hcl : ∀ x l, look x fi.cl = some l → ks[l]? = some l) :
    ∃ f : Nat → Obj, (∀ l ∈ xs, RepO P ρ st.n (st.sg.get l) (f l) ∧ h.get? (ρ l) = some (f l)) ∧ (∀ l ∈ xs, (st.sg.get l).mut = true → ∀ p ∈ fc.rest, p.1 ≠ ρ l) ∧ (∀ l ∈ xs, (st.sg.get l).mut = true → ∀ l' ∈ xs, ρ l = ρ l' → l = l') ∧
      Rel P fi { fc with rest := xs.map (fun l => (ρ l, f l)) ++ fc.rest } (fun j => ρ (ks.getD j 0)) (subSt ρ ks ns st) h := by
  obtain ⟨m, os, R⟩ := r
  obtain ⟨hk1, hk2⟩ := freshL_iff hk
  obtain ⟨hx1, hx2⟩ := freshL_iff hx
  let f : Nat → Obj := fun l => os.getD l default
  have hf : ∀ l, l < st.n → os[l]? = some (f l) := fun l hl => by
    have : l < os.length := by rw [R.len]; exact hl
    simp [f, List.getD, this]
  refine ⟨f, fun l hl => ?_, fun l hl hm => R.ap l hm, fun l hl hm l' hl' e => R.inj l l' hm (hlive l' hl') e, m, ks.map f, ?_⟩
  · obtain ⟨o, ho, hr, _, hg⟩ := R.get (l := l) rfl (hlive l hl)
    rw [hf l (hx2 l hl)] at ho
    first | (obtain ⟨rfl, rfl, rfl⟩ := ret_some ho) | cases ho
    exact ⟨hr, hg⟩
  · have old : ∀ l, l < st.n → st.sg.get l ≠ .dead → (ρ l, f l) ∈ ledF st.sg ρ 0 os ++ fc.rest := fun l hl hd =>
      List.mem_append_left _ (mem_ledF.mpr ⟨l, f l, hf l hl, by rw [Nat.zero_add]; exact hd, by rw [Nat.zero_add]⟩)
    have key : ∀ i a, (subSt ρ ks ns st).sg.get i = a → a ≠ .dead → ∃ l, ks[i]? = some l ∧ a = renO ρ ks (st.sg.get l) ∧ l < st.n ∧ ρ (ks.getD i 0) = ρ l := by
      intro i a e hd
      rw [sub_get] at e
      cases q : ks[i]? with
      | none => rw [q] at e; exact absurd e.symm hd
      | some l => rw [q] at e; exact ⟨l, rfl, e.symm, hk2 l (List.mem_of_getElem? q), by simp [List.getD, q]⟩
    refine ⟨R.F, ?_, ?_, by simp [subSt], ?_, ?_, ?_, ?_, ?_, ?_, fun _ _ hc => hc.elim⟩
    · intro p hp
      rcases List.mem_append.mp hp with hp | hp
      · obtain ⟨i, o, ho, hd, rfl⟩ := mem_ledF.mp hp
        rw [Nat.zero_add] at hd ⊢
        obtain ⟨l, hl, he, hln, hρ⟩ := key i _ rfl hd
        rw [List.getElem?_map, hl] at ho
        first | (obtain ⟨rfl, rfl, rfl⟩ := ret_some ho) | cases ho
        have z := R.N _ (old l hln (renO_live (he ▸ hd)))
        rw [← hρ] at z
        exact z
      · rcases List.mem_append.mp hp with hp | hp
        · obtain ⟨l, hl, rfl⟩ := List.mem_map.mp hp
          exact R.N _ (old l (hx2 l hl) (hlive l hl))
        · exact R.N _ (List.mem_append_right _ hp)
    · intro x a ha
      obtain ⟨b, hb, rfl⟩ := renMu_look ha
      obtain ⟨v, hv, rv⟩ := R.mu x b hb
      exact ⟨v, hv, renV_rep rv⟩
    · intro i o ho
      rw [List.getElem?_map] at ho
      cases q : ks[i]? with
      | none => rw [q] at ho; cases ho
      | some l =>
        rw [q] at ho; cases ho
        rw [sub_get, q]
        have hl := List.mem_of_getElem? q
        exact renO_rep (R.os l _ (hf l (hk2 l hl)))
    · intro i hi
      have hi : ks.length ≤ i := hi
      rw [sub_get, List.getElem?_eq_none hi]; rfl
    · intro i j hi hj e
      obtain ⟨l, hl, he, hln, hρ⟩ := key i _ rfl (AO.mut_live hi)
      obtain ⟨l', hl', he', hln', hρ'⟩ := key j _ rfl hj
      have e : ρ (ks.getD i 0) = ρ (ks.getD j 0) := e
      rw [hρ, hρ'] at e
      have := R.inj l l' (renO_mut (he ▸ hi)) (renO_live (he' ▸ hj)) e
      subst this
      exact nodup_idx hk1 hl hl'
    · intro i hi p hp
      obtain ⟨l, hl, he, hln, hρ⟩ := key i _ rfl (AO.mut_live hi)
      show p.1 ≠ ρ (ks.getD i 0)
      rw [hρ]
      have hm := renO_mut (he ▸ hi)
      rcases List.mem_append.mp hp with hp | hp
      · obtain ⟨l', hl', rfl⟩ := List.mem_map.mp hp
        intro e
        have := R.inj l l' hm (hlive l' hl') e.symm
        subst this
        have h1 := List.all_eq_true.mp hkx l (List.mem_of_getElem? hl)
        exact notMemNat_iff (by simpa using h1) hl'
      · exact R.ap l hm p hp
    · intro x l hx
      have h1 := hcl x l hx
      obtain ⟨c1, c2⟩ := R.cl x l hx
      refine ⟨(List.getElem?_eq_some_iff.mp h1).1, ?_⟩
      rw [c2]; simp [List.getD, h1]
    · intro i es e
      obtain ⟨l, hl, he, hln, hρ⟩ := key i _ e (by intro q; cases q)
      show ρ (ks.getD i 0) ≠ _
      rw [hρ]
      cases q : st.sg.get l with
      | tab es' => exact R.lo l es' q
      | inst C d => rw [q] at he; unfold renO at he; dsimp only at he; split at he <;> cases he
      | liter C d => rw [q] at he; unfold renO at he; dsimp only at he; split at he <;> cases he
      | list p xs => rw [q] at he; cases p <;> cases he
      | cell v => rw [q] at he; cases v <;> cases he
      | _ => rw [q] at he; cases he
end
end Mine
namespace Mine
open PySem PySem.W PyProof.Rows PySem.Calls PySem.Spec

section
variable {P : Params} {fi : FI} {fc : FC} {ρ : Nat → Addr} {st : St} {h h' : Heap} {m : Str → Option Value} {os : List Obj}

/-- less of the rest -/
theorem Rel.less {r' : List (Addr × Obj)} (r : Rel P fi fc ρ st h) (hr : ∀ p ∈ r', p ∈ fc.rest) : Rel P fi { fc with rest := r' } ρ { st with imm := fun _ _ => False } h := by
  obtain ⟨m, os, R⟩ := r
  refine ⟨m, os, R.F, fun p hp => R.N p ?_, R.mu, R.len, R.os, R.out, R.inj, fun i hi p hp => R.ap i hi p (hr p hp), R.cl, R.lo, fun _ _ hc => hc.elim⟩
  rcases List.mem_append.mp hp with hp | hp
  · exact List.mem_append_left _ hp
  · exact List.mem_append_right _ (hr p hp)
theorem Rel.get? (r : Rel P fi fc ρ st h) {a : Addr} {o : Obj} (hr : (a, o) ∈ fc.rest) : h.get? a = some o := by
  obtain ⟨m, os, R⟩ := r
  exact (R.N _ (List.mem_append_right _ hr)).1
/-- what is known of the tuples of the rest -/
noncomputable def immOf (P : Params) (rest : List (Addr × Obj)) : Nat → List AV → Prop := fun c xs => ∃ o, (c, o) ∈ rest ∧ RepO P (fun _ => 0) 0 (.tup xs) o
theorem Rel.imms (r : Rel P fi fc ρ st h) : Rel P fi fc ρ { st with imm := immOf P fc.rest } h := by
  obtain ⟨m, os, R⟩ := r
  exact ⟨m, os, R.F, R.N, R.mu, R.len, R.os, R.out, R.inj, R.ap, R.cl, R.lo, fun _ _ hc => hc⟩
/-- another frame's sight of the locals -/
theorem Rel.mus (r : Rel P fi fc ρ st h) {mu' : List (Nm × AV)} (hm : ∀ x a, look x mu' = some a → look x st.mu = some a) (o : List Nat) (v : List AV) : Rel P fi fc ρ { st with mu := mu', or := o, ov := v } h := by
  obtain ⟨m, os, R⟩ := r
  exact ⟨m, os, R.F, R.N, fun x a hx => R.mu x a (hm x a hx), R.len, R.os, R.out, R.inj, R.ap, R.cl, R.lo, R.im⟩

noncomputable def upR (ρ : Nat → Addr) (n : Nat) (a : Addr) : Nat → Addr := fun i => if i = n then a else ρ i
theorem upR_ext (ρ : Nat → Addr) (n : Nat) (a : Addr) : Ext ρ n (upR ρ n a) (n + 1) := ⟨Nat.le_succ _, fun i hi => by simp [upR, Nat.ne_of_lt hi]⟩
theorem upR_self (ρ : Nat → Addr) (n : Nat) (a : Addr) : upR ρ n a n = a := by simp [upR]

/-- what cannot be written to comes out of the rest (and stays there) -/
theorem Rel.imp (r : Rel P fi fc ρ st h) {a : Addr} {o : Obj} {ao : AO} (ha : (a, o) ∈ fc.rest) (hm : ao.mut = false) (hr : RepO P (upR ρ st.n a) (st.n + 1) ao o) :
    Rel P fi fc (upR ρ st.n a) { st with sg := st.sg.set st.n ao, n := st.n + 1 } h := by
  obtain ⟨m, os, R⟩ := r
  have X := upR_ext ρ st.n a
  have lv : ∀ i, (st.sg.set st.n ao).get i ≠ .dead → i ≠ st.n → st.sg.get i ≠ .dead := fun i hg q => by
    rw [Tr.get_set, if_neg q] at hg; exact hg
  have mv : ∀ i, ((st.sg.set st.n ao).get i).mut = true → i ≠ st.n ∧ (st.sg.get i).mut = true := fun i hg => by
    rw [Tr.get_set] at hg
    by_cases q : i = st.n
    · rw [if_pos q, hm] at hg; cases hg
    · rw [if_neg q] at hg; exact ⟨q, hg⟩
  refine ⟨m, os ++ [o], R.F, ?_, ?_, by simp [R.len], ?_, ?_, ?_, ?_, ?_, ?_, R.im⟩
  · intro p hp
    rcases List.mem_append.mp hp with hp | hp
    · obtain ⟨i, o', ho, hg, rfl⟩ := mem_ledF.mp hp
      rw [Nat.zero_add] at hg ⊢
      by_cases q : i = st.n
      · subst q
        rw [← R.len, List.getElem?_append_right (Nat.le_refl _)] at ho
        simp only [Nat.sub_self, List.getElem?_cons_zero, Option.some.injEq] at ho
        subst ho
        rw [upR_self]
        exact R.N _ (List.mem_append_right _ ha)
      · have hi : i < os.length := by have := (List.getElem?_eq_some_iff.mp ho).1; simp only [List.length_append, List.length_cons, List.length_nil, R.len] at this ⊢; lia
        rw [List.getElem?_append_left hi] at ho
        simp only [upR, q, if_false]
        exact R.N _ (List.mem_append_left _ (mem_ledF.mpr ⟨i, o', ho, by rw [Nat.zero_add]; exact lv i hg q, by rw [Nat.zero_add]⟩))
    · exact R.N _ (List.mem_append_right _ hp)
  · intro x b hb
    obtain ⟨v, hv, rv⟩ := R.mu x b hb
    exact ⟨v, hv, rv.ext X⟩
  · intro i o' e
    show RepO P _ (st.n + 1) ((st.sg.set st.n ao).get i) o'
    rw [Tr.get_set]
    by_cases q : i = st.n
    · rw [if_pos q]
      rw [q, ← R.len, List.getElem?_append_right (Nat.le_refl _)] at e
      simp only [Nat.sub_self, List.getElem?_cons_zero, Option.some.injEq] at e
      subst e; exact hr
    · rw [if_neg q]
      have hi : i < os.length := by have := (List.getElem?_eq_some_iff.mp e).1; simp only [List.length_append, List.length_cons, List.length_nil, R.len] at this ⊢; lia
      rw [List.getElem?_append_left hi] at e
      exact (R.os i o' e).ext X
  · intro i hi
    show (st.sg.set st.n ao).get i = _
    have hi' : st.n + 1 ≤ i := hi
    rw [Tr.get_set, if_neg (by lia)]
    exact R.out i (by lia)
  · intro i j hi hj q
    obtain ⟨h1, hi⟩ := mv i hi
    by_cases h2 : j = st.n
    · simp only [upR, h1, h2, if_true, if_false] at q
      exact absurd q.symm (R.ap i hi _ ha)
    · simp only [upR, h1, h2, if_false] at q
      exact R.inj i j hi (lv j hj h2) q
  · intro i hi p hp
    obtain ⟨h1, hi⟩ := mv i hi
    simp only [upR, h1, if_false]
    exact R.ap i hi p hp
  · intro x l hl
    obtain ⟨q1, q2⟩ := R.cl x l hl
    exact ⟨Nat.lt_succ_of_lt q1, by rw [q2]; simp [upR, Nat.ne_of_lt q1]⟩
  · intro i es q
    have q : (st.sg.set st.n ao).get i = .tab es := q
    obtain ⟨h1, _⟩ := mv i (by rw [q]; rfl)
    rw [Tr.get_set, if_neg h1] at q
    simp only [upR, h1, if_false]
    exact R.lo i es q

theorem mut_apart {n' : Nat} {ρ' : Nat → Addr} {n : Nat} {a b : AO} {o : Obj} (ha : a.mut = true) (hb : b.mut = false) (hd : b ≠ .dead) (h1 : RepO P ρ n a o) (h2 : RepO P ρ' n' b o) : False := by
  have hb' : (∃ C d, o = instObj C d) ∨ (∃ vs k, o = { cls := .type "tuple", data := .seq (List.toArray vs) k }) ∨ (∃ x y t u v, o = { cls := .type "range", dict := none, data := .fields #[.int x t, .int y u, .int 1 v], slots := #[] }) := by
    induction b with
    | dead => exact absurd rfl hd
    | inst C d => exact .inl ⟨C, _, h2.2⟩
    | tup xs => obtain ⟨vs, k, e, _⟩ := h2; exact .inr (.inl ⟨vs, k, e⟩)
    | rng q x y => obtain ⟨_, t, u, v, e⟩ := h2; exact .inr (.inr ⟨x, y, t, u, v, e⟩)
    | _ => first | exact nn hb | cases hb
  have ha' : (∃ es k, o.data = .dict es k) ∨ (o.cls = .type "list") ∨ (∃ v, o.data = .cell v) ∨ o.cls = .type "list_iterator" ∨ o.cls = .type "range_iterator" := by
    induction a with
    | dict es => obtain ⟨ds, k, e, _⟩ := h1; exact .inl ⟨_, _, congrArg Obj.data e⟩
    | tab es => obtain ⟨ds, k, e, _⟩ := h1; exact .inl ⟨_, _, congrArg Obj.data e⟩
    | list p xs => obtain ⟨vs, k, e, _⟩ := h1; exact .inr (.inl (congrArg Obj.cls e))
    | cell v =>
      induction v with
      | none => exact .inr (.inr (.inl ⟨_, h1⟩))
      | some a => obtain ⟨v, e, _⟩ := h1; exact .inr (.inr (.inl ⟨_, e⟩))
    | liter l i => exact .inr (.inr (.inr (.inl h1.2.1)))
    | riter q x y => exact .inr (.inr (.inr (.inr (congrArg Obj.cls h1))))
    | _ => first | exact nn ha | cases ha
  rcases hb' with ⟨C, d, rfl⟩ | ⟨vs, k, rfl⟩ | ⟨x, y, t, u, v, rfl⟩ <;> rcases ha' with ⟨es, k', e⟩ | e | ⟨v', e⟩ | e | e <;> first | cases e | (exact absurd e (by decide)) | (simp at e)
/-- what can be written to comes out of the rest -/
theorem Rel.impM {a : Addr} {o : Obj} {ao : AO} {rest : List (Addr × Obj)} (r : Rel P fi fc ρ st h) (ha : (a, o) ∈ fc.rest) (hs : ∀ p ∈ rest, p ∈ fc.rest ∧ p.1 ≠ a) (hm : ao.mut = true) (hlo : ∀ es, ao = .tab es → a ≠ sysModules) (hr : RepO P ρ st.n ao o) :
    Rel P fi { fc with rest := rest } (upR ρ st.n a) { st with sg := st.sg.set st.n ao, n := st.n + 1, imm := fun _ _ => False } h := by
  obtain ⟨m, os, R⟩ := r
  have X := upR_ext ρ st.n a
  have hN := R.N _ (List.mem_append_right _ ha)
  have lv : ∀ i, (st.sg.set st.n ao).get i ≠ .dead → i ≠ st.n → st.sg.get i ≠ .dead := fun i hg q => by
    rw [Tr.get_set, if_neg q] at hg; exact hg
  have mv : ∀ i, ((st.sg.set st.n ao).get i).mut = true → i ≠ st.n → (st.sg.get i).mut = true := fun i hg q => by
    rw [Tr.get_set, if_neg q] at hg; exact hg
  have far : ∀ i, st.sg.get i ≠ .dead → ρ i ≠ a := by
    intro i hi q
    cases hmi : (st.sg.get i).mut with
    | true => exact R.ap i hmi _ ha q.symm
    | false =>
      obtain ⟨o', ho, hro, hmem, hg⟩ := R.get (l := i) rfl hi
      rw [q, hN.1] at hg
      first | (obtain ⟨rfl, rfl, rfl⟩ := ret_some hg) | cases hg
      exact mut_apart hm hmi hi hr hro
  refine ⟨m, os ++ [o], R.F, ?_, ?_, by simp [R.len], ?_, ?_, ?_, ?_, ?_, ?_, fun _ _ hc => hc.elim⟩
  · intro p hp
    rcases List.mem_append.mp hp with hp | hp
    · obtain ⟨i, o', ho, hg, rfl⟩ := mem_ledF.mp hp
      rw [Nat.zero_add] at hg ⊢
      by_cases q : i = st.n
      · subst q
        rw [← R.len, List.getElem?_append_right (Nat.le_refl _)] at ho
        simp only [Nat.sub_self, List.getElem?_cons_zero, Option.some.injEq] at ho
        subst ho
        rw [upR_self]
        exact hN
      · have hi : i < os.length := by have := (List.getElem?_eq_some_iff.mp ho).1; simp only [List.length_append, List.length_cons, List.length_nil, R.len] at this ⊢; lia
        rw [List.getElem?_append_left hi] at ho
        simp only [upR, q, if_false]
        exact R.N _ (List.mem_append_left _ (mem_ledF.mpr ⟨i, o', ho, by rw [Nat.zero_add]; exact lv i hg q, by rw [Nat.zero_add]⟩))
    · exact R.N _ (List.mem_append_right _ (hs p hp).1)
  · intro x b hb
    obtain ⟨v, hv, rv⟩ := R.mu x b hb
    exact ⟨v, hv, rv.ext X⟩
  · intro i o' e
    show RepO P _ (st.n + 1) ((st.sg.set st.n ao).get i) o'
    rw [Tr.get_set]
    by_cases q : i = st.n
    · rw [if_pos q]
      rw [q, ← R.len, List.getElem?_append_right (Nat.le_refl _)] at e
      simp only [Nat.sub_self, List.getElem?_cons_zero, Option.some.injEq] at e
      subst e; exact hr.ext X
    · rw [if_neg q]
      have hi : i < os.length := by have := (List.getElem?_eq_some_iff.mp e).1; simp only [List.length_append, List.length_cons, List.length_nil, R.len] at this ⊢; lia
      rw [List.getElem?_append_left hi] at e
      exact (R.os i o' e).ext X
  · intro i hi
    show (st.sg.set st.n ao).get i = _
    have hi' : st.n + 1 ≤ i := hi
    rw [Tr.get_set, if_neg (by lia)]
    exact R.out i (by lia)
  · intro i j hi hj q
    by_cases h1 : i = st.n <;> by_cases h2 : j = st.n <;> simp only [upR, h1, h2, if_true, if_false] at q ⊢
    · exact absurd q.symm (far j (lv j hj h2))
    · exact absurd q (far i (AO.mut_live (mv i hi h1)))
    · exact R.inj i j (mv i hi h1) (lv j hj h2) q
  · intro i hi p hp
    obtain ⟨p1, p2⟩ := hs p hp
    by_cases h1 : i = st.n
    · simp only [upR, h1, if_true]; exact p2
    · simp only [upR, h1, if_false]
      exact R.ap i (mv i hi h1) p p1
  · intro x l hl
    obtain ⟨q1, q2⟩ := R.cl x l hl
    exact ⟨Nat.lt_succ_of_lt q1, by rw [q2]; simp [upR, Nat.ne_of_lt q1]⟩
  · intro i es' q
    have q : (st.sg.set st.n ao).get i = .tab es' := q
    rw [Tr.get_set] at q
    by_cases h1 : i = st.n
    · rw [if_pos h1] at q
      simp only [upR, h1, if_true]; exact hlo es' q
    · rw [if_neg h1] at q
      simp only [upR, h1, if_false]
      exact R.lo i es' q

theorem Rel.impD {a : Addr} {o : Obj} {es : List (Nm × AV)} {rest : List (Addr × Obj)} (r : Rel P fi fc ρ st h) (ha : (a, o) ∈ fc.rest) (hs : ∀ p ∈ rest, p ∈ fc.rest ∧ p.1 ≠ a) (hr : RepO P ρ st.n (.dict es) o) :
    Rel P fi { fc with rest := rest } (upR ρ st.n a) { st with sg := st.sg.set st.n (.dict es), n := st.n + 1, imm := fun _ _ => False } h := r.impM ha hs rfl (fun _ q => by cases q) hr

/-- a list's items are told in another way -/
theorem Rel.view (r : Rel P fi fc ρ st h) {l : Nat} {p p' : Option (List AV)} {xs xs' : List AV} (e : st.sg.get l = .list p xs) (hv : ∀ vs, All2 (RepV ρ st.n) (itm p xs) vs → All2 (RepV ρ st.n) (itm p' xs') vs) :
    Rel P fi fc ρ (setO l (.list p' xs') st) h := by
  obtain ⟨m, os, R⟩ := r
  obtain ⟨o, ho, hr, hm, hg⟩ := R.get e (by intro q; cases q)
  have hl : l < st.n := R.lt (by rw [e]; intro q; cases q)
  have hset : os.set l o = os := by
    obtain ⟨h1, h2⟩ := List.getElem?_eq_some_iff.mp ho
    rw [← h2]; exact List.set_getElem_self h1
  have := R.set (l := l) (a' := .list p' xs') (o' := o) hl R.F (by rw [hset]; exact R.N) (by
    obtain ⟨vs, k, e1, e2⟩ := hr
    exact ⟨vs, k, e1, hv vs e2⟩) (hm := by rw [e]; rfl)
  exact ⟨m, _, this⟩
end

section
variable {prog : Program} {w : World} {K : Frag} {p : Program} {loose : List Str} {mean : ExcName → Option Value} {mg mb : Str → Option Value} {T : PT} {D n : Nat} {I : Evs} {fi : FI} {fc : FC} {ρ : Nat → Addr} {st st' : St} {s : Shared}

/-- j turns of a while loop, each of which goes on -/
noncomputable def itWh (I : Evs) (fi : FI) (t : Expr) (b : List Stmt) : Nat → St → Rr Unit
  | 0, st => ret () st
  | j + 1, st => bnd (I.b fi t st) fun c st => match c with
    | false => none
    | true => bnd (I.ss fi b st) fun f st => match f with
      | .next => itWh I fi t b j st
      | .cont => itWh I fi t b j st
      | _ => none
set_option tactic.hygienic true in
theorem itWh_sound (S : Snd prog w K p loose mean mg mb D n I) (O : FrOk K p loose mean mg mb fi fc) (B : Room2 D n fc.A) {t : Expr} {b : List Stmt} {Q : Flow → Shared → Prop} {k : Nat} : ∀ (j : Nat) {st : St} {ρ : Nat → Addr} {s : Shared} {P : List Prop},
    itWh I fi t b j st = some ((), st', P) → Ps P → Rel w.params fi fc ρ st s.heap →
    (∀ ρ' h' tk, Ext ρ st.n ρ' st'.n → Rel w.params fi fc ρ' st' h' → WhlRest prog w fc.A NoE fc.env t b [] Q k { s with heap := h', toks := tk }) → WhlRest prog w fc.A NoE fc.env t b [] Q k s
  | 0, st, ρ, s, P, h, hP, r, H => by
    first | (obtain ⟨rfl, rfl, rfl⟩ := ret_some h) | cases h
    exact H ρ s.heap s.toks ⟨Nat.le_refl _, fun _ _ => rfl⟩ r
  | j + 1, st, ρ, s, P, h, hP, r, H => by
    have h : bnd (I.b fi t st) (fun c st => match c with
      | false => none
      | true => bnd (I.ss fi b st) fun f st => match f with
        | .next => itWh I fi t b j st
        | .cont => itWh I fi t b j st
        | _ => none) = some ((), st', P) := h
    show WhlRest prog w fc.A NoE fc.env t b [] Q (0 + 1) s
    refine whl_turn (k := 0) (passesNo _ _ _) ?_
    refine bnd_el h hP fun c st1 P1 P2 h1 h2 hP1 hP2 => ?_
    refine S.b _ _ _ _ _ _ _ h1 hP1 O B ρ s _ r fun ρ1 h' tk v X r1 q => ?_
    subst q
    induction v with
    | false => first | exact nn h2 | cases h2
    | true =>
      refine bnd_el h2 hP2 fun f st2 P3 P4 h3 h4 hP3 hP4 => ?_
      refine WhlIf.yes rfl (S.ss _ _ _ _ _ _ _ h3 hP3 O B ρ1 _ _ r1 fun ρ2 h2' tk2 v2 X2 r2 q2 => ?_)
      induction f with
      | next => obtain rfl := q2; exact itWh_sound S O B (k := 0) j (s := { s with heap := h2', toks := tk2 }) h4 hP4 r2 fun ρ' h'' tk' X' r' => H ρ' h'' tk' ((X.trans X2).trans X') r'
      | cont => obtain rfl := q2; exact itWh_sound S O B (k := 0) j (s := { s with heap := h2', toks := tk2 }) h4 hP4 r2 fun ρ' h'' tk' X' r' => H ρ' h'' tk' ((X.trans X2).trans X') r'
      | brk => first | exact nn h4 | cases h4
      | ret b => first | exact nn h4 | cases h4
end
end Mine
namespace Mine
open PySem PySem.W PyProof.Rows PySem.Calls PySem.Spec

theorem look_zip_isSome {y : Str} : ∀ {ps : List Str} {vs : List Value}, y ∈ ps → vs.length = ps.length → ((ps.zip vs).lookup y).isSome = true
  | x :: ps, v :: vs, h, hl => by
    rw [List.zip_cons_cons, List.lookup_cons]
    cases e : y == x with
    | true => rfl
    | false =>
      have : y ≠ x := by simpa using e
      exact look_zip_isSome ((List.mem_cons.mp h).resolve_left this) (by simpa using hl)
  | x :: ps, [], h, hl => by simp at hl
theorem filterMap_zip : ∀ {ps : List Str} {vs : List Value} (f : Str → Option (Str × Value)), vs.length = ps.length → ps.Nodup → (∀ q ∈ ps.zip vs, f q.1 = some q) → ps.filterMap f = ps.zip vs
  | [], [], f, _, _, _ => rfl
  | x :: ps, v :: vs, f, hl, nd, h => by
    rw [List.filterMap_cons, h (x, v) (.head _), List.zip_cons_cons]
    exact congrArg _ (filterMap_zip f (by simpa using hl) (List.nodup_cons.mp nd).2 fun q hq => h q (.tail _ hq))
  | [], _ :: _, _, hl, _, _ => by simp at hl
  | _ :: _, [], _, hl, _, _ => by simp at hl
theorem lookup_zip : ∀ {ps : List Str} {vs : List Value} {q : Str × Value}, ps.Nodup → q ∈ ps.zip vs → (ps.zip vs).lookup q.1 = some q.2
  | x :: ps, v :: vs, q, nd, h => by
    rw [List.zip_cons_cons] at h ⊢
    rw [List.lookup_cons]
    rcases List.mem_cons.mp h with rfl | h
    · simp
    · have hx : q.1 ∈ ps := (List.of_mem_zip (a := q.1) (b := q.2) h).1
      have : q.1 ≠ x := fun e => (List.nodup_cons.mp nd).1 (e ▸ hx)
      rw [show (q.1 == x) = false from by simpa using this]
      exact lookup_zip (List.nodup_cons.mp nd).2 h
  | [], _, _, _, h => by simp at h
  | _ :: _, [], _, _, h => by simp at h

theorem bind_plain {fd : FuncData} (h1 : fd.params.posonlyargs = []) (h2 : fd.params.kwonlyargs = []) (h3 : fd.params.vararg = none) (h4 : fd.params.kwarg = none) (h5 : fd.defaults = .none) {ps : List Str} (hp : fd.params.args.map (·.arg) = ps)
    (nd : ps.Nodup) {vs : List Value} (hl : vs.length = ps.length) : bindArgs fd ⟨vs, []⟩ = pure (ps.zip vs) := by
  have hs : seqItems? .none = pure none := rfl
  have hm : List.filter (fun n => ((ps.zip vs).lookup n).isNone) ps = [] := by
    rw [List.filter_eq_nil_iff]
    intro y hy
    have := look_zip_isSome hy hl
    cases e : (ps.zip vs).lookup y with
    | none => rw [e] at this; cases this
    | some v => simp
  have hf : ps.filterMap (fun n => ((ps.zip vs).lookup n).map fun v => (n, v)) = ps.zip vs := filterMap_zip _ hl nd fun q hq => by
    rw [lookup_zip nd hq]; rfl
  unfold bindArgs
  simp only [h1, h2, h3, h4, h5, hp, hs, List.map_nil, List.nil_append, List.append_nil, List.forIn_nil, pure_bind, hl, Option.getD_none, Array.toList_empty, List.length_nil, List.drop_nil, Nat.sub_zero, Nat.zero_sub, List.take_length, List.zip_nil_right,
    hm, List.isEmpty_nil, Bool.not_true, Bool.false_eq_true, if_false, hf, gt_iff_lt, Nat.lt_irrefl, decide_false, Bool.false_and]


noncomputable def ndB : List Nm → Bool
  | [] => true
  | x :: r => match memN x r with
    | true => false
    | false => ndB r
set_option tactic.hygienic true in
theorem memN_not {x : Nm} : ∀ {l : List Nm}, memN x l = false → x ∉ l
  | [], _, q => nomatch q
  | k :: r, h, q => by
    unfold memN at h
    split at h
    · first | exact nn h | cases h
    · rename_i e
      rcases List.mem_cons.mp q with rfl | q
      · rw [nmEq_iff.mpr rfl] at e; cases e
      · exact memN_not h q
set_option tactic.hygienic true in
theorem ndB_iff : ∀ {l : List Nm}, ndB l = true → l.Nodup
  | [], _ => .nil
  | x :: r, h => by
    unfold ndB at h
    split at h
    · first | exact nn h | cases h
    · rename_i e
      refine List.nodup_cons.mpr ⟨fun q => ?_, ndB_iff h⟩
      exact memN_not e q

noncomputable def fnK (K : Frag) (f : Nat) : FnI := match K.lookup f with
  | some ⟨_, _, .func fd, _⟩ => ⟨fd.params.args.map fun a => nm a.arg, match fd.body with | .stmts b => b | _ => [], fd.scope⟩
  | _ => ⟨[], [], default⟩
noncomputable def isStmts : FuncBody → Bool
  | .stmts _ => true
  | _ => false
noncomputable def isNoneV : Value → Bool
  | .none => true
  | _ => false
noncomputable def isFunK : ScopeKind → Bool
  | .function => true
  | _ => false
noncomputable def isLoc : Option NameKind → Bool
  | some .local => true
  | _ => false
noncomputable def fdChk (K : Frag) (fd : FuncData) : Bool :=
  isStmts fd.body && Nat.beq fd.globals mainGlobals && Nat.beq fd.builtins builtinsNs && fd.closure.isEmpty && fd.params.posonlyargs.isEmpty && fd.params.kwonlyargs.isEmpty && fd.params.vararg.isNone && fd.params.kwarg.isNone && isNoneV fd.defaults &&
  codeIn K fd.code fd.qualname && ndB (fd.params.args.map fun a => nm a.arg) && (fd.params.args.all fun a => isLoc (kindL (nm a.arg) fd.scope.names)) && !fd.scope.isCoroutine && !fd.scope.isGenerator && isFunK fd.scope.kind && noCell fd.scope.names
noncomputable def fnChk (K : Frag) (f : Nat) : Bool := match K.lookup f with
  | some ⟨_, _, .func fd, _⟩ => fdChk K fd
  | _ => false
set_option tactic.hygienic true in
theorem fnRec_of {K : Frag} {f : Addr} (h : fnChk K f = true) : FnRec K f (fnK K f) := by
  unfold fnChk at h
  split at h
  · rename_i oc od fd osl hk
    unfold fdChk at h
    simp only [Bool.and_eq_true] at h
    obtain ⟨⟨⟨⟨⟨⟨⟨⟨⟨⟨⟨⟨⟨⟨⟨c1, c2⟩, c3⟩, c4⟩, c5⟩, c6⟩, c7⟩, c8⟩, c9⟩, c10⟩, c11⟩, c12⟩, c13⟩, c14⟩, c15⟩, c16⟩ := h
    obtain ⟨name, qual, params, body, scope, gl, cl, dV, kV, doc, pm, an, cdv, ct, bl⟩ := fd
    dsimp only at c1 c2 c3 c4 c5 c6 c7 c8 c9 c10 c11 c12 c13 c14 c15 c16
    have c2 := Nat.eq_of_beq_eq_true c2
    have c3 := Nat.eq_of_beq_eq_true c3
    have c4 := List.isEmpty_iff.mp c4
    subst c2 c3 c4
    induction body with
    | stmts b =>
      have hfk : fnK K f = ⟨params.args.map fun a => nm a.arg, b, scope⟩ := by unfold fnK; rw [hk]
      have hd : dV = .none := by cases dV <;> first | rfl | cases c9
      have hps : (params.args.map fun a => nm a.arg).map stn = params.args.map (·.arg) := by
        rw [List.map_map]; rfl
      have nd := ndB_iff c11
      refine ⟨⟨oc, od, name, qual, params, dV, kV, doc, pm, an, cdv, ct, osl, by rw [hfk]; exact hk, c10, fun vs hl => ?_⟩, fun x hx => ?_, by rw [hfk]; exact nd, ?_, ?_, ?_, ?_⟩
      · rw [hfk] at hl ⊢
        refine bind_plain (List.isEmpty_iff.mp c5) (List.isEmpty_iff.mp c6) (by simpa using c7) (by simpa using c8) hd hps.symm ?_ (by simpa using hl)
        show (List.map stn (params.args.map fun a => nm a.arg)).Nodup
        exact List.Pairwise.map _ (fun a b q e => q (stn_inj e)) nd
      · rw [hfk] at hx ⊢
        obtain ⟨a, ha, rfl⟩ := List.mem_map.mp hx
        have := List.all_eq_true.mp c12 a ha
        rw [kindL_eq] at this
        cases e : scope.names.lookup (stn (nm a.arg)) with
        | none => rw [e] at this; cases this
        | some k => rw [e] at this; cases k <;> first | rfl | cases this
      · rw [hfk]; simpa using c13
      · rw [hfk]; simpa using c14
      · rw [hfk]
        show scope.kind = .function
        cases e : scope.kind <;> first | rfl | (rw [e] at c15; cases c15)
      · rw [hfk]; exact noCell_iff c16
    | _ => cases c1
  · first | exact nn h | cases h

/-! the table -/
noncomputable def strChk (v : Option (Option Value)) (l : Nm) : Bool := match v with
  | some (some (.str s _)) => nmEq (nm s) l
  | _ => false
noncomputable def intChk (v : Option (Option Value)) (i : Int) : Bool := match v with
  | some (some (.int j _)) => decide (j = i)
  | _ => false
noncomputable def refChk (v : Option (Option Value)) (a : Nat) : Bool := match v with
  | some (some (.ref b)) => Nat.beq b a
  | _ => false
noncomputable def glChk (K : Frag) (e : Nm × GV) : Bool := match e.2 with
  | .av (.txt l) => strChk (nsIn K mainGlobals (stn e.1)) l
  | .av (.num i) => intChk (nsIn K mainGlobals (stn e.1)) i
  | .av (.con (.ref a)) => refChk (nsIn K mainGlobals (stn e.1)) a
  | .fn (.fn a) => keepIn K (.ref a) && refChk (nsIn K mainGlobals (stn e.1)) a
  | .fn (.bi b) => nsIn K mainGlobals (stn e.1) == some none && bootBuiltins (stn e.1) == some b.val && !(stn e.1 == ("__name__" : Str))
  | _ => false
noncomputable def mthChk (K : Frag) (C : Addr) (q : Nm × Addr) : Bool := plainGet K C (stn q.1) && findIn K (.ref C) (stn q.1) == some (some (.ref q.2)) && isFn K (.ref q.2) && keepIn K (.ref q.2)
noncomputable def fldChk (K : Frag) (C : Addr) (x : Nm) : Bool := plainGet K C (stn x) && findIn K (.ref C) (stn x) == some none && takerIn K C (stn x) == some none
noncomputable def clChk (K : Frag) (e : Nat × ClI) : Bool :=
  makesIn K e.1 && findIn K (.ref e.1) "__init__" == some (some (.ref e.2.ini)) && isFn K (.ref e.2.ini) && hasDictIn K e.1 && findIn K (.ref e.1) "__setattr__" == some (some (.builtin "object.__setattr__")) && plainOver K e.1 &&
  e.2.flds.all (fldChk K e.1) && e.2.mths.all (mthChk K e.1)
noncomputable def strsChk : List Value → List Nm → Bool
  | [], [] => true
  | .str s _ :: vs, x :: xs => nmEq (nm s) x && strsChk vs xs
  | _, _ => false
noncomputable def tupChk (K : Frag) (e : Nat × List Nm) : Bool := match K.lookup e.1 with
  | some ⟨c, _, .seq xs _, _⟩ => c == .type "tuple" && strsChk xs.toList e.2
  | _ => false
theorem strsChk_is : ∀ {vs : List Value} {xs : List Nm}, strsChk vs xs = true → StrsAre vs (xs.map stn)
  | [], [], _ => .nil
  | .str s t :: vs, x :: xs, h => by
    unfold strsChk at h
    rw [Bool.and_eq_true] at h
    have := nmEq_iff.mp h.1
    rw [List.map_cons, ← this]
    exact .cons _ _ (strsChk_is h.2)
set_option tactic.hygienic true in
theorem ptOk_of {K : Frag} {T : PT} (h1 : T.glob.all (glChk K) = true) (h2 : T.cls.all (clChk K) = true) (h3 : T.tups.all (tupChk K) = true) (h4 : T.ncls.all (fun C => isNotIn K "str" C) = true) : PTOk2 K T where
  tups k l h := by
    have := List.all_eq_true.mp h3 _ (lookN_mem h)
    unfold tupChk at this
    split at this
    · rename_i c dd xs n sl e
      rw [Bool.and_eq_true] at this
      have hc : c = .type "tuple" := beq_iff_eq.mp this.1
      exact ⟨dd, n, sl, xs.toList, by rw [← hc]; exact e, strsChk_is this.2⟩
    · cases this
  globA x a h := by
    have := List.all_eq_true.mp h1 _ (look_mem h)
    unfold glChk at this
    dsimp only at this
    split at this
    · rename_i l e; cases e
      unfold strChk at this
      split at this
      · rename_i s t e
        exact ⟨_, e, fun _ _ => ⟨t, by rw [← nmEq_iff.mp this]; rfl⟩⟩
      · cases this
    · rename_i l e; cases e
      unfold intChk at this
      split at this
      · rename_i s t e
        exact ⟨_, e, fun _ _ => ⟨t, by rw [of_decide_eq_true this]⟩⟩
      · cases this
    · rename_i l e; cases e
      unfold refChk at this
      split at this
      · rename_i s e
        exact ⟨_, e, fun _ _ => ⟨congrArg Value.ref (Nat.eq_of_beq_eq_true this), rfl⟩⟩
      · cases this
    · rename_i e; cases e
    · rename_i e; cases e
    · cases this
  globF x f h := by
    have := List.all_eq_true.mp h1 _ (look_mem h)
    unfold glChk at this
    dsimp only at this
    split at this
    · rename_i e; cases e
    · rename_i e; cases e
    · rename_i e; cases e
    · rename_i a e; cases e
      rw [Bool.and_eq_true] at this
      refine ⟨this.1, .inl ?_⟩
      have := this.2
      unfold refChk at this
      split at this
      · rename_i s e
        rw [e, Nat.eq_of_beq_eq_true this]; rfl
      · cases this
    · rename_i b e; cases e
      simp only [Bool.and_eq_true] at this
      exact ⟨trivial, .inr ⟨beq_iff_eq.mp this.1.1, beq_iff_eq.mp this.1.2, by simpa using this.2⟩⟩
    · cases this
  cls C ci h := by
    have := List.all_eq_true.mp h2 _ (lookN_mem h)
    unfold clChk at this
    simp only [Bool.and_eq_true] at this
    obtain ⟨⟨⟨⟨⟨⟨⟨c1, c2⟩, c3⟩, c4⟩, c5⟩, c6⟩, c7⟩, c8⟩ := this
    refine ⟨c1, beq_iff_eq.mp c2, c3, c4, beq_iff_eq.mp c5, c6, fun x hx => ?_, fun q hq => ?_⟩
    · have := List.all_eq_true.mp c7 x hx
      unfold fldChk at this
      simp only [Bool.and_eq_true] at this
      exact ⟨this.1.1, beq_iff_eq.mp this.1.2, beq_iff_eq.mp this.2⟩
    · have := List.all_eq_true.mp c8 q hq
      unfold mthChk at this
      simp only [Bool.and_eq_true] at this
      exact ⟨this.1.1.1, beq_iff_eq.mp this.1.1.2, this.1.2, this.2⟩
  ncls C h := List.all_eq_true.mp h4 C h
theorem fnTab_of {K : Frag} {l : List Nat} (h : l.all (fnChk K) = true) : ∀ f g, lookN f (l.map fun a => (a, fnK K a)) = some g → FnRec K f g := fun f g e => by
  obtain ⟨a, ha, q⟩ := List.mem_map.mp (lookN_mem e)
  cases q
  exact fnRec_of (List.all_eq_true.mp h _ ha)
end Mine
namespace Mine
open PySem PySem.W PyProof.Rows PySem.Calls PySem.Spec

/-- what is told of a thing that goes to the rest -/
inductive EO where
  | tup (xs : List AV)
  | inst (C : Addr) (a : Addr)
  | dict (es : List (Nm × AV))
  | mu (a : AO)
  | non
noncomputable def exO (ρ : Nat → Addr) : AO → EO
  | .tup xs => .tup (renL ρ [] xs)
  | .inst C d => .inst C (ρ d)
  | .dict es => .dict (renP ρ [] es)
  | .list none xs => .mu (.list none (renL ρ [] xs))
  | .list (some p) xs => .mu (.list none (renL ρ [] p ++ renL ρ [] xs))
  | .cell none => .mu (.cell none)
  | .cell (some a) => .mu (.cell (some (renV ρ [] a)))
  | .riter p x y => .mu (.riter p x y)
  | _ => .non
noncomputable def RepEO (P : Params) : EO → Obj → Prop
  | .tup xs, o => RepO P (fun _ => 0) 0 (.tup xs) o
  | .inst C a, o => o = instObj C a
  | .dict es, o => RepO P (fun _ => 0) 0 (.dict es) o
  | .mu a, o => RepO P (fun _ => 0) 0 a o
  | .non, _ => True
theorem exO_rep {P : Params} {ρ : Nat → Addr} {n : Nat} {a : AO} {o : Obj} (r : RepO P ρ n a o) : RepEO P (exO ρ a) o := by
  induction a with
  | tup xs => obtain ⟨vs, k, e, h⟩ := r; exact ⟨vs, k, e, h.cloL _ _⟩
  | dict xs => obtain ⟨vs, k, e, h⟩ := r; exact ⟨vs, k, e, h.cloP _ _⟩
  | inst C d => exact r.2
  | list p xs =>
    obtain ⟨vs, k, e, h⟩ := r
    induction p with
    | none => exact ⟨vs, k, e, h.cloL _ _⟩
    | some p =>
      refine ⟨vs, k, e, ?_⟩
      obtain ⟨b1, b2, rfl, h1, h2⟩ := All2.split h
      exact (h1.cloL _ _).append (h2.cloL _ _)
  | cell v => induction v with
    | none => exact r
    | some a => obtain ⟨v, e, h⟩ := r; exact ⟨v, e, renV_clo h _ _⟩
  | riter => exact r
  | _ => trivial
noncomputable def exAll (ρ : Nat → Addr) (sg : Tr) : List Nat → List EO
  | [] => []
  | l :: r => exO ρ (sg.get l) :: exAll ρ sg r
theorem exAll_get {ρ : Nat → Addr} {sg : Tr} : ∀ {xs : List Nat} {i l : Nat} {e : EO}, xs[i]? = some l → (exAll ρ sg xs)[i]? = some e → e = exO ρ (sg.get l)
  | [], i, l, e, h, _ => by simp at h
  | a :: r, 0, l, e, h, k => by cases h; cases k; rfl
  | a :: r, i + 1, l, e, h, k => exAll_get (xs := r) (i := i) (by simpa using h) (by simpa [exAll] using k)
noncomputable def liveL (sg : Tr) : List Nat → Bool
  | [] => true
  | l :: r => match (sg.get l).isDead with
    | true => false
    | false => liveL sg r
set_option tactic.hygienic true in
theorem liveL_iff {sg : Tr} : ∀ {xs : List Nat}, liveL sg xs = true → ∀ l ∈ xs, sg.get l ≠ .dead
  | [], _, _, h => nomatch h
  | k :: r, h, l, hl => by
    unfold liveL at h
    split at h
    · first | exact nn h | cases h
    · rename_i e
      rcases List.mem_cons.mp hl with rfl | hl
      · intro q; rw [AO.isDead_iff.mpr q] at e; cases e
      · exact liveL_iff h l hl
noncomputable def apartL (xs : List Nat) : List Nat → Bool
  | [] => true
  | k :: r => match memNat k xs with
    | true => false
    | false => apartL xs r
set_option tactic.hygienic true in
theorem apartL_iff {xs : List Nat} : ∀ {ks : List Nat}, apartL xs ks = true → ks.all (fun k => !(memNat k xs)) = true
  | [], _ => rfl
  | k :: r, h => by
    unfold apartL at h
    split at h
    · first | exact nn h | cases h
    · rename_i e
      simp only [List.all_cons, e, Bool.not_false, Bool.true_and]
      exact apartL_iff h
/-- the outcome as it is seen anew -/
noncomputable def outc {α : Type} (ρ : Nat → Addr) (ks xs : List Nat) (ns : List Nm) (r : Rr α) : Option (St × List EO × α × List Prop) := match r with
  | none => none
  | some (a, st, P) => match freshL st.n ks, freshL st.n xs, apartL xs ks, liveL st.sg xs with
    | true, true, true, true => some (subSt ρ ks ns st, exAll ρ st.sg xs, a, P)
    | _, _, _, _ => none
set_option tactic.hygienic true in
theorem outc_some {α : Type} {ρ : Nat → Addr} {ks xs : List Nat} {ns : List Nm} {r : Rr α} {C : St} {E : List EO} {a : α} {Ph : List Prop} (h : outc ρ ks xs ns r = some (C, E, a, Ph)) :
    ∃ st P, r = some (a, st, P) ∧ freshL st.n ks = true ∧ freshL st.n xs = true ∧ ks.all (fun k => !(memNat k xs)) = true ∧ (∀ l ∈ xs, st.sg.get l ≠ .dead) ∧ C = subSt ρ ks ns st ∧ E = exAll ρ st.sg xs ∧ Ph = P := by
  unfold outc at h
  split at h
  · first | exact nn h | cases h
  · rename_i a' st P
    split at h
    · rename_i h1 h2 h3 h4
      first | (obtain ⟨rfl, rfl, rfl⟩ := ret_some h) | cases h
      exact ⟨st, _, rfl, h1, h2, apartL_iff h3, liveL_iff h4, rfl, rfl, rfl⟩
    · first | exact nn h | cases h
section
variable {prog : Program} {w : World} {K : Frag} {p : Program} {loose : List Str} {mean : ExcName → Option Value} {mg mb : Str → Option Value} {T : PT} {D n : Nat} {I : Evs} {fi : FI} {fc : FC} {ρ : Nat → Addr} {st st' : St} {s : Shared}

/-- what one comes to know of the things that go to the rest -/
structure Gone (P : Params) (fc : FC) (ρ : Nat → Addr) (xs : List Nat) (E : List EO) (f : Nat → Obj) : Prop where
  rep : ∀ (i l : Nat) (e : EO), xs[i]? = some l → E[i]? = some e → RepEO P e (f l)
  new : ∀ (i l : Nat) (es : List (Nm × AV)), xs[i]? = some l → E[i]? = some (.dict es) → (∀ p ∈ fc.rest, p.1 ≠ ρ l) ∧ ∀ l' ∈ xs, ρ l = ρ l' → l = l'
  neu : ∀ (i l : Nat) (a : AO), xs[i]? = some l → E[i]? = some (.mu a) → (∀ p ∈ fc.rest, p.1 ≠ ρ l) ∧ ∀ l' ∈ xs, ρ l = ρ l' → l = l'

theorem anew {α : Type} {ks xs : List Nat} {ns : List Nm} {r : Rr α} {C : St} {E : List EO} {a : α} {Ph : List Prop} {ρ' : Nat → Addr} {h' : Heap} (h : outc ρ' ks xs ns r = some (C, E, a, Ph)) (hPh : Ps Ph) (hcl : ∀ x l, look x fi.cl = some l → ks[l]? = some l) :
    ∃ st1 P, r = some (a, st1, P) ∧ Ps P ∧ (Rel w.params fi fc ρ' st1 h' → ∃ f, Gone w.params fc ρ' xs E f ∧ Rel w.params fi { fc with rest := xs.map (fun l => (ρ' l, f l)) ++ fc.rest } (fun j => ρ' (ks.getD j 0)) C h') := by
  obtain ⟨st1, P, e, h1, h2, h3, h4, h5, h6, h7⟩ := outc_some h
  subst h5 h6
  rw [h7] at hPh
  have hP := hPh
  refine ⟨st1, P, e, hP, fun rel => ?_⟩
  obtain ⟨f, g1, g2, g3, g4⟩ := rel.sub (ns := ns) h1 h2 h3 h4 hcl
  refine ⟨f, ⟨fun i l e hi he => ?_, fun i l es hi he => ?_, fun i l es hi he => ?_⟩, g4⟩
  · rw [exAll_get hi he]
    exact exO_rep (g1 l (List.mem_of_getElem? hi)).1
  · have hl := List.mem_of_getElem? hi
    have := exAll_get hi he
    have hm : (st1.sg.get l).mut = true := by
      cases q : st1.sg.get l with
      | dict es' => rfl
      | inst C d => rw [q] at this; cases this
      | tup C => rw [q] at this; cases this
      | rng _ _ _ => rw [q] at this; cases this
      | dead => exact absurd q (h4 l hl)
      | _ => rfl
    exact ⟨g2 l hl hm, g3 l hl hm⟩
  · have hl := List.mem_of_getElem? hi
    have := exAll_get hi he
    have hm : (st1.sg.get l).mut = true := by
      cases q : st1.sg.get l with
      | dict es' => rfl
      | inst C d => rw [q] at this; cases this
      | tup C => rw [q] at this; cases this
      | rng _ _ _ => rw [q] at this; cases this
      | dead => exact absurd q (h4 l hl)
      | _ => rfl
    exact ⟨g2 l hl hm, g3 l hl hm⟩

theorem run_turn (S : Snd prog w K p loose mean mg mb D n I) (O : FrOk K p loose mean mg mb fi fc) (B : Room2 D n fc.A) {t : Expr} {b : List Stmt} {Q : Flow → Shared → Prop} {k j : Nat} {ks xs : List Nat} {ns : List Nm}
    {C : (Nat → Addr) → St} {E : (Nat → Addr) → List EO} {Ph : (Nat → Addr) → List Prop} (hev : ∀ ρ', outc ρ' ks xs ns (itWh I fi t b j st) = some (C ρ', E ρ', (), Ph ρ')) (hPh : ∀ ρ', Ext ρ st.n ρ' (st.n) → Ps (Ph ρ'))
    (hcl : ∀ x l, look x fi.cl = some l → ks[l]? = some l) (r : Rel w.params fi fc ρ st s.heap)
    (H : ∀ ρ' h' tk f, Ext ρ st.n ρ' st.n → Gone w.params fc ρ' xs (E ρ') f → Rel w.params fi { fc with rest := xs.map (fun l => (ρ' l, f l)) ++ fc.rest } (fun j => ρ' (ks.getD j 0)) (C ρ') h' →
      WhlRest prog w fc.A NoE fc.env t b [] Q k { s with heap := h', toks := tk }) : WhlRest prog w fc.A NoE fc.env t b [] Q k s := by
  obtain ⟨st1, P, e, hP, _⟩ := anew (w := w) (fc := fc) (h' := s.heap) (hev ρ) (hPh ρ ⟨Nat.le_refl _, fun _ _ => rfl⟩) hcl
  refine itWh_sound S O B j e hP r fun ρ' h' tk X r' => ?_
  have X' : Ext ρ st.n ρ' st.n := ⟨Nat.le_refl _, X.2⟩
  obtain ⟨st2, P2, e2, _, g⟩ := anew (w := w) (fc := fc) (h' := h') (hev ρ') (hPh ρ' X') hcl
  rw [e] at e2
  cases e2
  obtain ⟨f, g1, g2⟩ := g r'
  exact H ρ' h' tk f X' g1 g2
end
end Mine
namespace Mine
open PySem PySem.W PyProof.Rows PySem.Calls PySem.Spec

/-- a loop to its end, and what follows it -/
noncomputable def whEnd (I : Evs) (fi : FI) (t : Expr) (b rest : List Stmt) (st : St) : Rr AFl := bnd (I.wh fi t b st) fun f st => match f with
  | .next => I.ss fi rest st
  | .ret a => ret (.ret a) st
  | _ => none

section
variable {prog : Program} {w : World} {K : Frag} {p : Program} {loose : List Str} {mean : ExcName → Option Value} {mg mb : Str → Option Value} {T : PT} {D n : Nat} {I : Evs} {fi : FI} {fc : FC} {ρ : Nat → Addr} {st st' : St} {s : Shared}

/-- how a frame's state is seen from the frame that called -/
noncomputable def Back (w : World) (fi : FI) (fc : FC) (ρ : Nat → Addr) (st : St) (R : Value → Shared → Prop) (fi' : FI) (fc' : FC) (v : Value) (s' : Shared) : Prop :=
  ∃ ρ' st' rest' mu', Rel w.params fi' { fc' with rest := rest' } ρ' st' s'.heap ∧ (∀ x a, look x mu' = some a → ∃ b, look x st.mu = some b ∧ ∀ u, RepV ρ st.n b u → RepV ρ' st'.n a u) ∧
    (∀ x l, look x fi.cl = some l → l < st'.n ∧ ρ' l = ρ l) ∧ (Rel w.params fi { fc with rest := rest' } ρ' { st' with mu := mu' } s'.heap → R v s')

noncomputable def flVal : Flow → Value
  | .ret v => v
  | _ => .none

theorem enter_hand {f : Addr} {g : FnI} (G : FnRec K f g) {A : Around} (hroom : A.depth < 1000) (hfr : A.frames = fc.A.frames) (hhA : A.handled = none)
    {vs : List AV} {cvs : List Value} {mu : List (Nm × AV)} (hz : zipP g.ps vs = some mu) (O : FrOk K p loose mean mg mb fi fc) (own : fi.own = true)
    {R : Result → Shared → Prop} (r : Rel w.params fi fc ρ st s.heap) (rv : All2 (RepV ρ st.n) vs cvs)
    (H : ∀ (fc' : FC) (h' : Heap) (tk : Nat), fc'.A.depth = A.depth + 1 → fc'.A.units = A.units + 3 → fc'.rest = fc.rest → FrOk K p loose mean mg mb ⟨g.sc, [], true, none⟩ fc' → Rel w.params ⟨g.sc, [], true, none⟩ fc' ρ { st with mu := mu } h' →
      wpAny (model prog w) fc'.A (execs g.body fc'.env) (fun fl s' => Back w fi fc ρ st (fun v s' => R (.ok (.ret v)) s') ⟨g.sc, [], true, none⟩ fc' (flVal fl) s') NoE { s with heap := h', toks := tk }) :
    codeAny (model prog w) A (.call (.ref f) ⟨cvs, []⟩) R s := by
  obtain ⟨m, os, R0⟩ := r
  obtain ⟨oc, od, name, qual, params, dV, kV, doc, pm, an, cdv, ct, osl, ho, hcd, hbind⟩ := G.ex
  obtain ⟨hB, hF, hL⟩ := O.own own
  obtain ⟨hlen, hmu⟩ := zipP_some hz rv
  have hk := zip_keys hlen
  have hA : A.frames = some (fc.env :: fc.outer) := hfr.trans hF
  refine code_def (binds := (g.ps.map stn).zip cvs) (s := s) hB R0.F O.X R0.N O.T hA hL O.hk ho hcd ?_ (BindsTo.of_eq (hbind cvs hlen)) (fun y hy => ?_) (fun g' L' h₁ FG F' N' B' X' T' => ?_) G.co G.gen G.kind G.cell
  · have e : recursionLimit = 1000 := rfl
    rw [e]; exact hroom
  · have : y.1 ∈ g.ps.map stn := by rw [← hk]; exact List.mem_map.mpr ⟨y, hy, rfl⟩
    obtain ⟨x, hx, hxy⟩ := List.mem_map.mp this
    rw [← hxy]; exact G.loc x hx
  · have O' : FrOk K p loose mean mg mb ⟨g.sc, [], true, none⟩ { A := A.deeper (envOf qual g.sc L' f cdv), A₀ := A, base := fc.base, outer := fc.env :: fc.outer, h₀ := g', env := envOf qual g.sc L' f cdv, rest := fc.rest } :=
      ⟨X', T', hhA, G.kind, rfl, rfl, rfl, (fun _ => ⟨B', Around.frames_deeper hA, rfl⟩), fun b xs z => by cases z⟩
    have Rc : RelAt w.params ⟨g.sc, [], true, none⟩ { A := A.deeper (envOf qual g.sc L' f cdv), A₀ := A, base := fc.base, outer := fc.env :: fc.outer, h₀ := g', env := envOf qual g.sc L' f cdv, rest := fc.rest } ρ { st with mu := mu } h₁ _ os :=
      ⟨F', N', (fun x b hb => by
        obtain ⟨v, hv, rv⟩ := hmu x b hb
        refine ⟨v, lookup_of_memV ?_ (List.mem_reverse.mpr hv), rv⟩
        rw [List.map_reverse, hk]
        refine (List.reverse_perm _).nodup_iff.mpr ?_
        exact List.Pairwise.map _ (fun a b q e => q (stn_inj e)) G.nd), R0.len, R0.os, R0.out, R0.inj, R0.ap, (fun x l hx => by cases hx), R0.lo, R0.im⟩
    refine wpAny_mono (H { A := A.deeper (envOf qual g.sc L' f cdv), A₀ := A, base := fc.base, outer := fc.env :: fc.outer, h₀ := g', env := envOf qual g.sc L' f cdv, rest := fc.rest } h₁ _ rfl rfl rfl O' ⟨_, _, Rc⟩) (fun fl s' hb => ?_) (fun _ _ x => x.elim)
    obtain ⟨ρ', st', rest', mu', ⟨m1, os1, R1⟩, hm, hc, hR⟩ := hb
    show LeaveK _ _ _ _ _ (flVal fl) _
    refine leaveK_ R1.F R1.N fun F2 N2 => hR ⟨m, os1, F2, N2, (fun x a hx => ?_), R1.len, R1.os, R1.out, R1.inj, R1.ap, (fun x l hx => ?_), R1.lo, R1.im⟩
    · obtain ⟨b, hb, hr⟩ := hm x a hx
      obtain ⟨u, hu, ru⟩ := R0.mu x b hb
      exact ⟨u, hu, hr u ru⟩
    · obtain ⟨c1, c2⟩ := hc x l hx
      refine ⟨c1, ?_⟩
      rw [c2]; exact (R0.cl x l hx).2

set_option tactic.hygienic true in
theorem whEnd_sound (S : Snd prog w K p loose mean mg mb D n I) (O : FrOk K p loose mean mg mb fi fc) (B : Room2 D n fc.A) {t : Expr} {b rest : List Stmt} {a : AFl} {P : List Prop} {Q : Flow → Shared → Prop} {k : Nat} (h : whEnd I fi t b rest st = some (a, st', P)) (hP : Ps P)
    (r : Rel w.params fi fc ρ st s.heap) (H : Pst w.params fi fc ρ st st' s (fun ρ' v => RepF ρ' st'.n a v) Q) :
    WhlRest prog w fc.A NoE fc.env t b [] (fun f s' => match f with | .next => wpAny (model prog w) fc.A (execs rest fc.env) Q NoE s' | f => Q f s') k s := by
  unfold whEnd at h
  refine bnd_el h hP fun f st1 P1 P2 h1 h2 hP1 hP2 => ?_
  refine S.wh _ _ _ _ _ _ _ _ h1 hP1 O B ρ s _ k r fun ρ1 h' tk v X r1 q => ?_
  induction f with
  | next =>
    obtain rfl := q
    exact S.ss _ _ _ _ _ _ _ h2 hP2 O B ρ1 { s with heap := h', toks := tk } Q r1 (H.then X)
  | ret a =>
    first | (obtain ⟨rfl, rfl, rfl⟩ := ret_some h2) | cases h2
    obtain ⟨u, rfl, ru⟩ := q
    exact H _ _ _ _ X r1 ⟨u, rfl, ru⟩
  | brk => first | exact nn h2 | cases h2
  | cont => first | exact nn h2 | cases h2
end
end Mine
namespace Mine
open PySem PySem.W PyProof.Rows PySem.Calls PySem.Spec

section
variable {prog : Program} {w : World} {K : Frag} {p : Program} {loose : List Str} {mean : ExcName → Option Value} {mg mb : Str → Option Value} {T : PT} {D n : Nat} {I : Evs} {fi : FI} {fc : FC} {ρ : Nat → Addr} {st st' : St} {s : Shared}

/-- a method's call whose body is told by hand -/
theorem ecall_meth (S : Snd prog w K p loose mean mg mb D n I) (ok : PTOk3 prog w K p loose mean mg mb T D) {o : Expr} {name : Str} {apos pos : Pos} {args : List Expr} {a : AV} {vs : List AV} {f : Fn} {st1 st2 : St} {P1 P3 : List Prop} (hpo : plainO o = true) (hpos : Nat.beq apos.endLine pos.line = true)
    (hsh : short 20 args = true) (h1 : I.e fi o st = some (a, st1, P1)) (hP1 : Ps P1) (hm : meth T a (nm name) st1 = some f) (h3 : argsE I fi args st1 = some (vs, st2, P3)) (hP3 : Ps P3) (O : FrOk K p loose mean mg mb fi fc) (B : Room2 D n fc.A) {Q : Value → Shared → Prop}
    (r : Rel w.params fi fc ρ st s.heap) (H : ∀ ρ' h' tk va cvs, Ext ρ st.n ρ' st2.n → Rel w.params fi fc ρ' st2 h' → RepV ρ' st2.n a va → All2 (RepV ρ' st2.n) vs cvs → FnOk K f → wpAny (model prog w) fc.A (call f.val (va :: cvs)) Q NoE { s with heap := h', toks := tk }) :
    wpAny (model prog w) fc.A (eval (.Call (.Attribute o name apos) args [] pos) fc.env) Q NoE s := by
  have few : methodCallForm (args.length + 0) (backTo pos (starEach args fc.env)) [] = true := few_of h3 (short_le hsh)
  refine MethodCall_ (pl := do return (← importBound o fc.env).getD true) ?_ ?_
  · refine S.e _ _ _ _ _ _ _ h1 hP1 O B ρ s _ r fun ρ1 h' tk v X r1 q => ?_
    refine meth_sound (s := { s with heap := h', toks := tk }) ok.toPTOk2 O hm r1 q fun hf => ?_
    refine callWith_sound (s := { s with heap := h', toks := tk }) S O B r1 hf h3 hP3 fun ρ2 h'' tk2 cvs X2 r2 q2 => ?_
    exact H ρ2 h'' tk2 v cvs (X.trans X2) r2 (q.ext X2) q2 hf
  · exact methodCall_eq hpo hpos few
/-- a function's call whose body is told by hand -/
theorem ecall_fn (S : Snd prog w K p loose mean mg mb D n I) (ok : PTOk3 prog w K p loose mean mg mb T D) {x : Str} {xp pos : Pos} {args : List Expr} {vs : List AV} {f : Fn} {st2 : St} {P3 : List Prop}
    (hl : loadF T fi (nm x) = some f) (h3 : argsE I fi args st = some (vs, st2, P3)) (hP3 : Ps P3) (O : FrOk K p loose mean mg mb fi fc) (B : Room2 D n fc.A) {Q : Value → Shared → Prop}
    (r : Rel w.params fi fc ρ st s.heap) (H : ∀ ρ' h' tk cvs, Ext ρ st.n ρ' st2.n → Rel w.params fi fc ρ' st2 h' → All2 (RepV ρ' st2.n) vs cvs → wpAny (model prog w) fc.A (call f.val cvs) Q NoE { s with heap := h', toks := tk }) :
    wpAny (model prog w) fc.A (eval (.Call (.Name x xp) args [] pos) fc.env) Q NoE s := by
  refine Call_ (loadF_sound ok.toPTOk2 O hl r fun hf => ?_) ?_
  · exact callWith_sound S O B r hf h3 hP3 fun ρ2 h'' tk2 cvs X2 r2 q2 => H ρ2 h'' tk2 cvs X2 r2 q2
  · rfl
theorem call_hand {f : Addr} {g : FnI} (G : FnRec K f g) (hroom : fc.A.depth < 1000)
    {vs : List AV} {cvs : List Value} {mu : List (Nm × AV)} (hz : zipP g.ps vs = some mu) (O : FrOk K p loose mean mg mb fi fc) (own : fi.own = true)
    {Q : Value → Shared → Prop} (r : Rel w.params fi fc ρ st s.heap) (rv : All2 (RepV ρ st.n) vs cvs)
    (H : ∀ (fc' : FC) (h' : Heap) (tk : Nat), fc'.A.depth = fc.A.depth + 1 → fc'.A.units = fc.A.units + 3 → fc'.rest = fc.rest → FrOk K p loose mean mg mb ⟨g.sc, [], true, none⟩ fc' → Rel w.params ⟨g.sc, [], true, none⟩ fc' ρ { st with mu := mu } h' →
      wpAny (model prog w) fc'.A (execs g.body fc'.env) (fun fl s' => Back w fi fc ρ st Q ⟨g.sc, [], true, none⟩ fc' (flVal fl) s') NoE { s with heap := h', toks := tk }) :
    wpAny (model prog w) fc.A (call (Fn.fn f).val cvs) Q NoE s :=
  wpAny_call (enter_hand G hroom rfl O.hh hz O own r rv H)
end
end Mine
namespace Mine
open PySem PySem.W PyProof.Rows PySem.Calls PySem.Spec
section
variable {P : Params} {fi : FI} {fc : FC} {ρ : Nat → Addr} {st : St} {h h' : Heap} {m : Str → Option Value} {os : List Obj}
/-- an object is told in another way -/
theorem Rel.conv (r : Rel P fi fc ρ st h) {l : Nat} {a a' : AO} (e : st.sg.get l = a) (hm : a.mut = true) (hlo : ∀ es, a' = .tab es → ∃ es0, a = .tab es0) (hv : ∀ o, RepO P ρ st.n a o → RepO P ρ st.n a' o) : Rel P fi fc ρ (setO l a' st) h := by
  obtain ⟨m, os, R⟩ := r
  obtain ⟨o, ho, hr, hmem, hg⟩ := R.get e (AO.mut_live hm)
  have hl : l < st.n := R.lt (by rw [e]; exact AO.mut_live hm)
  have hset : os.set l o = os := by
    obtain ⟨h1, h2⟩ := List.getElem?_eq_some_iff.mp ho
    rw [← h2]; exact List.set_getElem_self h1
  have := R.set (l := l) (a' := a') (o' := o) hl R.F (by rw [hset]; exact R.N) (hv o hr) (fun es q => by
    obtain ⟨es0, e0⟩ := hlo es q
    exact R.lo l es0 (e.trans e0)) (hm := by rw [e]; exact hm)
  exact ⟨m, _, this⟩
end
end Mine
namespace Mine
open PySem PySem.W PyProof.Rows PySem.Calls PySem.Spec

section
variable {prog : Program} {w : World} {K : Frag} {p : Program} {loose : List Str} {mean : ExcName → Option Value} {mg mb : Str → Option Value} {T : PT} {D n : Nat} {I : Evs} {fi : FI} {fc : FC} {ρ : Nat → Addr} {st st' : St} {s : Shared}

/-- a way of running a piece that is sound -/
noncomputable def SndF {α β : Type} (w : World) (fi : FI) (fc : FC) (ev : St → Rr α) (RA : (Nat → Addr) → Nat → α → β → Prop) (wp : (β → Shared → Prop) → Shared → Prop) : Prop :=
  ∀ st a st' P, ev st = some (a, st', P) → Ps P → ∀ ρ s Q, Rel w.params fi fc ρ st s.heap → Pst w.params fi fc ρ st st' s (fun ρ' v => RA ρ' st'.n a v) Q → wp Q s

noncomputable def restOf (ρ : Nat → Addr) (xs : List Nat) (f : Nat → Obj) (rest : List (Addr × Obj)) : List (Addr × Obj) := xs.map (fun l => (ρ l, f l)) ++ rest
theorem out_turn {α β : Type} {ev : St → Rr α} {RA : (Nat → Addr) → Nat → α → β → Prop} {wp : (β → Shared → Prop) → Shared → Prop} (sf : SndF w fi fc ev RA wp) {Q : β → Shared → Prop} {ks xs : List Nat} {ns : List Nm}
    {C : (Nat → Addr) → St} {E : (Nat → Addr) → List EO} {a : α} {Ph : (Nat → Addr) → List Prop} (hev : ∀ ρ', outc ρ' ks xs ns (ev st) = some (C ρ', E ρ', a, Ph ρ')) (hPh : ∀ ρ', Ext ρ st.n ρ' st.n → Ps (Ph ρ'))
    (hcl : ∀ x l, look x fi.cl = some l → ks[l]? = some l) (r : Rel w.params fi fc ρ st s.heap)
    (H : ∀ ρ' h' tk f v m, Ext ρ st.n ρ' st.n → Gone w.params fc ρ' xs (E ρ') f → Rel w.params fi { fc with rest := restOf ρ' xs f fc.rest } (fun j => ρ' (ks.getD j 0)) (C ρ') h' → RA ρ' m a v → Q v { s with heap := h', toks := tk }) : wp Q s := by
  obtain ⟨st1, P, e, hP, _⟩ := anew (w := w) (fc := fc) (h' := s.heap) (hev ρ) (hPh ρ ⟨Nat.le_refl _, fun _ _ => rfl⟩) hcl
  refine sf st a st1 P e hP ρ s Q r fun ρ' h' tk v X r' q => ?_
  have X' : Ext ρ st.n ρ' st.n := ⟨Nat.le_refl _, X.2⟩
  obtain ⟨st2, P2, e2, _, g⟩ := anew (w := w) (fc := fc) (h' := h') (hev ρ') (hPh ρ' X') hcl
  rw [e] at e2
  cases e2
  obtain ⟨f, g1, g2⟩ := g r'
  exact H ρ' h' tk f v _ X' g1 g2 q
theorem sndF_ss (S : Snd prog w K p loose mean mg mb D n I) (O : FrOk K p loose mean mg mb fi fc) (B : Room2 D n fc.A) (xs : List Stmt) : SndF w fi fc (I.ss fi xs) (fun ρ' m a v => RepF ρ' m a v) (fun Q s => wpAny (model prog w) fc.A (execs xs fc.env) Q NoE s) :=
  fun st a st' P h hP ρ s Q r H => S.ss _ _ _ _ _ _ _ h hP O B ρ s Q r H
theorem sndF_s (S : Snd prog w K p loose mean mg mb D n I) (O : FrOk K p loose mean mg mb fi fc) (B : Room2 D n fc.A) (x : Stmt) : SndF w fi fc (I.s fi x) (fun ρ' m a v => RepF ρ' m a v) (fun Q s => wpAny (model prog w) fc.A (exec x fc.env) Q NoE s) :=
  fun st a st' P h hP ρ s Q r H => S.s _ _ _ _ _ _ _ h hP O B ρ s Q r H
theorem sndF_e (S : Snd prog w K p loose mean mg mb D n I) (O : FrOk K p loose mean mg mb fi fc) (B : Room2 D n fc.A) (x : Expr) : SndF w fi fc (I.e fi x) (fun ρ' m a v => RepV ρ' m a v) (fun Q s => wpAny (model prog w) fc.A (eval x fc.env) Q NoE s) :=
  fun st a st' P h hP ρ s Q r H => S.e _ _ _ _ _ _ _ h hP O B ρ s Q r H
theorem sndF_b (S : Snd prog w K p loose mean mg mb D n I) (O : FrOk K p loose mean mg mb fi fc) (B : Room2 D n fc.A) (x : Expr) : SndF w fi fc (I.b fi x) (fun _ _ a v => v = a) (fun Q s => wpAny (model prog w) fc.A (isTrue x fc.env (eval x fc.env)) Q NoE s) :=
  fun st a st' P h hP ρ s Q r H => S.b _ _ _ _ _ _ _ h hP O B ρ s Q r H

/-- the start of a for loop -/
noncomputable def startFr (I : Evs) (fi : FI) (i : Expr) (st : St) : Rr AV := bnd (I.e fi i st) fun a st => match a with
  | .ref l => mkIt l st
  | _ => none
/-- one turn of a for loop -/
noncomputable def turnFr (I : Evs) (fi : FI) (t : Expr) (k : Nat) (b : List Stmt) (st : St) : Rr (Option AFl) := bnd (nxt k st) fun o st => match o with
  | none => ret none st
  | some a => bnd (I.asg fi t a st) fun _ st => bnd (I.ss fi b st) fun f st => ret (some f) st

set_option tactic.hygienic true in
/-- one turn that goes on -/
theorem fr_next (S : Snd prog w K p loose mean mg mb D n I) (O : FrOk K p loose mean mg mb fi fc) (B : Room2 D n fc.A) {t : Expr} {k k' : Nat} {b : List Stmt} {Q : Flow → Shared → Prop} {ks xs : List Nat} {ns : List Nm}
    {C : (Nat → Addr) → St} {E : (Nat → Addr) → List EO} {Ph : (Nat → Addr) → List Prop} (hev : ∀ ρ', outc ρ' ks xs ns (turnFr I fi t k b st) = some (C ρ', E ρ', some .next, Ph ρ')) (hk : k < st.n) (hkk : ks.getD k' 0 = k) (hPh : ∀ ρ', Ext ρ st.n ρ' st.n → Ps (Ph ρ'))
    (hcl : ∀ x l, look x fi.cl = some l → ks[l]? = some l) (r : Rel w.params fi fc ρ st s.heap)
    (H : ∀ ρ' h' tk f, Ext ρ st.n ρ' st.n → Gone w.params fc ρ' xs (E ρ') f → Rel w.params fi { fc with rest := restOf ρ' xs f fc.rest } (fun j => ρ' (ks.getD j 0)) (C ρ') h' →
      codeAny (model prog w) fc.A (.forLoop t (.ref ((fun j => ρ' (ks.getD j 0)) k')) b [] fc.env) (fun r s' => match r with | .ok f => Q f s' | .error _ => False) { s with heap := h', toks := tk }) :
    codeAny (model prog w) fc.A (.forLoop t (.ref (ρ k)) b [] fc.env) (fun r s' => match r with | .ok f => Q f s' | .error _ => False) s := by
  obtain ⟨st1, P, e, hP, _⟩ := anew (w := w) (fc := fc) (h' := s.heap) (hev ρ) (hPh ρ ⟨Nat.le_refl _, fun _ _ => rfl⟩) hcl
  refine bnd_el e hP fun o st2 P1 P2 h1 h2 hP1 hP2 => ?_
  refine forTurn_sound (nxt_sound O.hh h1 hP1 r fun h' tk o' r' ro hi => ?_)
  cases o with
  | none => first | exact nn h2 | cases h2
  | some a =>
    cases o' with
    | none => exact ro.elim
    | some v =>
      have hn := nxt_n h1
      refine bnd_el h2 hP2 fun _ st3 P3 P4 h3 h4 hP3 hP4 => ?_
      refine bnd_el h4 hP4 fun f st4 P5 P6 h5 h6 hP5 hP6 => ?_
      first | (obtain ⟨rfl, rfl, rfl⟩ := ret_some h6) | cases h6
      have ro : RepV ρ st2.n a v := by rw [hn]; exact ro
      refine owned_no (s := { s with heap := h', toks := tk }) r' (hi (by intro q; cases q)) ?_
      refine S.asg _ _ _ _ _ _ _ h3 hP3 O B ρ { s with heap := h', toks := tk } _ _ r' ro fun ρ1 h1' tk1 _ X1 r1 _ => ?_
      refine S.ss _ _ _ _ _ _ _ h5 hP5 O B ρ1 { s with heap := h1', toks := tk1 } _ r1 fun ρ2 h2' tk2 v2 X2 r2 q2 => ?_
      obtain rfl := q2
      have X' : Ext ρ st.n ρ2 st.n := ⟨Nat.le_refl _, by have := (X1.trans X2).2; rw [hn] at this; exact this⟩
      obtain ⟨st5, P7, e2, _, g⟩ := anew (w := w) (fc := fc) (h' := h2') (hev ρ2) (hPh ρ2 X') hcl
      rw [e] at e2
      cases e2
      obtain ⟨f, g1, g2⟩ := g r2
      have := H ρ2 h2' tk2 f X' g1 g2
      have ek : ρ2 (ks.getD k' 0) = ρ k := by rw [hkk]; exact X'.2 k hk
      simp only [ek] at this
      exact this
set_option tactic.hygienic true in
/-- the loop's end -/
theorem fr_end (S : Snd prog w K p loose mean mg mb D n I) (O : FrOk K p loose mean mg mb fi fc) {t : Expr} {k : Nat} {b : List Stmt} {Q : Flow → Shared → Prop} {ks xs : List Nat} {ns : List Nm}
    {C : (Nat → Addr) → St} {E : (Nat → Addr) → List EO} {Ph : (Nat → Addr) → List Prop} (hev : ∀ ρ', outc ρ' ks xs ns (turnFr I fi t k b st) = some (C ρ', E ρ', none, Ph ρ')) (hPh : ∀ ρ', Ext ρ st.n ρ' st.n → Ps (Ph ρ'))
    (hcl : ∀ x l, look x fi.cl = some l → ks[l]? = some l) (r : Rel w.params fi fc ρ st s.heap)
    (H : ∀ h' tk f, Gone w.params fc ρ xs (E ρ) f → Rel w.params fi { fc with rest := restOf ρ xs f fc.rest } (fun j => ρ (ks.getD j 0)) (C ρ) h' → Q .next { s with heap := h', toks := tk }) :
    codeAny (model prog w) fc.A (.forLoop t (.ref (ρ k)) b [] fc.env) (fun r s' => match r with | .ok f => Q f s' | .error _ => False) s := by
  obtain ⟨st1, P, e, hP, _⟩ := anew (w := w) (fc := fc) (h' := s.heap) (hev ρ) (hPh ρ ⟨Nat.le_refl _, fun _ _ => rfl⟩) hcl
  refine bnd_el e hP fun o st2 P1 P2 h1 h2 hP1 hP2 => ?_
  refine forTurn_sound (nxt_sound O.hh h1 hP1 r fun h' tk o' r' ro hi => ?_)
  cases o with
  | some a =>
    refine bnd_el h2 hP2 fun _ st3 P3 P4 h3 h4 hP3 hP4 => ?_
    refine bnd_el h4 hP4 fun f st4 P5 P6 h5 h6 hP5 hP6 => ?_
    first | exact nn h6 | cases h6
  | none =>
    cases o' with
    | some v => exact ro.elim
    | none =>
      refine wpAny_execs_nil ?_
      first | (obtain ⟨rfl, rfl, rfl⟩ := ret_some h2) | cases h2
      obtain ⟨st5, P7, e2, _, g⟩ := anew (w := w) (fc := fc) (h' := h') (hev ρ) (hPh ρ ⟨Nat.le_refl _, fun _ _ => rfl⟩) hcl
      rw [e] at e2
      cases e2
      obtain ⟨f, g1, g2⟩ := g r'
      exact H h' tk f g1 g2
/-- the start -/
theorem for_out (S : Snd prog w K p loose mean mg mb D n I) (O : FrOk K p loose mean mg mb fi fc) (B : Room2 D n fc.A) {t i : Expr} {k k' : Nat} {b : List Stmt} {pos : Pos} {Q : Flow → Shared → Prop} {ks xs : List Nat} {ns : List Nm}
    {C : (Nat → Addr) → St} {E : (Nat → Addr) → List EO} {Ph : (Nat → Addr) → List Prop} (hi : plainIt i = true) (hev : ∀ ρ', outc ρ' ks xs ns (startFr I fi i st) = some (C ρ', E ρ', .ref k, Ph ρ')) (hkk : ks.getD k' 0 = k) (hPh : ∀ ρ', Ext ρ st.n ρ' st.n → Ps (Ph ρ'))
    (hcl : ∀ x l, look x fi.cl = some l → ks[l]? = some l) (r : Rel w.params fi fc ρ st s.heap)
    (H : ∀ ρ' h' tk f, Ext ρ st.n ρ' st.n → Gone w.params fc ρ' xs (E ρ') f → Rel w.params fi { fc with rest := restOf ρ' xs f fc.rest } (fun j => ρ' (ks.getD j 0)) (C ρ') h' →
      codeAny (model prog w) fc.A (.forLoop t (.ref ((fun j => ρ' (ks.getD j 0)) k')) b [] fc.env) (fun r s' => match r with | .ok f => Q f s' | .error _ => False) { s with heap := h', toks := tk }) :
    wpAny (model prog w) fc.A (exec (.For t i b [] pos) fc.env) Q NoE s := by
  obtain ⟨st1, P, e, hP, _⟩ := anew (w := w) (fc := fc) (h' := s.heap) (hev ρ) (hPh ρ ⟨Nat.le_refl _, fun _ _ => rfl⟩) hcl
  refine bnd_el e hP fun a st2 P1 P2 h1 h2 hP1 hP2 => ?_
  obtain ⟨l, rfl⟩ : ∃ l, a = .ref l := by cases a <;> first | exact ⟨_, rfl⟩ | cases h2
  refine wpAny_For (S.e _ _ _ _ _ _ _ h1 hP1 O B ρ s _ r fun ρ1 h1' tk1 v X1 r1 q => ?_) (plain_folds hi fc.env)
  obtain ⟨hl1, rfl⟩ := q
  refine mkIt_sound (s := { s with heap := h1', toks := tk1 }) h2 r1 hl1 fun ρ2 h2' tk2 v2 X2 r2 q2 => ?_
  obtain ⟨_, rfl⟩ := q2
  have X' : Ext ρ st.n ρ2 st.n := ⟨Nat.le_refl _, (X1.trans X2).2⟩
  obtain ⟨st5, P6, e5, _, g⟩ := anew (w := w) (fc := fc) (h' := h2') (hev ρ2) (hPh ρ2 X') hcl
  rw [e] at e5
  cases e5
  obtain ⟨f, g1, g2⟩ := g r2
  have := H ρ2 h2' tk2 f X' g1 g2
  simp only [hkk] at this
  refine codeAny_mono this fun r s' hr => ?_
  cases r with
  | ok f => exact hr
  | error e => exact hr.elim
set_option tactic.hygienic true in
/-- a row of statements, the first by hand -/
theorem execs_cons {x : Stmt} {xs : List Stmt} {Q : Flow → Shared → Prop} (h : wpAny (model prog w) fc.A (exec x fc.env) (fun f s' => match f with | .next => wpAny (model prog w) fc.A (execs xs fc.env) Q NoE s' | f => Q f s') NoE s) :
    wpAny (model prog w) fc.A (execs (x :: xs) fc.env) Q NoE s := wpAny_execs_cons h
end
end Mine
namespace Mine
open PySem PySem.W PyProof.Rows PySem.Calls PySem.Spec
/-- the head of one turn of a for loop -/
noncomputable def turnA (I : Evs) (fi : FI) (t : Expr) (k : Nat) (st : St) : Rr Bool := bnd (nxt k st) fun o st => match o with
  | none => ret false st
  | some a => bnd (I.asg fi t a st) fun _ st => ret true st
/-- rows of tuples in the rest -/
noncomputable def RowsR (P : Params) (rest : List (Addr × Obj)) (lg : List AV) (L : List (List AV)) : Prop := All2 (fun a l => ∃ c, a = .con (.ref c) ∧ ∃ o, (c, o) ∈ rest ∧ RepEO P (.tup l) o) lg L
theorem RowsR.con {P : Params} {rest : List (Addr × Obj)} {lg : List AV} {L : List (List AV)} (h : RowsR P rest lg L) : AllCon lg := by
  induction lg generalizing L with
  | nil => intro a ha; cases ha
  | cons a r ih =>
    cases L with
    | nil => exact h.elim
    | cons l L =>
      intro b hb
      rcases List.mem_cons.mp hb with rfl | hb
      · obtain ⟨c, rfl, _⟩ := h.1; exact ⟨_, rfl⟩
      · exact ih h.2 b hb
theorem RowsR.more {P : Params} {rest rest' : List (Addr × Obj)} {lg : List AV} {L : List (List AV)} (h : RowsR P rest lg L) (k : ∀ c o l, (c, o) ∈ rest → RepEO P (.tup l) o → (c, o) ∈ rest') : RowsR P rest' lg L :=
  h.mono fun a _ l ⟨c, e, o, ho, hr⟩ => ⟨c, e, o, k c o _ ho hr, hr⟩
theorem RowsR.mono {P : Params} {rest rest' : List (Addr × Obj)} {lg : List AV} {L : List (List AV)} (h : RowsR P rest lg L) (k : ∀ y ∈ rest, y ∈ rest') : RowsR P rest' lg L := h.more fun _ _ _ hc _ => k _ hc
theorem mem_restOf {ρ : Nat → Addr} {xs : List Nat} {f : Nat → Obj} {rest : List (Addr × Obj)} {y : Addr × Obj} (h : y ∈ rest) : y ∈ restOf ρ xs f rest := List.mem_append_right _ h
theorem new_restOf {ρ : Nat → Addr} {xs : List Nat} {f : Nat → Obj} {rest : List (Addr × Obj)} {l : Nat} (h : l ∈ xs) : (ρ l, f l) ∈ restOf ρ xs f rest := List.mem_append_left _ (List.mem_map.mpr ⟨l, h, rfl⟩)

section
variable {prog : Program} {w : World} {K : Frag} {p : Program} {loose : List Str} {mean : ExcName → Option Value} {mg mb : Str → Option Value} {T : PT} {D n : Nat} {I : Evs} {fi : FI} {fc : FC} {ρ : Nat → Addr} {st st' : St} {s : Shared}
/-- a new row -/
theorem Gone.row {xs : List Nat} {E : List EO} {f : Nat → Obj} (g : Gone w.params fc ρ xs E f) {i l : Nat} {ys : List AV} {rest : List (Addr × Obj)} (h1 : xs[i]? = some l) (h2 : E[i]? = some (.tup ys)) :
    ∃ c, AV.con (.ref (ρ l)) = .con (.ref c) ∧ ∃ o, (c, o) ∈ restOf ρ xs f rest ∧ RepEO w.params (.tup ys) o :=
  ⟨_, rfl, f l, new_restOf (List.mem_of_getElem? h1), g.rep i l _ h1 h2⟩
set_option tactic.hygienic true in
/-- one turn whose body is told by hand -/
theorem fr_hand (S : Snd prog w K p loose mean mg mb D n I) (O : FrOk K p loose mean mg mb fi fc) (B : Room2 D n fc.A) {t : Expr} {k : Nat} {b : List Stmt} {Q : Flow → Shared → Prop} {ks xs : List Nat} {ns : List Nm}
    {C : (Nat → Addr) → St} {E : (Nat → Addr) → List EO} {Ph : (Nat → Addr) → List Prop} (hev : ∀ ρ', outc ρ' ks xs ns (turnA I fi t k st) = some (C ρ', E ρ', true, Ph ρ')) (hPh : ∀ ρ', Ext ρ st.n ρ' st.n → Ps (Ph ρ'))
    (hcl : ∀ x l, look x fi.cl = some l → ks[l]? = some l) (r : Rel w.params fi fc ρ st s.heap)
    (H : ∀ ρ' h' tk f, Ext ρ st.n ρ' st.n → Gone w.params fc ρ' xs (E ρ') f → Rel w.params fi { fc with rest := restOf ρ' xs f fc.rest } (fun j => ρ' (ks.getD j 0)) (C ρ') h' →
      wpAny (model prog w) fc.A (execs b fc.env) (fun f s' => match f with
        | .next => codeAny (model prog w) fc.A (.forLoop t (.ref (ρ k)) b [] fc.env) (fun r s' => match r with | .ok f => Q f s' | .error _ => False) s'
        | .cont => codeAny (model prog w) fc.A (.forLoop t (.ref (ρ k)) b [] fc.env) (fun r s' => match r with | .ok f => Q f s' | .error _ => False) s'
        | .brk => Q .next s'
        | .ret v => Q (.ret v) s') NoE { s with heap := h', toks := tk }) :
    codeAny (model prog w) fc.A (.forLoop t (.ref (ρ k)) b [] fc.env) (fun r s' => match r with | .ok f => Q f s' | .error _ => False) s := by
  obtain ⟨st1, P, e, hP, _⟩ := anew (w := w) (fc := fc) (h' := s.heap) (hev ρ) (hPh ρ ⟨Nat.le_refl _, fun _ _ => rfl⟩) hcl
  refine bnd_el e hP fun o st2 P1 P2 h1 h2 hP1 hP2 => ?_
  refine forTurn_sound (nxt_sound O.hh h1 hP1 r fun h' tk o' r' ro hi => ?_)
  cases o with
  | none => first | exact nn h2 | cases h2
  | some a =>
    cases o' with
    | none => exact ro.elim
    | some v =>
      have hn := nxt_n h1
      refine bnd_el h2 hP2 fun _ st3 P3 P4 h3 h4 hP3 hP4 => ?_
      first | (obtain ⟨rfl, rfl, rfl⟩ := ret_some h4) | cases h4
      have ro : RepV ρ st2.n a v := by rw [hn]; exact ro
      refine owned_no (s := { s with heap := h', toks := tk }) r' (hi (by intro q; cases q)) ?_
      refine S.asg _ _ _ _ _ _ _ h3 hP3 O B ρ { s with heap := h', toks := tk } _ _ r' ro fun ρ1 h1' tk1 _ X1 r1 _ => ?_
      have X' : Ext ρ st.n ρ1 st.n := ⟨Nat.le_refl _, by have := X1.2; rw [hn] at this; exact this⟩
      obtain ⟨st5, P7, e2, _, g⟩ := anew (w := w) (fc := fc) (h' := h1') (hev ρ1) (hPh ρ1 X') hcl
      rw [e] at e2
      cases e2
      obtain ⟨f, g1, g2⟩ := g r1
      exact H ρ1 h1' tk1 f X' g1 g2
end
end Mine
namespace Mine
open PySem PySem.W PyProof.Rows PySem.Calls PySem.Spec
/-! the evaluator, put together from pieces -/
noncomputable def RunsTo {α : Type} (r : Rr α) (a : α) (st' : St) : Prop := ∃ P, r = some (a, st', P) ∧ Ps P
theorem Ps.join {a b : List Prop} (h : Ps a) (k : Ps b) : Ps (a ++ b) := by
  induction a with
  | nil => exact k
  | cons p r ih => exact ⟨h.1, ih h.2⟩
theorem RunsTo.of {α : Type} {r : Rr α} {a : α} {st' : St} {P : List Prop} (h : r = some (a, st', P)) (hP : Ps P) : RunsTo r a st' := ⟨P, h, hP⟩
theorem RunsTo.bnd {α β : Type} {r : Rr α} {a : α} {st1 : St} {k : α → St → Rr β} {b : β} {st' : St} (h : RunsTo r a st1) (h2 : RunsTo (k a st1) b st') : RunsTo (bnd r k) b st' := by
  obtain ⟨P, e, hP⟩ := h
  obtain ⟨P2, e2, hP2⟩ := h2
  exact ⟨P ++ P2, by unfold Mine.bnd; rw [e]; dsimp only; rw [e2], hP.join hP2⟩
theorem RunsTo.ret {α : Type} (a : α) (st : St) : RunsTo (ret a st) a st := ⟨[], rfl, trivial⟩
theorem RunsTo.opt {γ α : Type} {o : Option γ} {a : γ} {k : γ → Rr α} {b : α} {st' : St} (e : o = some a) (h : RunsTo (k a) b st') : RunsTo (Mine.opt o k) b st' := by subst e; exact h
/-- one turn of a comprehension -/
noncomputable def turnCp (I : Evs) (fi : FI) (t elt : Expr) (ifs : List Expr) (k j : Nat) (st : St) : Rr Bool := bnd (nxt k st) fun o st => match o with
  | none => ret false st
  | some a => bnd (I.asg fi t a st) fun _ st => bnd (I.ts fi ifs st) fun c st => match c with
    | false => ret true st
    | true => bnd (I.e fi elt st) fun v st => bnd (bcall .append [.ref j, v] st) fun _ st => ret true st
theorem RunsTo.inv {α β : Type} {r : Rr α} {k : α → St → Rr β} {b : β} {st' : St} (h : RunsTo (Mine.bnd r k) b st') : ∃ a st1, RunsTo r a st1 ∧ RunsTo (k a st1) b st' := by
  obtain ⟨P, e, hP⟩ := h
  refine bnd_el e hP fun a st1 P1 P2 e1 e2 hP1 hP2 => ?_
  exact ⟨a, st1, ⟨P1, e1, hP1⟩, ⟨P2, e2, hP2⟩⟩
theorem RunsTo.ret_inv {α : Type} {a b : α} {st st' : St} (h : RunsTo (Mine.ret a st) b st') : b = a ∧ st' = st := by
  obtain ⟨P, e, hP⟩ := h
  cases e
  exact ⟨rfl, rfl⟩
theorem cp_more {T : PT} {n : Nat} {fi : FI} {t elt : Expr} {ifs : List Expr} {k j : Nat} {st st1 st2 : St} (h : RunsTo (turnCp (evs T n) fi t elt ifs k j st) true st1) (h2 : RunsTo ((evs T n).cp fi t elt ifs k j st1) () st2) :
    RunsTo ((evs T (n + 1)).cp fi t elt ifs k j st) () st2 := by
  obtain ⟨o, sa, h3, h4⟩ := h.inv
  refine RunsTo.bnd h3 ?_
  cases o with
  | none => have := h4.ret_inv.1; cases this
  | some a =>
    obtain ⟨_, sb, h5, h6⟩ := h4.inv
    obtain ⟨c, sc, h7, h8⟩ := h6.inv
    refine RunsTo.bnd h5 (RunsTo.bnd h7 ?_)
    cases c with
    | false => obtain ⟨_, rfl⟩ := h8.ret_inv; exact h2
    | true =>
      obtain ⟨v, sd, h9, h10⟩ := h8.inv
      obtain ⟨_, se, h11, h12⟩ := h10.inv
      obtain ⟨_, rfl⟩ := h12.ret_inv
      exact RunsTo.bnd h9 (RunsTo.bnd h11 h2)
theorem cp_done {T : PT} {n : Nat} {fi : FI} {t elt : Expr} {ifs : List Expr} {k j : Nat} {st st1 : St} (h : RunsTo (turnCp (evs T n) fi t elt ifs k j st) false st1) : RunsTo ((evs T (n + 1)).cp fi t elt ifs k j st) () st1 := by
  obtain ⟨o, sa, h3, h4⟩ := h.inv
  refine RunsTo.bnd h3 ?_
  cases o with
  | none => obtain ⟨_, rfl⟩ := h4.ret_inv; exact .ret _ _
  | some a =>
    obtain ⟨_, sb, h5, h6⟩ := h4.inv
    obtain ⟨c, sc, h7, h8⟩ := h6.inv
    cases c with
    | false => have := h8.ret_inv.1; cases this
    | true =>
      obtain ⟨v, sd, h9, h10⟩ := h8.inv
      obtain ⟨_, se, h11, h12⟩ := h10.inv
      have := h12.ret_inv.1; cases this
/-- the head of a comprehension -/
noncomputable def headCp (I : Evs) (fi : FI) (iter : Expr) (st : St) : Rr (Nat × Nat) := bnd (I.e fi iter st) fun a st => match a with
  | .ref l => bnd (mkIt l st) fun it st => bnd (alloc (.list none []) st) fun acc st => match it, acc with
    | .ref k, .ref j => ret (k, j) { st with mu := [] }
    | _, _ => none
  | _ => none
noncomputable def fiCp (fi : FI) (sc : Scope) (cl : List (Nm × Nat)) : FI := ⟨relabel sc (dumEnv fi.sc), cl, false, none⟩
noncomputable def cpOk (fi : FI) (iter : Expr) (sc : Scope) (cl : List (Nm × Nat)) : Prop := both (plainIt iter) (noCell sc.names) = true ∧ sc.kind = .function ∧ localsOk sc.names sc.names = true ∧ closA fi.cl sc.names = some cl
theorem e_comp {T : PT} {n : Nat} {fi : FI} {t elt iter : Expr} {ifs : List Expr} {sc : Scope} {pos : Pos} {cl : List (Nm × Nat)} {k j : Nat} {mu : List (Nm × AV)} {st st1 st2 : St} (hok : cpOk fi iter sc cl)
    (h1 : RunsTo (headCp (evs T n) fi iter st) (k, j) st1) (hmu : ∀ a st1, RunsTo ((evs T n).e fi iter st) a st1 → ∀ l, a = .ref l → st1.mu = mu)
    (h2 : RunsTo ((evs T n).cp (fiCp fi sc cl) t elt ifs k j st1) () st2) : RunsTo ((evs T (n + 1)).e fi (.ListComp elt [⟨t, iter, ifs, 0⟩] sc pos) st) (.ref j) { st2 with mu := mu } := by
  obtain ⟨c1, c2, c3, c4⟩ := hok
  obtain ⟨a, sa, h3, h4⟩ := h1.inv
  show RunsTo (compE (evs T n) fi elt t iter ifs sc st) _ _
  unfold compE
  rw [c1, c3]
  dsimp only [andB]
  rw [c2]
  refine RunsTo.opt c4 ?_
  refine RunsTo.bnd h3 ?_
  have hm := hmu _ _ h3
  clear hmu h3
  obtain ⟨l, rfl⟩ : ∃ l, a = .ref l := by
    clear hm
    cases a <;> first | exact ⟨_, rfl⟩ | (obtain ⟨P, e, _⟩ := h4; exact nn e)
  obtain ⟨it, sb, h5, h6⟩ := h4.inv
  obtain ⟨acc, sc', h7, h8⟩ := h6.inv
  clear h4 h6
  refine RunsTo.opt (o := asRef (.ref l)) rfl ?_
  refine RunsTo.bnd h5 ?_
  have hsb : sb.mu = sa.mu := by
    clear h7 h8 h2
    obtain ⟨P, e, _⟩ := h5
    unfold mkIt at e
    split at e
    · rw [← (ret_some e).2.1]
    · rw [← (ret_some e).2.1]
    · exact nn e
  clear h5
  obtain ⟨it, rfl⟩ : ∃ l, it = .ref l := by
    clear h7 hsb h2 hm
    cases it <;> first | exact ⟨_, rfl⟩ | (obtain ⟨P, e, _⟩ := h8; exact nn e)
  obtain ⟨P, e, _⟩ := h7
  obtain ⟨rfl, rfl, _⟩ := ret_some e
  obtain ⟨e1, e2⟩ := h8.ret_inv
  obtain ⟨rfl, rfl⟩ := Prod.mk.inj e1
  subst e2
  refine RunsTo.opt (o := asRef (.ref k)) rfl ?_
  refine RunsTo.bnd (r := alloc (.list none []) sb) (RunsTo.ret _ _) ?_
  refine RunsTo.bnd h2 ?_
  rw [← hm l rfl, ← hsb]
  exact .ret _ _
set_option tactic.hygienic true in
theorem s_comp {T : PT} {n : Nat} {fi : FI} {elt : Expr} {gens : List Comprehension} {sc : Scope} {lp tp pos : Pos} {x : Str} {a : AV} {b : Bool} {st st1 st2 : St} (hsw : pureOf (swapsWith (.ListComp elt gens sc lp) (some (.Name x tp)) pos.line (dumEnv fi.sc)) = some b)
    (h1 : RunsTo ((evs T n).e fi (.ListComp elt gens sc lp) st) a st1) (h2 : RunsTo (storeN fi (nm x) a st1) () st2) : RunsTo ((evs T (n + 1)).s fi (.Assign [.Name x tp] (.ListComp elt gens sc lp) pos) st) .next st2 := by
  show RunsTo (stepS T (evs T n) fi (.Assign [.Name x tp] (.ListComp elt gens sc lp) pos) st) _ _
  unfold stepS
  dsimp only [plainV]
  rw [hsw]
  exact RunsTo.bnd h1 (RunsTo.bnd h2 (.ret _ _))
end Mine
namespace Mine
open PySem PySem.W PyProof.Rows PySem.Calls PySem.Spec
section
variable {P : Params} {fi : FI} {fc : FC} {ρ : Nat → Addr} {st st' : St} {h h' : Heap} {m : Str → Option Value} {os : List Obj}
/-- the locals told in another way -/
theorem Rel.remu (r : Rel P fi fc ρ st h) {mu' : List (Nm × AV)} (hm : ∀ x a, look x mu' = some a → ∃ b, look x st.mu = some b ∧ ∀ u, RepV ρ st.n b u → RepV ρ st.n a u) (o : List Nat) (v : List AV) : Rel P fi fc ρ { st with mu := mu', or := o, ov := v } h := by
  obtain ⟨m, os, R⟩ := r
  refine ⟨m, os, R.F, R.N, fun x a hx => ?_, R.len, R.os, R.out, R.inj, R.ap, R.cl, R.lo, R.im⟩
  obtain ⟨b, hb, k⟩ := hm x a hx
  obtain ⟨u, hu, ru⟩ := R.mu x b hb
  exact ⟨u, hu, k u ru⟩
theorem Rel.noimm (r : Rel P fi fc ρ st h) (o : List Nat) (v : List AV) : Rel P fi fc ρ { st with or := o, ov := v, imm := fun _ _ => False } h := by
  obtain ⟨m, os, R⟩ := r
  exact ⟨m, os, R.F, R.N, R.mu, R.len, R.os, R.out, R.inj, R.ap, R.cl, R.lo, fun _ _ h => h.elim⟩
/-- without its cells, without the ground's list -/
theorem Rel.cl0 (r : Rel P fi fc ρ st h) {fi' : FI} (e : fi'.cl = []) : Rel P fi' fc ρ st h := by
  obtain ⟨m, os, R⟩ := r
  exact ⟨m, os, R.F, R.N, R.mu, R.len, R.os, R.out, R.inj, R.ap, (fun x l hx => by rw [e] at hx; cases hx), R.lo, R.im⟩
theorem Rel.cls (r : Rel P fi fc ρ st h) {fi' : FI} (e : ∀ x l, look x fi'.cl = some l → l < st.n ∧ fc.env.cells.lookup (stn x) = some (ρ l)) : Rel P fi' fc ρ st h := by
  obtain ⟨m, os, R⟩ := r
  exact ⟨m, os, R.F, R.N, R.mu, R.len, R.os, R.out, R.inj, R.ap, e, R.lo, R.im⟩
theorem Rel.cell (r : Rel P fi fc ρ st h) {x : Nm} {l : Nat} (e : look x fi.cl = some l) : fc.env.cells.lookup (stn x) = some (ρ l) := by
  obtain ⟨m, os, R⟩ := r
  exact (R.cl x l e).2
theorem FrOk.refi {K : Frag} {p : Program} {loose : List Str} {mean : ExcName → Option Value} {mg mb : Str → Option Value} {fi' : FI} (O : FrOk K p loose mean mg mb fi fc) (e1 : fi'.sc = fi.sc) (e2 : fi'.own = fi.own) (e3 : fi'.scr = none) : FrOk K p loose mean mg mb fi' fc :=
  ⟨O.X, O.T, O.hh, O.hk, by rw [e1]; exact O.sc, O.gl, O.bl, by rw [e2]; exact O.own, fun b xs h => by rw [e3] at h; cases h⟩
end
section
variable {prog : Program} {w : World} {K : Frag} {p : Program} {loose : List Str} {mean : ExcName → Option Value} {mg mb : Str → Option Value} {T : PT} {D n : Nat} {I : Evs} {fi : FI} {fc : FC} {ρ : Nat → Addr} {st st' : St} {s : Shared}
/-- a state is seen anew, nothing run -/
theorem Rel.again {ks xs : List Nat} {ns : List Nm} {C : St} {E : List EO} {h' : Heap} (r : Rel w.params fi fc ρ st h') (h : outc ρ ks xs ns (ret () st) = some (C, E, (), [])) (hcl : ∀ x l, look x fi.cl = some l → ks[l]? = some l) :
    ∃ f, Gone w.params fc ρ xs E f ∧ Rel w.params fi { fc with rest := restOf ρ xs f fc.rest } (fun j => ρ (ks.getD j 0)) C h' := by
  obtain ⟨st2, P2, e2, _, g⟩ := anew (w := w) (fc := fc) (h' := h') h trivial hcl
  cases e2
  exact g r
end
/-! rows that read as data -/
theorem eqvAll_refl : ∀ {ds : List PyData}, (∀ d ∈ ds, PyData.eqv d d = true) → PyData.eqvAll ds ds = true
  | [], _ => by simp [PyData.eqvAll]
  | d :: ds, h => by
    rw [PyData.eqvAll, h d (.head _), eqvAll_refl fun e he => h e (.tail _ he)]; rfl
noncomputable def okStr (l : Nm) : Prop := ∀ c ∈ l, c < 0x110000
theorem strOk_of {l : Nm} (h : okStr l) : PyData.strOk (stn l) = true := by
  unfold PyData.strOk stn
  simp only [List.all_toArray, List.all_eq_true, decide_eq_true_eq]
  exact h
noncomputable def flatD : PyData → Prop
  | .none => True
  | .int _ => True
  | .str x => PyData.strOk x = true
  | _ => False
theorem flatD_eqv {d : PyData} (h : flatD d) : PyData.eqv d d = true := by
  cases d with
  | none => simp [PyData.eqv]
  | int i => simp [PyData.eqv]
  | str x => simp [PyData.eqv]
  | _ => exact h.elim
theorem flatD_lay {d : PyData} (h : flatD d) : d.canLay0 = true ∧ d.depth = 0 := by
  cases d with
  | none => exact ⟨by simp [PyData.canLay0], by simp [PyData.depth]⟩
  | int i => exact ⟨by simp [PyData.canLay0], by simp [PyData.depth]⟩
  | str x => exact ⟨by unfold PyData.canLay0; exact h, by simp [PyData.depth]⟩
  | _ => exact h.elim
noncomputable def rowD : PyData → Prop
  | .tuple ds => ∀ d ∈ ds, flatD d
  | _ => False
theorem canLayAll_of : ∀ {ds : List PyData}, (∀ d ∈ ds, d.canLay0 = true) → PyData.canLayAll0 ds = true
  | [], _ => by simp [PyData.canLayAll0]
  | d :: ds, h => by rw [PyData.canLayAll0, h d (.head _), canLayAll_of fun e he => h e (.tail _ he)]; rfl
theorem depthAll_of {k : Nat} : ∀ {ds : List PyData}, (∀ d ∈ ds, d.depth ≤ k) → PyData.depthAll ds ≤ k
  | [], _ => by simp [PyData.depthAll]
  | d :: ds, h => by
    rw [PyData.depthAll]
    have := h d (.head _)
    have := depthAll_of fun e he => h e (.tail _ he)
    lia
theorem rowD_all {d : PyData} (h : rowD d) : PyData.eqv d d = true ∧ d.canLay0 = true ∧ d.depth ≤ 1 := by
  cases d with
  | tuple ds =>
    refine ⟨?_, ?_, ?_⟩
    · rw [PyData.eqv]; exact eqvAll_refl fun d hd => flatD_eqv (h d hd)
    · unfold PyData.canLay0; exact canLayAll_of fun d hd => (flatD_lay (h d hd)).1
    · rw [PyData.depth]
      have := depthAll_of (k := 0) fun d hd => Nat.le_of_eq (flatD_lay (h d hd)).2
      lia
  | _ => exact h.elim
theorem rows_shaped {ds : List PyData} (h : ∀ d ∈ ds, rowD d) : SeqAt.shaped (.list ds) = true ∧ PyData.eqv (.list ds) (.list ds) = true := by
  refine ⟨?_, ?_⟩
  · unfold SeqAt.shaped
    rw [Bool.and_eq_true]
    refine ⟨?_, decide_eq_true ?_⟩
    · unfold PyData.canLay0; exact canLayAll_of fun d hd => (rowD_all (h d hd)).2.1
    · rw [PyData.depth]
      have := depthAll_of (k := 1) fun d hd => (rowD_all (h d hd)).2.2
      lia
  · rw [PyData.eqv]; exact eqvAll_refl fun d hd => (rowD_all (h d hd)).1
end Mine
namespace Mine
open PySem PySem.W PyProof.Rows PySem.Calls PySem.Spec
section
variable {prog : Program} {w : World} {K : Frag} {p : Program} {loose : List Str} {mean : ExcName → Option Value} {mg mb : Str → Option Value} {T : PT} {D n : Nat} {I : Evs} {fi : FI} {fc : FC} {ρ : Nat → Addr} {st st' : St} {s : Shared}
set_option tactic.hygienic true in
theorem ss_app (ok : PTOk3 prog w K p loose mean mg mb T D) (O : FrOk K p loose mean mg mb fi fc) {ys : List Stmt} {Q : Flow → Shared → Prop} : ∀ (xs : List Stmt) (n : Nat) {st st' : St} {P : List Prop} {ρ : Nat → Addr} {s : Shared}, (evs T n).ss fi xs st = some (.next, st', P) → Ps P → Room2 D n fc.A →
    Rel w.params fi fc ρ st s.heap → Pst w.params fi fc ρ st st' s (fun _ (_ : Unit) => True) (fun _ s' => wpAny (model prog w) fc.A (execs ys fc.env) Q NoE s') → wpAny (model prog w) fc.A (execs (xs ++ ys) fc.env) Q NoE s
  | _, 0, _, _, _, _, _, h, _, _, _, _ => by cases h
  | [], n + 1, st, st', P, ρ, s, h, hP, B, r, H => by
    first | (obtain ⟨rfl, rfl, rfl⟩ := ret_some h) | cases h
    exact H ρ s.heap s.toks () Ext.refl r trivial
  | x :: xs, n + 1, st, st', P, ρ, s, h, hP, B, r, H => by
    have h : bnd ((evs T n).s fi x st) (fun f st => match f with
      | .next => (evs T n).ss fi xs st
      | f => ret f st) = some (.next, st', P) := h
    refine bnd_el h hP fun f st1 P1 P2 h1 h2 hP1 hP2 => ?_
    refine wpAny_execs_cons ((snd_evs ok n).s _ _ _ _ _ _ _ h1 hP1 O B.step ρ s _ r fun ρ1 h' tk v X r1 q => ?_)
    cases f with
    | next =>
      obtain rfl := q
      exact ss_app ok O xs n (s := { s with heap := h', toks := tk }) h2 hP2 B.step r1 fun ρ2 h2' tk2 u X2 r2 _ => H ρ2 h2' tk2 u (X.trans X2) r2 trivial
    | brk => first | exact nn h2 | cases h2
    | cont => first | exact nn h2 | cases h2
    | ret a => first | exact nn h2 | cases h2
set_option tactic.hygienic true in
theorem out_app (ok : PTOk3 prog w K p loose mean mg mb T D) (O : FrOk K p loose mean mg mb fi fc) (B : Room2 D n fc.A) {xs ys : List Stmt} {Q : Flow → Shared → Prop} {ks ex : List Nat} {ns : List Nm}
    {C : (Nat → Addr) → St} {E : (Nat → Addr) → List EO} {Ph : (Nat → Addr) → List Prop} (hev : ∀ ρ', outc ρ' ks ex ns ((evs T n).ss fi xs st) = some (C ρ', E ρ', .next, Ph ρ')) (hPh : ∀ ρ', Ext ρ st.n ρ' st.n → Ps (Ph ρ'))
    (hcl : ∀ x l, look x fi.cl = some l → ks[l]? = some l) (r : Rel w.params fi fc ρ st s.heap)
    (H : ∀ ρ' h' tk f, Ext ρ st.n ρ' st.n → Gone w.params fc ρ' ex (E ρ') f → Rel w.params fi { fc with rest := restOf ρ' ex f fc.rest } (fun j => ρ' (ks.getD j 0)) (C ρ') h' → wpAny (model prog w) fc.A (execs ys fc.env) Q NoE { s with heap := h', toks := tk }) :
    wpAny (model prog w) fc.A (execs (xs ++ ys) fc.env) Q NoE s := by
  obtain ⟨st1, P, e, hP, _⟩ := anew (w := w) (fc := fc) (h' := s.heap) (hev ρ) (hPh ρ ⟨Nat.le_refl _, fun _ _ => rfl⟩) hcl
  refine ss_app ok O xs n e hP B r fun ρ' h' tk v X r' q => ?_
  have X' : Ext ρ st.n ρ' st.n := ⟨Nat.le_refl _, X.2⟩
  obtain ⟨st2, P2, e2, _, g⟩ := anew (w := w) (fc := fc) (h' := h') (hev ρ') (hPh ρ' X') hcl
  rw [e] at e2
  cases e2
  obtain ⟨f, g1, g2⟩ := g r'
  exact H ρ' h' tk f X' g1 g2
end
end Mine
namespace Mine
open PySem PySem.W PyProof.Rows PySem.Calls PySem.Spec
noncomputable def globT : List (Nm × GV) := [
  ([79, 78, 69], .av (.txt [111, 110, 101])),
  ([87, 65, 89, 83], .av (.txt [119, 97, 121, 115])),
  ([83, 80, 76, 73, 84], .av (.txt [115, 112, 108, 105, 116])),
  ([74, 85, 77, 80], .av (.txt [106, 117, 109, 112])),
  ([77, 65, 82, 75], .av (.txt [109, 97, 114, 107])),
  ([78, 65, 77, 69], .av (.txt [110, 97, 109, 101])),
  ([83, 69, 84], .av (.txt [115, 101, 116])),
  ([71, 65, 73, 78], .av (.txt [103, 97, 105, 110])),
  ([80, 76, 65, 67, 69], .av (.txt [112, 108, 97, 99, 101])),
  ([65, 83, 75], .av (.txt [97, 115, 107])),
  ([70, 69, 78, 67, 69], .av (.txt [102, 101, 110, 99, 101])),
  ([70, 65, 73, 76], .av (.txt [102, 97, 105, 108])),
  ([65, 66, 79, 82, 84], .av (.txt [97, 98, 111, 114, 116])),
  ([83, 85, 67, 67, 69, 69, 68], .av (.txt [115, 117, 99, 99, 101, 101, 100])),
  ([68, 79, 78, 69], .av (.txt [100, 111, 110, 101])),
  ([80, 85, 84], .av (.txt [112, 117, 116])),
  ([69, 77, 73, 84], .av (.txt [101, 109, 105, 116])),
  ([79, 80, 69, 78], .av (.txt [111, 112, 101, 110])),
  ([83, 72, 85, 84], .av (.txt [115, 104, 117, 116])),
  ([77, 69, 69, 84], .av (.txt [109, 101, 101, 116])),
  ([77, 69, 84], .av (.num 0)),
  ([70, 65, 73, 76, 69, 68], .av (.num 1)),
  ([79, 86, 69, 82], .av (.num 2)),
  ([83, 73, 78, 71, 76, 69], .av (.con (.ref 15))),
  ([65, 76, 79, 78, 69], .av (.con (.ref 16))),
  ([108, 101, 110], .fn (.bi .len)),
  ([105, 115, 105, 110, 115, 116, 97, 110, 99, 101], .fn (.bi .isin)),
  ([115, 117, 109], .fn (.bi .sum)),
  ([97, 98, 115], .fn (.bi .abs)),
  ([114, 97, 110, 103, 101], .fn (.bi .range)),
  ([108, 105, 115, 116], .fn (.bi .list)),
  ([105, 110, 116], .fn (.bi .int)),
  ([115, 116, 114], .fn (.bi .tstr)),
  ([116, 117, 112, 108, 101], .fn (.bi .ttup)),
  ([114, 111, 119, 95, 111, 102], .fn (.fn 23)),
  ([105, 115, 95, 112, 108, 97, 105, 110, 95, 116, 101, 120, 116], .fn (.fn 30)),
  ([119, 105, 116, 104, 95, 116, 101, 120, 116, 115, 95, 106, 111, 105, 110, 101, 100], .fn (.fn 37)),
  ([115, 116, 114, 97, 105, 103, 104, 116, 101, 110, 101, 100], .fn (.fn 105)),
  ([99, 111, 109, 112, 105, 108, 101, 95, 112, 97, 116, 116, 101, 114, 110], .fn (.fn 112)),
  ([105, 115, 95, 102, 97, 105, 108], .fn (.fn 219)),
  ([116, 111, 95, 116, 101, 120, 116], .fn (.fn 254)),
  ([112, 97, 116, 116, 101, 114, 110, 95, 111, 102], .fn (.fn 285)),
  ([99, 104, 97, 114, 115, 95, 101, 110, 100], .fn (.fn 306)),
  ([108, 101, 110, 95, 101, 110, 100], .fn (.fn 313)),
  ([114, 112, 111, 115, 95, 101, 110, 100], .fn (.fn 327)),
  ([114, 101, 109, 95, 101, 110, 100], .fn (.fn 348)),
  ([97, 114, 98, 95, 101, 110, 100, 115], .fn (.fn 390)),
  ([111, 110, 101, 95, 101, 110, 100], .fn (.fn 411)),
  ([112, 108, 97, 105, 110, 95, 101, 110, 100], .fn (.fn 418)),
  ([101, 110, 100, 115, 95, 111, 102], .fn (.fn 425)),
  ([110, 97, 109, 101, 100, 95, 114, 111, 119, 115], .fn (.fn 537)),
  ([109, 97, 116, 99, 104, 95, 111, 114, 100, 101, 114, 115], .fn (.fn 544)),
  ([109, 97, 116, 99, 104, 95, 99, 111, 109, 112, 105, 108, 101, 100], .fn (.fn 551)),
  ([80, 97, 116, 116, 101, 114, 110, 67, 111, 100, 101], .fn (.fn 94)),
  ([70, 97, 105, 108, 117, 114, 101], .fn (.fn 145)),
  ([80, 97, 116, 116, 101, 114, 110], .fn (.fn 166)),
  ([68, 101, 108, 97, 121, 101, 100], .fn (.fn 187)),
  ([78, 97, 109, 101, 82, 101, 102], .fn (.fn 208)),
  ([87, 97, 121], .fn (.fn 449)),
  ([77, 97, 116, 99, 104], .fn (.fn 526)),
  ([80, 108, 97, 105, 110, 72, 111, 115, 116], .fn (.fn 589))]
noncomputable def fnL : List Nat := [23, 30, 37, 51, 58, 65, 70, 77, 84, 91, 105, 112, 163, 184, 205, 219, 254, 285, 306, 313, 327, 348, 390, 411, 418, 425, 439, 446, 467, 474, 481, 488, 495, 502, 509, 516, 523, 537, 544, 551, 565, 572, 579, 586]
/-- the program's own text -/
noncomputable abbrev pw : Program := PySem.Challenge.pw_xm0941_01
noncomputable def nthS : List Stmt → Nat → Stmt
  | [], _ => default
  | s :: _, 0 => s
  | _ :: r, n + 1 => nthS r n
noncomputable def clsS : Stmt → List Stmt
  | .ClassDef _ _ _ b _ _ _ _ _ _ _ => b
  | _ => []
noncomputable def fnS : Stmt → FnI
  | .FunctionDef _ a b _ _ _ sc _ _ _ => ⟨a.args.map fun x => nm x.arg, b, sc⟩
  | _ => ⟨[], [], default⟩
/-- where a def stands: the top's statement, and in a class the place behind 1 -/
noncomputable def fnIx : List (Nat × (Nat × Nat)) := [(23, (23, 0)), (30, (24, 0)), (37, (25, 0)), (51, (26, 1)), (58, (26, 2)), (65, (26, 3)), (70, (26, 4)), (77, (26, 5)), (84, (26, 6)), (91, (26, 7)), (105, (27, 0)), (112, (28, 0)), (163, (32, 1)), (184, (33, 1)), (205, (34, 1)),
  (219, (35, 0)), (254, (40, 0)), (285, (48, 0)), (306, (54, 0)), (313, (55, 0)), (327, (57, 0)), (348, (60, 0)), (390, (66, 0)), (411, (69, 0)), (418, (70, 0)), (425, (71, 0)), (439, (76, 1)), (446, (76, 2)), (467, (77, 1)), (474, (77, 2)), (481, (77, 3)), (488, (77, 4)),
  (495, (77, 5)), (502, (77, 6)), (509, (77, 7)), (516, (77, 8)), (523, (77, 9)), (537, (78, 0)), (544, (79, 0)), (551, (80, 0)), (565, (82, 1)), (572, (82, 2)), (579, (82, 3)), (586, (82, 4)), (598, (84, 0))]
noncomputable def fnx (f : Nat) : FnI := match lookN f fnIx with
  | some (i, 0) => fnS (nthS pw.main.body i)
  | some (i, j + 1) => fnS (nthS (clsS (nthS pw.main.body i)) j)
  | none => ⟨[], [], default⟩
noncomputable def fnsT (_ : Params) : List (Nat × FnI) := fnL.map fun a => (a, fnx a)
noncomputable def clsT : List (Nat × ClI) := [
  (94, ⟨[[111, 114, 100, 101, 114, 115]], [([101, 109, 105, 116], 58), ([112, 117, 116], 65), ([98, 101, 103, 117, 110], 70), ([99, 104, 111, 105, 99, 101], 77), ([114, 101, 112, 101, 97, 116], 84), ([98, 111, 117, 110, 100], 91)], 51⟩),
  (166, ⟨[[110, 111, 100, 101]], [], 163⟩),
  (187, ⟨[[116, 114, 101, 101]], [], 184⟩),
  (208, ⟨[[107, 105, 110, 100], [111, 119, 110, 101, 114], [107, 101, 121]], [], 205⟩),
  (449, ⟨[[111, 114, 100, 101, 114, 115], [112, 99], [97, 116], [110, 97, 109, 101, 100], [109, 97, 114, 107, 115], [99, 97, 108, 108, 115]], [([99, 111, 112, 105, 101, 100], 446)], 439⟩),
  (526, ⟨[[115, 117, 98, 106, 101, 99, 116], [104, 111, 115, 116], [104, 105, 115, 116, 111, 114, 121]], [([114, 117, 110], 474), ([119, 97, 121, 95, 98, 97, 99, 107], 481), ([100, 111, 110, 101], 488), ([109, 101, 116, 95, 111, 110, 99, 101], 495), ([101, 110, 100, 101, 100], 502), ([111, 116, 104, 101, 114], 509), ([109, 101, 116, 95, 111, 102, 116, 101, 110], 516), ([97, 115, 107, 101, 100], 523)], 467⟩),
  (589, ⟨[[118, 97, 108, 117, 101, 115], [108, 105, 109, 105, 116], [114, 101, 102, 117, 115, 101, 100], [119, 105, 100, 116, 104], [115, 116, 101, 112, 115], [108, 111, 103]], [([118, 97, 108, 117, 101, 95, 111, 102], 572), ([97, 115, 115, 105, 103, 110], 579), ([115, 116, 101, 112], 586)], 565⟩)]
noncomputable def tupsT : List (Nat × List Nm) := [(15, [[99, 104, 97, 114, 115], [108, 101, 110], [112, 111, 115], [114, 112, 111, 115], [116, 97, 98], [114, 116, 97, 98], [97, 110, 121], [110, 111, 116, 97, 110, 121], [115, 112, 97, 110], [98, 114, 101, 97, 107], [114, 101, 109]]), (16, [[102, 101, 110, 99, 101], [102, 97, 105, 108], [97, 98, 111, 114, 116], [115, 117, 99, 99, 101, 101, 100]])]
noncomputable def ptT (P : Params) (ext : Nat → Option (List AV → St → Rr AV)) : PT := ⟨globT, fnsT P, clsT, tupsT, [166, 187, 145], ext⟩
/-- what is asked of the heap behind the top -/
noncomputable def chkK (K : Frag) : Bool := globT.all (glChk K) && clsT.all (clChk K) && tupsT.all (tupChk K) && ([166, 187, 145] : List Nat).all (fun C => isNotIn K "str" C) && fnL.all (fnChk K)
noncomputable def Sound1 (K : Frag) : Prop := chkK K = true ∧ fnL.map (fnK K) = fnL.map fnx
theorem ptT_ok {K : Frag} (P : Params) (ext : Nat → Option (List AV → St → Rr AV)) (h : Sound1 K) : PTOk2 K (ptT P ext) := by
  have h1 := h.1
  unfold chkK at h1
  simp only [Bool.and_eq_true] at h1
  exact ptOk_of (T := ptT P ext) h1.1.1.1.1 h1.1.1.1.2 h1.1.1.2 h1.1.2
theorem map_at {α β : Type} {f g : α → β} : ∀ {l : List α}, l.map f = l.map g → ∀ a ∈ l, f a = g a
  | [], _, _, h => nomatch h
  | x :: r, e, a, h => by
    simp only [List.map_cons, List.cons.injEq] at e
    rcases List.mem_cons.mp h with rfl | h
    · exact e.1
    · exact map_at e.2 a h
theorem fnsT_ok {K : Frag} (P : Params) (h : Sound1 K) : ∀ f g, lookN f (fnsT P) = some g → FnRec K f g := fun f g e => by
  have h1 := h.1
  unfold chkK at h1
  simp only [Bool.and_eq_true] at h1
  obtain ⟨a, ha, q⟩ := List.mem_map.mp (lookN_mem e)
  cases q
  rw [← map_at h.2 _ ha]
  exact fnRec_of (List.all_eq_true.mp h1.2 _ ha)
end Mine
namespace Mine
open PySem PySem.W PyProof.Rows PySem.Calls PySem.Spec

noncomputable def cSelf : Nm := [115, 101, 108, 102]
noncomputable def cWay : Nm := [119, 97, 121]
noncomputable def cSubject : Nm := [115, 117, 98, 106, 101, 99, 116]
noncomputable def cHost : Nm := [104, 111, 115, 116]
noncomputable def cHistory : Nm := [104, 105, 115, 116, 111, 114, 121]
noncomputable def cOrders : Nm := [111, 114, 100, 101, 114, 115]
noncomputable def cPc : Nm := [112, 99]
noncomputable def cAt : Nm := [97, 116]
noncomputable def cNamed : Nm := [110, 97, 109, 101, 100]
noncomputable def cMarks : Nm := [109, 97, 114, 107, 115]
noncomputable def cCalls : Nm := [99, 97, 108, 108, 115]
noncomputable def cValues : Nm := [118, 97, 108, 117, 101, 115]
noncomputable def cLimit : Nm := [108, 105, 109, 105, 116]
noncomputable def cRefused : Nm := [114, 101, 102, 117, 115, 101, 100]
noncomputable def cWidth : Nm := [119, 105, 100, 116, 104]
noncomputable def cSteps : Nm := [115, 116, 101, 112, 115]
noncomputable def cLog : Nm := [108, 111, 103]
noncomputable def cKind : Nm := [107, 105, 110, 100]
noncomputable def cOwner : Nm := [111, 119, 110, 101, 114]
noncomputable def cKey : Nm := [107, 101, 121]
noncomputable def cVar : Nm := [118, 97, 114]

/-- the class of a way, of a match, of a host, of a name -/
noncomputable def CW : Nat := 449
noncomputable def CM : Nat := 526
noncomputable def CH : Nat := 589
noncomputable def CN : Nat := 208
noncomputable def wayD (ords pc at_ N M calls : AV) : List (Nm × AV) := [(cOrders, ords), (cPc, pc), (cAt, at_), (cNamed, N), (cMarks, M), (cCalls, calls)]
noncomputable def refAO (l : Nat) (k : Nm) : List AO := [.inst CN (l + 1), .dict [(cKind, .txt cVar), (cOwner, .none), (cKey, .txt k)]]
noncomputable def refsAO : Nat → List Nm → List AO
  | _, [] => []
  | l, k :: r => refAO l k ++ refsAO (l + 2) r
noncomputable def mAO (sub : Nm) (p hx : List AV) (pc at_ N M : AV) (es : List (Nm × AV)) (steps : Int) (items lg : List AV) (keys : List Nm) : List AO :=
  [.inst CM 1, .dict [(cSubject, .str sub), (cHost, .ref 5), (cHistory, .ref 2)], .list (some p) hx, .inst CW 4, .dict (wayD (.ref 8) pc at_ N M .none), .inst CH 6,
   .dict [(cValues, .ref 7), (cLimit, .num 9999), (cRefused, .ref 10), (cWidth, .num 64), (cSteps, .int steps), (cLog, .ref 9)], .tab es, .list (some items) [], .list (some lg) [], .list none []] ++ refsAO 11 keys
noncomputable def mkSt (l : List AO) (or : List Nat) (ov : List AV) : St := { mu := [(cSelf, .ref 0), (cWay, .ref 3)], sg := Tr.ofL 0 .nil l, n := l.length, or := or, ov := ov }

noncomputable def whileT : Stmt → Expr
  | .While t _ _ _ => t
  | _ => .Name ⟨#[]⟩ default
noncomputable def whileB : Stmt → List Stmt
  | .While _ b _ _ => b
  | _ => []
noncomputable def runW (P : Params) : Stmt := match (fnx 474).body with
  | _ :: w :: _ => w
  | _ => default
noncomputable def fiRun (P : Params) : FI := ⟨(fnx 474).sc, [], true, none⟩
noncomputable def T1 (P : Params) : PT := ptT P fun _ => none
noncomputable def turn (P : Params) (j : Nat) (st : St) : Rr Unit := itWh (evs (T1 P) 200) (fiRun P) (whileT (runW P)) (whileB (runW P)) j st
noncomputable def tMark : Nm := [109, 97, 114, 107]
noncomputable def keys1 : List Nm := [[87], [85], [74]]
noncomputable def ks17 : List Nat := [0, 1, 2, 3, 4, 5, 6, 7, 8, 9, 10, 11, 12, 13, 14, 15, 16]
end Mine
namespace Mine
open PySem PySem.W PyProof.Rows PySem.Calls PySem.Spec
noncomputable def tOne : Nm := [111, 110, 101]
noncomputable def tLen : Nm := [108, 101, 110]
noncomputable def tWays : Nm := [119, 97, 121, 115]
noncomputable def tArb : Nm := [97, 114, 98]
noncomputable def tSet : Nm := [115, 101, 116]
noncomputable def tAsk : Nm := [97, 115, 107]
noncomputable def tPlace : Nm := [112, 108, 97, 99, 101]
noncomputable def tFail : Nm := [102, 97, 105, 108]
noncomputable def tDone : Nm := [100, 111, 110, 101]
noncomputable def tName : Nm := [110, 97, 109, 101]
noncomputable def kW : Nm := [87]
noncomputable def kU : Nm := [85]
noncomputable def kJ : Nm := [74]
/-- the host's values -/
inductive Vf where
  | e0
  | e1 (W : Nm)
  | e3 (W U : Nm) (J : Int)
noncomputable def Vf.es : Vf → List (Nm × AV)
  | .e0 => []
  | .e1 W => [(kW, .str W)]
  | .e3 W U J => [(kW, .str W), (kU, .str U), (kJ, .int J)]
noncomputable def l1AO (sub : Nm) (p hx : List AV) (pc at_ M : AV) (es : List (Nm × AV)) (steps : Int) (lg : List AV) (more : List AO) : List AO :=
  [.inst CM 1, .dict [(cSubject, .str sub), (cHost, .ref 5), (cHistory, .ref 2)], .list (some p) hx, .inst CW 4, .dict (wayD (.ref 8) pc at_ .none M .none), .inst CH 6,
   .dict [(cValues, .ref 7), (cLimit, .num 9999), (cRefused, .ref 10), (cWidth, .num 64), (cSteps, .int steps), (cLog, .ref 9)], .tab es,
   .list none [.ref 17, .ref 18, .ref 19, .ref 20, .ref 21, .ref 22, .ref 23, .ref 24, .ref 25, .ref 26], .list (some lg) [], .list none []] ++ refsAO 11 keys1 ++
  [.tup [.txt tMark], .tup [.txt tOne, .txt tLen, .num 1], .tup [.txt tWays, .txt tArb], .tup [.txt tSet, .ref 11], .tup [.txt tMark], .tup [.txt tAsk, .ref 27], .tup [.txt tSet, .ref 13], .tup [.txt tPlace, .ref 15], .tup [.txt tFail], .tup [.txt tDone],
   .tup [.txt tName, .txt kW]] ++ more
end Mine
namespace Mine
open PySem PySem.W PyProof.Rows PySem.Calls PySem.Spec
noncomputable def upN : Nat → Nat → List Nat
  | _, 0 => []
  | a, c + 1 => a :: upN (a + 1) c
noncomputable def ks28 : List Nat := upN 0 28
noncomputable def ks29 : List Nat := upN 0 29
noncomputable def upI (a : Int) : Nat → Int
  | 0 => a
  | n + 1 => upI (a + 1) n
/-- the ways that wait: the first is the furthest -/
noncomputable def xsA : Nat → Nat → List Nat
  | _, 0 => []
  | l, c + 1 => (l + 1) :: l :: xsA (l + 2) c
noncomputable def hA (ρ : Nat → Addr) : Nat → Nat → List AV
  | _, 0 => []
  | l, c + 1 => .con (.ref (ρ (l + 1))) :: hA ρ (l + 2) c
noncomputable def EA (ρ : Nat → Addr) (m : Nat) (a : Int) : Nat → Nat → List EO
  | _, 0 => []
  | l, c + 1 => .inst CW (ρ l) :: .dict (wayD (.con (.ref (ρ 8))) (.num 3) (.int (upI a (c + 1))) .none (.con (.ref (ρ m))) .none) :: EA ρ m a (l + 2) c
noncomputable def lenH (p : List AV) : Nat → Nat → List Prop
  | _, 0 => []
  | l, c + 1 => ((itm (some p) (upN 0 l |>.map fun j => .ref (36 + 2 * j))).length ≤ sizeLine) :: lenH p (l + 1) c
noncomputable def PhA (sub : Nm) (p : List AV) (b steps : Int) (c : Nat) : List Prop :=
  [¬ (9999 : Int) < steps + 1, ¬ (9999 : Int) < steps + 1 + 1, List.length sub < 2 ^ 62, b + 1 ≤ (List.length sub : Int), ¬ (9999 : Int) < steps + 1 + 1 + 1, List.length sub < 2 ^ 62,
   -(2 ^ 62) ≤ b + 1 ∧ b + 1 < 2 ^ 62, -(2 ^ 62) ≤ (List.length sub : Int) + 1 ∧ (List.length sub : Int) + 1 < 2 ^ 62, (if b + 1 < (List.length sub : Int) + 1 then (List.length sub : Int) + 1 - (b + 1) else 0) = ((c + 1 : Nat) : Int), c + 1 ≤ 1000] ++ lenH p 0 c
noncomputable def StA (c : Nat) : Prop := ∀ (P : Params) (ρ : Nat → Addr) (sub : Nm) (p : List AV) (b : Int) (vf : Vf) (steps : Int) (lg : List AV),
  outc ρ ks29 (xsA 35 c) [cSelf, cWay] (turn P 3 (mkSt (l1AO sub p [] (.num 0) (.int b) .none vf.es steps lg []) [0, 0, 1, 0, c + 1, 0] [])) =
    some (mkSt (l1AO sub (absorb (renL ρ ks29 p) (hA ρ 35 c)) [] (.num 3) (.int (b + 1)) (.ref 28) vf.es (steps + 1 + 1 + 1) (renL ρ ks29 lg) [.tup [.none, .int b]]) [] [],
      EA ρ 28 (b + 1) 35 c, (), PhA sub p b steps c)
theorem tA0 : StA 0 := by intro P ρ sub p b vf steps lg; cases vf <;> kernel_rfl
theorem tA1 : StA 1 := by intro P ρ sub p b vf steps lg; cases vf <;> kernel_rfl
theorem tA2 : StA 2 := by intro P ρ sub p b vf steps lg; cases vf <;> kernel_rfl
theorem tA3 : StA 3 := by intro P ρ sub p b vf steps lg; cases vf <;> kernel_rfl
theorem tA4 : StA 4 := by intro P ρ sub p b vf steps lg; cases vf <;> kernel_rfl
theorem tA5 : StA 5 := by intro P ρ sub p b vf steps lg; cases vf <;> kernel_rfl
theorem tA6 : StA 6 := by intro P ρ sub p b vf steps lg; cases vf <;> kernel_rfl
theorem tA7 : StA 7 := by intro P ρ sub p b vf steps lg; cases vf <;> kernel_rfl
theorem tA8 : StA 8 := by intro P ρ sub p b vf steps lg; cases vf <;> kernel_rfl
theorem tA9 : StA 9 := by intro P ρ sub p b vf steps lg; cases vf <;> kernel_rfl
end Mine
namespace Mine
open PySem PySem.W PyProof.Rows PySem.Calls PySem.Spec
/-- the part from b to e -/
noncomputable def seg (sub : Nm) (b e : Int) : Nm := (sub.take e.toNat).drop b.toNat
noncomputable def e2I (sub : Nm) (b e : Int) : Int := e + ((seg sub b e).length : Int)
noncomputable def nx0 : Vf → Nm → Vf
  | .e0, W => .e1 W
  | .e1 _, W => .e1 W
  | .e3 _ U J, W => .e3 W U J
noncomputable def nx1 (sub : Nm) (b e : Int) : Vf := .e3 (seg sub b e) (seg sub e (e2I sub b e)) (e2I sub b e)
noncomputable def ksB : List Nat := [0, 1, 2, 30, 29] ++ upN 5 24
/-- with a way that waits -/
noncomputable def stB (sub : Nm) (p : List AV) (b e e' : Int) (es : List (Nm × AV)) (steps : Int) (lg : List AV) (or : List Nat) : St :=
  mkSt (l1AO sub p [.ref 30] (.num 3) (.int e) (.ref 28) es steps lg [.tup [.none, .int b], .dict (wayD (.ref 8) (.num 3) (.int e') .none (.ref 28) .none), .inst CW 29]) or []
noncomputable def slP (sub : Nm) (b e : Int) : List Prop := [0 ≤ b ∧ b < 2 ^ 62, 0 ≤ e ∧ e < 2 ^ 62, List.length sub ≤ sizeLine]
noncomputable def stepP (steps : Int) : Prop := ¬ (9999 : Int) < steps
noncomputable def lgP (lg xs : List AV) : Prop := (itm (some lg) xs).length ≤ sizeLine
noncomputable def popP (p : List AV) (x : AV) : List Prop := [(itm (some p) [x]).length < 2 ^ 62, (0 : Int) < ((List.length p + List.length [x] : Nat) : Int), (itm (some p) [x]).length ≤ sizeLine]
noncomputable def Ph0 (sub : Nm) (b e steps : Int) (lg : List AV) (tail : List Prop) : List Prop :=
  stepP (steps + 1) :: (slP sub b e ++ [lgP lg [], stepP (steps + 1 + 1), stepP (steps + 1 + 1 + 1), stepP (steps + 1 + 1 + 1 + 1), (seg sub b e).length < 2 ^ 62] ++ slP sub e (e2I sub b e) ++
    [¬ seg sub e (e2I sub b e) = seg sub b e] ++ tail)
noncomputable def Ph1 (sub : Nm) (b e steps : Int) (lg : List AV) (l1 l2 : Nat) (tail : List Prop) : List Prop :=
  stepP (steps + 1) :: (slP sub b e ++ [lgP lg [], stepP (steps + 1 + 1), stepP (steps + 1 + 1 + 1), stepP (steps + 1 + 1 + 1 + 1), (seg sub b e).length < 2 ^ 62] ++ slP sub e (e2I sub b e) ++
    [seg sub e (e2I sub b e) = seg sub b e, stepP (steps + 1 + 1 + 1 + 1 + 1), stepP (steps + 1 + 1 + 1 + 1 + 1 + 1)] ++ slP sub e (e2I sub b e) ++ [lgP lg [.ref l1], stepP (steps + 1 + 1 + 1 + 1 + 1 + 1 + 1), lgP lg [.ref l1, .ref l2], stepP (steps + 1 + 1 + 1 + 1 + 1 + 1 + 1 + 1)] ++ tail)
theorem tB0 (P : Params) (ρ : Nat → Addr) (sub : Nm) (p : List AV) (b e e' : Int) (vf : Vf) (steps : Int) (lg : List AV) :
  outc ρ ksB [32] [cSelf, cWay] (turn P 4 (stB sub p b e e' vf.es steps lg [0, 0, 0, 0, 0, 1])) =
    some (mkSt (l1AO sub (renL ρ ksB p) [] (.num 3) (.int e') (.ref 28) (nx0 vf (seg sub b e)).es (steps + 1 + 1 + 1 + 1) (renL ρ ksB lg ++ [.con (.ref (ρ 32))]) [.tup [.none, .int b]]) [] [],
      [.tup [.txt kW, .str (seg sub b e)]], (), Ph0 sub b e steps lg (popP p (.ref 30))) := by cases vf <;> kernel_rfl
theorem tB1 (P : Params) (ρ : Nat → Addr) (sub : Nm) (p : List AV) (b e e' : Int) (vf : Vf) (steps : Int) (lg : List AV) :
  outc ρ ksB [32, 55, 57] [cSelf, cWay] (turn P 8 (stB sub p b e e' vf.es steps lg [0, 0, 0, 0, 1, 0, 0, 0, 0, 1])) =
    some (mkSt (l1AO sub (renL ρ ksB p) [] (.num 3) (.int e') (.ref 28) (nx1 sub b e).es (steps + 1 + 1 + 1 + 1 + 1 + 1 + 1 + 1) (renL ρ ksB lg ++ [.con (.ref (ρ 32)), .con (.ref (ρ 55)), .con (.ref (ρ 57))]) [.tup [.none, .int b]]) [] [],
      [.tup [.txt kW, .str (seg sub b e)], .tup [.txt kU, .str (seg sub e (e2I sub b e))], .tup [.txt kJ, .int (e2I sub b e)]], (), Ph1 sub b e steps lg 32 55 (popP p (.ref 30))) := by cases vf <;> kernel_rfl
end Mine
namespace Mine
open PySem PySem.W PyProof.Rows PySem.Calls PySem.Spec
/-! the last way -/
noncomputable def runRest (P : Params) : List Stmt := match (fnx 474).body with
  | _ :: _ :: r => r
  | _ => []
noncomputable def lastW (P : Params) (st : St) : Rr AFl := whEnd (evs (T1 P) 200) (fiRun P) (whileT (runW P)) (whileB (runW P)) (runRest P) st
noncomputable def stE (sub : Nm) (b e : Int) (es : List (Nm × AV)) (steps : Int) (lg : List AV) (or : List Nat) : St :=
  mkSt (l1AO sub [] [] (.num 3) (.int e) (.ref 28) es steps lg [.tup [.none, .int b]]) or []
/-- what the caller of a match sees -/
noncomputable def l2AO (es : List (Nm × AV)) (steps : Int) (lg : List AV) (more : List AO) : List AO :=
  [.inst CH 1, .dict [(cValues, .ref 2), (cLimit, .num 9999), (cRefused, .ref 5), (cWidth, .num 64), (cSteps, .int steps), (cLog, .ref 4)], .tab es,
   .list none [.ref 12, .ref 13, .ref 14, .ref 15, .ref 16, .ref 17, .ref 18, .ref 19, .ref 20, .ref 21], .list (some lg) [], .list none []] ++ refsAO 6 keys1 ++
  [.tup [.txt tMark], .tup [.txt tOne, .txt tLen, .num 1], .tup [.txt tWays, .txt tArb], .tup [.txt tSet, .ref 6], .tup [.txt tMark], .tup [.txt tAsk, .ref 22], .tup [.txt tSet, .ref 8], .tup [.txt tPlace, .ref 10], .tup [.txt tFail], .tup [.txt tDone],
   .tup [.txt tName, .txt kW]] ++ more
noncomputable def mkS0 (mu : List (Nm × AV)) (l : List AO) (or : List Nat) (ov : List AV) : St := { mu := mu, sg := Tr.ofL 0 .nil l, n := l.length, or := or, ov := ov }
noncomputable def ksE (t : Nat) : List Nat := upN 5 23 ++ [t]
noncomputable def endP : List Prop := [(itm (some []) []).length < 2 ^ 62, ¬ (0 : Int) < (((List.nil : List AV).length + (List.nil : List AV).length : Nat) : Int)]
theorem tE0 (P : Params) (ρ : Nat → Addr) (sub : Nm) (b e : Int) (vf : Vf) (steps : Int) (lg : List AV) :
  outc ρ (ksE 51) [30] [] (lastW P (stE sub b e vf.es steps lg [0, 0, 0, 0, 0, 0])) =
    some (mkS0 [] (l2AO (nx0 vf (seg sub b e)).es (steps + 1 + 1 + 1 + 1) (renL ρ (ksE 51) lg ++ [.con (.ref (ρ 30))]) [.tup [.num 1, .none]]) [] [],
      [.tup [.txt kW, .str (seg sub b e)]], .ret (.ref 51), Ph0 sub b e steps lg endP) := by cases vf <;> kernel_rfl
theorem tE1 (P : Params) (ρ : Nat → Addr) (sub : Nm) (b e : Int) (vf : Vf) (steps : Int) (lg : List AV) :
  outc ρ (ksE 57) [30, 53, 55] [] (lastW P (stE sub b e vf.es steps lg [0, 0, 0, 0, 1, 0, 0, 0, 0, 0])) =
    some (mkS0 [] (l2AO (nx1 sub b e).es (steps + 1 + 1 + 1 + 1 + 1 + 1 + 1 + 1) (renL ρ (ksE 57) lg ++ [.con (.ref (ρ 30)), .con (.ref (ρ 53)), .con (.ref (ρ 55))]) [.tup [.num 1, .none]]) [] [],
      [.tup [.txt kW, .str (seg sub b e)], .tup [.txt kU, .str (seg sub e (e2I sub b e))], .tup [.txt kJ, .int (e2I sub b e)]], .ret (.ref 57), Ph1 sub b e steps lg 30 53 endP) := by cases vf <;> kernel_rfl
theorem tAf (P : Params) (ρ : Nat → Addr) (sub : Nm) (b : Int) (vf : Vf) (steps : Int) (lg : List AV) :
  outc ρ (ksE 30) [] [] (lastW P (mkSt (l1AO sub [] [] (.num 0) (.int b) .none vf.es steps lg []) [0, 0, 0, 0] [])) =
    some (mkS0 [] (l2AO vf.es (steps + 1 + 1) (renL ρ (ksE 30) lg) [.tup [.num 1, .none]]) [] [], [], .ret (.ref 30),
      [stepP (steps + 1), stepP (steps + 1 + 1), sub.length < 2 ^ 62, ¬ b + 1 ≤ (sub.length : Int)] ++ endP) := by cases vf <;> kernel_rfl
end Mine
namespace Mine
open PySem PySem.W PyProof.Rows PySem.Calls PySem.Spec

theorem dropA_mem {rest : List (Addr × Obj)} {d : Addr} {x : Addr × Obj} : x ∈ rest.filter (fun x => !(Nat.beq x.1 d)) ↔ x ∈ rest ∧ x.1 ≠ d := by
  rw [List.mem_filter]
  refine and_congr_right fun _ => ?_
  cases h : Nat.beq x.1 d with
  | true => simp [Nat.eq_of_beq_eq_true h]
  | false => simpa using Nat.ne_of_beq_eq_false h

structure Pend (P : Params) (rest : List (Addr × Obj)) (o8 m : Addr) (e : Int) (q : List (Addr × Addr)) : Prop where
  inst : ∀ x ∈ q, (x.1, instObj CW x.2) ∈ rest
  dict : ∀ (i : Nat) (x : Addr × Addr), q[i]? = some x → ∃ o, (x.2, o) ∈ rest ∧ RepEO P (.dict (wayD (.con (.ref o8)) (.num 3) (.int (e + 1 + i)) .none (.con (.ref m)) .none)) o
  nd : (q.map (·.2)).Nodup
noncomputable def pendL (q : List (Addr × Addr)) : List AV := (q.map fun x => AV.con (.ref x.1)).reverse
theorem pendL_con (q : List (Addr × Addr)) : AllCon (pendL q) := fun a ha => by
  obtain ⟨x, _, rfl⟩ := List.mem_map.mp (List.mem_reverse.mp ha)
  exact ⟨_, rfl⟩
theorem pendL_cons (x : Addr × Addr) (q : List (Addr × Addr)) : pendL (x :: q) = pendL q ++ [.con (.ref x.1)] := by simp [pendL]
theorem pendL_len (q : List (Addr × Addr)) : (pendL q).length = q.length := by simp [pendL]

section
variable {P : Params} {fc : FC} {ρ : Nat → Addr} {h : Heap} {fi : FI}
theorem wayD_rep {n : Nat} {o8 m : Addr} {pc at_ : AV} {o : Obj} (hpc : ∀ v, RepV (fun _ => 0) 0 pc v → RepV ρ n pc v) (hat : ∀ v, RepV (fun _ => 0) 0 at_ v → RepV ρ n at_ v)
    (h : RepEO P (.dict (wayD (.con (.ref o8)) pc at_ .none (.con (.ref m)) .none)) o) (h8 : ρ 8 = o8) (hm : ρ 28 = m) (hn : 28 < n) : RepO P ρ n (.dict (wayD (.ref 8) pc at_ .none (.ref 28) .none)) o := by
  obtain ⟨ds, k, e, h⟩ := h
  subst h8; subst hm
  refine ⟨ds, k, e, All2.map2 ?_ h⟩
  exact ⟨fun _ q => ⟨q.1, q.2.1, Nat.lt_trans (by decide) hn, q.2.2.1⟩, fun _ q => ⟨q.1, q.2.1, hpc _ q.2.2⟩, fun _ q => ⟨q.1, q.2.1, hat _ q.2.2⟩, fun _ q => q, fun _ q => ⟨q.1, q.2.1, hn, q.2.2.1⟩, fun _ q => q, trivial⟩

theorem impB {sub : Nm} {x : Addr × Addr} {q : List (Addr × Addr)} {b e : Int} {es : List (Nm × AV)} {steps : Int} {lg : List AV} {or : List Nat}
    (r : Rel P fi fc ρ (mkSt (l1AO sub (pendL (x :: q)) [] (.num 3) (.int e) (.ref 28) es steps lg [.tup [.none, .int b]]) [] []) h) (hp : Pend P fc.rest (ρ 8) (ρ 28) e (x :: q)) :
    ∃ ρ1, Rel P fi { fc with rest := fc.rest.filter fun y => !(Nat.beq y.1 x.2) } ρ1 (stB sub (pendL q) b e (e + 1) es steps lg or) h ∧ (∀ j, j < 29 → ρ1 j = ρ j) := by
  obtain ⟨o, ho, hro⟩ := hp.dict 0 x rfl
  have hi := hp.inst x (.head _)
  have e0 : e + 1 + ((0 : Nat) : Int) = e + 1 := by lia
  rw [e0] at hro
  have r1 := r.impD (rest := fc.rest.filter fun y => !(Nat.beq y.1 x.2)) ho (fun y hy => dropA_mem.mp hy) (wayD_rep (ρ := ρ) (n := 29) (pc := .num 3) (at_ := .int (e + 1)) (fun _ h => h) (fun _ h => h) hro rfl rfl (by decide))
  have hne : x.1 ≠ x.2 := by
    intro q
    have h1 := r.get? hi
    have h2 := r.get? ho
    rw [q, h2] at h1
    first | (obtain ⟨rfl, rfl, rfl⟩ := ret_some h1) | cases h1
    obtain ⟨ds, k, e, _⟩ := hro
    have z := congrArg Obj.data e
    cases z
  have hi' : (x.1, instObj CW x.2) ∈ fc.rest.filter fun y => !(Nat.beq y.1 x.2) := dropA_mem.mpr ⟨hi, hne⟩
  have r2 := r1.imp (ao := .inst CW 29) hi' rfl ⟨Nat.lt_of_lt_of_eq (by decide : 29 < 31) (by kernel_rfl : 31 = _), rfl⟩
  have r3 := (r2.view (l := 2) (p' := some (pendL q)) (xs' := [.ref 30]) (p := some (pendL (x :: q))) (xs := []) (by kernel_rfl) (fun vs hv => by
    rw [pendL_cons] at hv
    have hv : All2 _ ((pendL q ++ [.con (.ref x.1)]) ++ []) vs := hv
    rw [List.append_nil] at hv
    obtain ⟨b1, b2, rfl, h1, h2⟩ := All2.split hv
    refine All2.append h1 ?_
    refine All2.map2 ?_ h2
    exact ⟨fun _ q => ⟨Nat.lt_of_lt_of_eq (by decide : 30 < 31) (by kernel_rfl : 31 = _), q.1⟩, trivial⟩)).mus (fun _ _ h => h) or []
  refine ⟨upR (upR ρ 29 x.2) 30 x.1, Eq.mp (by kernel_rfl) r3, fun j hj => ?_⟩
  · have h1 : j ≠ 30 := by lia
    have h2 : j ≠ 29 := by lia
    show upR (upR ρ 29 x.2) 30 x.1 j = _
    simp [upR, h1, h2]
end
end Mine
namespace Mine
open PySem PySem.W PyProof.Rows PySem.Calls PySem.Spec

/-- what is told -/
inductive LE where
  | W (t : Nm)
  | U (t : Nm)
  | J (i : Int)
noncomputable def LE.av : LE → List AV
  | .W t => [.txt kW, .str t]
  | .U t => [.txt kU, .str t]
  | .J i => [.txt kJ, .int i]
noncomputable def LogR (P : Params) (rest : List (Addr × Obj)) (lg : List AV) (L : List LE) : Prop := All2 (fun a l => ∃ c, a = .con (.ref c) ∧ ∃ o, (c, o) ∈ rest ∧ RepEO P (.tup l.av) o) lg L
theorem LogR.con {P : Params} {rest : List (Addr × Obj)} {lg : List AV} {L : List LE} (h : LogR P rest lg L) : AllCon lg := by
  induction lg generalizing L with
  | nil => intro a ha; cases ha
  | cons a r ih =>
    cases L with
    | nil => exact h.elim
    | cons l L =>
      intro b hb
      rcases List.mem_cons.mp hb with rfl | hb
      · obtain ⟨c, rfl, _⟩ := h.1; exact ⟨_, rfl⟩
      · exact ih h.2 b hb
theorem LogR.more {P : Params} {rest rest' : List (Addr × Obj)} {lg : List AV} {L : List LE} (h : LogR P rest lg L) (k : ∀ c o l, (c, o) ∈ rest → RepEO P (.tup l) o → (c, o) ∈ rest') : LogR P rest' lg L :=
  h.mono fun a _ l ⟨c, e, o, ho, hr⟩ => ⟨c, e, o, k c o _ ho hr, hr⟩
noncomputable def dueAt (sub : Nm) (b e : Int) : List LE := .W (seg sub b e) :: (if seg sub e (e2I sub b e) = seg sub b e then [.U (seg sub e (e2I sub b e)), .J (e2I sub b e)] else [])
noncomputable def dueFrom (sub : Nm) (b : Int) : Int → Nat → List LE
  | _, 0 => []
  | e, n + 1 => dueAt sub b e ++ dueFrom sub b (e + 1) n
theorem seg_len (sub : Nm) (b e : Int) : (seg sub b e).length ≤ sub.length := by
  unfold seg
  simp only [List.length_drop, List.length_take]; omega

theorem ph0_ok {sub : Nm} {b e steps : Int} {lg : List AV} {tail : List Prop} (hb : 0 ≤ b ∧ b ≤ 100) (he : 0 ≤ e ∧ e ≤ 100) (hs : sub.length ≤ 100) (hst : steps + 8 ≤ 9999) (hl : lg.length ≤ 1000) (ht : ¬ seg sub e (e2I sub b e) = seg sub b e) (h : Ps tail) :
    Ps (Ph0 sub b e steps lg tail) := by
  have h1 := seg_len sub b e
  have h2 : e2I sub b e = e + ((seg sub b e).length : Int) := rfl
  have h3 : (0 : Int) ≤ e2I sub b e ∧ e2I sub b e < 2 ^ 62 := by rw [h2]; lia
  have hz : sub.length ≤ sizeLine := by rw [sizeL]; lia
  have hlg : lgP lg [] := by unfold lgP; rw [sizeL]; simp [itm]; lia
  simp only [Ph0, slP, List.cons_append, List.nil_append, Ps, stepP]
  refine ⟨?_, ?_, ?_, hz, hlg, ?_, ?_, ?_, ?_, ?_, h3, hz, ht, h⟩ <;> lia
theorem ph1_ok {sub : Nm} {b e steps : Int} {lg : List AV} {l1 l2 : Nat} {tail : List Prop} (hb : 0 ≤ b ∧ b ≤ 100) (he : 0 ≤ e ∧ e ≤ 100) (hs : sub.length ≤ 100) (hst : steps + 8 ≤ 9999) (hl : lg.length ≤ 1000) (ht : seg sub e (e2I sub b e) = seg sub b e) (h : Ps tail) :
    Ps (Ph1 sub b e steps lg l1 l2 tail) := by
  have h1 := seg_len sub b e
  have h2 : e2I sub b e = e + ((seg sub b e).length : Int) := rfl
  have h3 : (0 : Int) ≤ e2I sub b e ∧ e2I sub b e < 2 ^ 62 := by rw [h2]; lia
  have hz : sub.length ≤ sizeLine := by rw [sizeL]; lia
  have hlg : lgP lg [] := by unfold lgP; rw [sizeL]; simp [itm]; lia
  have hlg1 : lgP lg [.ref l1] := by unfold lgP; rw [sizeL]; simp [itm]; lia
  have hlg2 : lgP lg [.ref l1, .ref l2] := by unfold lgP; rw [sizeL]; simp [itm]; lia
  simp only [Ph1, slP, List.cons_append, List.nil_append, Ps, stepP]
  refine ⟨?_, ?_, ?_, hz, hlg, ?_, ?_, ?_, ?_, ?_, h3, hz, ht, ?_, ?_, ?_, h3, hz, hlg1, ?_, hlg2, ?_, h⟩ <;> lia
theorem popP_ok {p : List AV} {x : AV} (h : p.length ≤ 100) : Ps (popP p x) := by
  simp only [popP, Ps, and_true]
  refine ⟨?_, ?_, ?_⟩
  · simp [itm]; lia
  · simp only [List.length_cons, List.length_nil]; lia
  · rw [sizeL]; simp [itm]; lia
theorem endP_ok : Ps endP := by
  simp only [endP, Ps, and_true]
  refine ⟨by simp [itm], by simp⟩

theorem FrOk.rst {K : Frag} {p : Program} {loose : List Str} {mean : ExcName → Option Value} {mg mb : Str → Option Value} {fi : FI} {fc : FC} (O : FrOk K p loose mean mg mb fi fc) (r : List (Addr × Obj)) : FrOk K p loose mean mg mb fi { fc with rest := r } :=
  ⟨O.X, O.T, O.hh, O.hk, O.sc, O.gl, O.bl, O.own, O.scr⟩

section
variable {prog : Program} {w : World} {K : Frag} {p : Program} {loose : List Str} {mean : ExcName → Option Value} {mg mb : Str → Option Value}

/-- what is so when a match has failed at a place -/
noncomputable def RunDone (w : World) (fc : FC) (ρ : Nat → Addr) (q : List (Addr × Addr)) (L : List LE) (bound : Int) (Q : Flow → Shared → Prop) (s : Shared) : Prop :=
  ∀ ρ' h' tk rest' lg' vf' steps', (∀ j, j < 23 → ρ' j = ρ (j + 5)) → Rel w.params (fiRun w.params) { fc with rest := rest' } ρ' (mkS0 [] (l2AO vf' steps' lg' [.tup [.num 1, .none]]) [] []) h' → (∃ vf : Vf, vf' = vf.es) →
    LogR w.params rest' lg' L → steps' ≤ bound → (∀ x ∈ fc.rest, (∀ y ∈ q, x.1 ≠ y.2) → x ∈ rest') → Q (.ret (.ref (ρ' 23))) { s with heap := h', toks := tk }
set_option tactic.hygienic true in
theorem loopB (S : Snd prog w K p loose mean mg mb 900 200 (evs (T1 w.params) 200)) {sub : Nm} {b : Int} {Q : Flow → Shared → Prop} (hs : sub.length ≤ 100) (hb : 0 ≤ b ∧ b ≤ 100) : ∀ (q : List (Addr × Addr)) {fc : FC} {ρ : Nat → Addr} {s : Shared} {e : Int} {vf : Vf} {steps : Int} {lg : List AV} {L : List LE} {k : Nat},
    FrOk K p loose mean mg mb (fiRun w.params) fc → Room2 900 200 fc.A →
    Rel w.params (fiRun w.params) fc ρ (mkSt (l1AO sub (pendL q) [] (.num 3) (.int e) (.ref 28) vf.es steps lg [.tup [.none, .int b]]) [] []) s.heap →
    Pend w.params fc.rest (ρ 8) (ρ 28) e q → LogR w.params fc.rest lg L → 0 ≤ e → e + q.length ≤ 100 → steps + 8 * (q.length + 1) ≤ 9999 → lg.length + 3 * (q.length + 1) ≤ 1000 →
    RunDone w fc ρ q (L ++ dueFrom sub b e (q.length + 1)) (steps + 8 * (q.length + 1)) Q s →
    WhlRest prog w fc.A NoE fc.env (whileT (runW w.params)) (whileB (runW w.params)) [] (fun f s' => match f with | .next => wpAny (model prog w) fc.A (execs (runRest w.params) fc.env) Q NoE s' | f => Q f s') k s
  | [], fc, ρ, s, e, vf, steps, lg, L, k, O, B, r, hp, hL, he, heq, hst, hlg, H => by
    have hcl : ∀ (x : Nm) (l : Nat), look x (fiRun w.params).cl = some l → ∀ (ks : List Nat), ks[l]? = some l := fun x l h => by cases h
    simp only [List.length_nil] at heq hst hlg H
    by_cases ht : seg sub e (e2I sub b e) = seg sub b e
    · have hev := fun ρ' => tE1 w.params ρ' sub b e vf steps lg
      have r1 := r.mus (fun _ _ h => h) [0, 0, 0, 0, 1, 0, 0, 0, 0, 0] []
      obtain ⟨st1, P1, e1, hP1, _⟩ := anew (w := w) (fc := fc) (fi := fiRun w.params) (h' := s.heap) (hev ρ) (ph1_ok hb ⟨he, by lia⟩ hs (by lia) (by lia) ht endP_ok) (fun x l h => hcl x l h _)
      refine whEnd_sound S O B e1 hP1 r1 fun ρ' h' tk v X r' q => ?_
      obtain ⟨st2, P2, e2, _, g⟩ := anew (w := w) (fc := fc) (fi := fiRun w.params) (h' := h') (hev ρ') (ph1_ok hb ⟨he, by lia⟩ hs (by lia) (by lia) ht endP_ok) (fun x l h => hcl x l h _)
      rw [e1] at e2
      cases e2
      obtain ⟨f, g1, g2⟩ := g r'
      obtain ⟨v', rfl, rv⟩ := q
      obtain ⟨_, rfl⟩ := rv
      rw [hL.con.ren] at g2
      have e3 := fun j (hj : j < 23) => X.2 (j + 5) (Nat.lt_of_lt_of_eq (by lia : j + 5 < 29) (by kernel_rfl : 29 = _))
      refine H _ h' tk _ _ _ _ (fun j hj => ?_) g2 ⟨_, rfl⟩ ?_ (by lia) (fun x hx _ => List.mem_append_right _ hx)
      · rw [← e3 j hj]
        have : (ksE 57).getD j 0 = j + 5 := by revert j; decide
        show ρ' ((ksE 57).getD j 0) = _
        rw [this]
      · have hd : dueFrom sub b e (0 + 1) = [.W (seg sub b e), .U (seg sub e (e2I sub b e)), .J (e2I sub b e)] := by
          simp [dueFrom, dueAt, ht]
        rw [hd]
        refine (hL.more fun c o l h _ => List.mem_append_right _ h).append ⟨⟨_, rfl, f 30, ?_, g1.rep 0 30 _ rfl rfl⟩, ⟨_, rfl, f 53, ?_, g1.rep 1 53 _ rfl rfl⟩, ⟨_, rfl, f 55, ?_, g1.rep 2 55 _ rfl rfl⟩, trivial⟩ <;> simp
    · have hev := fun ρ' => tE0 w.params ρ' sub b e vf steps lg
      have r1 := r.mus (fun _ _ h => h) [0, 0, 0, 0, 0, 0] []
      obtain ⟨st1, P1, e1, hP1, _⟩ := anew (w := w) (fc := fc) (fi := fiRun w.params) (h' := s.heap) (hev ρ) (ph0_ok hb ⟨he, by lia⟩ hs (by lia) (by lia) ht endP_ok) (fun x l h => hcl x l h _)
      refine whEnd_sound S O B e1 hP1 r1 fun ρ' h' tk v X r' q => ?_
      obtain ⟨st2, P2, e2, _, g⟩ := anew (w := w) (fc := fc) (fi := fiRun w.params) (h' := h') (hev ρ') (ph0_ok hb ⟨he, by lia⟩ hs (by lia) (by lia) ht endP_ok) (fun x l h => hcl x l h _)
      rw [e1] at e2
      cases e2
      obtain ⟨f, g1, g2⟩ := g r'
      obtain ⟨v', rfl, rv⟩ := q
      obtain ⟨_, rfl⟩ := rv
      rw [hL.con.ren] at g2
      have e3 := fun j (hj : j < 23) => X.2 (j + 5) (Nat.lt_of_lt_of_eq (by lia : j + 5 < 29) (by kernel_rfl : 29 = _))
      refine H _ h' tk _ _ _ _ (fun j hj => ?_) g2 ⟨_, rfl⟩ ?_ (by lia) (fun x hx _ => List.mem_append_right _ hx)
      · rw [← e3 j hj]
        have : (ksE 51).getD j 0 = j + 5 := by revert j; decide
        show ρ' ((ksE 51).getD j 0) = _
        rw [this]
      · have hd : dueFrom sub b e (0 + 1) = [.W (seg sub b e)] := by
          simp [dueFrom, dueAt, ht]
        rw [hd]
        refine (hL.more fun c o l h _ => List.mem_append_right _ h).append ⟨⟨_, rfl, f 30, ?_, g1.rep 0 30 _ rfl rfl⟩, trivial⟩; simp
  | x :: q, fc, ρ, s, e, vf, steps, lg, L, k, O, B, r, hp, hL, he, heq, hst, hlg, H => by
    have hcl : ∀ (x : Nm) (l : Nat), look x (fiRun w.params).cl = some l → ksB[l]? = some l := fun x l h => by cases h
    simp only [List.length_cons] at heq hst hlg H
    -- what stands in the rest and is no dictionary stays there
    obtain ⟨o0, ho0, hro0⟩ := hp.dict 0 x rfl
    have apart : ∀ c o, (c, o) ∈ fc.rest → (∀ es n, o.data ≠ .dict es n) → (c, o) ∈ fc.rest.filter fun y => !(Nat.beq y.1 x.2) := fun c o hc hno => dropA_mem.mpr ⟨hc, fun q => by
      have q : c = x.2 := q
      have h1 := r.get? hc
      have h2 := r.get? ho0
      rw [q, h2] at h1
      first | (obtain ⟨rfl, rfl, rfl⟩ := ret_some h1) | cases h1
      obtain ⟨ds, k, e, _⟩ := hro0
      exact hno _ _ (congrArg Obj.data e)⟩
    have tupNo : ∀ o l, RepEO w.params (.tup l) o → ∀ es n, o.data ≠ .dict es n := fun o l hr es n q => by
      obtain ⟨vs, k, e, _⟩ := hr
      have := congrArg Obj.data e
      rw [q] at this; cases this
    have nd := List.nodup_cons.mp hp.nd
    by_cases ht : seg sub e (e2I sub b e) = seg sub b e
    · obtain ⟨ρ1, r1, hρ1⟩ := impB (or := [0, 0, 0, 0, 1, 0, 0, 0, 0, 1]) r hp
      refine run_turn (fc := { fc with rest := fc.rest.filter fun y => !(Nat.beq y.1 x.2) }) S (O.rst _) B (hev := fun ρ' => tB1 w.params ρ' sub (pendL q) b e (e + 1) vf steps lg)
        (fun ρ' _ => ph1_ok hb ⟨he, by lia⟩ hs (by lia) (by lia) ht (popP_ok (by rw [pendL_len]; lia))) hcl r1 fun ρ' h' tk f X g1 g2 => ?_
      have e3 : ∀ j, j < 29 → ρ' j = ρ j := fun j hj => (X.2 j (Nat.lt_of_lt_of_eq (by lia : j < 31) (by kernel_rfl : 31 = _))).trans (hρ1 j hj)
      rw [hL.con.ren, (pendL_con q).ren] at g2
      have hg : ∀ j, 5 ≤ j → j < 29 → ρ' (ksB.getD j 0) = ρ j := fun j h5 hj => by
        have : ∀ j, j < 29 → 5 ≤ j → ksB.getD j 0 = j := by decide
        rw [this j hj h5]; exact e3 j hj
      refine loopB S hs hb q (fc := { fc with rest := [32, 55, 57].map (fun l => (ρ' l, f l)) ++ fc.rest.filter fun y => !(Nat.beq y.1 x.2) }) (s := { s with heap := h', toks := tk }) (L := L ++ [LE.W (seg sub b e), .U (seg sub e (e2I sub b e)), .J (e2I sub b e)]) (O.rst _) B g2 ⟨fun y hy => ?_, fun i y hy => ?_, nd.2⟩ ?_ (by lia) (by lia) (by lia) (by simp; lia) ?_
      · exact List.mem_append_right _ (apart _ _ (hp.inst y (.tail _ hy)) (fun _ _ q => by cases q))
      · obtain ⟨o, ho, hr⟩ := hp.dict (i + 1) y (by simpa using hy)
        refine ⟨o, List.mem_append_right _ (dropA_mem.mpr ⟨ho, fun q => nd.1 (List.mem_map.mpr ⟨y, List.mem_of_getElem? hy, q⟩)⟩), ?_⟩
        show RepEO _ (.dict (wayD (.con (.ref (ρ' (ksB.getD 8 0)))) _ _ _ (.con (.ref (ρ' (ksB.getD 28 0)))) _)) _
        rw [hg 8 (by lia) (by lia), hg 28 (by lia) (by lia)]
        have ee : e + 1 + 1 + (i : Int) = e + 1 + ((i + 1 : Nat) : Int) := by lia
        rw [ee]; exact hr
      · refine (hL.more fun c o l h hr => List.mem_append_right _ (apart c o h (tupNo o l hr))).append (c := [AV.con (.ref (ρ' 32)), .con (.ref (ρ' 55)), .con (.ref (ρ' 57))]) (d := [LE.W (seg sub b e), .U (seg sub e (e2I sub b e)), .J (e2I sub b e)])
          ⟨⟨_, rfl, f 32, ?_, g1.rep 0 32 _ rfl rfl⟩, ⟨_, rfl, f 55, ?_, g1.rep 1 55 _ rfl rfl⟩, ⟨_, rfl, f 57, ?_, g1.rep 2 57 _ rfl rfl⟩, trivial⟩ <;> simp
      · intro ρ2 h2 tk2 rest2 lg2 vf2 steps2 c1 c2 c3 c4 c5 c6
        refine H ρ2 h2 tk2 rest2 lg2 vf2 steps2 (fun j hj => (c1 j hj).trans (hg (j + 5) (by lia) (by lia))) c2 c3 ?_ (by lia) (fun y hy hn => ?_)
        · have hd : dueFrom sub b e (q.length + 1 + 1) = [.W (seg sub b e), .U (seg sub e (e2I sub b e)), .J (e2I sub b e)] ++ dueFrom sub b (e + 1) (q.length + 1) := by
            show dueAt sub b e ++ dueFrom sub b (e + 1) (q.length + 1) = _
            simp [dueAt, ht]
          rw [hd, ← List.append_assoc]; exact c4
        · exact c6 y (List.mem_append_right _ (dropA_mem.mpr ⟨hy, hn x (.head _)⟩)) fun z hz => hn z (.tail _ hz)
    · obtain ⟨ρ1, r1, hρ1⟩ := impB (or := [0, 0, 0, 0, 0, 1]) r hp
      refine run_turn (fc := { fc with rest := fc.rest.filter fun y => !(Nat.beq y.1 x.2) }) S (O.rst _) B (hev := fun ρ' => tB0 w.params ρ' sub (pendL q) b e (e + 1) vf steps lg)
        (fun ρ' _ => ph0_ok hb ⟨he, by lia⟩ hs (by lia) (by lia) ht (popP_ok (by rw [pendL_len]; lia))) hcl r1 fun ρ' h' tk f X g1 g2 => ?_
      have e3 : ∀ j, j < 29 → ρ' j = ρ j := fun j hj => (X.2 j (Nat.lt_of_lt_of_eq (by lia : j < 31) (by kernel_rfl : 31 = _))).trans (hρ1 j hj)
      rw [hL.con.ren, (pendL_con q).ren] at g2
      have hg : ∀ j, 5 ≤ j → j < 29 → ρ' (ksB.getD j 0) = ρ j := fun j h5 hj => by
        have : ∀ j, j < 29 → 5 ≤ j → ksB.getD j 0 = j := by decide
        rw [this j hj h5]; exact e3 j hj
      refine loopB S hs hb q (fc := { fc with rest := [32].map (fun l => (ρ' l, f l)) ++ fc.rest.filter fun y => !(Nat.beq y.1 x.2) }) (s := { s with heap := h', toks := tk }) (L := L ++ [LE.W (seg sub b e)]) (O.rst _) B g2 ⟨fun y hy => ?_, fun i y hy => ?_, nd.2⟩ ?_ (by lia) (by lia) (by lia) (by simp; lia) ?_
      · exact List.mem_append_right _ (apart _ _ (hp.inst y (.tail _ hy)) (fun _ _ q => by cases q))
      · obtain ⟨o, ho, hr⟩ := hp.dict (i + 1) y (by simpa using hy)
        refine ⟨o, List.mem_append_right _ (dropA_mem.mpr ⟨ho, fun q => nd.1 (List.mem_map.mpr ⟨y, List.mem_of_getElem? hy, q⟩)⟩), ?_⟩
        show RepEO _ (.dict (wayD (.con (.ref (ρ' (ksB.getD 8 0)))) _ _ _ (.con (.ref (ρ' (ksB.getD 28 0)))) _)) _
        rw [hg 8 (by lia) (by lia), hg 28 (by lia) (by lia)]
        have ee : e + 1 + 1 + (i : Int) = e + 1 + ((i + 1 : Nat) : Int) := by lia
        rw [ee]; exact hr
      · refine (hL.more fun c o l h hr => List.mem_append_right _ (apart c o h (tupNo o l hr))).append (c := [AV.con (.ref (ρ' 32))]) (d := [LE.W (seg sub b e)])
          ⟨⟨_, rfl, f 32, ?_, g1.rep 0 32 _ rfl rfl⟩, trivial⟩; simp
      · intro ρ2 h2 tk2 rest2 lg2 vf2 steps2 c1 c2 c3 c4 c5 c6
        refine H ρ2 h2 tk2 rest2 lg2 vf2 steps2 (fun j hj => (c1 j hj).trans (hg (j + 5) (by lia) (by lia))) c2 c3 ?_ (by lia) (fun y hy hn => ?_)
        · have hd : dueFrom sub b e (q.length + 1 + 1) = [.W (seg sub b e)] ++ dueFrom sub b (e + 1) (q.length + 1) := by
            show dueAt sub b e ++ dueFrom sub b (e + 1) (q.length + 1) = _
            simp [dueAt, ht]
          rw [hd, ← List.append_assoc]; exact c4
        · exact c6 y (List.mem_append_right _ (dropA_mem.mpr ⟨hy, hn x (.head _)⟩)) fun z hz => hn z (.tail _ hz)
end
end Mine
namespace Mine
open PySem PySem.W PyProof.Rows PySem.Calls PySem.Spec
theorem upI_eq : ∀ (n : Nat) (a : Int), upI a n = a + n
  | 0, a => by simp [upI]
  | n + 1, a => by rw [upI, upI_eq n]; lia
noncomputable def qA (ρ : Nat → Addr) : Nat → Nat → List (Addr × Addr)
  | _, 0 => []
  | l, c + 1 => (ρ (l + 1), ρ l) :: qA ρ (l + 2) c
theorem qA_len (ρ : Nat → Addr) : ∀ c l, (qA ρ l c).length = c
  | 0, _ => rfl
  | c + 1, l => by simp [qA, qA_len ρ c]
theorem hA_eq (ρ : Nat → Addr) : ∀ c l, hA ρ l c = (qA ρ l c).map fun x => AV.con (.ref x.1)
  | 0, _ => rfl
  | c + 1, l => by simp [hA, qA, hA_eq ρ c]
theorem qA_get {ρ : Nat → Addr} {m : Nat} {a : Int} : ∀ {c l j : Nat} {x : Addr × Addr}, (qA ρ l c)[j]? = some x → j < c ∧ x = (ρ (l + 2 * j + 1), ρ (l + 2 * j)) ∧ (xsA l c)[2 * j]? = some (l + 2 * j + 1) ∧ (xsA l c)[2 * j + 1]? = some (l + 2 * j) ∧
    (EA ρ m a l c)[2 * j]? = some (.inst CW (ρ (l + 2 * j))) ∧ (EA ρ m a l c)[2 * j + 1]? = some (.dict (wayD (.con (.ref (ρ 8))) (.num 3) (.int (upI a (c - j))) .none (.con (.ref (ρ m))) .none))
  | 0, l, j, x, h => by simp [qA] at h
  | c + 1, l, 0, x, h => by
    first | (obtain ⟨rfl, rfl, rfl⟩ := ret_some h) | cases h
    exact ⟨Nat.succ_pos _, rfl, rfl, rfl, rfl, rfl⟩
  | c + 1, l, j + 1, x, h => by
    obtain ⟨h1, h2, h3, h4, h5, h6⟩ := qA_get (m := m) (a := a) (c := c) (l := l + 2) (j := j) (x := x) (by simpa [qA] using h)
    have e1 : 2 * (j + 1) = 2 * j + 1 + 1 := by lia
    have e2 : l + 2 + 2 * j = l + (2 * j + 1 + 1) := by lia
    rw [e1]
    rw [e2] at h2 h3 h4 h5
    refine ⟨Nat.succ_lt_succ h1, h2, by simpa [xsA] using h3, by simpa [xsA] using h4, by simpa [EA] using h5, ?_⟩
    rw [Nat.succ_sub_succ]
    simpa [EA] using h6
theorem mem_qA {ρ : Nat → Addr} {c l : Nat} {x : Addr × Addr} (h : x ∈ qA ρ l c) : ∃ j : Nat, (qA ρ l c)[j]? = some x := List.mem_iff_getElem?.mp h
theorem nodup_of_get {α : Type} {l : List α} (h : ∀ (i j : Nat) (a : α), l[i]? = some a → l[j]? = some a → i = j) : l.Nodup := by
  induction l with
  | nil => exact .nil
  | cons x r ih =>
    refine List.nodup_cons.mpr ⟨fun hx => ?_, ih fun i j a hi hj => ?_⟩
    · obtain ⟨k, hk⟩ := List.mem_iff_getElem?.mp hx
      have := h 0 (k + 1) x rfl (by simpa using hk)
      lia
    · have := h (i + 1) (j + 1) a (by simpa using hi) (by simpa using hj)
      lia
theorem tAc {c : Nat} (hc : c ≤ 9) : StA c := by
  match c, hc with
  | 0, _ => exact tA0
  | 1, _ => exact tA1
  | 2, _ => exact tA2
  | 3, _ => exact tA3
  | 4, _ => exact tA4
  | 5, _ => exact tA5
  | 6, _ => exact tA6
  | 7, _ => exact tA7
  | 8, _ => exact tA8
  | 9, _ => exact tA9
theorem lenH_ok : ∀ (c l : Nat), l + c ≤ 9 → Ps (lenH [] l c)
  | 0, _, _ => trivial
  | c + 1, l, h => by
    have hu : ∀ (n a : Nat), (upN a n).length = n := by
      intro n
      induction n with
      | zero => intro a; rfl
      | succ n ih => intro a; simp [upN, ih]
    refine ⟨?_, lenH_ok c (l + 1) (by lia)⟩
    rw [sizeL]
    simp [itm, hu]; lia
theorem phA_ok {sub : Nm} {b steps : Int} {c : Nat} (hb : 0 ≤ b) (hs : sub.length ≤ 10) (hc : b + 1 + c = sub.length) (hst : steps + 3 ≤ 9999) : Ps (PhA sub [] b steps c) := by
  have h1 : Ps (lenH [] 0 c) := lenH_ok c 0 (by lia)
  simp only [PhA, List.cons_append, List.nil_append, Ps]
  refine ⟨?_, ?_, ?_, ?_, ?_, ?_, ?_, ?_, ?_, ?_, h1⟩
  all_goals first | lia | (split <;> lia)

section
variable {prog : Program} {w : World} {K : Frag} {p : Program} {loose : List Str} {mean : ExcName → Option Value} {mg mb : Str → Option Value}
set_option tactic.hygienic true in
theorem runFrom (S : Snd prog w K p loose mean mg mb 900 200 (evs (T1 w.params) 200)) {sub : Nm} {b : Int} {Q : Flow → Shared → Prop} (hs : sub.length ≤ 10) (hb : 0 ≤ b ∧ b ≤ sub.length) {fc : FC} {ρ : Nat → Addr} {s : Shared} {vf : Vf} {steps : Int} {lg : List AV} {L : List LE} {k : Nat}
    (O : FrOk K p loose mean mg mb (fiRun w.params) fc) (B : Room2 900 200 fc.A)
    (r : Rel w.params (fiRun w.params) fc ρ (mkSt (l1AO sub [] [] (.num 0) (.int b) .none vf.es steps lg []) [] []) s.heap)
    (hL : LogR w.params fc.rest lg L) (hst : steps + 100 ≤ 9999) (hlg : lg.length ≤ 900)
    (H : RunDone w fc ρ [] (L ++ dueFrom sub b (b + 1) (sub.length - b.toNat)) (steps + 100) Q s) :
    WhlRest prog w fc.A NoE fc.env (whileT (runW w.params)) (whileB (runW w.params)) [] (fun f s' => match f with | .next => wpAny (model prog w) fc.A (execs (runRest w.params) fc.env) Q NoE s' | f => Q f s') k s := by
  have hcl : ∀ (x : Nm) (l : Nat), look x (fiRun w.params).cl = some l → ∀ (ks : List Nat), ks[l]? = some l := fun x l h => by cases h
  by_cases hz : b = sub.length
  · have hev := fun ρ' => tAf w.params ρ' sub b vf steps lg
    have r1 := r.mus (fun _ _ h => h) [0, 0, 0, 0] []
    have hP : Ps ([stepP (steps + 1), stepP (steps + 1 + 1), sub.length < 2 ^ 62, ¬ b + 1 ≤ (sub.length : Int)] ++ endP) := by
      refine ⟨?_, ?_, ?_, ?_, endP_ok⟩
      · unfold stepP; lia
      · unfold stepP; lia
      · lia
      · lia
    obtain ⟨st1, P1, e1, hP1, _⟩ := anew (w := w) (fc := fc) (fi := fiRun w.params) (h' := s.heap) (hev ρ) hP (fun x l h => hcl x l h _)
    refine whEnd_sound S O B e1 hP1 r1 fun ρ' h' tk v X r' q => ?_
    obtain ⟨st2, P2, e2, _, g⟩ := anew (w := w) (fc := fc) (fi := fiRun w.params) (h' := h') (hev ρ') hP (fun x l h => hcl x l h _)
    rw [e1] at e2
    cases e2
    obtain ⟨f, g1, g2⟩ := g r'
    obtain ⟨v', rfl, rv⟩ := q
    obtain ⟨_, rfl⟩ := rv
    rw [hL.con.ren] at g2
    have e3 := fun j (hj : j < 23) => X.2 (j + 5) (Nat.lt_of_lt_of_eq (by lia : j + 5 < 28) (by kernel_rfl : 28 = _))
    have hd : dueFrom sub b (b + 1) (sub.length - b.toNat) = [] := by
      have : sub.length - b.toNat = 0 := by lia
      rw [this]; rfl
    refine H _ h' tk _ _ _ _ (fun j hj => ?_) g2 ⟨_, rfl⟩ ?_ (by lia) (fun x hx _ => List.mem_append_right _ hx)
    · rw [← e3 j hj]
      have : (ksE 30).getD j 0 = j + 5 := by revert j; decide
      show ρ' ((ksE 30).getD j 0) = _
      rw [this]
    · rw [hd, List.append_nil]
      exact hL.more fun c o l h _ => List.mem_append_right _ h
  · obtain ⟨c, hc⟩ : ∃ c : Nat, b + 1 + c = sub.length := ⟨sub.length - (b.toNat + 1), by lia⟩
    have r1 := r.mus (fun _ _ h => h) [0, 0, 1, 0, c + 1, 0] []
    refine run_turn S O B (hev := fun ρ' => tAc (c := c) (by lia) w.params ρ' sub [] b vf steps lg) (fun ρ' _ => phA_ok hb.1 hs hc (by lia)) (fun x l h => hcl x l h _) r1 fun ρ' h' tk f X g1 g2 => ?_
    have e3 : ∀ j, j < 28 → ρ' j = ρ j := fun j hj => X.2 j (Nat.lt_of_lt_of_eq hj (by kernel_rfl : 28 = _))
    have hks : ∀ j, j < 29 → ks29.getD j 0 = j := by decide
    have hpl : absorb (renL ρ' ks29 []) (hA ρ' 35 c) = pendL (qA ρ' 35 c).reverse := by
      rw [absorb_eq]
      show [] ++ hA ρ' 35 c = _
      rw [List.nil_append, hA_eq]
      unfold pendL
      rw [List.map_reverse, List.reverse_reverse]
    rw [hL.con.ren, hpl] at g2
    have hq : (qA ρ' 35 c).reverse.length = c := by rw [List.length_reverse, qA_len]
    have info := fun (x : Addr × Addr) (hx : x ∈ qA ρ' 35 c) => mem_qA hx
    refine loopB S (by lia) ⟨hb.1, by lia⟩ (qA ρ' 35 c).reverse (fc := { fc with rest := (xsA 35 c).map (fun l => (ρ' l, f l)) ++ fc.rest }) (s := { s with heap := h', toks := tk }) (L := L) (O.rst _) B g2 ⟨fun y hy => ?_, fun i y hy => ?_, ?_⟩ ?_ (by lia) (by rw [hq]; lia) (by rw [hq]; lia) (by rw [hq]; lia) ?_
    · obtain ⟨j, hj⟩ := mem_qA (List.mem_reverse.mp hy)
      obtain ⟨h1, rfl, h3, h4, h5, h6⟩ := qA_get (m := 28) (a := b + 1) hj
      have := g1.rep _ _ _ h3 h5
      refine List.mem_append_left _ (List.mem_map.mpr ⟨_, List.mem_of_getElem? h3, ?_⟩)
      show (ρ' _, f _) = _
      rw [show f _ = _ from this]
    · have hi : i < c := by
        have := (List.getElem?_eq_some_iff.mp hy).1
        rw [hq] at this; exact this
      rw [List.getElem?_reverse (by have := (List.getElem?_eq_some_iff.mp hy).1; simpa using this), qA_len] at hy
      obtain ⟨h1, rfl, h3, h4, h5, h6⟩ := qA_get (m := 28) (a := b + 1) hy
      refine ⟨_, List.mem_append_left _ (List.mem_map.mpr ⟨_, List.mem_of_getElem? h4, rfl⟩), ?_⟩
      have := g1.rep _ _ _ h4 h6
      rw [upI_eq] at this
      have e8 : ks29.getD 8 0 = 8 := hks 8 (by lia)
      have e28 : ks29.getD 28 0 = 28 := hks 28 (by lia)
      show RepEO _ (.dict (wayD (.con (.ref (ρ' (ks29.getD 8 0)))) _ _ _ (.con (.ref (ρ' (ks29.getD 28 0)))) _)) _
      rw [e8, e28]
      have ee : b + 1 + ((c - (c - 1 - i) : Nat) : Int) = b + 1 + 1 + (i : Int) := by lia
      rw [ee] at this
      exact this
    · rw [List.map_reverse]
      refine (List.reverse_perm _).nodup_iff.mpr (nodup_of_get fun i j a hi hj => ?_)
      rw [List.getElem?_map] at hi hj
      cases e1 : (qA ρ' 35 c)[i]? with
      | none => rw [e1] at hi; cases hi
      | some x =>
        cases e2 : (qA ρ' 35 c)[j]? with
        | none => rw [e2] at hj; cases hj
        | some y =>
          rw [e1] at hi; rw [e2] at hj
          obtain ⟨h1, rfl, h3, h4, h5, h6⟩ := qA_get (m := 28) (a := b + 1) e1
          obtain ⟨h1', rfl, h3', h4', h5', h6'⟩ := qA_get (m := 28) (a := b + 1) e2
          first | (obtain ⟨rfl, rfl, rfl⟩ := ret_some hi) | cases hi
          have hj : ρ' (35 + 2 * j) = ρ' (35 + 2 * i) := by simpa using hj
          have := (g1.new _ _ _ h4 h6).2 _ (List.mem_of_getElem? h4') hj.symm
          lia
    · exact hL.more fun c o l h _ => List.mem_append_right _ h
    · intro ρ2 h2 tk2 rest2 lg2 vf2 steps2 c1 c2 c3 c4 c5 c6
      rw [hq] at c4 c5
      refine H ρ2 h2 tk2 rest2 lg2 vf2 steps2 (fun j hj => (c1 j hj).trans ?_) c2 c3 ?_ (by lia) (fun y hy hn => ?_)
      · show ρ' (ks29.getD (j + 5) 0) = _
        rw [hks (j + 5) (by lia)]; exact e3 _ (by lia)
      · have : sub.length - b.toNat = c + 1 := by lia
        rw [this]; exact c4
      · refine c6 y (List.mem_append_right _ hy) fun z hz q => ?_
        obtain ⟨j, hj⟩ := mem_qA (List.mem_reverse.mp hz)
        obtain ⟨h1, rfl, h3, h4, h5, h6⟩ := qA_get (m := 28) (a := b + 1) hj
        exact (g1.new _ _ _ h4 h6).1 y hy q
end
end Mine
namespace Mine
open PySem PySem.W PyProof.Rows PySem.Calls PySem.Spec
noncomputable def cBegin : Nm := [98, 101, 103, 105, 110]
noncomputable def forT : Stmt → Expr
  | .For t _ _ _ _ => t
  | _ => .Name ⟨#[]⟩ default
noncomputable def forI : Stmt → Expr
  | .For _ i _ _ _ => i
  | _ => .Name ⟨#[]⟩ default
noncomputable def forB : Stmt → List Stmt
  | .For _ _ b _ _ => b
  | _ => []
noncomputable def hdS : List Stmt → Stmt
  | s :: _ => s
  | _ => default
noncomputable def tlS : List Stmt → List Stmt
  | _ :: r => r
  | _ => []
noncomputable def asV : Stmt → Expr
  | .Assign _ v _ => v
  | _ => .Name ⟨#[]⟩ default
noncomputable def caF : Expr → Expr
  | .Call f _ _ _ => f
  | _ => .Name ⟨#[]⟩ default
noncomputable def caA : Expr → List Expr
  | .Call _ a _ _ => a
  | _ => []
noncomputable def atO : Expr → Expr
  | .Attribute o _ _ => o
  | _ => .Name ⟨#[]⟩ default
noncomputable def moB (P : Params) : List Stmt := (fnx 544).body
noncomputable def fiMO (P : Params) : FI := ⟨(fnx 544).sc, [], true, none⟩
/-- the value of the first line in the loop of match_orders -/
noncomputable def moV (P : Params) : Expr := asV (hdS (forB (hdS (moB P))))
noncomputable def moMu (b : Int) (sub : Nm) : List (Nm × AV) := [(cOrders, .ref 3), (cSubject, .str sub), (cHost, .ref 0), (cBegin, .int b)]
noncomputable def moSt (vf : Vf) (steps : Int) (lg : List AV) (x left b : Int) (sub : Nm) : St := mkS0 (moMu b sub) (l2AO vf.es steps lg [.riter false x left]) [] []
end Mine
namespace Mine
open PySem PySem.W PyProof.Rows PySem.Calls PySem.Spec
noncomputable def ks0 : List Nat := [25, 24, 26, 28, 27] ++ upN 0 23
noncomputable def moM (sub : Nm) (x left : Int) : List AO := [.riter false x left, .dict [(cSubject, .str sub), (cHost, .ref 0), (cHistory, .ref 26)], .inst CM 24, .list none []]
noncomputable def runB0 (P : Params) : Stmt := hdS (fnx 474).body
theorem mo_obj (P : Params) (sub : Nm) (b x left steps : Int) (lg : List AV) (vf : Vf) :
    (evs (T1 P) 200).e (fiMO P) (atO (caF (moV P))) (moSt vf steps lg x left b sub) = some (.ref 25, mkS0 (moMu b sub) (l2AO vf.es steps lg (moM sub x left)) [] [], []) := by cases vf <;> kernel_rfl
theorem mo_args (P : Params) (sub : Nm) (b x left steps : Int) (lg : List AV) (vf : Vf) :
    argsE (evs (T1 P) 200) (fiMO P) (caA (moV P)) (mkS0 (moMu b sub) (l2AO vf.es steps lg (moM sub x left)) [] []) = some ([.ref 3, .int b], mkS0 (moMu b sub) (l2AO vf.es steps lg (moM sub x left)) [] [], []) := by cases vf <;> kernel_rfl
theorem mo_meth (P : Params) (sub : Nm) (b x left steps : Int) (lg : List AV) (vf : Vf) :
    meth (T1 P) (.ref 25) [114, 117, 110] (mkS0 (moMu b sub) (l2AO vf.es steps lg (moM sub x left)) [] []) = some (.fn 474) := by cases vf <;> kernel_rfl
set_option tactic.hygienic true in
theorem run_start (P : Params) (ρ : Nat → Addr) (sub : Nm) (b x left steps : Int) (lg : List AV) (vf : Vf) :
    outc ρ ks0 [23] [cSelf, cWay] ((evs (T1 P) 200).s (fiRun P) (runB0 P) (mkS0 [(cSelf, .ref 25), (cOrders, .ref 3), (cBegin, .int b)] (l2AO vf.es steps lg (moM sub x left)) [] [])) =
      some (setO 2 (.list none []) (mkSt (l1AO sub [] [] (.num 0) (.int b) .none vf.es steps (renL ρ ks0 lg) []) [] []), [.mu (.riter false x left)], .next, []) := by cases vf <;> kernel_rfl
end Mine
namespace Mine
open PySem PySem.W PyProof.Rows PySem.Calls PySem.Spec
theorem run_body (P : Params) : (fnx 474).body = runB0 P :: runW P :: runRest P := by kernel_rfl

section
variable {prog : Program} {w : World} {K : Frag} {p : Program} {loose : List Str} {mean : ExcName → Option Value} {mg mb : Str → Option Value}
theorem runCall (S : Snd prog w K p loose mean mg mb 900 200 (evs (T1 w.params) 200)) (ok : PTOk3 prog w K p loose mean mg mb (T1 w.params) 900)
    {sub : Nm} {b x left : Int} {Q : Value → Shared → Prop} (hs : sub.length ≤ 10) (hb : 0 ≤ b ∧ b ≤ sub.length) {fc : FC} {ρ : Nat → Addr} {s : Shared} {vf : Vf} {steps : Int} {lg : List AV} {L : List LE}
    (O : FrOk K p loose mean mg mb (fiMO w.params) fc) (B : Room2 900 201 fc.A) (r : Rel w.params (fiMO w.params) fc ρ (moSt vf steps lg x left b sub) s.heap)
    (hL : LogR w.params fc.rest lg L) (hst : steps + 100 ≤ 9999) (hlg : lg.length ≤ 900)
    (H : ∀ ρ' h' tk rest' lg' vf' steps', (∀ j, j < 23 → ρ' j = ρ j) → ρ' 24 = ρ 23 → Rel w.params (fiMO w.params) { fc with rest := rest' } ρ' (mkS0 (moMu b sub) (l2AO (Vf.es vf') steps' lg' [.tup [.num 1, .none], .riter false x left]) [] []) h' →
      LogR w.params rest' lg' (L ++ dueFrom sub b (b + 1) (sub.length - b.toNat)) → steps' ≤ steps + 100 → (∀ y ∈ fc.rest, y ∈ rest') → Q (.ref (ρ' 23)) { s with heap := h', toks := tk }) :
    wpAny (model prog w) fc.A (eval (moV w.params) fc.env) Q NoE s := by
  obtain ⟨o, name, apos, args, pos, e0, h1, h2, h3, h4, h5, h6⟩ : ∃ o name apos args pos, moV w.params = .Call (.Attribute o name apos) args [] pos ∧ plainO o = true ∧ nm name = [114, 117, 110] ∧ Nat.beq apos.endLine pos.line = true ∧ short 20 args = true ∧ atO (caF (moV w.params)) = o ∧ caA (moV w.params) = args := ⟨_, _, _, _, _, rfl, by kernel_rfl, by kernel_rfl, by kernel_rfl, by kernel_rfl, by kernel_rfl, by kernel_rfl⟩
  have hobj := mo_obj w.params sub b x left steps lg vf
  have hargs := mo_args w.params sub b x left steps lg vf
  rw [h5] at hobj
  rw [h6] at hargs
  rw [e0]
  refine ecall_meth S ok h1 h3 h4 hobj trivial (by rw [h2]; exact mo_meth w.params sub b x left steps lg vf) hargs trivial O B.step r fun ρ1 h1' tk1 va cvs X1 r1 rv rvs _ => ?_
  have G : FnRec K 474 (fnx 474) := ok.fns 474 _ (by kernel_rfl)
  have e23 : ∀ j, j < 24 → ρ1 j = ρ j := fun j hj => X1.2 j (Nat.lt_of_lt_of_eq hj (by cases vf <;> kernel_rfl : 24 = _))
  refine call_hand (fc := fc) (s := { s with heap := h1', toks := tk1 }) G (by have := B.1; lia) (vs := [.ref 25, .ref 3, .int b]) (mu := [(cSelf, .ref 25), (cOrders, .ref 3), (cBegin, .int b)]) (by kernel_rfl) O rfl r1 ⟨rv, rvs⟩ fun fc' h2' tk2 d1 d2 d3 O2 r2 => ?_
  have B2 : Room2 900 200 fc'.A := ⟨by rw [d1]; have := B.1; lia, by rw [d2]; have := B.2; lia⟩
  rw [run_body]
  have hcl : ∀ (x : Nm) (l : Nat), look x (fiRun w.params).cl = some l → ∀ (ks : List Nat), ks[l]? = some l := fun x l h => by cases h
  have hev := fun ρ' => run_start w.params ρ' sub b x left steps lg vf
  obtain ⟨st1, P1, e1, hP1, _⟩ := anew (w := w) (fc := fc') (fi := fiRun w.params) (h' := h2') (hev ρ) trivial (fun x l h => hcl x l h _)
  refine wpAny_execs_cons (S.s _ _ _ _ _ _ _ e1 hP1 O2 B2 ρ1 { s with heap := h2', toks := tk2 } _ r2 fun ρ2 h3' tk3 v X2 r3 q => ?_)
  obtain rfl := q
  obtain ⟨st2, P2, e2, _, g⟩ := anew (w := w) (fc := fc') (fi := fiRun w.params) (h' := h3') (hev ρ2) trivial (fun x l h => hcl x l h _)
  rw [e1] at e2
  cases e2
  obtain ⟨f, g1, g2⟩ := g r3
  have e24 : ∀ j, j < 24 → ρ2 j = ρ j := fun j hj => (X2.2 j (Nat.lt_of_lt_of_eq (by lia : j < 27) (by cases vf <;> kernel_rfl : 27 = _))).trans (e23 j hj)
  have g3 := g2.view (l := 2) (p := none) (xs := []) (p' := some []) (xs' := []) (by kernel_rfl) (fun vs h => h)
  obtain ⟨wpos, ew⟩ : (∃ pos, runW w.params = .While (whileT (runW w.params)) (whileB (runW w.params)) [] pos) := ⟨_, rfl⟩
  have hks : ∀ j, j < 23 → ks0.getD (j + 5) 0 = j := by decide
  refine wpAny_execs_cons ?_
  rw [ew]
  refine whl_start 0 (runFrom S hs hb (fc := { fc' with rest := [23].map (fun l => (ρ2 l, f l)) ++ fc'.rest }) (ρ := fun j => ρ2 (ks0.getD j 0)) (s := { s with heap := h3', toks := tk3 }) (vf := vf) (steps := steps) (lg := lg) (L := L) (O2.rst _) B2 (Eq.mp (by rw [hL.con.ren]; cases vf <;> kernel_rfl) g3) ?_ hst hlg ?_)
  · rw [d3]; exact hL.more fun c o l h _ => List.mem_append_right _ h
  · intro ρ3 h4' tk4 rest3 lg3 vf3 steps3 c1 c2 c3 c4 c5 c6
    obtain ⟨vf4, rfl⟩ := c3
    have hrit := g1.rep 0 23 _ rfl rfl
    have hmem : (ρ2 23, f 23) ∈ rest3 := c6 _ (List.mem_append_left _ (.head _)) (fun y hy => nomatch hy)
    have hnew := (g1.neu 0 23 _ rfl rfl).1
    have r5 := c2.impM (rest := rest3.filter fun y => !(Nat.beq y.1 (ρ2 23))) (ao := .riter false x left) hmem (fun y hy => dropA_mem.mp hy) rfl (fun _ q => by cases q) hrit
    have chain : ∀ j, j < 23 → upR ρ3 24 (ρ2 23) j = ρ j := fun j hj => by
      have : j ≠ 24 := by lia
      simp only [upR, this, if_false]
      rw [c1 j hj]
      show ρ2 (ks0.getD (j + 5) 0) = _
      rw [hks j hj]; exact e24 j (by lia)
    refine ⟨upR ρ3 24 (ρ2 23), mkS0 [] (l2AO vf4.es steps3 lg3 [.tup [.num 1, .none], .riter false x left]) [] [], rest3.filter fun y => !(Nat.beq y.1 (ρ2 23)), moMu b sub, Eq.mp (by cases vf4 <;> kernel_rfl) r5, fun y a hy => ⟨a, hy, fun u ru => ?_⟩, (fun y l h => by cases h), fun rb => ?_⟩
    · have hmm := look_mem hy
      simp only [moMu, List.mem_cons, Prod.mk.injEq, List.not_mem_nil, or_false] at hmm
      have n25 : (mkS0 [] (l2AO vf4.es steps3 lg3 [.tup [.num 1, .none], .riter false x left]) [] []).n = 25 := by cases vf4 <;> kernel_rfl
      rcases hmm with ⟨_, rfl⟩ | ⟨_, rfl⟩ | ⟨_, rfl⟩ | ⟨_, rfl⟩
      · refine ⟨by rw [n25]; lia, ?_⟩
        rw [chain 3 (by lia), ← e23 3 (by lia)]; exact ru.2
      · exact ru
      · refine ⟨by rw [n25]; lia, ?_⟩
        rw [chain 0 (by lia), ← e23 0 (by lia)]; exact ru.2
      · exact ru
    · have e5 : ρ3 23 = upR ρ3 24 (ρ2 23) 23 := by simp [upR]
      show Q (.ref (ρ3 23)) _
      rw [e5]
      refine H _ h4' tk4 _ lg3 vf4 steps3 chain (by simp only [upR, if_true]; exact e24 23 (by lia)) rb ?_ c5 (fun y hy => ?_)
      · refine c4.more fun c o l hc hr => dropA_mem.mpr ⟨hc, fun q => ?_⟩
        have q : c = ρ2 23 := q
        have h1 := c2.get? hc
        have h2 := c2.get? hmem
        rw [q, h2] at h1
        first | (obtain ⟨rfl, rfl, rfl⟩ := ret_some h1) | cases h1
        exact mut_apart (P := w.params) (ρ := fun _ => 0) (n := 0) (a := .riter false x left) (b := .tup l) rfl rfl (by intro z; cases z) hrit hr
      · have hy' : y ∈ fc'.rest := by rw [d3]; exact hy
        exact dropA_mem.mpr ⟨c6 y (List.mem_append_right _ hy') (fun z hz => nomatch hz), hnew y hy'⟩
end
end Mine
namespace Mine
open PySem PySem.W PyProof.Rows PySem.Calls PySem.Spec
noncomputable def asT : Stmt → Expr
  | .Assign [t] _ _ => t
  | _ => .Name ⟨#[]⟩ default
noncomputable def moL (P : Params) : List Stmt := forB (hdS (moB P))
noncomputable def moTail (P : Params) (st : St) : Rr AFl := bnd ((evs (T1 P) 200).asg (fiMO P) (asT (hdS (moL P))) (.ref 23) st) fun _ st => (evs (T1 P) 200).ss (fiMO P) (tlS (moL P)) st
noncomputable def moMu0 (sub : Nm) : List (Nm × AV) := [(cOrders, .ref 3), (cSubject, .str sub), (cHost, .ref 0)]
noncomputable def ksM : List Nat := upN 0 23 ++ [24]
set_option tactic.hygienic true in
theorem mo_tail (P : Params) (ρ : Nat → Addr) (sub : Nm) (b x left steps : Int) (lg : List AV) (vf : Vf) :
    outc ρ ksM [] [cOrders, cSubject, cHost] (moTail P (mkS0 (moMu b sub) (l2AO vf.es steps lg [.tup [.num 1, .none], .riter false x left]) [] [])) =
      some (mkS0 (moMu0 sub) (l2AO vf.es steps (renL ρ ksM lg) [.riter false x left]) [] [], [], .next, []) := by cases vf <;> kernel_rfl
theorem mo_body (P : Params) : moL P = hdS (moL P) :: tlS (moL P) := by kernel_rfl
theorem mo_swap (P : Params) : pureOf (swappedStores [asT (hdS (moL P))] (asV (hdS (moL P))) (dumEnv (fiMO P).sc)) = some none := by kernel_rfl
theorem mo_asg (P : Params) (sub : Nm) (x left steps : Int) (lg : List AV) (vf : Vf) :
    (evs (T1 P) 200).asg (fiMO P) (forT (hdS (moB P))) (.int x) (mkS0 (moMu0 sub) (l2AO vf.es steps lg [.riter false (x + 1) (left - 1)]) [] []) = some ((), moSt vf steps lg (x + 1) (left - 1) x sub, []) := by cases vf <;> kernel_rfl
theorem mo_nx1 (sub : Nm) (x left steps : Int) (lg : List AV) (vf : Vf) :
    nxt 23 (mkS0 (moMu0 sub) (l2AO vf.es steps lg [.riter false x left]) [1] []) = some (some (.int x), mkS0 (moMu0 sub) (l2AO vf.es steps lg [.riter false (x + 1) (left - 1)]) [] [], [0 < left]) := by cases vf <;> kernel_rfl
theorem mo_nx0 (sub : Nm) (x left steps : Int) (lg : List AV) (vf : Vf) :
    nxt 23 (mkS0 (moMu0 sub) (l2AO vf.es steps lg [.riter false x left]) [0] []) = some (none, setO 23 .dead (mkS0 (moMu0 sub) (l2AO vf.es steps lg [.riter false x left]) [] []), [¬ 0 < left]) := by cases vf <;> kernel_rfl

section
variable {prog : Program} {w : World} {K : Frag} {p : Program} {loose : List Str} {mean : ExcName → Option Value} {mg mb : Str → Option Value}
/-- all that is due from a place on -/
noncomputable def dueAll (sub : Nm) : Int → Nat → List LE
  | _, 0 => []
  | b, n + 1 => dueFrom sub b (b + 1) (sub.length - b.toNat) ++ dueAll sub (b + 1) n
theorem dueAt_len (sub : Nm) (b e : Int) : (dueAt sub b e).length ≤ 3 := by
  unfold dueAt
  split <;> simp
theorem dueFrom_len (sub : Nm) (b : Int) : ∀ (n : Nat) (e : Int), (dueFrom sub b e n).length ≤ 3 * n
  | 0, _ => Nat.le_refl _
  | n + 1, e => by
    have h1 := dueAt_len sub b e
    have h2 := dueFrom_len sub b n (e + 1)
    simp only [dueFrom, List.length_append]; lia
set_option tactic.hygienic true in
theorem moLoop (S : Snd prog w K p loose mean mg mb 900 200 (evs (T1 w.params) 200)) (ok : PTOk3 prog w K p loose mean mg mb (T1 w.params) 900)
    {sub : Nm} {Q : Flow → Shared → Prop} (hs : sub.length ≤ 10) : ∀ (n : Nat) {x left : Int} {fc : FC} {ρ : Nat → Addr} {s : Shared} {vf : Vf} {steps : Int} {lg : List AV} {L : List LE}, left = n → 0 ≤ x → x + n = sub.length + 1 →
    FrOk K p loose mean mg mb (fiMO w.params) fc → Room2 900 201 fc.A → Rel w.params (fiMO w.params) fc ρ (mkS0 (moMu0 sub) (l2AO vf.es steps lg [.riter false x left]) [] []) s.heap →
    LogR w.params fc.rest lg L → steps + 100 * n ≤ 9999 → L.length + 30 * n ≤ 900 →
    (∀ ρ' h' tk rest' lg' vf' steps', (∀ j, j < 23 → ρ' j = ρ j) → Rel w.params (fiMO w.params) { fc with rest := rest' } ρ' (mkS0 (moMu0 sub) (l2AO (Vf.es vf') steps' lg' []) [] []) h' →
      LogR w.params rest' lg' (L ++ dueAll sub x n) → (∀ y ∈ fc.rest, y ∈ rest') → Q .next { s with heap := h', toks := tk }) →
    codeAny (model prog w) fc.A (.forLoop (forT (hdS (moB w.params))) (.ref (ρ 23)) (moL w.params) [] fc.env) (fun r s' => match r with | .ok f => Q f s' | .error _ => False) s
  | 0, x, left, fc, ρ, s, vf, steps, lg, L, hl, hx, hn, O, B, r, hL, hst, hlg, H => by
    have r1 := r.mus (fun _ _ h => h) [0] []
    refine forTurn_sound (nxt_sound O.hh (mo_nx0 sub x left steps lg vf) ⟨by lia, trivial⟩ r1 fun h' tk o r' ro hi => ?_)
    cases o with
    | some v => exact ro.elim
    | none =>
      refine wpAny_execs_nil ?_
      obtain ⟨st2, P2, e2, _, g⟩ := anew (w := w) (fc := fc) (fi := fiMO w.params) (h' := h') (ρ' := ρ) (ks := upN 0 23) (xs := []) (ns := [cOrders, cSubject, cHost])
        (r := (some ((), setO 23 .dead (mkS0 (moMu0 sub) (l2AO vf.es steps lg [.riter false x left]) [] []), []) : Rr Unit)) (C := mkS0 (moMu0 sub) (l2AO vf.es steps (renL ρ (upN 0 23) lg) []) [] []) (E := []) (a := ()) (Ph := []) (by cases vf <;> kernel_rfl) trivial (fun x l h => by cases h)
      cases e2
      obtain ⟨f, _, g2⟩ := g r'
      rw [hL.con.ren] at g2
      refine H _ h' tk fc.rest lg vf steps (fun j hj => ?_) g2 (by rw [show dueAll sub x 0 = [] from rfl, List.append_nil]; exact hL) (fun y hy => hy)
      have : ∀ j, j < 23 → (upN 0 23).getD j 0 = j := by decide
      show ρ ((upN 0 23).getD j 0) = _
      rw [this j hj]
  | n + 1, x, left, fc, ρ, s, vf, steps, lg, L, hl, hx, hn, O, B, r, hL, hst, hlg, H => by
    have hLlen : lg.length = L.length := All2.length hL
    have r1 := r.mus (fun _ _ h => h) [1] []
    refine forTurn_sound (nxt_sound O.hh (mo_nx1 sub x left steps lg vf) ⟨by lia, trivial⟩ r1 fun h' tk o r' ro hi => ?_)
    cases o with
    | none => exact ro.elim
    | some v =>
      refine owned_no (s := { s with heap := h', toks := tk }) r' (hi (by intro q; cases q)) ?_
      refine S.asg _ _ _ _ _ _ _ (mo_asg w.params sub x left steps lg vf) trivial O B.step ρ { s with heap := h', toks := tk } _ _ r' ro fun ρ1 h1' tk1 _ X1 r2 _ => ?_
      have c1 : ∀ j, j < 24 → ρ1 j = ρ j := fun j hj => X1.2 j (Nat.lt_of_lt_of_eq hj (by cases vf <;> kernel_rfl : 24 = _))
      obtain ⟨es, k, tp, pos, e0, e1, e2⟩ : (∃ es k tp pos, hdS (moL w.params) = .Assign [.Tuple es k tp] (asV (hdS (moL w.params))) pos ∧ asT (hdS (moL w.params)) = .Tuple es k tp ∧ plainV (asV (hdS (moL w.params))) = true) := ⟨_, _, _, _, rfl, rfl, by kernel_rfl⟩
      have hsw := pureOf_some (mo_swap w.params)
      rw [e1, ← O.sc, ← swapped_dum] at hsw
      have ebody := mo_body w.params
      rw [ebody]
      refine wpAny_execs_cons ?_
      rw [e0]
      refine Assign_Tuple ?_ (swapsSole e2) hsw
      show wpAny _ _ (eval (moV w.params) fc.env) _ _ _
      refine runCall S ok hs ⟨hx, by lia⟩ (s := { s with heap := h1', toks := tk1 }) O B r2 hL (by lia) (by lia) fun ρ2 h2' tk2 rest2 lg2 vf2 steps2 d1 d0 d2 d3 d4 d5 => ?_
      obtain ⟨st3, P3, e3, hP3, _⟩ := anew (w := w) (fc := { fc with rest := rest2 }) (fi := fiMO w.params) (h' := h2') (mo_tail w.params ρ2 sub x (x + 1) (left - 1) steps2 lg2 vf2) trivial (fun x l h => by cases h)
      refine bnd_el e3 hP3 fun _ st4 P4 P5 h4 h5 hP4 hP5 => ?_
      rw [e1] at h4
      have n25 : (mkS0 (moMu x sub) (l2AO vf2.es steps2 lg2 [.tup [.num 1, .none], .riter false (x + 1) (left - 1)]) [] []).n = 25 := by cases vf2 <;> kernel_rfl
      refine S.asg _ { fc with rest := rest2 } _ _ _ _ _ h4 hP4 (O.rst _) B.step ρ2 { s with heap := h2', toks := tk2 } _ _ d2 ⟨by rw [n25]; lia, rfl⟩ fun ρ3 h3' tk3 _ X3 r3 _ => ?_
      refine S.ss _ { fc with rest := rest2 } _ _ _ _ _ h5 hP5 (O.rst _) B.step ρ3 { s with heap := h3', toks := tk3 } _ r3 fun ρ4 h4' tk4 v4 X4 r4 q4 => ?_
      obtain rfl := q4
      obtain ⟨st5, P6, e5, _, g⟩ := anew (w := w) (fc := { fc with rest := rest2 }) (fi := fiMO w.params) (h' := h4') (mo_tail w.params ρ4 sub x (x + 1) (left - 1) steps2 lg2 vf2) trivial (fun x l h => by cases h)
      rw [e3] at e5
      cases e5
      obtain ⟨f, _, g2⟩ := g r4
      rw [d3.con.ren] at g2
      have X34 := X3.trans X4
      have hks : ∀ j, j < 23 → ksM.getD j 0 = j := by decide
      have c2 : ∀ j, j < 23 → ρ4 (ksM.getD j 0) = ρ j := fun j hj => by
        rw [hks j hj, X34.2 j (by rw [n25]; lia), d1 j hj, c1 j (by lia)]
      have c23 : ρ4 (ksM.getD 23 0) = ρ 23 := by
        rw [show ksM.getD 23 0 = 24 from by decide, X34.2 24 (by rw [n25]; lia), d0, c1 23 (by lia)]
      have hfl := dueFrom_len sub x (sub.length - x.toNat) (x + 1)
      have ih := moLoop S ok (Q := Q) hs n (x := x + 1) (left := left - 1) (fc := { fc with rest := [].map (fun l => (ρ4 l, f l)) ++ rest2 }) (ρ := fun j => ρ4 (ksM.getD j 0)) (s := { s with heap := h4', toks := tk4 }) (vf := vf2) (steps := steps2) (lg := lg2)
        (L := L ++ dueFrom sub x (x + 1) (sub.length - x.toNat)) (by lia) (by lia) (by lia) (O.rst _) B g2 d3 (by lia) (by rw [List.length_append]; lia) ?_
      · rw [c23, ebody, e0] at ih
        exact ih
      · intro ρ' h' tk rest' lg' vf' steps' k1 k2 k3 k4
        refine H ρ' h' tk rest' lg' vf' steps' (fun j hj => (k1 j hj).trans (c2 j hj)) k2 ?_ (fun y hy => k4 y (d5 y hy))
        rw [show dueAll sub x (n + 1) = dueFrom sub x (x + 1) (sub.length - x.toNat) ++ dueAll sub (x + 1) n from rfl, ← List.append_assoc]
        exact k3
end
end Mine
namespace Mine
open PySem PySem.W PyProof.Rows PySem.Calls PySem.Spec
noncomputable def tCat : Nm := [99, 97, 116]
noncomputable def tNow : Nm := [110, 111, 119]
noncomputable def tDelay : Nm := [100, 101, 108, 97, 121]
noncomputable def tCursor : Nm := [99, 117, 114, 115, 111, 114]
noncomputable def cNode : Nm := [110, 111, 100, 101]
noncomputable def cAnch : Nm := [105, 115, 95, 97, 110, 99, 104, 111, 114, 101, 100]
/-- the host and the pattern before it is compiled -/
noncomputable def l3AO : List AO :=
  [.inst CH 1, .dict [(cValues, .ref 2), (cLimit, .num 9999), (cRefused, .ref 4), (cWidth, .num 64), (cSteps, .num 0), (cLog, .ref 3)], .tab [], .list none [], .list none []] ++ refsAO 5 keys1 ++
  [.tup [.txt tLen, .num 1], .tup [.txt tArb], .tup [.txt tCat, .ref 11, .ref 12], .tup [.txt tNow, .ref 13, .ref 5], .tup [.txt tName, .txt kW], .tup [.txt tDelay, .ref 15], .tup [.txt tNow, .ref 16, .ref 7],
   .tup [.txt tCursor, .ref 9], .tup [.txt tFail], .tup [.txt tCat, .ref 18, .ref 19], .tup [.txt tCat, .ref 17, .ref 20], .tup [.txt tCat, .ref 14, .ref 21]]
noncomputable def mcMu (sub : Nm) : List (Nm × AV) := [(cNode, .ref 22), (cSubject, .str sub), (cAnch, .bool false), (cHost, .ref 0)]
noncomputable def rtE : Stmt → Expr
  | .Return (some e) _ => e
  | _ => .Name ⟨#[]⟩ default
noncomputable def mcE (P : Params) : Expr := rtE (hdS (fnx 551).body)
noncomputable def fiMC (P : Params) : FI := ⟨(fnx 551).sc, [], true, none⟩
noncomputable def mcArgs (P : Params) (sub : Nm) : Rr (List AV) := argsE (evs (T1 P) 200) (fiMC P) (caA (mcE P)) (mkS0 (mcMu sub) l3AO [] [])
noncomputable def rrSt {α : Type} : Rr α → St
  | some (_, st, _) => st
  | none => { mu := [], sg := .nil, n := 0, or := [], ov := [] }
end Mine
namespace Mine
open PySem PySem.W PyProof.Rows PySem.Calls PySem.Spec
noncomputable def moMuE (sub : Nm) : List (Nm × AV) := [(cOrders, .ref 82), (cSubject, .str sub), (cAnch, .bool false), (cHost, .ref 0)]
noncomputable def moStart (P : Params) (st : St) : Rr AV := bnd ((evs (T1 P) 200).e (fiMO P) (forI (hdS (moB P))) st) fun a st => match a with
  | .ref l => mkIt l st
  | _ => none
noncomputable def ksS : List Nat := [0, 1, 2, 82, 3, 4, 5, 6, 7, 8, 9, 10, 43, 60, 63, 45, 66, 72, 68, 75, 78, 81, 15, 95]
noncomputable def hd0 : AO := .dict [(cValues, .ref 2), (cLimit, .num 9999), (cRefused, .ref 5), (cWidth, .num 64), (cSteps, .num 0), (cLog, .ref 4)]
theorem mc_args (P : Params) (sub : Nm) : mcArgs P sub = some ([.ref 82, .str sub, .bool false, .ref 0], rrSt (mcArgs P sub), []) := by kernel_rfl
theorem mo_start (P : Params) (ρ : Nat → Addr) (sub : Nm) :
    outc ρ ksS [] [cOrders, cSubject, cHost] (moStart P { rrSt (mcArgs P sub) with mu := moMuE sub }) =
      some (setO 1 hd0 (setO 4 (.list none []) (mkS0 (moMu0 sub) (l2AO [] 0 [] [.riter false 0 (if (0 : Int) < (List.length sub : Int) + 1 then (List.length sub : Int) + 1 - 0 else 0)]) [] [])), [], .ref 95,
        [List.length sub < 2 ^ 62, -(2 ^ 62) ≤ (List.length sub : Int) + 1 ∧ (List.length sub : Int) + 1 < 2 ^ 62]) := by kernel_rfl
end Mine
namespace Mine
open PySem PySem.W PyProof.Rows PySem.Calls PySem.Spec
noncomputable def caX : Expr → Nm
  | .Name x _ => nm x
  | _ => []
theorem mo_ret (P : Params) (sub : Nm) (vf : Vf) (steps : Int) (lg : List AV) :
    (evs (T1 P) 200).ss (fiMO P) (tlS (moB P)) (mkS0 (moMu0 sub) (l2AO vf.es steps lg []) [] []) = some (.ret .none, mkS0 (moMu0 sub) (l2AO vf.es steps lg []) [] [], []) := by cases vf <;> kernel_rfl
theorem moB_eq (P : Params) : moB P = hdS (moB P) :: tlS (moB P) := by kernel_rfl

section
variable {prog : Program} {w : World} {K : Frag} {p : Program} {loose : List Str} {mean : ExcName → Option Value} {mg mb : Str → Option Value}
set_option tactic.hygienic true in
/-- the body of match_orders, from the state after compilation on -/
theorem moBody (S : Snd prog w K p loose mean mg mb 900 200 (evs (T1 w.params) 200)) (ok : PTOk3 prog w K p loose mean mg mb (T1 w.params) 900)
    {sub : Nm} (hs : sub.length ≤ 10) {fc : FC} {ρ : Nat → Addr} {s : Shared} {Q : Flow → Shared → Prop} (O : FrOk K p loose mean mg mb (fiMO w.params) fc) (B : Room2 900 201 fc.A)
    (r : Rel w.params (fiMO w.params) fc ρ { rrSt (mcArgs w.params sub) with mu := moMuE sub } s.heap)
    (H : ∀ ρ' h' tk rest' lg' vf' steps', ρ' 0 = ρ 0 → Rel w.params (fiMO w.params) { fc with rest := rest' } ρ' (mkS0 (moMu0 sub) (l2AO (Vf.es vf') steps' lg' []) [] []) h' →
      LogR w.params rest' lg' (dueAll sub 0 (sub.length + 1)) → (∀ y ∈ fc.rest, y ∈ rest') → Q (.ret .none) { s with heap := h', toks := tk }) :
    wpAny (model prog w) fc.A (execs (moB w.params) fc.env) Q NoE s := by
  obtain ⟨pos, e0, e1⟩ : (∃ pos, hdS (moB w.params) = .For (forT (hdS (moB w.params))) (forI (hdS (moB w.params))) (forB (hdS (moB w.params))) [] pos ∧ plainIt (forI (hdS (moB w.params))) = true) := ⟨_, rfl, by kernel_rfl⟩
  have hP : Ps [List.length sub < 2 ^ 62, -(2 ^ 62) ≤ (List.length sub : Int) + 1 ∧ (List.length sub : Int) + 1 < 2 ^ 62] := ⟨by lia, by lia, trivial⟩
  have hcl : ∀ (x : Nm) (l : Nat), look x (fiMO w.params).cl = some l → ∀ (ks : List Nat), ks[l]? = some l := fun x l h => by cases h
  obtain ⟨stF, PF, e3, hPF, _⟩ := anew (w := w) (fc := fc) (fi := fiMO w.params) (h' := s.heap) (mo_start w.params ρ sub) hP (fun x l h => hcl x l h _)
  refine bnd_el e3 hPF fun a st1 P1 P2 h1 h2 hP1 hP2 => ?_
  obtain ⟨l, rfl⟩ : ∃ l, a = .ref l := by cases a <;> first | exact ⟨_, rfl⟩ | cases h2
  rw [moB_eq]
  refine wpAny_execs_cons ?_
  rw [e0]
  refine wpAny_For (S.e _ _ _ _ _ _ _ h1 hP1 O B.step ρ s _ r fun ρ1 h1' tk1 v X1 r1 q => ?_) (plain_folds e1 fc.env)
  obtain ⟨hl1, rfl⟩ := q
  refine mkIt_sound (s := { s with heap := h1', toks := tk1 }) h2 r1 hl1 fun ρ2 h2' tk2 v2 X2 r2 q2 => ?_
  obtain ⟨_, rfl⟩ := q2
  obtain ⟨st5, P6, e5, _, g⟩ := anew (w := w) (fc := fc) (fi := fiMO w.params) (h' := h2') (mo_start w.params ρ2 sub) hP (fun x l h => hcl x l h _)
  rw [e3] at e5
  cases e5
  obtain ⟨f, _, g2⟩ := g r2
  have X12 := X1.trans X2
  have g3 := (g2.conv (l := 1) (a' := .dict [(cValues, .ref 2), (cLimit, .num 9999), (cRefused, .ref 5), (cWidth, .num 64), (cSteps, .int 0), (cLog, .ref 4)]) (a := hd0) (by kernel_rfl) rfl (fun es q => by cases q) (fun o h => by
    obtain ⟨ds, k, e, h⟩ := h
    refine ⟨_, k, e, All2.map2 ?_ h⟩
    exact ⟨fun _ q => q, fun _ q => q, fun _ q => q, fun _ q => q, fun _ q => q, fun _ q => q, trivial⟩)).conv
    (l := 4) (a := .list none []) (a' := .list (some []) []) (by kernel_rfl) rfl (fun es q => by cases q) (fun o h => h)
  have loop := moLoop S ok hs (sub.length + 1) (x := 0) (left := if (0 : Int) < (List.length sub : Int) + 1 then (List.length sub : Int) + 1 - 0 else 0) (fc := { fc with rest := [].map (fun l => (ρ2 l, f l)) ++ fc.rest }) (ρ := fun j => ρ2 (ksS.getD j 0)) (s := { s with heap := h2', toks := tk2 })
    (vf := .e0) (steps := 0) (lg := []) (L := []) (Q := fun f s' => match f with | .next => wpAny (model prog w) fc.A (execs (tlS (moB w.params)) fc.env) Q NoE s' | f => Q f s') (by split <;> lia) (by lia) (by lia) (O.rst _) B (Eq.mp (by kernel_rfl) g3) trivial (by lia) (by simp; lia) ?_
  · have e95 : (fun j => ρ2 (ksS.getD j 0)) 23 = ρ2 95 := rfl
    have loop : codeAny (model prog w) fc.A (.forLoop (forT (hdS (moB w.params))) (.ref (ρ2 95)) (moL w.params) [] fc.env) _ _ := loop
    refine codeAny_mono loop fun r s' hr => ?_
    cases r with
    | ok f => exact hr
    | error e => exact hr.elim
  · intro ρ' h' tk rest' lg' vf' steps' k1 k2 k3 k4
    refine S.ss _ { fc with rest := rest' } _ _ _ _ _ (mo_ret w.params sub vf' steps' lg') trivial (O.rst _) B.step ρ' { s with heap := h', toks := tk } _ k2 fun ρ3 h3' tk3 v X3 r3 q3 => ?_
    obtain ⟨u, rfl, ru⟩ := q3
    obtain rfl := ru
    have n23 : (mkS0 (moMu0 sub) (l2AO (Vf.es vf') steps' lg' []) [] []).n = 23 := by cases vf' <;> kernel_rfl
    refine H ρ3 h3' tk3 rest' lg' vf' steps' ?_ r3 (by simpa using k3) k4
    rw [X3.2 0 (by rw [n23]; lia)]
    rw [k1 0 (by lia)]
    exact X12.2 0 (Nat.lt_of_lt_of_eq (by lia : 0 < 94) (by kernel_rfl : 94 = _))
end
end Mine
namespace Mine
open PySem PySem.W PyProof.Rows PySem.Calls PySem.Spec
section
variable {prog : Program} {w : World} {K : Frag} {p : Program} {loose : List Str} {mean : ExcName → Option Value} {mg mb : Str → Option Value}
/-- match_compiled at the pattern of the law -/
theorem matchCall (S : Snd prog w K p loose mean mg mb 900 200 (evs (T1 w.params) 200)) (ok : PTOk3 prog w K p loose mean mg mb (T1 w.params) 900)
    {sub : Nm} (hs : sub.length ≤ 10) {fi : FI} (hcl0 : fi.cl = []) (own : fi.own = true) {fc : FC} {ρ : Nat → Addr} {s : Shared} {mu mu' : List (Nm × AV)} {cvs : List Value} {Q : Value → Shared → Prop}
    (O : FrOk K p loose mean mg mb fi fc) (B : Room2 900 210 fc.A) (r : Rel w.params fi fc ρ (mkS0 mu l3AO [] []) s.heap) (rv : All2 (RepV ρ 23) [.ref 22, .str sub, .bool false, .ref 0] cvs)
    (hmu : ∀ x a, look x mu' = some a → look x mu = some a ∧ (a = .ref 0 ∨ ∀ l, a ≠ .ref l))
    (H : ∀ ρ' h' tk rest' lg' vf' steps', ρ' 0 = ρ 0 → Rel w.params fi { fc with rest := rest' } ρ' (mkS0 mu' (l2AO (Vf.es vf') steps' lg' []) [] []) h' →
      LogR w.params rest' lg' (dueAll sub 0 (sub.length + 1)) → (∀ y ∈ fc.rest, y ∈ rest') → Q .none { s with heap := h', toks := tk }) :
    wpAny (model prog w) fc.A (call (Fn.fn 551).val cvs) Q NoE s := by
  have G : FnRec K 551 (fnx 551) := ok.fns 551 _ (by kernel_rfl)
  have G2 : FnRec K 544 (fnx 544) := ok.fns 544 _ (by kernel_rfl)
  refine call_hand G (by have := B.1; lia) (mu := mcMu sub) (by kernel_rfl) O own r rv fun fc1 h1 tk1 d1 d2 d3 O1 r1 => ?_
  obtain ⟨pos, eb⟩ : (∃ pos, (fnx 551).body = [.Return (some (rtE (hdS ((fnx 551).body)))) pos]) := ⟨_, rfl⟩
  rw [eb]
  refine wpAny_execs_cons (wpAny_Return_some ?_)
  obtain ⟨x, xp, pos2, e0, e1⟩ : (∃ x xp pos, mcE w.params = .Call (.Name x xp) (caA (mcE w.params)) [] pos ∧ caX (caF (mcE w.params)) = nm x) := ⟨_, _, _, rfl, by kernel_rfl⟩
  show wpAny _ _ (eval (mcE w.params) fc1.env) _ _ _
  rw [e0]
  have hl : loadF (T1 w.params) (fiMC w.params) (nm x) = some (.fn 544) := by rw [← e1]; kernel_rfl
  have B1 : Room2 900 205 fc1.A := ⟨by rw [d1]; have := B.1; lia, by rw [d2]; have := B.2; lia⟩
  have B1' : Room2 900 200 fc1.A := ⟨by have := B1.1; lia, by have := B1.2; lia⟩
  refine ecall_fn (fi := fiMC w.params) (fc := fc1) (ρ := ρ) (s := { s with heap := h1, toks := tk1 }) S ok hl (mc_args w.params sub) trivial O1 B1' r1 fun ρ2 h2 tk2 cvs2 X2 r2 rv2 => ?_
  refine call_hand (fi := fiMC w.params) (fc := fc1) (s := { s with heap := h2, toks := tk2 }) G2 (by have := B1.1; lia) (mu := moMuE sub) (by kernel_rfl) O1 rfl r2 rv2 fun fc2 h3 tk3 k1 k2 k3 O2 r3 => ?_
  have B2 : Room2 900 201 fc2.A := ⟨by rw [k1]; have := B1.1; lia, by rw [k2]; have := B1.2; lia⟩
  refine moBody S ok hs (fc := fc2) (ρ := ρ2) (s := { s with heap := h3, toks := tk3 }) O2 B2 r3 fun ρ3 h4 tk4 rest3 lg3 vf3 steps3 c0 c1 c2 c3 => ?_
  have n23 : (mkS0 (moMu0 sub) (l2AO (Vf.es vf3) steps3 lg3 []) [] []).n = 23 := by cases vf3 <;> kernel_rfl
  have e00 : ρ3 0 = ρ 0 := c0.trans (X2.2 0 (Nat.lt_of_lt_of_eq (by lia : 0 < 23) (by kernel_rfl : 23 = _)))
  refine ⟨ρ3, mkS0 (moMu0 sub) (l2AO (Vf.es vf3) steps3 lg3 []) [] [], rest3, [], c1, (fun x a h => by cases h), (fun x l h => by cases h), fun rb => ?_⟩
  refine ⟨ρ3, mkS0 [] (l2AO (Vf.es vf3) steps3 lg3 []) [] [], rest3, mu', rb, fun y a hy => ?_, (fun x l h => by rw [hcl0] at h; cases h), fun rc => ?_⟩
  · obtain ⟨h5, h6⟩ := hmu y a hy
    refine ⟨a, h5, fun u ru => ?_⟩
    rcases h6 with rfl | h6
    · refine ⟨Nat.lt_of_lt_of_eq (by lia : 0 < 23) (by cases vf3 <;> kernel_rfl : 23 = _), ?_⟩
      rw [e00]; exact ru.2
    · cases a with
      | ref l => exact absurd rfl (h6 l)
      | _ => exact ru
  · exact H ρ3 h4 tk4 rest3 lg3 vf3 steps3 e00 rc c2 fun y hy => c3 y (by rw [k3, d3]; exact hy)
end
end Mine
namespace Mine
open PySem PySem.W PyProof.Rows PySem.Calls PySem.Spec
section
variable {prog : Program} {w : World} {K : Frag} {p : Program} {loose : List Str} {mean : ExcName → Option Value} {mg mb : Str → Option Value}
theorem ok1 (h : Sound1 K) : PTOk3 prog w K p loose mean mg mb (T1 w.params) 900 :=
  { ptT_ok w.params (fun _ => none) h with
    fns := fnsT_ok w.params h
    ext := fun a k h => by cases h
    big := Nat.le_refl _ }
theorem S1 (h : Sound1 K) (n : Nat) : Snd prog w K p loose mean mg mb 900 n (evs (T1 w.params) n) := snd_evs (ok1 h) n
end
end Mine
namespace Mine
open PySem PySem.W PyProof.Rows PySem.Calls PySem.Spec
noncomputable def cScript : Nm := [115, 99, 114, 105, 112, 116]
noncomputable def cCells : Nm := [99, 101, 108, 108, 115]
noncomputable def cWide : Nm := [119, 105, 100, 101]
noncomputable def cMet : Nm := [109, 101, 116]
noncomputable def cPlace : Nm := [112, 108, 97, 99, 101]
noncomputable def cWord : Nm := [119, 111, 114, 100]
noncomputable def lawB (P : Params) : List Stmt := (fnx 598).body
noncomputable def lawSc (P : Params) : Scope := (fnx 598).sc
noncomputable def clL : List (Nm × Nat) := [(cCells, 0), (cWide, 1), (cMet, 2), (cPlace, 3)]
noncomputable def fiL (P : Params) (cl : List (Nm × Nat)) (scr : Option (Nat × List AV)) : FI := ⟨lawSc P, cl, true, scr⟩
noncomputable def stL0 (a : Nat) : St := mkS0 [(cScript, .con (.ref a))] [.cell none, .cell none, .cell none, .cell none] [] []
noncomputable def absI (x : Int) : Int := if x < 0 then -x else x
noncomputable def lawA (P : Params) (cl : List (Nm × Nat)) (scr : Option (Nat × List AV)) (b : List Stmt) (st : St) : Rr AFl := (evs (T1 P) 200).ss (fiL P cl scr) b st
noncomputable def takeS : Nat → List Stmt → List Stmt
  | 0, _ => []
  | _, [] => []
  | n + 1, s :: r => s :: takeS n r
noncomputable def dropS : Nat → List Stmt → List Stmt
  | 0, l => l
  | _, [] => []
  | n + 1, _ :: r => dropS n r
end Mine
namespace Mine
open PySem PySem.W PyProof.Rows PySem.Calls PySem.Spec
noncomputable def lwO (v0 : Value) (w : Int) (due tw : List AV) (more : List AO) : List AO := [.cell (some (.con v0)), .cell (some (.int w)), .cell none, .cell none, .list (some due) [], .list (some tw) []] ++ more
noncomputable def cSize : Nm := [115, 105, 122, 101]
noncomputable def cDue : Nm := [100, 117, 101]
noncomputable def cTwice : Nm := [116, 119, 105, 99, 101]
noncomputable def lwMu (sub : Nm) (more : List (Nm × AV)) : List (Nm × AV) := [(cWord, .str sub), (cSize, .int (sub.length : Int)), (cDue, .ref 4), (cTwice, .ref 5)] ++ more
noncomputable def lwSt (v0 : Value) (w : Int) (sub : Nm) (due tw : List AV) (mu : List (Nm × AV)) (more : List AO) (or : List Nat) : St := mkS0 (lwMu sub mu) (lwO v0 w due tw more) or []
noncomputable def outF (P : Params) : Stmt := hdS (dropS 5 (lawB P))
noncomputable def inF (P : Params) : Stmt := hdS (forB (outF P))
noncomputable def fiA (P : Params) : FI := fiL P clL none
noncomputable def evA (P : Params) : Evs := evs (T1 P) 200
noncomputable def nsL : List Nm := [cWord, cSize, cDue, cTwice]
/-- the outer loop -/
theorem o_start (P : Params) (ρ : Nat → Addr) (v0 : Value) (w : Int) (sub : Nm) (due tw : List AV) :
    outc ρ [0, 1, 2, 3, 4, 5, 7] [] nsL (startFr (evA P) (fiA P) (forI (outF P)) (lwSt v0 w sub due tw [] [] [])) =
      some (lwSt v0 w sub (renL ρ [0, 1, 2, 3, 4, 5, 7] due) (renL ρ [0, 1, 2, 3, 4, 5, 7] tw) [] [.riter false 0 (if (0 : Int) < (sub.length : Int) then (sub.length : Int) - 0 else 0)] [], [], .ref 7, [-(2 ^ 62) ≤ (sub.length : Int) ∧ (sub.length : Int) < 2 ^ 62]) := by kernel_rfl
theorem o_turn (P : Params) (ρ : Nat → Addr) (v0 : Value) (w x left : Int) (sub : Nm) (due tw : List AV) :
    outc ρ [0, 1, 2, 3, 4, 5, 6] [] (nsL ++ [cBegin]) (turnA (evA P) (fiA P) (forT (outF P)) 6 (lwSt v0 w sub due tw [] [.riter false x left] [1])) =
      some (lwSt v0 w sub (renL ρ [0, 1, 2, 3, 4, 5, 6] due) (renL ρ [0, 1, 2, 3, 4, 5, 6] tw) [(cBegin, .int x)] [.riter false (x + 1) (left - 1)] [], [], true, [0 < left]) := by kernel_rfl
theorem o_end (P : Params) (ρ : Nat → Addr) (v0 : Value) (w x left : Int) (sub : Nm) (due tw : List AV) :
    outc ρ [0, 1, 2, 3, 4, 5] [] nsL (turnFr (evA P) (fiA P) (forT (outF P)) 6 (forB (outF P)) (lwSt v0 w sub due tw [] [.riter false x left] [0])) =
      some (lwSt v0 w sub (renL ρ [0, 1, 2, 3, 4, 5] due) (renL ρ [0, 1, 2, 3, 4, 5] tw) [] [] [], [], none, [¬ 0 < left]) := by kernel_rfl
/-- the inner loop -/
theorem i_start (P : Params) (ρ : Nat → Addr) (v0 : Value) (w x left b : Int) (sub : Nm) (due tw : List AV) :
    outc ρ [0, 1, 2, 3, 4, 5, 6, 8] [] (nsL ++ [cBegin]) (startFr (evA P) (fiA P) (forI (inF P)) (lwSt v0 w sub due tw [(cBegin, .int b)] [.riter false x left] [])) =
      some (lwSt v0 w sub (renL ρ [0, 1, 2, 3, 4, 5, 6, 8] due) (renL ρ [0, 1, 2, 3, 4, 5, 6, 8] tw) [(cBegin, .int b)] [.riter false x left, .riter false (b + 1) (if b + 1 < (sub.length : Int) + 1 then (sub.length : Int) + 1 - (b + 1) else 0)] [], [], .ref 8,
        [-(2 ^ 62) ≤ b + 1 ∧ b + 1 < 2 ^ 62, -(2 ^ 62) ≤ (sub.length : Int) + 1 ∧ (sub.length : Int) + 1 < 2 ^ 62]) := by kernel_rfl
noncomputable def ksI : List Nat := [0, 1, 2, 3, 4, 5, 6, 7]
noncomputable def ksY : List Nat := [0, 1, 2, 3, 13, 5, 6, 7]
noncomputable def okN (i : Int) : Prop := 0 ≤ i ∧ i < 2 ^ 62
noncomputable def inSt (v0 : Value) (w x left b e l2 : Int) (sub : Nm) (due tw : List AV) (or : List Nat) : St := lwSt v0 w sub due tw [(cBegin, .int b)] [.riter false x left, .riter false e l2] or
noncomputable def turnI (P : Params) (st : St) : Rr (Option AFl) := turnFr (evA P) (fiA P) (forT (inF P)) 7 (forB (inF P)) st
set_option tactic.hygienic true in
theorem i_y (P : Params) (ρ : Nat → Addr) (v0 : Value) (w x left b e l2 : Int) (sub : Nm) (due tw : List AV) :
    outc ρ ksY [9, 10, 11, 14] (nsL ++ [cBegin]) (turnI P (inSt v0 w x left b e l2 sub due tw [1, 1, 1])) =
      some (inSt v0 w x left b (e + 1) (l2 - 1) sub (renL ρ ksY due ++ [.con (.ref (ρ 9)), .con (.ref (ρ 10)), .con (.ref (ρ 11))]) (renL ρ ksY tw ++ [.con (.ref (ρ 14))]) [],
        [.tup [.txt kW, .str (seg sub b e)], .tup [.txt kU, .str (seg sub b e)], .tup [.txt kJ, .int (2 * e - b)], .tup [.int (2 * e - b), .str (seg sub b e)]], some .next,
        [0 < l2, okN b, okN e, sub.length ≤ sizeLine, IntMulOk 2 e, lgP due [], 2 * e - b ≤ (sub.length : Int), okN e, okN (2 * e - b), sub.length ≤ sizeLine, seg sub e (2 * e - b) = seg sub b e,
          (itm (some due) ([] ++ [AV.ref 9])).length + (itm none [AV.ref 10, AV.ref 11]).length ≤ sizeLine, lgP tw []]) := by kernel_rfl
set_option tactic.hygienic true in
theorem i_n1 (P : Params) (ρ : Nat → Addr) (v0 : Value) (w x left b e l2 : Int) (sub : Nm) (due tw : List AV) :
    outc ρ ksI [9] (nsL ++ [cBegin]) (turnI P (inSt v0 w x left b e l2 sub due tw [1, 0])) =
      some (inSt v0 w x left b (e + 1) (l2 - 1) sub (renL ρ ksI due ++ [.con (.ref (ρ 9))]) (renL ρ ksI tw) [], [.tup [.txt kW, .str (seg sub b e)]], some .next,
        [0 < l2, okN b, okN e, sub.length ≤ sizeLine, IntMulOk 2 e, lgP due [], ¬ 2 * e - b ≤ (sub.length : Int)]) := by kernel_rfl
set_option tactic.hygienic true in
theorem i_n2 (P : Params) (ρ : Nat → Addr) (v0 : Value) (w x left b e l2 : Int) (sub : Nm) (due tw : List AV) :
    outc ρ ksI [9] (nsL ++ [cBegin]) (turnI P (inSt v0 w x left b e l2 sub due tw [1, 1, 0])) =
      some (inSt v0 w x left b (e + 1) (l2 - 1) sub (renL ρ ksI due ++ [.con (.ref (ρ 9))]) (renL ρ ksI tw) [], [.tup [.txt kW, .str (seg sub b e)]], some .next,
        [0 < l2, okN b, okN e, sub.length ≤ sizeLine, IntMulOk 2 e, lgP due [], 2 * e - b ≤ (sub.length : Int), okN e, okN (2 * e - b), sub.length ≤ sizeLine, ¬ seg sub e (2 * e - b) = seg sub b e]) := by kernel_rfl
theorem i_end (P : Params) (ρ : Nat → Addr) (v0 : Value) (w x left b e l2 : Int) (sub : Nm) (due tw : List AV) :
    outc ρ [0, 1, 2, 3, 4, 5, 6] [] nsL (turnI P (inSt v0 w x left b e l2 sub due tw [0])) =
      some (lwSt v0 w sub (renL ρ [0, 1, 2, 3, 4, 5, 6] due) (renL ρ [0, 1, 2, 3, 4, 5, 6] tw) [] [.riter false x left] [], [], none, [¬ 0 < l2]) := by kernel_rfl
end Mine
namespace Mine
open PySem PySem.W PyProof.Rows PySem.Calls PySem.Spec
noncomputable abbrev condL (sub : Nm) (b e : Int) : Prop := 2 * e - b ≤ (sub.length : Int) ∧ seg sub e (2 * e - b) = seg sub b e
noncomputable def dueAtL (sub : Nm) (b e : Int) : List LE := .W (seg sub b e) :: (if condL sub b e then [.U (seg sub b e), .J (2 * e - b)] else [])
noncomputable def dueFromL (sub : Nm) (b : Int) : Int → Nat → List LE
  | _, 0 => []
  | e, n + 1 => dueAtL sub b e ++ dueFromL sub b (e + 1) n
noncomputable def dueAllL (sub : Nm) : Int → Nat → List LE
  | _, 0 => []
  | b, n + 1 => dueFromL sub b (b + 1) (sub.length - b.toNat) ++ dueAllL sub (b + 1) n
noncomputable def twAt (sub : Nm) (b e : Int) : List (Int × Nm) := if condL sub b e then [(2 * e - b, seg sub b e)] else []
noncomputable def twFrom (sub : Nm) (b : Int) : Int → Nat → List (Int × Nm)
  | _, 0 => []
  | e, n + 1 => twAt sub b e ++ twFrom sub b (e + 1) n
noncomputable def twAll (sub : Nm) : Int → Nat → List (Int × Nm)
  | _, 0 => []
  | b, n + 1 => twFrom sub b (b + 1) (sub.length - b.toNat) ++ twAll sub (b + 1) n
noncomputable def twAv (x : Int × Nm) : List AV := [.int x.1, .str x.2]
noncomputable def TwR (P : Params) (rest : List (Addr × Obj)) (tw : List AV) (T : List (Int × Nm)) : Prop := RowsR P rest tw (T.map twAv)
theorem hclA {P : Params} {ks : List Nat} (h : ks.take 4 = [0, 1, 2, 3]) : ∀ x l, look x (fiA P).cl = some l → ks[l]? = some l := by
  intro x l hx
  have hm := look_mem hx
  have hm : (x, l) ∈ clL := hm
  simp only [clL, List.mem_cons, Prod.mk.injEq, List.not_mem_nil, or_false] at hm
  have g : ∀ i, i < 4 → ks[i]? = (ks.take 4)[i]? := fun i hi => by rw [List.getElem?_take, if_pos hi]
  rcases hm with ⟨_, rfl⟩ | ⟨_, rfl⟩ | ⟨_, rfl⟩ | ⟨_, rfl⟩ <;> rw [g _ (by decide), h] <;> rfl
set_option tactic.hygienic true in
theorem mulOk_small {a b : Int} (h : a.natAbs < 2 ^ 60) : IntMulOk a b := by
  refine IntMulOk.of_left ?_
  unfold Builtin.Int.intBits
  split
  · lia
  · rename_i h0
    have := (Nat.log2_lt (by intro q; simp_all) (k := 60) (n := a.natAbs)).mpr h
    lia

section
variable {prog : Program} {w : World} {K : Frag} {p : Program} {loose : List Str} {mean : ExcName → Option Value} {mg mb : Str → Option Value}
set_option tactic.hygienic true in
theorem innerLoop (S : Snd prog w K p loose mean mg mb 900 200 (evs (T1 w.params) 200)) {sub : Nm} {v0 : Value} {w0 x left b : Int} {Q : Flow → Shared → Prop} (hs : sub.length ≤ 100) (hb : 0 ≤ b ∧ b ≤ 100) : ∀ (n : Nat) {e l2 : Int} {fc : FC} {ρ : Nat → Addr} {s : Shared} {due tw : List AV} {L : List LE} {Tw : List (Int × Nm)},
    l2 = n → b < e → e + n ≤ 200 → FrOk K p loose mean mg mb (fiA w.params) fc → Room2 900 200 fc.A →
    Rel w.params (fiA w.params) fc ρ (inSt v0 w0 x left b e l2 sub due tw []) s.heap → LogR w.params fc.rest due L → TwR w.params fc.rest tw Tw → L.length + 3 * n ≤ 1000 → Tw.length + n ≤ 1000 →
    (∀ ρ' h' tk rest' due' tw', (∀ j, j < 4 → ρ' j = ρ j) → ρ' 6 = ρ 6 → Rel w.params (fiA w.params) { fc with rest := rest' } ρ' (lwSt v0 w0 sub due' tw' [] [.riter false x left] []) h' → LogR w.params rest' due' (L ++ dueFromL sub b e n) →
      TwR w.params rest' tw' (Tw ++ twFrom sub b e n) → (∀ y ∈ fc.rest, y ∈ rest') → Q .next { s with heap := h', toks := tk }) →
    codeAny (model prog w) fc.A (.forLoop (forT (inF w.params)) (.ref (ρ 7)) (forB (inF w.params)) [] fc.env) (fun r s' => match r with | .ok f => Q f s' | .error _ => False) s
  | 0, e, l2, fc, ρ, s, due, tw, L, Tw, hl, he, hn, O, B, r, hL, hT, h1, h2, H => by
    refine fr_end S O (fun ρ' => i_end w.params ρ' v0 w0 x left b e l2 sub due tw) (fun ρ' _ => ⟨by lia, trivial⟩) (hclA rfl) (r.mus (fun _ _ h => h) [0] []) fun h' tk f g1 g2 => ?_
    rw [hL.con.ren, hT.con.ren] at g2
    refine H (fun j => ρ (([0, 1, 2, 3, 4, 5, 6] : List Nat).getD j 0)) h' tk (restOf ρ [] f fc.rest) due tw (fun j hj => ?_) rfl g2 (by rw [show dueFromL sub b e 0 = [] from rfl, List.append_nil]; exact hL.more fun c o l h _ => mem_restOf h) (by rw [show twFrom sub b e 0 = [] from rfl, List.append_nil]; exact hT.mono fun y hy => mem_restOf hy) (fun y hy => mem_restOf hy)
    have : ∀ j, j < 4 → ([0, 1, 2, 3, 4, 5, 6] : List Nat).getD j 0 = j := by decide
    show ρ (([0, 1, 2, 3, 4, 5, 6] : List Nat).getD j 0) = _
    rw [this j hj]
  | n + 1, e, l2, fc, ρ, s, due, tw, L, Tw, hl, he, hn, O, B, r, hL, hT, h1, h2, H => by
    have hLl : due.length = L.length := All2.length hL
    have hTl : tw.length = Tw.length := by have := All2.length hT; simpa using this
    have hz : sub.length ≤ sizeLine := by rw [sizeL]; lia
    have hlg : lgP due [] := by unfold lgP; rw [sizeL]; simp [itm]; lia
    have hlt : lgP tw [] := by unfold lgP; rw [sizeL]; simp [itm]; lia
    have h2e : (itm (some due) ([] ++ [AV.ref 9])).length + (itm none [AV.ref 10, AV.ref 11]).length ≤ sizeLine := by rw [sizeL]; simp [itm]; lia
    have hm : IntMulOk 2 e := mulOk_small (by decide)
    have okb : okN b := ⟨hb.1, by lia⟩
    have oke : okN e := ⟨by lia, by lia⟩
    have lt8 : 7 < (inSt v0 w0 x left b e l2 sub due tw []).n := Nat.lt_of_lt_of_eq (by lia : 7 < 8) (by kernel_rfl : 8 = _)
    have ext : ∀ {ρ' : Nat → Addr} {st : St}, st.n = (inSt v0 w0 x left b e l2 sub due tw []).n → Ext ρ st.n ρ' st.n → ∀ j, j < 8 → ρ' j = ρ j := fun hst X j hj => X.2 j (by rw [hst]; exact Nat.lt_of_lt_of_eq hj (by kernel_rfl : 8 = _))
    by_cases hc : condL sub b e
    · refine fr_next (k' := 7) S O B (fun ρ' => i_y w.params ρ' v0 w0 x left b e l2 sub due tw) lt8 rfl (fun ρ' _ => ⟨by lia, okb, oke, hz, hm, hlg, hc.1, oke, ⟨by lia, by lia⟩, hz, hc.2, h2e, hlt, trivial⟩) (hclA rfl) (r.mus (fun _ _ h => h) [1, 1, 1] []) fun ρ' h' tk f X g1 g2 => ?_
      have X8 := ext (by rfl) X
      rw [hL.con.ren, hT.con.ren] at g2
      have hks : ∀ j, j < 8 → j ≠ 4 → ksY.getD j 0 = j := by decide
      refine innerLoop S hs hb n (fc := { fc with rest := restOf ρ' [9, 10, 11, 14] f fc.rest }) (ρ := fun j => ρ' (ksY.getD j 0)) (e := e + 1) (l2 := l2 - 1) (s := { s with heap := h', toks := tk }) (L := L ++ dueAtL sub b e) (Tw := Tw ++ twAt sub b e) (by lia) (by lia) (by lia) (O.rst _) B g2 ?_ ?_ (by simp [dueAtL, if_pos hc]; lia) (by simp [twAt, if_pos hc]; lia) ?_
      · have : dueAtL sub b e = [LE.W (seg sub b e), .U (seg sub b e), .J (2 * e - b)] := by simp [dueAtL, if_pos hc]
        rw [this]
        exact (hL.more fun c o l h _ => mem_restOf h).append (c := [AV.con (.ref (ρ' 9)), .con (.ref (ρ' 10)), .con (.ref (ρ' 11))]) ⟨g1.row (i := 0) rfl rfl, g1.row (i := 1) rfl rfl, g1.row (i := 2) rfl rfl, trivial⟩
      · have : twAt sub b e = [(2 * e - b, seg sub b e)] := by simp [twAt, if_pos hc]
        rw [this]
        unfold TwR
        rw [List.map_append]
        exact (hT.mono fun y hy => mem_restOf hy).append (c := [AV.con (.ref (ρ' 14))]) ⟨g1.row (i := 3) rfl rfl, trivial⟩
      · intro ρ2 h2' tk2 rest2 due2 tw2 c1 c2 c3 c4 c5 c6
        refine H ρ2 h2' tk2 rest2 due2 tw2 (fun j hj => ?_) ?_ c3 (by rw [List.append_assoc] at c4; exact c4) (by rw [List.append_assoc] at c5; exact c5) (fun y hy => c6 y (mem_restOf hy))
        · rw [c1 j hj]
          show ρ' (ksY.getD j 0) = _
          rw [hks j (by lia) (by lia)]; exact X8 j (by lia)
        · rw [c2]; exact X8 6 (by lia)
    · have hd : dueAtL sub b e = [LE.W (seg sub b e)] := by simp [dueAtL, if_neg hc]
      have ht : twAt sub b e = [] := by simp [twAt, if_neg hc]
      have hks : ∀ j, j < 8 → ksI.getD j 0 = j := by decide
      have fin : ∀ ρ' h' tk f, (∀ j, j < 8 → ρ' j = ρ j) → Gone w.params fc ρ' [9] [.tup [.txt kW, .str (seg sub b e)]] f →
          Rel w.params (fiA w.params) { fc with rest := restOf ρ' [9] f fc.rest } (fun j => ρ' (ksI.getD j 0)) (inSt v0 w0 x left b (e + 1) (l2 - 1) sub (renL ρ' ksI due ++ [.con (.ref (ρ' 9))]) (renL ρ' ksI tw) []) h' →
          codeAny (model prog w) fc.A (.forLoop (forT (inF w.params)) (.ref ((fun j => ρ' (ksI.getD j 0)) 7)) (forB (inF w.params)) [] fc.env) (fun r s' => match r with | .ok f => Q f s' | .error _ => False) { s with heap := h', toks := tk } := by
        intro ρ' h' tk f X8 g1 g2
        rw [hL.con.ren, hT.con.ren] at g2
        refine innerLoop S hs hb n (fc := { fc with rest := restOf ρ' [9] f fc.rest }) (ρ := fun j => ρ' (ksI.getD j 0)) (e := e + 1) (l2 := l2 - 1) (s := { s with heap := h', toks := tk }) (L := L ++ dueAtL sub b e) (Tw := Tw ++ twAt sub b e) (by lia) (by lia) (by lia) (O.rst _) B g2 ?_ ?_ (by rw [hd]; simp; lia) (by rw [ht]; simp; lia) ?_
        · rw [hd]
          exact (hL.more fun c o l h _ => mem_restOf h).append (c := [AV.con (.ref (ρ' 9))]) ⟨g1.row (i := 0) rfl rfl, trivial⟩
        · rw [ht, List.append_nil]
          exact hT.mono fun y hy => mem_restOf hy
        · intro ρ2 h2' tk2 rest2 due2 tw2 c1 c2 c3 c4 c5 c6
          refine H ρ2 h2' tk2 rest2 due2 tw2 (fun j hj => ?_) ?_ c3 (by rw [List.append_assoc] at c4; exact c4) (by rw [List.append_assoc] at c5; exact c5) (fun y hy => c6 y (mem_restOf hy))
          · rw [c1 j hj]
            show ρ' (ksI.getD j 0) = _
            rw [hks j (by lia)]; exact X8 j (by lia)
          · rw [c2]; exact X8 6 (by lia)
      by_cases h3 : 2 * e - b ≤ (sub.length : Int)
      · exact fr_next (k' := 7) S O B (fun ρ' => i_n2 w.params ρ' v0 w0 x left b e l2 sub due tw) lt8 rfl (fun ρ' _ => ⟨by lia, okb, oke, hz, hm, hlg, h3, oke, ⟨by lia, by lia⟩, hz, fun q => hc ⟨h3, q⟩, trivial⟩) (hclA rfl) (r.mus (fun _ _ h => h) [1, 1, 0] []) fun ρ' h' tk f X g1 g2 => fin ρ' h' tk f (ext (by rfl) X) g1 g2
      · exact fr_next (k' := 7) S O B (fun ρ' => i_n1 w.params ρ' v0 w0 x left b e l2 sub due tw) lt8 rfl (fun ρ' _ => ⟨by lia, okb, oke, hz, hm, hlg, h3, trivial⟩) (hclA rfl) (r.mus (fun _ _ h => h) [1, 0] []) fun ρ' h' tk f X g1 g2 => fin ρ' h' tk f (ext (by rfl) X) g1 g2
end
end Mine
namespace Mine
open PySem PySem.W PyProof.Rows PySem.Calls PySem.Spec
theorem dueAtL_len (sub : Nm) (b e : Int) : (dueAtL sub b e).length ≤ 3 := by
  unfold dueAtL
  split <;> simp
theorem dueFromL_len (sub : Nm) (b : Int) : ∀ (n : Nat) (e : Int), (dueFromL sub b e n).length ≤ 3 * n
  | 0, _ => Nat.le_refl _
  | n + 1, e => by
    have h1 := dueAtL_len sub b e
    have h2 := dueFromL_len sub b n (e + 1)
    simp only [dueFromL, List.length_append]; lia
theorem twAt_len (sub : Nm) (b e : Int) : (twAt sub b e).length ≤ 1 := by
  unfold twAt
  split <;> simp
theorem twFrom_len (sub : Nm) (b : Int) : ∀ (n : Nat) (e : Int), (twFrom sub b e n).length ≤ n
  | 0, _ => Nat.le_refl _
  | n + 1, e => by
    have h1 := twAt_len sub b e
    have h2 := twFrom_len sub b n (e + 1)
    simp only [twFrom, List.length_append]; lia
theorem out_body (P : Params) : forB (outF P) = [inF P] := by kernel_rfl
section
variable {prog : Program} {w : World} {K : Frag} {p : Program} {loose : List Str} {mean : ExcName → Option Value} {mg mb : Str → Option Value}
set_option tactic.hygienic true in
theorem outerLoop (S : Snd prog w K p loose mean mg mb 900 200 (evs (T1 w.params) 200)) {sub : Nm} {v0 : Value} {w0 : Int} {Q : Flow → Shared → Prop} (hs : sub.length ≤ 10) : ∀ (n : Nat) {x left : Int} {fc : FC} {ρ : Nat → Addr} {s : Shared} {due tw : List AV} {L : List LE} {Tw : List (Int × Nm)},
    left = n → 0 ≤ x → x + n = sub.length → FrOk K p loose mean mg mb (fiA w.params) fc → Room2 900 200 fc.A →
    Rel w.params (fiA w.params) fc ρ (lwSt v0 w0 sub due tw [] [.riter false x left] []) s.heap → LogR w.params fc.rest due L → TwR w.params fc.rest tw Tw → L.length + 30 * n ≤ 900 → Tw.length + 10 * n ≤ 900 →
    (∀ ρ' h' tk rest' due' tw', (∀ j, j < 4 → ρ' j = ρ j) → Rel w.params (fiA w.params) { fc with rest := rest' } ρ' (lwSt v0 w0 sub due' tw' [] [] []) h' → LogR w.params rest' due' (L ++ dueAllL sub x n) →
      TwR w.params rest' tw' (Tw ++ twAll sub x n) → (∀ y ∈ fc.rest, y ∈ rest') → Q .next { s with heap := h', toks := tk }) →
    codeAny (model prog w) fc.A (.forLoop (forT (outF w.params)) (.ref (ρ 6)) (forB (outF w.params)) [] fc.env) (fun r s' => match r with | .ok f => Q f s' | .error _ => False) s
  | 0, x, left, fc, ρ, s, due, tw, L, Tw, hl, hx, hn, O, B, r, hL, hT, h1, h2, H => by
    refine fr_end S O (fun ρ' => o_end w.params ρ' v0 w0 x left sub due tw) (fun ρ' _ => ⟨by lia, trivial⟩) (hclA rfl) (r.mus (fun _ _ h => h) [0] []) fun h' tk f g1 g2 => ?_
    rw [hL.con.ren, hT.con.ren] at g2
    refine H (fun j => ρ (([0, 1, 2, 3, 4, 5] : List Nat).getD j 0)) h' tk (restOf ρ [] f fc.rest) due tw (fun j hj => ?_) g2 (by rw [show dueAllL sub x 0 = [] from rfl, List.append_nil]; exact hL.more fun c o l h _ => mem_restOf h) (by rw [show twAll sub x 0 = [] from rfl, List.append_nil]; exact hT.mono fun y hy => mem_restOf hy) (fun y hy => mem_restOf hy)
    have : ∀ j, j < 4 → ([0, 1, 2, 3, 4, 5] : List Nat).getD j 0 = j := by decide
    show ρ (([0, 1, 2, 3, 4, 5] : List Nat).getD j 0) = _
    rw [this j hj]
  | n + 1, x, left, fc, ρ, s, due, tw, L, Tw, hl, hx, hn, O, B, r, hL, hT, h1, h2, H => by
    refine fr_hand S O B (fun ρ' => o_turn w.params ρ' v0 w0 x left sub due tw) (fun ρ' _ => ⟨by lia, trivial⟩) (hclA rfl) (r.mus (fun _ _ h => h) [1] []) fun ρ' h' tk f X g1 g2 => ?_
    rw [hL.con.ren, hT.con.ren] at g2
    obtain ⟨pos, e0, e1⟩ : (∃ pos, inF w.params = .For (forT (inF w.params)) (forI (inF w.params)) (forB (inF w.params)) [] pos ∧ plainIt (forI (inF w.params)) = true) := ⟨_, rfl, by kernel_rfl⟩
    rw [out_body]
    refine execs_cons (fc := fc) ?_
    rw [e0]
    have hi := fun ρ' => i_start w.params ρ' v0 w0 (x + 1) (left - 1) x sub due tw
    refine for_out (fc := { fc with rest := restOf ρ' [] f fc.rest }) (ρ := fun j => ρ' (([0, 1, 2, 3, 4, 5, 6] : List Nat).getD j 0)) (s := { s with heap := h', toks := tk }) (k' := 7) S (O.rst _) B e1 hi rfl (fun ρ2 _ => ⟨⟨by lia, by lia⟩, ⟨by lia, by lia⟩, trivial⟩) (hclA rfl) g2 fun ρ2 h2' tk2 f2 X2 g3 g4 => ?_
    rw [hL.con.ren, hT.con.ren] at g4
    have e6 : ∀ j, j < 7 → ρ2 j = ρ j := fun j hj => by
      rw [X2.2 j (Nat.lt_of_lt_of_eq hj (by kernel_rfl : 7 = _))]
      have : ∀ j, j < 7 → ([0, 1, 2, 3, 4, 5, 6] : List Nat).getD j 0 = j := by decide
      show ρ' (([0, 1, 2, 3, 4, 5, 6] : List Nat).getD j 0) = _
      rw [this j hj, X.2 j (Nat.lt_of_lt_of_eq hj (by kernel_rfl : 7 = _))]
    have hks : ∀ j, j < 7 → ([0, 1, 2, 3, 4, 5, 6, 8] : List Nat).getD j 0 = j := by decide
    refine innerLoop S (by lia) ⟨hx, by lia⟩ (sub.length - x.toNat) (fc := { fc with rest := restOf ρ2 [] f2 (restOf ρ' [] f fc.rest) }) (ρ := fun j => ρ2 (([0, 1, 2, 3, 4, 5, 6, 8] : List Nat).getD j 0)) (s := { s with heap := h2', toks := tk2 }) (L := L) (Tw := Tw) (e := x + 1) (x := x + 1) (left := left - 1)
      (l2 := if x + 1 < (sub.length : Int) + 1 then (sub.length : Int) + 1 - (x + 1) else 0) (by split <;> lia) (by lia) (by lia) (O.rst _) B g4 (hL.more fun c o l h _ => mem_restOf (mem_restOf h)) (hT.mono fun y hy => mem_restOf (mem_restOf hy)) (by lia) (by lia) ?_
    intro ρ3 h3' tk3 rest3 due3 tw3 c1 c2 c3 c4 c5 c6
    refine wpAny_execs_nil ?_
    have e36 : ρ3 6 = ρ 6 := by
      rw [c2]
      show ρ2 (([0, 1, 2, 3, 4, 5, 6, 8] : List Nat).getD 6 0) = _
      rw [hks 6 (by lia)]; exact e6 6 (by lia)
    have hfl := dueFromL_len sub x (sub.length - x.toNat) (x + 1)
    have htl := twFrom_len sub x (sub.length - x.toNat) (x + 1)
    have ih := outerLoop S (Q := Q) hs n (x := x + 1) (left := left - 1) (fc := { fc with rest := rest3 }) (ρ := ρ3) (s := { s with heap := h3', toks := tk3 }) (due := due3) (tw := tw3) (by lia) (by lia) (by lia) (O.rst _) B c3 c4 c5 (by rw [List.length_append]; lia) (by rw [List.length_append]; lia) ?_
    · rw [e36, out_body] at ih
      rw [← e0]
      exact ih
    · intro ρ4 h4' tk4 rest4 due4 tw4 d1 d2 d3 d4 d5
      refine H ρ4 h4' tk4 rest4 due4 tw4 (fun j hj => ?_) d2 ?_ ?_ (fun y hy => d5 y (c6 y (mem_restOf (mem_restOf hy))))
      · rw [d1 j hj, c1 j hj]
        show ρ2 (([0, 1, 2, 3, 4, 5, 6, 8] : List Nat).getD j 0) = _
        rw [hks j (by lia)]; exact e6 j (by lia)
      · rw [show dueAllL sub x (n + 1) = dueFromL sub x (x + 1) (sub.length - x.toNat) ++ dueAllL sub (x + 1) n from rfl, ← List.append_assoc]; exact d3
      · rw [show twAll sub x (n + 1) = twFrom sub x (x + 1) (sub.length - x.toNat) ++ twAll sub (x + 1) n from rfl, ← List.append_assoc]; exact d4
end
end Mine
namespace Mine
open PySem PySem.W PyProof.Rows PySem.Calls PySem.Spec
noncomputable def fi0 (P : Params) : FI := fiL P [] none
noncomputable def ksN : List Nat := [27, 26, 24, 28, 25, 10, 9, 15, 14, 18, 17, 6, 7, 8, 11, 12, 13, 16, 19, 20, 21, 22, 23]
noncomputable def cNode' : Nm := [110, 111, 100, 101]
noncomputable def nMu (sub : Nm) (aD aT : Nat) : List (Nm × AV) := [(cWord, .str sub), (cSize, .int (sub.length : Int)), (cDue, .con (.ref aD)), (cTwice, .con (.ref aT)), (cNode', .ref 22), (cHost, .ref 0)]
set_option tactic.hygienic true in
/-- the pattern and the host are made -/
theorem mk_node (P : Params) (ρ : Nat → Addr) (v0 : Value) (w : Int) (sub : Nm) (due tw : List AV) :
    outc ρ ksN [2, 3, 4, 5] [cWord, cSize, cDue, cTwice, cNode', cHost] (lawA P [] none (takeS 4 (dropS 6 (lawB P))) (lwSt v0 w sub due tw [] [] [])) =
      some (mkS0 (nMu sub (ρ 4) (ρ 5)) l3AO [] [], [.mu (.cell none), .mu (.cell none), .mu (.list none (renL ρ [] due ++ [])), .mu (.list none (renL ρ [] tw ++ []))], .next, []) := by kernel_rfl
/-! the test -/
noncomputable def ifS (P : Params) : Stmt := hdS (dropS 10 (lawB P))
noncomputable def orL : Stmt → Expr
  | .If (.BoolOp _ [.Compare l _ _ _, _] _) _ _ _ => l
  | _ => .Name ⟨#[]⟩ default
noncomputable def orR : Stmt → Expr
  | .If (.BoolOp _ [_, c] _) _ _ _ => c
  | _ => .Name ⟨#[]⟩ default
noncomputable def ifB : Stmt → List Stmt
  | .If _ b _ _ => b
  | _ => []
theorem call_args (P : Params) (sub : Nm) (aD aT : Nat) : argsE (evA P) (fi0 P) (caA (orL (ifS P))) (mkS0 (nMu sub aD aT) l3AO [] []) = some ([.ref 22, .str sub, .bool false, .ref 0], mkS0 (nMu sub aD aT) l3AO [] [], []) := by kernel_rfl
noncomputable def n2Mu (sub : Nm) (aD aT : Nat) : List (Nm × AV) := [(cSize, .int (sub.length : Int)), (cDue, .con (.ref aD)), (cTwice, .con (.ref aT)), (cHost, .ref 0)]
noncomputable def n3Mu (sub : Nm) (aT : Nat) : List (Nm × AV) := [(cSize, .int (sub.length : Int)), (cDue, .ref 23), (cTwice, .con (.ref aT)), (cHost, .ref 0)]
noncomputable def n4Mu (sub : Nm) (aT : Nat) : List (Nm × AV) := [(cSize, .int (sub.length : Int)), (cTwice, .con (.ref aT))]
noncomputable def n3St (sub : Nm) (aT : Nat) (vf : Vf) (steps : Int) (lg due : List AV) (or : List Nat) : St := mkS0 (n3Mu sub aT) (l2AO vf.es steps lg [.list none due]) or []
noncomputable def withImm (st : St) (imm : Nat → List AV → Prop) : St := { st with imm := imm }
theorem cmp_ev (P : Params) (sub : Nm) (aT : Nat) (vf : Vf) (steps : Int) (lg due : List AV) (imm : Nat → List AV → Prop) :
    (evA P).b (fi0 P) (orR (ifS P)) (withImm (n3St sub aT vf steps lg due [1]) imm) = some (false, withImm (n3St sub aT vf steps lg due []) imm, [DatEq (n3St sub aT vf steps lg due []).sg imm (.ref 4) (.ref 23) true]) := by
  cases vf <;> kernel_rfl
theorem forget_ev (ρ : Nat → Addr) (sub : Nm) (aT : Nat) (vf : Vf) (steps : Int) (lg due : List AV) (imm : Nat → List AV → Prop) :
    outc ρ [] [] [cSize, cTwice] (ret () (withImm (n3St sub aT vf steps lg due []) imm)) = some (mkS0 (n4Mu sub aT) [] [] [], [], (), []) := by cases vf <;> kernel_rfl
theorem get4 (sub : Nm) (aT : Nat) (vf : Vf) (steps : Int) (lg due : List AV) : (n3St sub aT vf steps lg due []).sg.get 4 = .list (some lg) [] := by cases vf <;> kernel_rfl
theorem get23 (sub : Nm) (aT : Nat) (vf : Vf) (steps : Int) (lg due : List AV) : (n3St sub aT vf steps lg due []).sg.get 23 = .list none due := by cases vf <;> kernel_rfl
noncomputable def LE.pd : LE → PyData
  | .W t => .tuple [.str (stn kW), .str (stn t)]
  | .U t => .tuple [.str (stn kU), .str (stn t)]
  | .J i => .tuple [.str (stn kJ), .int i]
noncomputable def LE.ok : LE → Prop
  | .W t => okStr t
  | .U t => okStr t
  | .J _ => True
theorem LE.row {l : LE} (h : l.ok) : rowD l.pd := by
  have k : ∀ a ∈ ([kW, kU, kJ] : List Nm), okStr a := by
    intro a ha c hc
    simp only [List.mem_cons, List.not_mem_nil, or_false] at ha
    rcases ha with rfl | rfl | rfl <;> (simp only [kW, kU, kJ, List.mem_cons, List.not_mem_nil, or_false] at hc; lia)
  cases l with
  | W t =>
    intro d hd
    simp only [List.mem_cons, List.not_mem_nil, or_false] at hd
    rcases hd with rfl | rfl
    · exact strOk_of (k _ (by simp))
    · exact strOk_of h
  | U t =>
    intro d hd
    simp only [List.mem_cons, List.not_mem_nil, or_false] at hd
    rcases hd with rfl | rfl
    · exact strOk_of (k _ (by simp))
    · exact strOk_of h
  | J t =>
    intro d hd
    simp only [List.mem_cons, List.not_mem_nil, or_false] at hd
    rcases hd with rfl | rfl
    · exact strOk_of (k _ (by simp))
    · trivial
theorem LogR.rdv {P : Params} {sg : Tr} {rest : List (Addr × Obj)} : ∀ {lg : List AV} {L : List LE}, LogR P rest lg L → RdVs sg (immOf P rest) lg (L.map LE.pd)
  | [], [], _ => .nil
  | [], _ :: _, h => h.elim
  | _ :: _, [], h => h.elim
  | a :: lg, l :: L, h => by
    obtain ⟨c, rfl, o, ho, hr⟩ := h.1
    refine .cons ?_ (LogR.rdv h.2)
    cases l with
    | W t => exact .con (xs := [.txt kW, .str t]) ⟨o, ho, hr⟩ (.cons (.txt _) (.cons (.str _) .nil))
    | U t => exact .con (xs := [.txt kU, .str t]) ⟨o, ho, hr⟩ (.cons (.txt _) (.cons (.str _) .nil))
    | J t => exact .con (xs := [.txt kJ, .int t]) ⟨o, ho, hr⟩ (.cons (.txt _) (.cons (.int _) .nil))

section
variable {prog : Program} {w : World} {K : Frag} {p : Program} {loose : List Str} {mean : ExcName → Option Value} {mg mb : Str → Option Value}
set_option tactic.hygienic true in
theorem testLaw (S : Snd prog w K p loose mean mg mb 900 200 (evs (T1 w.params) 200)) (ok : PTOk3 prog w K p loose mean mg mb (T1 w.params) 900)
    {sub : Nm} (hs : sub.length ≤ 10) {aD aT : Nat} {oD : Obj} {due : List AV} {L : List LE} {fc : FC} {ρ : Nat → Addr} {s : Shared} {Q : Flow → Shared → Prop} (O : FrOk K p loose mean mg mb (fi0 w.params) fc) (B : Room2 900 210 fc.A)
    (r : Rel w.params (fi0 w.params) fc ρ (mkS0 (nMu sub aD aT) l3AO [] []) s.heap) (hD : (aD, oD) ∈ fc.rest) (hDr : RepEO w.params (.mu (.list none due)) oD) (hL : LogR w.params fc.rest due L) (hEq : L = dueAll sub 0 (sub.length + 1)) (hok : ∀ l ∈ L, l.ok)
    (H : ∀ ρ' h' tk rest', Rel w.params (fi0 w.params) { fc with rest := rest' } ρ' (mkS0 (n4Mu sub aT) [] [] []) h' → (∀ y ∈ fc.rest, y.1 ≠ aD → y ∈ rest') → Q .next { s with heap := h', toks := tk }) :
    wpAny (model prog w) fc.A (exec (ifS w.params) fc.env) Q NoE s := by
  obtain ⟨k, p1, p2, p3, p4, e0⟩ : (∃ k p1 p2 p3 p4, ifS w.params = .If (.BoolOp .Or [.Compare (orL (ifS w.params)) [.IsNot] [.Constant .none k p1] p2, orR (ifS w.params)] p3) (ifB (ifS w.params)) [] p4) := ⟨_, _, _, _, _, rfl⟩
  obtain ⟨x, xp, pos2, e1, e2⟩ : (∃ x xp pos, orL (ifS w.params) = .Call (.Name x xp) (caA (orL (ifS w.params))) [] pos ∧ caX (caF (orL (ifS w.params))) = nm x) := ⟨_, _, _, rfl, by kernel_rfl⟩
  have hl : loadF (T1 w.params) (fi0 w.params) (nm x) = some (.fn 551) := by rw [← e2]; kernel_rfl
  have B1 : Room2 900 200 fc.A := ⟨by have := B.1; lia, by have := B.2; lia⟩
  rw [e0]
  refine wpAny_If (isTrue_or (wpAny_isTrue_Compare1 ?_ rfl))
  rw [e1]
  refine ecall_fn S ok hl (call_args w.params sub aD aT) trivial O B1 r fun ρ2 h2 tk2 cvs X2 r2 rv2 => ?_
  have n23 : (mkS0 (nMu sub aD aT) l3AO [] []).n = 23 := by kernel_rfl
  refine matchCall (fi := fi0 w.params) (s := { s with heap := h2, toks := tk2 }) S ok hs rfl rfl (mu' := n2Mu sub aD aT) O B r2 rv2 (fun x a hx => ?_) fun ρ3 h3 tk3 rest3 lg3 vf3 steps3 c0 c1 c2 c3 => ?_
  · have hm := look_mem hx
    simp only [n2Mu, List.mem_cons, Prod.mk.injEq, List.not_mem_nil, or_false] at hm
    rcases hm with ⟨rfl, rfl⟩ | ⟨rfl, rfl⟩ | ⟨rfl, rfl⟩ | ⟨rfl, rfl⟩
    · exact ⟨rfl, .inr fun l q => by cases q⟩
    · exact ⟨rfl, .inr fun l q => by cases q⟩
    · exact ⟨rfl, .inr fun l q => by cases q⟩
    · exact ⟨rfl, .inl rfl⟩
  · refine S.e _ { fc with rest := rest3 } (.Constant .none k p1) (mkS0 (n2Mu sub aD aT) (l2AO vf3.es steps3 lg3 []) [] []) .none _ [] rfl trivial (O.rst _) B1 ρ3 { s with heap := h3, toks := tk3 } _ c1 fun ρ4 h4 tk4 v4 X4 r4 q4 => ?_
    obtain rfl := q4
    refine isnot_none_none (truthy_bool (ρ := ρ4) (m := 0) (c := false) rfl ?_)
    rw [if_neg (by decide)]
    -- the law's list comes back
    have hD3 := c3 _ hD
    have r5 := r4.impM (rest := rest3.filter fun y => !(Nat.beq y.1 aD)) (ao := .list none due) hD3 (fun y hy => dropA_mem.mp hy) rfl (fun _ q => by cases q) (by
      obtain ⟨vs, k, e, h⟩ := hDr
      exact ⟨vs, k, e, h.mono fun a ha v q => by obtain ⟨z, rfl⟩ := hL.con a ha; exact q⟩)
    have n24 : 23 < (mkS0 (n2Mu sub aD aT) (l2AO vf3.es steps3 lg3 []) [] []).n + 1 := Nat.lt_of_lt_of_eq (by lia : 23 < 24) (by cases vf3 <;> kernel_rfl : 24 = _)
    have eup : upR ρ4 (mkS0 (n2Mu sub aD aT) (l2AO vf3.es steps3 lg3 []) [] []).n aD 23 = aD := by
      have : (mkS0 (n2Mu sub aD aT) (l2AO vf3.es steps3 lg3 []) [] []).n = 23 := by cases vf3 <;> kernel_rfl
      rw [this]; exact upR_self _ _ _
    have r6 := r5.remu (mu' := n3Mu sub aT) (fun x a hx => by
      have hm := look_mem hx
      simp only [n3Mu, List.mem_cons, Prod.mk.injEq, List.not_mem_nil, or_false] at hm
      rcases hm with ⟨rfl, rfl⟩ | ⟨rfl, rfl⟩ | ⟨rfl, rfl⟩ | ⟨rfl, rfl⟩
      · exact ⟨_, rfl, fun u h => h⟩
      · exact ⟨.con (.ref aD), rfl, fun u h => ⟨n24, by rw [eup]; exact h.1⟩⟩
      · exact ⟨_, rfl, fun u h => h⟩
      · exact ⟨_, rfl, fun u h => h⟩) [1] []
    have r7 : Rel w.params (fi0 w.params) { fc with rest := rest3.filter fun y => !(Nat.beq y.1 aD) } (upR ρ4 23 aD) (n3St sub aT vf3 steps3 lg3 due [1]) h4 := by
      have : (mkS0 (n2Mu sub aD aT) (l2AO vf3.es steps3 lg3 []) [] []).n = 23 := by cases vf3 <;> kernel_rfl
      rw [this] at r6
      exact Eq.mp (by cases vf3 <;> kernel_rfl) r6
    have r8 := r7.imms
    -- what is no list stays in the rest
    have apart : ∀ c o l, (c, o) ∈ rest3 → RepEO w.params (.tup l) o → (c, o) ∈ rest3.filter fun y => !(Nat.beq y.1 aD) := fun c o l hc hr => dropA_mem.mpr ⟨hc, fun q => by
      have q : c = aD := q
      have h1 := c1.get? hc
      have h2 := c1.get? hD3
      rw [q, h2] at h1
      first | (obtain ⟨rfl, rfl, rfl⟩ := ret_some h1) | cases h1
      exact mut_apart (P := w.params) (ρ := fun _ => 0) (n := 0) (a := .list none due) (b := .tup l) rfl rfl (by intro z; cases z) hDr hr⟩
    have hD0 : ∀ d ∈ (dueAll sub 0 (sub.length + 1)).map LE.pd, rowD d := fun d hd => by
      obtain ⟨l, hl, rfl⟩ := List.mem_map.mp hd
      exact LE.row (hok l (by rw [hEq]; exact hl))
    obtain ⟨sh1, sh2⟩ := rows_shaped hD0
    have hdat : DatEq (n3St sub aT vf3 steps3 lg3 due []).sg (immOf w.params (rest3.filter fun y => !(Nat.beq y.1 aD))) (.ref 4) (.ref 23) true := by
      refine ⟨_, _, .list (get4 sub aT vf3 steps3 lg3 due) ?_, .list (get23 sub aT vf3 steps3 lg3 due) ?_, sh1, sh1, sh2⟩
      · show RdVs _ _ (lg3 ++ []) _
        rw [List.append_nil]
        exact (c2.more fun c o l hc hr => apart c o _ hc hr).rdv
      · show RdVs _ _ due _
        rw [← hEq]
        exact (hL.more fun c o l hc hr => apart c o _ (c3 _ hc) hr).rdv
    refine isTrue_or (S.b _ { fc with rest := rest3.filter fun y => !(Nat.beq y.1 aD) } _ _ _ _ _ (cmp_ev w.params sub aT vf3 steps3 lg3 due _) ⟨hdat, trivial⟩ (O.rst _) B1 _ { s with heap := h4, toks := tk4 } _ r8 fun ρ9 h9 tk9 v9 X9 r9 q9 => ?_)
    subst q9
    rw [if_neg (by decide)]
    refine isTrue_or_nil ?_
    rw [if_neg (by decide)]
    refine wpAny_execs_nil ?_
    obtain ⟨f, _, r10⟩ := r9.again (forget_ev ρ9 sub aT vf3 steps3 lg3 due _) (fun x l h => by cases h)
    exact H _ h9 tk9 _ r10 fun y hy hne => mem_restOf (dropA_mem.mpr ⟨c3 y hy, hne⟩)
end
end Mine
namespace Mine
open PySem PySem.W PyProof.Rows PySem.Calls PySem.Spec
noncomputable def clF : List (Nm × Nat) := [(cMet, 0), (cPlace, 1)]
noncomputable def fiF (P : Params) : FI := fiL P clF none
noncomputable def cFresh : Nm := [102, 114, 101, 115, 104]
noncomputable def cEnd : Nm := [101, 110, 100]
noncomputable def cPart : Nm := [112, 97, 114, 116]
noncomputable def mMu (sub : Nm) : List (Nm × AV) := [(cSize, .int (sub.length : Int)), (cTwice, .ref 2)]
noncomputable def cellP : Option Int → AO
  | none => .cell none
  | some x => .cell (some (.int x))
noncomputable def mO (p : Option Int) (tw met : List AV) (more : List AO) : List AO := [.cell (some (.ref 3)), cellP p, .list (some tw) [], .list (some met) []] ++ more
noncomputable def mSt (sub : Nm) (p : Option Int) (tw met : List AV) (more : List AO) (or : List Nat) : St := mkS0 (mMu sub) (mO p tw met more) or []
noncomputable def nsM : List Nm := [cSize, cTwice]
noncomputable def ksMt : List Nat := [0, 1, 2, 3]
set_option tactic.hygienic true in
theorem m_init (P : Params) (ρ : Nat → Addr) (sub : Nm) (tw : List AV) :
    outc ρ ksMt [] nsM (lawA P clF none (takeS 1 (dropS 11 (lawB P))) (mkS0 (mMu sub) [.cell none, .cell none, .list (some tw) []] [] [])) =
      some (setO 3 (.list none []) (mSt sub none (renL ρ ksMt tw) [] [] []), [], .next, []) := by kernel_rfl
noncomputable def mF (P : Params) : Stmt := hdS (dropS 12 (lawB P))
theorem m_start (P : Params) (ρ : Nat → Addr) (sub : Nm) (tw : List AV) :
    outc ρ [0, 1, 2, 3, 5] [] nsM (startFr (evA P) (fiF P) (forI (mF P)) (mSt sub none tw [] [] [])) =
      some (mSt sub none (renL ρ [0, 1, 2, 3, 5] tw) [] [.riter false 1 (if (1 : Int) < (sub.length : Int) + 1 then (sub.length : Int) + 1 - 1 else 0)] [], [], .ref 5, [-(2 ^ 62) ≤ (sub.length : Int) + 1 ∧ (sub.length : Int) + 1 < 2 ^ 62]) := by kernel_rfl
theorem m_turn (P : Params) (ρ : Nat → Addr) (sub : Nm) (p : Option Int) (tw met : List AV) (x left : Int) :
    outc ρ [0, 1, 2, 3, 4] [] nsM (turnA (evA P) (fiF P) (forT (mF P)) 4 (mSt sub p tw met [.riter false x left] [1])) =
      some (mSt sub (some x) (renL ρ [0, 1, 2, 3, 4] tw) (renL ρ [0, 1, 2, 3, 4] met) [.riter false (x + 1) (left - 1)] [], [], true, [0 < left]) := by cases p <;> kernel_rfl
theorem m_end (P : Params) (ρ : Nat → Addr) (sub : Nm) (p : Option Int) (tw met : List AV) (x left : Int) :
    outc ρ ksMt [] nsM (turnFr (evA P) (fiF P) (forT (mF P)) 4 (forB (mF P)) (mSt sub p tw met [.riter false x left] [0])) =
      some (mSt sub p (renL ρ ksMt tw) (renL ρ ksMt met) [] [], [], none, [¬ 0 < left]) := by cases p <;> kernel_rfl
set_option tactic.hygienic true in
/-- the rest of the body: fewer than three -/
theorem m_rest (P : Params) (ρ : Nat → Addr) (sub : Nm) (x y left : Int) (tw met F : List AV) (it : AO) :
    outc ρ [0, 1, 2, 7, 4] [] nsM ((evA P).ss (fiF P) (tlS (forB (mF P))) (mkS0 (put cFresh (.ref 6) (mMu sub)) (mO (some x) tw met [.riter false y left, .dead, .list (some F) []]) [0] [])) =
      some (mSt sub (some x) (renL ρ [0, 1, 2, 7, 4] tw) (absorb (renL ρ [0, 1, 2, 7, 4] ((met ++ []) ++ F)) []) [.riter false y left] [], [], .next,
        [(itm (some F) []).length < 2 ^ 62, ¬ (2 : Int) < ((F.length + 0 : Nat) : Int), (itm (some met) []).length + (itm (some F) []).length ≤ sizeLine]) := by kernel_rfl
/-- the law's answer -/
theorem m_ret (P : Params) (ρ : Nat → Addr) (sub : Nm) (p : Option Int) (tw met : List AV) :
    outc ρ ksMt [] [] ((evA P).ss (fiF P) (dropS 13 (lawB P)) (mSt sub p tw met [] [1])) =
      some (mkS0 [] (mO p (renL ρ ksMt tw) (renL ρ ksMt met) []) [] [], [], .ret (.bool true), [(itm (some met) []).length < 2 ^ 62, ((met.length + 0 : Nat) : Int) < (sub.length : Int)]) := by cases p <;> kernel_rfl
end Mine
namespace Mine
open PySem PySem.W PyProof.Rows PySem.Calls PySem.Spec
noncomputable def lcE : Stmt → Expr
  | .Assign _ (.ListComp e _ _ _) _ => e
  | _ => .Name ⟨#[]⟩ default
noncomputable def lcT : Stmt → Expr
  | .Assign _ (.ListComp _ [⟨t, _, _, _⟩] _ _) _ => t
  | _ => .Name ⟨#[]⟩ default
noncomputable def lcI : Stmt → Expr
  | .Assign _ (.ListComp _ [⟨_, i, _, _⟩] _ _) _ => i
  | _ => .Name ⟨#[]⟩ default
noncomputable def lcF : Stmt → List Expr
  | .Assign _ (.ListComp _ [⟨_, _, f, _⟩] _ _) _ => f
  | _ => []
noncomputable def lcS : Stmt → Scope
  | .Assign _ (.ListComp _ _ sc _) _ => sc
  | _ => default
noncomputable def asX : Stmt → Nm
  | .Assign [.Name x _] _ _ => nm x
  | _ => []
noncomputable def frS (P : Params) : Stmt := hdS (forB (mF P))
noncomputable def fiC (P : Params) : FI := fiCp (fiF P) (lcS (frS P)) clF
noncomputable def muC : Option (AV × AV) → List (Nm × AV)
  | none => []
  | some (a, b) => [(cEnd, a), (cPart, b)]
noncomputable def cSt (mu : Option (AV × AV)) (x y left : Int) (tw met : List AV) (i : Nat) (acc : List AV) (or : List Nat) (ov : List AV) (imm : Nat → List AV → Prop) : St :=
  withImm (mkS0 (muC mu) (mO (some x) tw met [.riter false y left, .liter 2 i, .list none acc]) or ov) imm
noncomputable def tC (P : Params) (n : Nat) (st : St) : Rr Bool := turnCp (evs (T1 P) (n + 12)) (fiC P) (lcT (frS P)) (lcE (frS P)) (lcF (frS P)) 5 6 st
theorem c_no (P : Params) (n : Nat) (mu : Option (AV × AV)) (x y left e : Int) (p : Nm) (c : Nat) (tw met : List AV) (i : Nat) (acc : List AV) (R : List Nat) (V : List AV) (imm : Nat → List AV → Prop) :
    tC P n (cSt mu x y left tw met i acc (1 :: 0 :: R) (.con (.ref c) :: .int e :: .str p :: V) imm) =
      some (true, cSt (some (.int e, .str p)) x y left tw met (i + 1) acc R V imm, [nth (itm (some tw) []) i = some (.con (.ref c)), imm c [.int e, .str p], ¬ e = x]) := by cases mu <;> kernel_rfl
theorem c_old (P : Params) (n : Nat) (mu : Option (AV × AV)) (x y left e : Int) (p : Nm) (c : Nat) (tw met : List AV) (i : Nat) (acc : List AV) (R : List Nat) (V : List AV) (imm : Nat → List AV → Prop) :
    tC P n (cSt mu x y left tw met i acc (1 :: 1 :: 1 :: R) (.con (.ref c) :: .int e :: .str p :: V) imm) =
      some (true, cSt (some (.int e, .str p)) x y left tw met (i + 1) acc R V imm, [nth (itm (some tw) []) i = some (.con (.ref c)), imm c [.int e, .str p], e = x, ∀ y ∈ itm (some met) [], ∃ z, y = AV.str z, AV.str p ∈ itm (some met) []]) := by cases mu <;> kernel_rfl
theorem c_new (P : Params) (n : Nat) (mu : Option (AV × AV)) (x y left e : Int) (p : Nm) (c : Nat) (tw met : List AV) (i : Nat) (acc : List AV) (R : List Nat) (V : List AV) (imm : Nat → List AV → Prop) :
    tC P n (cSt mu x y left tw met i acc (1 :: 1 :: 0 :: R) (.con (.ref c) :: .int e :: .str p :: V) imm) =
      some (true, cSt (some (.int e, .str p)) x y left tw met (i + 1) (acc ++ [.str p]) R V imm,
        [nth (itm (some tw) []) i = some (.con (.ref c)), imm c [.int e, .str p], e = x, ∀ y ∈ itm (some met) [], ∃ z, y = AV.str z, ¬ AV.str p ∈ itm (some met) []] ++ (hcP (shortP none acc) ((itm none acc).length ≤ sizeLine) ++ [])) := by cases mu <;> kernel_rfl
theorem c_end (P : Params) (n : Nat) (mu : Option (AV × AV)) (x y left : Int) (tw met : List AV) (i : Nat) (acc : List AV) (R : List Nat) (V : List AV) (imm : Nat → List AV → Prop) :
    tC P n (cSt mu x y left tw met i acc (0 :: R) V imm) =
      some (false, withImm (mkS0 (muC mu) (mO (some x) tw met [.riter false y left, .dead, .list none acc]) R V) imm, [nth (itm (some tw) []) i = none]) := by cases mu <;> kernel_rfl
theorem c_head (P : Params) (sub : Nm) (x y left : Int) (tw met : List AV) (or : List Nat) (ov : List AV) (imm : Nat → List AV → Prop) :
    headCp (evs (T1 P) 198) (fiF P) (lcI (frS P)) (withImm (mkS0 (mMu sub) (mO (some x) tw met [.riter false y left]) or ov) imm) = some ((5, 6), cSt none x y left tw met 0 [] or ov imm, []) := by kernel_rfl
theorem c_iter (P : Params) (sub : Nm) (x y left : Int) (tw met : List AV) (or : List Nat) (ov : List AV) (imm : Nat → List AV → Prop) :
    (evs (T1 P) 198).e (fiF P) (lcI (frS P)) (withImm (mkS0 (mMu sub) (mO (some x) tw met [.riter false y left]) or ov) imm) = some (.ref 2, withImm (mkS0 (mMu sub) (mO (some x) tw met [.riter false y left]) or ov) imm, []) := by kernel_rfl
theorem c_ok (P : Params) : cpOk (fiF P) (lcI (frS P)) (lcS (frS P)) clF := ⟨by kernel_rfl, by kernel_rfl, by kernel_rfl, by kernel_rfl⟩

/-! the comprehension to its end -/
noncomputable def orC (x : Int) (M : List Nm) : List (Int × Nm) → List Nat
  | [] => [0]
  | (e, p) :: r => if e = x then 1 :: 1 :: (if p ∈ M then 1 else 0) :: orC x M r else 1 :: 0 :: orC x M r
noncomputable def freC (x : Int) (M : List Nm) : List (Int × Nm) → List Nm
  | [] => []
  | (e, p) :: r => if e = x ∧ p ∉ M then p :: freC x M r else freC x M r
noncomputable def ovC : List AV → List (Int × Nm) → List AV
  | a :: l, (e, p) :: r => a :: .int e :: .str p :: ovC l r
  | _, _ => []
theorem freC_len (x : Int) (M : List Nm) : ∀ r : List (Int × Nm), (freC x M r).length ≤ r.length
  | [] => Nat.le_refl _
  | (e, p) :: r => by
    have := freC_len x M r
    unfold freC
    split <;> simp <;> lia
theorem strs_mem {p : Nm} {M : List Nm} : AV.str p ∈ M.map AV.str ↔ p ∈ M := by
  simp only [List.mem_map]
  constructor
  · rintro ⟨z, hz, e⟩; cases e; exact hz
  · exact fun h => ⟨_, h, rfl⟩
theorem cLoop (P : Params) (x y left : Int) (M : List Nm) (imm : Nat → List AV → Prop) : ∀ (r : List (Int × Nm)) (tl pre : List AV) (mu : Option (AV × AV)) (acc : List AV) (n : Nat), All2 (fun a l => ∃ c, a = .con (.ref c) ∧ imm c (twAv l)) tl r →
    acc.length + r.length ≤ 1000 →
    ∃ mu', RunsTo ((evs (T1 P) (n + r.length + 13)).cp (fiC P) (lcT (frS P)) (lcE (frS P)) (lcF (frS P)) 5 6 (cSt mu x y left (pre ++ tl) (M.map .str) pre.length acc (orC x M r) (ovC tl r) imm)) ()
      (withImm (mkS0 (muC mu') (mO (some x) (pre ++ tl) (M.map .str) [.riter false y left, .dead, .list none (acc ++ (freC x M r).map .str)]) [] []) imm)
  | [], tl, pre, mu, acc, n, h, hl => by
    cases tl with
    | cons => exact h.elim
    | nil =>
      refine ⟨mu, ?_⟩
      have := cp_done (RunsTo.of (c_end P n mu x y left (pre ++ []) (M.map .str) pre.length acc [] [] imm) ⟨by rw [nth_eq]; simp [itm], trivial⟩)
      simp only [freC, List.map_nil, List.append_nil] at this ⊢
      exact this
  | (e, p) :: r, [], pre, mu, acc, n, h, hl => h.elim
  | (e, p) :: r, a :: tl, pre, mu, acc, n, h, hl => by
    obtain ⟨⟨c, rfl, hc⟩, h2⟩ := h
    simp only [List.length_cons] at hl
    have hn : nth (itm (some (pre ++ .con (.ref c) :: tl)) []) pre.length = some (.con (.ref c)) := by rw [nth_eq]; simp [itm]
    have hst : ∀ y ∈ itm (some (M.map AV.str)) [], ∃ z, y = AV.str z := by
      intro y hy
      have hy : y ∈ M.map AV.str ++ [] := hy
      rw [List.append_nil] at hy
      obtain ⟨z, _, rfl⟩ := List.mem_map.mp hy
      exact ⟨z, rfl⟩
    have hmem : AV.str p ∈ itm (some (M.map AV.str)) [] ↔ p ∈ M := by
      show AV.str p ∈ M.map AV.str ++ [] ↔ _
      rw [List.append_nil]; exact strs_mem
    have epre : pre ++ .con (.ref c) :: tl = (pre ++ [.con (.ref c)]) ++ tl := by simp
    have elen : pre.length + 1 = (pre ++ [AV.con (.ref c)]).length := by simp
    have efu : n + (r.length + 1) + 13 = (n + r.length + 13) + 1 := by lia
    have efu2 : n + r.length + 13 = (n + r.length + 1) + 12 := by lia
    show ∃ mu', RunsTo ((evs (T1 P) (n + (r.length + 1) + 13)).cp _ _ _ _ 5 6 (cSt mu x y left (pre ++ .con (.ref c) :: tl) (M.map .str) pre.length acc (orC x M ((e, p) :: r)) (.con (.ref c) :: .int e :: .str p :: ovC tl r) imm)) () _
    rw [efu]
    by_cases he : e = x
    · by_cases hp : p ∈ M
      · obtain ⟨mu', ih⟩ := cLoop P x y left M imm r tl (pre ++ [.con (.ref c)]) (some (.int e, .str p)) acc n h2 (by lia)
        refine ⟨mu', ?_⟩
        have ho : orC x M ((e, p) :: r) = 1 :: 1 :: 1 :: orC x M r := by simp [orC, he, hp]
        have hf : freC x M ((e, p) :: r) = freC x M r := by simp [freC, hp]
        rw [ho, hf]
        refine cp_more (RunsTo.of (c_old P (n + r.length + 1) mu x y left e p c (pre ++ .con (.ref c) :: tl) (M.map .str) pre.length acc (orC x M r) (ovC tl r) imm) ⟨hn, hc, he, hst, hmem.mpr hp, trivial⟩) ?_
        rw [epre, elen]; exact ih
      · obtain ⟨mu', ih⟩ := cLoop P x y left M imm r tl (pre ++ [.con (.ref c)]) (some (.int e, .str p)) (acc ++ [.str p]) n h2 (by simp; lia)
        refine ⟨mu', ?_⟩
        have ho : orC x M ((e, p) :: r) = 1 :: 1 :: 0 :: orC x M r := by simp [orC, he, hp]
        have hf : freC x M ((e, p) :: r) = p :: freC x M r := by simp [freC, he, hp]
        rw [ho, hf]
        refine cp_more (RunsTo.of (c_new P (n + r.length + 1) mu x y left e p c (pre ++ .con (.ref c) :: tl) (M.map .str) pre.length acc (orC x M r) (ovC tl r) imm) ?_) ?_
        · refine Ps.join ⟨hn, hc, he, hst, fun q => hp (hmem.mp q), trivial⟩ ?_
          rw [List.append_nil]
          cases shortP none acc with
          | true => trivial
          | false => exact ⟨by rw [sizeL]; show acc.length ≤ _; lia, trivial⟩
        · rw [epre, elen]
          have : acc ++ List.map AV.str (p :: freC x M r) = (acc ++ [.str p]) ++ List.map AV.str (freC x M r) := by simp
          rw [this]; exact ih
    · obtain ⟨mu', ih⟩ := cLoop P x y left M imm r tl (pre ++ [.con (.ref c)]) (some (.int e, .str p)) acc n h2 (by lia)
      refine ⟨mu', ?_⟩
      have ho : orC x M ((e, p) :: r) = 1 :: 0 :: orC x M r := by simp [orC, he]
      have hf : freC x M ((e, p) :: r) = freC x M r := by simp [freC, he]
      rw [ho, hf]
      refine cp_more (RunsTo.of (c_no P (n + r.length + 1) mu x y left e p c (pre ++ .con (.ref c) :: tl) (M.map .str) pre.length acc (orC x M r) (ovC tl r) imm) ⟨hn, hc, he, trivial⟩) ?_
      rw [epre, elen]; exact ih
end Mine
namespace Mine
open PySem PySem.W PyProof.Rows PySem.Calls PySem.Spec
noncomputable def frSt (sub : Nm) (x y left : Int) (tw met : List AV) (F : AO) (or : List Nat) : St := mkS0 (put cFresh (.ref 6) (mMu sub)) (mO (some x) tw met [.riter false y left, .dead, F]) or []
noncomputable def mStI (sub : Nm) (x y left : Int) (tw met : List AV) (or : List Nat) (ov : List AV) (imm : Nat → List AV → Prop) : St := withImm (mkS0 (mMu sub) (mO (some x) tw met [.riter false y left]) or ov) imm
set_option tactic.hygienic true in
theorem fresh_runs (P : Params) (sub : Nm) (x y left : Int) (M : List Nm) (imm : Nat → List AV → Prop) (tw : List AV) (Tw : List (Int × Nm)) (h : All2 (fun a l => ∃ c, a = .con (.ref c) ∧ imm c (twAv l)) tw Tw) (hl : Tw.length ≤ 100) :
    RunsTo ((evA P).s (fiF P) (frS P) (mStI sub x y left tw (M.map .str) (orC x M Tw) (ovC tw Tw) imm)) .next (withImm (frSt sub x y left tw (M.map .str) (.list none ((freC x M Tw).map .str)) []) imm) := by
  obtain ⟨z, tp, lp, pos, e0, e1, e2⟩ : ∃ x tp lp pos, frS P = .Assign [.Name x tp] (.ListComp (lcE (frS P)) [⟨lcT (frS P), lcI (frS P), lcF (frS P), 0⟩] (lcS (frS P)) lp) pos ∧ nm x = asX (frS P) ∧ pureOf (swapsWith (.ListComp (lcE (frS P)) [⟨lcT (frS P), lcI (frS P), lcF (frS P), 0⟩] (lcS (frS P)) lp) (some (.Name x tp)) pos.line (dumEnv (fiF P).sc)) = some true := ⟨_, _, _, _, rfl, by kernel_rfl, by kernel_rfl⟩
  rw [e0]
  obtain ⟨mu', hc⟩ := cLoop P x y left M imm Tw tw [] none [] (185 - Tw.length) h (by simp; lia)
  have efu : 185 - Tw.length + Tw.length + 13 = 198 := by lia
  rw [efu] at hc
  refine s_comp (n := 199) e2 (e_comp (n := 198) (c_ok P) (RunsTo.of (c_head P sub x y left tw (M.map .str) _ _ imm) trivial) (mu := mMu sub) (fun a st1 ⟨Q, e, _⟩ l _ => ?_) hc) ?_
  · have := c_iter P sub x y left tw (M.map .str) (orC x M Tw) (ovC tw Tw) imm
    have e : some _ = some _ := this.symm.trans e
    cases e; rfl
  · rw [e1]
    exact RunsTo.of (P := []) (by kernel_rfl) trivial
noncomputable def metC (Tw : List (Int × Nm)) : Nat → Int → List Nm → List Nm
  | 0, _, M => M
  | n + 1, x, M => metC Tw n (x + 1) (M ++ freC x M Tw)
noncomputable def fewC (Tw : List (Int × Nm)) : Nat → Int → List Nm → Prop
  | 0, _, _ => True
  | n + 1, x, M => (freC x M Tw).length ≤ 2 ∧ fewC Tw n (x + 1) (M ++ freC x M Tw)
theorem renL_strs (ρ : Nat → Addr) (ks : List Nat) : ∀ M : List Nm, renL ρ ks (M.map .str) = M.map .str
  | [] => rfl
  | a :: r => by
    show AV.str a :: renL ρ ks (r.map .str) = _
    rw [renL_strs ρ ks r]; rfl
theorem hclF {P : Params} {ks : List Nat} (h : ks.take 2 = [0, 1]) : ∀ x l, look x (fiF P).cl = some l → ks[l]? = some l := by
  intro x l hx
  have hm := look_mem hx
  have hm : (x, l) ∈ clF := hm
  simp only [clF, List.mem_cons, Prod.mk.injEq, List.not_mem_nil, or_false] at hm
  have g : ∀ i, i < 2 → ks[i]? = (ks.take 2)[i]? := fun i hi => by rw [List.getElem?_take, if_pos hi]
  rcases hm with ⟨_, rfl⟩ | ⟨_, rfl⟩ <;> rw [g _ (by decide), h] <;> rfl
theorem mF_body (P : Params) : forB (mF P) = frS P :: tlS (forB (mF P)) := by kernel_rfl
theorem frSt_n (sub : Nm) (x y left : Int) (tw met : List AV) (F : AO) (or : List Nat) : (frSt sub x y left tw met F or).n = 7 := by kernel_rfl

section
variable {prog : Program} {w : World} {K : Frag} {p : Program} {loose : List Str} {mean : ExcName → Option Value} {mg mb : Str → Option Value}
set_option tactic.hygienic true in
theorem metLoop (S : Snd prog w K p loose mean mg mb 900 200 (evs (T1 w.params) 200)) {sub : Nm} {Tw : List (Int × Nm)} {Q : Flow → Shared → Prop} (hs : sub.length ≤ 100) (hTw : Tw.length ≤ 100) : ∀ (n : Nat) {x left : Int} {pl : Option Int} {fc : FC} {ρ : Nat → Addr} {s : Shared} {tw : List AV} {M : List Nm},
    left = n → fewC Tw n x M → M.length + 2 * n ≤ 500 → FrOk K p loose mean mg mb (fiF w.params) fc → Room2 900 200 fc.A →
    Rel w.params (fiF w.params) fc ρ (mSt sub pl tw (M.map .str) [.riter false x left] []) s.heap → TwR w.params fc.rest tw Tw →
    (∀ ρ' h' tk rest' pl', Rel w.params (fiF w.params) { fc with rest := rest' } ρ' (mSt sub pl' tw ((metC Tw n x M).map .str) [] []) h' → Q .next { s with heap := h', toks := tk }) →
    codeAny (model prog w) fc.A (.forLoop (forT (mF w.params)) (.ref (ρ 4)) (forB (mF w.params)) [] fc.env) (fun r s' => match r with | .ok f => Q f s' | .error _ => False) s
  | 0, x, left, pl, fc, ρ, s, tw, M, hl, hf, hM, O, B, r, hT, H => by
    refine fr_end S O (fun ρ' => m_end w.params ρ' sub pl tw (M.map .str) x left) (fun ρ' _ => ⟨by lia, trivial⟩) (hclF rfl) (r.mus (fun _ _ h => h) [0] []) fun h' tk f g1 g2 => ?_
    rw [hT.con.ren, renL_strs] at g2
    exact H _ h' tk _ pl g2
  | n + 1, x, left, pl, fc, ρ, s, tw, M, hl, hf, hM, O, B, r, hT, H => by
    refine fr_hand S O B (fun ρ' => m_turn w.params ρ' sub pl tw (M.map .str) x left) (fun ρ' _ => ⟨by lia, trivial⟩) (hclF rfl) (r.mus (fun _ _ h => h) [1] []) fun ρ' h' tk f X g1 g2 => ?_
    rw [hT.con.ren, renL_strs] at g2
    have hT2 : TwR w.params (restOf ρ' [] f fc.rest) tw Tw := hT.mono fun y hy => mem_restOf hy
    have e4 : (fun j => ρ' (([0, 1, 2, 3, 4] : List Nat).getD j 0)) 4 = ρ 4 := by
      show ρ' 4 = _
      exact X.2 4 (Nat.lt_of_lt_of_eq (by lia : 4 < 5) (by cases pl <;> kernel_rfl : 5 = _))
    have g3 : Rel w.params (fiF w.params) { fc with rest := restOf ρ' [] f fc.rest } (fun j => ρ' (([0, 1, 2, 3, 4] : List Nat).getD j 0)) (mStI sub x (x + 1) (left - 1) tw (M.map .str) (orC x M Tw) (ovC tw Tw) (immOf w.params (restOf ρ' [] f fc.rest))) h' := (g2.mus (fun _ _ h => h) (orC x M Tw) (ovC tw Tw)).imms
    have hrows : All2 (fun a l => ∃ c, a = .con (.ref c) ∧ immOf w.params (restOf ρ' [] f fc.rest) c (twAv l)) tw Tw := by
      have : ∀ {tw : List AV} {Tw : List (Int × Nm)}, TwR w.params (restOf ρ' [] f fc.rest) tw Tw → All2 (fun a l => ∃ c, a = .con (.ref c) ∧ immOf w.params (restOf ρ' [] f fc.rest) c (twAv l)) tw Tw := by
        intro tw
        induction tw with
        | nil => intro Tw h; cases Tw with | nil => trivial | cons => exact h.elim
        | cons a tw ih =>
          intro Tw h
          cases Tw with
          | nil => exact h.elim
          | cons t Tw =>
            obtain ⟨c, e, o, ho, hr⟩ := h.1
            exact ⟨⟨c, e, o, ho, hr⟩, ih h.2⟩
      exact this hT2
    obtain ⟨P1, ev1, hP1⟩ := fresh_runs w.params sub x (x + 1) (left - 1) M (immOf w.params (restOf ρ' [] f fc.rest)) tw Tw hrows hTw
    rw [mF_body]
    refine execs_cons (fc := fc) (S.s _ { fc with rest := restOf ρ' [] f fc.rest } _ _ _ _ _ ev1 hP1 (O.rst _) B _ { s with heap := h', toks := tk } _ g3 fun ρ2 h2' tk2 v2 X2 g4 q2 => ?_)
    obtain rfl := q2
    obtain ⟨hf1, hf2⟩ := hf
    have g5 : Rel w.params (fiF w.params) { fc with rest := restOf ρ' [] f fc.rest } ρ2 (frSt sub x (x + 1) (left - 1) tw (M.map .str) (.list (some ((freC x M Tw).map .str)) []) [0]) h2' :=
      Eq.mp (by kernel_rfl) ((g4.noimm [0] []).view (l := 6) (p := none) (xs := (freC x M Tw).map AV.str) (p' := some ((freC x M Tw).map AV.str)) (xs' := []) (by kernel_rfl) (fun vs hv => by
        show All2 _ ((freC x M Tw).map AV.str ++ []) vs
        rw [List.append_nil]; exact hv))
    refine out_turn (fc := { fc with rest := restOf ρ' [] f fc.rest }) (s := { s with heap := h2', toks := tk2 }) (sndF_ss S (O.rst _) B (tlS (forB (mF w.params)))) (fun ρ3 => m_rest w.params ρ3 sub x (x + 1) (left - 1) tw (M.map .str) ((freC x M Tw).map .str) .dead) (fun ρ3 _ => ⟨?_, ?_, ?_, trivial⟩) (hclF rfl) g5 fun ρ3 h3' tk3 f3 v3 m3 X3 g6 g7 q3 => ?_
    · simp [itm]; lia
    · simp; lia
    · rw [sizeL]; simp [itm]; lia
    · obtain rfl := q3
      have e43 : ρ3 4 = ρ 4 := by
        rw [X3.2 4 (Nat.lt_of_lt_of_eq (by lia : 4 < 7) (by kernel_rfl : 7 = _)), X2.2 4 (Nat.lt_of_lt_of_eq (by lia : 4 < 5) (by kernel_rfl : 5 = _))]; exact e4
      have ih := metLoop S (Q := Q) hs hTw n (x := x + 1) (left := left - 1) (pl := some x) (fc := { fc with rest := restOf ρ3 [] f3 (restOf ρ' [] f fc.rest) }) (ρ := fun j => ρ3 (([0, 1, 2, 7, 4] : List Nat).getD j 0)) (s := { s with heap := h3', toks := tk3 }) (tw := tw) (M := M ++ freC x M Tw) (by lia) hf2 (by rw [List.length_append]; lia) (O.rst _) B ?_ (hT2.mono fun y hy => mem_restOf hy) ?_
      · have e44 : ρ3 (([0, 1, 2, 7, 4] : List Nat).getD 4 0) = ρ 4 := e43
        rw [e44, mF_body] at ih
        exact ih
      · rw [hT2.con.ren] at g7
        have em : absorb (renL ρ3 [0, 1, 2, 7, 4] ((M.map AV.str ++ []) ++ (freC x M Tw).map .str)) [] = (M ++ freC x M Tw).map .str := by
          rw [absorb_eq, List.append_nil, List.append_nil, ← List.map_append, renL_strs]
        rw [em] at g7
        exact g7
      · intro ρ4 h4' tk4 rest4 pl4 d1
        exact H ρ4 h4' tk4 rest4 pl4 d1
end
end Mine
namespace Mine
open PySem PySem.W PyProof.Rows PySem.Calls PySem.Spec
noncomputable def S1v (vs : List AV) (wv : AV) : St := mkS0 [] [.cell (some (.ref 4)), .cell (some wv), .cell none, .cell none, .list none vs] [] []
noncomputable def ks1 : List Nat := [0, 1, 2, 3, 10]
set_option tactic.hygienic true in
theorem sec1_0 (P : Params) (ρ : Nat → Addr) (a : Nat) :
    outc ρ ks1 [] [] (lawA P clL (some (a, [])) (takeS 3 (lawB P)) (stL0 a)) = some (S1v [.num 4, .num 20, .num 0] (.num 2), [], .next, [a = a, List.length ([] : List AV) < 2 ^ 20, a = a, List.length ([] : List AV) < 2 ^ 20]) := by kernel_rfl
set_option tactic.hygienic true in
theorem sec1_1 (P : Params) (ρ : Nat → Addr) (a : Nat) (i : Int) :
    outc ρ ks1 [] [] (lawA P clL (some (a, [.int i])) (takeS 3 (lawB P)) (stL0 a)) = some (S1v [.int (absI i), .num 20, .num 0] (.num 2), [], .next, [a = a, List.length [AV.int i] < 2 ^ 20, a = a, List.length [AV.int i] < 2 ^ 20]) := by kernel_rfl
set_option tactic.hygienic true in
theorem sec1_2 (P : Params) (ρ : Nat → Addr) (a : Nat) (i j : Int) :
    outc ρ ks1 [] [] (lawA P clL (some (a, [.int i, .int j])) (takeS 3 (lawB P)) (stL0 a)) = some (S1v [.int (absI i), .int (absI j), .num 0] (.num 2), [], .next, [a = a, List.length [AV.int i, AV.int j] < 2 ^ 20, a = a, List.length [AV.int i, AV.int j] < 2 ^ 20]) := by kernel_rfl
set_option tactic.hygienic true in
theorem sec1_3 (P : Params) (ρ : Nat → Addr) (a : Nat) (i j k : Int) (r : List AV) :
    outc ρ ks1 [] [] (lawA P clL (some (a, .int i :: .int j :: .int k :: r)) (takeS 3 (lawB P)) (stL0 a)) =
      some (S1v [.int (absI i), .int (absI j), .int (absI k)] (.int (2 + (absI k).fmod 2)), [], .next, [a = a, List.length (AV.int i :: .int j :: .int k :: r) < 2 ^ 20, a = a, List.length (AV.int i :: .int j :: .int k :: r) < 2 ^ 20]) := by kernel_rfl
noncomputable def Sc1 (a b c w : Int) (or : List Nat) (ov : List AV) : St := mkS0 [] [.cell (some (.ref 4)), .cell (some (.int w)), .cell none, .cell none, .list none [.int a, .int b, .int c]] or ov
noncomputable def PhW (b w : Int) : Int → Int → List Nat → List Prop
  | _, left, [] => [¬ 0 < left]
  | x, left, c :: r => (0 < left) :: (0 ≤ x ∧ x ≤ 1000000 ∧ w.natAbs < 2 ^ 64) :: (w ^ x.toNat ≠ 0 ∧ Builtin.divisionGoesByPylong b (w ^ x.toNat) = false) :: (w ≠ 0) ::
      (0 ≤ (b.fdiv (w ^ x.toNat)).fmod w ∧ (b.fdiv (w ^ x.toNat)).fmod w < 2 ^ 62 ∧ ∃ c', AV.str [c] = AV.str [c'] ∧ (nm (Str.ofString "abc"))[((b.fdiv (w ^ x.toNat)).fmod w).toNat]? = some c') :: PhW b w (x + 1) (left - 1) r
noncomputable def appP : List Prop → List Prop → List Prop
  | [], l => l
  | a :: r, l => a :: appP r l
theorem appP_ok : ∀ {a b : List Prop}, Ps a → Ps b → Ps (appP a b)
  | [], _, _, h => h
  | _ :: _, _, h, k => ⟨h.1, appP_ok h.2 k⟩
noncomputable def onesL : List Nat → List Nat
  | [] => [0]
  | _ :: r => 1 :: onesL r
noncomputable def strL : List Nat → List AV
  | [] => []
  | c :: r => .str [c] :: strL r
noncomputable def leftW (a : Int) : Int := if 0 < 1 + a.fmod 10 then 1 + a.fmod 10 - 0 else 0
noncomputable def S2v (v0 : Value) (w : Int) (sub : Nm) : St := mkS0 (lwMu sub []) [.cell (some (.con v0)), .cell (some (.int w)), .cell none, .cell none, .list none [], .list none []] [] []
noncomputable def St2 (cs : List Nat) : Prop := ∀ (P : Params) (ρ : Nat → Addr) (a b c w : Int),
  outc ρ [0, 1, 2, 3, 8, 9] [] nsL (lawA P clL none (takeS 2 (dropS 3 (lawB P))) (Sc1 a b c w (onesL cs) (strL cs))) =
    some (S2v (.ref (ρ 4)) w cs, [], .next, (-(2 ^ 62) ≤ 1 + a.fmod 10 ∧ 1 + a.fmod 10 < 2 ^ 62) :: appP (PhW b w 0 (leftW a) cs) [cs.length ≤ 1000, cs.length < 2 ^ 62])
theorem sec2 : ∀ cs : List Nat, 1 ≤ cs.length → cs.length ≤ 10 → St2 cs
  | [], h, _ => by simp at h
  | [c0], _, _ => by intro P ρ a b c w; kernel_rfl
  | [c0, c1], _, _ => by intro P ρ a b c w; kernel_rfl
  | [c0, c1, c2], _, _ => by intro P ρ a b c w; kernel_rfl
  | [c0, c1, c2, c3], _, _ => by intro P ρ a b c w; kernel_rfl
  | [c0, c1, c2, c3, c4], _, _ => by intro P ρ a b c w; kernel_rfl
  | [c0, c1, c2, c3, c4, c5], _, _ => by intro P ρ a b c w; kernel_rfl
  | [c0, c1, c2, c3, c4, c5, c6], _, _ => by intro P ρ a b c w; kernel_rfl
  | [c0, c1, c2, c3, c4, c5, c6, c7], _, _ => by intro P ρ a b c w; kernel_rfl
  | [c0, c1, c2, c3, c4, c5, c6, c7, c8], _, _ => by intro P ρ a b c w; kernel_rfl
  | [c0, c1, c2, c3, c4, c5, c6, c7, c8, c9], _, _ => by intro P ρ a b c w; kernel_rfl
  | _ :: _ :: _ :: _ :: _ :: _ :: _ :: _ :: _ :: _ :: _ :: _, _, h => by simp at h
/-- the word's letters -/
noncomputable def digs (b w : Int) : Int → Nat → List Nat
  | _, 0 => []
  | x, n + 1 => (97 + ((b.fdiv (w ^ x.toNat)).fmod w).toNat) :: digs b w (x + 1) n
theorem digs_len (b w : Int) : ∀ (n : Nat) (x : Int), (digs b w x n).length = n
  | 0, _ => rfl
  | n + 1, x => by simp [digs, digs_len b w n]
theorem phW_ok {b w : Int} (hw : w = 2 ∨ w = 3) : ∀ (n : Nat) {x left : Int}, left = n → 0 ≤ x → x + n ≤ 20 → Ps (PhW b w x left (digs b w x n))
  | 0, x, left, hl, hx, hn => ⟨by lia, trivial⟩
  | n + 1, x, left, hl, hx, hn => by
    have hw0 : w ≠ 0 := by lia
    have hpos : 0 < w := by lia
    have h1 := Int.fmod_nonneg_of_pos (b.fdiv (w ^ x.toNat)) hpos
    have h2 := Int.fmod_lt_of_pos (b.fdiv (w ^ x.toNat)) hpos
    have hpw : w ^ x.toNat ≠ 0 := Int.pow_ne_zero hw0
    refine ⟨by lia, ⟨hx, by lia, by lia⟩, ⟨hpw, ?_⟩, hw0, ⟨h1, by lia, _, rfl, ?_⟩, phW_ok hw n (by lia) (by lia) (by lia)⟩
    · have hlt : (w ^ x.toNat).natAbs < 2 ^ 40 := by
        rw [Int.natAbs_pow]
        calc w.natAbs ^ x.toNat ≤ 3 ^ x.toNat := Nat.pow_le_pow_left (by lia) _
          _ ≤ 3 ^ 20 := Nat.pow_le_pow_right (by lia) (by lia)
          _ < 2 ^ 40 := by decide
      have : (w ^ x.toNat).natAbs.log2 < 40 := by
        rw [Nat.log2_lt (by lia)]; exact hlt
      unfold Builtin.divisionGoesByPylong
      simp only [Bool.and_eq_false_iff, decide_eq_false_iff_not]
      left
      split <;> lia
    · have : ((b.fdiv (w ^ x.toNat)).fmod w).toNat < 3 := by lia
      revert this
      generalize ((b.fdiv (w ^ x.toNat)).fmod w).toNat = d
      intro hd
      match d, hd with
      | 0, _ => rfl
      | 1, _ => rfl
      | 2, _ => rfl
theorem digs_let {b w : Int} (hw : w = 2 ∨ w = 3) : ∀ (n : Nat) (x : Int), ∀ c ∈ digs b w x n, c = 97 ∨ c = 98 ∨ c = 99
  | 0, _, _, h => nomatch h
  | n + 1, x, c, h => by
    rcases List.mem_cons.mp h with rfl | h
    · have hpos : 0 < w := by omega
      have h1 := Int.fmod_nonneg_of_pos (b.fdiv (w ^ x.toNat)) hpos
      have h2 := Int.fmod_lt_of_pos (b.fdiv (w ^ x.toNat)) hpos
      omega
    · exact digs_let hw n (x + 1) c h
end Mine
namespace Mine
open PySem PySem.W PyProof.Rows PySem.Calls PySem.Spec
theorem law_split (P : Params) : lawB P = takeS 3 (lawB P) ++ (takeS 2 (dropS 3 (lawB P)) ++ (outF P :: (takeS 4 (dropS 6 (lawB P)) ++ (ifS P :: (takeS 1 (dropS 11 (lawB P)) ++ (mF P :: dropS 13 (lawB P))))))) := by kernel_rfl
theorem Rel.recl {P : Params} {fi fi' : FI} {fc : FC} {ρ : Nat → Addr} {st : St} {h : Heap} (r : Rel P fi fc ρ st h) (e : fi'.cl = fi.cl) : Rel P fi' fc ρ st h := by
  obtain ⟨m, os, R⟩ := r
  exact ⟨m, os, R.F, R.N, R.mu, R.len, R.os, R.out, R.inj, R.ap, fun x l hx => R.cl x l (by rw [← e]; exact hx), R.lo, R.im⟩
set_option tactic.hygienic true in
theorem sec1 (P : Params) (a : Nat) (ns : List Int) : ∃ (v1 v2 v3 wv : AV) (A B C w : Int) (Ph : List Prop), (∀ ρ, outc ρ ks1 [] [] (lawA P clL (some (a, ns.map .int)) (takeS 3 (lawB P)) (stL0 a)) = some (S1v [v1, v2, v3] wv, [], .next, Ph)) ∧ (ns.length ≤ 63 → Ps Ph) ∧
    (∀ (ρ : Nat → Addr) (n : Nat) u, RepV ρ n v1 u → RepV ρ n (.int A) u) ∧ (∀ (ρ : Nat → Addr) (n : Nat) u, RepV ρ n v2 u → RepV ρ n (.int B) u) ∧ (∀ (ρ : Nat → Addr) (n : Nat) u, RepV ρ n v3 u → RepV ρ n (.int C) u) ∧
    (∀ (ρ : Nat → Addr) (n : Nat) u, RepV ρ n wv u → RepV ρ n (.int w) u) ∧ (w = 2 ∨ w = 3) := by
  have t : ∀ {xs : List AV}, xs.length ≤ 63 → Ps [a = a, xs.length < 2 ^ 20, a = a, xs.length < 2 ^ 20] := fun h => ⟨rfl, by lia, rfl, by lia, trivial⟩
  match ns with
  | [] => exact ⟨_, _, _, _, 4, 20, 0, 2, _, fun ρ => sec1_0 P ρ a, fun _ => t (by simp), fun _ _ _ h => h, fun _ _ _ h => h, fun _ _ _ h => h, fun _ _ _ h => h, .inl rfl⟩
  | [i] => exact ⟨_, _, _, _, absI i, 20, 0, 2, _, fun ρ => sec1_1 P ρ a i, fun _ => t (by simp), fun _ _ _ h => h, fun _ _ _ h => h, fun _ _ _ h => h, fun _ _ _ h => h, .inl rfl⟩
  | [i, j] => exact ⟨_, _, _, _, absI i, absI j, 0, 2, _, fun ρ => sec1_2 P ρ a i j, fun _ => t (by simp), fun _ _ _ h => h, fun _ _ _ h => h, fun _ _ _ h => h, fun _ _ _ h => h, .inl rfl⟩
  | i :: j :: k :: r =>
    refine ⟨_, _, _, _, absI i, absI j, absI k, _, _, fun ρ => sec1_3 P ρ a i j k (r.map .int), fun h => t (by simp at h ⊢; lia), fun _ _ _ h => h, fun _ _ _ h => h, fun _ _ _ h => h, fun _ _ _ h => h, ?_⟩
    have h1 := Int.fmod_nonneg_of_pos (absI k) (by lia : (0 : Int) < 2)
    have h2 := Int.fmod_lt_of_pos (absI k) (by lia : (0 : Int) < 2)
    lia
noncomputable def MathOk (sub : Nm) : Prop := dueAllL sub 0 sub.length = dueAll sub 0 (sub.length + 1) ∧ (twAll sub 0 sub.length).length ≤ 100 ∧ fewC (twAll sub 0 sub.length) sub.length 1 [] ∧ (metC (twAll sub 0 sub.length) sub.length 1 []).length < sub.length
theorem seg_ok {sub : Nm} (h : okStr sub) (b e : Int) : okStr (seg sub b e) := fun c hc => h c (List.mem_of_mem_take (List.mem_of_mem_drop hc))
theorem dueFromL_ok {sub : Nm} (h : okStr sub) (b : Int) : ∀ (n : Nat) (e : Int), ∀ l ∈ dueFromL sub b e n, l.ok
  | 0, _, _, hl => nomatch hl
  | n + 1, e, l, hl => by
    rcases List.mem_append.mp hl with hl | hl
    · unfold dueAtL at hl
      rcases List.mem_cons.mp hl with rfl | hl
      · exact seg_ok h b e
      · split at hl
        · simp only [List.mem_cons, List.not_mem_nil, or_false] at hl
          rcases hl with rfl | rfl
          · exact seg_ok h b e
          · trivial
        · first | exact nn hl | cases hl
    · exact dueFromL_ok h b n (e + 1) l hl
theorem dueAllL_ok {sub : Nm} (h : okStr sub) : ∀ (n : Nat) (b : Int), ∀ l ∈ dueAllL sub b n, l.ok
  | 0, _, _, hl => nomatch hl
  | n + 1, b, l, hl => by
    rcases List.mem_append.mp hl with hl | hl
    · exact dueFromL_ok h b _ _ l hl
    · exact dueAllL_ok h n (b + 1) l hl
theorem hcl0 {P : Params} {ks : List Nat} : ∀ x l, look x (fi0 P).cl = some l → ks[l]? = some l := fun x l h => by cases h

section
variable {prog : Program} {w : World} {K : Frag} {p : Program} {loose : List Str} {mean : ExcName → Option Value} {mg mb : Str → Option Value}
/-- the last lines -/
theorem lawEnd (S : Snd prog w K p loose mean mg mb 900 200 (evs (T1 w.params) 200)) (ok : PTOk3 prog w K p loose mean mg mb (T1 w.params) 900) {sub : Nm} (hs : 1 ≤ sub.length ∧ sub.length ≤ 10) (hm : MathOk sub) {fc : FC} {ρ : Nat → Addr} {s : Shared} {Q : Flow → Shared → Prop} {tw : List AV}
    (O : FrOk K p loose mean mg mb (fiF w.params) fc) (B : Room2 900 200 fc.A) (r : Rel w.params (fiF w.params) fc ρ (mkS0 (mMu sub) [.cell none, .cell none, .list (some tw) []] [] []) s.heap) (hT : TwR w.params fc.rest tw (twAll sub 0 sub.length))
    (H : ∀ ρ' h' tk rest' st' fi', Rel w.params fi' { fc with rest := rest' } ρ' st' h' → Q (.ret (.bool true)) { s with heap := h', toks := tk }) :
    wpAny (model prog w) fc.A (execs (takeS 1 (dropS 11 (lawB w.params)) ++ (mF w.params :: dropS 13 (lawB w.params))) fc.env) Q NoE s := by
  obtain ⟨_, hm2, hm3, hm4⟩ := hm
  refine out_app ok O B (fun ρ' => m_init w.params ρ' sub tw) (fun _ _ => trivial) (hclF rfl) r fun ρ1 h1 tk1 f1 X1 g1 r1 => ?_
  rw [hT.con.ren] at r1
  have hT1 : TwR w.params (restOf ρ1 [] f1 fc.rest) tw (twAll sub 0 sub.length) := hT.mono fun y hy => mem_restOf hy
  have r2 : Rel w.params (fiF w.params) { fc with rest := restOf ρ1 [] f1 fc.rest } (fun j => ρ1 (ksMt.getD j 0)) (mSt sub none tw [] [] []) h1 := Eq.mp (by kernel_rfl) (r1.view (l := 3) (p := none) (xs := []) (p' := some []) (xs' := []) (by kernel_rfl) (fun vs h => h))
  obtain ⟨pos, e0, e1⟩ : (∃ pos, mF w.params = .For (forT (mF w.params)) (forI (mF w.params)) (forB (mF w.params)) [] pos ∧ plainIt (forI (mF w.params)) = true) := ⟨_, rfl, by kernel_rfl⟩
  refine execs_cons (fc := fc) ?_
  rw [e0]
  refine for_out (fc := { fc with rest := restOf ρ1 [] f1 fc.rest }) (s := { s with heap := h1, toks := tk1 }) (k' := 4) S (O.rst _) B e1 (fun ρ' => m_start w.params ρ' sub tw) rfl (fun _ _ => ⟨⟨by lia, by lia⟩, trivial⟩) (hclF rfl) r2 fun ρ3 h3 tk3 f3 X3 g3 r3 => ?_
  rw [hT1.con.ren] at r3
  refine metLoop S (sub := sub) (Tw := twAll sub 0 sub.length) (by lia) hm2 sub.length (x := 1) (left := if (1 : Int) < (sub.length : Int) + 1 then (sub.length : Int) + 1 - 1 else 0) (pl := none) (M := []) (tw := tw) (fc := { fc with rest := restOf ρ3 [] f3 (restOf ρ1 [] f1 fc.rest) })
    (ρ := fun j => ρ3 (([0, 1, 2, 3, 5] : List Nat).getD j 0)) (s := { s with heap := h3, toks := tk3 }) (by split <;> lia) hm3 (by simp; lia) (O.rst _) B r3 (hT1.mono fun y hy => mem_restOf hy) fun ρ4 h4 tk4 rest4 pl4 r4 => ?_
  refine out_turn (fc := { fc with rest := rest4 }) (s := { s with heap := h4, toks := tk4 }) (sndF_ss S (O.rst rest4) B (dropS 13 (lawB w.params))) (fun ρ5 => m_ret w.params ρ5 sub pl4 tw ((metC (twAll sub 0 sub.length) sub.length 1 []).map .str)) (fun ρ5 _ => ⟨?_, ?_, trivial⟩) (hclF rfl) (r4.mus (fun _ _ h => h) [1] []) fun ρ5 h5 tk5 f5 v5 m5 X5 g5 r5 q5 => ?_
  · simp [itm]; lia
  · simp; lia
  · obtain ⟨u, rfl, ru⟩ := q5
    obtain rfl := ru
    exact H _ h5 tk5 _ _ _ r5
end
end Mine
namespace Mine
open PySem PySem.W PyProof.Rows PySem.Calls PySem.Spec
section
variable {prog : Program} {w : World} {K : Frag} {p : Program} {loose : List Str} {mean : ExcName → Option Value} {mg mb : Str → Option Value}
/-- from the word on -/
theorem lawMid (S : Snd prog w K p loose mean mg mb 900 200 (evs (T1 w.params) 200)) (ok : PTOk3 prog w K p loose mean mg mb (T1 w.params) 900) {sub : Nm} (hs : 1 ≤ sub.length ∧ sub.length ≤ 10) (hm : MathOk sub) (hok : okStr sub) {fc : FC} {ρ : Nat → Addr} {s : Shared} {Q : Flow → Shared → Prop} {v0 : Value} {w0 : Int}
    (O : FrOk K p loose mean mg mb (fiA w.params) fc) (B : Room2 900 210 fc.A) (r : Rel w.params (fiA w.params) fc ρ (lwSt v0 w0 sub [] [] [] [] []) s.heap)
    (H : ∀ ρ' h' tk rest' st' fi', Rel w.params fi' { fc with rest := rest' } ρ' st' h' → Q (.ret (.bool true)) { s with heap := h', toks := tk }) :
    wpAny (model prog w) fc.A (execs (outF w.params :: (takeS 4 (dropS 6 (lawB w.params)) ++ (ifS w.params :: (takeS 1 (dropS 11 (lawB w.params)) ++ (mF w.params :: dropS 13 (lawB w.params)))))) fc.env) Q NoE s := by
  have B1 : Room2 900 200 fc.A := ⟨by have := B.1; lia, by have := B.2; lia⟩
  have eM : fc.env.cells.lookup (stn cMet) = some (ρ 2) := r.cell rfl
  have eP : fc.env.cells.lookup (stn cPlace) = some (ρ 3) := r.cell rfl
  -- the double loop
  obtain ⟨pos, e0, e1⟩ : (∃ pos, outF w.params = .For (forT (outF w.params)) (forI (outF w.params)) (forB (outF w.params)) [] pos ∧ plainIt (forI (outF w.params)) = true) := ⟨_, rfl, by kernel_rfl⟩
  refine execs_cons ?_
  rw [e0]
  refine for_out (k' := 6) S O B1 e1 (fun ρ' => o_start w.params ρ' v0 w0 sub [] []) rfl (fun _ _ => ⟨⟨by lia, by lia⟩, trivial⟩) (hclA rfl) r fun ρ1 h1 tk1 f1 X1 g1 r1 => ?_
  have c1 : ∀ j, j < 4 → (fun j => ρ1 (([0, 1, 2, 3, 4, 5, 7] : List Nat).getD j 0)) j = ρ j := fun j hj => by
    have : ∀ j, j < 4 → ([0, 1, 2, 3, 4, 5, 7] : List Nat).getD j 0 = j := by decide
    show ρ1 (([0, 1, 2, 3, 4, 5, 7] : List Nat).getD j 0) = _
    rw [this j hj, X1.2 j (Nat.lt_of_lt_of_eq (by lia : j < 6) (by kernel_rfl : 6 = _))]
  refine outerLoop S hs.2 sub.length (x := 0) (left := if (0 : Int) < (sub.length : Int) then (sub.length : Int) - 0 else 0) (fc := { fc with rest := restOf ρ1 [] f1 fc.rest }) (ρ := fun j => ρ1 (([0, 1, 2, 3, 4, 5, 7] : List Nat).getD j 0)) (s := { s with heap := h1, toks := tk1 }) (due := []) (tw := []) (L := []) (Tw := [])
    (by split <;> lia) (by lia) (by lia) (O.rst _) B1 r1 trivial trivial (by simp; lia) (by simp; lia) fun ρ2 h2 tk2 rest2 due tw c2 r2 hL hT c3 => ?_
  rw [List.nil_append] at hL hT
  have eM2 : ρ2 2 = ρ 2 := (c2 2 (by lia)).trans (c1 2 (by lia))
  have eP2 : ρ2 3 = ρ 3 := (c2 3 (by lia)).trans (c1 3 (by lia))
  -- the pattern, the host
  have O2 : FrOk K p loose mean mg mb (fi0 w.params) { fc with rest := rest2 } := (O.refi (fi' := fi0 w.params) rfl rfl rfl).rst _
  refine out_app (fc := { fc with rest := rest2 }) (s := { s with heap := h2, toks := tk2 }) ok O2 B1 (fun ρ' => mk_node w.params ρ' v0 w0 sub due tw) (fun _ _ => trivial) hcl0 (r2.cl0 (fi' := fi0 w.params) rfl) fun ρ3 h3 tk3 f3 X3 g3 r3 => ?_
  have n6 : 6 = (lwSt v0 w0 sub due tw [] [] []).n := by kernel_rfl
  have eM3 : ρ3 2 = ρ 2 := by rw [X3.2 2 (by rw [← n6]; lia)]; exact eM2
  have eP3 : ρ3 3 = ρ 3 := by rw [X3.2 3 (by rw [← n6]; lia)]; exact eP2
  have hcon : ∀ (l : List AV), AllCon l → renL ρ3 [] l ++ [] = l := fun l hl => by rw [List.append_nil]; exact hl.ren _ _
  have gD := g3.rep 2 4 _ rfl rfl
  have gT := g3.rep 3 5 _ rfl rfl
  have gM := g3.rep 0 2 _ rfl rfl
  have gP := g3.rep 1 3 _ rfl rfl
  rw [hcon due hL.con] at gD
  rw [hcon tw hT.con] at gT
  have mem : ∀ l, l ∈ ([2, 3, 4, 5] : List Nat) → (ρ3 l, f3 l) ∈ restOf ρ3 [2, 3, 4, 5] f3 rest2 := fun l hl => new_restOf hl
  have ne : ∀ (i l l' : Nat) (a : AO), ([2, 3, 4, 5] : List Nat)[i]? = some l → l' ∈ ([2, 3, 4, 5] : List Nat) → ([EO.mu (.cell none), .mu (.cell none), .mu (.list none (renL ρ3 [] due ++ [])), .mu (.list none (renL ρ3 [] tw ++ []))] : List EO)[i]? = some (.mu a) → l ≠ l' → ρ3 l ≠ ρ3 l' := fun i l l' a h1 h2 h3 h4 q => h4 ((g3.neu i l a h1 h3).2 l' h2 q)
  -- the test
  refine execs_cons (fc := { fc with rest := restOf ρ3 [2, 3, 4, 5] f3 rest2 }) ?_
  refine testLaw (fc := { fc with rest := restOf ρ3 [2, 3, 4, 5] f3 rest2 }) (s := { s with heap := h3, toks := tk3 }) (L := dueAllL sub 0 sub.length) S ok hs.2 (O2.rst _) B r3 (mem 4 (by decide)) gD (hL.more fun c o l h _ => mem_restOf h) hm.1 (dueAllL_ok hok _ _) fun ρ4 h4 tk4 rest4 r4 c4 => ?_
  have in4 : ∀ l, l ∈ ([2, 3, 5] : List Nat) → ρ3 l ≠ ρ3 4 → (ρ3 l, f3 l) ∈ rest4 := fun l hl hne => c4 _ (mem l (by simp only [List.mem_cons, List.not_mem_nil, or_false] at hl ⊢; lia)) hne
  have i2 := in4 2 (by decide) (ne 0 2 4 _ rfl (by decide) rfl (by decide))
  have i3 := in4 3 (by decide) (ne 1 3 4 _ rfl (by decide) rfl (by decide))
  have i5 := in4 5 (by decide) (ne 3 5 4 _ rfl (by decide) rfl (by decide))
  have n23 := ne 0 2 3 _ rfl (by decide) rfl (by decide)
  have n25 := ne 0 2 5 _ rfl (by decide) rfl (by decide)
  have n35 := ne 1 3 5 _ rfl (by decide) rfl (by decide)
  -- the cells and the rows come back
  let rest5 := rest4.filter fun y => !(Nat.beq y.1 (ρ3 2))
  let rest6 := rest5.filter fun y => !(Nat.beq y.1 (ρ3 3))
  let rest7 := rest6.filter fun y => !(Nat.beq y.1 (ρ3 5))
  have r5 := r4.impM (rest := rest5) (ao := .cell none) i2 (fun y hy => dropA_mem.mp hy) rfl (fun _ q => by cases q) gM
  have r6 := r5.impM (rest := rest6) (ao := .cell none) (a := ρ3 3) (o := f3 3) (dropA_mem.mpr ⟨i3, fun q => n23 q.symm⟩) (fun y hy => dropA_mem.mp hy) rfl (fun _ q => by cases q) gP
  have r7 := r6.impM (rest := rest7) (ao := .list none tw) (a := ρ3 5) (o := f3 5) (dropA_mem.mpr ⟨dropA_mem.mpr ⟨i5, fun q => n25 q.symm⟩, fun q => n35 q.symm⟩) (fun y hy => dropA_mem.mp hy) rfl (fun _ q => by cases q) (by
    obtain ⟨vs, k, e, h⟩ := gT
    exact ⟨vs, k, e, h.mono fun a ha v q => by obtain ⟨z, rfl⟩ := hT.con a ha; exact q⟩)
  have r8 : Rel w.params (fi0 w.params) { fc with rest := rest7 } (upR (upR (upR ρ4 0 (ρ3 2)) 1 (ρ3 3)) 2 (ρ3 5)) (mkS0 (n4Mu sub (ρ3 5)) [.cell none, .cell none, .list none tw] [] []) h4 := Eq.mp (by kernel_rfl) r7
  have r9 := (r8.remu (mu' := mMu sub) (fun x a hx => by
    have hmm := look_mem hx
    simp only [mMu, List.mem_cons, Prod.mk.injEq, List.not_mem_nil, or_false] at hmm
    rcases hmm with ⟨rfl, rfl⟩ | ⟨rfl, rfl⟩
    · exact ⟨_, rfl, fun u h => h⟩
    · exact ⟨.con (.ref (ρ3 5)), rfl, fun u h => ⟨Nat.lt_of_lt_of_eq (by lia : 2 < 3) (by kernel_rfl : 3 = _), h.1⟩⟩) [] []).view (l := 2) (p := none) (xs := tw) (p' := some tw) (xs' := []) (by kernel_rfl) (fun vs hv => by
      show All2 _ (tw ++ []) vs
      rw [List.append_nil]; exact hv)
  have r10 := r9.cls (fi' := fiF w.params) (fun x l hx => by
    have hmm := look_mem hx
    have hmm : (x, l) ∈ clF := hmm
    simp only [clF, List.mem_cons, Prod.mk.injEq, List.not_mem_nil, or_false] at hmm
    rcases hmm with ⟨rfl, rfl⟩ | ⟨rfl, rfl⟩
    · exact ⟨Nat.lt_of_lt_of_eq (by lia : 0 < 3) (by kernel_rfl : 3 = _), by show fc.env.cells.lookup _ = some (ρ3 2); rw [eM3]; exact eM⟩
    · exact ⟨Nat.lt_of_lt_of_eq (by lia : 1 < 3) (by kernel_rfl : 3 = _), by show fc.env.cells.lookup _ = some (ρ3 3); rw [eP3]; exact eP⟩)
  have hT7 : TwR w.params rest7 tw (twAll sub 0 sub.length) := by
    refine hT.more fun c o l hc hr => ?_
    have hc3 : (c, o) ∈ restOf ρ3 [2, 3, 4, 5] f3 rest2 := mem_restOf hc
    -- a row is none of the four
    have far : ∀ (i l' : Nat) (a : AO), ([2, 3, 4, 5] : List Nat)[i]? = some l' → ([EO.mu (.cell none), .mu (.cell none), .mu (.list none (renL ρ3 [] due ++ [])), .mu (.list none (renL ρ3 [] tw ++ []))] : List EO)[i]? = some (.mu a) → c ≠ ρ3 l' := fun i l' a h1 h2 => (g3.neu i l' a h1 h2).1 _ hc
    refine dropA_mem.mpr ⟨dropA_mem.mpr ⟨dropA_mem.mpr ⟨c4 _ hc3 (far 2 4 _ rfl rfl), far 0 2 _ rfl rfl⟩, far 1 3 _ rfl rfl⟩, far 3 5 _ rfl rfl⟩
  exact lawEnd S ok hs hm (fc := { fc with rest := rest7 }) (ρ := upR (upR (upR ρ4 0 (ρ3 2)) 1 (ρ3 3)) 2 (ρ3 5)) (s := { s with heap := h4, toks := tk4 }) ((O.refi (fi' := fiF w.params) rfl rfl rfl).rst _) B1 (Eq.mp (by kernel_rfl) r10) hT7 fun ρ' h' tk rest' st' fi' rr => H ρ' h' tk rest' st' fi' rr
end
end Mine
namespace Mine
open PySem PySem.W PyProof.Rows PySem.Calls PySem.Spec
section
variable {prog : Program} {w : World} {K : Frag} {p : Program} {loose : List Str} {mean : ExcName → Option Value} {mg mb : Str → Option Value}
theorem lawWalk (S : Snd prog w K p loose mean mg mb 900 200 (evs (T1 w.params) 200)) (ok : PTOk3 prog w K p loose mean mg mb (T1 w.params) 900)
    (hmath : ∀ sub : Nm, 1 ≤ sub.length → sub.length ≤ 10 → (∀ c ∈ sub, c = 97 ∨ c = 98 ∨ c = 99) → MathOk sub) {ns : List Int} (hns : ns.length ≤ 63) {a : Nat} {fc : FC} {ρ : Nat → Addr} {s : Shared} {Q : Flow → Shared → Prop}
    (O : FrOk K p loose mean mg mb (fiL w.params clL (some (a, ns.map .int))) fc) (B : Room2 900 210 fc.A) (r : Rel w.params (fiL w.params clL (some (a, ns.map .int))) fc ρ (stL0 a) s.heap)
    (H : ∀ ρ' h' tk rest' st' fi', Rel w.params fi' { fc with rest := rest' } ρ' st' h' → Q (.ret (.bool true)) { s with heap := h', toks := tk }) :
    wpAny (model prog w) fc.A (execs (lawB w.params) fc.env) Q NoE s := by
  have B1 : Room2 900 200 fc.A := ⟨by have := B.1; lia, by have := B.2; lia⟩
  obtain ⟨v1, v2, v3, wv, A, B', C, w0, Ph, hev, hPh, k1, k2, k3, k4, hw⟩ := sec1 w.params a ns
  rw [law_split]
  refine out_app ok O B1 hev (fun _ _ => hPh hns) (hclA (P := w.params) (ks := ks1) rfl) r fun ρ1 h1 tk1 f1 X1 g1 r1 => ?_
  have OA : ∀ rest, FrOk K p loose mean mg mb (fiA w.params) { fc with rest := rest } := fun rest => (O.refi (fi' := fiA w.params) rfl rfl rfl).rst rest
  have r2 := (r1.recl (fi' := fiA w.params) rfl).view (l := 4) (p := none) (xs := [v1, v2, v3]) (p' := none) (xs' := [.int A, .int B', .int C]) (by kernel_rfl) (fun vs hv => by
    match vs, hv with
    | [u1, u2, u3], ⟨q1, q2, q3, _⟩ => exact ⟨k1 _ _ _ q1, k2 _ _ _ q2, k3 _ _ _ q3, trivial⟩)
  have r3 := r2.conv (l := 1) (a := .cell (some wv)) (a' := .cell (some (.int w0))) (by kernel_rfl) rfl (fun es q => by cases q) (fun o ⟨v, e, q⟩ => ⟨v, e, k4 _ _ _ q⟩)
  have hcs := digs_len B' w0 (1 + A.fmod 10).toNat 0
  have hA1 := Int.fmod_nonneg_of_pos A (by lia : (0 : Int) < 10)
  have hA2 := Int.fmod_lt_of_pos A (by lia : (0 : Int) < 10)
  have r4 : Rel w.params (fiA w.params) { fc with rest := restOf ρ1 [] f1 fc.rest } (fun j => ρ1 (ks1.getD j 0)) (Sc1 A B' C w0 (onesL (digs B' w0 0 (1 + A.fmod 10).toNat)) (strL (digs B' w0 0 (1 + A.fmod 10).toNat))) h1 := Eq.mp (by kernel_rfl) (r3.mus (fun _ _ h => h) (onesL (digs B' w0 0 (1 + A.fmod 10).toNat)) (strL (digs B' w0 0 (1 + A.fmod 10).toNat)))
  have hpw : Ps (PhW B' w0 0 (leftW A) (digs B' w0 0 (1 + A.fmod 10).toNat)) := phW_ok hw _ (by unfold leftW; split <;> lia) (by lia) (by lia)
  have hlet := digs_let (b := B') hw (1 + A.fmod 10).toNat 0
  refine out_app (fc := { fc with rest := restOf ρ1 [] f1 fc.rest }) (s := { s with heap := h1, toks := tk1 }) ok (OA _) B1 (fun ρ' => sec2 (digs B' w0 0 (1 + A.fmod 10).toNat) (by lia) (by lia) w.params ρ' A B' C w0) (fun _ _ => ⟨⟨by lia, by lia⟩, appP_ok hpw ⟨by lia, by lia, trivial⟩⟩) (hclA rfl) r4 fun ρ2 h2 tk2 f2 X2 g2 r5 => ?_
  have r6 := (r5.view (l := 4) (p := none) (xs := []) (p' := some []) (xs' := []) (by kernel_rfl) (fun vs h => h)).view (l := 5) (p := none) (xs := []) (p' := some []) (xs' := []) (by kernel_rfl) (fun vs h => h)
  have hlen : 1 ≤ (digs B' w0 0 (1 + A.fmod 10).toNat).length ∧ (digs B' w0 0 (1 + A.fmod 10).toNat).length ≤ 10 := ⟨by lia, by lia⟩
  refine lawMid S ok hlen (hmath _ hlen.1 hlen.2 hlet) (fun c hc => by have := hlet c hc; lia) (fc := { fc with rest := restOf ρ2 [] f2 (restOf ρ1 [] f1 fc.rest) }) (ρ := fun j => ρ2 (([0, 1, 2, 3, 8, 9] : List Nat).getD j 0)) (v0 := .ref (ρ2 4)) (w0 := w0) (s := { s with heap := h2, toks := tk2 }) (OA _) B (Eq.mp (by kernel_rfl) r6) fun ρ' h' tk rest' st' fi' rr => ?_
  exact H ρ' h' tk rest' st' fi' rr
end
end Mine
namespace Mine
open PySem PySem.W PyProof.Rows PySem.Calls PySem.Spec
theorem ints_rep {vs : List Value} {ns : List Int} (h : IntsAre vs ns) (ρ : Nat → Addr) (n : Nat) : All2 (RepV ρ n) (ns.map .int) vs := by
  induction h with
  | nil => trivial
  | cons i t r ih => exact ⟨⟨t, rfl⟩, ih⟩
section
variable {prog : Program} {w : World} {K : Frag} {p : Program} {loose : List Str} {mean : ExcName → Option Value} {mg mb : Str → Option Value}
theorem lawTop (hS : Sound1 K) (hmath : ∀ sub : Nm, 1 ≤ sub.length → sub.length ≤ 10 → (∀ c ∈ sub, c = 97 ∨ c = 98 ∨ c = 99) → MathOk sub) {h₀ : Heap} {env : Env} {m : Str → Option Value} {body : List Stmt} {s : Shared} {a : Addr} {vs : List Value} {ns : List Int} {o0 o1 o2 o3 : Obj} {Q : Flow → Shared → Prop} {E : Value → Shared → Prop}
    (KX : K.In h₀) (T : Top p loose mean mg mb h₀) (K0 : Below callerA h₀ [] h₀) (F : Fr h₀ env.locals s.heap m) (N : News h₀ env.locals s.heap [(env.locals + 1 + 1 + 1 + 1, o3), (env.locals + 1 + 1 + 1, o2), (env.locals + 1 + 1, o1), (env.locals + 1, o0)])
    (e3 : o3.data = .cell none) (e2 : o2.data = .cell none) (e1 : o1.data = .cell none) (e0 : o0.data = .cell none) (hL : h₀.IsList a vs.toArray) (hI : IntsAre vs ns) (hm : m (stn cScript) = some (.ref a)) (hns : ns.length ≤ 63)
    (hb : body = lawB w.params) (hsc : env.scope = lawSc w.params) (hcell : env.cells = [(stn cPlace, env.locals + 1 + 1 + 1 + 1), (stn cMet, env.locals + 1 + 1 + 1), (stn cWide, env.locals + 1 + 1), (stn cCells, env.locals + 1)]) (hk : env.scope.kind = .function) (hg : env.globals = mainGlobals) (hbl : env.builtins = builtinsNs) (hf : env.frame = some env.locals)
    (H : ∀ h' tk, (∀ b o, h₀.get? b = some o → h'.get? b = some o) → Q (.ret (.bool true)) { s with heap := h', toks := tk }) :
    wpAny (model prog w) (callerA.deeper env) (execs body env) Q E s := by
  subst hb
  let fc : FC := { A := callerA.deeper env, A₀ := callerA, base := h₀, outer := [], h₀ := h₀, env := env, rest := [] }
  let ρ : Nat → Addr := fun i => env.locals + 1 + i
  have O : FrOk K p loose mean mg mb (fiL w.params clL (some (a, ns.map .int))) fc :=
    ⟨KX, T, rfl, hk, hsc, hg, hbl, fun _ => ⟨K0, Around.frames_deeper K0.stack, hf⟩, fun b xs h => by cases h; exact ⟨vs, hL, ints_rep hI⟩⟩
  have B : Room2 900 210 fc.A := ⟨Nat.le_of_ble_eq_true rfl, Nat.le_of_ble_eq_true rfl⟩
  have lv : ∀ i, (stL0 a).sg.get i ≠ .dead → i < 4 := fun i hi => by
    apply Classical.byContradiction
    intro q
    refine hi ?_
    show (Tr.ofL 0 .nil [AO.cell none, .cell none, .cell none, .cell none]).get i = _
    rw [Tr.get_ofL, if_neg (Nat.not_lt_zero _), List.getElem?_eq_none (by simp; omega)]; rfl
  have gt : ∀ i, i < 4 → (stL0 a).sg.get i = .cell none := fun i hi => by
    match i, hi with
    | 0, _ => rfl
    | 1, _ => rfl
    | 2, _ => rfl
    | 3, _ => rfl
  have r : Rel w.params (fiL w.params clL (some (a, ns.map .int))) fc ρ (stL0 a) s.heap := by
    refine ⟨m, [o0, o1, o2, o3], F, ?_, ?_, rfl, ?_, ?_, ?_, ?_, ?_, ?_, fun _ _ h => h.elim⟩
    · intro q hq
      rcases List.mem_append.mp hq with hq | hq
      · obtain ⟨i, o, ho, hd, rfl⟩ := mem_ledF.mp hq
        rw [Nat.zero_add] at hd ⊢
        have hi := lv i hd
        match i, hi with
        | 0, _ => cases ho; exact N (env.locals + 1, o0) (by simp)
        | 1, _ => cases ho; exact N (env.locals + 1 + 1, o1) (by simp)
        | 2, _ => cases ho; exact N (env.locals + 1 + 1 + 1, o2) (by simp)
        | 3, _ => cases ho; exact N (env.locals + 1 + 1 + 1 + 1, o3) (by simp)
      · first | exact nn hq | cases hq
    · intro x b hx
      have hmm := look_mem hx
      have hmm : (x, b) ∈ [(cScript, AV.con (.ref a))] := hmm
      simp only [List.mem_cons, Prod.mk.injEq, List.not_mem_nil, or_false] at hmm
      obtain ⟨rfl, rfl⟩ := hmm
      exact ⟨_, hm, rfl, rfl⟩
    · intro i o ho
      have hi : i < 4 := (List.getElem?_eq_some_iff.mp ho).1
      rw [gt i hi]
      match i, hi with
      | 0, _ => cases ho; exact e0
      | 1, _ => cases ho; exact e1
      | 2, _ => cases ho; exact e2
      | 3, _ => cases ho; exact e3
    · intro i hi
      have hi : 4 ≤ i := hi
      cases q : (stL0 a).sg.get i with
      | dead => rfl
      | _ => have := lv i (by rw [q]; intro z; cases z); omega
    · intro i j hi hj q
      exact Nat.add_left_cancel q
    · intro i hi q hq; cases hq
    · intro x l hx
      have hmm := look_mem hx
      have hmm : (x, l) ∈ clL := hmm
      simp only [clL, List.mem_cons, Prod.mk.injEq, List.not_mem_nil, or_false] at hmm
      show l < 4 ∧ env.cells.lookup (stn x) = some (env.locals + 1 + l)
      rw [hcell]
      rcases hmm with ⟨rfl, rfl⟩ | ⟨rfl, rfl⟩ | ⟨rfl, rfl⟩ | ⟨rfl, rfl⟩ <;> exact ⟨by decide, by kernel_rfl⟩
    · intro i es q
      have := gt i (lv i (by rw [q]; intro z; cases z))
      rw [q] at this; cases this
  refine wpAny_mono (lawWalk (Mine.S1 hS 200) (ok1 hS) hmath hns O B r (Q := Q) fun ρ' h' tk rest' st' fi' rr => ?_) (fun _ _ h => h) (fun _ _ h => h.elim)
  obtain ⟨m', os', R⟩ := rr
  exact H h' tk fun b o e => R.F.keep b o e
end
end Mine
namespace Mine
open PySem PySem.W PyProof.Rows
/-! squares: the search -/
/-- are the first p signs alike? -/
noncomputable def preR (p : Nat) : Nm → Nm → Bool :=
  Nat.rec (fun _ _ => true) (fun _ ih v w => @List.rec Nat (fun _ => Bool) false (fun a r _ => @List.rec Nat (fun _ => Bool) false (fun b s _ => @Bool.rec (fun _ => Bool) false (ih r s) (Nat.beq a b)) w) v) p
theorem preR_0 (v w : Nm) : preR 0 v w = true := rfl
theorem preR_nil (p : Nat) (w : Nm) : preR (p + 1) [] w = false := rfl
theorem preR_nil2 (p : Nat) (a : Nat) (v : Nm) : preR (p + 1) (a :: v) [] = false := rfl
theorem preR_cons (p a b : Nat) (r s : Nm) : preR (p + 1) (a :: r) (b :: s) = @Bool.rec (fun _ => Bool) false (preR p r s) (Nat.beq a b) := rfl
theorem preR_iff : ∀ {p : Nat} {v w : Nm}, preR p v w = true ↔ v.take p = w.take p ∧ p ≤ v.length ∧ p ≤ w.length
  | 0, v, w => by simp [preR_0]
  | p + 1, [], w => by simp [preR_nil]
  | p + 1, a :: v, [] => by simp [preR_nil2]
  | p + 1, a :: v, b :: w => by
    rw [preR_cons]
    have ih := @preR_iff p v w
    cases h : Nat.beq a b with
    | true => simp [Nat.eq_of_beq_eq_true h, ih]
    | false => have := Nat.ne_of_beq_eq_false h; simp [this]
noncomputable def eqR (v : Nm) : Nm → Bool :=
  @List.rec Nat (fun _ => Nm → Bool) (fun w => @List.rec Nat (fun _ => Bool) true (fun _ _ _ => false) w) (fun a _ ih w => @List.rec Nat (fun _ => Bool) false (fun b s _ => @Bool.rec (fun _ => Bool) false (ih s) (Nat.beq a b)) w) v
theorem eqR_iff : ∀ {v w : Nm}, eqR v w = true ↔ v = w
  | [], [] => by simp [eqR]
  | [], _ :: _ => by simp [eqR]
  | _ :: _, [] => by simp [eqR]
  | a :: v, b :: w => by
    have ih := @eqR_iff v w
    show @Bool.rec (fun _ => Bool) false (eqR v w) (Nat.beq a b) = true ↔ _
    cases h : Nat.beq a b with
    | true => simp [Nat.eq_of_beq_eq_true h, ih]
    | false => have := Nat.ne_of_beq_eq_false h; simp [this]
noncomputable def memR (x : Nm) (l : List Nm) : Bool :=
  @List.rec Nm (fun _ => Bool) false (fun y _ ih => @Bool.rec (fun _ => Bool) ih true (eqR x y)) l
theorem memR_iff {x : Nm} : ∀ {l : List Nm}, memR x l = true ↔ x ∈ l
  | [] => by simp [memR]
  | y :: r => by
    have ih := @memR_iff x r
    show @Bool.rec (fun _ => Bool) (memR x r) true (eqR x y) = true ↔ _
    cases h : eqR x y with
    | true => simp [eqR_iff.mp h]
    | false =>
      have : x ≠ y := fun q => by rw [eqR_iff.mpr q] at h; cases h
      simp [this, ih]
/-- w = v.drop p: the new halves (told backwards) at the end of a word told backwards -/
noncomputable def newR (met : List Nm) (v w : Nm) : Nat → List Nm :=
  @List.rec Nat (fun _ => Nat → List Nm) (fun _ => []) (fun b w' ih p => @Bool.rec (fun _ => List Nm) (ih (p + 1)) (@Bool.rec (fun _ => List Nm) (v.take p :: ih (p + 1)) (ih (p + 1)) (memR (v.take p) met)) (preR p v (b :: w'))) w
noncomputable def few (f : List Nm) (n : Nat) (yes : Bool) : Bool :=
  @List.rec Nm (fun _ => Bool) yes (fun _ r _ => @List.rec Nm (fun _ => Bool) yes (fun _ r _ => @List.rec Nm (fun _ => Bool) yes (fun _ _ _ => false) r) r) f
noncomputable def appR (a b : List Nm) : List Nm := @List.rec Nm (fun _ => List Nm) b (fun x _ ih => x :: ih) a
noncomputable def lenR (m : Nat) (a : List Nm) : Nat := @List.rec Nm (fun _ => Nat → Nat) (fun m => m) (fun _ _ ih m => ih (Nat.add m 1)) a m
/-- one letter more -/
noncomputable def stepR (ih : Nat → Nm → Nat → List Nm → Nat → Bool) (u : Nat) (v : Nm) (n : Nat) (met : List Nm) (m c : Nat) : Bool :=
  (fun f => few f n (@Bool.rec (fun _ => Bool) false (ih u (c :: v) (n + 1) (appR f met) (lenR m f)) (Nat.ble (lenR m f) n))) (newR met (c :: v) v 1)
noncomputable def srch (d : Nat) : Nat → Nm → Nat → List Nm → Nat → Bool :=
  Nat.rec (fun _ _ _ _ _ => true) (fun _ ih u v n met m =>
    @Nat.rec (fun _ => Bool) (stepR ih 1 v n met m 0) (fun u' _ => @Nat.rec (fun _ => Bool)
      (@Bool.rec (fun _ => Bool) false (stepR ih 2 v n met m 1) (stepR ih 1 v n met m 0))
      (fun _ _ => @Bool.rec (fun _ => Bool) false (@Bool.rec (fun _ => Bool) false (stepR ih 2 v n met m 2) (stepR ih 2 v n met m 1)) (stepR ih 2 v n met m 0)) u') u) d
theorem srch_10 : srch 10 0 [] 0 [] 0 = true := by kernel_rfl
end Mine
namespace Mine
open PySem PySem.W PyProof.Rows
/-! what the search shows -/
theorem newR_nil (met : List Nm) (v : Nm) (p : Nat) : newR met v [] p = [] := rfl
theorem newR_cons (met : List Nm) (v : Nm) (b : Nat) (w : Nm) (p : Nat) : newR met v (b :: w) p = if preR p v (b :: w) = true then (if memR (v.take p) met = true then newR met v w (p + 1) else v.take p :: newR met v w (p + 1)) else newR met v w (p + 1) := by
  show @Bool.rec (fun _ => List Nm) (newR met v w (p + 1)) (@Bool.rec (fun _ => List Nm) (v.take p :: newR met v w (p + 1)) (newR met v w (p + 1)) (memR (v.take p) met)) (preR p v (b :: w)) = _
  cases preR p v (b :: w) <;> cases memR (v.take p) met <;> rfl
theorem newR_mem {met : List Nm} {v h : Nm} : ∀ {w : Nm} {p : Nat}, w = v.drop p → (h ∈ newR met v w p ↔ ∃ q, p ≤ q ∧ q < v.length ∧ 2 * q ≤ v.length ∧ v.take q = (v.drop q).take q ∧ h = v.take q ∧ h ∉ met)
  | [], p, e => by
    rw [newR_nil]
    simp only [List.not_mem_nil, false_iff, not_exists, not_and]
    intro q h1 h2
    have : v.length ≤ p := List.drop_eq_nil_iff.mp e.symm
    omega
  | b :: w, p, e => by
    have e' : w = v.drop (p + 1) := by rw [← List.tail_drop, ← e]; rfl
    have ih := @newR_mem met v h w (p + 1) e'
    have hp : p < v.length := by
      apply Classical.byContradiction
      intro q
      rw [List.drop_eq_nil_of_le (by omega)] at e; cases e
    rw [newR_cons]
    have hpre := @preR_iff p v (b :: w)
    rw [e] at hpre ⊢
    have split : (∃ q, p ≤ q ∧ q < v.length ∧ 2 * q ≤ v.length ∧ v.take q = (v.drop q).take q ∧ h = v.take q ∧ h ∉ met) ↔ (2 * p ≤ v.length ∧ v.take p = (v.drop p).take p ∧ h = v.take p ∧ h ∉ met) ∨ (∃ q, p + 1 ≤ q ∧ q < v.length ∧ 2 * q ≤ v.length ∧ v.take q = (v.drop q).take q ∧ h = v.take q ∧ h ∉ met) := by
      constructor
      · rintro ⟨q, h1, h2⟩
        by_cases hq : q = p
        · subst hq; exact .inl h2.2
        · exact .inr ⟨q, by omega, h2⟩
      · rintro (h2 | ⟨q, h1, h2⟩)
        · exact ⟨p, Nat.le_refl _, hp, h2⟩
        · exact ⟨q, by omega, h2⟩
    rw [split, ← ih]
    by_cases c1 : preR p v (v.drop p) = true
    · obtain ⟨a1, a2, a3⟩ := hpre.mp c1
      have a3 : 2 * p ≤ v.length := by rw [List.length_drop] at a3; omega
      rw [if_pos c1]
      by_cases c2 : memR (v.take p) met = true
      · rw [if_pos c2]
        have := memR_iff.mp c2
        constructor
        · exact .inr
        · rintro (⟨_, _, rfl, hn⟩ | h)
          · exact absurd this hn
          · exact h
      · rw [if_neg c2]
        have hn : v.take p ∉ met := fun q => c2 (memR_iff.mpr q)
        rw [List.mem_cons]
        constructor
        · rintro (rfl | h)
          · exact .inl ⟨a3, a1, rfl, hn⟩
          · exact .inr h
        · rintro (⟨_, _, rfl, _⟩ | h)
          · exact .inl rfl
          · exact .inr h
    · rw [if_neg c1]
      constructor
      · exact .inr
      · rintro (⟨a3, a1, _, _⟩ | h)
        · exact absurd (hpre.mpr ⟨a1, by omega, by rw [List.length_drop]; omega⟩) c1
        · exact h
theorem newR_nodup {met : List Nm} {v : Nm} : ∀ {w : Nm} {p : Nat}, w = v.drop p → (newR met v w p).Nodup
  | [], p, e => by rw [newR_nil]; exact .nil
  | b :: w, p, e => by
    have e' : w = v.drop (p + 1) := by rw [← List.tail_drop, ← e]; rfl
    have ih := @newR_nodup met v w (p + 1) e'
    rw [newR_cons]
    split
    · split
      · exact ih
      · refine List.nodup_cons.mpr ⟨fun q => ?_, ih⟩
        obtain ⟨q, h1, h2, h3, h4, h5, h6⟩ := (newR_mem e').mp q
        have := congrArg List.length h5
        simp only [List.length_take] at this
        have hp : p < v.length := by
          apply Classical.byContradiction
          intro q
          rw [List.drop_eq_nil_of_le (by lia)] at e; cases e
        lia
    · exact ih
theorem few_iff {f : List Nm} {n : Nat} {yes : Bool} (h : few f n yes = true) : f.length ≤ 2 ∧ yes = true := by
  match f, h with
  | [], h => exact ⟨by simp, h⟩
  | [_], h => exact ⟨by simp, h⟩
  | [_, _], h => exact ⟨by simp, h⟩
  | _ :: _ :: _ :: _, h => cases h
theorem appR_eq (a b : List Nm) : appR a b = a ++ b := by
  induction a with
  | nil => rfl
  | cons x r ih => show x :: appR r b = _; rw [ih]; rfl
theorem lenR_eq (a : List Nm) : ∀ m, lenR m a = m + a.length := by
  induction a with
  | nil => intro m; rfl
  | cons x r ih =>
    intro m
    show lenR (Nat.add m 1) r = _
    rw [ih]
    simp only [List.length_cons]
    show m + 1 + r.length = _
    lia
noncomputable def okR : Nm → List Nm → Nat → Nat → Nm → Prop
  | _, _, _, _, [] => True
  | v, met, m, n, c :: s => (newR met (c :: v) v 1).length ≤ 2 ∧ m + (newR met (c :: v) v 1).length ≤ n ∧ okR (c :: v) (newR met (c :: v) v 1 ++ met) (m + (newR met (c :: v) v 1).length) (n + 1) s
theorem brec {a b : Bool} (h : @Bool.rec (fun _ => Bool) false a b = true) : a = true ∧ b = true := by
  cases b with
  | true => exact ⟨h, rfl⟩
  | false => cases h
noncomputable def Canon : Nat → Nm → Prop
  | _, [] => True
  | 0, c :: s => c = 0 ∧ Canon 1 s
  | 1, c :: s => (c = 0 ∧ Canon 1 s) ∨ (c = 1 ∧ Canon 2 s)
  | _ + 2, c :: s => c ≤ 2 ∧ Canon 2 s
theorem stepR_ok {ih : Nat → Nm → Nat → List Nm → Nat → Bool} {u : Nat} {v : Nm} {n : Nat} {met : List Nm} {m c : Nat} {s : Nm} (h : stepR ih u v n met m c = true)
    (k : ∀ met' m', ih u (c :: v) (n + 1) met' m' = true → okR (c :: v) met' m' (n + 1) s) : okR v met m n (c :: s) := by
  obtain ⟨h1, h2⟩ := few_iff (n := n) h
  obtain ⟨h3, h4⟩ := brec h2
  rw [appR_eq, lenR_eq] at h3
  rw [lenR_eq] at h4
  exact ⟨h1, Nat.le_of_ble_eq_true h4, k _ _ h3⟩
theorem srch_ok : ∀ (d u : Nat) (v : Nm) (n : Nat) (met : List Nm) (m : Nat) (s : Nm), srch d u v n met m = true → s.length ≤ d → Canon u s → okR v met m n s
  | _, _, _, _, _, _, [], _, _, _ => trivial
  | 0, _, _, _, _, _, _ :: _, _, h, _ => by simp at h
  | d + 1, 0, v, n, met, m, c :: s, h, hl, hc => by
    obtain ⟨rfl, hc⟩ := hc
    exact stepR_ok (ih := srch d) h fun met' m' h' => srch_ok d 1 _ _ _ _ s h' (by simpa using hl) hc
  | d + 1, 1, v, n, met, m, c :: s, h, hl, hc => by
    obtain ⟨h1, h2⟩ := brec (a := stepR (srch d) 2 v n met m 1) (b := stepR (srch d) 1 v n met m 0) h
    rcases hc with ⟨rfl, hc⟩ | ⟨rfl, hc⟩
    · exact stepR_ok h2 fun met' m' h' => srch_ok d 1 _ _ _ _ s h' (by simpa using hl) hc
    · exact stepR_ok h1 fun met' m' h' => srch_ok d 2 _ _ _ _ s h' (by simpa using hl) hc
  | d + 1, u + 2, v, n, met, m, c :: s, h, hl, hc => by
    obtain ⟨h1, h2⟩ := brec (a := @Bool.rec (fun _ => Bool) false (stepR (srch d) 2 v n met m 2) (stepR (srch d) 2 v n met m 1)) (b := stepR (srch d) 2 v n met m 0) h
    obtain ⟨h3, h4⟩ := brec h1
    obtain ⟨hc1, hc⟩ := hc
    have : c = 0 ∨ c = 1 ∨ c = 2 := by lia
    rcases this with rfl | rfl | rfl
    · exact stepR_ok h2 fun met' m' h' => srch_ok d 2 _ _ _ _ s h' (by simpa using hl) hc
    · exact stepR_ok h4 fun met' m' h' => srch_ok d 2 _ _ _ _ s h' (by simpa using hl) hc
    · exact stepR_ok h3 fun met' m' h' => srch_ok d 2 _ _ _ _ s h' (by simpa using hl) hc
/-! other letters -/
theorem map_inj {f : Nat → Nat} (hf : ∀ a b, f a = f b → a = b) : ∀ {x y : Nm}, x.map f = y.map f → x = y
  | [], [], _ => rfl
  | [], _ :: _, h => by cases h
  | _ :: _, [], h => by cases h
  | a :: x, b :: y, h => by
    simp only [List.map_cons, List.cons.injEq] at h
    rw [hf _ _ h.1, map_inj hf h.2]
theorem preR_map {f : Nat → Nat} (hf : ∀ a b, f a = f b → a = b) (p : Nat) (v w : Nm) : preR p (v.map f) (w.map f) = preR p v w := by
  rw [Bool.eq_iff_iff, preR_iff, preR_iff, ← List.map_take, ← List.map_take, List.length_map, List.length_map]
  constructor
  · exact fun h => ⟨map_inj hf h.1, h.2⟩
  · exact fun h => ⟨by rw [h.1], h.2⟩
theorem memR_map {f : Nat → Nat} (hf : ∀ a b, f a = f b → a = b) (x : Nm) (l : List Nm) : memR (x.map f) (l.map (List.map f)) = memR x l := by
  rw [Bool.eq_iff_iff, memR_iff, memR_iff, List.mem_map]
  constructor
  · rintro ⟨y, hy, e⟩
    rw [map_inj hf e] at hy; exact hy
  · exact fun h => ⟨x, h, rfl⟩
theorem newR_map {f : Nat → Nat} (hf : ∀ a b, f a = f b → a = b) (met : List Nm) (v : Nm) : ∀ (w : Nm) (p : Nat), newR (met.map (List.map f)) (v.map f) (w.map f) p = (newR met v w p).map (List.map f)
  | [], p => rfl
  | b :: w, p => by
    have ih := newR_map hf met v w (p + 1)
    have e1 : preR p (v.map f) (f b :: w.map f) = preR p v (b :: w) := preR_map hf p v (b :: w)
    rw [List.map_cons, newR_cons, newR_cons, e1, ← List.map_take, memR_map hf, ih]
    split
    · split
      · rfl
      · rfl
    · rfl
theorem okR_map {f : Nat → Nat} (hf : ∀ a b, f a = f b → a = b) : ∀ (s v : Nm) (met : List Nm) (m n : Nat), okR (v.map f) (met.map (List.map f)) m n (s.map f) → okR v met m n s
  | [], _, _, _, _, _ => trivial
  | c :: s, v, met, m, n, h => by
    have e : newR (met.map (List.map f)) (f c :: v.map f) (v.map f) 1 = (newR met (c :: v) v 1).map (List.map f) := newR_map hf met (c :: v) v 1
    obtain ⟨h1, h2, h3⟩ := h
    rw [e] at h1 h2 h3
    rw [List.length_map] at h1 h2 h3
    refine ⟨h1, h2, okR_map hf s (c :: v) _ _ _ ?_⟩
    rw [List.map_append, List.map_cons]
    exact h3
noncomputable def prm (a b c : Nat) (x : Nat) : Nat := if x = 97 then a else if x = 98 then b else if x = 99 then c else x + 3
theorem prm_inj {a b c : Nat} (h1 : a ≠ b) (h2 : a ≠ c) (h3 : b ≠ c) (ha : a < 3) (hb : b < 3) (hc : c < 3) : ∀ x y, prm a b c x = prm a b c y → x = y := by
  intro x y h
  unfold prm at h
  split at h <;> split at h <;> (try split at h) <;> (try split at h) <;> (try split at h) <;> (try split at h) <;> lia
theorem canon2 {f : Nat → Nat} : ∀ {s : Nm}, (∀ c ∈ s, f c ≤ 2) → Canon 2 (s.map f)
  | [], _ => trivial
  | c :: s, h => ⟨h c (.head _), canon2 fun d hd => h d (.tail _ hd)⟩
theorem canon1 {f g : Nat → Nat} {x y z : Nat} (fx : f x = 0) (fy : f y = 1) (fz : f z = 2) (gx : g x = 0) (gy : g y = 2) (gz : g z = 1) : ∀ {s : Nm}, (∀ c ∈ s, c = x ∨ c = y ∨ c = z) → Canon 1 (s.map f) ∨ Canon 1 (s.map g)
  | [], _ => .inl trivial
  | c :: s, h => by
    have hs := fun d hd => h d (.tail _ hd)
    rcases h c (.head _) with rfl | rfl | rfl
    · rcases canon1 fx fy fz gx gy gz hs with k | k
      · exact .inl (.inl ⟨fx, k⟩)
      · exact .inr (.inl ⟨gx, k⟩)
    · exact .inl (.inr ⟨fy, canon2 fun d hd => by rcases hs d hd with rfl | rfl | rfl <;> lia⟩)
    · exact .inr (.inr ⟨gz, canon2 fun d hd => by rcases hs d hd with rfl | rfl | rfl <;> lia⟩)
theorem canon0 : ∀ {s : Nm}, (∀ c ∈ s, c = 97 ∨ c = 98 ∨ c = 99) → ∃ f : Nat → Nat, (∀ a b, f a = f b → a = b) ∧ Canon 0 (s.map f)
  | [], _ => ⟨fun x => x, fun _ _ h => h, trivial⟩
  | c :: s, h => by
    have hs := fun d hd => h d (List.mem_cons_of_mem c hd)
    rcases h c (.head _) with rfl | rfl | rfl
    · rcases canon1 (f := prm 0 1 2) (g := prm 0 2 1) (x := 97) (y := 98) (z := 99) rfl rfl rfl rfl rfl rfl (s := s) hs with k | k
      · exact ⟨_, prm_inj (by decide) (by decide) (by decide) (by decide) (by decide) (by decide), rfl, k⟩
      · exact ⟨_, prm_inj (by decide) (by decide) (by decide) (by decide) (by decide) (by decide), rfl, k⟩
    · rcases canon1 (f := prm 1 0 2) (g := prm 2 0 1) (x := 98) (y := 97) (z := 99) rfl rfl rfl rfl rfl rfl (s := s) (fun d hd => by have := hs d hd; lia) with k | k
      · exact ⟨_, prm_inj (by decide) (by decide) (by decide) (by decide) (by decide) (by decide), rfl, k⟩
      · exact ⟨_, prm_inj (by decide) (by decide) (by decide) (by decide) (by decide) (by decide), rfl, k⟩
    · rcases canon1 (f := prm 1 2 0) (g := prm 2 1 0) (x := 99) (y := 97) (z := 98) rfl rfl rfl rfl rfl rfl (s := s) (fun d hd => by have := hs d hd; lia) with k | k
      · exact ⟨_, prm_inj (by decide) (by decide) (by decide) (by decide) (by decide) (by decide), rfl, k⟩
      · exact ⟨_, prm_inj (by decide) (by decide) (by decide) (by decide) (by decide) (by decide), rfl, k⟩
theorem okR_all {s : Nm} (hl : s.length ≤ 10) (h : ∀ c ∈ s, c = 97 ∨ c = 98 ∨ c = 99) : okR [] [] 0 0 s := by
  obtain ⟨f, hf, hc⟩ := canon0 h
  exact okR_map hf s [] [] 0 0 (srch_ok 10 0 [] 0 [] 0 (s.map f) srch_10 (by rw [List.length_map]; exact hl) hc)
end Mine
namespace Mine
open PySem PySem.W PyProof.Rows
/-! the law's rows and the search -/
theorem seg_length {sub : Nm} {b e : Int} (h1 : 0 ≤ b) (h2 : b ≤ e) (h3 : e ≤ sub.length) : ((seg sub b e).length : Int) = e - b := by
  unfold seg
  rw [List.length_drop, List.length_take]
  omega
theorem dueAt_eq {sub : Nm} {b e : Int} (h1 : 0 ≤ b) (h2 : b < e) (h3 : e ≤ sub.length) : dueAtL sub b e = dueAt sub b e := by
  have hl := seg_length h1 (by lia : b ≤ e) h3
  have he : e2I sub b e = 2 * e - b := by unfold e2I; lia
  unfold dueAtL dueAt
  rw [he]
  by_cases hc : condL sub b e
  · rw [if_pos hc, if_pos hc.2, hc.2]
  · rw [if_neg hc, if_neg]
    intro q
    refine hc ⟨?_, q⟩
    apply Classical.byContradiction
    intro hn
    have := congrArg List.length q
    have h5 : (seg sub e (2 * e - b)).length ≤ sub.length - e.toNat := by
      unfold seg
      rw [List.length_drop, List.length_take]
      lia
    lia
theorem dueFrom_eq {sub : Nm} {b : Int} (h1 : 0 ≤ b) : ∀ (m : Nat) {e : Int}, b < e → e + m = sub.length + 1 → dueFromL sub b e m = dueFrom sub b e m
  | 0, _, _, _ => rfl
  | m + 1, e, h2, h3 => by
    show dueAtL sub b e ++ dueFromL sub b (e + 1) m = dueAt sub b e ++ dueFrom sub b (e + 1) m
    rw [dueAt_eq h1 h2 (by lia), dueFrom_eq h1 m (by lia) (by lia)]
theorem dueAll_eq {sub : Nm} : ∀ (k : Nat) {b : Int}, 0 ≤ b → b + k = sub.length → dueAllL sub b k = dueAll sub b (k + 1)
  | 0, b, h1, h2 => by
    show [] = dueFrom sub b (b + 1) (sub.length - b.toNat) ++ []
    have : sub.length - b.toNat = 0 := by lia
    rw [this]; rfl
  | k + 1, b, h1, h2 => by
    show dueFromL sub b (b + 1) (sub.length - b.toNat) ++ dueAllL sub (b + 1) k = dueFrom sub b (b + 1) (sub.length - b.toNat) ++ dueAll sub (b + 1) (k + 1)
    rw [dueFrom_eq h1 _ (by lia) (by lia), dueAll_eq k (by lia) (by lia)]
set_option tactic.hygienic true in
theorem mem_twFrom {sub : Nm} {b : Int} {q : Int} {h : Nm} : ∀ (m : Nat) (e : Int), (q, h) ∈ twFrom sub b e m ↔ ∃ e', e ≤ e' ∧ e' < e + m ∧ condL sub b e' ∧ q = 2 * e' - b ∧ h = seg sub b e'
  | 0, e => by
    simp only [twFrom, List.not_mem_nil, false_iff, not_exists, not_and]
    intro e' h1 h2; lia
  | m + 1, e => by
    show (q, h) ∈ twAt sub b e ++ twFrom sub b (e + 1) m ↔ _
    rw [List.mem_append, mem_twFrom m (e + 1)]
    constructor
    · rintro (h1 | ⟨e', h1, h2, h3⟩)
      · unfold twAt at h1
        split at h1
        · rename_i hc
          simp only [List.mem_cons, Prod.mk.injEq, List.not_mem_nil, or_false] at h1
          exact ⟨e, by lia, by lia, hc, h1.1, h1.2⟩
        · cases h1
      · exact ⟨e', by lia, by lia, h3⟩
    · rintro ⟨e', h1, h2, h3, h4, h5⟩
      by_cases he : e' = e
      · subst he
        left
        unfold twAt
        rw [if_pos h3, h4, h5]
        exact .head _
      · exact .inr ⟨e', by lia, by lia, h3, h4, h5⟩
theorem mem_twAll {sub : Nm} {q : Int} {h : Nm} : ∀ (k : Nat) (b : Int), 0 ≤ b → ((q, h) ∈ twAll sub b k ↔ ∃ b' e', b ≤ b' ∧ b' < b + k ∧ b' < e' ∧ e' ≤ max b' sub.length ∧ condL sub b' e' ∧ q = 2 * e' - b' ∧ h = seg sub b' e')
  | 0, b, h0 => by
    simp only [twAll, List.not_mem_nil, false_iff, not_exists, not_and]
    intro b' e' h1 h2; omega
  | k + 1, b, h0 => by
    show (q, h) ∈ twFrom sub b (b + 1) (sub.length - b.toNat) ++ twAll sub (b + 1) k ↔ _
    rw [List.mem_append, mem_twFrom, mem_twAll k (b + 1) (by omega)]
    constructor
    · rintro (⟨e', h1, h2, h3⟩ | ⟨b', e', h1, h2, h3⟩)
      · exact ⟨b, e', by omega, by omega, by omega, by omega, h3⟩
      · exact ⟨b', e', by omega, by omega, h3⟩
    · rintro ⟨b', e', h1, h2, h3, h4, h5⟩
      by_cases hb : b' = b
      · subst hb
        exact .inl ⟨e', by omega, by omega, h5⟩
      · exact .inr ⟨b', e', by omega, by omega, h3, h4, h5⟩
/-- a row told by whole numbers -/
theorem row_nat {m B E : Nat} (h3 : (B : Int) < E) (h7 : (m : Int) = 2 * E - B) : B < E ∧ m + B = 2 * E := by lia
theorem row_nat2 {m B E : Nat} (h : B < E) (h2 : m + B = 2 * E) : 1 ≤ E - B ∧ 2 * (E - B) ≤ m ∧ m - (E - B) = E ∧ m - 2 * (E - B) = B := by lia
theorem row_nat3 {m p : Nat} (h1 : 1 ≤ p) (h2 : 2 * p ≤ m) : m - 2 * p < m - p ∧ m + (m - 2 * p) = 2 * (m - p) ∧ m - p ≤ m ∧ m - 2 * p < m := by lia
theorem row_int {m B E : Nat} (h : m + B = 2 * E) : 2 * (E : Int) - (B : Int) = m := by lia
theorem row_iff {sub : Nm} {m : Nat} {h : Nm} (hm : m ≤ sub.length) : ((m : Int), h) ∈ twAll sub 0 sub.length ↔ ∃ p, 1 ≤ p ∧ 2 * p ≤ m ∧ (sub.take m).drop (m - p) = (sub.take (m - p)).drop (m - 2 * p) ∧ h = (sub.take (m - p)).drop (m - 2 * p) := by
  rw [mem_twAll _ _ (Int.le_refl _)]
  constructor
  · rintro ⟨b, e, h1, h2, h3, h4, ⟨h5, h6⟩, h7, rfl⟩
    obtain ⟨B, rfl⟩ := Int.eq_ofNat_of_zero_le h1
    obtain ⟨E, rfl⟩ := Int.eq_ofNat_of_zero_le (Int.le_trans h1 (Int.le_of_lt h3))
    obtain ⟨g1, g2⟩ := row_nat h3 h7
    obtain ⟨k1, k2, k3, k4⟩ := row_nat2 g1 g2
    refine ⟨E - B, k1, k2, ?_, ?_⟩
    · rw [k3, k4]
      unfold seg at h6
      rw [row_int g2] at h6
      exact h6
    · rw [k3, k4]
      rfl
  · rintro ⟨p, h1, h2, h3, rfl⟩
    obtain ⟨k1, k2, k3, k4⟩ := row_nat3 h1 h2
    refine ⟨((m - 2 * p : Nat) : Int), ((m - p : Nat) : Int), Int.natCast_nonneg _, ?_, Int.ofNat_lt.mpr k1, Int.le_trans (Int.ofNat_le.mpr (Nat.le_trans k3 hm)) (Int.le_max_right _ _), ⟨?_, ?_⟩, (row_int k2).symm, rfl⟩
    · rw [Int.zero_add]; exact Int.ofNat_lt.mpr (Nat.lt_of_lt_of_le k4 hm)
    · show 2 * ((m - p : Nat) : Int) - ((m - 2 * p : Nat) : Int) ≤ _
      rw [row_int k2]; exact Int.ofNat_le.mpr hm
    · unfold seg
      rw [row_int k2, Int.toNat_natCast, Int.toNat_natCast, Int.toNat_natCast]; exact h3
theorem tw_apart {sub : Nm} : ∀ (k : Nat) {b : Int}, 0 ≤ b → b + k = sub.length → (twAll sub b k).Pairwise fun r s => r.1 = s.1 → r.2 ≠ s.2
  | 0, _, _, _ => .nil
  | k + 1, b, h1, h2 => by
    show (twFrom sub b (b + 1) (sub.length - b.toNat) ++ twAll sub (b + 1) k).Pairwise _
    rw [List.pairwise_append]
    refine ⟨?_, tw_apart k (by lia) (by lia), ?_⟩
    · have : ∀ (m : Nat) (e : Int), (twFrom sub b e m).Pairwise fun r s => r.1 = s.1 → r.2 ≠ s.2 := by
        intro m
        induction m with
        | zero => intro e; exact .nil
        | succ m ih =>
          intro e
          show (twAt sub b e ++ twFrom sub b (e + 1) m).Pairwise _
          rw [List.pairwise_append]
          refine ⟨?_, ih _, ?_⟩
          · unfold twAt; split
            · exact List.pairwise_singleton _ _
            · exact .nil
          · rintro ⟨q, h⟩ hq ⟨q', h'⟩ hq' e1
            obtain ⟨e', k1, k2, _, k3, _⟩ := (mem_twFrom m (e + 1)).mp hq'
            unfold twAt at hq
            split at hq
            · simp only [List.mem_cons, Prod.mk.injEq, List.not_mem_nil, or_false] at hq
              have e1 : q = q' := e1
              lia
            · cases hq
      exact this _ _
    · rintro ⟨q, h⟩ hq ⟨q', h'⟩ hq' e1 e2
      have e1 : q = q' := e1
      have e2 : h = h' := e2
      obtain ⟨e', k1, k2, k0, k3, k4⟩ := (mem_twFrom _ _).mp hq
      obtain ⟨b2, e3, j1, j2, j3, j4, ⟨j0, _⟩, j5, j6⟩ := (mem_twAll k (b + 1) (by lia)).mp hq'
      have l1 := seg_length (sub := sub) h1 (by lia : b ≤ e') (by lia)
      have l2 := seg_length (sub := sub) (by lia : 0 ≤ b2) (by lia : b2 ≤ e3) (by lia)
      rw [← k4] at l1
      rw [← j6] at l2
      rw [e2] at l1
      lia
set_option tactic.hygienic true in
theorem freC_mem {x : Int} {M : List Nm} {h : Nm} : ∀ {tw : List (Int × Nm)}, h ∈ freC x M tw ↔ (x, h) ∈ tw ∧ h ∉ M
  | [] => by simp [freC]
  | (e, p) :: r => by
    have ih := @freC_mem x M h r
    unfold freC
    split
    · rename_i hc
      obtain ⟨rfl, hp⟩ := hc
      rw [List.mem_cons, ih, List.mem_cons]
      constructor
      · rintro (rfl | ⟨h1, h2⟩)
        · exact ⟨.inl rfl, hp⟩
        · exact ⟨.inr h1, h2⟩
      · rintro ⟨h1 | h1, h2⟩
        · cases h1; exact .inl rfl
        · exact .inr ⟨h1, h2⟩
    · rename_i hc
      rw [ih, List.mem_cons]
      constructor
      · exact fun ⟨h1, h2⟩ => ⟨.inr h1, h2⟩
      · rintro ⟨h1 | h1, h2⟩
        · cases h1; exact absurd ⟨rfl, h2⟩ hc
        · exact ⟨h1, h2⟩
set_option tactic.hygienic true in
theorem freC_nodup {x : Int} {M : List Nm} : ∀ {tw : List (Int × Nm)}, tw.Pairwise (fun r s => r.1 = s.1 → r.2 ≠ s.2) → (freC x M tw).Nodup
  | [], _ => .nil
  | (e, p) :: r, h => by
    obtain ⟨h1, h2⟩ := List.pairwise_cons.mp h
    have ih := freC_nodup (x := x) (M := M) h2
    unfold freC
    split
    · rename_i hc
      refine List.nodup_cons.mpr ⟨fun q => ?_, ih⟩
      exact h1 _ (freC_mem.mp q).1 hc.1 rfl
    · exact ih
/-- what the law calls new and what the search calls new -/
theorem fresh_same {sub : Nm} {m : Nat} {M met : List Nm} (hm : m ≤ sub.length) (hM : ∀ h, h ∈ M ↔ h.reverse ∈ met) {c : Nat} {v : Nm} (hv : (sub.take m).reverse = c :: v) :
    (∀ h, h ∈ freC m M (twAll sub 0 sub.length) ↔ h.reverse ∈ newR met (c :: v) v 1) ∧ (freC m M (twAll sub 0 sub.length)).length = (newR met (c :: v) v 1).length := by
  have hlen : (c :: v).length = m := by rw [← hv, List.length_reverse, List.length_take]; lia
  have key : ∀ h, h ∈ freC m M (twAll sub 0 sub.length) ↔ h.reverse ∈ newR met (c :: v) v 1 := by
    intro h
    rw [freC_mem, row_iff hm, newR_mem (by rfl), hM]
    have tk : ∀ q, 2 * q ≤ m → (c :: v).take q = ((sub.take m).drop (m - q)).reverse ∧ ((c :: v).drop q).take q = ((sub.take (m - q)).drop (m - 2 * q)).reverse := by
      intro q hq
      rw [← hv]
      constructor
      · rw [List.take_reverse, List.length_take, Nat.min_eq_left hm]
      · rw [List.drop_reverse, List.length_take, Nat.min_eq_left hm, List.take_reverse, List.length_take, List.length_take, List.take_take, Nat.min_eq_left hm, Nat.min_eq_left (by lia : m - q ≤ m)]
        have : m - q - q = m - 2 * q := by lia
        rw [this]
    constructor
    · rintro ⟨⟨p, h1, h2, h3, rfl⟩, h4⟩
      obtain ⟨t1, t2⟩ := tk p h2
      refine ⟨p, h1, by lia, by lia, ?_, ?_, h4⟩
      · rw [t1, t2, h3]
      · rw [t1, h3]
    · rintro ⟨p, h1, h0, h2, h3, h4, h5⟩
      obtain ⟨t1, t2⟩ := tk p (by lia)
      rw [t1, t2] at h3
      rw [t1] at h4
      have h3 := congrArg List.reverse h3
      have h4' := congrArg List.reverse h4
      rw [List.reverse_reverse, List.reverse_reverse] at h3 h4'
      exact ⟨⟨p, h1, by lia, h3, by rw [h4', h3]⟩, h5⟩
  refine ⟨key, ?_⟩
  have n1 : ((freC m M (twAll sub 0 sub.length)).map List.reverse).Nodup := by
    refine List.Pairwise.map _ (fun a b q e => q ?_) (freC_nodup (tw_apart _ (Int.le_refl _) (by lia)))
    have := congrArg List.reverse e
    rw [List.reverse_reverse, List.reverse_reverse] at this
    exact this
  have n2 : (newR met (c :: v) v 1).Nodup := newR_nodup (by rfl)
  have perm := (List.perm_ext_iff_of_nodup n1 n2).mpr fun a => by
    rw [List.mem_map]
    constructor
    · rintro ⟨h, hh, rfl⟩; exact (key h).mp hh
    · intro ha
      exact ⟨a.reverse, (key _).mpr (by rw [List.reverse_reverse]; exact ha), List.reverse_reverse _⟩
  have := perm.length_eq
  rw [List.length_map] at this
  exact this
theorem met_ok {sub : Nm} : ∀ (k : Nat) {m : Nat} {M met : List Nm} {c0 : Nat}, m + k = sub.length → (∀ h, h ∈ M ↔ h.reverse ∈ met) → M.length = c0 → (c0 + 1 ≤ m ∨ m = 0 ∧ c0 = 0) → 1 ≤ sub.length → okR (sub.take m).reverse met c0 m (sub.drop m) →
    fewC (twAll sub 0 sub.length) k (m + 1) M ∧ (metC (twAll sub 0 sub.length) k (m + 1) M).length < sub.length
  | 0, m, M, met, c0, hk, hM, hc, h0, h1, ok => by
    refine ⟨trivial, ?_⟩
    show M.length < _
    lia
  | k + 1, m, M, met, c0, hk, hM, hc, h0, h1, ok => by
    have hlt : m < sub.length := by lia
    have hd : sub.drop m = sub[m] :: sub.drop (m + 1) := List.drop_eq_getElem_cons hlt
    have ht : (sub.take (m + 1)).reverse = sub[m] :: (sub.take m).reverse := by
      rw [List.take_succ_eq_append_getElem hlt, List.reverse_append]; rfl
    rw [hd] at ok
    obtain ⟨o1, o2, o3⟩ := ok
    obtain ⟨f1, f2⟩ := fresh_same (m := m + 1) (by lia) hM ht
    have e1 : ((m + 1 : Nat) : Int) = (m : Int) + 1 := by lia
    rw [e1] at f1 f2
    have ih := met_ok k (m := m + 1) (M := M ++ freC ((m : Int) + 1) M (twAll sub 0 sub.length)) (met := newR met (sub[m] :: (sub.take m).reverse) (sub.take m).reverse 1 ++ met) (c0 := c0 + (newR met (sub[m] :: (sub.take m).reverse) (sub.take m).reverse 1).length)
      (by lia) (fun h => by rw [List.mem_append, List.mem_append, hM, f1]; exact Or.comm) (by rw [List.length_append, f2, hc]) (.inl (by lia)) h1 (by rw [ht]; exact o3)
    rw [e1] at ih
    exact ⟨⟨by rw [f2]; exact o1, ih.1⟩, ih.2⟩
theorem twFrom_len' (sub : Nm) (b : Int) (n : Nat) (e : Int) : (twFrom sub b e n).length ≤ n := by
  induction n generalizing e with
  | zero => exact Nat.le_refl _
  | succ n ih =>
    have h1 : (twAt sub b e).length ≤ 1 := by unfold twAt; split <;> simp
    have h2 := ih (e + 1)
    simp only [twFrom, List.length_append]; lia
theorem twAll_len {sub : Nm} (h : sub.length ≤ 10) : ∀ (k : Nat) (b : Int), (twAll sub b k).length ≤ 10 * k
  | 0, _ => Nat.le_refl _
  | k + 1, b => by
    have h1 := twFrom_len' sub b (sub.length - b.toNat) (b + 1)
    have h2 := twAll_len h k (b + 1)
    simp only [twAll, List.length_append]; lia
theorem math_ok (sub : Nm) (h1 : 1 ≤ sub.length) (h2 : sub.length ≤ 10) (h3 : ∀ c ∈ sub, c = 97 ∨ c = 98 ∨ c = 99) : MathOk sub := by
  have hm := met_ok (sub := sub) sub.length (m := 0) (M := []) (met := []) (c0 := 0) (by lia) (by simp) rfl (.inr ⟨rfl, rfl⟩) h1 (okR_all h2 h3)
  have hl := twAll_len h2 sub.length 0
  exact ⟨dueAll_eq _ (Int.le_refl _) (by lia), by lia, hm.1, hm.2⟩
end Mine
namespace Mine
open PySem PySem.W PyProof.Rows PySem.Calls PySem.Spec
noncomputable def fragH (h : Heap) : Frag := (List.range 600).filterMap fun a => (h.get? a).map fun o => (a, o)
noncomputable def q1 : Program := { pw with main := { pw.main with body := pw.main.body.drop 84 } }
noncomputable def loose1 : List Str := (pw.main.body.take 84).flatMap bindsAtTop
noncomputable def Xt1 (s : Shared) : Bool := recOk [] s
noncomputable def obs1 (s : Shared) : Bool × List FnI := (chkK (fragH s.heap), fnL.map (fnK (fragH s.heap)))
theorem said1 : PySem.Challenge.rw_xm0941_01.wellSaid = true := by
  rw [PySem.W.Fast.te9446332074065402090]
  kernel_rfl
theorem open1 (w : World) : (fencedOpening treeTable pw w 9000).map (fun s => (s.heap, s.gens, s.drawn, s.toks)) = some (boot_heap w.params, Array.mk [], boot_drawn, boot_toks) :=
  boot_open (by kernel_rfl) (by kernel_rfl) (fun s => by kernel_rfl) w
end Mine
namespace Mine
open PySem PySem.W PyProof.Rows PySem.Calls PySem.Spec
theorem run_top {tb : String → Option Builtin} {p : Program} {w : World} {n₀ : Nat} {ann : Option Value} : ∀ {n : Nat} {s s' : Shared} {t : Thread} {f : Flow} {c : Code} {q : Pos},
    segRun tb p w n₀ ann 0 n s t = some (f, s', c, q) → topRun tb p w n₀ ann n s t = some s'
  | 0, _, _, _, _, _, _, h => by cases h
  | n + 1, s, s', t, f, c, q, h => by
    unfold segRun at h
    unfold topRun
    obtain ⟨cur, code, pos, stack⟩ := t
    have key : ∀ g, endAt 0 ⟨cur, code, pos, stack⟩ = some g → through ⟨cur, code, pos, stack⟩ = true := by
      intro g e
      cases stack with
      | nil =>
        cases cur with
        | pure x => cases x with
          | done y => rfl
          | again y => cases e
        | _ => cases e
      | cons a b => cases cur <;> cases e
    have key2 : endAt 0 ⟨cur, code, pos, stack⟩ = none → through ⟨cur, code, pos, stack⟩ = false := by
      intro e
      cases stack with
      | nil =>
        cases cur with
        | pure x => cases x with
          | done y => cases e
          | again y => rfl
        | _ => rfl
      | cons a b => rfl
    cases he : endAt 0 ⟨cur, code, pos, stack⟩ with
    | some g =>
      rw [he] at h
      rw [key g he]
      cases h
      rfl
    | none =>
      rw [he] at h
      rw [key2 he]
      cases hk : stepOk n₀ ann ⟨cur, code, pos, stack⟩ with
      | false => rw [hk] at h; cases h
      | true =>
        rw [hk] at h
        cases hs : step (denote tb) p w s ⟨cur, code, pos, stack⟩ with
        | halt o s₂ => rw [hs] at h; cases h
        | go s₂ t₂ => rw [hs] at h; exact run_top h
noncomputable def insL : Nat → BT → List Obj → BT
  | _, t, [] => t
  | k, t, o :: r => insL (k + 1) (t.ins k o) r
noncomputable def bootT (P : Params) : BT := insL 0 .nil (boot_heap P).objs.toList
theorem boot_abs (P : Params) : absHeap (bootT P) 11 (boot_heap P).life = boot_heap P := by kernel_rfl
theorem boot_size (P : Params) : ((boot_heap P).isNs mainGlobals, (boot_heap P).objs.size, (boot_heap P).nsMap mainGlobals "__annotations__") = (true, 11, some (.ref 6)) := by kernel_rfl
end Mine
namespace Mine
open PySem PySem.W PyProof.Rows PySem.Calls PySem.Spec
theorem run4 (w : World) (os : OsState) : (segRunT treeTable pw w 11 (some (.ref 6)) 0 9000 ⟨bootT w.params, 11, (boot_heap w.params).life, Array.mk [], boot_drawn, boot_toks, os⟩ (topStub pw)).map (fun r => ((staticsOk (importedModules pw.main.body) (boot_heap w.params) r.2.1.abs.heap && namesBound pw r.2.1.abs.heap && gensDone r.2.1.abs && laidKept (boot_heap w.params) r.2.1.abs.heap), openSeen q1 loose1 (importedModules pw.main.body) Xt1 true r.2.1.abs)) = some (true, openGood q1 loose1) := by
  rw [PySem.W.Fast.te10110043849684766642, PySem.W.Fast.te14364793385576792824, PySem.W.Fast.te4187177175401517315]
  kernel_rfl
end Mine
namespace Mine
open PySem PySem.W PyProof.Rows PySem.Calls PySem.Spec
noncomputable def fragT (s : SharedT) : Frag := ((List.range 12) ++ (List.range s.n).reverse).filterMap fun a => match Nat.blt a s.n with
  | true => ((s.tree.get a).bind alive).map fun o => (a, o)
  | false => none
theorem lookup_mem {a : Addr} {o : Obj} : ∀ {K : Frag}, K.lookup a = some o → (a, o) ∈ K
  | [], h => by cases h
  | (b, x) :: r, h => by
    by_cases e : a = b
    · subst e
      rw [List.lookup_cons_self] at h
      cases h
      exact .head _
    · have : (a == b) = false := beq_eq_false_iff_ne.mpr e
      rw [List.lookup_cons, this] at h
      exact .tail _ (lookup_mem h)
theorem fragT_in (s : SharedT) : (fragT s).In s.abs.heap := fun a o h => by
  obtain ⟨b, _, h⟩ := List.mem_filterMap.mp (lookup_mem h)
  cases lt : Nat.blt b s.n with
  | false => rw [lt] at h; cases h
  | true =>
    rw [lt] at h
    obtain ⟨x, hx, e⟩ := Option.map_eq_some_iff.mp h
    cases e
    obtain ⟨y, hy, q⟩ := Option.bind_eq_some_iff.mp hx
    exact (abs_get (Nat.le_of_ble_eq_true lt) hy).trans q
noncomputable def obsT (s : SharedT) : Bool × List FnI := (chkK (fragT s), fnL.map (fnK (fragT s)))
theorem run5 (w : World) (os : OsState) : (segRunT treeTable pw w 11 (some (.ref 6)) 0 9000 ⟨bootT w.params, 11, (boot_heap w.params).life, Array.mk [], boot_drawn, boot_toks, os⟩ (topStub pw)).map (fun r => obsT r.2.1) = some (true, fnL.map fnx) := by
  rw [PySem.W.Fast.te10110043849684766642, PySem.W.Fast.te14364793385576792824]
  kernel_rfl
end Mine
namespace Mine
open PySem PySem.W PyProof.Rows PySem.Calls PySem.Spec
theorem left_of {p q : Program} {loose : List Str} {Xt : Shared → Bool} {N n m₀ : Nat} {ann : Option Value} {Bt : Params → BT} {life : Params → Life} {H₀ : Params → Heap} {gs₀ : Array GenState} {d₀ : Drawn} {k₀ : Nat} {Yf : Shared → Prop} {β : Type} {chk : SharedT → β} {good : β} (hg0 : gs₀ = Array.mk [])
    (open_ : ∀ w : World, (fencedOpening treeTable p w N).map (fun s => (s.heap, s.gens, s.drawn, s.toks)) = some (H₀ w.params, gs₀, d₀, k₀))
    (size : ∀ P, ((H₀ P).isNs mainGlobals, (H₀ P).objs.size, (H₀ P).nsMap mainGlobals "__annotations__") = (true, m₀, ann))
    (abs : ∀ P, absHeap (Bt P) n (life P) = H₀ P)
    (seen : ∀ (w : World) (os : OsState), (segRunT treeTable p w m₀ ann 0 N ⟨Bt w.params, n, life w.params, gs₀, d₀, k₀, os⟩ (topStub p)).map (fun r => ((staticsOk (importedModules p.main.body) (H₀ w.params) r.2.1.abs.heap && namesBound p r.2.1.abs.heap && gensDone r.2.1.abs && laidKept (H₀ w.params) r.2.1.abs.heap), openSeen q loose (importedModules p.main.body) Xt true r.2.1.abs)) = some (true, openGood q loose))
    (said : ∀ (w : World) (os : OsState), (segRunT treeTable p w m₀ ann 0 N ⟨Bt w.params, n, life w.params, gs₀, d₀, k₀, os⟩ (topStub p)).map (fun r => chk r.2.1) = some good)
    (hY : ∀ s : SharedT, chk s = good → Yf s.abs) : LeftO p q loose Xt Yf (fun _ => True) N := fun w => by
  obtain ⟨⟨h, gs, d, k, os⟩, e, e'⟩ := Option.map_eq_some_iff.mp (open_ w)
  obtain ⟨rfl, rfl, rfl, rfl⟩ : h = H₀ w.params ∧ gs = gs₀ ∧ d = d₀ ∧ k = k₀ := by simpa using e'
  obtain ⟨⟨f, s, c, q'⟩, er, e4⟩ := Option.map_eq_some_iff.mp (seen w os)
  obtain ⟨r2, er2, e5⟩ := Option.map_eq_some_iff.mp (said w os)
  rw [er] at er2
  cases er2
  obtain ⟨l1, l2⟩ := Prod.mk.inj e4
  have r := run_top (segRun_of er)
  obtain ⟨z1, z2, z3⟩ : _ ∧ _ ∧ _ := by simpa only [Prod.mk.injEq] using size w.params
  have r' : topRun treeTable p w m₀ ann N ⟨H₀ w.params, gs, d, k, os⟩ (topStub p) = some s.abs := by
    have a := abs w.params
    rw [← a]
    exact r
  have t : topFrom treeTable p w N ⟨H₀ w.params, gs, d, k, os⟩ = some s.abs := by
    unfold topFrom
    dsimp only
    rw [z1, z2, z3, r', hg0]
    show (match staticsOk (importedModules p.main.body) (H₀ w.params) s.abs.heap && namesBound p s.abs.heap && gensDone s.abs && laidKept (H₀ w.params) s.abs.heap with | true => some s.abs | false => none) = some s.abs
    have l1 : (staticsOk (importedModules p.main.body) (H₀ w.params) s.abs.heap && namesBound p s.abs.heap && gensDone s.abs && laidKept (H₀ w.params) s.abs.heap) = true := l1
    rw [l1]
  unfold openEnds
  rw [e]
  show (topFrom treeTable p w N _).map _ = _
  rw [t]
  exact congrArg some (Prod.ext l2 (eq_true (hY s e5)))
noncomputable def Yf1 (s : Shared) : Prop := ∃ K : Frag, K.In s.heap ∧ Sound1 K
theorem good1 {cl : Str → Option Addr} {mean : ExcName → Option Value} {args : List WData} {s₁ s' : Shared} (hk : ∀ b o, s₁.heap.get? b = some o → s'.heap.get? b = some o) (ho : s'.os = s₁.os) (hg : s'.gens = #[]) :
    GoodW PySem.Challenge.rw_xm0941_01.row.toRowW.claim cl mean args s₁ (.ok (.ret (.bool true))) s' :=
  ⟨.inl ⟨.bool true, .bool true, [], rfl, fun _ => rfl, .bool true, by kernel_rfl, fun _ => ⟨.nil, fun a h => nomatch h⟩⟩, hk, ho, hg⟩
end Mine
namespace Mine
open PySem PySem.W PyProof.Rows PySem.Calls PySem.Spec
theorem left1 : LeftO pw q1 loose1 Xt1 Yf1 (fun _ => True) 9000 :=
  left_of (p := pw) (q := q1) (loose := loose1) (Xt := Xt1) (N := 9000) (n := 11) (m₀ := 11) (ann := some (.ref 6)) (Bt := bootT) (life := fun P => (boot_heap P).life) (H₀ := boot_heap) (gs₀ := Array.mk []) (d₀ := boot_drawn) (k₀ := boot_toks) (Yf := Yf1) (chk := obsT) (good := (true, fnL.map fnx))
    rfl open1 boot_size boot_abs run4 run5 (fun s e => ⟨fragT s, fragT_in s, congrArg Prod.fst e, congrArg Prod.snd e⟩)
end Mine
namespace Mine
open PySem PySem.W PyProof.Rows PySem.Calls PySem.Spec
theorem hw1 : PySem.Challenge.rw_xm0941_01.row.toRowW.promised := by w_witness2
theorem fin1 : PySem.Challenge.rw_xm0941_01.Holds := by
  refine holds_law said1 fun said => ?_
  refine holds_open (q := q1) (loose := loose1) (Xt := Xt1) (XP := fun _ _ => True ∧ True) (Yf := Yf1) (Ya := fun _ => True) (YP := fun _ h => ∃ K : Frag, K.In h ∧ Sound1 K) (N := 9000) left1 (fun w s e => of_eq_true e) (fun w h h' ⟨K, KX, hS⟩ k => ⟨K, fun a o e => k _ _ (KX a o e), hS⟩) (fun _ _ => ⟨trivial, trivial⟩) (fun _ _ _ _ _ => ⟨trivial, trivial⟩) (by rfl) (by rfl) (by rfl) (fun s e => recFacts_of e) (by rfl) (by first | assumption | decide +kernel) (by decide +kernel) ⟨rfl, rfl, rfl, rfl, rfl, by decide +kernel⟩ ?hw ?hc
  case hw => exact hw1
  case hc =>
    intro w s₀ s₁ mg mb G Y fa o pm cd doc dV kV ho hd hcd hD hmg hg args vals as hpre hlay hrd hwl hlo
    obtain ⟨K, KX, hS⟩ := Y
    w_strict (
      k_behind G ho hd hcd hD hmg hpre hlay hrd hwl hlo cd
      refine lawTop hS math_ok (by assumption) (by assumption) (by assumption) (by assumption) (by assumption) ?_ ?_ ?_ ?_ (by assumption) (by assumption) ?_ ?_ ?_ ?_ ?_ ?_ ?_ ?_ ?_ ?_
      case refine_1 | refine_2 | refine_3 | refine_4 => (refine Eq.trans (by assumption) ?_; kernel_rfl)
      case refine_5 | refine_7 | refine_8 | refine_9 | refine_10 | refine_11 | refine_12 | refine_13 => kernel_rfl
      case refine_6 => exact Nat.le_of_not_lt fun q => absurd (Int.ofNat_lt.mpr q) (by assumption)
      case refine_14 => (intro h' tk hk; exact good1 hk rfl (by assumption)))
end Mine
theorem PySem.Challenge.cw_xm0941_01_holds : PySem.Challenge.rw_xm0941_01.Holds :=
  Mine.fin1
