import PyProof.Rows.All
import Wide.All
import OpenK.AllK
import Wide.FinOn
import Lean
import PySem.Challenge.RW_xm0941_02
set_option Elab.async false
set_option tactic.hygienic false
set_option maxRecDepth 100000
set_option maxHeartbeats 0
set_option linter.unusedVariables false
set_option genSizeOf false
set_option genInjectivity false
namespace Mine
open PySem PySem.W PyProof.Rows PySem.Calls PySem.Spec

/-! names as lists of code points, compared by plain recursion -/
noncomputable abbrev Nm := List Nat
noncomputable def nm (x : Str) : Nm := x.cps.toList
noncomputable def nmEq : Nm → Nm → Bool
  | [], [] => true
  | a :: r, b :: s => match Nat.beq a b with
    | true => nmEq r s
    | false => false
  | _, _ => false
theorem nmEq_iff : ∀ {a b : Nm}, nmEq a b = true ↔ a = b
  | [], [] => by simp [nmEq]
  | [], _ :: _ => by simp [nmEq]
  | _ :: _, [] => by simp [nmEq]
  | a :: r, b :: s => by
    have ih := @nmEq_iff r s
    unfold nmEq
    cases h : Nat.beq a b with
    | true => have := Nat.eq_of_beq_eq_true h; simp [ih, this]
    | false => have := Nat.ne_of_beq_eq_false h; simp [this]
theorem nmEq_ff {a b : Nm} (h : nmEq a b = false) : a ≠ b := fun e => by rw [nmEq_iff.mpr e] at h; cases h
theorem nm_inj {x y : Str} (h : nm x = nm y) : x = y := by
  obtain ⟨⟨a⟩⟩ := x; obtain ⟨⟨b⟩⟩ := y; simp only [nm] at h; rw [h]
noncomputable def stn (l : Nm) : Str := ⟨l.toArray⟩
theorem nm_stn (l : Nm) : nm (stn l) = l := rfl
theorem stn_nm (x : Str) : stn (nm x) = x := rfl
theorem stn_inj {a b : Nm} (h : stn a = stn b) : a = b := congrArg nm h

inductive AV where
  | none
  | bool (b : Bool)
  | num (i : Int)
  | int (i : Int)
  | txt (l : Nm)
  | str (l : Nm)
  | ref (l : Nat)
  | con (v : Value)

inductive AO where
  | dead
  | inst (C : Addr) (d : Nat)
  | dict (es : List (Nm × AV))
  | tab (es : List (Nm × AV))
  | list (pre : Option (List AV)) (xs : List AV)
  | tup (xs : List AV)
  | cell (v : Option AV)
  | liter (l i : Nat)
  | rng (p : Bool) (a b : Int)
  | riter (p : Bool) (x left : Int)

/-- the abstract heap: a trie over the locations -/
inductive Tr where
  | nil
  | node (v : AO) (l r : Tr)
namespace Tr
noncomputable def get : Tr → Nat → AO
  | .nil, _ => .dead
  | .node v l r, i => match Nat.beq i 0 with
    | true => v
    | false => match Nat.beq (i % 2) 1 with
      | true => l.get (i / 2)
      | false => r.get (i / 2 - 1)
/-- fuel: one more than the index serves -/
noncomputable def setF (a : AO) : Nat → Tr → Nat → Tr
  | 0, t, _ => t
  | k + 1, .nil, i => match Nat.beq i 0 with
    | true => .node a .nil .nil
    | false => match Nat.beq (i % 2) 1 with
      | true => .node .dead (setF a k .nil (i / 2)) .nil
      | false => .node .dead .nil (setF a k .nil (i / 2 - 1))
  | k + 1, .node v l r, i => match Nat.beq i 0 with
    | true => .node a l r
    | false => match Nat.beq (i % 2) 1 with
      | true => .node v (setF a k l (i / 2)) r
      | false => .node v l (setF a k r (i / 2 - 1))
noncomputable def set (t : Tr) (i : Nat) (a : AO) : Tr := setF a (i + 1) t i
theorem beq_eq (a b : Nat) : Nat.beq a b = decide (a = b) := by
  cases h : Nat.beq a b with
  | true => simp [Nat.eq_of_beq_eq_true h]
  | false => simp [Nat.ne_of_beq_eq_false h]
theorem get_node (v : AO) (l r : Tr) (i : Nat) : (node v l r).get i = if i = 0 then v else if i % 2 = 1 then l.get (i / 2) else r.get (i / 2 - 1) := by
  show (match Nat.beq i 0 with | true => v | false => match Nat.beq (i % 2) 1 with | true => l.get (i / 2) | false => r.get (i / 2 - 1)) = _
  rw [beq_eq, beq_eq]
  by_cases h : i = 0
  · simp [h]
  · by_cases q : i % 2 = 1 <;> simp [h, q]
theorem get_nil' (j : Nat) : (node .dead .nil .nil).get j = .dead := by
  rw [get_node]
  split
  · rfl
  · split <;> rfl
theorem get_setF (a : AO) : ∀ (k : Nat) (t : Tr) (i j : Nat), i < k → (setF a k t i).get j = if j = i then a else t.get j
  | 0, _, _, _, h => absurd h (Nat.not_lt_zero _)
  | k + 1, t, i, j, h => by
    obtain ⟨v, l, r, e1, e2⟩ : ∃ v l r, setF a (k + 1) t i = setF a (k + 1) (.node v l r) i ∧ t.get j = (node v l r).get j := by
      induction t with
      | nil => exact ⟨.dead, .nil, .nil, rfl, (get_nil' j).symm⟩
      | node v l r => exact ⟨v, l, r, rfl, rfl⟩
    rw [e1, e2]
    clear e1 e2
    unfold setF
    rw [beq_eq, beq_eq]
    by_cases h0 : i = 0
    · simp only [h0, decide_true, get_node]
      by_cases hj : j = 0 <;> simp [hj]
    · have hk : i / 2 < k := Nat.lt_of_lt_of_le (Nat.div_lt_self (Nat.pos_of_ne_zero h0) (by decide)) (Nat.le_of_lt_succ h)
      by_cases q : i % 2 = 1
      · simp only [h0, q, decide_true, decide_false, get_node]
        rw [get_setF a k l (i / 2) (j / 2) hk]
        by_cases hj : j = 0
        · simp [hj, Ne.symm h0]
        · by_cases q2 : j % 2 = 1
          · by_cases e : j = i
            · simp [e, h0, q]
            · have : j / 2 ≠ i / 2 := fun z => e (by rw [← Nat.div_add_mod j 2, ← Nat.div_add_mod i 2, z, q, q2])
              simp [hj, q2, e, this]
          · have : j ≠ i := fun z => q2 (z ▸ q)
            simp [hj, q2, this]
      · simp only [h0, q, decide_false, get_node]
        rw [get_setF a k r (i / 2 - 1) (j / 2 - 1) (Nat.lt_of_le_of_lt (Nat.sub_le _ _) hk)]
        by_cases hj : j = 0
        · simp [hj, Ne.symm h0]
        · by_cases q2 : j % 2 = 1
          · have : j ≠ i := fun z => q (z ▸ q2)
            simp [hj, q2, this]
          · by_cases e : j = i
            · simp [e, h0, q]
            · have ri := (Nat.mod_two_eq_zero_or_one i).resolve_right q
              have rj := (Nat.mod_two_eq_zero_or_one j).resolve_right q2
              have pi : 0 < i / 2 := Nat.pos_of_ne_zero fun z => h0 (by rw [← Nat.div_add_mod i 2, z, ri])
              have pj : 0 < j / 2 := Nat.pos_of_ne_zero fun z => hj (by rw [← Nat.div_add_mod j 2, z, rj])
              have : j / 2 - 1 ≠ i / 2 - 1 := fun z => e (by rw [← Nat.div_add_mod j 2, ← Nat.div_add_mod i 2, Nat.sub_one_cancel pj pi z, ri, rj])
              simp [hj, q2, e, this]
theorem get_set (t : Tr) (i : Nat) (a : AO) (j : Nat) : (t.set i a).get j = if j = i then a else t.get j := get_setF a (i + 1) t i j (Nat.lt_succ_self _)
noncomputable def ofL : Nat → Tr → List AO → Tr
  | _, t, [] => t
  | k, t, a :: r => ofL (k + 1) (t.set k a) r
end Tr

structure St where
  mu : List (Nm × AV)
  sg : Tr
  n : Nat
  or : List Nat
  ov : List AV := []
  /-- what is known of tuples in the rest -/
  imm : Nat → List AV → Prop := fun _ _ => False

noncomputable def All2 {α β : Type} (R : α → β → Prop) : List α → List β → Prop
  | [], [] => True
  | a :: r, b :: s => R a b ∧ All2 R r s
  | _, _ => False
theorem All2.length {α β : Type} {R : α → β → Prop} : ∀ {a : List α} {b : List β}, All2 R a b → a.length = b.length
  | [], [], _ => rfl
  | _ :: _, _ :: _, h => congrArg (· + 1) h.2.length
  | [], _ :: _, h => h.elim
  | _ :: _, [], h => h.elim
theorem All2.mono {α β : Type} {R S : α → β → Prop} : ∀ {a : List α} {b : List β}, All2 R a b → (∀ x ∈ a, ∀ y, R x y → S x y) → All2 S a b
  | [], [], _, _ => trivial
  | _ :: _, _ :: _, h, k => ⟨k _ (.head _) _ h.1, h.2.mono fun x m y r => k x (.tail _ m) y r⟩
theorem All2.map2 {α α' β : Type} {R : α → β → Prop} {S : α' → β → Prop} : ∀ {a : List α} {a' : List α'} {b : List β}, All2 (fun x x' => ∀ y, R x y → S x' y) a a' → All2 R a b → All2 S a' b
  | [], [], [], _, _ => trivial
  | _ :: _, _ :: _, _ :: _, h, k => ⟨h.1 _ k.1, h.2.map2 k.2⟩
  | _ :: _, _ :: _, [], _, k => k.elim
  | [], [], _ :: _, _, k => k.elim
  | [], _ :: _, _, h, _ => h.elim
  | _ :: _, [], _, h, _ => h.elim
theorem All2.one {α β : Type} {R : α → β → Prop} {a : α} {vs : List β} (h : All2 R [a] vs) : ∃ v, vs = [v] ∧ R a v ∧ True := by
  cases vs with
  | nil => exact h.elim
  | cons v vs => induction vs with
    | nil => exact ⟨v, rfl, h⟩
    | cons _ _ => exact h.2.elim
theorem All2.two {α β : Type} {R : α → β → Prop} {a b : α} {vs : List β} (h : All2 R [a, b] vs) : ∃ v w, vs = [v, w] ∧ R a v ∧ R b w ∧ True := by
  cases vs with
  | nil => exact h.elim
  | cons v vs =>
    obtain ⟨w, rfl, k⟩ := All2.one h.2
    exact ⟨v, w, rfl, h.1, k⟩
theorem All2.three {α β : Type} {R : α → β → Prop} {a b c : α} {vs : List β} (h : All2 R [a, b, c] vs) : ∃ v w u, vs = [v, w, u] ∧ R a v ∧ R b w ∧ R c u ∧ True := by
  cases vs with
  | nil => exact h.elim
  | cons v vs =>
    obtain ⟨w, u, rfl, k⟩ := All2.two h.2
    exact ⟨v, w, u, rfl, h.1, k⟩
theorem All2.append {α β : Type} {R : α → β → Prop} : ∀ {a c : List α} {b d : List β}, All2 R a b → All2 R c d → All2 R (a ++ c) (b ++ d)
  | [], _, [], _, _, k => k
  | _ :: _, _, _ :: _, _, h, k => ⟨h.1, h.2.append k⟩
theorem All2.get {α β : Type} {R : α → β → Prop} : ∀ {a : List α} {b : List β} {i : Nat} {x : α}, All2 R a b → a[i]? = some x → ∃ y, b[i]? = some y ∧ R x y
  | a :: _, b :: _, 0, x, h, e => ⟨b, rfl, by cases e; exact h.1⟩
  | _ :: r, _ :: s, i + 1, x, h, e => All2.get (a := r) (b := s) (i := i) h.2 (by simpa using e)
theorem All2.drop {α β : Type} {R : α → β → Prop} : ∀ {a : List α} {b : List β} (n : Nat), All2 R a b → All2 R (a.drop n) (b.drop n)
  | _, _, 0, h => by simpa using h
  | [], [], n + 1, _ => by simp [All2]
  | _ :: r, _ :: s, n + 1, h => by simpa using All2.drop n h.2
theorem All2.take {α β : Type} {R : α → β → Prop} : ∀ {a : List α} {b : List β} (n : Nat), All2 R a b → All2 R (a.take n) (b.take n)
  | _, _, 0, _ => by simp [All2]
  | [], [], n + 1, _ => by simp [All2]
  | _ :: r, _ :: s, n + 1, h => by simpa [All2] using ⟨h.1, All2.take n h.2⟩
theorem All2.reverse {α β : Type} {R : α → β → Prop} : ∀ {a : List α} {b : List β}, All2 R a b → All2 R a.reverse b.reverse
  | [], [], _ => trivial
  | _ :: _, _ :: _, h => by simpa using h.2.reverse.append (c := [_]) (d := [_]) ⟨h.1, trivial⟩
theorem All2.set {α β : Type} {R : α → β → Prop} : ∀ {a : List α} {b : List β} {i : Nat} {x : α} {y : β}, All2 R a b → R x y → All2 R (a.set i x) (b.set i y)
  | [], [], _, _, _, _, _ => trivial
  | _ :: _, _ :: _, 0, _, _, h, k => ⟨k, h.2⟩
  | _ :: _, _ :: _, i + 1, _, _, h, k => ⟨h.1, h.2.set k⟩

/-- a list's items: what stands ahead is a letter, or nothing -/
noncomputable def itm : Option (List AV) → List AV → List AV
  | none, xs => xs
  | some pre, xs => pre ++ xs
theorem itm_append (pre : Option (List AV)) (xs ys : List AV) : itm pre (xs ++ ys) = itm pre xs ++ ys := by
  cases pre <;> simp [itm]
noncomputable def RepV (ρ : Nat → Addr) (n : Nat) : AV → Value → Prop
  | .none, v => v = .none
  | .bool b, v => v = .bool b
  | .num i, v => ∃ t, v = .int i t
  | .int i, v => ∃ t, v = .int i t
  | .txt l, v => ∃ t, v = .str (stn l) t
  | .str l, v => ∃ t, v = .str (stn l) t
  | .ref l, v => l < n ∧ v = .ref (ρ l)
  | .con c, v => v = c ∧ handedIn c = true

noncomputable def RepE (P : Params) (ρ : Nat → Addr) (n : Nat) (e : Nm × AV) (d : DictEntry) : Prop :=
  d.hash = PyData.keyHash P (stn e.1) ∧ (∃ t, d.key = .str (stn e.1) t) ∧ RepV ρ n e.2 d.val
noncomputable def RepO (P : Params) (ρ : Nat → Addr) (n : Nat) : AO → Obj → Prop
  | .dead, _ => True
  | .inst C d, o => d < n ∧ o = instObj C (ρ d)
  | .dict es, o => ∃ ds k, o = dictOf ds k ∧ All2 (RepE P ρ n) es ds
  | .tab es, o => ∃ ds k, o = dictOf ds k ∧ All2 (RepE P ρ n) es ds ∧ (es.map (·.1)).Nodup
  | .list pre xs, o => ∃ vs k, o = listOf (List.toArray vs) k ∧ All2 (RepV ρ n) (itm pre xs) vs
  | .tup xs, o => ∃ vs k, o = { cls := .type "tuple", data := .seq (List.toArray vs) k } ∧ All2 (RepV ρ n) xs vs
  | .cell (some a), o => ∃ v, o.data = .cell (some v) ∧ RepV ρ n a v
  | .cell none, o => o.data = .cell none
  | .liter l i, o => l < n ∧ o.cls = .type "list_iterator" ∧ o.data = .fields #[.ref (ρ l), .int i 0]
  | .rng _ a b, o => (-(2 ^ 62) ≤ a ∧ a < 2 ^ 62 ∧ -(2 ^ 62) ≤ b ∧ b < 2 ^ 62) ∧ ∃ t u v, o = { cls := .type "range", dict := none, data := .fields #[.int a t, .int b u, .int 1 v], slots := #[] }
  | .riter _ x left, o => o = { cls := .type "range_iterator", dict := none, data := .fields #[rawInt x, rawInt left, rawInt 1], slots := #[] }

noncomputable def Ext (ρ : Nat → Addr) (n : Nat) (ρ' : Nat → Addr) (n' : Nat) : Prop := n ≤ n' ∧ ∀ i, i < n → ρ' i = ρ i
theorem Ext.refl {ρ : Nat → Addr} {n : Nat} : Ext ρ n ρ n := ⟨Nat.le_refl _, fun _ _ => rfl⟩
theorem Ext.trans {ρ ρ' ρ'' : Nat → Addr} {n n' n'' : Nat} (a : Ext ρ n ρ' n') (b : Ext ρ' n' ρ'' n'') : Ext ρ n ρ'' n'' :=
  ⟨Nat.le_trans a.1 b.1, fun i h => (b.2 i (Nat.lt_of_lt_of_le h a.1)).trans (a.2 i h)⟩
theorem RepV.ext {ρ ρ' : Nat → Addr} {n n' : Nat} (x : Ext ρ n ρ' n') : ∀ {a : AV} {v : Value}, RepV ρ n a v → RepV ρ' n' a v
  | .none, _, h => h
  | .bool _, _, h => h
  | .num _, _, h => h
  | .int _, _, h => h
  | .txt _, _, h => h
  | .str _, _, h => h
  | .ref l, _, h => ⟨Nat.lt_of_lt_of_le h.1 x.1, by rw [x.2 l h.1]; exact h.2⟩
  | .con _, _, h => h
theorem RepE.ext {P : Params} {ρ ρ' : Nat → Addr} {n n' : Nat} (x : Ext ρ n ρ' n') {e : Nm × AV} {d : DictEntry} (h : RepE P ρ n e d) : RepE P ρ' n' e d := ⟨h.1, h.2.1, h.2.2.ext x⟩
theorem RepO.ext {P : Params} {ρ ρ' : Nat → Addr} {n n' : Nat} (x : Ext ρ n ρ' n') : ∀ {a : AO} {o : Obj}, RepO P ρ n a o → RepO P ρ' n' a o
  | .dead, _, h => h
  | .inst C d, _, h => ⟨Nat.lt_of_lt_of_le h.1 x.1, by rw [x.2 d h.1]; exact h.2⟩
  | .dict _, _, ⟨ds, k, e, h⟩ => ⟨ds, k, e, h.mono fun _ _ _ r => r.ext x⟩
  | .tab _, _, ⟨ds, k, e, h, q⟩ => ⟨ds, k, e, h.mono fun _ _ _ r => r.ext x, q⟩
  | .list _ _, _, ⟨ds, k, e, h⟩ => ⟨ds, k, e, h.mono fun _ _ _ r => r.ext x⟩
  | .tup _, _, ⟨ds, k, e, h⟩ => ⟨ds, k, e, h.mono fun _ _ _ r => r.ext x⟩
  | .cell (some _), _, ⟨v, e, h⟩ => ⟨v, e, h.ext x⟩
  | .cell none, _, h => h
  | .liter l i, _, h => ⟨Nat.lt_of_lt_of_le h.1 x.1, by rw [x.2 l h.1]; exact h.2⟩
  | .rng _ _ _, _, h => h
  | .riter _ _ _, _, h => h

/-! the ledger of the abstract heap: what is dead is left out -/
noncomputable def AO.isDead : AO → Bool
  | .dead => true
  | _ => false
noncomputable def AO.mut : AO → Bool
  | .dead => false
  | .tup _ => false
  | .inst _ _ => false
  | .rng _ _ _ => false
  | _ => true
theorem AO.mut_live {a : AO} (h : a.mut = true) : a ≠ .dead := by
  intro q; rw [q] at h; cases h
theorem AO.isDead_iff {a : AO} : a.isDead = true ↔ a = .dead := by cases a <;> simp [AO.isDead]
noncomputable def ledF (sg : Tr) (ρ : Nat → Addr) : Nat → List Obj → List (Addr × Obj)
  | _, [] => []
  | k, o :: r => match (sg.get k).isDead with
    | true => ledF sg ρ (k + 1) r
    | false => (ρ k, o) :: ledF sg ρ (k + 1) r
theorem mem_ledF {sg : Tr} {ρ : Nat → Addr} : ∀ {k : Nat} {os : List Obj} {p : Addr × Obj}, p ∈ ledF sg ρ k os ↔ ∃ i o, os[i]? = some o ∧ sg.get (k + i) ≠ .dead ∧ p = (ρ (k + i), o)
  | k, [], p => by simp [ledF]
  | k, o :: r, p => by
    have ih := @mem_ledF sg ρ (k + 1) r p
    unfold ledF
    have tailIff : (∃ i o', (o :: r)[i]? = some o' ∧ sg.get (k + i) ≠ .dead ∧ p = (ρ (k + i), o')) ↔ (sg.get k ≠ .dead ∧ p = (ρ k, o)) ∨ ∃ i o', r[i]? = some o' ∧ sg.get (k + 1 + i) ≠ .dead ∧ p = (ρ (k + 1 + i), o') := by
      constructor
      · rintro ⟨i, o', h, hd, rfl⟩
        induction i with
        | zero => left; cases h; exact ⟨hd, rfl⟩
        | succ i =>
          right
          have e : k + (i + 1) = k + 1 + i := by lia
          exact ⟨i, o', by simpa using h, by rw [← e]; exact hd, by rw [e]⟩
      · rintro (⟨hd, rfl⟩ | ⟨i, o', h, hd, rfl⟩)
        · exact ⟨0, o, rfl, hd, rfl⟩
        · have e : k + (i + 1) = k + 1 + i := by lia
          exact ⟨i + 1, o', by simpa using h, by rw [e]; exact hd, by rw [e]⟩
    rw [tailIff]
    cases h : (sg.get k).isDead with
    | true =>
      have := AO.isDead_iff.mp h
      simp only [this, ne_eq, not_true_eq_false, false_and, false_or]
      exact ih
    | false =>
      have : sg.get k ≠ .dead := fun e => by rw [AO.isDead_iff.mpr e] at h; cases h
      simp only [List.mem_cons, this, ne_eq, not_false_eq_true, true_and]
      rw [ih]
theorem ledF_upd {sg : Tr} {ρ : Nat → Addr} {rest : List (Addr × Obj)} {o o' : Obj} : ∀ {k i : Nat} {os : List Obj}, os[i]? = some o → sg.get (k + i) ≠ .dead →
    (∀ j, j < os.length → sg.get (k + j) ≠ .dead → ρ (k + j) = ρ (k + i) → j = i) → (∀ p ∈ rest, p.1 ≠ ρ (k + i)) →
    Upd (ρ (k + i)) o o' (ledF sg ρ k os ++ rest) (ledF sg ρ k (os.set i o') ++ rest)
  | _, _, [], e, _, _, _ => by simp at e
  | k, 0, x :: r, e, hd, inj, ap => by
    cases e
    have h : (sg.get k).isDead = false := by cases q : (sg.get k).isDead with | false => rfl | true => exact absurd (AO.isDead_iff.mp q) hd
    simp only [ledF, List.set_cons_zero, h, List.cons_append]
    refine .head fun p hp => ?_
    rcases List.mem_append.mp hp with hp | hp
    · obtain ⟨j, y, hj, hdj, rfl⟩ := mem_ledF.mp hp
      intro q
      have e3 : k + (j + 1) = k + 1 + j := by lia
      have := inj (j + 1) (Nat.succ_lt_succ (List.getElem?_eq_some_iff.mp hj).1) (by rw [e3]; exact hdj) (by rw [e3]; exact q)
      cases this
    · exact ap p hp
  | k, i + 1, x :: r, e, hd, inj, ap => by
    have e2 : k + (i + 1) = k + 1 + i := by lia
    have ih := @ledF_upd sg ρ rest o o' (k + 1) i r (by simpa using e) (by rw [← e2]; exact hd) (fun j hj hdj q => by
      have e3 : k + (j + 1) = k + 1 + j := by lia
      have := inj (j + 1) (Nat.succ_lt_succ hj) (by rw [e3]; exact hdj) (by rw [e2, ← q, e3])
      lia) (by rw [← e2]; exact ap)
    rw [e2]
    simp only [ledF, List.set_cons_succ]
    cases h : (sg.get k).isDead with
    | true => exact ih
    | false =>
      simp only [List.cons_append]
      refine .tail (fun q => ?_) ih
      have hk : sg.get k ≠ .dead := fun z => by rw [AO.isDead_iff.mpr z] at h; cases h
      have := inj 0 (Nat.succ_pos _) hk (by rw [e2]; exact q)
      cases this

noncomputable def look (x : Nm) : List (Nm × α) → Option α
  | [] => none
  | p :: r => match nmEq x p.1 with
    | true => some p.2
    | false => look x r
noncomputable def put (x : Nm) (a : α) : List (Nm × α) → List (Nm × α)
  | [] => [(x, a)]
  | p :: r => match nmEq x p.1 with
    | true => (x, a) :: r
    | false => p :: put x a r
theorem look_put (x : Nm) (a : α) (y : Nm) : ∀ l : List (Nm × α), look y (put x a l) = if y = x then some a else look y l
  | [] => by
    simp only [put, look]
    cases h : nmEq y x with
    | true => simp [nmEq_iff.mp h]
    | false => simp [nmEq_ff h]
  | p :: r => by
    simp only [put]
    cases h : nmEq x p.1 with
    | true =>
      have e := nmEq_iff.mp h
      simp only [look]
      cases h2 : nmEq y x with
      | true => simp [nmEq_iff.mp h2]
      | false => rw [← e, h2]; simp [nmEq_ff h2]
    | false =>
      simp only [look]
      cases h2 : nmEq y p.1 with
      | true =>
        have e := nmEq_iff.mp h2
        have : y ≠ x := fun q => nmEq_ff h (q ▸ e)
        simp [this]
      | false => exact look_put x a y r

structure FI where
  sc : Scope
  cl : List (Nm × Nat)
  own : Bool
  /-- a list of the ground -/
  scr : Option (Nat × List AV)
structure FC where
  A : Around
  A₀ : Around
  base : Heap
  outer : List Env
  h₀ : Heap
  env : Env
  rest : List (Addr × Obj)

structure RelAt (P : Params) (fi : FI) (fc : FC) (ρ : Nat → Addr) (st : St) (h : Heap) (m : Str → Option Value) (os : List Obj) : Prop where
  F : Fr fc.h₀ fc.env.locals h m
  N : News fc.h₀ fc.env.locals h (ledF st.sg ρ 0 os ++ fc.rest)
  mu : ∀ x a, look x st.mu = some a → ∃ v, m (stn x) = some v ∧ RepV ρ st.n a v
  len : os.length = st.n
  os : ∀ i o, os[i]? = some o → RepO P ρ st.n (st.sg.get i) o
  out : ∀ i, st.n ≤ i → st.sg.get i = .dead
  inj : ∀ i j, (st.sg.get i).mut = true → st.sg.get j ≠ .dead → ρ i = ρ j → i = j
  ap : ∀ i, (st.sg.get i).mut = true → ∀ p ∈ fc.rest, p.1 ≠ ρ i
  cl : ∀ x l, look x fi.cl = some l → l < st.n ∧ fc.env.cells.lookup (stn x) = some (ρ l)
  lo : ∀ i es, st.sg.get i = .tab es → ρ i ≠ sysModules
  im : ∀ c xs, st.imm c xs → ∃ o, (c, o) ∈ fc.rest ∧ RepO P (fun _ => 0) 0 (.tup xs) o
noncomputable def Rel (P : Params) (fi : FI) (fc : FC) (ρ : Nat → Addr) (st : St) (h : Heap) : Prop := ∃ m os, RelAt P fi fc ρ st h m os

section
variable {P : Params} {fi : FI} {fc : FC} {ρ : Nat → Addr} {st : St} {h h' : Heap} {m : Str → Option Value} {os : List Obj}
theorem RelAt.lt (R : RelAt P fi fc ρ st h m os) {l : Nat} (e : st.sg.get l ≠ .dead) : l < st.n := by
  apply Classical.byContradiction
  intro q
  exact e (R.out l (by lia))
theorem RelAt.get (R : RelAt P fi fc ρ st h m os) {l : Nat} {a : AO} (e : st.sg.get l = a) (hd : a ≠ .dead) : ∃ o, os[l]? = some o ∧ RepO P ρ st.n a o ∧ (ρ l, o) ∈ ledF st.sg ρ 0 os ++ fc.rest ∧ h.get? (ρ l) = some o := by
  have hl : l < st.n := R.lt (e ▸ hd)
  have ho : os[l]? = some (os[l]'(by rw [R.len]; exact hl)) := by simp
  have hm : (ρ l, os[l]'(by rw [R.len]; exact hl)) ∈ ledF st.sg ρ 0 os ++ fc.rest := List.mem_append_left _ (mem_ledF.mpr ⟨l, _, ho, by rw [Nat.zero_add]; exact e ▸ hd, by rw [Nat.zero_add]⟩)
  exact ⟨_, ho, e ▸ R.os l _ ho, hm, (R.N _ hm).1⟩
theorem RelAt.upd (R : RelAt P fi fc ρ st h m os) {l : Nat} {o o' : Obj} (e : os[l]? = some o) (hm : (st.sg.get l).mut = true := by simp [*, AO.mut]) : Upd (ρ l) o o' (ledF st.sg ρ 0 os ++ fc.rest) (ledF st.sg ρ 0 (os.set l o') ++ fc.rest) := by
  have hl : l < st.n := by rw [← R.len]; exact (List.getElem?_eq_some_iff.mp e).1
  have hd := AO.mut_live hm
  have := ledF_upd (sg := st.sg) (ρ := ρ) (k := 0) (i := l) (os := os) (o' := o') (rest := fc.rest) e (by simpa using hd) (fun j hj hdj q => (R.inj l j hm (by simpa using hdj) (by simpa using q.symm)).symm) (by simpa using R.ap l hm)
  simpa using this
/-- an object of the abstract heap has changed -/
theorem RelAt.set (R : RelAt P fi fc ρ st h m os) {l : Nat} {a' : AO} {o' : Obj} (hl : l < st.n) (F : Fr fc.h₀ fc.env.locals h' m) (N : News fc.h₀ fc.env.locals h' (ledF st.sg ρ 0 (os.set l o') ++ fc.rest)) (r : RepO P ρ st.n a' o')
    (hlo : ∀ es, a' = .tab es → ρ l ≠ sysModules := by intro _ q; cases q) (hm : (st.sg.get l).mut = true := by simp [*, AO.mut]) :
    RelAt P fi fc ρ { st with sg := st.sg.set l a' } h' m (os.set l o') := by
  have hd := AO.mut_live hm
  have N2 : News fc.h₀ fc.env.locals h' (ledF (st.sg.set l a') ρ 0 (os.set l o') ++ fc.rest) := fun p hp => by
    refine N p ?_
    rcases List.mem_append.mp hp with hp | hp
    · obtain ⟨i, o, ho, hg, rfl⟩ := mem_ledF.mp hp
      refine List.mem_append_left _ (mem_ledF.mpr ⟨i, o, ho, ?_, rfl⟩)
      rw [Nat.zero_add] at hg ⊢
      rw [Tr.get_set] at hg
      by_cases q : i = l
      · rw [q]; exact hd
      · rw [if_neg q] at hg; exact hg
    · exact List.mem_append_right _ hp
  have lv : ∀ i, (st.sg.set l a').get i ≠ .dead → st.sg.get i ≠ .dead := fun i hg => by
    rw [Tr.get_set] at hg
    by_cases q : i = l
    · rw [q]; exact hd
    · rw [if_neg q] at hg; exact hg
  have mv : ∀ i, ((st.sg.set l a').get i).mut = true → (st.sg.get i).mut = true := fun i hg => by
    rw [Tr.get_set] at hg
    by_cases q : i = l
    · rw [q]; exact hm
    · rw [if_neg q] at hg; exact hg
  refine ⟨F, N2, R.mu, by simpa using R.len, fun i o e => ?_, fun i hi => ?_, fun i j hi hj => R.inj i j (mv i hi) (lv j hj), fun i hi => R.ap i (mv i hi), R.cl, fun i es q => ?_, R.im⟩
  · show RepO P ρ st.n ((st.sg.set l a').get i) o
    rw [Tr.get_set]
    by_cases q : i = l
    · subst q
      rw [if_pos rfl]
      rw [List.getElem?_set_self (by rw [R.len]; exact hl)] at e
      cases e; exact r
    · rw [if_neg q]
      rw [List.getElem?_set_ne (Ne.symm q)] at e
      exact R.os i o e
  · show (st.sg.set l a').get i = _
    rw [Tr.get_set, if_neg (by show ¬ i = l; have : st.n ≤ i := hi; lia)]
    exact R.out i hi
  · have q : (st.sg.set l a').get i = .tab es := q
    rw [Tr.get_set] at q
    by_cases e : i = l
    · rw [if_pos e] at q
      rw [e]; exact hlo es q
    · rw [if_neg e] at q
      exact R.lo i es q
/-- an object that is given up -/
theorem RelAt.kill (R : RelAt P fi fc ρ st h m os) {l : Nat} (F : Fr fc.h₀ fc.env.locals h' m) (hm : (st.sg.get l).mut = true) (k : ∀ q ∈ ledF st.sg ρ 0 os ++ fc.rest, q.1 ≠ ρ l → h'.get? q.1 = some q.2) :
    RelAt P fi fc ρ { st with sg := st.sg.set l .dead } h' m os := by
  have lv : ∀ i, (st.sg.set l .dead).get i ≠ .dead → st.sg.get i ≠ .dead ∧ i ≠ l := fun i hg => by
    rw [Tr.get_set] at hg
    by_cases q : i = l
    · rw [if_pos q] at hg; exact absurd rfl hg
    · rw [if_neg q] at hg; exact ⟨hg, q⟩
  have mv : ∀ i, ((st.sg.set l .dead).get i).mut = true → (st.sg.get i).mut = true := fun i hg => by
    rw [Tr.get_set] at hg
    by_cases q : i = l
    · rw [if_pos q] at hg; cases hg
    · rw [if_neg q] at hg; exact hg
  have N2 : News fc.h₀ fc.env.locals h' (ledF (st.sg.set l .dead) ρ 0 os ++ fc.rest) := fun p hp => by
    have hm : p ∈ ledF st.sg ρ 0 os ++ fc.rest ∧ p.1 ≠ ρ l := by
      rcases List.mem_append.mp hp with hp | hp
      · obtain ⟨i, o, ho, hg, rfl⟩ := mem_ledF.mp hp
        rw [Nat.zero_add] at hg
        obtain ⟨h1, h2⟩ := lv i hg
        exact ⟨List.mem_append_left _ (mem_ledF.mpr ⟨i, o, ho, by rw [Nat.zero_add]; exact h1, rfl⟩), fun z => h2 (R.inj l i hm h1 (by simpa using z.symm)).symm⟩
      · exact ⟨List.mem_append_right _ hp, R.ap l hm p hp⟩
    exact ⟨k p hm.1 hm.2, (R.N p hm.1).2⟩
  refine ⟨F, N2, R.mu, R.len, fun i o e => ?_, fun i hi => ?_, fun i j hi hj => R.inj i j (mv i hi) (lv j hj).1, fun i hi => R.ap i (mv i hi), R.cl, fun i es q => ?_, R.im⟩
  · show RepO P ρ st.n ((st.sg.set l .dead).get i) o
    rw [Tr.get_set]
    by_cases q : i = l
    · rw [if_pos q]; trivial
    · rw [if_neg q]; exact R.os i o e
  · show (st.sg.set l .dead).get i = _
    rw [Tr.get_set]
    split
    · rfl
    · exact R.out i hi
  · have q : (st.sg.set l .dead).get i = .tab es := q
    rw [Tr.get_set] at q
    by_cases e : i = l
    · rw [if_pos e] at q; cases q
    · rw [if_neg e] at q; exact R.lo i es q
/-- a new object -/
theorem RelAt.push (R : RelAt P fi fc ρ st h m os) {a : Addr} {ao : AO} {o : Obj} (F : Fr fc.h₀ fc.env.locals h' m) (N : News fc.h₀ fc.env.locals h' ((a, o) :: (ledF st.sg ρ 0 os ++ fc.rest)))
    (lt : ∀ p ∈ ledF st.sg ρ 0 os ++ fc.rest, p.1 < a) (r : RepO P (fun i => if i = st.n then a else ρ i) (st.n + 1) ao o)
    (hlo : ∀ es, ao = .tab es → a ≠ sysModules := by intro _ q; cases q) :
    RelAt P fi fc (fun i => if i = st.n then a else ρ i) { st with sg := st.sg.set st.n ao, n := st.n + 1 } h' m (os ++ [o]) ∧ Ext ρ st.n (fun i => if i = st.n then a else ρ i) (st.n + 1) := by
  have X : Ext ρ st.n (fun i => if i = st.n then a else ρ i) (st.n + 1) := ⟨Nat.le_succ _, fun i hi => by simp [Nat.ne_of_lt hi]⟩
  have lv : ∀ i, (st.sg.set st.n ao).get i ≠ .dead → i ≠ st.n → st.sg.get i ≠ .dead := fun i hg q => by
    rw [Tr.get_set, if_neg q] at hg; exact hg
  have hlt : ∀ i, st.sg.get i ≠ .dead → ρ i < a := fun i hi => by
    obtain ⟨o', _, _, hm, _⟩ := R.get (l := i) rfl hi
    exact lt (ρ i, o') hm
  refine ⟨⟨F, ?_, ?_, by simp [R.len], ?_, ?_, ?_, ?_, ?_, ?_, R.im⟩, X⟩
  · intro p hp
    rcases List.mem_append.mp hp with hp | hp
    · obtain ⟨i, o', ho, hg, rfl⟩ := mem_ledF.mp hp
      rw [Nat.zero_add] at hg ⊢
      by_cases q : i = st.n
      · subst q
        rw [← R.len, List.getElem?_append_right (Nat.le_refl _)] at ho
        simp only [Nat.sub_self, List.getElem?_cons_zero, Option.some.injEq] at ho
        subst ho
        simp only [if_true]
        exact N _ (.head _)
      · have hi : i < os.length := by have := (List.getElem?_eq_some_iff.mp ho).1; simp only [List.length_append, List.length_cons, List.length_nil, R.len] at this ⊢; lia
        rw [List.getElem?_append_left hi] at ho
        simp only [q, if_false]
        exact N _ (.tail _ (List.mem_append_left _ (mem_ledF.mpr ⟨i, o', ho, by rw [Nat.zero_add]; exact lv i hg q, by rw [Nat.zero_add]⟩)))
    · exact N _ (.tail _ (List.mem_append_right _ hp))
  · intro x b hb
    obtain ⟨v, hv, rv⟩ := R.mu x b hb
    exact ⟨v, hv, rv.ext X⟩
  · intro i o' e
    show RepO P _ (st.n + 1) ((st.sg.set st.n ao).get i) o'
    rw [Tr.get_set]
    by_cases q : i = st.n
    · rw [if_pos q]
      rw [q, ← R.len, List.getElem?_append_right (Nat.le_refl _)] at e
      simp only [Nat.sub_self, List.getElem?_cons_zero, Option.some.injEq] at e
      subst e; exact r
    · rw [if_neg q]
      have hi : i < os.length := by have := (List.getElem?_eq_some_iff.mp e).1; simp only [List.length_append, List.length_cons, List.length_nil, R.len] at this ⊢; lia
      rw [List.getElem?_append_left hi] at e
      exact (R.os i o' e).ext X
  · intro i hi
    show (st.sg.set st.n ao).get i = _
    have hi' : st.n + 1 ≤ i := hi
    rw [Tr.get_set, if_neg (by lia)]
    exact R.out i (by lia)
  · intro i j hi hj q
    have him : ((st.sg.set st.n ao).get i).mut = true := hi
    have hi : (st.sg.set st.n ao).get i ≠ .dead := AO.mut_live hi
    have mv : ∀ i, ((st.sg.set st.n ao).get i).mut = true → i ≠ st.n → (st.sg.get i).mut = true := fun i hg q => by
      rw [Tr.get_set, if_neg q] at hg; exact hg
    have hj : (st.sg.set st.n ao).get j ≠ .dead := hj
    by_cases h1 : i = st.n <;> by_cases h2 : j = st.n <;> simp only [h1, h2, if_true, if_false] at q ⊢
    · have := hlt j (lv j hj h2); exact absurd q (by intro e; rw [← e] at this; exact Nat.lt_irrefl _ this)
    · have := hlt i (lv i hi h1); exact absurd q (by intro e; rw [e] at this; exact Nat.lt_irrefl _ this)
    · exact R.inj i j (mv i him h1) (lv j hj h2) q
  · intro i hi p hp
    have hi : ((st.sg.set st.n ao).get i).mut = true := hi
    by_cases h1 : i = st.n
    · simp only [h1, if_true]
      exact Nat.ne_of_lt (lt p (List.mem_append_right _ hp))
    · simp only [h1, if_false]
      rw [Tr.get_set, if_neg h1] at hi
      exact R.ap i hi p hp
  · intro x l hl
    obtain ⟨q1, q2⟩ := R.cl x l hl
    refine ⟨Nat.lt_succ_of_lt q1, ?_⟩
    rw [q2]; simp [Nat.ne_of_lt q1]
  · intro i es q
    have q : (st.sg.set st.n ao).get i = .tab es := q
    rw [Tr.get_set] at q
    by_cases e : i = st.n
    · rw [if_pos e] at q
      simp only [e, if_true]; exact hlo es q
    · rw [if_neg e] at q
      simp only [e, if_false]; exact R.lo i es q
/-- a local name has been bound -/
theorem RelAt.bind (R : RelAt P fi fc ρ st h m os) {x : Nm} {a : AV} {v : Value} (F : Fr fc.h₀ fc.env.locals h' (fun y => if y = stn x then some v else m y)) (N : News fc.h₀ fc.env.locals h' (ledF st.sg ρ 0 os ++ fc.rest))
    (r : RepV ρ st.n a v) : RelAt P fi fc ρ { st with mu := put x a st.mu } h' (fun y => if y = stn x then some v else m y) os := by
  refine ⟨F, N, ?_, R.len, R.os, R.out, R.inj, R.ap, R.cl, R.lo, R.im⟩
  intro y b hb
  rw [look_put] at hb
  by_cases e : y = x
  · rw [if_pos e] at hb
    cases hb
    exact ⟨v, by simp [e], r⟩
  · rw [if_neg e] at hb
    obtain ⟨u, hu, q⟩ := R.mu y b hb
    exact ⟨u, by simp [show stn y ≠ stn x from fun q => e (stn_inj q), hu], q⟩
/-- the same state seen in another heap -/
theorem RelAt.heap (R : RelAt P fi fc ρ st h m os) (F : Fr fc.h₀ fc.env.locals h' m) (N : News fc.h₀ fc.env.locals h' (ledF st.sg ρ 0 os ++ fc.rest)) : RelAt P fi fc ρ st h' m os := ⟨F, N, R.mu, R.len, R.os, R.out, R.inj, R.ap, R.cl, R.lo, R.im⟩
/-- the oracle is of no weight -/
theorem RelAt.orc (R : RelAt P fi fc ρ st h m os) (o : List Nat) (v : List AV) : RelAt P fi fc ρ { st with or := o, ov := v } h m os := ⟨R.F, R.N, R.mu, R.len, R.os, R.out, R.inj, R.ap, R.cl, R.lo, R.im⟩
end
end Mine
namespace Mine
open PySem PySem.W PyProof.Rows PySem.Calls PySem.Spec

theorem nn {α : Type} {x : α} {G : Prop} (h : none = some x) : G := nomatch h
theorem ff {G : Prop} (h : false = true) : G := nomatch h
/-! results: the value, the state, what is asked of the letters -/
noncomputable abbrev Rr (α : Type) := Option (α × St × List Prop)
noncomputable def ret {α : Type} (a : α) (st : St) : Rr α := some (a, st, [])
/-- a premise that is left out where it is seen to hold -/
noncomputable def hcP (c : Bool) (p : Prop) : List Prop := match c with
  | true => []
  | false => [p]
noncomputable def hyp {α : Type} (p : Prop) (a : α) (st : St) : Rr α := some (a, st, [p])
noncomputable def hypc {α : Type} (c : Bool) (p : Prop) (a : α) (st : St) : Rr α := some (a, st, hcP c p)
noncomputable def bnd {α β : Type} (x : Rr α) (k : α → St → Rr β) : Rr β := match x with
  | none => none
  | some (a, st, P) => match k a st with
    | none => none
    | some (b, st', P') => some (b, st', P ++ P')
noncomputable def opt {γ α : Type} (o : Option γ) (k : γ → Rr α) : Rr α := match o with
  | some a => k a
  | none => none
theorem opt_el {γ α : Type} {o : Option γ} {k : γ → Rr α} {x : α × St × List Prop} {C : Prop} (h : opt o k = some x) (H : ∀ a, o = some a → k a = some x → C) : C := by
  cases o with
  | none => cases h
  | some a => exact H a rfl h
noncomputable def okOr {β : Type} (c : Bool) (r : Rr β) : Rr β := match c with
  | true => r
  | false => none
theorem okOr_el {β : Type} {c : Bool} {r : Rr β} {x : β × St × List Prop} {C : Prop} (h : okOr c r = some x) (H : c = true → r = some x → C) : C := by
  cases c with
  | true => exact H rfl h
  | false => exact nn h
noncomputable def obnd {γ α : Type} (o : Option γ) (k : γ → Option α) : Option α := match o with
  | some a => k a
  | none => none
theorem obnd_el {γ α : Type} {o : Option γ} {k : γ → Option α} {x : α} {C : Prop} (h : obnd o k = some x) (H : ∀ a, o = some a → k a = some x → C) : C := by
  cases o with
  | none => exact nn h
  | some a => exact H a rfl h
noncomputable def okO {α : Type} (c : Bool) (r : Option α) : Option α := match c with
  | true => r
  | false => none
theorem okO_el {α : Type} {c : Bool} {r : Option α} {x : α} {C : Prop} (h : okO c r = some x) (H : c = true → r = some x → C) : C := by
  cases c with
  | true => exact H rfl h
  | false => exact nn h
theorem notT {b : Bool} (h : (!b) = true) : b = false := by
  cases b with
  | true => exact ff h
  | false => rfl
noncomputable def Ps : List Prop → Prop
  | [] => True
  | p :: r => p ∧ Ps r
theorem Ps.append {a b : List Prop} (h : Ps (a ++ b)) : Ps a ∧ Ps b := by
  induction a with
  | nil => exact ⟨trivial, h⟩
  | cons p r ih => exact ⟨⟨h.1, (ih h.2).1⟩, (ih h.2).2⟩
theorem hyc {c : Bool} {p : Prop} (h : Ps (hcP c p)) (k : c = true → p) : p := by
  cases c with
  | true => exact k rfl
  | false => exact h.1
set_option tactic.hygienic true in
theorem bnd_some {α β : Type} {x : Rr α} {k : α → St → Rr β} {b : β} {st' : St} {P : List Prop} (h : bnd x k = some (b, st', P)) (hP : Ps P) :
    ∃ a st P1 P2, x = some (a, st, P1) ∧ k a st = some (b, st', P2) ∧ Ps P1 ∧ Ps P2 := by
  unfold bnd at h
  split at h
  · cases h
  · rename_i a st P1
    split at h
    · cases h
    · rename_i b' st'' P2 hk
      cases h
      exact ⟨a, st, P1, P2, rfl, hk, (Ps.append hP).1, (Ps.append hP).2⟩
theorem ret_some {α : Type} {x a : α} {st st' : St} {P : List Prop} (h : ret x st = some (a, st', P)) : x = a ∧ st = st' ∧ [] = P := by cases h; exact ⟨rfl, rfl, rfl⟩
theorem bnd_el {α β : Type} {x : Rr α} {k : α → St → Rr β} {b : β} {st' : St} {P : List Prop} {C : Prop} (h : bnd x k = some (b, st', P)) (hP : Ps P) (H : ∀ a st P1 P2, x = some (a, st, P1) → k a st = some (b, st', P2) → Ps P1 → Ps P2 → C) : C := by
  obtain ⟨a, st, P1, P2, h1, h2, h3, h4⟩ := bnd_some h hP
  exact H a st P1 P2 h1 h2 h3 h4
noncomputable def ask (p : Prop) (st : St) : Rr Bool := match st.or with
  | [] => none
  | k :: r => match Nat.beq k 0 with
    | true => some (false, { st with or := r }, [¬ p])
    | false => some (true, { st with or := r }, [p])
theorem ask_some {p : Prop} {st st' : St} {b : Bool} {P : List Prop} (h : ask p st = some (b, st', P)) (hP : Ps P) : (b = true ↔ p) ∧ ∃ o, st' = { st with or := o, ov := st.ov } := by
  unfold ask at h
  split at h
  · cases h
  · split at h
    · cases h; exact ⟨by simpa using hP.1, _, rfl⟩
    · cases h; exact ⟨by simpa using hP.1, _, rfl⟩
/-- literal: decided; else asked -/
noncomputable def dec (lit : Bool) (p : Prop) (b : Bool) (st : St) : Rr Bool := match lit with
  | true => ret b st
  | false => ask p st
theorem dec_some {lit : Bool} {p : Prop} {c : Bool} {st st' : St} {b : Bool} {P : List Prop} (hc : c = true ↔ p) (h : dec lit p c st = some (b, st', P)) (hP : Ps P) : (b = true ↔ p) ∧ ∃ o, st' = { st with or := o, ov := st.ov } := by
  unfold dec at h
  split at h
  · cases h; exact ⟨hc, st.or, rfl⟩
  · exact ask_some h hP

inductive Bi where
  | len | isin | sum | abs | range | list | int | tstr | ttup | append | pop | extend | reverse | dget | join
noncomputable def Bi.val : Bi → Value
  | .len => .builtin "len" | .isin => .builtin "isinstance" | .sum => .builtin "sum" | .abs => .builtin "abs"
  | .range => .type "range" | .list => .type "list" | .int => .type "int" | .tstr => .type "str" | .ttup => .type "tuple"
  | .append => .builtin "list.append" | .pop => .builtin "list.pop" | .extend => .builtin "list.extend" | .reverse => .builtin "list.reverse"
  | .dget => .builtin "dict.get" | .join => .builtin "str.join"

/-- a thing that is called -/
inductive Fn where
  | fn (f : Addr)
  | bi (b : Bi)
noncomputable def Fn.val : Fn → Value
  | .fn f => .ref f
  | .bi b => b.val
inductive AFl where
  | next | brk | cont
  | ret (a : AV)

structure FnI where
  ps : List Nm
  body : List Stmt
  sc : Scope
structure ClI where
  flds : List Nm
  mths : List (Nm × Addr)
  ini : Addr
/-- a global name: a plain value or a thing to be called -/
inductive GV where
  | av (a : AV)
  | fn (f : Fn)
structure PT where
  glob : List (Nm × GV)
  fns : List (Nat × FnI)
  cls : List (Nat × ClI)
  tups : List (Nat × List Nm)
  ext : Nat → Option (List AV → St → Rr AV)

noncomputable def lookN {α : Type} (n : Nat) : List (Nat × α) → Option α
  | [] => none
  | p :: r => match Nat.beq n p.1 with
    | true => some p.2
    | false => lookN n r
set_option tactic.hygienic true in
theorem lookN_mem {α : Type} {n : Nat} {a : α} : ∀ {l : List (Nat × α)}, lookN n l = some a → (n, a) ∈ l
  | p :: r, h => by
    unfold lookN at h
    split at h
    · rename_i e; cases h; rw [Nat.eq_of_beq_eq_true e]; exact .head _
    · exact .tail _ (lookN_mem h)
set_option tactic.hygienic true in
theorem look_mem {α : Type} {x : Nm} {a : α} : ∀ {l : List (Nm × α)}, look x l = some a → (x, a) ∈ l
  | p :: r, h => by
    unfold look at h
    split at h
    · rename_i e; cases h; rw [nmEq_iff.mp e]; exact .head _
    · exact .tail _ (look_mem h)
noncomputable def kindL (x : Nm) : List (Str × NameKind) → Option NameKind
  | [] => none
  | p :: r => match nmEq x (nm p.1) with
    | true => some p.2
    | false => kindL x r
theorem kindL_eq (x : Nm) : ∀ l : List (Str × NameKind), kindL x l = l.lookup (stn x)
  | [] => rfl
  | p :: r => by
    unfold kindL
    rw [List.lookup_cons, ← kindL_eq x r]
    cases h : nmEq x (nm p.1) with
    | true =>
      have e := nmEq_iff.mp h
      have : (stn x == p.1) = true := by rw [e]; simp [stn_nm]
      rw [this]
    | false =>
      have : (stn x == p.1) = false := by
        have := nmEq_ff h
        simp only [beq_eq_false_iff_ne, ne_eq]
        intro q; exact this (by rw [← q]; rfl)
      rw [this]
noncomputable def memN (x : Nm) : List Nm → Bool
  | [] => false
  | y :: r => match nmEq x y with
    | true => true
    | false => memN x r
set_option tactic.hygienic true in
theorem memN_iff {x : Nm} : ∀ {l : List Nm}, memN x l = true → x ∈ l
  | y :: r, h => by
    unfold memN at h
    split at h
    · rename_i e; rw [nmEq_iff.mp e]; exact .head _
    · exact .tail _ (memN_iff h)
noncomputable def nDebug : Nm := [95, 95, 100, 101, 98, 117, 103, 95, 95]
noncomputable def nClassdict : Nm := [95, 95, 99, 108, 97, 115, 115, 100, 105, 99, 116, 95, 95]
theorem nDebug_is : stn nDebug = ("__debug__" : Str) := by decide +kernel
theorem nClassdict_is : stn nClassdict = ("__classdict__" : Str) := by decide +kernel

noncomputable def asInt : AV → Option (Bool × Int)
  | .num i => some (true, i)
  | .int i => some (false, i)
  | _ => none
noncomputable def asStr : AV → Option (Bool × Nm)
  | .txt i => some (true, i)
  | .str i => some (false, i)
  | _ => none
noncomputable def mkI : Bool → Int → AV
  | true, i => .num i
  | false, i => .int i
noncomputable def mkS : Bool → Nm → AV
  | true, i => .txt i
  | false, i => .str i
noncomputable def both : Bool → Bool → Bool
  | true, b => b
  | false, _ => false
noncomputable def alloc (o : AO) (st : St) : Rr AV := ret (.ref st.n) { st with sg := st.sg.set st.n o, n := st.n + 1 }
noncomputable def setO (l : Nat) (o : AO) (st : St) : St := { st with sg := st.sg.set l o }

/-- two lists, one behind the other -/
noncomputable def cat (p : Option (List AV)) (xs : List AV) (q : Option (List AV)) (ys : List AV) : AO := match q with
  | none => .list p (xs ++ ys)
  | some q => .list (some (itm p xs ++ q)) ys
/-- an expected value, out of the oracle -/
noncomputable def expect (f : AV → Prop) (st : St) : Rr AV := match st.ov with
  | [] => none
  | v :: r => some (v, { st with ov := r }, [f v])
noncomputable def short {α : Type} : Nat → List α → Bool
  | _, [] => true
  | 0, _ :: _ => false
  | n + 1, _ :: r => short n r
theorem short_le {α : Type} : ∀ {n : Nat} {l : List α}, short n l = true → l.length ≤ n
  | _, [], _ => Nat.zero_le _
  | n + 1, _ :: r, h => Nat.succ_le_succ (short_le (n := n) (l := r) h)
noncomputable def shortP (p : Option (List AV)) (xs : List AV) : Bool := match p with
  | none => short 1000 xs
  | some _ => false
theorem shortP_le {p : Option (List AV)} {xs : List AV} (h : shortP p xs = true) : (itm p xs).length ≤ 1000 := by
  cases p with
  | none => exact short_le h
  | some _ => cases h
noncomputable def andB (a b : Bool) : Bool := match a with
  | true => b
  | false => false
theorem andB_iff {a b : Bool} (h : andB a b = true) : a = true ∧ b = true := by
  cases a with
  | true => exact ⟨rfl, h⟩
  | false => cases h
/-! operations -/
noncomputable def powB (x y : Int) : Bool := andB (decide (0 ≤ y)) (andB (decide (y ≤ 100)) (Nat.blt x.natAbs 1000))
theorem powB_iff {x y : Int} (h : powB x y = true) : 0 ≤ y ∧ y ≤ 1000000 ∧ x.natAbs < 2 ^ 64 := by
  obtain ⟨h1, h2⟩ := andB_iff h
  obtain ⟨h2, h3⟩ := andB_iff h2
  have h1 := of_decide_eq_true h1
  have h2 := of_decide_eq_true h2
  have h3 := Nat.blt_eq.mp h3
  exact ⟨h1, by lia, by lia⟩
@[irreducible] noncomputable def intz {α : Type} (a b : AV) (k : Bool → Int → Bool → Int → Rr α) (e : Rr α) : Rr α := match asInt a with
  | some p => match asInt b with
    | some q => k p.1 p.2 q.1 q.2
    | none => e
  | none => e
@[irreducible] noncomputable def strz {α : Type} (a b : AV) (k : Bool → Nm → Bool → Nm → Rr α) (e : Rr α) : Rr α := match asStr a with
  | some p => match asStr b with
    | some q => k p.1 p.2 q.1 q.2
    | none => e
  | none => e
noncomputable def asRef : AV → Option Nat
  | .ref l => some l
  | _ => none
noncomputable def asList : AO → Option (Option (List AV) × List AV)
  | .list p xs => some (p, xs)
  | _ => none
noncomputable def asTup : AO → Option (List AV)
  | .tup xs => some xs
  | _ => none
theorem asRef_eq {a : AV} {l : Nat} (h : asRef a = some l) : a = .ref l := by
  induction a using AV.casesOn with
  | ref k => exact congrArg AV.ref (Option.some.inj h)
  | _ => exact nn h
theorem asList_eq {a : AO} {q : Option (List AV) × List AV} (h : asList a = some q) : a = .list q.1 q.2 := by
  induction a using AO.casesOn with
  | list p xs => exact congrArg (fun q : Option (List AV) × List AV => AO.list q.1 q.2) (Option.some.inj h)
  | _ => exact nn h
theorem asTup_eq {a : AO} {q : List AV} (h : asTup a = some q) : a = .tup q := by
  induction a using AO.casesOn with
  | tup xs => exact congrArg AO.tup (Option.some.inj h)
  | _ => exact nn h
/-- a list that is written out; one whose head is not -/
noncomputable def listN : AO → Option (List AV)
  | .list p xs => match p with
    | none => some xs
    | some _ => none
  | _ => none
theorem listN_eq {a : AO} {xs : List AV} (h : listN a = some xs) : a = .list none xs := by
  induction a using AO.casesOn with
  | list p ys => induction p using Option.casesOn with
    | none => exact congrArg (AO.list none) (Option.some.inj h)
    | some _ => exact nn h
  | _ => exact nn h
noncomputable def asCon : AV → Option Nat
  | .con v => match v with
    | .ref k => some k
    | _ => none
  | _ => none
theorem asCon_eq {a : AV} {k : Nat} (h : asCon a = some k) : a = .con (.ref k) := by
  induction a using AV.casesOn with
  | con v => induction v using Value.casesOn with
    | ref a => exact congrArg (fun k => AV.con (.ref k)) (Option.some.inj h)
    | _ => exact nn h
  | _ => exact nn h
noncomputable def asTxt : AV → Option Nm
  | .txt x => some x
  | _ => none
theorem asTxt_eq {a : AV} {x : Nm} (h : asTxt a = some x) : a = .txt x := by
  induction a using AV.casesOn with
  | txt y => exact congrArg AV.txt (Option.some.inj h)
  | _ => exact nn h
noncomputable def asNum : AV → Option Nat
  | .num i => match i with
    | .ofNat k => some k
    | _ => none
  | _ => none
theorem asNum_eq {a : AV} {k : Nat} (h : asNum a = some k) : a = .num (.ofNat k) := by
  induction a using AV.casesOn with
  | num i => induction i using Int.casesOn with
    | ofNat j => exact congrArg (fun k => AV.num (.ofNat k)) (Option.some.inj h)
    | _ => exact nn h
  | _ => exact nn h
noncomputable def asIn : AV → Option Int
  | .int i => some i
  | _ => none
theorem asIn_eq {a : AV} {i : Int} (h : asIn a = some i) : a = .int i := by
  induction a using AV.casesOn with
  | int j => exact congrArg AV.int (Option.some.inj h)
  | _ => exact nn h
noncomputable def isNn : AV → Bool
  | .none => true
  | _ => false
theorem isNn_eq {a : AV} (h : isNn a = true) : a = .none := by
  induction a using AV.casesOn with
  | none => rfl
  | _ => exact ff h
noncomputable def asInst : AO → Option (Nat × Nat)
  | .inst C d => some (C, d)
  | _ => none
theorem asInst_eq {a : AO} {q : Nat × Nat} (h : asInst a = some q) : a = .inst q.1 q.2 := by
  induction a using AO.casesOn with
  | inst C d => exact congrArg (fun q : Nat × Nat => AO.inst q.1 q.2) (Option.some.inj h)
  | _ => exact nn h
noncomputable def asDict : AO → Option (List (Nm × AV))
  | .dict es => some es
  | _ => none
theorem asDict_eq {a : AO} {es : List (Nm × AV)} (h : asDict a = some es) : a = .dict es := by
  induction a using AO.casesOn with
  | dict es => exact congrArg AO.dict (Option.some.inj h)
  | _ => exact nn h
noncomputable def asLit : AO → Option (Nat × Nat)
  | .liter l i => some (l, i)
  | _ => none
theorem asLit_eq {a : AO} {q : Nat × Nat} (h : asLit a = some q) : a = .liter q.1 q.2 := by
  induction a using AO.casesOn with
  | liter l i => exact congrArg (fun q : Nat × Nat => AO.liter q.1 q.2) (Option.some.inj h)
  | _ => exact nn h
noncomputable def asRit : AO → Option (Bool × Int × Int)
  | .riter p x left => some (p, x, left)
  | _ => none
theorem asRit_eq {a : AO} {q : Bool × Int × Int} (h : asRit a = some q) : a = .riter q.1 q.2.1 q.2.2 := by
  induction a using AO.casesOn with
  | riter p x y => exact congrArg (fun q : Bool × Int × Int => AO.riter q.1 q.2.1 q.2.2) (Option.some.inj h)
  | _ => exact nn h
/-- what a cell holds -/
noncomputable def cellV : AO → Option AV
  | .cell v => v
  | _ => none
theorem cellV_eq {a : AO} {v : AV} (h : cellV a = some v) : a = .cell (some v) := by
  induction a using AO.casesOn with
  | cell w => exact congrArg AO.cell h
  | _ => exact nn h
noncomputable def isCell : AO → Bool
  | .cell _ => true
  | _ => false
theorem isCell_eq {a : AO} (h : isCell a = true) : ∃ v, a = .cell v := by
  induction a using AO.casesOn with
  | cell w => exact ⟨w, rfl⟩
  | _ => exact ff h
/-- the only item of a list -/
noncomputable def oneOf (o : AO) : Option AV := obnd (listN o) fun xs => match xs with
  | [] => none
  | a :: r => match r with
    | [] => some a
    | _ :: _ => none
theorem oneOf_eq {a : AO} {x : AV} (h : oneOf a = some x) : a = .list none [x] := obnd_el h fun xs hx h => by
  rw [listN_eq hx]
  induction xs using List.casesOn with
  | nil => exact nn h
  | cons b r => induction r using List.casesOn with
    | nil => exact congrArg (fun x => AO.list none [x]) (Option.some.inj h)
    | cons => exact nn h
noncomputable def bin (op : Operator) (a b : AV) (st : St) : Rr AV := match op with
  | .Add => intz a b (fun p x q y => ret (mkI (both p q) (x + y)) st) (strz a b (fun p x q y => hypc (andB (both p q) (andB (short 1000 x) (short 1000 y))) (x.length + y.length ≤ sizeLine) (mkS (both p q) (x ++ y)) st)
      (opt (asRef a) fun l => opt (asRef b) fun k => opt (asList (st.sg.get l)) fun x => opt (asList (st.sg.get k)) fun y =>
        bnd (hypc (andB (shortP x.1 x.2) (shortP y.1 y.2)) ((itm x.1 x.2).length + (itm y.1 y.2).length ≤ sizeLine) () st) fun _ st => alloc (cat x.1 x.2 y.1 y.2) st))
  | .Sub => intz a b (fun p x q y => ret (mkI (both p q) (x - y)) st) none
  | .Mult => opt (asInt b) fun q => opt (asRef a) fun l => opt (oneOf (st.sg.get l)) fun x => bnd (hyp (0 ≤ q.2 ∧ q.2 ≤ 10000) () st) fun _ st => alloc (.list (some (List.replicate q.2.toNat x)) []) st
  | .FloorDiv => intz a b (fun p x q y => hyp (y ≠ 0 ∧ Builtin.divisionGoesByPylong x y = false) (mkI (both p q) (x.fdiv y)) st) none
  | .Mod => intz a b (fun p x q y => hypc (andB q (decide (y ≠ 0))) (y ≠ 0) (mkI (both p q) (x.fmod y)) st) none
  | .Pow => intz a b (fun p x q y => hypc (andB (both p q) (powB x y)) (0 ≤ y ∧ y ≤ 1000000 ∧ x.natAbs < 2 ^ 64) (mkI (both p q) (x ^ y.toNat)) st) none
  | _ => none

noncomputable def isNone : AV → Option Bool
  | .none => some true
  | .con (.ref _) => some false
  | .con _ => none
  | _ => some false
/-- the texts in a row of values -/
noncomputable def strsOf : List AV → Option (List (Bool × Nm))
  | [] => some []
  | a :: r => match asStr a with
    | some q => match strsOf r with
      | some l => some (q :: l)
      | none => none
    | none => none
/-- is the text one of these? -/
noncomputable def inGo (p : Bool) (x : Nm) : List (Bool × Nm) → St → Rr Bool
  | [], st => ret false st
  | q :: r, st => bnd (dec (both p q.1) (x = q.2) (nmEq x q.2) st) fun b st => match b with
      | true => ret true st
      | false => inGo p x r st
noncomputable def seqN : AO → Option (List AV)
  | .list p ys => match p with
    | none => some ys
    | some _ => none
  | .tup ys => some ys
  | _ => none
theorem seqN_eq {a : AO} {xs : List AV} (h : seqN a = some xs) : a = .list none xs ∨ a = .tup xs := by
  induction a using AO.casesOn with
  | list p ys => induction p using Option.casesOn with
    | none => exact .inl (congrArg (AO.list none) (Option.some.inj h))
    | some _ => exact nn h
  | tup ys => exact .inr (congrArg AO.tup (Option.some.inj h))
  | _ => exact nn h
/-- the texts that a membership test looks through -/
noncomputable def seqOf (T : PT) (b : AV) (st : St) : Option (List AV) := match asRef b with
  | some l => seqN (st.sg.get l)
  | none => obnd (asCon b) fun k => obnd (lookN k T.tups) fun ys => some (ys.map .txt)
mutual
/-- what a value reads as -/
inductive RdV (sg : Tr) (imm : Nat → List AV → Prop) : AV → PyData → Prop
  | none : RdV sg imm .none .none
  | bool (b : Bool) : RdV sg imm (.bool b) (.bool b)
  | num (i : Int) : RdV sg imm (.num i) (.int i)
  | int (i : Int) : RdV sg imm (.int i) (.int i)
  | txt (l : Nm) : RdV sg imm (.txt l) (.str (stn l))
  | str (l : Nm) : RdV sg imm (.str l) (.str (stn l))
  | tup {l : Nat} {xs : List AV} {ds : List PyData} : sg.get l = .tup xs → RdVs sg imm xs ds → RdV sg imm (.ref l) (.tuple ds)
  | list {l : Nat} {p : Option (List AV)} {xs : List AV} {ds : List PyData} : sg.get l = .list p xs → RdVs sg imm (itm p xs) ds → RdV sg imm (.ref l) (.list ds)
  | con {c : Nat} {xs : List AV} {ds : List PyData} : imm c xs → RdVs sg imm xs ds → RdV sg imm (.con (.ref c)) (.tuple ds)
inductive RdVs (sg : Tr) (imm : Nat → List AV → Prop) : List AV → List PyData → Prop
  | nil : RdVs sg imm [] []
  | cons {a : AV} {as : List AV} {d : PyData} {ds : List PyData} : RdV sg imm a d → RdVs sg imm as ds → RdVs sg imm (a :: as) (d :: ds)
end
noncomputable def DatEq (sg : Tr) (imm : Nat → List AV → Prop) (a b : AV) (c : Bool) : Prop := ∃ da db, RdV sg imm a da ∧ RdV sg imm b db ∧ SeqAt.shaped da = true ∧ SeqAt.shaped db = true ∧ PyData.eqv da db = c
noncomputable def isRf : AV → Bool
  | .ref _ => true
  | .con (.ref _) => true
  | _ => false
/-- two lists or tuples compared: the oracle says, the premise holds it -/
noncomputable def eqD (a b : AV) (st : St) : Rr Bool := match both (isRf a) (isRf b) with
  | true => match st.or with
    | [] => none
    | k :: r => some (!Nat.beq k 0, { st with or := r }, [DatEq st.sg st.imm a b (!Nat.beq k 0)])
  | false => none
noncomputable def lstP : AO → Option (List AV × List AV)
  | .list p xs => match p with
    | some q => some (q, xs)
    | none => none
  | _ => none
theorem lstP_eq {a : AO} {q : List AV × List AV} (h : lstP a = some q) : a = .list (some q.1) q.2 := by
  induction a using AO.casesOn with
  | list p ys => induction p using Option.casesOn with
    | none => exact nn h
    | some p => exact congrArg (fun q : List AV × List AV => AO.list (some q.1) q.2) (Option.some.inj h)
  | _ => exact nn h
/-- a text in a list of texts that is not written out -/
noncomputable def inL (x : Nm) (b : AV) (st : St) : Rr Bool := opt (asRef b) fun l => opt (lstP (st.sg.get l)) fun q =>
  bnd (some ((), st, [∀ y ∈ itm (some q.1) q.2, ∃ z, y = AV.str z])) fun _ st => ask (AV.str x ∈ itm (some q.1) q.2) st
noncomputable def oDec (lit : Bool) (p : Prop) (d : Bool) (f : Bool → Bool) (st : St) : Rr AV := bnd (dec lit p d st) fun c st => ret (.bool (f c)) st
noncomputable def oEq (f : Bool → Bool) (a b : AV) (st : St) : Rr AV := intz a b (fun p x q y => oDec (both p q) (x = y) (decide (x = y)) f st) (strz a b (fun p x q y => oDec (both p q) (x = y) (nmEq x y) f st)
  (bnd (eqD a b st) fun c st => ret (.bool (f c)) st))
noncomputable def oIs (f : Bool → Bool) (a b : AV) (st : St) : Rr AV := match b with
  | .none => opt (isNone a) fun c => ret (.bool (f c)) st
  | _ => none
noncomputable def oIn (T : PT) (f : Bool → Bool) (a b : AV) (st : St) : Rr AV := opt (asStr a) fun p => match seqOf T b st with
  | some ys => opt (strsOf ys) fun l => bnd (inGo p.1 p.2 l st) fun c st => ret (.bool (f c)) st
  | none => bnd (inL p.2 b st) fun c st => ret (.bool (f c)) st
noncomputable def cmp (T : PT) (op : CmpOp) (a b : AV) (st : St) : Rr AV := match op with
  | .Eq => oEq id a b st
  | .NotEq => oEq not a b st
  | .LtE => intz a b (fun p x q y => oDec (both p q) (x ≤ y) (decide (x ≤ y)) id st) none
  | .Gt => intz a b (fun p x q y => oDec (both p q) (y < x) (decide (y < x)) id st) none
  | .Is => oIs id a b st
  | .IsNot => oIs not a b st
  | .In => oIn T id a b st
  | .NotIn => oIn T not a b st
  | _ => none
noncomputable def gvA : GV → Option AV
  | .av a => some a
  | .fn _ => none
theorem gvA_eq {g : GV} {a : AV} (h : gvA g = some a) : g = .av a := by
  induction g using GV.casesOn with
  | av b => exact congrArg GV.av (Option.some.inj h)
  | fn => exact nn h
noncomputable def gvF : GV → Option Fn
  | .fn f => some f
  | .av _ => none
theorem gvF_eq {g : GV} {f : Fn} (h : gvF g = some f) : g = .fn f := by
  induction g using GV.casesOn with
  | fn b => exact congrArg GV.fn (Option.some.inj h)
  | av => exact nn h
noncomputable def cellN (fi : FI) (x : Nm) (st : St) : Rr AV := opt (look x fi.cl) fun l => opt (cellV (st.sg.get l)) fun a => ret a st
noncomputable def loadN (T : PT) (fi : FI) (x : Nm) (st : St) : Rr AV := okOr (!nmEq x nDebug) (opt (kindL x fi.sc.names) fun k => match k with
  | .local => opt (look x st.mu) fun a => ret a st
  | .cell => cellN fi x st
  | .free => okOr (!nmEq x nClassdict) (cellN fi x st)
  | .globalImplicit => opt (look x T.glob) fun g => opt (gvA g) fun a => ret a st
  | _ => none)
noncomputable def isGI : NameKind → Bool
  | .globalImplicit => true
  | _ => false
theorem isGI_eq {k : NameKind} (h : isGI k = true) : k = .globalImplicit := by
  induction k using NameKind.casesOn with
  | globalImplicit => rfl
  | _ => exact ff h
noncomputable def loadF (T : PT) (fi : FI) (x : Nm) : Option Fn := okO (!nmEq x nDebug) (obnd (kindL x fi.sc.names) fun k => okO (isGI k) (obnd (look x T.glob) gvF))
noncomputable def storeN (fi : FI) (x : Nm) (a : AV) (st : St) : Rr Unit := opt (kindL x fi.sc.names) fun k => match k with
  | .local => ret () { st with mu := put x a st.mu }
  | .cell => opt (look x fi.cl) fun l => okOr (isCell (st.sg.get l)) (ret () (setO l (.cell (some a)) st))
  | _ => none
noncomputable def storeNs (fi : FI) : List Str → List AV → St → Rr Unit
  | [], [], st => ret () st
  | x :: xs, a :: as, st => bnd (storeN fi (nm x) a st) fun _ st => storeNs fi xs as st
  | _, _, _ => none
noncomputable def getA (T : PT) (a : AV) (x : Nm) (st : St) : Rr AV := opt (asRef a) fun l => opt (asInst (st.sg.get l)) fun q => opt (lookN q.1 T.cls) fun ci => okOr (memN x ci.flds) (opt (asDict (st.sg.get q.2)) fun es => opt (look x es) fun v => ret v st)
noncomputable def setA (T : PT) (a : AV) (x : Nm) (v : AV) (st : St) : Rr Unit := opt (asRef a) fun l => opt (asInst (st.sg.get l)) fun q => opt (lookN q.1 T.cls) fun ci => okOr (memN x ci.flds) (opt (asDict (st.sg.get q.2)) fun es => okOr (short 50 es) (ret () (setO q.2 (.dict (put x v es)) st)))
noncomputable def nAppend : Nm := [97, 112, 112, 101, 110, 100]
noncomputable def nPop : Nm := [112, 111, 112]
noncomputable def nExtend : Nm := [101, 120, 116, 101, 110, 100]
noncomputable def nReverse : Nm := [114, 101, 118, 101, 114, 115, 101]
noncomputable def nJoin : Nm := [106, 111, 105, 110]
noncomputable def listM : List (Nm × Bi) := [(nAppend, .append), (nPop, .pop), (nExtend, .extend), (nReverse, .reverse)]
noncomputable def strM : List (Nm × Bi) := [(nJoin, .join)]
noncomputable def isNo {α : Type} : Option α → Bool
  | none => true
  | some _ => false
theorem isNo_eq {α : Type} {o : Option α} (h : isNo o = true) : o = none := by
  cases o with
  | none => rfl
  | some => exact ff h
noncomputable def methR (T : PT) (l : Nat) (x : Nm) (st : St) : Option Fn := match asInst (st.sg.get l) with
  | some q => obnd (lookN q.1 T.cls) fun ci => obnd (look x ci.mths) fun f => obnd (asDict (st.sg.get q.2)) fun es => okO (isNo (look x es)) (some (.fn f))
  | none => obnd (asList (st.sg.get l)) fun _ => obnd (look x listM) fun b => some (.bi b)
noncomputable def meth (T : PT) (a : AV) (x : Nm) (st : St) : Option Fn := match asRef a with
  | some l => methR T l x st
  | none => obnd (asTxt a) fun _ => obnd (look x strM) fun b => some (.bi b)
/-- an index; a literal one is reckoned, another must be non-negative and is asked -/
noncomputable def nth {α : Type} : List α → Nat → Option α
  | [], _ => none
  | a :: _, 0 => some a
  | _ :: r, n + 1 => nth r n
theorem nth_eq {α : Type} : ∀ (l : List α) (n : Nat), nth l n = l[n]?
  | [], _ => rfl
  | _ :: _, 0 => rfl
  | _ :: r, n + 1 => by simpa [nth] using nth_eq r n
noncomputable def getI (a i : AV) (st : St) : Rr AV := match asRef a with
  | some l => match asNum i with
    | some k => opt (seqN (st.sg.get l)) fun xs => opt (nth xs k) fun v => hypc (Nat.blt k 1000000) (k < 2 ^ 62) v st
    | none => opt (asIn i) fun k => opt (asList (st.sg.get l)) fun q => expect (fun v => 0 ≤ k ∧ k < 2 ^ 62 ∧ (itm q.1 q.2)[k.toNat]? = some v) st
  | none => opt (asTxt a) fun l => opt (asIn i) fun k => expect (fun v => 0 ≤ k ∧ k < 2 ^ 62 ∧ ∃ c, v = .str [c] ∧ l[k.toNat]? = some c) st
/-- an empty table, or one of this name alone -/
noncomputable def oneK (x : Nm) : List (Nm × AV) → Bool
  | [] => true
  | p :: r => match r with
    | [] => nmEq x p.1
    | _ :: _ => false
noncomputable def asTab : AO → Option (List (Nm × AV))
  | .tab es => some es
  | _ => none
theorem asTab_eq {a : AO} {q : List (Nm × AV)} (h : asTab a = some q) : a = .tab q := by
  induction a using AO.casesOn with
  | tab es => exact congrArg AO.tab (Option.some.inj h)
  | _ => exact nn h
noncomputable def setI (a i v : AV) (st : St) : Rr Unit := opt (asRef a) fun l => match asTxt i with
  | some x => opt (asTab (st.sg.get l)) fun es => okOr (oneK x es) (ret () (setO l (.tab [(x, v)]) st))
  | none => opt (asNum i) fun k => opt (listN (st.sg.get l)) fun xs => opt (nth xs k) fun _ => hypc (Nat.blt k 1000000) (k < 2 ^ 62) () (setO l (.list none (xs.set k v)) st)
/-- a bound of a slice: none, or a number that is not negative -/
noncomputable def lowB : AV → Option Int
  | .none => some 0
  | .num i => some i
  | .int i => some i
  | _ => none
noncomputable def cut {α : Type} (lo : Int) (l : List α) : AV → Option (List α)
  | .none => some (l.drop lo.toNat)
  | .num i => some ((l.take i.toNat).drop lo.toNat)
  | .int i => some ((l.take i.toNat).drop lo.toNat)
  | _ => none
noncomputable def okB : AV → Prop
  | .none => True
  | .num i => 0 ≤ i ∧ i < 2 ^ 62
  | .int i => 0 ≤ i ∧ i < 2 ^ 62
  | _ => False
noncomputable def litB : AV → Bool
  | .int _ => false
  | _ => true
noncomputable def okBB : AV → Bool
  | .none => true
  | .num i => andB (decide (0 ≤ i)) (decide (i < 1000000))
  | _ => false
theorem okBB_iff {a : AV} (h : okBB a = true) : okB a := by
  cases a with
  | none => trivial
  | num i =>
    obtain ⟨h1, h2⟩ := andB_iff h
    have h1 := of_decide_eq_true h1
    have h2 := of_decide_eq_true h2
    exact ⟨h1, by lia⟩
  | _ => cases h
noncomputable def isM1 : AV → Bool
  | .num i => decide (i = -1)
  | _ => false
theorem isM1_eq {a : AV} (h : isM1 a = true) : a = .num (-1) := by
  induction a using AV.casesOn with
  | num i => exact congrArg AV.num (of_decide_eq_true h)
  | _ => exact ff h
noncomputable def asPos (a : AV) : Option Nat := obnd (asNum a) fun k => match k with
  | 0 => none
  | j + 1 => some j
theorem asPos_eq {a : AV} {j : Nat} (h : asPos a = some j) : a = .num (.ofNat (j + 1)) := obnd_el h fun k hk h => by
  rw [asNum_eq hk]
  induction k using Nat.casesOn with
  | zero => exact nn h
  | succ i => exact congrArg (fun k => AV.num (.ofNat (k + 1))) (Option.some.inj h)
/-- a slice -/
noncomputable def slc (a lo hi step : AV) (st : St) : Rr AV := match asStr a with
  | some q => okOr (isNn step) (opt (lowB lo) fun i => opt (cut i q.2 hi) fun r => some (mkS (both q.1 (both (litB lo) (litB hi))) r, st, hcP (okBB lo) (okB lo) ++ (hcP (okBB hi) (okB hi) ++ hcP (andB q.1 (short 1000 q.2)) (q.2.length ≤ sizeLine))))
  | none => opt (asRef a) fun k => match listN (st.sg.get k) with
    | some xs => match isNn step with
      | true => opt (lowB lo) fun i => opt (cut i xs hi) fun r => bnd (some ((), st, hcP (okBB lo) (okB lo) ++ (hcP (okBB hi) (okB hi) ++ hcP (short 1000 xs) (xs.length < 2 ^ 20)))) fun _ st => alloc (.list none r) st
      | false => okOr (isM1 step) (okOr (isNn lo) (okOr (isNn hi) (bnd (hypc (short 1000 xs) (xs.length < 2 ^ 20) () st) fun _ st => alloc (.list none xs.reverse) st)))
    | none => opt (asTup (st.sg.get k)) fun xs => okOr (isNn step) (okOr (isNn lo) (opt (asPos hi) fun j => okOr (andB (Nat.blt (j + 1) xs.length) (short 1000 xs)) (alloc (.tup (xs.take (j + 1))) st)))
noncomputable def slcS (fi : FI) (a lo hi step : AV) (st : St) : Rr AV := match asCon a with
  | some k => opt fi.scr fun b => okOr (isNn step) (opt (lowB lo) fun i => opt (cut i b.2 hi) fun r => bnd (some ((), st, (k = b.1) :: (hcP (okBB lo) (okB lo) ++ (hcP (okBB hi) (okB hi) ++ [b.2.length < 2 ^ 20])))) fun _ st => alloc (.list none r) st)
  | none => slc a lo hi step st
noncomputable def lenL (p : Option (List AV)) (xs : List AV) : AV := match p with
  | none => .num xs.length
  | some pre => .int (pre.length + xs.length : Nat)
noncomputable def popO : List AV → Option (List AV × AV)
  | [] => none
  | a :: r => match popO r with
    | some (xs, y) => some (a :: xs, y)
    | none => some ([], a)
/-- the first item, and what is left -/
noncomputable def popF (p : Option (List AV)) (xs : List AV) : Option (Option (List AV) × List AV × AV) := match p with
  | none => match xs with
    | [] => none
    | x :: r => some (none, r, x)
  | some q => match q with
    | [] => none
    | x :: r => some (some r, xs, x)
theorem popF_eq {p q : Option (List AV)} {xs ys : List AV} {v : AV} (h : popF p xs = some (q, ys, v)) : itm p xs = v :: itm q ys := by
  unfold popF at h
  split at h
  · split at h
    · exact nn h
    · cases h; rfl
  · split at h
    · exact nn h
    · cases h; rfl
noncomputable def isZero : AV → Bool
  | .num (.ofNat 0) => true
  | _ => false
theorem isZero_eq {a : AV} (h : isZero a = true) : a = .num 0 := by
  unfold isZero at h
  split at h
  · rfl
  · cases h
/-- the numbers in a row of values -/
noncomputable def intsOf : List AV → Option (List Int)
  | [] => some []
  | a :: r => match asInt a with
    | some q => match intsOf r with
      | some l => some (q.2 :: l)
      | none => none
    | none => none
noncomputable def memNat (n : Nat) : List Nat → Bool
  | [] => false
  | k :: r => match Nat.beq n k with
    | true => true
    | false => memNat n r
set_option tactic.hygienic true in
theorem memNat_iff {n : Nat} : ∀ {l : List Nat}, memNat n l = true → n ∈ l
  | k :: r, h => by
    unfold memNat at h
    split at h
    · rename_i e; rw [Nat.eq_of_beq_eq_true e]; exact .head _
    · exact .tail _ (memNat_iff h)
noncomputable def isin (_ : PT) (a : AV) (t : Fn) (st : St) : Rr AV := match t with
  | .fn _ => none
  | .bi b => match b with
    | .tstr => opt (asStr a) fun _ => ret (.bool true) st
    | .ttup => match asStr a with
      | some _ => ret (.bool false) st
      | none => opt (asInt a) fun _ => ret (.bool false) st
    | _ => none
noncomputable def okI (p : Bool) (x : Int) : Bool := andB p (andB (decide (-1000000 < x)) (decide (x < 1000000)))
theorem okI_iff {p : Bool} {x : Int} (h : okI p x = true) : -(2 ^ 62) ≤ x ∧ x < 2 ^ 62 := by
  obtain ⟨_, h2⟩ := andB_iff h
  obtain ⟨h3, h4⟩ := andB_iff h2
  have h3 := of_decide_eq_true h3
  have h4 := of_decide_eq_true h4
  exact ⟨by lia, by lia⟩
noncomputable def catL : List (Bool × Nm) → Nm
  | [] => []
  | q :: r => q.2 ++ catL r
noncomputable def litL : List (Bool × Nm) → Bool
  | [] => true
  | q :: r => andB q.1 (litL r)
noncomputable def arg1 {α : Type} (vs : List AV) (k : AV → Rr α) : Rr α := match vs with
  | [a] => k a
  | _ => none
noncomputable def arg2 {α : Type} (vs : List AV) (k : AV → AV → Rr α) : Rr α := match vs with
  | [a, b] => k a b
  | _ => none
/-- a list, looked at -/
noncomputable def lst {α : Type} (a : AV) (st : St) (k : Nat → Option (List AV) → List AV → Rr α) : Rr α := match a with
  | .ref l => match st.sg.get l with
    | .list p xs => k l p xs
    | _ => none
  | _ => none
set_option tactic.hygienic true in
theorem lst_el {α : Type} {a : AV} {st : St} {k : Nat → Option (List AV) → List AV → Rr α} {x : α × St × List Prop} {C : Prop} (h : lst a st k = some x) (H : ∀ l p xs, a = .ref l → st.sg.get l = .list p xs → k l p xs = some x → C) : C := by
  unfold lst at h
  split at h
  · split at h
    · rename_i e; exact H _ _ _ rfl e h
    · exact nn h
  · exact nn h
noncomputable def asRng : AO → Option (Bool × Int × Int)
  | .rng p a b => some (p, a, b)
  | _ => none
theorem asRng_eq {a : AO} {q : Bool × Int × Int} (h : asRng a = some q) : a = .rng q.1 q.2.1 q.2.2 := by
  induction a using AO.casesOn with
  | rng p x y => exact congrArg (fun q : Bool × Int × Int => AO.rng q.1 q.2.1 q.2.2) (Option.some.inj h)
  | _ => exact nn h
noncomputable def only {α β : Type} (o : Option α) (r : Rr β) : Rr β := match o with
  | none => r
  | some _ => none
theorem only_el {α β : Type} {o : Option α} {r : Rr β} {x : β × St × List Prop} {C : Prop} (h : only o r = some x) (H : o = none → r = some x → C) : C := by
  cases o with
  | none => exact H rfl h
  | some a => exact nn h
noncomputable def isEmp : AV → Bool
  | .txt [] => true
  | _ => false
noncomputable def bcall (b : Bi) (vs : List AV) (st : St) : Rr AV := match b with
  | .range => match vs with
    | [a] => opt (asInt a) fun p => bnd (hypc (okI p.1 p.2) (-(2 ^ 62) ≤ p.2 ∧ p.2 < 2 ^ 62) () st) fun _ st => alloc (.rng p.1 0 p.2) st
    | [a, b] => opt (asInt a) fun p => opt (asInt b) fun q => bnd (some ((), st, hcP (okI p.1 p.2) (-(2 ^ 62) ≤ p.2 ∧ p.2 < 2 ^ 62) ++ hcP (okI q.1 q.2) (-(2 ^ 62) ≤ q.2 ∧ q.2 < 2 ^ 62))) fun _ st => alloc (.rng (both p.1 q.1) p.2 q.2) st
    | _ => none
  | .abs => arg1 vs fun a => opt (asInt a) fun p => ret (mkI p.1 (if p.2 < 0 then -p.2 else p.2)) st
  | .int => arg1 vs fun a => opt (asInt a) fun _ => ret a st
  | .join => arg2 vs fun a b => okOr (isEmp a) (lst b st fun _ p xs => only p (opt (strsOf xs) fun l => okOr (short 1000 xs) (hypc (andB (litL l) (short 1000 (catL l))) ((catL l).length ≤ 1000) (mkS (litL l) (catL l)) st)))
  | .len => arg1 vs fun a => match asStr a with
      | some q => hypc (andB q.1 (short 1000 q.2)) (q.2.length < 2 ^ 62) (mkI q.1 q.2.length) st
      | none => opt (asRef a) fun k => match asList (st.sg.get k) with
        | some x => hypc (shortP x.1 x.2) ((itm x.1 x.2).length < 2 ^ 62) (lenL x.1 x.2) st
        | none => opt (asTup (st.sg.get k)) fun xs => hypc (short 1000 xs) (xs.length < 2 ^ 62) (.num xs.length) st
  | .append => arg2 vs fun a v => lst a st fun k p xs => hypc (shortP p xs) ((itm p xs).length ≤ sizeLine) .none (setO k (.list p (xs ++ [v])) st)
  | .pop => match vs with
      | [a, i] => okOr (isZero i) (lst a st fun k p xs => opt (popF p xs) fun q => hypc (shortP p xs) ((itm p xs).length ≤ sizeLine) q.2.2 (setO k (.list q.1 q.2.1) st))
      | _ => arg1 vs fun a => lst a st fun k p xs => opt (popO xs) fun q => hypc (shortP p xs) ((itm p xs).length ≤ sizeLine) q.2 (setO k (.list p q.1) st)
  | .sum => arg1 vs fun a => lst a st fun _ p xs => opt (intsOf (itm p xs)) fun l => ret (.int l.sum) st
  | .reverse => arg1 vs fun a => lst a st fun k p xs => only p (hypc (short 1000 xs) (xs.length ≤ sizeLine) .none (setO k (.list none xs.reverse) st))
  | .extend => arg2 vs fun a b => lst a st fun k p xs => lst b st fun j q ys => only q (hypc (andB (!Nat.beq k j) (andB (shortP p xs) (short 1000 ys))) (k ≠ j ∧ (itm p xs).length + ys.length ≤ sizeLine) .none (setO k (.list p (xs ++ ys)) st))
  | _ => none

noncomputable def takeN {α : Type} : Nat → List α → Option (List α × List α)
  | 0, l => some ([], l)
  | _ + 1, [] => none
  | n + 1, a :: l => match takeN n l with
    | some (r, l') => some (a :: r, l')
    | none => none
noncomputable def unp (a : AV) (n : Nat) (st : St) : Rr (List AV) := match asRef a with
  | some l => opt (asTup (st.sg.get l)) fun xs => okOr (Nat.beq n xs.length) (ret xs st)
  | none => opt (asCon a) fun c => opt (takeN n st.ov) fun q => some (q.1, { st with ov := q.2 }, [st.imm c q.1])
noncomputable def mkIt (l : Nat) (st : St) : Rr AV := match asList (st.sg.get l) with
  | some _ => alloc (.liter l 0) st
  | none => opt (asRng (st.sg.get l)) fun g => alloc (.riter g.1 g.2.1 (if g.2.1 < g.2.2 then g.2.2 - g.2.1 else 0)) st
noncomputable def nxtL (k : Nat) (q : Nat × Nat) (p : Option (List AV)) (xs : List AV) (st : St) : Rr (Option AV) := match p with
  | none => match nth xs q.2 with
    | none => ret none (setO k .dead st)
    | some a => ret (some a) (setO k (.liter q.1 (q.2 + 1)) st)
  | some p => match st.or with
    | [] => none
    | c :: r => match Nat.beq c 0 with
      | true => some (none, { setO k .dead st with or := r }, [nth (itm (some p) xs) q.2 = none])
      | false => match st.ov with
        | [] => none
        | v :: rv => some (some v, { setO k (.liter q.1 (q.2 + 1)) st with or := r, ov := rv }, [nth (itm (some p) xs) q.2 = some v])
noncomputable def nxt (k : Nat) (st : St) : Rr (Option AV) := match asLit (st.sg.get k) with
  | some q => opt (asList (st.sg.get q.1)) fun r => nxtL k q r.1 r.2 st
  | none => opt (asRit (st.sg.get k)) fun z => bnd (dec z.1 (0 < z.2.2) (decide (0 < z.2.2)) st) fun c st => match c with
    | true => ret (some (mkI z.1 z.2.1)) (setO k (.riter z.1 (z.2.1 + 1) (z.2.2 - 1)) st)
    | false => ret none (setO k .dead st)
structure Evs where
  e : FI → Expr → St → Rr AV
  es : FI → List Expr → St → Rr (List AV)
  b : FI → Expr → St → Rr Bool
  s : FI → Stmt → St → Rr AFl
  ss : FI → List Stmt → St → Rr AFl
  call : Bool → Fn → List AV → St → Rr AV
  asg : FI → Expr → AV → St → Rr Unit
  asgs : FI → List Expr → List AV → St → Rr Unit
  wh : FI → Expr → List Stmt → St → Rr AFl
  fr : FI → Expr → Nat → List Stmt → St → Rr AFl
  cp : FI → Expr → Expr → List Expr → Nat → Nat → St → Rr Unit
  ts : FI → List Expr → St → Rr Bool

/-- the callee's frame, and back -/
noncomputable def zipP : List Nm → List AV → Option (List (Nm × AV))
  | [], [] => some []
  | x :: xs, a :: as => match zipP xs as with
    | some r => some ((x, a) :: r)
    | none => none
  | _, _ => none
noncomputable def flV : AFl → AV
  | .ret a => a
  | _ => .none
noncomputable def enter (I : Evs) (f : FnI) (vs : List AV) (st : St) : Rr AV := match zipP f.ps vs with
  | some mu => bnd (I.ss ⟨f.sc, [], true, none⟩ f.body { st with mu := mu }) fun fl st' => ret (flV fl) { st' with mu := st.mu }
  | none => none
noncomputable def stepCall (T : PT) (I : Evs) (own : Bool) (f : Fn) (vs : List AV) (st : St) : Rr AV := match f with
  | .bi b => match b with
    | .isin => none
    | _ => bcall b vs st
  | .fn a => match own with
    | false => none
    | true => match T.ext a with
      | some k => k vs st
      | none => match lookN a T.fns with
        | some f => enter I f vs st
        | none => match lookN a T.cls with
          | some ci => match lookN ci.ini T.fns with
            | some f => bnd (alloc (.dict []) st) fun _ st1 => bnd (alloc (.inst a st.n) st1) fun x st2 =>
                bnd (enter I f (x :: vs) st2) fun r st3 => match r with
                  | .none => ret x st3
                  | _ => none
            | none => none
          | none => none

noncomputable def noStar : Expr → Bool
  | .Starred .. => false
  | _ => true
noncomputable def plainV : Expr → Bool
  | .ListComp .. => false
  | .SetComp .. => false
  | .DictComp .. => false
  | _ => true
noncomputable def plainIt : Expr → Bool
  | .Name .. => true
  | .Attribute .. => true
  | .Call .. => true
  | .Subscript .. => true
  | _ => false
noncomputable def plainO : Expr → Bool
  | .Name .. => true
  | .Attribute .. => true
  | .Subscript .. => true
  | .Constant .. => true
  | .Call (.Name ..) (_ :: _) _ _ => true
  | .Call (.Attribute ..) _ _ _ => true
  | _ => false
noncomputable def constE : Const → Option AV
  | .none => some .none
  | .bool b => some (.bool b)
  | .int i => some (.num i)
  | .str s => some (.txt (nm s))
  | _ => none
noncomputable def argsE (I : Evs) (fi : FI) : List Expr → St → Rr (List AV)
  | [], st => ret [] st
  | e :: r, st => match List.all (e :: r) noStar with
    | true => I.es fi (e :: r) st
    | false => none
noncomputable def optE (I : Evs) (fi : FI) : Option Expr → St → Rr AV
  | none, st => ret .none st
  | some e, st => I.e fi e st

/-- the cells that a comprehension takes from its frame -/
noncomputable def closA (cl : List (Nm × Nat)) : List (Str × NameKind) → Option (List (Nm × Nat))
  | [] => some []
  | p :: r => match p.2 with
    | .free => match look (nm p.1) cl with
      | some l => match closA cl r with
        | some q => some ((nm p.1, l) :: q)
        | none => none
      | none => none
    | _ => closA cl r
noncomputable def dumEnv (sc : Scope) : Env := { scope := sc, locals := 0, globals := 0, cells := [] }
noncomputable def noCell : List (Str × NameKind) → Bool
  | [] => true
  | p :: r => match p.2 with
    | .cell => false
    | _ => noCell r
set_option tactic.hygienic true in
theorem noCell_iff : ∀ {l : List (Str × NameKind)}, noCell l = true → ∀ y ∈ l, y.2 ≠ .cell
  | p :: r, h, y, hy => by
    unfold noCell at h
    split at h
    · cases h
    · rename_i hn
      rcases List.mem_cons.mp hy with rfl | hy
      · exact hn
      · exact noCell_iff h y hy
noncomputable def localsOk (names : List (Str × NameKind)) : List (Str × NameKind) → Bool
  | [] => true
  | p :: r => match p.2 with
    | .local => match kindL (nm p.1) names with
      | some .local => localsOk names r
      | _ => false
    | _ => localsOk names r
noncomputable def isIsin : Fn → Bool
  | .bi .isin => true
  | _ => false
noncomputable def asNm : Expr → Option Nm
  | .Name x _ => some (nm x)
  | _ => none
noncomputable def compE (I : Evs) (fi : FI) (elt target iter : Expr) (ifs : List Expr) (sc : Scope) (st : St) : Rr AV := match andB (both (plainIt iter) (noCell sc.names)) (localsOk sc.names sc.names) with
  | true => match sc.kind with
    | .function => opt (closA fi.cl sc.names) fun cl => bnd (I.e fi iter st) fun a st => opt (asRef a) fun l => bnd (mkIt l st) fun it st => opt (asRef it) fun k => bnd (alloc (.list none []) st) fun _ st1 =>
        bnd (I.cp ⟨relabel sc (dumEnv fi.sc), cl, false, none⟩ target elt ifs k st.n { st1 with mu := [] }) fun _ st' => ret (.ref st.n) { st' with mu := st1.mu }
    | _ => none
  | false => none
noncomputable def stepE (T : PT) (I : Evs) (fi : FI) (x : Expr) (st : St) : Rr AV := match x with
  | .Constant c _ _ => match constE c with
    | some a => ret a st
    | none => none
  | .Name x _ => loadN T fi (nm x) st
  | .BoolOp op vs p => match vs with
    | [] => none
    | [e] => I.e fi e st
    | e :: e' :: r => bnd (I.e fi e st) fun a st => match a with
      | .bool c => match op, c with
        | .And, true => I.e fi (.BoolOp op (e' :: r) p) st
        | .And, false => ret a st
        | .Or, true => ret a st
        | .Or, false => I.e fi (.BoolOp op (e' :: r) p) st
      | _ => none
  | .BinOp l op r _ => bnd (I.e fi l st) fun a st => bnd (I.e fi r st) fun b st => bin op a b st
  | .UnaryOp op x _ => match op with
    | .USub => bnd (I.e fi x st) fun a st => opt (asInt a) fun q => ret (mkI q.1 (-q.2)) st
    | .Not => bnd (I.e fi x st) fun a st => match a with
      | .bool c => ret (.bool !c) st
      | _ => none
    | _ => none
  | .IfExp t b o _ => bnd (I.b fi t st) fun c st => match c with
    | true => I.e fi b st
    | false => I.e fi o st
  | .Dict ks vs _ => match ks, vs with
    | [], [] => alloc (.tab []) st
    | _, _ => none
  | .List es _ => bnd (I.es fi es st) fun vs st => match short 100 vs with
    | true => alloc (.list none vs) st
    | false => none
  | .Tuple es _ _ => bnd (I.es fi es st) fun vs st => match short 100 vs with
    | true => alloc (.tup vs) st
    | false => none
  | .Compare l ops rs _ => match ops, rs with
    | [op], [r] => match behindInMarks op r with
      | true => none
      | false => bnd (I.e fi l st) fun a st => bnd (I.e fi r st) fun b st => cmp T op a b st
    | _, _ => none
  | .Call f args kws p => match kws with
    | _ :: _ => none
    | [] => match f with
      | .Attribute o name apos => match andB (plainO o) (andB (Nat.beq apos.endLine p.line) (short 20 args)) with
        | true => bnd (I.e fi o st) fun a st => opt (meth T a (nm name) st) fun f => bnd (argsE I fi args st) fun vs st => I.call fi.own f (a :: vs) st
        | false => none
      | .Name x _ => opt (loadF T fi (nm x)) fun f => match isIsin f with
          | true => match args with
            | [e, z] => match noStar e with
              | true => opt (asNm z) fun y => bnd (I.e fi e st) fun a st => opt (loadF T fi y) fun t => isin T a t st
              | false => none
            | _ => none
          | false => match short 20 args with
            | true => bnd (argsE I fi args st) fun vs st => I.call fi.own f vs st
            | false => none
      | _ => none
  | .Attribute o x _ => match plainO o with
    | true => bnd (I.e fi o st) fun a st => getA T a (nm x) st
    | false => none
  | .Subscript o i _ => bnd (I.e fi o st) fun a st => match i with
    | .Slice l u s _ => bnd (optE I fi l st) fun lo st => bnd (optE I fi u st) fun hi st => bnd (optE I fi s st) fun sp st =>
        match s, sp with
        | some _, .none => none
        | _, _ => slcS fi a lo hi sp st
    | _ => bnd (I.e fi i st) fun k st => getI a k st
  | .ListComp elt gens sc _ => match gens with
    | [⟨target, iter, ifs, 0⟩] => compE I fi elt target iter ifs sc st
    | _ => none
  | _ => none

noncomputable def stepEs (I : Evs) (fi : FI) (xs : List Expr) (st : St) : Rr (List AV) := match xs with
  | [] => ret [] st
  | e :: r => match noStar e with
    | true => bnd (I.e fi e st) fun a st => bnd (I.es fi r st) fun as st => ret (a :: as) st
    | false => none

noncomputable def stepB (T : PT) (I : Evs) (fi : FI) (x : Expr) (st : St) : Rr Bool := match x with
  | .UnaryOp .Not x _ => bnd (I.b fi x st) fun c st => ret (!c) st
  | .BoolOp op vs p => match op, vs with
    | .And, [] => ret true st
    | .Or, [] => ret false st
    | .And, e :: r => bnd (I.b fi e st) fun c st => match c with
      | true => I.b fi (.BoolOp .And r p) st
      | false => ret false st
    | .Or, e :: r => bnd (I.b fi e st) fun c st => match c with
      | true => ret true st
      | false => I.b fi (.BoolOp .Or r p) st
  | .IfExp t b o _ => bnd (I.b fi t st) fun c st => match c with
    | true => I.b fi b st
    | false => I.b fi o st
  | .Compare l ops rs _ => match ops, rs with
    | [op], [r] => match behindInMarks op r with
      | true => none
      | false => bnd (I.e fi l st) fun a st => bnd (I.e fi r st) fun b st => bnd (cmp T op a b st) fun c st => match c with
        | .bool c => ret c st
        | _ => none
    | _, _ => none
  | .Call f as ks p => bnd (I.e fi (.Call f as ks p) st) fun a st => match a with
    | .bool c => ret c st
    | _ => none
  | .Name x p => bnd (I.e fi (.Name x p) st) fun a st => match a with
    | .bool c => ret c st
    | _ => none
  | _ => none

noncomputable def pureOf {α : Type} : Sem α → Option α
  | .pure a => some a
  | _ => none

noncomputable def stepS (T : PT) (I : Evs) (fi : FI) (x : Stmt) (st : St) : Rr AFl := match x with
  | .Expr v _ => match plainV v with
    | true => bnd (I.e fi v st) fun _ st => ret .next st
    | false => none
  | .Pass _ => ret .next st
  | .Break _ => ret .brk st
  | .Continue _ => ret .cont st
  | .Return v _ => match v with
    | none => ret (.ret .none) st
    | some e => bnd (I.e fi e st) fun a st => ret (.ret a) st
  | .Assign ts v p => match plainV v with
    | true => match ts with
      | [t] => match t with
        | .Name x _ => bnd (I.e fi v st) fun a st => bnd (storeN fi (nm x) a st) fun _ st => ret .next st
        | .Attribute o x _ => bnd (I.e fi v st) fun a st => bnd (I.e fi o st) fun b st => bnd (setA T b (nm x) a st) fun _ st => ret .next st
        | .Subscript o i _ => bnd (I.e fi v st) fun a st => bnd (I.e fi o st) fun b st => bnd (I.e fi i st) fun k st => bnd (setI b k a st) fun _ st => ret .next st
        | .Tuple es k tp => opt (pureOf (swappedStores [.Tuple es k tp] v (dumEnv fi.sc))) fun o => match o with
          | none => bnd (I.e fi v st) fun a st => bnd (I.asg fi (.Tuple es k tp) a st) fun _ st => ret .next st
          | some names => bnd (I.e fi v st) fun a st => bnd (unp a names.length st) fun xs st => bnd (storeNs fi names.reverse xs.reverse st) fun _ st => ret .next st
        | _ => none
      | _ => none
    | false => match v, ts with
      | .ListComp .., [.Name x tp] => match pureOf (swapsWith v (some (.Name x tp)) p.line (dumEnv fi.sc)) with
        | some _ => bnd (I.e fi v st) fun a st => bnd (storeN fi (nm x) a st) fun _ st => ret .next st
        | none => none
      | _, _ => none
  | .AugAssign t op v _ => match t with
    | .Attribute o x _ => match op with
      | .Add => bnd (I.e fi o st) fun b st => bnd (getA T b (nm x) st) fun old st => bnd (I.e fi v st) fun a st => opt (asInt old) fun p => opt (asInt a) fun q => bnd (setA T b (nm x) (mkI (both p.1 q.1) (p.2 + q.2)) st) fun _ st => ret .next st
      | _ => none
    | _ => none
  | .If t b o _ => bnd (I.b fi t st) fun c st => match c with
    | true => I.ss fi b st
    | false => I.ss fi o st
  | .While t b o _ => match o with
    | [] => I.wh fi t b st
    | _ => none
  | .For t i b o _ => match o with
    | [] => match plainIt i with
      | true => bnd (I.e fi i st) fun a st => match a with
        | .ref l => bnd (mkIt l st) fun it st => match it with
            | .ref k => I.fr fi t k b st
            | _ => none
        | _ => none
      | false => none
    | _ => none
  | _ => none

noncomputable def stepSs (I : Evs) (fi : FI) (xs : List Stmt) (st : St) : Rr AFl := match xs with
  | [] => ret .next st
  | s :: r => bnd (I.s fi s st) fun f st => match f with
    | .next => I.ss fi r st
    | f => ret f st

noncomputable def stepAsg (T : PT) (I : Evs) (fi : FI) (t : Expr) (a : AV) (st : St) : Rr Unit := match t with
  | .Name x _ => storeN fi (nm x) a st
  | .Tuple es _ _ => bnd (unp a es.length st) fun xs st => okOr (es.all noStar) (I.asgs fi es xs st)
  | _ => none
noncomputable def stepAsgs (I : Evs) (fi : FI) (ts : List Expr) (vs : List AV) (st : St) : Rr Unit := match ts, vs with
  | [], [] => ret () st
  | t :: ts, v :: vs => bnd (I.asg fi t v st) fun _ st => I.asgs fi ts vs st
  | _, _ => none

noncomputable def stepWh (I : Evs) (fi : FI) (t : Expr) (b : List Stmt) (st : St) : Rr AFl := bnd (I.b fi t st) fun c st => match c with
  | true => bnd (I.ss fi b st) fun f st => match f with
    | .next => I.wh fi t b st
    | .cont => I.wh fi t b st
    | .brk => ret .next st
    | .ret a => ret (.ret a) st
  | false => ret .next st
noncomputable def stepFr (I : Evs) (fi : FI) (t : Expr) (k : Nat) (b : List Stmt) (st : St) : Rr AFl := bnd (nxt k st) fun o st => match o with
  | none => ret .next st
  | some a => bnd (I.asg fi t a st) fun _ st => bnd (I.ss fi b st) fun f st => match f with
    | .next => I.fr fi t k b st
    | .cont => I.fr fi t k b st
    | .brk => ret .next st
    | .ret a => ret (.ret a) st

noncomputable def stepCp (I : Evs) (fi : FI) (t elt : Expr) (ifs : List Expr) (k j : Nat) (st : St) : Rr Unit := bnd (nxt k st) fun o st => match o with
  | none => ret () st
  | some a => bnd (I.asg fi t a st) fun _ st => bnd (I.ts fi ifs st) fun c st => match c with
    | false => I.cp fi t elt ifs k j st
    | true => bnd (I.e fi elt st) fun v st => bnd (bcall .append [.ref j, v] st) fun _ st => I.cp fi t elt ifs k j st
noncomputable def stepTs (I : Evs) (fi : FI) (xs : List Expr) (st : St) : Rr Bool := match xs with
  | [] => ret true st
  | e :: r => bnd (I.b fi e st) fun c st => match c with
    | true => I.ts fi r st
    | false => ret false st

noncomputable def evStep (T : PT) (I : Evs) : Evs where
  e := stepE T I
  es := stepEs I
  b := stepB T I
  s := stepS T I
  ss := stepSs I
  call := stepCall T I
  asg := stepAsg T I
  asgs := stepAsgs I
  wh := stepWh I
  fr := stepFr I
  cp := stepCp I
  ts := stepTs I
noncomputable def ev0 : Evs where
  e := fun _ _ _ => none
  es := fun _ _ _ => none
  b := fun _ _ _ => none
  s := fun _ _ _ => none
  ss := fun _ _ _ => none
  call := fun _ _ _ _ => none
  asg := fun _ _ _ _ => none
  asgs := fun _ _ _ _ => none
  wh := fun _ _ _ _ => none
  fr := fun _ _ _ _ _ => none
  cp := fun _ _ _ _ _ _ _ => none
  ts := fun _ _ _ => none
noncomputable def evs (T : PT) : Nat → Evs
  | 0 => ev0
  | n + 1 => evStep T (evs T n)
end Mine
namespace Mine
open PySem PySem.W PyProof.Rows PySem.Calls PySem.Spec

noncomputable def NoE : Value → Shared → Prop := fun _ _ => False

structure FrOk (K : Frag) (p : Program) (loose : List Str) (mean : ExcName → Option Value) (mg mb : Str → Option Value) (fi : FI) (fc : FC) : Prop where
  X : K.In fc.h₀
  T : Top p loose mean mg mb fc.h₀
  hh : fc.A.handled = none
  hk : fc.env.scope.kind = .function
  sc : fc.env.scope = fi.sc
  gl : fc.env.globals = mainGlobals
  bl : fc.env.builtins = builtinsNs
  own : fi.own = true → Below fc.A₀ fc.base fc.outer fc.h₀ ∧ fc.A.frames = some (fc.env :: fc.outer) ∧ fc.env.frame = some fc.env.locals
  scr : ∀ b xs, fi.scr = some (b, xs) → ∃ vs : List Value, fc.h₀.IsList b vs.toArray ∧ ∀ (ρ : Nat → Addr) (n : Nat), All2 (RepV ρ n) xs vs

noncomputable def Room (D n : Nat) (fc : FC) : Prop := fc.A.depth + n ≤ D ∧ fc.A.units + 10 * n ≤ 10 * D

noncomputable def Pst {α : Type} (P : Params) (fi : FI) (fc : FC) (ρ : Nat → Addr) (st st' : St) (s : Shared) (R : (Nat → Addr) → α → Prop) (Q : α → Shared → Prop) : Prop :=
  ∀ ρ' h' tk v, Ext ρ st.n ρ' st'.n → Rel P fi fc ρ' st' h' → R ρ' v → Q v { s with heap := h', toks := tk }
theorem Pst.of {α : Type} {P : Params} {fi : FI} {fc : FC} {ρ : Nat → Addr} {st st' : St} {s : Shared} {R : (Nat → Addr) → α → Prop} {Q : α → Shared → Prop} (H : Pst P fi fc ρ st st' s R Q) {h' : Heap} {tk : Nat} {v : α}
    (hs : st'.n = st.n) (r : Rel P fi fc ρ st' h') (q : R ρ v) : Q v { s with heap := h', toks := tk } := H ρ h' tk v ⟨Nat.le_of_eq hs.symm, fun _ _ => rfl⟩ r q

theorem sizeL : sizeLine = 16777216 := by rw [sizeLine_eq]
theorem stn_append (a b : Nm) : stn a ++ stn b = stn (a ++ b) := by
  show Str.append _ _ = _
  simp [Str.append, stn]
theorem stn_len (a : Nm) : (stn a).length = a.length := by simp [Str.length, stn]
theorem stn_beq (a b : Nm) : (stn a == stn b) = nmEq a b := by
  cases h : nmEq a b with
  | true => rw [nmEq_iff.mp h]; simp
  | false => simp only [beq_eq_false_iff_ne]; exact fun e => nmEq_ff h (stn_inj e)

theorem asInt_rep {ρ : Nat → Addr} {n : Nat} {a : AV} {v : Value} {p : Bool} {x : Int} (e : asInt a = some (p, x)) (r : RepV ρ n a v) : ∃ t, v = .int x t := by
  cases a <;> simp only [asInt] at e <;> cases e <;> exact r
theorem asStr_rep {ρ : Nat → Addr} {n : Nat} {a : AV} {v : Value} {p : Bool} {x : Nm} (e : asStr a = some (p, x)) (r : RepV ρ n a v) : ∃ t, v = .str (stn x) t := by
  cases a <;> simp only [asStr] at e <;> cases e <;> exact r
theorem mkI_rep {ρ : Nat → Addr} {n : Nat} (p : Bool) (x : Int) (t : Tok) : RepV ρ n (mkI p x) (.int x t) := by cases p <;> exact ⟨t, rfl⟩
theorem mkS_rep {ρ : Nat → Addr} {n : Nat} (p : Bool) (x : Nm) (t : Tok) : RepV ρ n (mkS p x) (.str (stn x) t) := by cases p <;> exact ⟨t, rfl⟩

section
variable {prog : Program} {w : World} {K : Frag} {fi : FI} {fc : FC} {ρ : Nat → Addr} {st st' : St} {s : Shared}

theorem Rel.pst {h : Heap} {α : Type} {R : (Nat → Addr) → α → Prop} {Q : α → Shared → Prop} {tk : Nat} {v : α} (r : Rel w.params fi fc ρ st h) (H : Pst w.params fi fc ρ st st s R Q) (q : R ρ v) : Q v { s with heap := h, toks := tk } := H.of rfl r q

theorem shared_eta (s : Shared) : { s with heap := s.heap, toks := s.toks } = s := rfl

/-- an object made: a list -/
theorem alloc_list {xs : List AV} {pre : Option (List AV)} {vs : List Value} {Q : Value → Shared → Prop} {A : Around} {M : Model} (r : Rel w.params fi fc ρ st s.heap) (hv : All2 (RepV ρ st.n) (itm pre xs) vs) (hz : vs.length ≤ sizeLine)
    (H : Pst w.params fi fc ρ st { st with sg := st.sg.set st.n (.list pre xs), n := st.n + 1 } s (fun ρ' v => RepV ρ' (st.n + 1) (.ref st.n) v) Q) : wpAny M A (newList vs) Q NoE s := by
  obtain ⟨m, os, R⟩ := r
  refine newList_K R.F R.N (fun l h' F' N' lt => ?_) hz
  obtain ⟨R', X⟩ := R.push (ao := .list pre xs) (o := listOf vs.toArray 0) F' N' lt ⟨vs, 0, rfl, hv.mono fun _ _ _ q => q.ext ⟨Nat.le_succ _, fun i hi => by simp [Nat.ne_of_lt hi]⟩⟩
  exact H _ h' s.toks _ X ⟨_, _, R'⟩ ⟨Nat.lt_succ_self _, by simp⟩
theorem alloc_tup {xs : List AV} {vs : List Value} {Q : Value → Shared → Prop} {A : Around} {M : Model} (r : Rel w.params fi fc ρ st s.heap) (hv : All2 (RepV ρ st.n) xs vs) (hz : vs.length ≤ sizeLine)
    (H : Pst w.params fi fc ρ st { st with sg := st.sg.set st.n (.tup xs), n := st.n + 1 } s (fun ρ' v => RepV ρ' (st.n + 1) (.ref st.n) v) Q) : wpAny M A (newTuple vs) Q NoE s := by
  obtain ⟨m, os, R⟩ := r
  refine newTuple_N R.F R.N (fun h' F' N' => ?_) hz
  have lt : ∀ p ∈ ledF st.sg ρ 0 os ++ fc.rest, p.1 < s.heap.objs.size := fun p hp => Heap.lt_size (R.N p hp).1
  obtain ⟨R', X⟩ := R.push (ao := .tup xs) F' N' lt ⟨vs, 0, rfl, hv.mono fun _ _ _ q => q.ext ⟨Nat.le_succ _, fun i hi => by simp [Nat.ne_of_lt hi]⟩⟩
  exact H _ h' s.toks _ X ⟨_, _, R'⟩ ⟨Nat.lt_succ_self _, by simp⟩

theorem list_get (r : Rel w.params fi fc ρ st s.heap) {l : Nat} {pre : Option (List AV)} {xs : List AV} (e : st.sg.get l = .list pre xs) :
    ∃ m os vs k, RelAt w.params fi fc ρ st s.heap m os ∧ os[l]? = some (listOf (List.toArray vs) k) ∧ All2 (RepV ρ st.n) (itm pre xs) vs ∧ (ρ l, listOf (List.toArray vs) k) ∈ ledF st.sg ρ 0 os ++ fc.rest ∧ s.heap.IsList (ρ l) vs.toArray ∧ l < st.n := by
  obtain ⟨m, os, R⟩ := r
  obtain ⟨o, ho, ⟨vs, k, rfl, hv⟩, hm, hg⟩ := R.get e (by intro q; cases q)
  exact ⟨m, os, vs, k, R, ho, hv, hm, ⟨_, hg, rfl, _, rfl⟩, R.lt (by rw [e]; intro q; cases q)⟩
theorem tup_get (r : Rel w.params fi fc ρ st s.heap) {l : Nat} {xs : List AV} (e : st.sg.get l = .tup xs) :
    ∃ m os vs, RelAt w.params fi fc ρ st s.heap m os ∧ All2 (RepV ρ st.n) xs vs ∧ IsTup s.heap (ρ l) vs.toArray ∧ l < st.n := by
  obtain ⟨m, os, R⟩ := r
  obtain ⟨o, ho, ⟨vs, k, rfl, hv⟩, hm, hg⟩ := R.get e (by intro q; cases q)
  exact ⟨m, os, vs, R, hv, ⟨_, hg, rfl, _, rfl⟩, R.lt (by rw [e]; intro q; cases q)⟩

theorem Pst.then {α : Type} {st1 : St} {R : (Nat → Addr) → α → Prop} {Q : α → Shared → Prop} {ρ1 : Nat → Addr} {h1 : Heap} {tk1 : Nat} (H : Pst w.params fi fc ρ st st' s R Q) (X : Ext ρ st.n ρ1 st1.n) :
    Pst w.params fi fc ρ1 st1 st' { s with heap := h1, toks := tk1 } R Q := fun ρ' h' tk v X' r q => H ρ' h' tk v (X.trans X') r q
/-- one piece of the evaluator against one piece of the program -/
noncomputable def J (w : World) (fi : FI) (fc : FC) (L : List AV) (V : List Value) {α β : Type} (ev : St → Rr α) (R : (Nat → Addr) → Nat → α → β → Prop) (wp : (β → Shared → Prop) → Shared → Prop) : Prop :=
  ∀ st a st' P, ev st = some (a, st', P) → Ps P → ∀ ρ s Q, Rel w.params fi fc ρ st s.heap → All2 (RepV ρ st.n) L V → Pst w.params fi fc ρ st st' s (fun ρ' v => R ρ' st'.n a v) Q → wp Q s
noncomputable def rB : (Nat → Addr) → Nat → Bool → Bool → Prop := fun _ _ a v => v = a
noncomputable def rU : (Nat → Addr) → Nat → Unit → Unit → Prop := fun _ _ _ _ => True
noncomputable def rL : (Nat → Addr) → Nat → List AV → List Value → Prop := fun ρ n a v => All2 (RepV ρ n) a v
theorem All2.exts {ρ ρ' : Nat → Addr} {n n' : Nat} (x : Ext ρ n ρ' n') {a : List AV} {v : List Value} (h : All2 (RepV ρ n) a v) : All2 (RepV ρ' n') a v := h.mono fun _ _ _ q => q.ext x
section
variable {α β γ δ : Type} {L : List AV} {V : List Value} {ev : St → Rr α} {R : (Nat → Addr) → Nat → α → β → Prop} {wp wp' : (β → Shared → Prop) → Shared → Prop}
theorem J.by (hw : ∀ Q s, wp' Q s → wp Q s) (h : J w fi fc L V ev R wp') : J w fi fc L V ev R wp := fun st a st' P e hP ρ s Q r c H => hw Q s (h st a st' P e hP ρ s Q r c H)
theorem J.none : J w fi fc L V (fun _ => (none : Rr α)) R wp := fun _ _ _ _ e => nn e
theorem J.ret {a : α} (h : ∀ Q s ρ n, All2 (RepV ρ n) L V → (∀ v tk, R ρ n a v → Q v { s with toks := tk }) → wp Q s) : J w fi fc L V (ret a) R wp := fun st b st' P e hP ρ s Q r c H => by
  obtain ⟨rfl, rfl, rfl⟩ := ret_some e
  exact h Q s ρ st.n c fun v tk q => H.of rfl r q
theorem J.bnd {e1 : St → Rr γ} {k : γ → St → Rr α} {R1 : (Nat → Addr) → Nat → γ → δ → Prop} {wp1 : (δ → Shared → Prop) → Shared → Prop} {wp2 : δ → (β → Shared → Prop) → Shared → Prop} (h1 : J w fi fc L V e1 R1 wp1)
    (h2 : ∀ a v st a' st' P, k a st = some (a', st', P) → Ps P → ∀ ρ s Q, Rel w.params fi fc ρ st s.heap → R1 ρ st.n a v → All2 (RepV ρ st.n) L V → Pst w.params fi fc ρ st st' s (fun ρ' v => R ρ' st'.n a' v) Q → wp2 v Q s) :
    J w fi fc L V (fun st => bnd (e1 st) k) R (fun Q s => wp1 (fun v s' => wp2 v Q s') s) := fun st a st' P h hP ρ s Q r c H =>
  bnd_el h hP fun b st1 P1 P2 g1 g2 hP1 hP2 => h1 st b st1 P1 g1 hP1 ρ s _ r c fun ρ1 h' tk v X r1 q => h2 b v st1 a st' P2 g2 hP2 ρ1 { s with heap := h', toks := tk } Q r1 q (c.exts X) (H.then X)
theorem J.bndV {e1 : St → Rr AV} {k : AV → St → Rr α} {wp1 : (Value → Shared → Prop) → Shared → Prop} {wp2 : Value → (β → Shared → Prop) → Shared → Prop} (h1 : J w fi fc L V e1 RepV wp1) (h2 : ∀ a v, J w fi fc (a :: L) (v :: V) (k a) R (wp2 v)) :
    J w fi fc L V (fun st => Mine.bnd (e1 st) k) R (fun Q s => wp1 (fun v s' => wp2 v Q s') s) := J.bnd h1 fun a v st a' st' P e hP ρ s Q r q c H => h2 a v st a' st' P e hP ρ s Q r ⟨q, c⟩ H
theorem J.bndL {e1 : St → Rr (List AV)} {k : List AV → St → Rr α} {wp1 : (List Value → Shared → Prop) → Shared → Prop} {wp2 : List Value → (β → Shared → Prop) → Shared → Prop} (h1 : J w fi fc L V e1 rL wp1) (h2 : ∀ a v, J w fi fc a v (k a) R (wp2 v)) :
    J w fi fc L V (fun st => Mine.bnd (e1 st) k) R (fun Q s => wp1 (fun v s' => wp2 v Q s') s) := J.bnd h1 fun a v st a' st' P e hP ρ s Q r q c H => h2 a v st a' st' P e hP ρ s Q r q H
theorem J.bndB {e1 : St → Rr Bool} {k : Bool → St → Rr α} {wp1 : (Bool → Shared → Prop) → Shared → Prop} {wp2 : Bool → (β → Shared → Prop) → Shared → Prop} (h1 : J w fi fc L V e1 rB wp1) (ht : J w fi fc L V (k true) R (wp2 true)) (hf : J w fi fc L V (k false) R (wp2 false)) :
    J w fi fc L V (fun st => Mine.bnd (e1 st) k) R (fun Q s => wp1 (fun v s' => wp2 v Q s') s) := J.bnd h1 fun a v st a' st' P e hP ρ s Q r q c H => by
  obtain rfl : v = a := q
  induction v with
  | true => exact ht st a' st' P e hP ρ s Q r c H
  | false => exact hf st a' st' P e hP ρ s Q r c H
theorem J.bndU {e1 : St → Rr Unit} {k : Unit → St → Rr α} {wp1 : (Unit → Shared → Prop) → Shared → Prop} {wp2 : Unit → (β → Shared → Prop) → Shared → Prop} (h1 : J w fi fc L V e1 rU wp1) (h2 : J w fi fc L V (k ()) R (wp2 ())) :
    J w fi fc L V (fun st => Mine.bnd (e1 st) k) R (fun Q s => wp1 (fun v s' => wp2 v Q s') s) := J.bnd h1 fun _ _ st a' st' P e hP ρ s Q r _ c H => h2 st a' st' P e hP ρ s Q r c H
theorem J.bool {c : Bool} {e1 e2 : St → Rr α} (ht : c = true → J w fi fc L V e1 R wp) (hf : c = false → J w fi fc L V e2 R wp) : J w fi fc L V (fun st => match c with | true => e1 st | false => e2 st) R wp := by
  induction c with
  | true => exact ht rfl
  | false => exact hf rfl
theorem J.opt {o : Option γ} {e1 : γ → St → Rr α} (h : ∀ f, o = some f → J w fi fc L V (e1 f) R wp) : J w fi fc L V (fun st => Mine.opt o fun f => e1 f st) R wp := by
  induction o with
  | none => exact J.none
  | some f => exact h f rfl
theorem J.only {c : Bool} {e1 : St → Rr α} (ht : c = true → J w fi fc L V e1 R wp) : J w fi fc L V (fun st => match c with | true => e1 st | false => Option.none) R wp := J.bool ht fun _ => J.none
end
theorem J.hyp {α β : Type} {L : List AV} {V : List Value} {p : Prop} {a : α} {R : (Nat → Addr) → Nat → α → β → Prop} {wp : (β → Shared → Prop) → Shared → Prop} (h : p → J w fi fc L V (Mine.ret a) R wp) : J w fi fc L V (Mine.hyp p a) R wp := fun st b st' P e hP ρ s Q r c H => by
  cases e
  exact h hP.1 st a st [] rfl trivial ρ s Q r c H
theorem J.hypc {α β : Type} {L : List AV} {V : List Value} {c : Bool} {p : Prop} {a : α} {R : (Nat → Addr) → Nat → α → β → Prop} {wp : (β → Shared → Prop) → Shared → Prop} (hc : c = true → p) (h : p → J w fi fc L V (Mine.ret a) R wp) : J w fi fc L V (Mine.hypc c p a) R wp := fun st b st' P e hP ρ s Q r cc H => by
  cases e
  exact h (hyc hP hc) st a st [] rfl trivial ρ s Q r cc H
section
variable {α β : Type} {L : List AV} {V : List Value} {R : (Nat → Addr) → Nat → α → β → Prop} {a b : AV} {va vb : Value}
theorem intsJ {wp : Value → Value → (β → Shared → Prop) → Shared → Prop} {k : Bool → Int → Bool → Int → St → Rr α} {e1 : St → Rr α} (h : ∀ p x q y t u, J w fi fc (mkI q y :: mkI p x :: L) (.int y u :: .int x t :: V) (k p x q y) R (wp (.int x t) (.int y u))) (he : J w fi fc (b :: a :: L) (vb :: va :: V) e1 R (wp va vb)) :
    J w fi fc (b :: a :: L) (vb :: va :: V) (fun st => intz a b (fun p x q y => k p x q y st) (e1 st)) R (wp va vb) := fun st r st' P e hP ρ s Q rr c H => by
  unfold intz at e
  cases ea : asInt a with
  | none => rw [ea] at e; exact he st r st' P e hP ρ s Q rr c H
  | some p => cases eb : asInt b with
    | none => rw [ea, eb] at e; exact he st r st' P e hP ρ s Q rr c H
    | some q =>
      rw [ea, eb] at e
      obtain ⟨t, rfl⟩ := asInt_rep (p := p.1) (x := p.2) ea c.2.1
      obtain ⟨u, rfl⟩ := asInt_rep (p := q.1) (x := q.2) eb c.1
      exact h _ _ _ _ t u st r st' P e hP ρ s Q rr ⟨mkI_rep _ _ _, mkI_rep _ _ _, c.2.2⟩ H
theorem strsJ {wp : Value → Value → (β → Shared → Prop) → Shared → Prop} {k : Bool → Nm → Bool → Nm → St → Rr α} {e1 : St → Rr α} (h : ∀ p x q y t u, J w fi fc (mkS q y :: mkS p x :: L) (.str (stn y) u :: .str (stn x) t :: V) (k p x q y) R (wp (.str (stn x) t) (.str (stn y) u))) (he : J w fi fc (b :: a :: L) (vb :: va :: V) e1 R (wp va vb)) :
    J w fi fc (b :: a :: L) (vb :: va :: V) (fun st => strz a b (fun p x q y => k p x q y st) (e1 st)) R (wp va vb) := fun st r st' P e hP ρ s Q rr c H => by
  unfold strz at e
  cases ea : asStr a with
  | none => rw [ea] at e; exact he st r st' P e hP ρ s Q rr c H
  | some p => cases eb : asStr b with
    | none => rw [ea, eb] at e; exact he st r st' P e hP ρ s Q rr c H
    | some q =>
      rw [ea, eb] at e
      obtain ⟨t, rfl⟩ := asStr_rep (p := p.1) (x := p.2) ea c.2.1
      obtain ⟨u, rfl⟩ := asStr_rep (p := q.1) (x := q.2) eb c.1
      exact h _ _ _ _ t u st r st' P e hP ρ s Q rr ⟨mkS_rep _ _ _, mkS_rep _ _ _, c.2.2⟩ H
theorem intJ {wp : Value → (β → Shared → Prop) → Shared → Prop} {k : Bool × Int → St → Rr α} (h : ∀ p t, J w fi fc (mkI p.1 p.2 :: L) (.int p.2 t :: V) (k p) R (wp (.int p.2 t))) : J w fi fc (a :: L) (va :: V) (fun st => opt (asInt a) fun p => k p st) R (wp va) := fun st r st' P e hP ρ s Q rr c H =>
  opt_el e fun p ea e => by
    obtain ⟨t, rfl⟩ := asInt_rep (p := p.1) (x := p.2) ea c.1
    exact h p t st r st' P e hP ρ s Q rr ⟨mkI_rep _ _ _, c.2⟩ H
end
theorem some3 {α β γ : Type} {a a' : α} {b b' : β} {c c' : γ} (h : some (a, b, c) = some (a', b', c')) : a = a' ∧ b = b' ∧ c = c' := by cases h; exact ⟨rfl, rfl, rfl⟩
theorem add_lists {l k : Nat} {p q : Option (List AV)} {xs ys : List AV} {Q : Value → Shared → Prop} (r : Rel w.params fi fc ρ st s.heap) (ex : st.sg.get l = .list p xs) (ey : st.sg.get k = .list q ys) (hz : (itm p xs).length + (itm q ys).length ≤ sizeLine)
    (H : Pst w.params fi fc ρ st { st with sg := st.sg.set st.n (cat p xs q ys), n := st.n + 1 } s (fun ρ' v => RepV ρ' (st.n + 1) (.ref st.n) v) Q) : wpAny (model prog w) fc.A (binaryOp .Add (.ref (ρ l)) (.ref (ρ k))) Q NoE s := by
  obtain ⟨m, os, vs, n1, R, ho, hv, hm, hl, hlt⟩ := list_get r ex
  obtain ⟨_, _, ws, n2, _, _, hw, _, hl2, _⟩ := list_get r ey
  refine add_arrays R.F R.N hl hl2 (fun h' F' N' => ?_) (by simp only [List.size_toArray]; rw [← hv.length, ← hw.length]; exact hz)
  have lt : ∀ p ∈ ledF st.sg ρ 0 os ++ fc.rest, p.1 < s.heap.objs.size := fun p hp => Heap.lt_size (R.N p hp).1
  have X : Ext ρ st.n (fun i => if i = st.n then s.heap.objs.size else ρ i) (st.n + 1) := ⟨Nat.le_succ _, fun i hi => if_neg (Nat.ne_of_lt hi)⟩
  have ro : RepO w.params (fun i => if i = st.n then s.heap.objs.size else ρ i) (st.n + 1) (cat p xs q ys) (listOf (vs ++ ws).toArray 0) := by
    have hvw := (hv.append hw).exts X
    induction q with
    | none => exact ⟨_, _, rfl, by rw [itm_append]; exact hvw⟩
    | some q => exact ⟨_, _, rfl, by show All2 _ ((itm p xs ++ q) ++ ys) _; rw [List.append_assoc]; exact hvw⟩
  obtain ⟨R', X'⟩ := R.push F' N' lt ro (by intro es e; cases q <;> cases e)
  exact H _ h' s.toks _ X' ⟨_, _, R'⟩ ⟨Nat.lt_succ_self _, by simp⟩
theorem addListJ {a b : AV} {va vb : Value} : J w fi fc [b, a] [vb, va] (fun st => opt (asRef a) fun l => opt (asRef b) fun k => opt (asList (st.sg.get l)) fun x => opt (asList (st.sg.get k)) fun y =>
        bnd (hypc (andB (shortP x.1 x.2) (shortP y.1 y.2)) ((itm x.1 x.2).length + (itm y.1 y.2).length ≤ sizeLine) () st) fun _ st => alloc (cat x.1 x.2 y.1 y.2) st) RepV (fun Q s => wpAny (model prog w) fc.A (binaryOp .Add va vb) Q NoE s) :=
  J.opt fun l el => J.opt fun k ek => fun st r st' P e2 hP ρ s Q rr c H => opt_el e2 fun x ex e3 => opt_el e3 fun y ey e4 => by
    have e5 : some (AV.ref st.n, { st with sg := st.sg.set st.n (cat x.1 x.2 y.1 y.2), n := st.n + 1 }, hcP (andB (shortP x.1 x.2) (shortP y.1 y.2)) ((itm x.1 x.2).length + (itm y.1 y.2).length ≤ sizeLine) ++ []) = some (r, st', P) := e4
    clear e2 e3 e4
    obtain ⟨h1, h2, h3⟩ := some3 e5
    clear e5
    subst h1 h2 h3
    rw [asRef_eq el, asRef_eq ek] at c
    obtain ⟨_, rfl⟩ := c.2.1
    obtain ⟨_, rfl⟩ := c.1
    exact add_lists rr (asList_eq ex) (asList_eq ey) (hyc (Ps.append hP).1 fun hc => by
      have h1 := shortP_le (andB_iff hc).1
      have h2 := shortP_le (andB_iff hc).2
      rw [sizeL]; lia) H
theorem fold_one (u : Value) : ∀ (n : Nat) (a : Array Value), List.foldl (fun x1 x2 => x1 ++ x2) a (List.replicate n #[u]) = a ++ (List.replicate n u).toArray
  | 0, a => by simp
  | n + 1, a => by
    rw [List.replicate_succ, List.foldl_cons, fold_one u n]
    apply Array.toList_inj.mp
    simp [List.replicate_succ]
theorem rep_all2 {R : AV → Value → Prop} {x : AV} {v : Value} (h : R x v) : ∀ n : Nat, All2 R (List.replicate n x) (List.replicate n v)
  | 0 => trivial
  | n + 1 => ⟨h, rep_all2 h n⟩
theorem mul_one {l : Nat} {x : AV} {y : Int} {u : Tok} {Q : Value → Shared → Prop} (r : Rel w.params fi fc ρ st s.heap) (ex : st.sg.get l = .list none [x]) (hy : 0 ≤ y ∧ y ≤ 10000)
    (H : Pst w.params fi fc ρ st { st with sg := st.sg.set st.n (.list (some (List.replicate y.toNat x)) []), n := st.n + 1 } s (fun ρ' v => RepV ρ' (st.n + 1) (.ref st.n) v) Q) : wpAny (model prog w) fc.A (binaryOp .Mult (.ref (ρ l)) (.int y u)) Q NoE s := by
  obtain ⟨m, os, vs, k1, R, ho, hv, hm, hl, hlt⟩ := list_get r ex
  have hv : All2 (RepV ρ st.n) [x] vs := hv
  obtain ⟨v, rfl, rv, _⟩ := hv.one
  refine mul_list R.F R.N (R.N _ hm).1 (by lia) (by lia) (by simp; lia) (fun h' F' N' => ?_)
  have lt : ∀ p ∈ ledF st.sg ρ 0 os ++ fc.rest, p.1 < s.heap.objs.size := fun p hp => Heap.lt_size (R.N p hp).1
  have X : Ext ρ st.n (fun i => if i = st.n then s.heap.objs.size else ρ i) (st.n + 1) := ⟨Nat.le_succ _, fun i hi => if_neg (Nat.ne_of_lt hi)⟩
  have e : List.foldl (fun x1 x2 => x1 ++ x2) #[] (List.replicate (if (List.toArray [v]).isEmpty = true then 0 else y.toNat) (List.toArray [v])) = (List.replicate y.toNat v).toArray := by
    rw [if_neg (by simp)]
    have := fold_one v y.toNat #[]
    simpa using this
  rw [e] at N'
  obtain ⟨R', X'⟩ := R.push (ao := .list (some (List.replicate y.toNat x)) []) (o := listOf (List.replicate y.toNat v).toArray 0) F' N' lt ⟨_, _, rfl, by
    show All2 _ (List.replicate y.toNat x ++ []) _
    rw [List.append_nil]
    exact rep_all2 (rv.ext X) _⟩
  exact H _ h' s.toks _ X' ⟨_, _, R'⟩ ⟨Nat.lt_succ_self _, by simp⟩
theorem mulListJ {a b : AV} {va vb : Value} : J w fi fc [b, a] [vb, va] (fun st => opt (asInt b) fun q => opt (asRef a) fun l => opt (oneOf (st.sg.get l)) fun x =>
      bnd (hyp (0 ≤ q.2 ∧ q.2 ≤ 10000) () st) fun _ st => alloc (.list (some (List.replicate q.2.toNat x)) []) st) RepV (fun Q s => wpAny (model prog w) fc.A (binaryOp .Mult va vb) Q NoE s) :=
  J.opt fun q eq => J.opt fun l el => fun st r st' P e2 hP ρ s Q rr c H => opt_el e2 fun x ex e4 => by
    have e5 : some (AV.ref st.n, { st with sg := st.sg.set st.n (.list (some (List.replicate q.2.toNat x)) []), n := st.n + 1 }, [0 ≤ q.2 ∧ q.2 ≤ 10000] ++ []) = some (r, st', P) := e4
    clear e2 e4
    obtain ⟨h1, h2, h3⟩ := some3 e5
    clear e5
    subst h1 h2 h3
    rw [asRef_eq el] at c
    obtain ⟨_, rfl⟩ := c.2.1
    obtain ⟨t, rfl⟩ := asInt_rep (p := q.1) (x := q.2) eq c.1
    exact mul_one rr (oneOf_eq ex) (Ps.append hP).1.1 H
theorem binJ0 {op : Operator} {a b : AV} {va vb : Value} : J w fi fc [b, a] [vb, va] (bin op a b) RepV (fun Q s => wpAny (model prog w) fc.A (binaryOp op va vb) Q NoE s) := by
  induction op using PySem.Operator.casesOn with
  | Add =>
    refine intsJ (wp := fun va vb Q s => wpAny (model prog w) fc.A (binaryOp .Add va vb) Q NoE s) (fun p x q y t u => ?_) ?_
    · exact J.ret fun _ _ _ _ _ k => add_int (k _ _ (mkI_rep _ _ _))
    refine strsJ (wp := fun va vb Q s => wpAny (model prog w) fc.A (binaryOp .Add va vb) Q NoE s) (fun p x q y t u => ?_) addListJ
    refine J.hypc (fun hc => ?_) fun hz => J.ret fun _ _ _ _ _ k => add_str (fun t' tk => ?_) (by rw [stn_len, stn_len]; exact hz)
    · have h1 := short_le (andB_iff (andB_iff hc).2).1
      have h2 := short_le (andB_iff (andB_iff hc).2).2
      rw [sizeL]; lia
    · rw [stn_append]; exact k _ _ (mkS_rep _ _ _)
  | Sub =>
    refine intsJ (wp := fun va vb Q s => wpAny (model prog w) fc.A (binaryOp .Sub va vb) Q NoE s) (fun p x q y t u => ?_) J.none
    exact J.ret fun _ _ _ _ _ k => sub_int (k _ _ (mkI_rep _ _ _))
  | Mult =>
    exact mulListJ
  | FloorDiv =>
    refine intsJ (wp := fun va vb Q s => wpAny (model prog w) fc.A (binaryOp .FloorDiv va vb) Q NoE s) (fun p x q y t u => ?_) J.none
    exact J.hyp fun hp => J.ret fun _ _ _ _ _ k => floordiv_int hp.1 (k _ _ (mkI_rep _ _ _)) (.inl hp.2)
  | Mod =>
    refine intsJ (wp := fun va vb Q s => wpAny (model prog w) fc.A (binaryOp .Mod va vb) Q NoE s) (fun p x q y t u => ?_) J.none
    exact J.hypc (fun hc => of_decide_eq_true (andB_iff hc).2) fun hp => J.ret fun _ _ _ _ _ k => mod_int' hp (k _ _ (mkI_rep _ _ _))
  | Pow =>
    refine intsJ (wp := fun va vb Q s => wpAny (model prog w) fc.A (binaryOp .Pow va vb) Q NoE s) (fun p x q y t u => ?_) J.none
    exact J.hypc (fun hc => powB_iff (andB_iff hc).2) fun hp => J.ret fun _ _ _ _ _ k => pow_int_small hp.1 hp.2.1 hp.2.2 (k _ _ (mkI_rep _ _ _))
  | _ => exact J.none
theorem binJ {op : Operator} {a b : AV} {va vb : Value} {L : List AV} {V : List Value} : J w fi fc (b :: a :: L) (vb :: va :: V) (bin op a b) RepV (fun Q s => wpAny (model prog w) fc.A (binaryOp op va vb) Q NoE s) :=
  fun st r st' P e hP ρ s Q rr c H => binJ0 st r st' P e hP ρ s Q rr ⟨c.1, c.2.1, trivial⟩ H

structure PTOk (K : Frag) (T : PT) : Prop where
  tups : ∀ k l, lookN k T.tups = some l → ∃ dd n sl vs, K.lookup k = some ⟨.type "tuple", dd, .seq (List.toArray vs) n, sl⟩ ∧ StrsAre vs (l.map stn)

set_option tactic.hygienic true in
theorem strsAre_of {ρ : Nat → Addr} {n : Nat} : ∀ {xs : List AV} {l : List (Bool × Nm)} {vs : List Value}, strsOf xs = some l → All2 (RepV ρ n) xs vs → StrsAre vs (l.map fun q => stn q.2)
  | [], l, [], h, _ => by cases h; exact .nil
  | a :: r, l, v :: vs, h, k => by
    unfold strsOf at h
    split at h
    · rename_i q eq
      split at h
      · rename_i l' el
        first | (obtain ⟨rfl, rfl, rfl⟩ := ret_some h) | cases h
        obtain ⟨t, rfl⟩ := asStr_rep (p := q.1) (x := q.2) eq k.1
        exact .cons _ t (strsAre_of el k.2)
      · first | exact nn h | cases h
    · first | exact nn h | cases h
theorem strsOf_txt : ∀ l : List Nm, strsOf (l.map .txt) = some (l.map fun x => (true, x))
  | [] => rfl
  | x :: r => by simp [strsOf, asStr, strsOf_txt r]
theorem orc_pst {R : (Nat → Addr) → Value → Prop} {Q : Value → Shared → Prop} {v : Value} (r : Rel w.params fi fc ρ st s.heap) (e : ∃ o, st' = { st with or := o, ov := st.ov }) (H : Pst w.params fi fc ρ st st' s R Q) (q : R ρ v) : Q v s := by
  obtain ⟨o, rfl⟩ := e
  obtain ⟨m, os, R'⟩ := r
  exact H.of rfl ⟨m, os, R'.orc o st.ov⟩ q
theorem inGo_some {p : Bool} {x : Nm} : ∀ {l : List (Bool × Nm)} {st st' : St} {b : Bool} {P : List Prop}, inGo p x l st = some (b, st', P) → Ps P →
    ((l.map fun q => stn q.2).any (· == stn x)) = b ∧ ∃ o, st' = { st with or := o, ov := st.ov }
  | [], st, st', b, P, h, _ => by cases h; exact ⟨rfl, _, rfl⟩
  | q :: r, st, st', b, P, h, hP => by
    unfold inGo at h
    refine bnd_el h hP fun c st1 P1 P2 h1 h2 hP1 hP2 => ?_
    obtain ⟨hc, o, rfl⟩ := dec_some nmEq_iff h1 hP1
    induction c with
    | true =>
      first | (obtain ⟨rfl, rfl, rfl⟩ := ret_some h2) | cases h2
      have e : x = q.2 := hc.mp rfl
      exact ⟨by simp [e], _, rfl⟩
    | false =>
      obtain ⟨h3, o', rfl⟩ := inGo_some h2 hP2
      have e : stn q.2 ≠ stn x := fun e => by have := hc.mpr (stn_inj e).symm; cases this
      refine ⟨?_, _, rfl⟩
      rw [List.map_cons, List.any_cons, h3]
      simp [e]
theorem seqOf_strs {T : PT} {b : AV} {ys : List AV} {l : List (Bool × Nm)} {vb : Value} (ok : PTOk K T) (X : K.In s.heap) (r : Rel w.params fi fc ρ st s.heap) (h : seqOf T b st = some ys) (hl : strsOf ys = some l) (rb : RepV ρ st.n b vb) :
    ∃ k vs, vb = .ref k ∧ StrsAre vs (l.map fun q => stn q.2) ∧ (s.heap.IsList k vs.toArray ∨ IsTup s.heap k vs.toArray) := by
  unfold seqOf at h
  cases ea : asRef b with
  | some k =>
    rw [ea] at h
    obtain rfl := asRef_eq ea
    obtain ⟨_, rfl⟩ := rb
    rcases seqN_eq h with e | e
    · obtain ⟨m, os, vs, n1, R, ho, hv, hm, hL, hlt⟩ := list_get r e
      exact ⟨_, vs, rfl, strsAre_of hl hv, .inl hL⟩
    · obtain ⟨m, os, vs, R, hv, hL, hlt⟩ := tup_get r e
      exact ⟨_, vs, rfl, strsAre_of hl hv, .inr hL⟩
  | none =>
    rw [ea] at h
    refine obnd_el h fun k hk h => obnd_el h fun l' e h => ?_
    obtain rfl := Option.some.inj h
    obtain rfl := asCon_eq hk
    obtain ⟨rfl, _⟩ := rb
    obtain rfl := Option.some.inj ((strsOf_txt _).symm.trans hl)
    obtain ⟨dd, n, sl, vs, hk, hs⟩ := ok.tups _ _ e
    exact ⟨k, vs, rfl, by rw [List.map_map]; exact hs, .inr ⟨_, X _ _ hk, rfl, _, rfl⟩⟩

theorem dec_beq {c : Bool} {p : Prop} [Decidable p] (h : c = true ↔ p) : decide p = c := by
  cases c <;> simp_all
theorem repV_clo {ρ : Nat → Addr} {n : Nat} {a : AV} {v : Value} (r : RepV (fun _ => 0) 0 a v) : RepV ρ n a v := by
  induction a with
  | ref l => exact absurd r.1 (Nat.not_lt_zero _)
  | _ => exact r
section
variable {h : Heap} {m : Str → Option Value} {os : List Obj}
theorem rdV_reads (R : RelAt w.params fi fc ρ st h m os) {a : AV} {d : PyData} {v : Value} (k : RdV st.sg st.imm a d) (r : RepV ρ st.n a v) : ∃ as, Reads h v d as := by
  refine RdV.rec (motive_1 := fun a d _ => ∀ v, RepV ρ st.n a v → ∃ as, Reads h v d as) (motive_2 := fun a d _ => ∀ v, All2 (RepV ρ st.n) a v → ∃ as, ReadsAll h v d as) ?_ ?_ ?_ ?_ ?_ ?_ ?_ ?_ ?_ ?_ ?_ k v r
  · intro v r; cases r; exact ⟨_, .none⟩
  · intro b v r; cases r; exact ⟨_, .bool b⟩
  · intro i v r; obtain ⟨t, rfl⟩ := r; exact ⟨_, .int i t⟩
  · intro i v r; obtain ⟨t, rfl⟩ := r; exact ⟨_, .int i t⟩
  · intro i v r; obtain ⟨t, rfl⟩ := r; exact ⟨_, .str _ t⟩
  · intro i v r; obtain ⟨t, rfl⟩ := r; exact ⟨_, .str _ t⟩
  · intro l xs ds e k ih v r
    obtain ⟨_, rfl⟩ := r
    obtain ⟨o, ho, ⟨vs, n, rfl, hv⟩, hm, hg⟩ := R.get e (by intro q; cases q)
    obtain ⟨as, q⟩ := ih _ hv
    exact ⟨_, .tuple hg rfl rfl (by simpa using q)⟩
  · intro l p xs ds e k ih v r
    obtain ⟨_, rfl⟩ := r
    obtain ⟨o, ho, ⟨vs, n, rfl, hv⟩, hm, hg⟩ := R.get e (by intro q; cases q)
    obtain ⟨as, q⟩ := ih _ hv
    exact ⟨_, .list hg rfl rfl (by simpa using q)⟩
  · intro c xs ds e k ih v r
    obtain ⟨rfl, _⟩ := r
    obtain ⟨o, ho, vs, n, rfl, hv⟩ := R.im _ _ e
    obtain ⟨as, q⟩ := ih _ (hv.mono fun _ _ _ q => repV_clo q)
    exact ⟨_, .tuple (R.N _ (List.mem_append_right _ ho)).1 rfl rfl (by simpa using q)⟩
  · intro v r
    induction v with
    | nil => exact ⟨_, .nil⟩
    | cons _ _ => exact r.elim
  · intro a as d ds k1 k2 i1 i2 v r
    induction v with
    | nil => exact r.elim
    | cons _ _ =>
      obtain ⟨as, q⟩ := i1 _ r.1
      obtain ⟨bs, q'⟩ := i2 _ r.2
      exact ⟨_, .cons q q'⟩
end
theorem eqD_sound {a b : AV} {c : Bool} {P : List Prop} {va vb : Value} (h : eqD a b st = some (c, st', P)) (hP : Ps P) (r : Rel w.params fi fc ρ st s.heap) (ra : RepV ρ st.n a va) (rb : RepV ρ st.n b vb) :
    ∃ da db as bs, Reads s.heap va da as ∧ Reads s.heap vb db bs ∧ SeqAt.shaped da = true ∧ SeqAt.shaped db = true ∧ PyData.eqv da db = c ∧ ∃ o, st' = { st with or := o, ov := st.ov } := by
  unfold eqD at h
  split at h
  · split at h
    · first | exact nn h | cases h
    · first | (obtain ⟨rfl, rfl, rfl⟩ := ret_some h) | cases h
      obtain ⟨⟨da, db, h1, h2, h3, h4, h5⟩, _⟩ := hP
      obtain ⟨m, os, R⟩ := r
      obtain ⟨as, q1⟩ := rdV_reads R h1 ra
      obtain ⟨bs, q2⟩ := rdV_reads R h2 rb
      exact ⟨da, db, as, bs, q1, q2, h3, h4, h5, _, rfl⟩
  · first | exact nn h | cases h
theorem inL_sound {x : Nm} {b : AV} {c : Bool} {P : List Prop} {vb : Value} (h : inL x b st = some (c, st', P)) (hP : Ps P) (r : Rel w.params fi fc ρ st s.heap) (rb : RepV ρ st.n b vb) :
    ∃ (k : Addr) (vs : List Value) (L : List Nm), vb = .ref k ∧ s.heap.IsList k (List.toArray vs) ∧ StrsAre vs (L.map stn) ∧ (L.map stn).any (· == stn x) = c ∧ ∃ o, st' = { st with or := o, ov := st.ov } := by
  refine opt_el h fun l el y1 => opt_el y1 fun q hq y2 => ?_
  have e1 := lstP_eq hq
  clear h y1
  obtain rfl := asRef_eq el
  obtain ⟨_, rfl⟩ := rb
  refine bnd_el y2 hP fun _ st1 P1 P2 h1 h2 hP1 hP2 => ?_
  obtain ⟨_, rfl, rfl⟩ := some3 h1
  obtain ⟨hc, e⟩ := ask_some h2 hP2
  obtain ⟨m, os, vs, k1, R, ho, hv, hm, hl, hlt⟩ := list_get r e1
  have key : ∀ {ys : List AV} {us : List Value}, (∀ y ∈ ys, ∃ z, y = AV.str z) → All2 (RepV ρ st.n) ys us → ∃ L : List Nm, ys = L.map AV.str ∧ StrsAre us (L.map stn) := by
    intro ys
    induction ys with
    | nil => intro us _ h; induction us with | nil => exact ⟨[], rfl, .nil⟩ | cons => exact h.elim
    | cons y ys ih =>
      intro us hy h
      induction us with
      | nil => exact h.elim
      | cons u us =>
        obtain ⟨L, e1, e2⟩ := ih (fun z hz => hy z (.tail _ hz)) h.2
        obtain ⟨z, rfl⟩ := hy _ (.head _)
        obtain ⟨t, rfl⟩ := h.1
        exact ⟨z :: L, by rw [e1]; rfl, .cons _ _ e2⟩
  obtain ⟨L, eL, sL⟩ := key hP1.1 hv
  refine ⟨_, vs, L, rfl, hl, sL, ?_, e⟩
  rw [Bool.eq_iff_iff, hc, eL]
  simp only [List.any_eq_true, List.mem_map, beq_iff_eq]
  constructor
  · rintro ⟨_, ⟨y, hy, rfl⟩, q⟩
    exact ⟨y, hy, by rw [stn_inj q]⟩
  · rintro ⟨y, hy, q⟩
    cases q
    exact ⟨_, ⟨x, hy, rfl⟩, rfl⟩
theorem decJ {L : List AV} {V : List Value} {lit : Bool} {pr : Prop} {d : Bool} {f : Bool → Bool} {wp : (Value → Shared → Prop) → Shared → Prop} (hd : d = true ↔ pr) (hw : ∀ Q s, Q (.bool (f d)) s → wp Q s) : J w fi fc L V (oDec lit pr d f) RepV wp := fun st r st' P e0 hP ρ s Q rr c H =>
  bnd_el e0 hP fun b st1 P1 P2 h1 h2 hP1 hP2 => by
    obtain ⟨hc, e⟩ := dec_some hd h1 hP1
    obtain ⟨rfl, rfl, rfl⟩ := ret_some h2
    obtain rfl : d = b := by rw [Bool.eq_iff_iff, hd, hc]
    exact hw Q s (orc_pst rr e H rfl)
theorem isNone_rep {ρ : Nat → Addr} {n : Nat} {a : AV} {c : Bool} {v : Value} (h : isNone a = some c) (r : RepV ρ n a v) : c = true ∧ v = .none ∨ c = false ∧ v ≠ .none := by
  induction a with
  | none => cases h; exact .inl ⟨rfl, r⟩
  | con u => cases u <;> cases h; obtain ⟨rfl, _⟩ := r; exact .inr ⟨rfl, fun q => nomatch q⟩
  | bool b => cases h; obtain rfl := r; exact .inr ⟨rfl, fun q => nomatch q⟩
  | _ => cases h; obtain ⟨_, rfl⟩ := r; exact .inr ⟨rfl, fun q => nomatch q⟩
theorem isJ {L : List AV} {V : List Value} {f : Bool → Bool} {a b : AV} {va vb : Value} {wp : Value → Value → (Value → Shared → Prop) → Shared → Prop} (h1 : ∀ Q s, Q (.bool (f true)) s → wp .none .none Q s) (h2 : ∀ v Q s, v ≠ .none → Q (.bool (f false)) s → wp v .none Q s) :
    J w fi fc (b :: a :: L) (vb :: va :: V) (oIs f a b) RepV (wp va vb) := by
  induction b using AV.casesOn with
  | none =>
    refine J.opt fun c hc => J.ret fun Q s ρ n cc k => ?_
    obtain rfl := cc.1
    rcases isNone_rep hc cc.2.1 with ⟨rfl, rfl⟩ | ⟨rfl, hv⟩
    · exact h1 Q s (k _ s.toks rfl)
    · exact h2 va Q s hv (k _ s.toks rfl)
  | _ => exact J.none
theorem eqJ {L : List AV} {V : List Value} {f : Bool → Bool} {a b : AV} {va vb : Value} {wp : Value → Value → (Value → Shared → Prop) → Shared → Prop} (h1 : ∀ {x y : Int} {t u : Tok} Q s, Q (.bool (f (decide (x = y)))) s → wp (.int x t) (.int y u) Q s)
    (h2 : ∀ {x y : Str} {t u : Tok} Q s, Q (.bool (f (x == y))) s → wp (.str x t) (.str y u) Q s) (h3 : ∀ {da db as bs} Q (s : Shared), Reads s.heap va da as → Reads s.heap vb db bs → SeqAt.shaped da = true → SeqAt.shaped db = true → Q (.bool (f (PyData.eqv da db))) s → wp va vb Q s) :
    J w fi fc (b :: a :: L) (vb :: va :: V) (oEq f a b) RepV (wp va vb) := by
  refine intsJ (wp := wp) (fun p x q y t u => decJ (by simp) fun Q s h => h1 Q s h) ?_
  refine strsJ (wp := wp) (fun p x q y t u => decJ nmEq_iff fun Q s h => h2 Q s (by rw [stn_beq]; exact h)) ?_
  intro st r st' P e0 hP ρ s Q rr c H
  refine bnd_el e0 hP fun d st1 P1 P2 h4 h5 hP1 hP2 => ?_
  obtain ⟨da, db, as, bs, q1, q2, q3, q4, rfl, e⟩ := eqD_sound h4 hP1 rr c.2.1 c.1
  obtain ⟨rfl, rfl, rfl⟩ := ret_some h5
  exact h3 Q s q1 q2 q3 q4 (orc_pst rr e H rfl)
theorem inJ {T : PT} {L : List AV} {V : List Value} {f : Bool → Bool} {a b : AV} {va vb : Value} {wp : Value → Value → (Value → Shared → Prop) → Shared → Prop} (ok : PTOk K T) (hX : ∀ ρ st (s : Shared), Rel w.params fi fc ρ st s.heap → K.In s.heap)
    (h1 : ∀ {k x t vs ys} Q (s : Shared), s.heap.IsList k (List.toArray vs) ∨ IsTup s.heap k vs.toArray → StrsAre vs ys → Q (.bool (f (ys.any (· == x)))) s → wp (.str x t) (.ref k) Q s) :
    J w fi fc (b :: a :: L) (vb :: va :: V) (oIn T f a b) RepV (wp va vb) := fun st r st' P e0 hP ρ s Q rr c H => opt_el e0 fun p ep e0 => by
  obtain ⟨t, rfl⟩ := asStr_rep (p := p.1) (x := p.2) ep c.2.1
  cases es : seqOf T b st with
  | some ys =>
    rw [es] at e0
    refine opt_el e0 fun l el e0 => bnd_el e0 hP fun d st1 P1 P2 h4 h5 hP1 hP2 => ?_
    obtain ⟨k, vs, rfl, hs, hl⟩ := seqOf_strs ok (hX _ _ _ rr) rr es el c.1
    obtain ⟨rfl, e⟩ := inGo_some h4 hP1
    obtain ⟨rfl, rfl, rfl⟩ := ret_some h5
    exact h1 Q s hl hs (orc_pst rr e H rfl)
  | none =>
    rw [es] at e0
    refine bnd_el e0 hP fun d st1 P1 P2 h4 h5 hP1 hP2 => ?_
    obtain ⟨k, vs, M, rfl, hl, hs, rfl, e⟩ := inL_sound h4 hP1 rr c.1
    obtain ⟨rfl, rfl, rfl⟩ := ret_some h5
    exact h1 Q s (.inl hl) hs (orc_pst rr e H rfl)
theorem cmpJ0 {T : PT} {op : CmpOp} {a b : AV} {va vb : Value} {L : List AV} {V : List Value} (ok : PTOk K T) (hX : ∀ ρ st (s : Shared), Rel w.params fi fc ρ st s.heap → K.In s.heap) (hu : fc.A.units + 64 < cLine) :
    J w fi fc (b :: a :: L) (vb :: va :: V) (cmp T op a b) RepV (fun Q s => wpAny (model prog w) fc.A (compareOp op va vb) Q NoE s) := by
  induction op using PySem.CmpOp.casesOn with
  | Eq => exact eqJ (wp := fun va vb Q s => wpAny (model prog w) fc.A (compareOp .Eq va vb) Q NoE s) (fun _ _ h => eq_int h) (fun _ _ h => eq_str h) fun _ _ q1 q2 q3 q4 h => eq_dataH q1 q2 q3 q4 hu h
  | NotEq => exact eqJ (wp := fun va vb Q s => wpAny (model prog w) fc.A (compareOp .NotEq va vb) Q NoE s) (fun _ _ h => ne_int h) (fun _ _ h => ne_str h) fun _ _ q1 q2 q3 q4 h => ne_dataH q1 q2 q3 q4 hu h
  | LtE =>
    refine intsJ (wp := fun va vb Q s => wpAny (model prog w) fc.A (compareOp .LtE va vb) Q NoE s) (fun p x q y t u => ?_) J.none
    exact decJ decide_eq_true_iff fun Q s h => le_int h
  | Gt =>
    refine intsJ (wp := fun va vb Q s => wpAny (model prog w) fc.A (compareOp .Gt va vb) Q NoE s) (fun p x q y t u => ?_) J.none
    exact decJ decide_eq_true_iff fun Q s h => gt_int h
  | Is => exact isJ (wp := fun va vb Q s => wpAny (model prog w) fc.A (compareOp .Is va vb) Q NoE s) (fun _ _ h => is_none_none h) fun _ _ _ hv h => is_none_ne hv h
  | IsNot => exact isJ (wp := fun va vb Q s => wpAny (model prog w) fc.A (compareOp .IsNot va vb) Q NoE s) (fun _ _ h => isnot_none_none h) fun _ _ _ hv h => isnot_none_ne hv h
  | In => exact inJ (wp := fun va vb Q s => wpAny (model prog w) fc.A (compareOp .In va vb) Q NoE s) ok hX fun _ _ hl hs h => hl.elim (fun hl => in_list_strs hl hs h) fun hl => in_tuple_strs hl (by simpa using hs) h
  | NotIn => exact inJ (wp := fun va vb Q s => wpAny (model prog w) fc.A (compareOp .NotIn va vb) Q NoE s) ok hX fun _ _ hl hs h => hl.elim (fun hl => notin_list_strs hl hs h) fun hl => notin_tuple_strs hl (by simpa using hs) h
  | _ => exact J.none
end
end Mine
namespace Mine
open PySem PySem.W PyProof.Rows PySem.Calls PySem.Spec PySem.Builtin.Str

/-! slices -/
theorem cut_len {α : Type} (l : List α) (a b : Nat) : (l.drop (min a l.length)).take (min b l.length - min a l.length) = (l.take b).drop a := by
  rw [List.drop_take]
  rcases Nat.le_total a l.length with h | h
  · rw [Nat.min_eq_left h]
    rcases Nat.le_total b l.length with g | g
    · rw [Nat.min_eq_left g]
    · have e : (l.drop a).length = l.length - a := List.length_drop
      rw [Nat.min_eq_right g, List.take_of_length_le (Nat.le_of_eq e), List.take_of_length_le (Nat.le_trans (Nat.le_of_eq e) (Nat.sub_le_sub_right g a))]
  · rw [Nat.min_eq_right h, List.drop_of_length_le (Nat.le_refl _), List.drop_of_length_le h, List.take_nil, List.take_nil]
theorem clip_nn (a n : Nat) : (if (1 : Int) > 0 then max 0 (min (if (a : Int) < 0 then (a : Int) + n else (a : Int)) (n : Int)) else max (-1) (min (if (a : Int) < 0 then (a : Int) + n else (a : Int)) ((n : Int) - 1))) = ((min a n : Nat) : Int) := by
  rw [if_pos (show (1 : Int) > 0 by decide), if_neg (Int.not_lt.mpr (Int.natCast_nonneg a))]
  rcases Nat.le_total a n with h | h
  · rw [Nat.min_eq_left h, Int.min_eq_left (Int.ofNat_le.mpr h), Int.max_eq_right (Int.natCast_nonneg _)]
  · rw [Nat.min_eq_right h, Int.min_eq_right (Int.ofNat_le.mpr h), Int.max_eq_right (Int.natCast_nonneg _)]
theorem bounds_nn (i j : Int) (hi : 0 ≤ i) (hj : 0 ≤ j) (n : Nat) : sliceBounds (some i) (some j) none n = (((min i.toNat n : Nat) : Int), ((min j.toNat n : Nat) : Int), 1) := by
  obtain ⟨a, rfl⟩ := Int.eq_ofNat_of_zero_le hi
  obtain ⟨b, rfl⟩ := Int.eq_ofNat_of_zero_le hj
  exact congr (congrArg Prod.mk (clip_nn a n)) (congrArg (fun x => Prod.mk x (1 : Int)) (clip_nn b n))
theorem bounds_zn (j : Int) (hj : 0 ≤ j) (n : Nat) : sliceBounds none (some j) none n = (((0 : Nat) : Int), ((min j.toNat n : Nat) : Int), 1) := by
  obtain ⟨b, rfl⟩ := Int.eq_ofNat_of_zero_le hj
  exact congrArg (fun x => Prod.mk (0 : Int) (Prod.mk x (1 : Int))) (clip_nn b n)
theorem bounds_nz (i : Int) (hi : 0 ≤ i) (n : Nat) : sliceBounds (some i) none none n = (((min i.toNat n : Nat) : Int), ((n : Nat) : Int), 1) := by
  obtain ⟨a, rfl⟩ := Int.eq_ofNat_of_zero_le hi
  exact congrArg (fun x => Prod.mk x (Prod.mk (n : Int) (1 : Int))) (clip_nn a n)
theorem bounds_zz (n : Nat) : sliceBounds none none none n = (((0 : Nat) : Int), ((n : Nat) : Int), 1) := by
  simp only [sliceBounds, Option.getD_none, show (1 : Int) > 0 by decide, if_true]
  rfl
/-- a bound as the library has it -/
noncomputable def partO : AV → Option Int
  | .num i => some i
  | .int i => some i
  | _ => none
theorem bounds_cut {α : Type} {lo hi : AV} {i : Int} {l r : List α} (h1 : lowB lo = some i) (h2 : cut i l hi = some r) (o1 : okB lo) (o2 : okB hi) :
    ∃ a b : Nat, sliceBounds (partO lo) (partO hi) none l.length = ((a : Int), (b : Int), 1) ∧ (l.drop a).take (b - a) = r := by
  have key : ∀ (x y : Int), 0 ≤ x → 0 ≤ y → ∃ a b : Nat, sliceBounds (some x) (some y) none l.length = ((a : Int), (b : Int), 1) ∧ (l.drop a).take (b - a) = (l.take y.toNat).drop x.toNat :=
    fun x y hx hy => ⟨_, _, bounds_nn x y hx hy _, cut_len l _ _⟩
  have keyz : ∀ (y : Int), 0 ≤ y → ∃ a b : Nat, sliceBounds none (some y) none l.length = ((a : Int), (b : Int), 1) ∧ (l.drop a).take (b - a) = (l.take y.toNat).drop (0 : Int).toNat :=
    fun y hy => ⟨_, _, bounds_zn y hy _, by simpa using kmk_take_min l y.toNat⟩
  have keyn : ∀ (x : Int), 0 ≤ x → ∃ a b : Nat, sliceBounds (some x) none none l.length = ((a : Int), (b : Int), 1) ∧ (l.drop a).take (b - a) = l.drop x.toNat := fun x hx => by
    refine ⟨_, _, bounds_nz x hx _, ?_⟩
    rw [kmk_drop_min]
    apply List.take_of_length_le
    simp only [List.length_drop]; omega
  have keyzz : ∃ a b : Nat, sliceBounds none none none l.length = ((a : Int), (b : Int), 1) ∧ (l.drop a).take (b - a) = l.drop (0 : Int).toNat :=
    ⟨_, _, bounds_zz _, by simp⟩
  cases lo <;> simp only [lowB] at h1 <;> cases h1 <;> cases hi <;> simp only [cut] at h2 <;> cases h2
  · exact keyzz
  · exact keyz _ o2.1
  · exact keyz _ o2.1
  · exact keyn _ o1.1
  · exact key _ _ o1.1 o2.1
  · exact key _ _ o1.1 o2.1
  · exact keyn _ o1.1
  · exact key _ _ o1.1 o2.1
  · exact key _ _ o1.1 o2.1
theorem strIdx_eq (lo hi : Option Int) (n : Nat) : strSliceIndices lo hi 1 n = sliceRange (sliceBounds lo hi none n).1 (sliceBounds lo hi none n).2.1 1 := rfl
set_option tactic.hygienic true in
theorem txt_slice {lo hi : AV} {i : Int} {l r : Nm} (h1 : lowB lo = some i) (h2 : cut i l hi = some r) (o1 : okB lo) (o2 : okB hi) : Txt.slice (stn l) (partO lo) (partO hi) = stn r := by
  obtain ⟨a, b, e, hr⟩ := bounds_cut h1 h2 o1 o2
  have pick : (strSliceIndices (partO lo) (partO hi) 1 (stn l).length).filterMap ((stn l).cps[·]?) = r := by
    rw [strIdx_eq, stn_len, e, sliceRange_one]
    have := pick_run l.toArray a (b - a)
    simpa [stn, hr] using this
  unfold Txt.slice
  split
  · rename_i q
    simp only [beq_self_eq_true, Bool.true_and, beq_iff_eq] at q
    -- the whole text
    have hlen : ((strSliceIndices (partO lo) (partO hi) 1 (stn l).length).filterMap ((stn l).cps[·]?)) = l := by
      have hr' : r = (l.drop a).take (b - a) := hr.symm
      rw [pick, hr']
      rw [strIdx_eq, stn_len, e, sliceRange_one] at q
      simp only [List.length_map, List.length_range] at q
      have hb : b - a = l.length := by simpa using q
      have ha : a = 0 ∨ l.length = 0 := by
        have hle : b ≤ l.length := by
          have := congrArg (fun z => z.2.1) e
          simp only [sliceBounds, Option.getD_none, show (1 : Int) > 0 by decide, if_true] at this
          revert this
          cases partO hi with
          | none => intro this; simp only at this; omega
          | some v => intro this; simp only at this; split at this <;> omega
        omega
      rcases ha with rfl | h0
      · simp only [List.drop_zero]; apply List.take_of_length_le; omega
      · have : l = [] := List.length_eq_zero_iff.mp h0
        subst this; simp
    rw [← pick, hlen]
  · show Str.mk _ = _
    rw [pick]; rfl
end Mine
namespace Mine
open PySem PySem.W PyProof.Rows PySem.Calls PySem.Spec

/-! dictionaries -/
section
variable {P : Params} {ρ : Nat → Addr} {n : Nat}
theorem isStr_stn (x : Nm) (y : Nm) (t : Tok) : (Value.str (stn y) t).isStr (stn x) = nmEq y x := stn_beq y x
theorem nmEq_comm (a b : Nm) : nmEq a b = nmEq b a := by
  cases h : nmEq a b with
  | true => rw [nmEq_iff.mp h]; exact (nmEq_iff.mpr rfl).symm
  | false => cases h2 : nmEq b a with
    | true => exact absurd (nmEq_iff.mp h2).symm (nmEq_ff h)
    | false => rfl
theorem find_rep (x : Nm) : ∀ {es : List (Nm × AV)} {ds : List DictEntry}, All2 (RepE P ρ n) es ds →
    (∀ a, look x es = some a → ∃ d, ds.find? (·.key.isStr (stn x)) = some d ∧ RepV ρ n a d.val) ∧ (look x es = none → ds.find? (·.key.isStr (stn x)) = none) ∧ ds.any (·.refKey) = false
  | [], [], _ => ⟨(fun _ h => by cases h), (fun _ => rfl), rfl⟩
  | [], _ :: _, h => h.elim
  | _ :: _, [], h => h.elim
  | e :: es, d :: ds, h => by
    obtain ⟨⟨_, ⟨t, hk⟩, hv⟩, hr⟩ := h
    obtain ⟨i1, i2, i3⟩ := find_rep x hr
    have hs : d.key.isStr (stn x) = nmEq x e.1 := by rw [hk, isStr_stn, nmEq_comm]
    have hf : d.refKey = false := by unfold DictEntry.refKey; rw [hk]
    unfold look
    simp only [List.find?_cons, hs, List.any_cons, hf, i3, Bool.false_or]
    cases q : nmEq x e.1 with
    | true => exact ⟨fun a ha => ⟨d, rfl, by cases ha; exact hv⟩, (fun h => by cases h), trivial⟩
    | false => exact ⟨i1, i2, trivial⟩
theorem getL_some {x : Nm} {es : List (Nm × AV)} {ds : List DictEntry} {a : AV} (h : All2 (RepE P ρ n) es ds) (e : look x es = some a) : ∃ v, getL (stn x) ds = some (some v) ∧ RepV ρ n a v := by
  obtain ⟨d, hd, r⟩ := (find_rep x h).1 a e
  exact ⟨d.val, by unfold getL; rw [hd], r⟩
theorem getL_none {x : Nm} {es : List (Nm × AV)} {ds : List DictEntry} (h : All2 (RepE P ρ n) es ds) (e : look x es = none) : getL (stn x) ds = some none := by
  unfold getL; rw [(find_rep x h).2.1 e, (find_rep x h).2.2]; rfl
theorem getL_isSome {x : Nm} {es : List (Nm × AV)} {ds : List DictEntry} (h : All2 (RepE P ρ n) es ds) : (getL (stn x) ds).isSome = true := by
  cases e : look x es with
  | none => rw [getL_none h e]; rfl
  | some a => obtain ⟨v, hv, _⟩ := getL_some h e; rw [hv]; rfl
theorem putL_rep {x : Nm} {a : AV} {v : Value} {t : Tok} (r : RepV ρ n a v) : ∀ {es : List (Nm × AV)} {ds : List DictEntry}, All2 (RepE P ρ n) es ds →
    All2 (RepE P ρ n) (put x a es) (putL (stn x) (PyData.keyHash P (stn x)) (.str (stn x) t) v ds)
  | [], [], _ => ⟨⟨rfl, ⟨t, rfl⟩, r⟩, trivial⟩
  | [], _ :: _, h => h.elim
  | _ :: _, [], h => h.elim
  | e :: es, d :: ds, h => by
    obtain ⟨⟨hh, ⟨t', hk⟩, hv⟩, hr⟩ := h
    have hs : d.key.isStr (stn x) = nmEq x e.1 := by rw [hk, isStr_stn, nmEq_comm]
    unfold put putL
    rw [hs]
    cases q : nmEq x e.1 with
    | true =>
      have e1 := nmEq_iff.mp q
      exact ⟨⟨by rw [e1]; exact hh, ⟨t', by rw [e1]; exact hk⟩, r⟩, hr⟩
    | false =>
      simp only [Bool.false_eq_true, if_false]
      exact ⟨⟨hh, ⟨t', hk⟩, hv⟩, putL_rep r hr⟩
theorem put_length {α : Type} (x : Nm) (a : α) : ∀ es : List (Nm × α), (put x a es).length ≤ es.length + 1
  | [] => Nat.le_refl _
  | e :: es => by
    unfold put
    split
    · simp
    · have := put_length x a es; simp only [List.length_cons]; lia
end

noncomputable def FnOk (K : Frag) : Fn → Prop
  | .fn a => keepIn K (.ref a) = true
  | .bi _ => True
structure ClsOk (K : Frag) (C : Addr) (ci : ClI) : Prop where
  makes : makesIn K C = true
  ini : findIn K (.ref C) "__init__" = some (some (.ref ci.ini))
  inif : isFn K (.ref ci.ini) = true
  hasD : hasDictIn K C = true
  setat : findIn K (.ref C) "__setattr__" = some (some (.builtin "object.__setattr__"))
  over : plainOver K C = true
  flds : ∀ x ∈ ci.flds, plainGet K C (stn x) = true ∧ findIn K (.ref C) (stn x) = some none ∧ takerIn K C (stn x) = some none
  mths : ∀ q ∈ ci.mths, plainGet K C (stn q.1) = true ∧ findIn K (.ref C) (stn q.1) = some (some (.ref q.2)) ∧ isFn K (.ref q.2) = true ∧ keepIn K (.ref q.2) = true
structure PTOk2 (K : Frag) (T : PT) : Prop extends PTOk K T where
  globA : ∀ x a, look x T.glob = some (.av a) → ∃ v, nsIn K mainGlobals (stn x) = some (some v) ∧ ∀ ρ n, RepV ρ n a v
  globF : ∀ x f, look x T.glob = some (.fn f) → FnOk K f ∧ (nsIn K mainGlobals (stn x) = some (some f.val) ∨ (nsIn K mainGlobals (stn x) = some none ∧ bootBuiltins (stn x) = some f.val ∧ stn x ≠ "__name__"))
  cls : ∀ C ci, lookN C T.cls = some ci → ClsOk K C ci

section
variable {prog : Program} {w : World} {K : Frag} {p : Program} {loose : List Str} {mean : ExcName → Option Value} {mg mb : Str → Option Value} {T : PT} {fi : FI} {fc : FC} {ρ : Nat → Addr} {st st' : St} {s : Shared}

theorem notDebug {x : Nm} (h : nmEq x nDebug = false) : (stn x == ("__debug__" : Str)) = false := by
  rw [← nDebug_is, stn_beq]; exact h
theorem FrOk.kind (O : FrOk K p loose mean mg mb fi fc) {x : Nm} {k : NameKind} (h : kindL x fi.sc.names = some k) : fc.env.kindOf (stn x) = some k := by
  rw [kindL_eq] at h
  show fc.env.scope.names.lookup _ = _
  rw [O.sc]; exact h

theorem loadN_sound {x : Str} {pos : Pos} {a : AV} {P : List Prop} {Q : Value → Shared → Prop} (ok : PTOk2 K T) (O : FrOk K p loose mean mg mb fi fc) (h : loadN T fi (nm x) st = some (a, st', P)) (r : Rel w.params fi fc ρ st s.heap)
    (H : Pst w.params fi fc ρ st st' s (fun ρ' v => RepV ρ' st'.n a v) Q) : wpAny (model prog w) fc.A (eval (.Name x pos) fc.env) Q NoE s := by
  refine okOr_el h fun hd h => opt_el h fun k hk h => ?_
  have hd' := notDebug (notT hd)
  rw [stn_nm] at hd'
  have cellJ : cellN fi (nm x) st = some (a, st', P) → ∃ c v o, fc.env.cells.lookup x = some c ∧ s.heap.get? c = some o ∧ o.data = .cell (some v) ∧ Q v s := fun h => opt_el h fun l hl h => opt_el h fun b hb h => by
    obtain ⟨rfl, rfl, _⟩ := ret_some h
    obtain ⟨m, os, R⟩ := id r
    obtain ⟨_, hcl⟩ := R.cl _ _ hl
    obtain ⟨o, ho, ⟨v, hov, rv⟩, hm, hg⟩ := R.get (cellV_eq hb) (by intro q; cases q)
    exact ⟨_, v, o, hcl, hg, hov, r.pst (tk := s.toks) H rv⟩
  induction k using NameKind.casesOn with
  | «local» =>
    refine opt_el h fun b hb h => ?_
    obtain ⟨rfl, rfl, _⟩ := ret_some h
    obtain ⟨m, os, R⟩ := id r
    obtain ⟨v, hv, rv⟩ := R.mu _ _ hb
    exact wpAny_Name (wpAny_loadName_local O.hk (O.kind hk) R.F.ns hv (r.pst (tk := s.toks) H rv)) hd'
  | cell =>
    obtain ⟨c, v, o, hcl, hg, hov, hq⟩ := cellJ h
    exact wpAny_Name (wpAny_loadName_cell O.hk (O.kind hk) hcl ⟨o, hg, hov⟩ hq) hd'
  | free =>
    refine okOr_el h fun hn h => ?_
    obtain ⟨c, v, o, hcl, hg, hov, hq⟩ := cellJ h
    exact wpAny_Name (wpAny_loadName_free O.hk (O.kind hk) hcl ⟨o, hg, hov⟩ hq (by rw [← nClassdict_is]; exact (stn_beq _ _).trans (notT hn))) hd'
  | globalImplicit =>
    refine opt_el h fun g hg h => opt_el h fun b hb h => ?_
    obtain ⟨rfl, rfl, _⟩ := ret_some h
    rw [gvA_eq hb] at hg
    obtain ⟨m, os, R⟩ := id r
    obtain ⟨v, hv, rv⟩ := ok.globA _ _ hg
    have e := mg_of (O.X.keeps R.F.keep) (O.T.g.keeps R.F.keep) hv
    exact Name_function_global O.hk (O.kind hk) (loadGlobal_global (env := fc.env) (mg := mg) (by rw [O.gl]; exact O.T.g.keeps R.F.keep) e (r.pst (tk := s.toks) H (rv _ _))) hd'
  | _ => exact nn h

theorem loadF_sound {x : Str} {pos : Pos} {f : Fn} {Q : Value → Shared → Prop} (ok : PTOk2 K T) (O : FrOk K p loose mean mg mb fi fc) (h : loadF T fi (nm x) = some f) (r : Rel w.params fi fc ρ st s.heap)
    (H : FnOk K f → Q f.val s) : wpAny (model prog w) fc.A (eval (.Name x pos) fc.env) Q NoE s := by
  refine okO_el h fun hd h => obnd_el h fun k hk h => okO_el h fun hgi h => obnd_el h fun g hg y1 => ?_
  rw [gvF_eq y1] at hg
  rw [isGI_eq hgi] at hk
  have hd' := notDebug (notT hd)
  rw [stn_nm] at hd'
  obtain ⟨m, os, R⟩ := id r
  obtain ⟨hf, hv | ⟨hn, hb, hne⟩⟩ := ok.globF _ _ hg
  · have e := mg_of (O.X.keeps R.F.keep) (O.T.g.keeps R.F.keep) hv
    exact Name_function_global O.hk (O.kind hk) (loadGlobal_global (env := fc.env) (mg := mg) (by rw [O.gl]; exact O.T.g.keeps R.F.keep) e (H hf)) hd'
  · have e := mg_none_of (O.X.keeps R.F.keep) (O.T.g.keeps R.F.keep) hn
    exact Name_function_global O.hk (O.kind hk) (loadGlobal_builtin (env := fc.env) (mg := mg) (mb := mb) (by rw [O.gl]; exact O.T.g.keeps R.F.keep) e (by rw [O.bl]; exact O.T.b.keeps R.F.keep) ((O.T.builtins _ hne).trans hb) (H hf)) hd'

/-- one thing is changed, all else is as it was -/
theorem RelAt.news {h h' : Heap} {m : Str → Option Value} {os : List Obj} (R : RelAt w.params fi fc ρ st h m os) {l : Nat} {o o' : Obj} (ho : os[l]? = some o) (hmu : (st.sg.get l).mut = true) (hm : (ρ l, o) ∈ ledF st.sg ρ 0 os ++ fc.rest) (ho' : h'.get? (ρ l) = some o') (hs : ∀ b, b ≠ ρ l → h'.get? b = h.get? b) :
    News fc.h₀ fc.env.locals h' (ledF st.sg ρ 0 (os.set l o') ++ fc.rest) := by
  obtain ⟨pre, post, e1, e2, p1, p2⟩ := (R.upd (o' := o') ho hmu).split
  have hN := R.N
  have hmem := R.N _ hm
  rw [e2]
  rw [e1] at hN
  intro q hq
  rcases List.mem_append.mp hq with hq | hq
  · have z := hN q (List.mem_append_left _ hq); exact ⟨(hs q.1 (p1 q hq)).trans z.1, z.2⟩
  · rcases List.mem_cons.mp hq with rfl | hq
    · exact ⟨ho', hmem.2⟩
    · have z := hN q (List.mem_append_right _ (.tail _ hq)); exact ⟨(hs q.1 (p2 q hq)).trans z.1, z.2⟩
theorem storeN_sound {x : Str} {a : AV} {v : Value} {P : List Prop} {Q : Unit → Shared → Prop} (O : FrOk K p loose mean mg mb fi fc) (h : storeN fi (nm x) a st = some ((), st', P)) (r : Rel w.params fi fc ρ st s.heap) (ra : RepV ρ st.n a v)
    (H : Pst w.params fi fc ρ st st' s (fun _ _ => True) Q) : wpAny (model prog w) fc.A (storeName fc.env x v) Q NoE s := by
  refine opt_el h fun k hk h => ?_
  obtain ⟨m, os, R⟩ := id r
  induction k using NameKind.casesOn with
  | «local» =>
    obtain ⟨_, rfl, _⟩ := ret_some h
    refine wpAny_storeName_local (O.kind hk) R.F.ns (fun h' hn hs => ?_) (by rw [O.hk]; rfl)
    exact H ρ h' (s.toks + 1) () Ext.refl ⟨_, _, R.bind (R.F.set hn hs) (R.N.set hs) ra⟩ trivial
  | cell =>
    refine opt_el h fun l hl h => okOr_el h fun hc h => ?_
    obtain ⟨_, rfl, _⟩ := ret_some h
    obtain ⟨c, hc⟩ := isCell_eq hc
    obtain ⟨hlt, hcl⟩ := R.cl _ _ hl
    obtain ⟨o, ho, ro, hm, hg⟩ := R.get hc (by intro q; cases q)
    obtain ⟨v₀, hd⟩ : ∃ v₀, o.data = .cell v₀ := by
      induction c with
      | none => exact ⟨_, ro⟩
      | some b => exact ⟨_, ro.choose_spec.1⟩
    refine wpAny_storeName_cell O.hk (O.kind hk) hcl ⟨o, hg, hd⟩ fun h' hv hs => ?_
    obtain ⟨o', ho', hd'⟩ := hv
    have hmem := R.N _ hm
    exact H ρ h' s.toks () Ext.refl ⟨_, _, R.set (a' := .cell (some a)) hlt ⟨R.F.ns.sameBut hs (Ne.symm hmem.2.1), fun b ob e => (hs.2 b (fun q => by rw [q] at e; rw [hmem.2.2] at e; cases e)).trans (R.F.keep b ob e), R.F.above⟩ (R.news ho (by rw [hc]; rfl) hm ho' hs.2) ⟨v, hd', ra⟩ (hm := by rw [hc]; rfl)⟩ trivial
  | _ => exact nn h

/-- a thing of a class and its dictionary -/
theorem inst_get (r : Rel w.params fi fc ρ st s.heap) {l d : Nat} {C : Addr} {es : List (Nm × AV)} (e1 : st.sg.get l = .inst C d) (e2 : st.sg.get d = .dict es) :
    ∃ m os ds k, RelAt w.params fi fc ρ st s.heap m os ∧ os[d]? = some (dictOf ds k) ∧ All2 (RepE w.params ρ st.n) es ds ∧ W.InstAt s.heap (ρ l) (instObj C (ρ d)) C (some (dictOf ds k)) ∧ d < st.n := by
  obtain ⟨m, os, R⟩ := r
  obtain ⟨o1, ho1, ⟨_, rfl⟩, hm1, hg1⟩ := R.get e1 (by intro q; cases q)
  obtain ⟨o2, ho2, ⟨ds, k, rfl, hd⟩, hm2, hg2⟩ := R.get e2 (by intro q; cases q)
  exact ⟨m, os, ds, k, R, ho2, hd, InstAt.of_news R.N hm1 hm2, R.lt (by rw [e2]; intro q; cases q)⟩

theorem handed_rep {a : AV} {v : Value} {n : Nat} (r : RepV ρ n a v) : handedIn v = true := by
  induction a with
  | none => obtain rfl := r; rfl
  | bool b => obtain rfl := r; rfl
  | num b => obtain ⟨_, rfl⟩ := r; rfl
  | int b => obtain ⟨_, rfl⟩ := r; rfl
  | txt b => obtain ⟨_, rfl⟩ := r; rfl
  | str b => obtain ⟨_, rfl⟩ := r; rfl
  | ref b => obtain ⟨_, rfl⟩ := r; rfl
  | con b => obtain ⟨rfl, h⟩ := r; exact h

theorem getA_sound {x : Str} {a c : AV} {va : Value} {P : List Prop} {ex : Bool} {Q : Value → Shared → Prop} (ok : PTOk2 K T) (O : FrOk K p loose mean mg mb fi fc) (h : getA T a (nm x) st = some (c, st', P)) (r : Rel w.params fi fc ρ st s.heap) (ra : RepV ρ st.n a va)
    (H : Pst w.params fi fc ρ st st' s (fun ρ' v => RepV ρ' st'.n c v) Q) : wpAny (model prog w) fc.A (getAttr va x ex) Q NoE s := by
  refine opt_el h fun l el h => opt_el h fun q e1 h => opt_el h fun ci hci h => okOr_el h fun hfl h => opt_el h fun es e2 h => opt_el h fun v hv h => ?_
  obtain ⟨rfl, rfl, _⟩ := ret_some h
  obtain rfl := asRef_eq el
  obtain ⟨_, rfl⟩ := ra
  obtain ⟨m, os, ds, k, R, ho, hd, I, hlt⟩ := inst_get r (asInst_eq e1) (asDict_eq e2)
  have co := ok.cls _ _ hci
  obtain ⟨f1, f2, f3⟩ := co.flds _ (memN_iff hfl)
  obtain ⟨v', hv', rv⟩ := getL_some hd hv
  exact get_own R.F O.X I f1 co.hasD f2 rfl hv' (handed_rep rv) (r.pst H rv)

theorem setA_sound {x : Str} {a c : AV} {va vc : Value} {P : List Prop} {Q : Unit → Shared → Prop} (ok : PTOk2 K T) (O : FrOk K p loose mean mg mb fi fc) (h : setA T a (nm x) c st = some ((), st', P)) (r : Rel w.params fi fc ρ st s.heap) (ra : RepV ρ st.n a va) (rc : RepV ρ st.n c vc)
    (H : Pst w.params fi fc ρ st st' s (fun _ _ => True) Q) : wpAny (model prog w) fc.A (setAttr va x vc) Q NoE s := by
  refine opt_el h fun l el h => opt_el h fun q e1 h => opt_el h fun ci hci h => okOr_el h fun hfl h => opt_el h fun es e2 h => okOr_el h fun hsh h => ?_
  obtain ⟨_, rfl, _⟩ := ret_some h
  obtain rfl := asRef_eq el
  obtain ⟨_, rfl⟩ := ra
  obtain ⟨m, os, ds, k, R, ho, hd, I, hlt⟩ := inst_get r (asInst_eq e1) (asDict_eq e2)
  have co := ok.cls _ _ hci
  obtain ⟨f1, f2, f3⟩ := co.flds _ (memN_iff hfl)
  have hlen := short_le hsh
  have hput := putL_rep (x := nm x) (t := s.toks + 1) rc hd
  have hmu : (st.sg.get q.2).mut = true := by rw [asDict_eq e2]; rfl
  refine set_dict (es' := putL x (PyData.keyHash w.params x) (.str x (s.toks + 1)) vc ds) (n' := putN x ds k) R.F O.X R.N I rfl co.setat co.over f3 co.hasD (getL_isSome (x := nm x) hd) rfl (R.upd ho hmu) ?_ (fun h' F' N' => ?_)
  · have h2 := put_length (nm x) c es
    have e3 : (putL x (PyData.keyHash w.params x) (.str x (s.toks + 1)) vc ds).length = (put (nm x) c es).length := hput.length.symm
    rw [e3]; lia
  · exact H ρ h' (s.toks + 2) () Ext.refl ⟨_, _, R.set (a' := .dict (put (nm x) c es)) hlt F' N' ⟨_, _, rfl, hput⟩ (hm := hmu)⟩ trivial
end
end Mine
namespace Mine
open PySem PySem.W PyProof.Rows PySem.Calls PySem.Spec

section
variable {prog : Program} {w : World} {K : Frag} {p : Program} {loose : List Str} {mean : ExcName → Option Value} {mg mb : Str → Option Value} {T : PT} {fi : FI} {fc : FC} {ρ : Nat → Addr} {st st' : St} {s : Shared}

theorem look_listM {x : Nm} {b : Bi} (h : look x listM = some b) : (x = nAppend ∧ b = .append) ∨ (x = nPop ∧ b = .pop) ∨ (x = nExtend ∧ b = .extend) ∨ (x = nReverse ∧ b = .reverse) := by
  have := look_mem h
  simp only [listM, List.mem_cons, Prod.mk.injEq, List.not_mem_nil, or_false] at this
  exact this
theorem nAppend_is : stn nAppend = ("append" : Str) := by decide +kernel
theorem nPop_is : stn nPop = ("pop" : Str) := by decide +kernel
theorem nExtend_is : stn nExtend = ("extend" : Str) := by decide +kernel
theorem nReverse_is : stn nReverse = ("reverse" : Str) := by decide +kernel
theorem nJoin_is : stn nJoin = ("join" : Str) := by decide +kernel

/-- a plain dictionary, as the library says it -/
theorem tab_is {ds : List DictEntry} {es : List (Nm × AV)} {k n : Nat} (h : All2 (RepE w.params ρ n) es ds) (nd : (es.map (·.1)).Nodup) : (dictOf ds k).IsDictOf (strKind prog w) ((ds.zip es).map fun q => (stn q.2.1, q.1.val)) := by
  have hP : ∀ {es : List (Nm × AV)} {ds : List DictEntry}, All2 (RepE w.params ρ n) es ds → KeysOf (strKind prog w) ds.toArray ∧ Pairs (strKind prog w) ds ((ds.zip es).map fun q => (stn q.2.1, q.1.val)) ∧ ((ds.zip es).map fun q => (stn q.2.1, q.1.val)).map (·.1) = es.map fun e => stn e.1 := by
    intro es
    induction es with
    | nil =>
      intro ds h
      induction ds with
      | nil => exact ⟨fun e he => by simp at he, .nil, rfl⟩
      | cons => exact h.elim
    | cons e es ih =>
      intro ds h
      induction ds with
      | nil => exact h.elim
      | cons d ds =>
        obtain ⟨⟨hh, ⟨t, hk⟩, hv⟩, hr⟩ := h
        obtain ⟨i1, i2, i3⟩ := ih hr
        have is1 : (strKind prog w).is (stn e.1) d.key = true := by rw [hk]; exact strKind_is prog w _ t
        refine ⟨fun x hx => ?_, .cons is1 rfl i2, by simp [List.zip_cons_cons] at i3 ⊢; exact i3⟩
        simp only [List.mem_toArray, List.mem_cons] at hx
        rcases hx with rfl | hx
        · exact ⟨_, is1, hh⟩
        · exact i1 x (by simpa using hx)
  obtain ⟨h1, h2, h3⟩ := hP h
  refine ⟨ds.toArray, k, ⟨rfl, rfl, rfl⟩, rfl, h1, h2, ?_⟩
  rw [h3]
  have : (es.map fun e => stn e.1) = (es.map (·.1)).map stn := by simp [List.map_map]
  rw [this]
  exact List.Pairwise.map _ (fun a b (q : a ≠ b) e => q (stn_inj e)) nd
theorem tab_get (r : Rel w.params fi fc ρ st s.heap) {l : Nat} {es : List (Nm × AV)} (e : st.sg.get l = .tab es) :
    ∃ m os ds k, RelAt w.params fi fc ρ st s.heap m os ∧ os[l]? = some (dictOf ds k) ∧ All2 (RepE w.params ρ st.n) es ds ∧ (es.map (·.1)).Nodup ∧ (ρ l, dictOf ds k) ∈ ledF st.sg ρ 0 os ++ fc.rest ∧ l < st.n ∧ (ρ l == sysModules) = false := by
  obtain ⟨m, os, R⟩ := r
  obtain ⟨o, ho, ⟨ds, k, rfl, hv, nd⟩, hm, hg⟩ := R.get e (by intro q; cases q)
  exact ⟨m, os, ds, k, R, ho, hv, nd, hm, R.lt (by rw [e]; intro q; cases q), by simpa using R.lo _ _ e⟩

theorem meth_sound {a : AV} {x : Str} {f : Fn} {va : Value} {pl : Sem Bool} {Q : Value × List Value → Shared → Prop} (ok : PTOk2 K T) (O : FrOk K p loose mean mg mb fi fc) (h : meth T a (nm x) st = some f) (r : Rel w.params fi fc ρ st s.heap) (ra : RepV ρ st.n a va)
    (H : FnOk K f → Q (f.val, [va]) s) : wpAny (model prog w) fc.A (getMethod va x pl) Q NoE s := by
  unfold meth at h
  cases ea : asRef a with
  | some l =>
    rw [ea] at h
    obtain rfl := asRef_eq ea
    obtain ⟨_, rfl⟩ := ra
    have h : methR T l (nm x) st = some f := h
    unfold methR at h
    cases ei : asInst (st.sg.get l) with
    | some q =>
      rw [ei] at h
      refine obnd_el h fun ci hci y1 => obnd_el y1 fun g hg y2 => obnd_el y2 fun es e2 y3 => okO_el y3 fun hn y4 => ?_
      obtain rfl := Option.some.inj y4
      obtain ⟨m, os, ds, k, R, ho, hd, I, hlt⟩ := inst_get r (asInst_eq ei) (asDict_eq e2)
      obtain ⟨f1, f2, f3, f4⟩ := (ok.cls _ _ hci).mths _ (look_mem hg)
      exact method_inst R.F O.X I f1 f2 f3 (getL_none (x := nm x) hd (isNo_eq hn)) (H f4)
    | none =>
      rw [ei] at h
      refine obnd_el h fun z e1 y1 => obnd_el y1 fun b hb y2 => ?_
      obtain rfl := Option.some.inj y2
      obtain ⟨m, os, vs, k, R, ho, hv, hm, hl, hlt⟩ := list_get r (asList_eq e1)
      have nd : ∀ a, (Value.ref (ρ l)) = .ref a → ∃ o, s.heap.get? a = some o ∧ o.dict = none := fun a q => by
        cases q; exact ⟨_, (R.N _ hm).1, rfl⟩
      have hT := hl.typeIs
      rcases look_listM hb with ⟨hx, rfl⟩ | ⟨hx, rfl⟩ | ⟨hx, rfl⟩ | ⟨hx, rfl⟩
      · obtain rfl : x = ("append" : Str) := by rw [← nAppend_is, ← hx, stn_nm]
        exact getMethod_builtin hT PySem.F.plainAttrs_list PySem.F.slot_list_append PySem.F.type_list_append nd (H trivial)
      · obtain rfl : x = ("pop" : Str) := by rw [← nPop_is, ← hx, stn_nm]
        exact getMethod_builtin hT PySem.F.plainAttrs_list PySem.F.slot_list_pop PySem.F.type_list_pop nd (H trivial)
      · obtain rfl : x = ("extend" : Str) := by rw [← nExtend_is, ← hx, stn_nm]
        exact getMethod_builtin hT PySem.F.plainAttrs_list PySem.F.slot_list_extend PySem.F.type_list_extend nd (H trivial)
      · obtain rfl : x = ("reverse" : Str) := by rw [← nReverse_is, ← hx, stn_nm]
        exact getMethod_builtin hT PySem.F.plainAttrs_list PySem.F.slot_list_reverse PySem.F.type_list_reverse nd (H trivial)
  | none =>
    rw [ea] at h
    refine obnd_el h fun z e1 y1 => obnd_el y1 fun b hb y2 => ?_
    obtain rfl := Option.some.inj y2
    rw [asTxt_eq e1] at ra
    obtain ⟨t, rfl⟩ := ra
    have := look_mem hb
    simp only [strM, List.mem_cons, Prod.mk.injEq, List.not_mem_nil, or_false] at this
    obtain ⟨hx, rfl⟩ := this
    obtain rfl : x = ("join" : Str) := by rw [← nJoin_is, ← hx, stn_nm]
    exact getMethod_builtin (typeIs_str _ _ _) PySem.F.plainAttrs_str PySem.F.slot_str_join PySem.F.type_str_join (fun a q => by cases q) (H trivial)

theorem hypc_some {α : Type} {c : Bool} {p : Prop} {a b : α} {st st' : St} {P : List Prop} (h : hypc c p a st = some (b, st', P)) : a = b ∧ st = st' ∧ hcP c p = P := some3 h
theorem getI_sound {a i c : AV} {va vi : Value} {value slice : Expr} {P : List Prop} {Q : Value → Shared → Prop} (h : getI a i st = some (c, st', P)) (hP : Ps P) (r : Rel w.params fi fc ρ st s.heap) (ra : RepV ρ st.n a va) (ri : RepV ρ st.n i vi)
    (hs : ∀ o k, subscripted slice false o k = operate [o, k] (getItem o k))
    (H : Pst w.params fi fc ρ st st' s (fun ρ' v => RepV ρ' st'.n c v) Q) : wpAny (model prog w) fc.A (subscriptTail value slice va vi) Q NoE s := by
  unfold getI at h
  have exp : ∀ {f : AV → Prop}, expect f st = some (c, st', P) → f c ∧ ∃ v, st' = { st with or := st.or, ov := v } := fun {f} e => by
    unfold expect at e
    induction hov : st.ov using List.casesOn with
    | nil => rw [hov] at e; exact nn e
    | cons v rv =>
      rw [hov] at e
      obtain ⟨rfl, rfl, rfl⟩ := some3 e
      exact ⟨hP.1, rv, rfl⟩
  have out : ∀ {v : List AV} {y : Value} {tk : Nat}, st' = { st with or := st.or, ov := v } → RepV ρ st.n c y → Q y { s with heap := s.heap, toks := tk } := fun e q => by
    subst e
    obtain ⟨m, os, R⟩ := r
    exact H.of rfl ⟨m, os, R.orc st.or _⟩ q
  cases ea : asRef a with
  | some l =>
    rw [ea] at h
    obtain rfl := asRef_eq ea
    obtain ⟨_, rfl⟩ := ra
    cases ei : asNum i with
    | some k =>
      rw [ei] at h
      rw [asNum_eq ei] at ri
      obtain ⟨u, rfl⟩ := ri
      refine opt_el h fun xs e1 y1 => opt_el y1 fun v hn y2 => ?_
      obtain ⟨rfl, rfl, rfl⟩ := hypc_some y2
      have hk : k < 2 ^ 62 := hyc hP fun hc => by have := (Nat.blt_eq).mp hc; lia
      rw [nth_eq] at hn
      rcases seqN_eq e1 with e1 | e1
      · obtain ⟨m, os, vs, k1, R, ho, hv, hm, hl, hlt⟩ := list_get r e1
        obtain ⟨y, hy, ry⟩ := hv.get hn
        exact tail_any hl.typeIs slot_list_getitem.lookup (wpAny_getItem_list hl (by show (0 : Int) ≤ ((k : Nat) : Int); lia) (by show ((k : Nat) : Int) < 2 ^ 63; lia) (by simpa using hy) (r.pst (tk := s.toks) H ry)) (hs _ _)
      · obtain ⟨m, os, vs, R, hv, ht, hlt⟩ := tup_get r e1
        obtain ⟨y, hy, ry⟩ := hv.get hn
        have hkl : k < vs.length := (List.getElem?_eq_some_iff.mp hy).1
        refine item_tupleT ht (j := k) ?_ ?_ ?_ hy (r.pst (tk := s.toks) H ry) (hs _ _)
        · show (-2 ^ 63 : Int) ≤ ((k : Nat) : Int); lia
        · show ((k : Nat) : Int) < 2 ^ 63; lia
        · unfold seqIndex?
          show (if _ then _ else _) = _
          simp; lia
    | none =>
      rw [ei] at h
      refine opt_el h fun k ek y1 => opt_el y1 fun q e1 y2 => ?_
      rw [asIn_eq ek] at ri
      obtain ⟨u, rfl⟩ := ri
      obtain ⟨⟨h0, hk, hn⟩, v, e⟩ := exp y2
      obtain ⟨m, os, vs, k1, R, ho, hv, hm, hl, hlt⟩ := list_get r (asList_eq e1)
      obtain ⟨y, hy, ry⟩ := hv.get hn
      exact tail_any hl.typeIs slot_list_getitem.lookup (wpAny_getItem_list hl h0 (by lia) (by simpa using hy) (out (tk := s.toks) e ry)) (hs _ _)
  | none =>
    rw [ea] at h
    refine opt_el h fun l el y1 => opt_el y1 fun k ek y2 => ?_
    rw [asTxt_eq el] at ra
    rw [asIn_eq ek] at ri
    obtain ⟨t, rfl⟩ := ra
    obtain ⟨u, rfl⟩ := ri
    obtain ⟨⟨h0, hk, c', rfl, hc⟩, v, e⟩ := exp y2
    have hkl : k.toNat < l.length := (List.getElem?_eq_some_iff.mp hc).1
    refine tail_any (typeIs_str _ _ _) PySem.F.slot_str_getitem.lookup (getItem_str (c := c') ?_ ?_ (out e ⟨_, rfl⟩)) (hs _ _)
    · simp; lia
    · have e1 : seqIndex? k (stn l).length = some k.toNat := by
        unfold seqIndex?
        rw [stn_len]
        have hk0 : ¬ k < 0 := by lia
        simp only [hk0, if_false]
        rw [if_pos]
        simp; lia
      rw [e1]
      simpa [stn] using hc
end
end Mine
namespace Mine
open PySem PySem.W PyProof.Rows PySem.Calls PySem.Spec

theorem kl_last_append (l : List Value) (y : Value) : kl_last (l ++ [y]) = some (l, y) := by
  induction l with
  | nil => rfl
  | cons x r ih => simp [kl_last, ih]
set_option tactic.hygienic true in
theorem popO_spec : ∀ {l xs : List AV} {y : AV}, popO l = some (xs, y) → l = xs ++ [y]
  | [], _, _, h => by cases h
  | a :: r, xs, y, h => by
    unfold popO at h
    split at h
    · rename_i xs' y' e
      first | (obtain ⟨rfl, rfl, rfl⟩ := ret_some h) | cases h
      rw [popO_spec e]; rfl
    · rename_i e
      first | (obtain ⟨rfl, rfl, rfl⟩ := ret_some h) | cases h
      induction r with
      | nil => rfl
      | cons b r =>
        exfalso
        unfold popO at e
        split at e <;> cases e
theorem ki_setL_of (v : Value) : ∀ {l : List Value} {k : Nat}, k < l.length → ki_setL l k v = some (l.set k v)
  | [], _, h => absurd h (Nat.not_lt_zero _)
  | _ :: _, 0, _ => rfl
  | x :: r, k + 1, h => by simp [ki_setL, ki_setL_of v (l := r) (k := k) (by simpa using h)]
theorem All2.snoc {α β : Type} {R : α → β → Prop} : ∀ {xs : List α} {y : α} {vs : List β}, All2 R (xs ++ [y]) vs → ∃ us v, vs = us ++ [v] ∧ All2 R xs us ∧ R y v
  | [], y, [v], h => ⟨[], v, rfl, trivial, h.1⟩
  | [], y, [], h => h.elim
  | [], y, _ :: _ :: _, h => h.2.elim
  | x :: xs, y, [], h => h.elim
  | x :: xs, y, v :: vs, h => by
    obtain ⟨us, u, rfl, h1, h2⟩ := All2.snoc (xs := xs) h.2
    exact ⟨v :: us, u, rfl, ⟨h.1, h1⟩, h2⟩

section
variable {prog : Program} {w : World} {K : Frag} {p : Program} {loose : List Str} {mean : ExcName → Option Value} {mg mb : Str → Option Value} {T : PT} {fi : FI} {fc : FC} {ρ : Nat → Addr} {st st' : St} {s : Shared}

theorem pairs_one {zs : List DictEntry} {x : Str} {v : Value} (h : Pairs (strKind prog w) zs [(x, v)]) : ∃ e, zs = [e] ∧ (strKind prog w).is x e.key = true ∧ e.val = v := by
  cases h with
  | cons h1 h2 h3 => cases h3 with
    | nil => exact ⟨_, rfl, h1, h2⟩
theorem setI_sound {a i c : AV} {va vi vc : Value} {P : List Prop} {Q : Unit → Shared → Prop} (h : setI a i c st = some ((), st', P)) (hP : Ps P) (r : Rel w.params fi fc ρ st s.heap) (ra : RepV ρ st.n a va) (ri : RepV ρ st.n i vi) (rc : RepV ρ st.n c vc)
    (H : Pst w.params fi fc ρ st st' s (fun _ _ => True) Q) : wpAny (model prog w) fc.A (setItem va vi vc) Q NoE s := by
  unfold setI at h
  refine opt_el h fun l el y0 => ?_
  clear h
  obtain rfl := asRef_eq el
  obtain ⟨_, rfl⟩ := ra
  cases ei : asTxt i with
  | none =>
    rw [ei] at y0
    refine opt_el y0 fun k ek y1 => opt_el y1 fun xs e1 y2 => opt_el y2 fun v hn y3 => ?_
    obtain ⟨_, rfl, rfl⟩ := hypc_some y3
    rw [asNum_eq ek] at ri
    obtain ⟨u, rfl⟩ := ri
    have e1 := listN_eq e1
    obtain ⟨m, os, vs, k1, R, ho, hv, hm, hl, hlt⟩ := list_get r e1
    rw [nth_eq] at hn
    have hk : k < 2 ^ 62 := hyc hP fun hc => by have := (Nat.blt_eq).mp hc; lia
    obtain ⟨y, hy, ry⟩ := hv.get hn
    have hkl : k < vs.length := (List.getElem?_eq_some_iff.mp hy).1
    refine ki_set R.F R.N (by show (0 : Int) ≤ ((k : Nat) : Int); lia) (by show ((k : Nat) : Int) < 2 ^ 63; lia) (ki_setL_of vc (by simpa using hkl)) (R.upd ho) fun h' F' N' => ?_
    exact H ρ h' s.toks () Ext.refl ⟨_, _, R.set (a' := .list none (xs.set k c)) hlt F' N' ⟨_, _, rfl, hv.set rc⟩⟩ trivial
  | some x =>
    rw [ei] at y0
    refine opt_el y0 fun es e1 y1 => okOr_el y1 fun hone y2 => ?_
    obtain ⟨_, rfl, _⟩ := ret_some y2
    rw [asTxt_eq ei] at ri
    obtain ⟨u, rfl⟩ := ri
    have e1 := asTab_eq e1
    obtain ⟨m, os, ds, k, R, ho, hv, nd, hm, hlt, hs⟩ := tab_get r e1
    have hmu : (st.sg.get l).mut = true := by rw [e1]; rfl
    have hmem := R.N _ hm
    obtain ⟨kvs, ekv, hk1, hk2⟩ : ∃ kvs : List (Str × Value), ((ds.zip es).map fun q => (stn q.2.1, q.1.val)) = kvs ∧ kvs.length ≤ sizeLine ∧ stored kvs (stn x) vc = [(stn x, vc)] := by
      refine ⟨_, rfl, ?_⟩
      induction es using List.casesOn with
      | nil =>
        rw [List.zip_nil_right]
        exact ⟨Nat.zero_le _, rfl⟩
      | cons p es => induction es using List.casesOn with
        | cons => exact ff hone
        | nil =>
          obtain ⟨d, ds', rfl, rd, hn⟩ : ∃ d ds', ds = d :: ds' ∧ RepE w.params ρ st.n p d ∧ All2 (RepE w.params ρ st.n) [] ds' := by
            induction ds using List.casesOn with
            | nil => exact hv.elim
            | cons d ds' => exact ⟨d, ds', rfl, hv⟩
          induction ds' using List.casesOn with
          | cons => exact hn.elim
          | nil =>
            have e : p.1 = x := (nmEq_iff.mp hone).symm
            refine ⟨by rw [sizeL]; show 1 ≤ _; decide, ?_⟩
            show stored [(stn p.1, d.val)] (stn x) vc = _
            rw [e]
            unfold stored
            simp
    refine wpAny_setItem_pairs (hsz := hk1) (strKind_is prog w (stn x) u) (Heap.dictOf_iff.mpr ⟨_, hmem.1, ekv ▸ tab_is (prog := prog) hv nd⟩) fun h' hmm hsb => ?_
    obtain ⟨o', ho', es', ep, hex, hdat, hkeys, hpairs, hnd⟩ := Heap.dictOf_iff.mp hmm
    rw [hk2] at hpairs
    have eo : o' = dictOf es'.toList ep := by
      obtain ⟨oc, od, odd, osl⟩ := o'
      obtain ⟨q1, q2, q3⟩ := hex
      simp only at q1 q2 q3 hdat
      rw [q1, q2, q3, hdat]
    have hE : All2 (RepE w.params ρ st.n) [(x, c)] es'.toList := by
      have hkeys' : ∀ e ∈ es'.toList, ∃ k, (strKind prog w).is k e.key = true ∧ e.hash = (strKind prog w).hash k := fun e he => hkeys e (by simpa using he)
      revert hpairs hkeys'
      generalize es'.toList = zs
      intro hpairs hkeys'
      obtain ⟨e, rfl, g1, g2⟩ := pairs_one hpairs
      obtain ⟨k', g3, g4⟩ := hkeys' e (.head _)
      obtain ⟨t, ht⟩ := Value.isStrOf_shape g1
      obtain ⟨t', ht'⟩ := Value.isStrOf_shape g3
      have hin : k' = stn x := by rw [ht] at ht'; injection ht' with z _; exact z.symm
      exact ⟨⟨by rw [g4, hin]; rfl, ⟨t, ht⟩, by rw [g2]; exact rc⟩, trivial⟩
    exact H ρ h' (s.toks + 1) () Ext.refl ⟨_, _, R.set (a' := .tab [(x, c)]) hlt (R.F.change hsb hmem.2.1 hmem.2.2) (R.news ho hmu hm ho' hsb.2) ⟨_, _, eo, hE, List.nodup_cons.mpr ⟨List.not_mem_nil, List.nodup_nil⟩⟩ (fun _ _ => by simpa using hs) (hm := hmu)⟩ trivial

theorem isin_sound {a c : AV} {t : Fn} {va : Value} {P : List Prop} {Q : Value → Shared → Prop} (ok : PTOk2 K T) (X : K.In s.heap) (h : isin T a t st = some (c, st', P)) (r : Rel w.params fi fc ρ st s.heap) (ra : RepV ρ st.n a va)
    (H : Pst w.params fi fc ρ st st' s (fun ρ' v => RepV ρ' st'.n c v) Q) : wpAny (model prog w) fc.A (call (.builtin "isinstance") [va, t.val]) Q NoE s := by
  induction t using Fn.casesOn with
  | fn => exact nn h
  | bi b => induction b using Bi.casesOn with
    | tstr =>
      refine opt_el h fun q hq y1 => ?_
      obtain ⟨rfl, rfl, _⟩ := ret_some y1
      obtain ⟨t, rfl⟩ := asStr_rep (p := q.1) (x := q.2) hq ra
      exact IsiPair.str_str (r.pst (tk := s.toks) H rfl)
    | ttup =>
      have h : (match asStr a with | some _ => ret (.bool false) st | none => opt (asInt a) fun _ => ret (.bool false) st) = some (c, st', P) := h
      cases ea : asStr a with
      | some q =>
        rw [ea] at h
        obtain ⟨rfl, rfl, _⟩ := ret_some h
        obtain ⟨t, rfl⟩ := asStr_rep (p := q.1) (x := q.2) ea ra
        exact IsiPair.str_tuple (r.pst H rfl)
      | none =>
        rw [ea] at h
        refine opt_el h fun q hq y1 => ?_
        obtain ⟨rfl, rfl, _⟩ := ret_some y1
        obtain ⟨t, rfl⟩ := asInt_rep (p := q.1) (x := q.2) hq ra
        exact IsiPair.int_tuple (r.pst H rfl)
    | _ => exact nn h

set_option tactic.hygienic true in
theorem strsOf_vals {ρ : Nat → Addr} {n : Nat} : ∀ {xs : List AV} {l : List (Bool × Nm)} {vs : List Value}, strsOf xs = some l → All2 (RepV ρ n) xs vs → ∃ tl : List (Str × Tok), vs = strValues tl ∧ tl.map (·.1) = l.map fun q => stn q.2
  | [], l, [], h, _ => by cases h; exact ⟨[], rfl, rfl⟩
  | [], _, _ :: _, _, h => h.elim
  | _ :: _, _, [], _, h => h.elim
  | a :: xs, l, v :: vs, h, k => by
    unfold strsOf at h
    split at h
    · rename_i q hq
      split at h
      · rename_i r hr
        first | (obtain ⟨rfl, rfl, rfl⟩ := ret_some h) | cases h
        obtain ⟨tl, e1, e2⟩ := strsOf_vals hr k.2
        obtain ⟨t, rfl⟩ := asStr_rep (p := q.1) (x := q.2) hq k.1
        exact ⟨(stn q.2, t) :: tl, by rw [e1]; rfl, by simp [e2]⟩
      · first | exact nn h | cases h
    · first | exact nn h | cases h
theorem sum_len : ∀ l : List (Bool × Nm), ((l.map fun q => stn q.2).map (·.length)).sum = (catL l).length := by
  intro l
  induction l with
  | nil => rfl
  | cons q r ih => simp only [List.map_cons, List.sum_cons, catL, List.length_append, ih, stn_len]
theorem glued_cat : ∀ l : List (Bool × Nm), Builtin.Str.glued ⟨#[]⟩ (l.map fun q => stn q.2) = stn (catL l) := by
  intro l
  rw [StrLaws.glued_eq_join]
  induction l with
  | nil => rfl
  | cons q r ih =>
    induction r with
    | nil => simp [catL, Str.join]
    | cons q' r =>
      have e : ∀ (a b : Str), Str.join ⟨#[]⟩ (a :: b :: (r.map fun q => stn q.2)) = a ++ ⟨#[]⟩ ++ Str.join ⟨#[]⟩ (b :: (r.map fun q => stn q.2)) := fun a b => rfl
      simp only [List.map_cons] at ih ⊢
      rw [e, ih]
      show stn q.2 ++ stn [] ++ _ = _
      rw [stn_append, stn_append, List.append_nil]
      rfl

theorem J.arg1 {α β : Type} {R : (Nat → Addr) → Nat → α → β → Prop} {wp : List Value → (β → Shared → Prop) → Shared → Prop} {vs : List AV} {cvs : List Value} {k : AV → St → Rr α} (h : ∀ a v, J w fi fc [a] [v] (k a) R (wp [v])) : J w fi fc vs cvs (fun st => arg1 vs fun a => k a st) R (wp cvs) := fun st r st' P e hP ρ s Q rr c H => by
  induction vs using List.casesOn with
  | nil => exact nn e
  | cons a t => induction t using List.casesOn with
    | cons => exact nn e
    | nil =>
      obtain ⟨v, rfl, c⟩ := All2.one c
      exact h a v st r st' P e hP ρ s Q rr c H
theorem J.arg2 {α β : Type} {R : (Nat → Addr) → Nat → α → β → Prop} {wp : List Value → (β → Shared → Prop) → Shared → Prop} {vs : List AV} {cvs : List Value} {k : AV → AV → St → Rr α} (h : ∀ a b v u, J w fi fc [a, b] [v, u] (k a b) R (wp [v, u])) : J w fi fc vs cvs (fun st => arg2 vs fun a b => k a b st) R (wp cvs) := fun st r st' P e hP ρ s Q rr c H => by
  induction vs using List.casesOn with
  | nil => exact nn e
  | cons a t => induction t using List.casesOn with
    | nil => exact nn e
    | cons b t => induction t using List.casesOn with
      | cons => exact nn e
      | nil =>
        obtain ⟨v, u, rfl, c⟩ := All2.two c
        exact h a b v u st r st' P e hP ρ s Q rr c H
theorem lt_of_ledger {h : Heap} {m : Str → Option Value} {os : List Obj} (R : RelAt w.params fi fc ρ st h m os) : ∀ p ∈ ledF st.sg ρ 0 os ++ fc.rest, p.1 < h.objs.size := fun p hp => Heap.lt_size (R.N p hp).1
theorem push_obj {ao : AO} {o : Obj} {Q : Value → Shared → Prop} {tk : Nat} {st₀ : St} {m : Str → Option Value} {os : List Obj} (R : RelAt w.params fi fc ρ st s.heap m os) (h0 : st₀.n = st.n) (ro : RepO w.params (fun i => if i = st.n then s.heap.objs.size else ρ i) (st.n + 1) ao o) (ht : ∀ es, ao ≠ .tab es) (hf1 : o.isFreed = false)
    (H : Pst w.params fi fc ρ st₀ { st with sg := st.sg.set st.n ao, n := st.n + 1 } s (fun ρ' v => RepV ρ' (st.n + 1) (.ref st.n) v) Q) : Q (.ref s.heap.objs.size) { s with heap := s.heap.push o, toks := tk } := by
  obtain ⟨R', X'⟩ := R.push (ao := ao) (R.F.push o) (R.N.push R.F o hf1) (lt_of_ledger R) ro (fun es q => absurd q (ht es))
  exact H _ _ tk _ (by rw [h0]; exact X') ⟨_, _, R'⟩ ⟨Nat.lt_succ_self _, by simp⟩
theorem join_list {k : Nat} {xs : List AV} {l : List (Bool × Nm)} {t : Tok} {A : Around} {Q : Value → Shared → Prop} (r : Rel w.params fi fc ρ st s.heap) (e1 : st.sg.get k = .list none xs) (hl : strsOf xs = some l) (hz : (catL l).length ≤ 1000)
    (hq : ∀ (t' : Tok) (tk : Nat), Q (.str (stn (catL l)) t') { s with toks := tk }) : wpAny (model prog w) A (call (.builtin "str.join") [.str (stn []) t, .ref (ρ k)]) Q NoE s := by
  obtain ⟨m, os, us, k1, R, ho, hv, hm, hil, hlt⟩ := list_get r e1
  obtain ⟨tl, rfl, htl⟩ := strsOf_vals hl hv
  have hok : Builtin.Str.tooLong ((tl.map (·.1)).toArray.foldl (· + ·.length + (stn []).length) 0) = false := by
    have := StrLaws.joinTotal (stn []) (tl.map (·.1))
    rw [this]
    rw [htl, sum_len, stn_len]
    simp only [Builtin.Str.tooLong, List.length_nil, Nat.mul_zero, Nat.add_zero, decide_eq_false_iff_not, Nat.not_lt, gt_iff_lt]
    rw [sizeL]; lia
  exact call_meets PySem.F.slot_str_join (typeIs_str _ _ _) PySem.F.entry_str_join (PySem.F.args_str_join_2 _ _) (meets_str_join_list (stn []) t (ρ k) tl hok) ⟨hil, post_join tl ⟨joinFit_length hok, fun t' tk => by
    have e : Txt.join (stn []) (tl.map (·.1)) = stn (catL l) := by rw [htl]; exact glued_cat l
    rw [e]; exact hq t' tk⟩⟩
theorem len_lst {k : Nat} {pre : Option (List AV)} {xs : List AV} {A : Around} {Q : Value → Shared → Prop} (r : Rel w.params fi fc ρ st s.heap) (e1 : st.sg.get k = .list pre xs) (hz : (itm pre xs).length < 2 ^ 62)
    (H : Pst w.params fi fc ρ st st s (fun ρ' v => RepV ρ' st.n (lenL pre xs) v) Q) : wpAny (model prog w) A (call (.builtin "len") [.ref (ρ k)]) Q NoE s := by
  obtain ⟨m, os, us, k1, R, ho, hv, hm, hl, hlt⟩ := list_get r e1
  have hlen := hv.length
  refine len_list hl (by simp only [List.size_toArray]; lia) ?_
  refine r.pst H ?_
  simp only [List.size_toArray, ← hlen]
  cases pre with
  | none => exact ⟨_, rfl⟩
  | some pre => exact ⟨_, by simp [itm]; rfl⟩
theorem len_tup {k : Nat} {xs : List AV} {A : Around} {Q : Value → Shared → Prop} (r : Rel w.params fi fc ρ st s.heap) (e1 : st.sg.get k = .tup xs) (hz : xs.length < 2 ^ 62)
    (H : Pst w.params fi fc ρ st st s (fun ρ' v => RepV ρ' st.n (.num xs.length) v) Q) : wpAny (model prog w) A (call (.builtin "len") [.ref (ρ k)]) Q NoE s := by
  obtain ⟨m, os, us, R, hv, ht, hlt⟩ := tup_get r e1
  have hlen := hv.length
  refine len_tuple ht (by simp only [List.size_toArray]; lia) ?_
  refine r.pst H ?_
  simp only [List.size_toArray, ← hlen]
  exact ⟨_, rfl⟩
theorem append_lst {k : Nat} {pre : Option (List AV)} {xs : List AV} {v : AV} {vb : Value} {A : Around} {Q : Value → Shared → Prop} (r : Rel w.params fi fc ρ st s.heap) (e1 : st.sg.get k = .list pre xs) (hz : (itm pre xs).length ≤ sizeLine) (rb : RepV ρ st.n v vb)
    (H : Pst w.params fi fc ρ st (setO k (.list pre (xs ++ [v])) st) s (fun ρ' v => RepV ρ' st.n .none v) Q) : wpAny (model prog w) A (call (.builtin "list.append") [.ref (ρ k), vb]) Q NoE s := by
  obtain ⟨m, os, us, k1, R, ho, hv, hm, hl, hlt⟩ := list_get r e1
  refine append_K R.F R.N (R.upd ho) (fun h' F' N' => ?_) (by simp only [List.size_toArray]; rw [← hv.length]; exact hz)
  exact H ρ h' s.toks _ ⟨Nat.le_refl _, fun _ _ => rfl⟩ ⟨_, _, R.set (a' := .list pre (xs ++ [v])) hlt F' N' ⟨us ++ [vb], k1 + 1, by simp, by rw [itm_append]; exact hv.append ⟨rb, trivial⟩⟩⟩ rfl
theorem pop_lst {k : Nat} {pre : Option (List AV)} {xs ys : List AV} {v : AV} {A : Around} {Q : Value → Shared → Prop} (r : Rel w.params fi fc ρ st s.heap) (e1 : st.sg.get k = .list pre xs) (hpop : popO xs = some (ys, v)) (hz : (itm pre xs).length ≤ sizeLine)
    (H : Pst w.params fi fc ρ st (setO k (.list pre ys) st) s (fun ρ' u => RepV ρ' st.n v u) Q) : wpAny (model prog w) A (call (.builtin "list.pop") [.ref (ρ k)]) Q NoE s := by
  obtain ⟨m, os, us, k1, R, ho, hv, hm, hl, hlt⟩ := list_get r e1
  have hlen := hv.length
  rw [popO_spec hpop, itm_append] at hv
  obtain ⟨us', u, rfl, h1, h2⟩ := hv.snoc
  refine kl_pop R.F R.N (p := us') (y := u) (by simpa using kl_last_append us' u) (R.upd ho) (by show (us' ++ [u]).length ≤ _; rw [← hlen]; exact hz) fun h' F' N' => ?_
  exact H ρ h' s.toks _ ⟨Nat.le_refl _, fun _ _ => rfl⟩ ⟨_, _, R.set (a' := .list pre ys) hlt F' N' ⟨us', k1 + 1, rfl, h1⟩⟩ h2
theorem pop_shape (vs : List AV) : (∃ a i, vs = [a, i]) ∨ bcall .pop vs = fun st => arg1 vs fun a => lst a st fun k p xs => opt (popO xs) fun q => hypc (shortP p xs) ((itm p xs).length ≤ sizeLine) q.2 (setO k (.list p q.1) st) := by
  match vs with
  | [a, i] => exact .inl ⟨a, i, rfl⟩
  | [] => exact .inr rfl
  | [_] => exact .inr rfl
  | _ :: _ :: _ :: _ => exact .inr rfl
set_option tactic.hygienic true in
theorem ints_vals {ρ : Nat → Addr} {n : Nat} : ∀ {xs : List AV} {l : List Int} {vs : List Value}, intsOf xs = some l → All2 (RepV ρ n) xs vs → IntsAre vs l
  | [], l, [], h, _ => by cases h; exact .nil
  | [], _, _ :: _, _, h => h.elim
  | _ :: _, _, [], _, h => h.elim
  | a :: xs, l, v :: vs, h, k => by
    unfold intsOf at h
    split at h
    · rename_i q hq
      split at h
      · rename_i r hr
        obtain rfl := Option.some.inj h
        obtain ⟨t, rfl⟩ := asInt_rep (p := q.1) (x := q.2) hq k.1
        exact .cons _ _ (ints_vals hr k.2)
      · exact nn h
    · exact nn h
theorem sum_lst {k : Nat} {pre : Option (List AV)} {xs : List AV} {l : List Int} {A : Around} {Q : Value → Shared → Prop} (hh : A.handled = none) (r : Rel w.params fi fc ρ st s.heap) (e1 : st.sg.get k = .list pre xs) (hl : intsOf (itm pre xs) = some l)
    (H : Pst w.params fi fc ρ st st s (fun ρ' v => RepV ρ' st.n (.int l.sum) v) Q) : wpAny (model prog w) A (call (.builtin "sum") [.ref (ρ k)]) Q NoE s := by
  obtain ⟨m, os, us, k1, R, ho, hv, hm, hil, hlt⟩ := list_get r e1
  exact LSm.sum_ints R.F R.N hh hil (ints_vals hl hv) fun h' tk t' F' N' => H ρ h' tk _ Ext.refl ⟨m, os, R.heap F' N'⟩ ⟨_, rfl⟩
theorem pop_fst {k : Nat} {pre : Option (List AV)} {xs : List AV} {q : Option (List AV) × List AV × AV} {u : Tok} {A : Around} {Q : Value → Shared → Prop} (r : Rel w.params fi fc ρ st s.heap) (e1 : st.sg.get k = .list pre xs) (hpop : popF pre xs = some q) (hz : (itm pre xs).length ≤ sizeLine)
    (H : Pst w.params fi fc ρ st (setO k (.list q.1 q.2.1) st) s (fun ρ' v => RepV ρ' st.n q.2.2 v) Q) : wpAny (model prog w) A (call (.builtin "list.pop") [.ref (ρ k), .int 0 u]) Q NoE s := by
  obtain ⟨m, os, us, k1, R, ho, hv, hm, hl, hlt⟩ := list_get r e1
  have hlen := hv.length
  rw [popF_eq hpop] at hv
  obtain ⟨v, us', rfl, h1, h2⟩ : ∃ v us', us = v :: us' ∧ RepV ρ st.n q.2.2 v ∧ All2 (RepV ρ st.n) (itm q.1 q.2.1) us' := by
    match us, hv with
    | v :: us', h => exact ⟨v, us', rfl, h.1, h.2⟩
  refine kl_popAt R.F R.N (p := []) (q := us') (y := v) (k := 0) rfl (by simp [seqIndex?]) rfl (R.upd ho) (by show (v :: us').length ≤ _; rw [← hlen]; exact hz) fun h' F' N' => ?_
  exact H ρ h' s.toks _ ⟨Nat.le_refl _, fun _ _ => rfl⟩ ⟨_, _, R.set (a' := .list q.1 q.2.1) hlt F' N' ⟨us', k1 + 1, rfl, h2⟩⟩ h1
theorem reverse_lst {k : Nat} {xs : List AV} {A : Around} {Q : Value → Shared → Prop} (r : Rel w.params fi fc ρ st s.heap) (e1 : st.sg.get k = .list none xs) (hz : xs.length ≤ sizeLine)
    (H : Pst w.params fi fc ρ st (setO k (.list none xs.reverse) st) s (fun ρ' v => RepV ρ' st.n .none v) Q) : wpAny (model prog w) A (call (.builtin "list.reverse") [.ref (ρ k)]) Q NoE s := by
  obtain ⟨m, os, us, k1, R, ho, hv, hm, hl, hlt⟩ := list_get r e1
  refine kl_reverse R.F R.N (l := us.reverse) (by simp) (R.upd ho) (by show us.length ≤ _; rw [← hv.length]; exact hz) fun h' F' N' => ?_
  exact H ρ h' s.toks _ ⟨Nat.le_refl _, fun _ _ => rfl⟩ ⟨_, _, R.set (a' := .list none xs.reverse) hlt F' N' ⟨us.reverse, k1, rfl, All2.reverse hv⟩⟩ rfl
theorem extend_lst {k j : Nat} {pre : Option (List AV)} {xs ys : List AV} {A : Around} {Q : Value → Shared → Prop} (r : Rel w.params fi fc ρ st s.heap) (e1 : st.sg.get k = .list pre xs) (e2 : st.sg.get j = .list none ys) (hkj : k ≠ j) (hz : (itm pre xs).length + ys.length ≤ sizeLine)
    (H : Pst w.params fi fc ρ st (setO k (.list pre (xs ++ ys)) st) s (fun ρ' v => RepV ρ' st.n .none v) Q) : wpAny (model prog w) A (call (.builtin "list.extend") [.ref (ρ k), .ref (ρ j)]) Q NoE s := by
  obtain ⟨m, os, us, k1, R, ho, hv, hm, hl, hlt⟩ := list_get r e1
  obtain ⟨o2, ho2, ⟨ws, k2, rfl, hw⟩, hm2, hg2⟩ := R.get e2 (by intro q; cases q)
  have hw : All2 (RepV ρ st.n) ys ws := hw
  have hl1 := hv.length
  have hl2 := hw.length
  have big : ¬ (!us.toArray.isEmpty && Builtin.List.listTooLong (us.toArray.size + ws.toArray.size)) = true := by
    simp only [Builtin.List.listTooLong, List.size_toArray, Bool.and_eq_true, decide_eq_true_eq, not_and]
    intro _; lia
  cases ys with
  | nil =>
    have : ws = [] := List.length_eq_zero_iff.mp hl2.symm
    subst this
    refine kxn_extend R.F R.N hm2 rfl (R.upd ho) big (by show us.length ≤ _; lia) (by simp only [List.size_toArray, List.length_nil]; lia) fun h' F' N' => ?_
    exact H ρ h' s.toks _ ⟨Nat.le_refl _, fun _ _ => rfl⟩ ⟨_, _, R.set (a' := .list pre (xs ++ [])) hlt F' N' ⟨us, k1, rfl, by rw [List.append_nil]; exact hv⟩⟩ rfl
  | cons y ys =>
    refine kl_extend R.F R.N hm2 (l := us ++ ws) (by simp) (by simp only [List.length_cons] at hl2 ⊢; lia) (R.upd ho) big (by show us.length ≤ _; lia) (by simp only [List.size_toArray]; lia) fun h' F' N' => ?_
    exact H ρ h' s.toks _ ⟨Nat.le_refl _, fun _ _ => rfl⟩ ⟨_, _, R.set (a' := .list pre (xs ++ (y :: ys))) hlt F' N' ⟨us ++ ws, k1 + 1, rfl, by rw [itm_append]; exact hv.append hw⟩⟩ rfl
noncomputable def WC (prog : Program) (w : World) (A : Around) (b : Bi) (cvs : List Value) : (Value → Shared → Prop) → Shared → Prop := fun Q s => wpAny (model prog w) A (call b.val cvs) Q NoE s
theorem bcallJ {b : Bi} {vs : List AV} {cvs : List Value} (hh : fc.A.handled = none) : J w fi fc vs cvs (bcall b vs) RepV (WC prog w fc.A b cvs) := by
  induction b using Bi.casesOn with
  | range =>
    induction vs using List.casesOn with
    | nil => exact J.none
    | cons a t => induction t using List.casesOn with
      | nil =>
        intro st r st' P y0 hP ρ s Q rr c H
        refine opt_el y0 fun p hp y1 => bnd_el y1 hP fun _ _ _ _ h1 h2 hP1 hP2 => ?_
        clear y0 y1
        obtain ⟨_, rfl, rfl⟩ := hypc_some h1
        obtain ⟨rfl, rfl, _⟩ := ret_some h2
        obtain ⟨va, rfl, ra⟩ := All2.one c
        obtain ⟨t, rfl⟩ := asInt_rep (p := p.1) (x := p.2) hp ra.1
        have hb := hyc hP1 okI_iff
        obtain ⟨m, os, R⟩ := rr
        exact call_range_1 (push_obj (ao := .rng p.1 0 p.2) R rfl ⟨⟨by lia, by lia, hb⟩, _, _, _, rfl⟩ (fun _ q => nomatch q) rfl H)
      | cons b t => induction t using List.casesOn with
        | cons => exact J.none
        | nil =>
          intro st r st' P y0 hP ρ s Q rr c H
          refine opt_el y0 fun p hp y1 => opt_el y1 fun q hq y2 => bnd_el y2 hP fun _ _ _ _ h1 h2 hP1 hP2 => ?_
          clear y0 y1 y2
          obtain ⟨_, rfl, rfl⟩ := some3 h1
          obtain ⟨rfl, rfl, _⟩ := ret_some h2
          obtain ⟨va, vb, rfl, ra⟩ := All2.two c
          obtain ⟨t, rfl⟩ := asInt_rep (p := p.1) (x := p.2) hp ra.1
          obtain ⟨u, rfl⟩ := asInt_rep (p := q.1) (x := q.2) hq ra.2.1
          obtain ⟨p1, p2⟩ := Ps.append hP1
          have hb := hyc p1 okI_iff
          have hb2 := hyc p2 okI_iff
          obtain ⟨m, os, R⟩ := rr
          exact call_range_2 (push_obj (ao := .rng (both p.1 q.1) p.2 q.2) R rfl ⟨⟨hb.1, hb.2, hb2⟩, _, _, _, rfl⟩ (fun _ q => nomatch q) rfl H)
  | abs =>
    refine J.arg1 (wp := WC prog w fc.A .abs) fun a v => ?_
    refine intJ (wp := fun v => WC prog w fc.A .abs [v]) fun p t => ?_
    exact J.ret fun _ _ _ _ _ k => call_abs_int fun u tk => k _ tk (mkI_rep _ _ _)
  | int =>
    refine J.arg1 (wp := WC prog w fc.A .int) fun a v => J.opt fun q hq => J.ret fun _ s _ _ c k => ?_
    obtain ⟨t, e⟩ := asInt_rep (p := q.1) (x := q.2) hq c.1
    have h := k v s.toks c.1
    rw [e] at h ⊢
    exact call_int_int h
  | join =>
    refine J.arg2 (wp := WC prog w fc.A .join) fun a b va vb st r st' P y0 hP ρ s Q rr c H => okOr_el y0 fun ha y1 => lst_el y1 fun k p xs eb e1 y2 => only_el y2 fun ep y3 => opt_el y3 fun l hl y4 => okOr_el y4 fun _ y5 => ?_
    have z := hypc_some y5
    clear y0 y1 y2 y3 y4 y5
    obtain ⟨rfl, rfl, rfl⟩ := z
    obtain rfl : a = .txt [] := by
      unfold isEmp at ha
      split at ha
      · rfl
      · cases ha
    subst eb ep
    obtain ⟨⟨t, rfl⟩, ⟨_, rfl⟩, _⟩ := c
    exact join_list rr e1 hl (hyc hP fun hc => short_le (andB_iff hc).2) fun t' tk => rr.pst H (mkS_rep _ _ _)
  | len =>
    refine J.arg1 (wp := WC prog w fc.A .len) fun a v st r st' P y0 hP ρ s Q rr c H => ?_
    cases ea : asStr a with
    | some q =>
      rw [ea] at y0
      have z := hypc_some y0
      clear y0
      obtain ⟨rfl, rfl, rfl⟩ := z
      obtain ⟨t, rfl⟩ := asStr_rep (p := q.1) (x := q.2) ea c.1
      have hl : q.2.length < 2 ^ 62 := hyc hP fun hc => by have := short_le (andB_iff hc).2; lia
      refine len_str (by rw [stn_len]; lia) ?_
      rw [stn_len]
      exact rr.pst H (mkI_rep _ _ _)
    | none =>
      rw [ea] at y0
      refine opt_el y0 fun k ek y1 => ?_
      rw [asRef_eq ek] at c
      obtain ⟨_, rfl⟩ := c.1
      cases el : asList (st.sg.get k) with
      | some x =>
        rw [el] at y1
        have z := hypc_some y1
        clear y0 y1
        obtain ⟨rfl, rfl, rfl⟩ := z
        exact len_lst rr (asList_eq el) (hyc hP fun hc => by have := shortP_le hc; lia) H
      | none =>
        rw [el] at y1
        refine opt_el y1 fun xs ex y2 => ?_
        have z := hypc_some y2
        clear y0 y1 y2
        obtain ⟨rfl, rfl, rfl⟩ := z
        exact len_tup rr (asTup_eq ex) (hyc hP fun hc => by have := short_le hc; lia) H
  | append =>
    refine J.arg2 (wp := WC prog w fc.A .append) fun a b va vb st r st' P y0 hP ρ s Q rr c H => lst_el y0 fun k p xs ea e1 y1 => ?_
    have z := hypc_some y1
    clear y0 y1
    obtain ⟨rfl, rfl, rfl⟩ := z
    subst ea
    obtain ⟨⟨_, rfl⟩, rb, _⟩ := c
    exact append_lst rr e1 (hyc hP fun hc => by have := shortP_le hc; rw [sizeL]; lia) rb H
  | sum =>
    refine J.arg1 (wp := WC prog w fc.A .sum) fun a v st r st' P y0 hP ρ s Q rr c H => lst_el y0 fun k p xs ea e1 y1 => opt_el y1 fun l hl y2 => ?_
    obtain ⟨rfl, rfl, _⟩ := ret_some y2
    clear y0 y1 y2
    subst ea
    obtain ⟨⟨_, rfl⟩, _⟩ := c
    exact sum_lst hh rr e1 hl H
  | pop =>
    rcases pop_shape vs with ⟨a, i, rfl⟩ | hsh
    · intro st r st' P y0 hP ρ s Q rr c H
      refine okOr_el y0 fun hi y1 => lst_el y1 fun k p xs ea e1 y2 => opt_el y2 fun q hq y3 => ?_
      have z := hypc_some y3
      clear y0 y1 y2 y3
      obtain ⟨rfl, rfl, rfl⟩ := z
      subst ea
      obtain ⟨va, vb, rfl, ra⟩ := All2.two c
      obtain ⟨⟨_, rfl⟩, ri, _⟩ := ra
      rw [isZero_eq hi] at ri
      obtain ⟨u, rfl⟩ := ri
      exact pop_fst rr e1 hq (hyc hP fun hc => by have := shortP_le hc; rw [sizeL]; lia) H
    rw [hsh]
    refine J.arg1 (wp := WC prog w fc.A .pop) fun a v st r st' P y0 hP ρ s Q rr c H => lst_el y0 fun k p xs ea e1 y1 => opt_el y1 fun q hq y2 => ?_
    have z := hypc_some y2
    clear y0 y1 y2
    obtain ⟨rfl, rfl, rfl⟩ := z
    subst ea
    obtain ⟨⟨_, rfl⟩, _⟩ := c
    exact pop_lst rr e1 hq (hyc hP fun hc => by have := shortP_le hc; rw [sizeL]; lia) H
  | reverse =>
    refine J.arg1 (wp := WC prog w fc.A .reverse) fun a v st r st' P y0 hP ρ s Q rr c H => lst_el y0 fun k p xs ea e1 y1 => only_el y1 fun ep y2 => ?_
    have z := hypc_some y2
    clear y0 y1 y2
    obtain ⟨rfl, rfl, rfl⟩ := z
    subst ea ep
    obtain ⟨⟨_, rfl⟩, _⟩ := c
    exact reverse_lst rr e1 (hyc hP fun hc => by have := short_le hc; rw [sizeL]; lia) H
  | extend =>
    refine J.arg2 (wp := WC prog w fc.A .extend) fun a b va vb st r st' P y0 hP ρ s Q rr c H => lst_el y0 fun k p xs ea e1 y1 => lst_el y1 fun j q ys eb e2 y2 => only_el y2 fun eq y3 => ?_
    have z := hypc_some y3
    clear y0 y1 y2 y3
    obtain ⟨rfl, rfl, rfl⟩ := z
    subst ea eb eq
    obtain ⟨⟨_, rfl⟩, ⟨_, rfl⟩, _⟩ := c
    obtain ⟨hkj, hz⟩ : k ≠ j ∧ (itm p xs).length + ys.length ≤ sizeLine := hyc hP fun hc => by
      obtain ⟨c1, c2⟩ := andB_iff hc
      have h1 := shortP_le (andB_iff c2).1
      have h2 := short_le (andB_iff c2).2
      refine ⟨fun y4 => ?_, by rw [sizeL]; lia⟩
      rw [y4, Nat.beq_refl] at c1; cases c1
    exact extend_lst rr e1 e2 hkj hz H
  | _ => exact J.none
theorem bcall_sound {b : Bi} {vs : List AV} {c : AV} {cvs : List Value} {P : List Prop} {Q : Value → Shared → Prop} (hh : fc.A.handled = none) (h : bcall b vs st = some (c, st', P)) (hP : Ps P) (r : Rel w.params fi fc ρ st s.heap) (ra : All2 (RepV ρ st.n) vs cvs)
    (H : Pst w.params fi fc ρ st st' s (fun ρ' v => RepV ρ' st'.n c v) Q) : wpAny (model prog w) fc.A (call b.val cvs) Q NoE s := bcallJ hh st c st' P h hP ρ s Q r ra H

end
end Mine
namespace Mine
open PySem PySem.W PyProof.Rows PySem.Calls PySem.Spec

theorem part_of {ρ : Nat → Addr} {n : Nat} {a : AV} {v : Value} (h : okB a) (r : RepV ρ n a v) : IsPart v (partO a) := by
  induction a with
  | none => obtain rfl := r; exact .none
  | num i => obtain ⟨t, rfl⟩ := r; exact .int i t
  | int i => obtain ⟨t, rfl⟩ := r; exact .int i t
  | _ => exact h.elim
theorem pick_rev {α : Type} (xs : List α) : ((List.range xs.length).map fun k => xs.length - 1 - k).filterMap (xs[·]?) = xs.reverse := by
  rw [krv_range, List.filterMap_reverse]
  have := krv_all xs.toArray
  simp only [List.size_toArray, List.getElem?_toArray] at this
  rw [this]
theorem rng_rev (n : Nat) : sliceRange ((n : Int) - 1) (-1) (-1) = (List.range n).map fun k => n - 1 - k := by
  unfold sliceRange
  have hc : (if (-1 : Int) > 0 then (if (n : Int) - 1 < -1 then (-1 - ((n : Int) - 1) + -1 - 1) / -1 else 0) else (if (n : Int) - 1 > -1 then ((n : Int) - 1 - -1 - -1 - 1) / (- -1) else 0)) = n := by
    rw [if_neg (by decide)]
    split
    · show _ / (1 : Int) = _
      rw [Int.ediv_one]; lia
    · lia
  simp only [hc, Int.toNat_natCast]
  apply List.map_congr_left
  intro k hk
  have := List.mem_range.mp hk
  lia
theorem bounds_rev (n : Nat) : sliceBounds none none (some (-1)) n = ((n : Int) - 1, -1, -1) := by
  simp [sliceBounds]
theorem upto_adjust (b n : Nat) (hb : b ≤ n) : Builtin.Slice.sliceAdjust none (some (b : Int)) 1 (n : Int) = (0, (b : Int)) := by
  simp only [Builtin.Slice.sliceAdjust, show ¬ ((1 : Int) < 0) by decide, show ¬ ((b : Int) < 0) by lia, if_false]
  refine Prod.ext rfl ?_
  show (if _ then _ else _) = _
  split <;> lia
theorem upto_places (b : Nat) : Builtin.Slice.slicePlaces 0 (b : Int) 1 = b := by
  simp only [Builtin.Slice.slicePlaces, show (1 : Int) > 0 by decide, if_true, Int.ediv_one]
  split <;> lia
theorem pick_take : ∀ (us : List Value) (b : Nat), b ≤ us.length → (List.range b).filterMap (us[·]?) = us.take b
  | _, 0, _ => by simp
  | [], _ + 1, h => absurd h (by simp)
  | u :: us, b + 1, h => by
    rw [List.range_succ_eq_map, List.filterMap_cons]
    simp only [List.getElem?_cons_zero, List.filterMap_map, List.take_succ_cons]
    rw [← pick_take us b (by simpa using h)]
    rfl
theorem upto_pick (us : List Value) (b : Nat) (hb : b ≤ us.length) : ((List.range b).filterMap fun (k : Nat) => us.toArray[((0 : Int) + (k : Int) * 1).toNat]?).toArray = (us.take b).toArray := by
  have e : (fun (k : Nat) => us.toArray[((0 : Int) + (k : Int) * 1).toNat]?) = fun k => us[k]? := by
    funext k
    rw [show ((0 : Int) + (k : Int) * 1).toNat = k by lia, List.getElem?_toArray]
  rw [e, pick_take us b hb]
section
variable {prog : Program} {w : World} {K : Frag} {p : Program} {loose : List Str} {mean : ExcName → Option Value} {mg mb : Str → Option Value} {T : PT} {fi : FI} {fc : FC} {ρ : Nat → Addr} {st st' : St} {s : Shared}

theorem slice_tuple_upto {value slice : Expr} {t : Addr} {us : List Value} {b : Nat} {u : Tok} {h₀ : Heap} {L : Addr} {m : Str → Option Value} {news : List (Addr × Obj)} {A : Around} {Q : Value → Shared → Prop}
    (F : Fr h₀ L s.heap m) (N : News h₀ L s.heap news) (ht : IsTup s.heap t us.toArray) (h1 : 1 ≤ b) (hb : b < us.toArray.size)
    (h : ∀ h', Fr h₀ L h' m → News h₀ L h' ((s.heap.objs.size + 1, { cls := .type "tuple", data := .seq (us.take b).toArray }) :: news) → Q (.ref (s.heap.objs.size + 1)) { s with heap := h' })
    (hs : subscripted slice false (.ref t) (.ref s.heap.objs.size) = operate [.ref s.heap.objs.size, .ref t] (getItem (.ref t) (.ref s.heap.objs.size)))
    (hg : ∀ r, letTemporaryGo value (.ref t) r = pure ()) (hz : us.toArray.size ≤ sizeLine) :
    wpAny (model prog w) A (subscriptTail value slice (.ref t) (.ref s.heap.objs.size)) Q NoE { s with heap := s.heap.push { cls := .type "slice", data := .fields #[.none, .int b u, .none] } } := by
  have ht' : IsTup (s.heap.push { cls := .type "slice", data := .fields #[.none, .int b u, .none] }) t us.toArray := ht.keeps fun _ _ e => Heap.get?_push_of_some _ e
  have hsl : (s.heap.push { cls := .type "slice", data := .fields #[.none, .int b u, .none] }).IsSliceOf s.heap.objs.size .none (.int b u) .none := Heap.IsSliceOf.new ..
  have N1 := News.push (F.push { cls := .type "slice", data := .fields #[.none, .int b u, .none] }) (N.grown fun _ _ e => Heap.get?_push_of_some _ e) { cls := .type "tuple", data := .seq (us.take b).toArray }
  rw [Heap.size_push] at N1
  have fin := h _ ((F.push { cls := .type "slice", data := .fields #[.none, .int b u, .none] }).push { cls := .type "tuple", data := .seq (us.take b).toArray }) N1
  refine subscriptTail_ops (s := { s with heap := s.heap.push { cls := .type "slice", data := .fields #[.none, .int b u, .none] } }) ht'.typeIs slot_tuple_getitem.lookup ?_ hs hg
  have fin2 : Q (.ref (s.heap.push { cls := .type "slice", data := .fields #[.none, .int b u, .none] }).objs.size) { s with heap := (s.heap.push { cls := .type "slice", data := .fields #[.none, .int b u, .none] }).push { cls := .type "tuple", data := .seq (us.take b).toArray } } := by
    rw [Heap.size_push]; exact fin
  obtain ⟨os, hos, hcs, hds⟩ := id hsl
  have hfit : sizeOk (.seq (us.take b).toArray) := by
    show (us.take b).toArray.size ≤ sizeLine
    rw [List.size_toArray, List.length_take]
    rw [List.size_toArray] at hz
    lia
  unfold getItem
  try with_reducible refine wpAny_holding ?_
  first | refine wpAny_bind (wpAny_pure ?_) | skip
  refine wpAny_bind (wpAny_sequenceKey ht'.typeIs (by decide) ?_)
  refine wpAny_bind (wpAny_callSpecial?_slot (name := Str.ofString "__getitem__") ht'.typeIs slot_tuple_getitem (wpAny_call_entry slot_tuple_getitem ht'.typeIs entry_tuple_getitem ?_ (args_tuple_getitem _ _)))
  show wpAny _ _ (Builtin.Tuple.tupleItemsOf (.ref t) >>= _) _ _ _
  refine wpAny_bind (tupleItemsOf_ ht' ?_)
  refine wpAny_bind (wpAny_typeOf (T := "slice") ⟨os, hos, hcs⟩ ?_)
  rw [if_pos (by decide)]
  refine wpAny_bind ?_
  unfold Builtin.Slice.sliceApplied Builtin.Slice.sliceFields
  refine wpAny_bind (wpAny_bind (wpAny_field hos hds (x := .none) rfl (wpAny_bind (wpAny_field hos hds (x := .int b u) rfl (wpAny_bind (wpAny_field hos hds (x := .none) rfl (wpAny_pure ?_)))))))
  refine wpAny_bind (slicePart_none ?_)
  show wpAny _ _ (if ((1 : Int) == 0) = true then _ else _) _ _ _
  rw [if_neg (by decide)]
  refine wpAny_bind (slicePart_none (wpAny_bind (slicePart_int (wpAny_bind (wpAny_pure ?_)))))
  show wpAny _ _ (match Builtin.Slice.sliceAdjust none (some (b : Int)) 1 ((us.toArray.size : Nat) : Int) with | (lo, hi) => pure (lo, (1 : Int), Builtin.Slice.slicePlaces lo hi 1)) _ _ _
  rw [upto_adjust b us.toArray.size (Nat.le_of_lt hb)]
  show wpAny _ _ (pure ((0 : Int), (1 : Int), Builtin.Slice.slicePlaces 0 (b : Int) 1)) _ _ _
  rw [upto_places]
  refine wpAny_pure ?_
  have hno : ¬ (((0 : Int) == 0 && (1 : Int) == 1 && b == us.toArray.size) = true) := by
    rw [Bool.and_eq_true]
    rintro ⟨_, q⟩
    exact Nat.ne_of_lt hb (by simpa using q)
  show wpAny _ _ (if ((0 : Int) == 0 && (1 : Int) == 1 && b == us.toArray.size) = true then _ else _) _ _ _
  rw [if_neg hno, upto_pick us b (by simpa using Nat.le_of_lt hb)]
  first
    | exact wpAny_bind (m := Builtin.Tuple.tupleExact _) (wpAny_newObj_type (wpAny_pure ⟨_, rfl, wpAny_pure fin2⟩) hfit)
    | exact wpAny_bind (m := Builtin.Tuple.tupleExact _) (wpAny_newObj_type (wpAny_bind (wpAny_pure (wpAny_pure ⟨_, rfl, wpAny_pure fin2⟩))) hfit)
    | exact wpAny_bind (wpAny_bind (m := Builtin.Tuple.tupleExact _) (wpAny_newObj_type (wpAny_pure (wpAny_pure ⟨_, rfl, wpAny_pure fin2⟩)) hfit))
    | exact wpAny_bind (wpAny_bind (m := Builtin.Tuple.tupleExact _) (wpAny_newObj_type (wpAny_pure ⟨_, rfl, wpAny_pure fin2⟩) hfit))

/-- a list's slice upward, whatever holds the list -/
theorem slc_list {lo hi : AV} {vl vh : Value} {value : Expr} {el eu : Option Expr} {pos : Pos} {Q : Value → Shared → Prop} {k : Addr} {xs rr : List AV} {us : List Value} {i : Int} {m : Str → Option Value} {os : List Obj} (R : RelAt w.params fi fc ρ st s.heap m os)
    (hl : s.heap.IsList k us.toArray) (hv : All2 (RepV ρ st.n) xs us) (hlo : lowB lo = some i) (hcut : cut i xs hi = some rr) (o1 : okB lo) (o2 : okB hi) (hz : xs.length < 2 ^ 20) (rl : RepV ρ st.n lo vl) (rh : RepV ρ st.n hi vh)
    (H : Pst w.params fi fc ρ st { st with sg := st.sg.set st.n (.list none rr), n := st.n + 1 } s (fun ρ' v => RepV ρ' (st.n + 1) (.ref st.n) v) Q) :
    wpAny (model prog w) fc.A (subscriptTail value (.Slice el eu none pos) (.ref k) (.ref s.heap.objs.size)) Q NoE { s with heap := s.heap.push { cls := .type "slice", data := .fields #[vl, vh, .none] } } := by
  have hgo : ∀ l r, letTemporaryGo (.Name (Str.ofString "x") default) (.ref l) r = pure () := fun _ _ => rfl
  have hlen : xs.length = us.length := hv.length
  obtain ⟨a0, b0, hb, hr⟩ := bounds_cut hlo hcut o1 o2
  have hpick : slicePick us.toArray (partO lo) (partO hi) none = ((us.drop a0).take (b0 - a0)).toArray := by
    rw [kmk_pick_nat (a := a0) (b := b0) us.toArray (by simpa [← hlen] using hb)]
  refine kba_turn (value' := .Name (Str.ofString "x") default) (hgo _) (slice_list R.F R.N hl (part_of o1 rl) (part_of o2 rh) (fun h' F' N' => ?_) rfl (hgo _) (by simp only [List.size_toArray]; rw [sizeL]; lia))
  rw [hpick] at N'
  obtain ⟨R', X'⟩ := R.push (ao := .list none rr) F' N' (fun q hq => Nat.lt_succ_of_lt (Heap.lt_size (R.N q hq).1)) ⟨_, 0, rfl, by
    show All2 _ rr _
    rw [← hr]
    exact ((hv.drop a0).take (b0 - a0)).mono fun _ _ _ q => q.ext ⟨Nat.le_succ _, fun i hi => by simp [Nat.ne_of_lt hi]⟩⟩
  exact H _ h' s.toks _ X' ⟨_, _, R'⟩ ⟨Nat.lt_succ_self _, by simp⟩
theorem slc_sound {a lo hi sp c : AV} {va vl vh vs : Value} {value : Expr} {el eu es : Option Expr} {pos : Pos} {P : List Prop} {Q : Value → Shared → Prop} (h : slc a lo hi sp st = some (c, st', P)) (hP : Ps P) (r : Rel w.params fi fc ρ st s.heap)
    (ra : RepV ρ st.n a va) (rl : RepV ρ st.n lo vl) (rh : RepV ρ st.n hi vh) (rs : RepV ρ st.n sp vs) (hes : es = none → sp = .none) (hes2 : sp = .none → es = none)
    (H : Pst w.params fi fc ρ st st' s (fun ρ' v => RepV ρ' st'.n c v) Q) :
    wpAny (model prog w) fc.A (subscriptTail value (.Slice el eu es pos) va (.ref s.heap.objs.size)) Q NoE { s with heap := s.heap.push { cls := .type "slice", data := .fields #[vl, vh, vs] } } := by
  have hgo : ∀ l r, letTemporaryGo (.Name (Str.ofString "x") default) (.ref l) r = pure () := fun _ _ => rfl
  have lt1 : ∀ {m os}, RelAt w.params fi fc ρ st s.heap m os → ∀ q ∈ ledF st.sg ρ 0 os ++ fc.rest, q.1 < s.heap.objs.size + 1 := fun R q hq => Nat.lt_succ_of_lt (Heap.lt_size (R.N q hq).1)
  have X : Ext ρ st.n (fun i => if i = st.n then s.heap.objs.size + 1 else ρ i) (st.n + 1) := ⟨Nat.le_succ _, fun i hi => by simp [Nat.ne_of_lt hi]⟩
  unfold slc at h
  cases ea : asStr a with
  | some q =>
    rw [ea] at h
    refine okOr_el h fun hsp y1 => opt_el y1 fun i hlo y2 => opt_el y2 fun rr hcut y3 => ?_
    obtain ⟨rfl, rfl, rfl⟩ := some3 y3
    rw [isNn_eq hsp] at rs
    obtain rfl := rs
    obtain rfl : es = none := hes2 (isNn_eq hsp)
    obtain ⟨q1, q2⟩ := Ps.append hP
    obtain ⟨q2, q3⟩ := Ps.append q2
    have o1 := hyc q1 okBB_iff
    have o2 := hyc q2 okBB_iff
    have hz := hyc q3 fun hc => by have := short_le (andB_iff hc).2; rw [sizeL]; lia
    obtain ⟨t, rfl⟩ := asStr_rep (p := q.1) (x := q.2) ea ra
    obtain ⟨m, os, R⟩ := id r
    have e := txt_slice hlo hcut o1 o2
    have fin : ∀ (h' : Heap) (t' : Tok) (k : Nat), Fr fc.h₀ fc.env.locals h' m → News fc.h₀ fc.env.locals h' (ledF st.sg ρ 0 os ++ fc.rest) → Q (.str (Txt.slice (stn q.2) (partO lo) (partO hi)) t') { s with heap := h', toks := k } := fun h' t' k F' N' => by
      rw [e]
      exact H ρ h' k _ Ext.refl ⟨m, os, R.heap F' N'⟩ (mkS_rep _ _ _)
    have hz' : (stn q.2).length ≤ sizeLine := by rw [stn_len]; exact hz
    have hv : ∀ r, letTemporaryGo value (.str (stn q.2) t) r = pure () := fun r => by cases value <;> rfl
    have p1 := part_of o1 rl
    have p2 := part_of o2 rh
    revert fin
    generalize partO lo = x at p1
    generalize partO hi = y at p2
    intro fin
    cases p1 <;> cases p2
    · exact slice_strN_nn R.F R.N fin rfl hv hz'
    · exact slice_strN_ns R.F R.N fin rfl hv hz'
    · exact slice_strN_sn R.F R.N fin rfl hv hz'
    · exact slice_strN_ss R.F R.N fin rfl hv hz'
  | none =>
    rw [ea] at h
    refine opt_el h fun k ek y0 => ?_
    rw [asRef_eq ek] at ra
    obtain ⟨_, rfl⟩ := ra
    cases e0 : listN (st.sg.get k) with
    | some xs =>
      rw [e0] at y0
      have e1 := listN_eq e0
      obtain ⟨m, os, us, k1, R, ho, hv, hm, hl, hlt⟩ := list_get r e1
      have hv : All2 (RepV ρ st.n) xs us := hv
      cases hsp : isNn sp with
      | true =>
        rw [hsp] at y0
        refine opt_el y0 fun i hlo y1 => opt_el y1 fun rr hcut y2 => bnd_el y2 hP fun _ _ _ _ h1 h2 hP1 hP2 => ?_
        obtain ⟨_, rfl, rfl⟩ := some3 h1
        obtain ⟨rfl, rfl, _⟩ := ret_some h2
        rw [isNn_eq hsp] at rs
        obtain rfl := rs
        obtain rfl : es = none := hes2 (isNn_eq hsp)
        obtain ⟨q1, q2⟩ := Ps.append hP1
        obtain ⟨q2, q3⟩ := Ps.append q2
        exact slc_list R hl hv hlo hcut (hyc q1 okBB_iff) (hyc q2 okBB_iff) (hyc q3 fun hc => by have := short_le hc; lia) rl rh H
      | false =>
        rw [hsp] at y0
        refine okOr_el y0 fun hm1 y1 => okOr_el y1 fun hn1 y2 => okOr_el y2 fun hn2 y3 => bnd_el y3 hP fun _ _ _ _ h1 h2 hP1 hP2 => ?_
        obtain ⟨_, rfl, rfl⟩ := hypc_some h1
        obtain ⟨rfl, rfl, _⟩ := ret_some h2
        rw [isM1_eq hm1] at rs hes
        obtain ⟨u, rfl⟩ := rs
        have hne : es ≠ none := fun q => nomatch hes q
        obtain ⟨e0, rfl⟩ := Option.ne_none_iff_exists'.mp hne
        rw [isNn_eq hn1] at rl
        rw [isNn_eq hn2] at rh
        obtain rfl := rl
        obtain rfl := rh
        have hlen : xs.length = us.length := hv.length
        have hz : xs.length < 2 ^ 20 := hyc hP1 fun hc => by have := short_le hc; lia
        refine kba_turn (value' := .Name (Str.ofString "x") default) (hgo _) (slice_list3 (ops := [.ref (ρ k), .ref s.heap.objs.size]) R.F R.N hl .none .none (.int (-1) u) (by intro q; cases q) (fun h' F' N' => ?_) rfl (hgo _) (by simp only [List.size_toArray]; rw [sizeL]; lia))
        have hpick : slicePick us.toArray none none (some (-1)) = us.reverse.toArray := by
          unfold slicePick
          rw [List.size_toArray, bounds_rev, rng_rev]
          have := pick_rev us
          simpa using this
        rw [hpick] at N'
        obtain ⟨R', X'⟩ := R.push (ao := .list none xs.reverse) F' N' (lt1 R) ⟨_, 0, rfl, (All2.reverse hv).mono fun _ _ _ q => q.ext X⟩
        exact H _ h' s.toks _ X' ⟨_, _, R'⟩ ⟨Nat.lt_succ_self _, by simp⟩
    | none =>
      rw [e0] at y0
      refine opt_el y0 fun xs e1 y1 => okOr_el y1 fun hsp y2 => okOr_el y2 fun hn1 y3 => opt_el y3 fun j hj y4 => okOr_el y4 fun hc y5 => ?_
      obtain ⟨rfl, rfl, _⟩ := ret_some y5
      rw [isNn_eq hsp] at rs
      rw [isNn_eq hn1] at rl
      rw [asPos_eq hj] at rh
      obtain rfl : es = none := hes2 (isNn_eq hsp)
      obtain rfl := rs
      obtain rfl := rl
      obtain ⟨u, rfl⟩ := rh
      obtain ⟨m, os, us, R, hv, ht, hlt⟩ := tup_get r (asTup_eq e1)
      have hlen := hv.length
      have hj := Nat.blt_eq.mp (andB_iff hc).1
      have hs := short_le (andB_iff hc).2
      refine kba_turn (value' := .Name (Str.ofString "x") default) (hgo _) (slice_tuple_upto (value := .Name (Str.ofString "x") default) (slice := .Slice none eu none pos) R.F R.N ht (Nat.succ_le_succ (Nat.zero_le j)) (by simp only [List.size_toArray]; lia) (fun h' F' N' => ?_) rfl (hgo _) (by simp only [List.size_toArray]; rw [sizeL]; lia))
      obtain ⟨R', X'⟩ := R.push (ao := .tup (xs.take (j + 1))) F' N' (lt1 R) ⟨_, 0, rfl, (hv.take (j + 1)).mono fun _ _ _ q => q.ext X⟩
      exact H _ h' s.toks _ X' ⟨_, _, R'⟩ ⟨Nat.lt_succ_self _, by simp⟩
theorem slcS_sound (O : FrOk K p loose mean mg mb fi fc) {a lo hi sp c : AV} {va vl vh vs : Value} {value : Expr} {el eu es : Option Expr} {pos : Pos} {P : List Prop} {Q : Value → Shared → Prop} (h : slcS fi a lo hi sp st = some (c, st', P)) (hP : Ps P) (r : Rel w.params fi fc ρ st s.heap)
    (ra : RepV ρ st.n a va) (rl : RepV ρ st.n lo vl) (rh : RepV ρ st.n hi vh) (rs : RepV ρ st.n sp vs) (hes : es = none → sp = .none) (hes2 : sp = .none → es = none)
    (H : Pst w.params fi fc ρ st st' s (fun ρ' v => RepV ρ' st'.n c v) Q) :
    wpAny (model prog w) fc.A (subscriptTail value (.Slice el eu es pos) va (.ref s.heap.objs.size)) Q NoE { s with heap := s.heap.push { cls := .type "slice", data := .fields #[vl, vh, vs] } } := by
  unfold slcS at h
  cases ea : asCon a with
  | none =>
    rw [ea] at h
    exact slc_sound h hP r ra rl rh rs hes hes2 H
  | some k =>
    rw [ea] at h
    refine opt_el h fun b hb y1 => okOr_el y1 fun hsp y2 => opt_el y2 fun i hlo y3 => opt_el y3 fun rr hcut y4 => bnd_el y4 hP fun _ _ _ _ h1 h2 hP1 hP2 => ?_
    obtain ⟨_, rfl, rfl⟩ := some3 h1
    obtain ⟨rfl, rfl, _⟩ := ret_some h2
    obtain ⟨q0, hP1⟩ := hP1
    obtain ⟨q1, q2⟩ := Ps.append hP1
    obtain ⟨q2, q3⟩ := Ps.append q2
    rw [isNn_eq hsp] at rs
    obtain rfl := rs
    obtain rfl : es = none := hes2 (isNn_eq hsp)
    rw [asCon_eq ea, q0] at ra
    obtain ⟨rfl, _⟩ := ra
    obtain ⟨us, hl0, hv0⟩ := O.scr b.1 b.2 hb
    obtain ⟨m, os, R⟩ := r
    obtain ⟨o, ho, h1, h2⟩ := hl0
    exact slc_list R ⟨o, R.F.keep _ _ ho, h1, h2⟩ (hv0 ρ st.n) hlo hcut (hyc q1 okBB_iff) (hyc q2 okBB_iff) q3.1 rl rh H
end
end Mine
namespace Mine
open PySem PySem.W PyProof.Rows PySem.Calls PySem.Spec

noncomputable def Room2 (D n : Nat) (A : Around) : Prop := A.depth + 2 * n ≤ D ∧ A.units + 10 * n ≤ 10 * D
theorem Room2.step {D n : Nat} {A : Around} (h : Room2 D (n + 1) A) : Room2 D n A := ⟨by have := h.1; lia, by have := h.2; lia⟩

structure FnRec (K : Frag) (f : Addr) (g : FnI) : Prop where
  ex : ∃ oc od name qual params dV kV doc pm an cdv ct osl, K.lookup f = some ⟨oc, od, .func (fnOf name qual params g.body g.sc dV kV doc pm an cdv ct), osl⟩ ∧ codeIn K cdv qual = true ∧
    ∀ vs : List Value, vs.length = g.ps.length → bindArgs (fnOf name qual params g.body g.sc dV kV doc pm an cdv ct) ⟨vs, []⟩ = pure ((g.ps.map stn).zip vs)
  loc : ∀ x ∈ g.ps, g.sc.names.lookup (stn x) = some .local
  nd : g.ps.Nodup
  co : g.sc.isCoroutine = false
  gen : g.sc.isGenerator = false
  kind : g.sc.kind = .function
  cell : ∀ x ∈ g.sc.names, x.2 ≠ .cell

noncomputable def RepF (ρ : Nat → Addr) (n : Nat) : AFl → Flow → Prop
  | .next, f => f = .next
  | .brk, f => f = .brk
  | .cont, f => f = .cont
  | .ret a, f => ∃ v, f = .ret v ∧ RepV ρ n a v

section
variable (prog : Program) (w : World) (K : Frag) (p : Program) (loose : List Str) (mean : ExcName → Option Value) (mg mb : Str → Option Value) (T : PT) (D : Nat)

noncomputable def SndExt : Prop := ∀ a k, T.ext a = some k → ∀ fi fc vs st b st' P, k vs st = some (b, st', P) → Ps P → FrOk K p loose mean mg mb fi fc → fi.own = true → Room2 D 0 fc.A →
  ∀ ρ s cvs Q, Rel w.params fi fc ρ st s.heap → All2 (RepV ρ st.n) vs cvs → Pst w.params fi fc ρ st st' s (fun ρ' v => RepV ρ' st'.n b v) Q → wpAny (model prog w) fc.A (call (.ref a) cvs) Q NoE s
structure PTOk3 : Prop extends PTOk2 K T where
  fns : ∀ f g, lookN f T.fns = some g → FnRec K f g
  ext : SndExt prog w K p loose mean mg mb T D
  big : D ≤ 900

structure Snd (n : Nat) (I : Evs) : Prop where
  e : ∀ fi fc x st a st' P, I.e fi x st = some (a, st', P) → Ps P → FrOk K p loose mean mg mb fi fc → Room2 D n fc.A → ∀ ρ s Q, Rel w.params fi fc ρ st s.heap →
    Pst w.params fi fc ρ st st' s (fun ρ' v => RepV ρ' st'.n a v) Q → wpAny (model prog w) fc.A (eval x fc.env) Q NoE s
  es : ∀ fi fc xs st a st' P, I.es fi xs st = some (a, st', P) → Ps P → FrOk K p loose mean mg mb fi fc → Room2 D n fc.A → ∀ ρ s Q pos, Rel w.params fi fc ρ st s.heap →
    Pst w.params fi fc ρ st st' s (fun ρ' v => All2 (RepV ρ' st'.n) a v) Q → wpAny (model prog w) fc.A (spliced (backTo pos (starEach xs fc.env))) Q NoE s
  b : ∀ fi fc x st a st' P, I.b fi x st = some (a, st', P) → Ps P → FrOk K p loose mean mg mb fi fc → Room2 D n fc.A → ∀ ρ s Q, Rel w.params fi fc ρ st s.heap →
    Pst w.params fi fc ρ st st' s (fun _ v => v = a) Q → wpAny (model prog w) fc.A (isTrue x fc.env (eval x fc.env)) Q NoE s
  s : ∀ fi fc x st a st' P, I.s fi x st = some (a, st', P) → Ps P → FrOk K p loose mean mg mb fi fc → Room2 D n fc.A → ∀ ρ s Q, Rel w.params fi fc ρ st s.heap →
    Pst w.params fi fc ρ st st' s (fun ρ' v => RepF ρ' st'.n a v) Q → wpAny (model prog w) fc.A (exec x fc.env) Q NoE s
  ss : ∀ fi fc xs st a st' P, I.ss fi xs st = some (a, st', P) → Ps P → FrOk K p loose mean mg mb fi fc → Room2 D n fc.A → ∀ ρ s Q, Rel w.params fi fc ρ st s.heap →
    Pst w.params fi fc ρ st st' s (fun ρ' v => RepF ρ' st'.n a v) Q → wpAny (model prog w) fc.A (execs xs fc.env) Q NoE s
  call : ∀ fi fc own f vs st a st' P, I.call own f vs st = some (a, st', P) → Ps P → FrOk K p loose mean mg mb fi fc → (own = true → fi.own = true) → Room2 D n fc.A → ∀ ρ s cvs Q, Rel w.params fi fc ρ st s.heap → All2 (RepV ρ st.n) vs cvs →
    Pst w.params fi fc ρ st st' s (fun ρ' v => RepV ρ' st'.n a v) Q → wpAny (model prog w) fc.A (call f.val cvs) Q NoE s
  asg : ∀ fi fc t a st st' P, I.asg fi t a st = some ((), st', P) → Ps P → FrOk K p loose mean mg mb fi fc → Room2 D n fc.A → ∀ ρ s v Q, Rel w.params fi fc ρ st s.heap → RepV ρ st.n a v →
    Pst w.params fi fc ρ st st' s (fun _ _ => True) Q → wpAny (model prog w) fc.A (assign t fc.env v) Q NoE s
  asgs : ∀ fi fc ts as st st' P, I.asgs fi ts as st = some ((), st', P) → Ps P → FrOk K p loose mean mg mb fi fc → Room2 D n fc.A → ∀ ρ s vs Q, Rel w.params fi fc ρ st s.heap → All2 (RepV ρ st.n) as vs →
    Pst w.params fi fc ρ st st' s (fun _ _ => True) Q → wpAny (model prog w) fc.A (assignInOrder (ts.map fun t => assign t fc.env) vs) Q NoE s
  wh : ∀ fi fc t b st a st' P, I.wh fi t b st = some (a, st', P) → Ps P → FrOk K p loose mean mg mb fi fc → Room2 D n fc.A → ∀ ρ s Q k, Rel w.params fi fc ρ st s.heap →
    Pst w.params fi fc ρ st st' s (fun ρ' v => RepF ρ' st'.n a v) Q → WhlRest prog w fc.A NoE fc.env t b [] Q k s
  fr : ∀ fi fc t k b st a st' P, I.fr fi t k b st = some (a, st', P) → Ps P → FrOk K p loose mean mg mb fi fc → Room2 D n fc.A → ∀ ρ s Q, Rel w.params fi fc ρ st s.heap →
    Pst w.params fi fc ρ st st' s (fun ρ' v => RepF ρ' st'.n a v) Q → codeAny (model prog w) fc.A (.forLoop t (.ref (ρ k)) b [] fc.env) (fun r s' => match r with | .ok f => Q f s' | .error _ => False) s
  ts : ∀ fi fc xs st a st' P, I.ts fi xs st = some (a, st', P) → Ps P → FrOk K p loose mean mg mb fi fc → Room2 D n fc.A → ∀ ρ s Q, Rel w.params fi fc ρ st s.heap →
    Pst w.params fi fc ρ st st' s (fun _ v => v = a) Q → wpAny (model prog w) fc.A (forIn xs true fun c r => if r = true then do let ok ← isTrue c fc.env (eval c fc.env); pure (ForInStep.yield ok) else pure (ForInStep.yield r)) Q NoE s
  cp : ∀ fi fc t elt ifs k j st st' P, I.cp fi t elt ifs k j st = some ((), st', P) → Ps P → FrOk K p loose mean mg mb fi fc → Room2 D n fc.A → ∀ ρ s Q iter sc pos, Rel w.params fi fc ρ st s.heap → j < st.n →
    Pst w.params fi fc ρ st st' s (fun _ _ => True) Q → codeAny (model prog w) fc.A (.compLoop (.ListComp elt [⟨t, iter, ifs, 0⟩] sc pos) 0 (.ref (ρ k)) (.ref (ρ j)) fc.env) (fun r s' => match r with | .ok _ => Q () s' | .error _ => False) s
end

section
variable {prog : Program} {w : World} {K : Frag} {p : Program} {loose : List Str} {mean : ExcName → Option Value} {mg mb : Str → Option Value} {T : PT} {D n : Nat} {I : Evs} {fi : FI} {fc : FC} {ρ : Nat → Addr} {st st' : St} {s : Shared}

theorem passesNo (M : Model) (A : Around) (env : Env) : PassesOwn M A env NoE := fun _ _ h => h.elim
theorem truthy_bool {A : Around} {v : Value} {c : Bool} {m : Nat} {Q : Bool → Shared → Prop} (r : RepV ρ m (.bool c) v) (h : Q c s) : wpAny (model prog w) A (truthy v) Q NoE s := by
  obtain rfl := r
  exact wpAny_truthy_bool h
theorem FrOk.In (O : FrOk K p loose mean mg mb fi fc) (r : Rel w.params fi fc ρ st s.heap) : K.In s.heap := by
  obtain ⟨m, os, R⟩ := r
  exact O.X.keeps R.F.keep

/-- a table's or a class's thing is called: who keeps what -/
theorem keeper_of {M : Model} {f : Fn} (hf : FnOk K f) (h : Heap) (X : K.In h) : ∃ k, (k = Keeper.frame ∨ k = Keeper.machine ∨ k = Keeper.boundFrame) ∧ Looks M h (keeperOf f.val) k := by
  cases f with
  | fn a => exact keeps_K hf h X
  | bi b => exact ⟨.machine, .inr (.inl rfl), by cases b <;> exact Looks.of_pure rfl⟩
theorem starEach_cons {e : Expr} {r : List Expr} {env : Env} (h : noStar e = true) : starEach (e :: r) env = (false, eval e env) :: starEach r env := by
  cases e <;> first | rfl | cases h
theorem starEach_no : ∀ {xs : List Expr} {env : Env} {pos : Pos}, xs.all noStar = true → ((backTo pos (starEach xs env)).any fun x => x.1) = false
  | [], _, _, _ => rfl
  | e :: r, env, pos, h => by
    simp only [List.all_cons, Bool.and_eq_true] at h
    rw [starEach_cons h.1]
    show (false || (backTo pos (starEach r env)).any fun x => x.1) = false
    rw [Bool.false_or]; exact starEach_no h.2
set_option tactic.hygienic true in
/-- a call with plain arguments -/
theorem callWith_sound (S : Snd prog w K p loose mean mg mb D n I) {f : Fn} {first : List Value} {args : List Expr} {vs : List AV} {st1 : St} {P1 : List Prop} {pos : Pos} {Q : Value → Shared → Prop} (O : FrOk K p loose mean mg mb fi fc) (B : Room2 D n fc.A)
    (r : Rel w.params fi fc ρ st s.heap) (hf : FnOk K f) (h : argsE I fi args st = some (vs, st1, P1)) (hP : Ps P1)
    (H : Pst w.params fi fc ρ st st1 s (fun ρ' cvs => All2 (RepV ρ' st1.n) vs cvs) fun cvs s₁ => wpAny (model prog w) fc.A (call f.val (first ++ cvs)) Q NoE s₁) :
    wpAny (model prog w) fc.A (callWith pos f.val first (backTo pos (starEach args fc.env)) []) Q NoE s := by
  induction args with
  | nil =>
    first | (obtain ⟨rfl, rfl, rfl⟩ := ret_some h) | cases h
    have z := H.of (h' := s.heap) (tk := s.toks) (v := []) rfl r trivial
    exact callWith_of (P := K.In) rfl (keeper_of hf) (evalArgs_nil3 ⟨O.In r, z⟩)
  | cons e r' =>
    have h : (match (e :: r').all noStar with | true => I.es fi (e :: r') st | false => none) = some (vs, st1, P1) := h
    split at h
    · rename_i hns
      refine callWith_of (P := K.In) (by rw [starEach_no hns]; rfl) (keeper_of hf) ?_
      have h1 := S.es _ _ _ _ _ _ _ h hP O B ρ s (fun cvs s₁ => K.In s₁.heap ∧ wpAny (model prog w) fc.A (call f.val (first ++ cvs)) Q NoE s₁) pos r
        (fun ρ' h' tk cvs X r1 q => ⟨O.In (s := { s with heap := h', toks := tk }) r1, H ρ' h' tk cvs X r1 q⟩)
      simp only [List.all_cons, Bool.and_eq_true] at hns
      rw [starEach_cons hns.1] at h1 ⊢
      exact evalArgs_plain h1
    · first | exact nn h | cases h
theorem subscripted_plain {i : Expr} (h : ∀ l u s p, i ≠ .Slice l u s p) (o k : Value) : subscripted i false o k = operate [o, k] (getItem o k) := by
  cases i <;> first | rfl | exact absurd rfl (h _ _ _ _)
theorem baseOf {o : Expr} {x : Str} {env : Env} {t : Sem Value} (h : plainO o = true) : attributeBase o x env t = t := by
  induction o using PySem.Expr.casesOn with
  | Name | Attribute | Subscript | Constant => rfl
  | Call f args kw p =>
    induction f using PySem.Expr.casesOn with
    | Name => induction args with
      | nil => exact Bool.noConfusion h
      | cons => rfl
    | Attribute => rfl
    | _ => exact Bool.noConfusion h
  | _ => exact Bool.noConfusion h
theorem optE_sound (S : Snd prog w K p loose mean mg mb D n I) {x : Option Expr} {a : AV} {P : List Prop} (h : optE I fi x st = some (a, st', P)) (hP : Ps P) (O : FrOk K p loose mean mg mb fi fc) (B : Room2 D n fc.A) {Q : Value → Shared → Prop}
    (r : Rel w.params fi fc ρ st s.heap) (H : Pst w.params fi fc ρ st st' s (fun ρ' v => RepV ρ' st'.n a v) Q) : wpAny (model prog w) fc.A (evalPart x fc.env) Q NoE s := by
  induction x with
  | none => cases h; exact wpAny_pure (r.pst (tk := s.toks) H rfl)
  | some e => exact S.e _ _ _ _ _ _ _ h hP O B ρ s Q r H
theorem optE_none {x : Option Expr} {a : AV} {P : List Prop} (h : optE I fi x st = some (a, st', P)) : x = none → a = .none := by
  rintro rfl; cases h; rfl

theorem all_star : ∀ {xs : List Expr} {env : Env} {pos : Pos}, xs.all noStar = true → ((backTo pos (starEach xs env)).all fun x => !x.1) = true
  | [], _, _, _ => rfl
  | e :: r, env, pos, h => by
    simp only [List.all_cons, Bool.and_eq_true] at h
    rw [starEach_cons h.1]
    show (!false && (backTo pos (starEach r env)).all fun x => !x.1) = true
    rw [all_star h.2]; rfl
theorem few_of {args : List Expr} {vs : List AV} {st1 : St} {P1 : List Prop} {pos : Pos} {env : Env} (h : argsE I fi args st = some (vs, st1, P1)) (hl : args.length ≤ 20) : methodCallForm (args.length + 0) (backTo pos (starEach args env)) [] = true := by
  have hns : args.all noStar = true := by
    induction args with
    | nil => rfl
    | cons e r' =>
      have h : (match (e :: r').all noStar with | true => I.es fi (e :: r') st | false => none) = some (vs, st1, P1) := h
      split at h
      · assumption
      · first | exact nn h | cases h
  unfold methodCallForm
  rw [all_star hns]
  simp
  lia
theorem methodCall_eq {o : Expr} {name : Str} {apos pos : Pos} {env : Env} {args : List Expr} (hpo : plainO o = true) (hpos : Nat.beq apos.endLine pos.line = true) (few : methodCallForm (args.length + 0) (backTo pos (starEach args env)) [] = true) :
    eval (.Call (.Attribute o name apos) args [] pos) env = (do
      let ov ← eval o env
      standAt apos.atName
      let (f, first) ← holding [ov] (getMethod ov name (do return (← importBound o env).getD true))
      callWith pos f first (backTo pos (starEach args env)) []) := by
  rw [arm_eval_Call, baseOf hpo]
  unfold methodCall
  have e1 : methodCallForm (args.length + ([] : List Keyword).length) (backTo pos (starEach args env)) (backToKw pos (keywordEach [] env)) = true := few
  have e2 : (apos.endLine == pos.line) = true := by
    have := Nat.eq_of_beq_eq_true hpos
    simpa using this
  rw [e1]
  simp only [calleeOf, methodCallPos, e2, if_true, Bool.not_true, Bool.false_or]
  rfl
theorem Snd.je (S : Snd prog w K p loose mean mg mb D n I) (O : FrOk K p loose mean mg mb fi fc) (B : Room2 D n fc.A) {L : List AV} {V : List Value} (x : Expr) : J w fi fc L V (I.e fi x) RepV (fun Q s => wpAny (model prog w) fc.A (eval x fc.env) Q NoE s) :=
  fun _ _ _ _ h hP ρ s Q r _ H => S.e _ _ _ _ _ _ _ h hP O B ρ s Q r H
theorem Snd.jb (S : Snd prog w K p loose mean mg mb D n I) (O : FrOk K p loose mean mg mb fi fc) (B : Room2 D n fc.A) {L : List AV} {V : List Value} (x : Expr) : J w fi fc L V (I.b fi x) rB (fun Q s => wpAny (model prog w) fc.A (isTrue x fc.env (eval x fc.env)) Q NoE s) :=
  fun _ _ _ _ h hP ρ s Q r _ H => S.b _ _ _ _ _ _ _ h hP O B ρ s Q r H
theorem Snd.jes (S : Snd prog w K p loose mean mg mb D n I) (O : FrOk K p loose mean mg mb fi fc) (B : Room2 D n fc.A) {L : List AV} {V : List Value} (x : List Expr) (pos : Pos) : J w fi fc L V (I.es fi x) rL (fun Q s => wpAny (model prog w) fc.A (spliced (backTo pos (starEach x fc.env))) Q NoE s) :=
  fun _ _ _ _ h hP ρ s Q r _ H => S.es _ _ _ _ _ _ _ h hP O B ρ s Q pos r H
theorem unitsB (ok : PTOk3 prog w K p loose mean mg mb T D) (B : Room2 D (n + 1) fc.A) : fc.A.units + 64 < cLine := by have := B.2; have := ok.big; show _ < 9900; lia
theorem cmpJ (ok : PTOk3 prog w K p loose mean mg mb T D) (O : FrOk K p loose mean mg mb fi fc) (B : Room2 D (n + 1) fc.A) {op : CmpOp} {a b : AV} {va vb : Value} {L : List AV} {V : List Value} :
    J w fi fc (b :: a :: L) (vb :: va :: V) (cmp T op a b) RepV (fun Q s => wpAny (model prog w) fc.A (compareOp op va vb) Q NoE s) := cmpJ0 ok.toPTOk (fun _ _ _ r => O.In r) (unitsB ok B)
theorem truthyJ {α β : Type} {c : Bool} {v : Value} {L : List AV} {V : List Value} {ev : St → Rr α} {R : (Nat → Addr) → Nat → α → β → Prop} {wp2 : Bool → (β → Shared → Prop) → Shared → Prop} (h : J w fi fc (.bool c :: L) (v :: V) ev R (wp2 c)) :
    J w fi fc (.bool c :: L) (v :: V) ev R (fun Q s => wpAny (model prog w) fc.A (truthy v) (fun c s2 => wp2 c Q s2) NoE s) :=
  fun _ _ _ _ e hP _ _ _ r cc H => truthy_bool cc.1 (h _ _ _ _ e hP _ _ _ r cc H)
theorem listJ {vs : List AV} {cvs : List Value} : J w fi fc vs cvs (fun st => match short 100 vs with | true => alloc (.list none vs) st | false => none) RepV (fun Q s => wpAny (model prog w) fc.A (newList cvs) Q NoE s) :=
  J.only fun hs _ _ _ _ e _ _ _ _ r c H => by
    obtain ⟨rfl, rfl, rfl⟩ := ret_some e
    exact alloc_list r (xs := vs) (pre := none) c (by have := short_le hs; have := c.length; rw [sizeL]; lia) H
theorem tupJ {vs : List AV} {cvs : List Value} : J w fi fc vs cvs (fun st => match short 100 vs with | true => alloc (.tup vs) st | false => none) RepV (fun Q s => wpAny (model prog w) fc.A (newTuple cvs) Q NoE s) :=
  J.only fun hs _ _ _ _ e _ _ _ _ r c H => by
    obtain ⟨rfl, rfl, rfl⟩ := ret_some e
    exact alloc_tup r c (by have := short_le hs; have := c.length; rw [sizeL]; lia) H
theorem dictJ (O : FrOk K p loose mean mg mb fi fc) {pos : Pos} : J w fi fc [] [] (fun st => alloc (.tab []) st) RepV (fun Q s => wpAny (model prog w) fc.A (eval (.Dict [] [] pos) fc.env) Q NoE s) := fun _ _ _ _ e _ _ s _ r _ H => by
  obtain ⟨rfl, rfl, rfl⟩ := ret_some e
  obtain ⟨m, os, R⟩ := r
  refine newDict_K (w := w) R.F R.N O.T.nolimit fun d h' o F' N' lt lo hd _ _ _ => ?_
  obtain ⟨es, ep, ⟨q1, q2, q3⟩, hdat, _, hp, _⟩ := hd
  have he : es = #[] := by
    cases hq : es.toList with
    | nil => exact Array.toList_inj.mp hq
    | cons a b => rw [hq] at hp; cases hp
  have eo : o = dictOf [] ep := by
    obtain ⟨oc, od, odd, osl⟩ := o
    simp only at q1 q2 q3 hdat
    rw [q1, q2, q3, hdat, he]
  obtain ⟨R', X'⟩ := R.push (ao := .tab []) F' N' lt ⟨[], ep, eo, trivial, List.nodup_nil⟩ (fun _ _ => by simpa using lo)
  exact H _ h' s.toks _ X' ⟨_, _, R'⟩ ⟨Nat.lt_succ_self _, by simp⟩
theorem callJ (S : Snd prog w K p loose mean mg mb D n I) (O : FrOk K p loose mean mg mb fi fc) (B : Room2 D n fc.A) {f : Fn} {first : List AV} {cfirst : List Value} {args : List Expr} {pos : Pos} (hf : FnOk K f) :
    J w fi fc first cfirst (fun st => bnd (argsE I fi args st) fun vs st => I.call fi.own f (first ++ vs) st) RepV (fun Q s => wpAny (model prog w) fc.A (callWith pos f.val cfirst (backTo pos (starEach args fc.env)) []) Q NoE s) :=
  fun _ _ _ _ h hP ρ s Q r c H => bnd_el h hP fun vs st1 P1 P2 h1 h2 hP1 hP2 => callWith_sound S O B r hf h1 hP1 fun ρ2 h'' tk2 cvs X2 r2 q2 =>
    S.call _ _ _ _ _ _ _ _ _ h2 hP2 O (fun z => z) B ρ2 _ _ _ r2 ((c.exts X2).append q2) (H.then X2)
theorem isIsin_eq {f : Fn} (h : isIsin f = true) : f = .bi .isin := by
  cases f with
  | fn => cases h
  | bi b => cases b <;> first | rfl | cases h
theorem asNm_eq {z : Expr} {y : Nm} (h : asNm z = some y) : ∃ x p, z = .Name x p ∧ y = nm x := by
  unfold asNm at h
  split at h
  · cases h; exact ⟨_, _, rfl, rfl⟩
  · cases h
theorem isinJ (S : Snd prog w K p loose mean mg mb D n I) (ok : PTOk3 prog w K p loose mean mg mb T D) (O : FrOk K p loose mean mg mb fi fc) (B : Room2 D n fc.A) {x : Str} {xp pos : Pos} {e z : Expr} {y : Nm} (hl : loadF T fi (nm x) = some (.bi .isin)) (hns : noStar e = true) (hz : asNm z = some y) :
    J w fi fc [] [] (fun st => bnd (I.e fi e st) fun a st => opt (loadF T fi y) fun t => isin T a t st) RepV (fun Q s => wpAny (model prog w) fc.A (eval (.Call (.Name x xp) [e, z] [] pos) fc.env) Q NoE s) := fun _ _ _ _ h hP ρ s Q r _ H =>
  bnd_el h hP fun b st1 P1 P2 h1 h2 hP1 hP2 => by
    obtain ⟨y', yp, rfl, rfl⟩ := asNm_eq hz
    refine opt_el h2 fun t ht h2 => ?_
    refine Call_ (loadF_sound ok.toPTOk2 O hl r fun hf => ?_) rfl
    have hst : starEach [e, .Name y' yp] fc.env = [(false, eval e fc.env), (false, eval (.Name y' yp) fc.env)] := by rw [starEach_cons hns]; rfl
    refine callWith_of (P := K.In) (by rw [hst]; rfl) (keeper_of hf) ?_
    rw [hst]
    refine evalArgs_plain (spliced_cons (S.e _ _ _ _ _ _ _ h1 hP1 O B ρ s _ r fun ρ1 h' tk v X r1 q => ?_))
    refine spliced_cons (s := { s with heap := h', toks := tk }) (loadF_sound ok.toPTOk2 O ht r1 fun hf2 => spliced_nil ⟨O.In r1, ?_⟩)
    exact isin_sound (s := { s with heap := h', toks := tk }) ok.toPTOk2 (O.In r1) h2 r1 q (H.then X)
theorem fnCallJ (S : Snd prog w K p loose mean mg mb D n I) (ok : PTOk3 prog w K p loose mean mg mb T D) (O : FrOk K p loose mean mg mb fi fc) (B : Room2 D n fc.A) {x : Str} {xp pos : Pos} {args : List Expr} {f : Fn} (hl : loadF T fi (nm x) = some f) :
    J w fi fc [] [] (fun st => match short 20 args with | true => bnd (argsE I fi args st) fun vs st => I.call fi.own f vs st | false => none) RepV (fun Q s => wpAny (model prog w) fc.A (eval (.Call (.Name x xp) args [] pos) fc.env) Q NoE s) :=
  J.only fun _ _ _ _ _ h hP ρ s Q r c H => Call_ (loadF_sound ok.toPTOk2 O hl r fun hf => callJ S O B hf _ _ _ _ h hP ρ s Q r c H) rfl
theorem methCallJ (S : Snd prog w K p loose mean mg mb D n I) (ok : PTOk3 prog w K p loose mean mg mb T D) (O : FrOk K p loose mean mg mb fi fc) (B : Room2 D n fc.A) {o : Expr} {name : Str} {apos pos : Pos} {args : List Expr} (hpo : plainO o = true) (hpos : Nat.beq apos.endLine pos.line = true) (hsh : short 20 args = true) :
    J w fi fc [] [] (fun st => bnd (I.e fi o st) fun a st => opt (meth T a (nm name) st) fun f => bnd (argsE I fi args st) fun vs st => I.call fi.own f (a :: vs) st) RepV (fun Q s => wpAny (model prog w) fc.A (eval (.Call (.Attribute o name apos) args [] pos) fc.env) Q NoE s) := fun _ _ _ _ h hP ρ s Q r _ H =>
  bnd_el h hP fun b st1 P1 P2 h1 h2 hP1 hP2 => by
    refine opt_el h2 fun f hm h2 => ?_
    refine bnd_el h2 hP2 fun vs st2 P3 P4 h3 h4 hP3 hP4 => ?_
    refine MethodCall_ (pl := do return (← importBound o fc.env).getD true) ?_ (methodCall_eq hpo hpos (few_of h3 (short_le hsh)))
    refine S.e _ _ _ _ _ _ _ h1 hP1 O B ρ s _ r fun ρ1 h' tk v X r1 q => ?_
    refine meth_sound (s := { s with heap := h', toks := tk }) ok.toPTOk2 O hm r1 q fun hf => ?_
    exact callJ (first := [b]) S O B hf _ _ _ _ h2 hP2 ρ1 { s with heap := h', toks := tk } Q r1 ⟨q, trivial⟩ (H.then X)
theorem sliceJ (S : Snd prog w K p loose mean mg mb D n I) (O : FrOk K p loose mean mg mb fi fc) (B : Room2 D n fc.A) {o : Expr} {l u sp : Option Expr} {ps : Pos} {a : AV} {va : Value} :
    J w fi fc [a] [va] (fun st => bnd (optE I fi l st) fun lo st => bnd (optE I fi u st) fun hi st => bnd (optE I fi sp st) fun se st =>
        match sp, se with
        | some _, .none => none
        | _, _ => slcS fi a lo hi se st) RepV (fun Q s => wpAny (model prog w) fc.A (eval (.Slice l u sp ps) fc.env) (fun i s2 => wpAny (model prog w) fc.A (subscriptTail o (.Slice l u sp ps) va i) Q NoE s2) NoE s) := fun _ _ _ _ h2 hP2 ρ1 s Q r1 c H =>
  bnd_el h2 hP2 fun lo st2 P3 P4 h3 h4 hP3 hP4 => bnd_el h4 hP4 fun hi st3 P5 P6 h5 h6 hP5 hP6 => bnd_el h6 hP6 fun se st4 P7 P8 h7 h8 hP7 hP8 => by
    have key : ∀ {z}, (match sp, se with | some _, .none => none | _, _ => slcS fi a lo hi se st4) = some z → slcS fi a lo hi se st4 = some z ∧ (se = .none → sp = none) := by
      intro z h8
      induction sp with
      | none => exact ⟨h8, fun _ => rfl⟩
      | some e' => induction se with
        | none => exact nn h8
        | _ => exact ⟨h8, fun e => nomatch e⟩
    obtain ⟨h8, h9⟩ := key h8
    refine wpAny_Slice (optE_sound S h3 hP3 O B r1 fun ρ2 h2' tk2 v2 X2 r2 q2 => ?_)
    refine optE_sound (s := { s with heap := h2', toks := tk2 }) S h5 hP5 O B r2 fun ρ3 h3' tk3 v3 X3 r3 q3 => ?_
    refine optE_sound (s := { s with heap := h3', toks := tk3 }) S h7 hP7 O B r3 fun ρ4 h4' tk4 v4 X4 r4 q4 => ?_
    exact slcS_sound (s := { s with heap := h4', toks := tk4 }) O h8 hP8 r4 (((c.1.ext X2).ext X3).ext X4) ((q2.ext X3).ext X4) (q3.ext X4) q4 (optE_none h7) h9 (H.then ((X2.trans X3).trans X4))
set_option tactic.hygienic true in
theorem subJ {α β : Type} {L : List AV} {V : List Value} {R : (Nat → Addr) → Nat → α → β → Prop} {i : Expr} {eS : Option Expr → Option Expr → Option Expr → St → Rr α} {eN : St → Rr α} {wp : Expr → (β → Shared → Prop) → Shared → Prop} (hS : ∀ l u sp ps, J w fi fc L V (eS l u sp) R (wp (.Slice l u sp ps))) (hN : (∀ l u s p, i ≠ .Slice l u s p) → J w fi fc L V eN R (wp i)) :
    J w fi fc L V (fun st => match i with | .Slice l u sp _ => eS l u sp st | _ => eN st) R (wp i) := by
  split
  · exact hS _ _ _ _
  · rename_i h; exact hN fun l u sp ps e => h l u sp ps e
theorem nameCallJ (S : Snd prog w K p loose mean mg mb D n I) (ok : PTOk3 prog w K p loose mean mg mb T D) (O : FrOk K p loose mean mg mb fi fc) (B' : Room2 D n fc.A) {x : Str} {xp pos : Pos} {args : List Expr} :
    J w fi fc [] [] (fun st => opt (loadF T fi (nm x)) fun f => match isIsin f with
          | true => match args with
            | [e, z] => match noStar e with
              | true => opt (asNm z) fun y => bnd (I.e fi e st) fun a st => opt (loadF T fi y) fun t => isin T a t st
              | false => none
            | _ => none
          | false => match short 20 args with
            | true => bnd (argsE I fi args st) fun vs st => I.call fi.own f vs st
            | false => none) RepV (fun Q s => wpAny (model prog w) fc.A (eval (.Call (.Name x xp) args [] pos) fc.env) Q NoE s) := by
  refine J.opt fun f hl => ?_
  refine J.bool (fun hi => ?_) fun _ => fnCallJ S ok O B' hl
  induction args using List.casesOn with
  | nil => exact J.none
  | cons e t => induction t using List.casesOn with
    | nil => exact J.none
    | cons z u => induction u using List.casesOn with
      | cons => exact J.none
      | nil => exact J.only fun hns => J.opt fun y hy => isinJ S ok O B' (isIsin_eq hi ▸ hl) hns hy
theorem boolJ {α β : Type} {L : List AV} {V : List Value} {R : (Nat → Addr) → Nat → α → β → Prop} {wp : (β → Shared → Prop) → Shared → Prop} {a : AV} {va : Value} {e1 : Bool → St → Rr α} (h : ∀ c, a = .bool c → J w fi fc (.bool c :: L) (va :: V) (e1 c) R wp) : J w fi fc (a :: L) (va :: V) (fun st => match a with | .bool c => e1 c st | _ => none) R wp := by
  induction a using AV.casesOn with
  | bool c => exact h c rfl
  | _ => exact J.none
/-- an expression's step is sound -/
noncomputable def JE (prog : Program) (w : World) (fi : FI) (fc : FC) (T : PT) (I : Evs) (x : Expr) : Prop := J w fi fc [] [] (stepE T I fi x) RepV (fun Q s => wpAny (model prog w) fc.A (eval x fc.env) Q NoE s)
theorem JE.none {x : Expr} (h : stepE T I fi x = fun _ => Option.none) : JE prog w fi fc T I x := fun st _ _ _ e => by rw [h] at e; exact nn e
theorem stepE_J (S : Snd prog w K p loose mean mg mb D n I) (ok : PTOk3 prog w K p loose mean mg mb T D) (O : FrOk K p loose mean mg mb fi fc) (B : Room2 D (n + 1) fc.A)
    (comp : ∀ elt gens sc pos, JE prog w fi fc T I (.ListComp elt gens sc pos)) (x : Expr) : JE prog w fi fc T I x := by
  have B' := B.step
  induction x using PySem.Expr.casesOn with
  | Constant c k pos => induction c using PySem.Const.casesOn with
    | none => exact J.ret fun _ s _ _ _ k => Constant_none (k _ s.toks rfl)
    | bool b => exact J.ret fun _ s _ _ _ k => Constant_bool (k _ s.toks rfl)
    | int i => exact J.ret fun _ _ _ _ _ k => wpAny_Constant_int (k _ _ ⟨_, rfl⟩)
    | str x => exact J.ret fun _ _ _ _ _ k => Constant_str (k _ _ ⟨_, rfl⟩)
    | _ => exact JE.none rfl
  | Name x xp => exact fun _ _ _ _ h _ _ _ _ r _ H => loadN_sound ok.toPTOk2 O h r H
  | BoolOp op vs pos => induction vs using List.casesOn with
    | nil => exact JE.none rfl
    | cons e t => induction t using List.casesOn with
      | nil => exact J.by (fun _ _ h => BoolOp_one h) (S.je O B' e)
      | cons e' rr => induction op using PySem.BoolOp.casesOn with
        | And =>
          refine J.by (fun _ _ h => BoolOp_and h) ?_
          refine J.bndV (S.je O B' e) fun a va => ?_
          refine boolJ fun c ea => ?_
          induction c using Bool.casesOn with
            | true => exact truthyJ (J.by (fun _ _ h => h) (S.je O B' (.BoolOp .And (e' :: rr) pos)))
            | false => exact truthyJ (J.ret fun _ s _ _ c k => k _ s.toks (ea ▸ c.1))
        | Or =>
          refine J.by (fun _ _ h => BoolOp_or h) ?_
          refine J.bndV (S.je O B' e) fun a va => ?_
          refine boolJ fun c ea => ?_
          induction c using Bool.casesOn with
            | true => exact truthyJ (J.ret fun _ s _ _ c k => k _ s.toks (ea ▸ c.1))
            | false => exact truthyJ (J.by (fun _ _ h => h) (S.je O B' (.BoolOp .Or (e' :: rr) pos)))
  | BinOp l op rr pos =>
    refine J.by (fun _ _ h => wpAny_BinOp h) ?_
    exact J.bndV (S.je O B' l) fun a va => J.bndV (S.je O B' rr) fun b vb => binJ
  | UnaryOp op x pos => induction op using PySem.UnaryOp.casesOn with
    | USub =>
      refine J.by (fun _ _ h => UnaryOp_ h) ?_
      refine J.bndV (S.je O B' x) fun a va => ?_
      refine intJ (wp := fun va Q s => wpAny (model prog w) fc.A (unaryOp .USub va) Q NoE s) fun p t => ?_
      exact J.ret fun _ _ _ _ _ k => neg_int (k _ _ (mkI_rep _ _ _))
    | Not =>
      refine J.by (fun _ _ h => UnaryOp_ h) ?_
      refine J.bndV (S.je O B' x) fun a va => ?_
      exact boolJ fun b _ => J.ret fun _ s _ _ c k => not_of (truthy_bool c.1 (k _ s.toks rfl))
    | _ => exact JE.none rfl
  | IfExp t b o pos =>
    refine J.by (fun _ _ h => IfExp_ h) ?_
    refine J.bndB (S.jb O B' t) ?_ ?_
    · exact J.by (fun _ _ h => h) (S.je O B' b)
    · exact J.by (fun _ _ h => h) (S.je O B' o)
  | Dict ks vs pos => induction ks using List.casesOn with
    | nil => induction vs using List.casesOn with
      | nil => exact dictJ O
      | cons => exact JE.none rfl
    | cons => exact JE.none rfl
  | List es pos =>
    refine J.by (fun _ _ h => List_ h) ?_
    exact J.bndL (S.jes O B' es pos) fun vs cvs => listJ
  | Tuple es k pos =>
    refine J.by (fun _ _ h => Tuple_ h) ?_
    exact J.bndL (S.jes O B' es pos) fun vs cvs => tupJ
  | Compare l ops rs pos => induction ops using List.casesOn with
    | nil => exact JE.none rfl
    | cons op t => induction t using List.casesOn with
      | cons => exact JE.none rfl
      | nil => induction rs using List.casesOn with
        | nil => exact JE.none rfl
        | cons rr u => induction u using List.casesOn with
          | cons => exact JE.none rfl
          | nil =>
            refine J.bool (c := behindInMarks op rr) (fun _ => J.none) fun hm => ?_
            refine J.by (fun _ _ h => wpAny_Compare1 h hm) ?_
            exact J.bndV (S.je O B' l) fun a va => J.bndV (S.je O B' rr) fun b vb => cmpJ ok O B
  | Call f args kws pos => induction kws using List.casesOn with
    | cons => exact JE.none rfl
    | nil => induction f using PySem.Expr.casesOn with
      | Attribute o name apos => exact J.only fun h => methCallJ S ok O B' (andB_iff h).1 (andB_iff (andB_iff h).2).1 (andB_iff (andB_iff h).2).2
      | Name x xp => exact nameCallJ S ok O B'
      | _ => exact JE.none rfl
  | Attribute o x pos =>
    refine J.only fun hpo => ?_
    refine J.by (wp' := fun Q s => wpAny (model prog w) fc.A (eval o fc.env) (fun v s₁ => wpAny (model prog w) fc.A (getAttr v x true) Q NoE s₁) NoE s) (fun _ _ h => Attribute_any_ h ?_) ?_
    · show (do let o' ← attributeBase o x fc.env (eval o fc.env); standAt pos.atName; let r ← holding [o'] (getAttr o' x true); letTemporaryGo o o' r; pure r) = _
      rw [baseOf hpo]
    · exact J.bndV (S.je O B' o) fun a va _ _ _ _ h _ _ _ _ r c H => getA_sound ok.toPTOk2 O h r c.1 H
  | Subscript o i pos =>
    refine J.by (fun _ _ h => Subscript_ h) ?_
    refine J.bndV (S.je O B' o) fun a va => ?_
    refine subJ (wp := fun i Q s => wpAny (model prog w) fc.A (eval i fc.env) (fun v s₁ => wpAny (model prog w) fc.A (subscriptTail o i va v) Q NoE s₁) NoE s) (fun l u sp ps => sliceJ S O B') fun hns => ?_
    exact J.bndV (S.je O B' i) fun k vk _ _ _ _ h hP _ _ _ r c H => getI_sound h hP r c.2.1 c.1 (subscripted_plain hns) H
  | ListComp elt gens sc pos => exact comp _ _ _ _
  | _ => exact JE.none rfl
theorem stepE_sound (S : Snd prog w K p loose mean mg mb D n I) (ok : PTOk3 prog w K p loose mean mg mb T D) {x : Expr} {a : AV} {P : List Prop} (h : stepE T I fi x st = some (a, st', P)) (hP : Ps P) (O : FrOk K p loose mean mg mb fi fc) (B : Room2 D (n + 1) fc.A) {Q : Value → Shared → Prop}
    (comp : ∀ elt gens sc pos, JE prog w fi fc T I (.ListComp elt gens sc pos))
    (r : Rel w.params fi fc ρ st s.heap) (H : Pst w.params fi fc ρ st st' s (fun ρ' v => RepV ρ' st'.n a v) Q) : wpAny (model prog w) fc.A (eval x fc.env) Q NoE s := stepE_J S ok O B comp x _ _ _ _ h hP ρ s Q r trivial H

end
end Mine
namespace Mine
open PySem PySem.W PyProof.Rows PySem.Calls PySem.Spec

section
variable {prog : Program} {w : World} {K : Frag} {p : Program} {loose : List Str} {mean : ExcName → Option Value} {mg mb : Str → Option Value} {T : PT} {D n : Nat} {I : Evs} {fi : FI} {fc : FC} {ρ : Nat → Addr} {st st' : St} {s : Shared}

set_option tactic.hygienic true in
theorem J.bndF {α β : Type} {L : List AV} {V : List Value} {R : (Nat → Addr) → Nat → α → β → Prop} {e1 : St → Rr AFl} {k : AFl → St → Rr α} {wp1 : (Flow → Shared → Prop) → Shared → Prop} {wp2 : Flow → (β → Shared → Prop) → Shared → Prop} (h1 : J w fi fc L V e1 RepF wp1) (hn : J w fi fc L V (k .next) R (wp2 .next))
    (hb : J w fi fc L V (k .brk) R (wp2 .brk)) (hc : J w fi fc L V (k .cont) R (wp2 .cont)) (hr : ∀ a v, J w fi fc (a :: L) (v :: V) (k (.ret a)) R (wp2 (.ret v))) : J w fi fc L V (fun st => Mine.bnd (e1 st) k) R (fun Q s => wp1 (fun v s' => wp2 v Q s') s) :=
  J.bnd h1 fun a v st a' st' P e hP ρ s Q r q c H => by
    induction a using AFl.casesOn with
    | next => obtain rfl := q; exact hn _ _ _ _ e hP _ _ _ r c H
    | brk => obtain rfl := q; exact hb _ _ _ _ e hP _ _ _ r c H
    | cont => obtain rfl := q; exact hc _ _ _ _ e hP _ _ _ r c H
    | ret a => obtain ⟨u, rfl, ru⟩ := q; exact hr a u _ _ _ _ e hP _ _ _ r ⟨ru, c⟩ H
theorem Snd.js (S : Snd prog w K p loose mean mg mb D n I) (O : FrOk K p loose mean mg mb fi fc) (B : Room2 D n fc.A) {L : List AV} {V : List Value} (x : Stmt) : J w fi fc L V (I.s fi x) RepF (fun Q s => wpAny (model prog w) fc.A (exec x fc.env) Q NoE s) :=
  fun _ _ _ _ h hP ρ s Q r _ H => S.s _ _ _ _ _ _ _ h hP O B ρ s Q r H
theorem Snd.jss (S : Snd prog w K p loose mean mg mb D n I) (O : FrOk K p loose mean mg mb fi fc) (B : Room2 D n fc.A) {L : List AV} {V : List Value} (x : List Stmt) : J w fi fc L V (I.ss fi x) RepF (fun Q s => wpAny (model prog w) fc.A (execs x fc.env) Q NoE s) :=
  fun _ _ _ _ h hP ρ s Q r _ H => S.ss _ _ _ _ _ _ _ h hP O B ρ s Q r H
theorem stepEs_sound (S : Snd prog w K p loose mean mg mb D n I) {xs : List Expr} {a : List AV} {P : List Prop} (h : stepEs I fi xs st = some (a, st', P)) (hP : Ps P) (O : FrOk K p loose mean mg mb fi fc) (B : Room2 D (n + 1) fc.A) {Q : List Value → Shared → Prop} {pos : Pos}
    (r : Rel w.params fi fc ρ st s.heap) (H : Pst w.params fi fc ρ st st' s (fun ρ' v => All2 (RepV ρ' st'.n) a v) Q) : wpAny (model prog w) fc.A (spliced (backTo pos (starEach xs fc.env))) Q NoE s := by
  have B' := B.step
  have key : J w fi fc [] [] (stepEs I fi xs) rL (fun Q s => wpAny (model prog w) fc.A (spliced (backTo pos (starEach xs fc.env))) Q NoE s) := by
    clear h H r
    induction xs using List.casesOn with
    | nil => exact J.ret fun _ s _ _ _ k => spliced_nil (k [] s.toks (by exact trivial))
    | cons e rr =>
      refine J.only (c := noStar e) fun hns => ?_
      refine J.by (wp' := fun Q s => wpAny (model prog w) fc.A (eval e fc.env) (fun v s₁ => wpAny (model prog w) fc.A (spliced (backTo pos (starEach rr fc.env))) (fun vs s₂ => Q (v :: vs) s₂) NoE s₁) NoE s) (fun _ _ h => by rw [starEach_cons hns]; exact spliced_cons h) ?_
      refine J.bndV (S.je O B' e) fun a v => ?_
      exact J.bnd (S.jes O B' rr pos) fun as vs st a' st' P e' hP ρ s Q r q c H => by
        obtain ⟨rfl, rfl, rfl⟩ := ret_some e'
        exact H.of rfl r ⟨c.1, q⟩
  exact key _ _ _ _ h hP ρ s Q r trivial H

theorem isTrue_bool_eq (op : BoolOp) (vs : List Expr) (p : Pos) (env : Env) (w1 w2 : Sem Value) : isTrue (.BoolOp op vs p) env w1 = isTrue (.BoolOp op vs p) env w2 := by
  rfl
/-- a condition's step is sound -/
noncomputable def JB (prog : Program) (w : World) (fi : FI) (fc : FC) (T : PT) (I : Evs) (x : Expr) : Prop := J w fi fc [] [] (stepB T I fi x) rB (fun Q s => wpAny (model prog w) fc.A (isTrue x fc.env (eval x fc.env)) Q NoE s)
theorem JB.none {x : Expr} (h : stepB T I fi x = fun _ => Option.none) : JB prog w fi fc T I x := fun st _ _ _ e => by rw [h] at e; exact nn e
theorem truthJ {L : List AV} {V : List Value} {a : AV} {va : Value} : J w fi fc (a :: L) (va :: V) (fun st => match a with | .bool c => ret c st | _ => none) rB (fun Q s => wpAny (model prog w) fc.A (truthy va) Q NoE s) :=
  boolJ fun _ _ => J.ret fun _ s _ _ c k => truthy_bool c.1 (k _ s.toks rfl)
theorem andJ {op : BoolOp} {rr : List Expr} {pos : Pos} {wh : Sem Value} (h : J w fi fc [] [] (I.b fi (.BoolOp op rr pos)) rB (fun Q s => wpAny (model prog w) fc.A (isTrue (.BoolOp op rr pos) fc.env (eval (.BoolOp op rr pos) fc.env)) Q NoE s)) :
    J w fi fc [] [] (I.b fi (.BoolOp op rr pos)) rB (fun Q s => wpAny (model prog w) fc.A (isTrue (.BoolOp op rr pos) fc.env wh) Q NoE s) := J.by (fun _ _ h => by rw [isTrue_bool_eq _ _ _ _ _ (eval (.BoolOp op rr pos) fc.env)]; exact h) h
theorem stepB_J (S : Snd prog w K p loose mean mg mb D n I) (ok : PTOk3 prog w K p loose mean mg mb T D) (O : FrOk K p loose mean mg mb fi fc) (B : Room2 D (n + 1) fc.A) (x : Expr) : JB prog w fi fc T I x := by
  have B' := B.step
  induction x using PySem.Expr.casesOn with
  | UnaryOp op x p => induction op using PySem.UnaryOp.casesOn with
    | Not =>
      refine J.by (fun _ _ h => isTrue_not h) ?_
      show J w fi fc [] [] (fun st => bnd (I.b fi x st) fun c st => ret (!c) st) rB (fun Q s => wpAny (model prog w) fc.A (PySem.isTrue x fc.env (eval x fc.env)) (fun c s' => Q (!c) s') NoE s)
      refine J.bndB (wp2 := fun c Q s' => Q (!c) s') (S.jb O B' x) ?_ ?_
      · exact J.ret fun _ s _ _ _ k => k _ s.toks rfl
      · exact J.ret fun _ s _ _ _ k => k _ s.toks rfl
    | _ => exact JB.none rfl
  | BoolOp op vs p => induction vs using List.casesOn with
    | nil => induction op using PySem.BoolOp.casesOn with
      | And => exact J.ret fun _ s _ _ _ k => isTrue_and_nil (k _ s.toks rfl)
      | Or => exact J.ret fun _ s _ _ _ k => isTrue_or_nil (k _ s.toks rfl)
    | cons e rr => induction op using PySem.BoolOp.casesOn with
      | And =>
        refine J.by (fun _ _ h => isTrue_and h) ?_
        refine J.bndB (S.jb O B' e) ?_ (J.ret fun _ s _ _ _ k => k _ s.toks rfl)
        exact J.by (fun _ _ h => h) (andJ (S.jb O B' (.BoolOp .And rr p)))
      | Or =>
        refine J.by (fun _ _ h => isTrue_or h) ?_
        refine J.bndB (S.jb O B' e) (J.ret fun _ s _ _ _ k => k _ s.toks rfl) ?_
        exact J.by (fun _ _ h => h) (andJ (S.jb O B' (.BoolOp .Or rr p)))
  | IfExp t b o p =>
    refine J.by (fun _ _ h => isTrue_IfExp h) ?_
    refine J.bndB (S.jb O B' t) ?_ ?_
    · exact J.by (fun _ _ h => h) (S.jb O B' b)
    · exact J.by (fun _ _ h => h) (S.jb O B' o)
  | Compare l ops rs pos => induction ops using List.casesOn with
    | nil => exact JB.none rfl
    | cons op t => induction t using List.casesOn with
      | cons => exact JB.none rfl
      | nil => induction rs using List.casesOn with
        | nil => exact JB.none rfl
        | cons rr u => induction u using List.casesOn with
          | cons => exact JB.none rfl
          | nil =>
            refine J.bool (c := behindInMarks op rr) (fun _ => J.none) fun hm => ?_
            refine J.by (fun _ _ h => wpAny_isTrue_Compare1 h hm) ?_
            exact J.bndV (S.je O B' l) fun a va => J.bndV (S.je O B' rr) fun b vb => J.bndV (cmpJ ok O B) fun d vd => truthJ
  | Call f as ks p =>
    refine J.by (fun _ _ h => isTrue_plain h rfl) ?_
    exact J.bndV (S.je O B' (.Call f as ks p)) fun a va => truthJ
  | Name x p =>
    refine J.by (fun _ _ h => isTrue_plain h rfl) ?_
    exact J.bndV (S.je O B' (.Name x p)) fun a va => truthJ
  | _ => exact JB.none rfl
theorem stepB_sound (S : Snd prog w K p loose mean mg mb D n I) (ok : PTOk3 prog w K p loose mean mg mb T D) {x : Expr} {a : Bool} {P : List Prop} (h : stepB T I fi x st = some (a, st', P)) (hP : Ps P) (O : FrOk K p loose mean mg mb fi fc) (B : Room2 D (n + 1) fc.A) {Q : Bool → Shared → Prop}
    (r : Rel w.params fi fc ρ st s.heap) (H : Pst w.params fi fc ρ st st' s (fun _ v => v = a) Q) : wpAny (model prog w) fc.A (isTrue x fc.env (eval x fc.env)) Q NoE s := stepB_J S ok O B x _ _ _ _ h hP ρ s Q r trivial H

theorem plain_swaps {v : Expr} (h : plainV v = true) (t : Option Expr) (line : Nat) (env : Env) : swapsWith v t line env = pure false := by
  cases v <;> first | rfl | cases h
set_option tactic.hygienic true in
theorem pureOf_some {α : Type} {x : Sem α} {a : α} (h : pureOf x = some a) : x = pure a := by
  cases x
  case pure b => exact congrArg Sem.pure (Option.some.inj h)
  all_goals (have h : (none : Option α) = some a := h; cases h)
theorem swapped_dum (ts : List Expr) (v : Expr) (env : Env) : swappedStores ts v env = swappedStores ts v (dumEnv env.scope) := rfl
theorem swaps_dum (v : Expr) (t : Option Expr) (line : Nat) (env : Env) : swapsWith v t line env = swapsWith v t line (dumEnv env.scope) := rfl
theorem RelAt.extBut {h h' : Heap} {m : Str → Option Value} {os : List Obj} (R : RelAt w.params fi fc ρ st h m os) (he : Heap.ExtBut h.objs.size h h') : RelAt w.params fi fc ρ st h' m os :=
  R.heap (R.F.extBut he (Nat.le_refl _)) fun q hq => ⟨he q.1 q.2 (Nat.ne_of_lt (Heap.lt_size (R.N q hq).1)) (R.N q hq).1, (R.N q hq).2⟩
theorem storeNs_sound (O : FrOk K p loose mean mg mb fi fc) (xs : List Str) : ∀ (as : List AV) (vs : List Value) (st : St) (ρ : Nat → Addr) (s : Shared) (P : List Prop) (Q : Unit → Shared → Prop), storeNs fi xs as st = some ((), st', P) → Ps P →
    Rel w.params fi fc ρ st s.heap → All2 (RepV ρ st.n) as vs → Pst w.params fi fc ρ st st' s (fun _ _ => True) Q → wpAny (model prog w) fc.A (assignInOrder (xs.map fun x => bindName fc.env x) vs) Q NoE s := by
  induction xs with
  | nil =>
    intro as vs st ρ s P Q h hP r ra H
    induction as with
    | nil =>
      first | (obtain ⟨rfl, rfl, rfl⟩ := ret_some h) | cases h
      exact assignInOrder_nil (H.of (h' := s.heap) (tk := s.toks) (v := ()) rfl r trivial)
    | cons => first | exact nn h | cases h
  | cons x xs ih =>
    intro as vs st ρ s P Q h hP r ra H
    cases as with
    | nil => first | exact nn h | cases h
    | cons a as =>
      induction vs with
      | nil => exact ra.elim
      | cons v vs =>
        have h : bnd (storeN fi (nm x) a st) (fun _ st => storeNs fi xs as st) = some ((), st', P) := h
        refine bnd_el h hP fun _ st1 P1 P2 h1 h2 hP1 hP2 => ?_
        refine assignInOrder_cons (wpAny_bindName (storeN_sound O h1 r ra.1 fun ρ1 h' tk _ X r1 _ => ?_))
        exact ih _ _ _ _ { s with heap := h', toks := tk } _ _ h2 hP2 r1 (ra.2.mono fun _ _ _ q => q.ext X) (H.then X)

theorem takeN_len {α : Type} : ∀ {k : Nat} {l : List α} {q : List α × List α}, takeN k l = some q → q.1.length = k
  | 0, l, q, h => by rw [← Option.some.inj h]; rfl
  | k + 1, [], q, h => nn h
  | k + 1, a :: l, q, h => by
    have h : (match takeN k l with | some (r, l') => some (a :: r, l') | none => none) = some q := h
    cases e : takeN k l with
    | none => rw [e] at h; exact nn h
    | some z =>
      rw [e] at h
      rw [← Option.some.inj h]
      exact congrArg (· + 1) (takeN_len e)
theorem unp_sound {a : AV} {k : Nat} {xs : List AV} {v : Value} {P : List Prop} (h : unp a k st = some (xs, st', P)) (hP : Ps P) (r : Rel w.params fi fc ρ st s.heap) (ra : RepV ρ st.n a v) :
    ∃ l vs, v = .ref l ∧ s.heap.IsTuple l (List.toArray vs) ∧ All2 (RepV ρ st'.n) xs vs ∧ xs.length = k ∧ st'.n = st.n ∧ Rel w.params fi fc ρ st' s.heap := by
  unfold unp at h
  cases ea : asRef a with
  | some l =>
    rw [ea] at h
    refine opt_el h fun ys e1 y1 => okOr_el y1 fun hl y2 => ?_
    obtain ⟨rfl, rfl, _⟩ := ret_some y2
    rw [asRef_eq ea] at ra
    obtain ⟨_, rfl⟩ := ra
    obtain ⟨m, os, vs, R, hv, ht, hlt⟩ := tup_get r (asTup_eq e1)
    exact ⟨_, vs, rfl, ht, hv, (Nat.eq_of_beq_eq_true hl).symm, rfl, r⟩
  | none =>
    rw [ea] at h
    refine opt_el h fun c hc y1 => opt_el y1 fun q ht y2 => ?_
    obtain ⟨rfl, rfl, rfl⟩ := some3 y2
    rw [asCon_eq hc] at ra
    obtain ⟨rfl, _⟩ := ra
    obtain ⟨m, os, R⟩ := r
    obtain ⟨o, ho, vs, n, rfl, hv⟩ := R.im _ _ hP.1
    exact ⟨_, vs, rfl, ⟨_, (R.N _ (List.mem_append_right _ ho)).1, rfl, _, rfl⟩, hv.mono fun _ _ _ q => repV_clo q, takeN_len ht, rfl, m, os, R.orc _ _⟩
theorem star_each {env : Env} : ∀ {es : List Expr}, es.all noStar = true → assignEach es env = es.map fun e => (false, assign e env)
  | [], _ => rfl
  | e :: r, h => by
    obtain ⟨h1, h2⟩ := (Bool.and_eq_true _ _).mp h
    have := star_each (env := env) h2
    induction e using PySem.Expr.casesOn with
    | Starred => exact ff h1
    | _ => exact congrArg (_ :: ·) this
theorem stepAsg_sound (S : Snd prog w K p loose mean mg mb D n I) (ok : PTOk3 prog w K p loose mean mg mb T D) {t : Expr} {a : AV} {v : Value} {P : List Prop} (h : stepAsg T I fi t a st = some ((), st', P)) (hP : Ps P) (O : FrOk K p loose mean mg mb fi fc) (B : Room2 D (n + 1) fc.A) {Q : Unit → Shared → Prop}
    (r : Rel w.params fi fc ρ st s.heap) (ra : RepV ρ st.n a v) (H : Pst w.params fi fc ρ st st' s (fun _ _ => True) Q) : wpAny (model prog w) fc.A (assign t fc.env v) Q NoE s := by
  have B' := B.step
  induction t using PySem.Expr.casesOn with
  | Name x pos => exact assign_Name (storeN_sound O h r ra H)
  | Tuple es k pos =>
    refine bnd_el (k := fun xs st => okOr (es.all noStar) (I.asgs fi es xs st)) h hP fun xs st1 P1 P2 h1 h2 hP1 hP2 => okOr_el h2 fun hns h2 => ?_
    obtain ⟨l, vs, rfl, ht, hv, hlen, hn, r1⟩ := unp_sound h1 hP1 r ra
    have hvl := hv.length
    have hst := star_each (env := fc.env) hns
    refine wpAny_assign_Tuple O.hh ht (by rw [hst]; simp; lia) (by rw [hst]; simp) fun h' he => ?_
    rw [hst]
    have e2 : (es.map fun e => (false, assign e fc.env)).map (·.2) = es.map fun e => assign e fc.env := by simp [List.map_map]
    rw [e2]
    obtain ⟨m, os, R⟩ := r1
    exact S.asgs _ _ _ _ _ _ _ h2 hP2 O B' ρ { s with heap := h' } _ _ ⟨m, os, R.extBut he⟩ hv (fun ρ2 h2' tk2 u X2 r2 q2 => H ρ2 h2' tk2 u (by rw [hn] at X2; exact X2) r2 q2)
  | _ => exact nn h

set_option tactic.hygienic true in
theorem stepAsgs_sound (S : Snd prog w K p loose mean mg mb D n I) {ts : List Expr} {as : List AV} {vs : List Value} {P : List Prop} (h : stepAsgs I fi ts as st = some ((), st', P)) (hP : Ps P) (O : FrOk K p loose mean mg mb fi fc) (B : Room2 D (n + 1) fc.A) {Q : Unit → Shared → Prop}
    (r : Rel w.params fi fc ρ st s.heap) (ra : All2 (RepV ρ st.n) as vs) (H : Pst w.params fi fc ρ st st' s (fun _ _ => True) Q) : wpAny (model prog w) fc.A (assignInOrder (ts.map fun t => assign t fc.env) vs) Q NoE s := by
  have B' := B.step
  unfold stepAsgs at h
  split at h
  · first | (obtain ⟨rfl, rfl, rfl⟩ := ret_some h) | cases h
    exact assignInOrder_nil (r.pst (tk := s.toks) H trivial)
  · rename_i t ts a as
    match vs, ra with
    | v :: vs, ra =>
    refine bnd_el h hP fun _ st1 P1 P2 h1 h2 hP1 hP2 => ?_
    refine assignInOrder_cons (S.asg _ _ _ _ _ _ _ h1 hP1 O B' ρ s _ _ r ra.1 fun ρ1 h' tk _ X r1 _ => ?_)
    exact S.asgs _ _ _ _ _ _ _ h2 hP2 O B' ρ1 _ _ _ r1 (ra.2.mono fun _ _ _ q => q.ext X) (H.then X)
  · first | exact nn h | cases h

theorem stepSs_sound (S : Snd prog w K p loose mean mg mb D n I) {xs : List Stmt} {a : AFl} {P : List Prop} (h : stepSs I fi xs st = some (a, st', P)) (hP : Ps P) (O : FrOk K p loose mean mg mb fi fc) (B : Room2 D (n + 1) fc.A) {Q : Flow → Shared → Prop}
    (r : Rel w.params fi fc ρ st s.heap) (H : Pst w.params fi fc ρ st st' s (fun ρ' v => RepF ρ' st'.n a v) Q) : wpAny (model prog w) fc.A (execs xs fc.env) Q NoE s := by
  have B' := B.step
  have key : J w fi fc [] [] (stepSs I fi xs) RepF (fun Q s => wpAny (model prog w) fc.A (execs xs fc.env) Q NoE s) := by
    clear h H r
    induction xs using List.casesOn with
    | nil => exact J.ret fun _ s _ _ _ k => wpAny_execs_nil (k _ s.toks rfl)
    | cons x rr =>
      refine J.by (fun _ _ h => wpAny_execs_cons h) ?_
      exact J.bndF (S.js O B' x) (S.jss O B' rr) (J.ret fun _ s _ _ _ k => k _ s.toks rfl) (J.ret fun _ s _ _ _ k => k _ s.toks rfl) fun a v => J.ret fun _ s _ _ c k => k _ s.toks ⟨_, rfl, c.1⟩
  exact key _ _ _ _ h hP ρ s Q r trivial H

theorem stepWh_sound (S : Snd prog w K p loose mean mg mb D n I) {t : Expr} {b : List Stmt} {a : AFl} {P : List Prop} (h : stepWh I fi t b st = some (a, st', P)) (hP : Ps P) (O : FrOk K p loose mean mg mb fi fc) (B : Room2 D (n + 1) fc.A) {Q : Flow → Shared → Prop} {k : Nat}
    (r : Rel w.params fi fc ρ st s.heap) (H : Pst w.params fi fc ρ st st' s (fun ρ' v => RepF ρ' st'.n a v) Q) : WhlRest prog w fc.A NoE fc.env t b [] Q k s := by
  have B' := B.step
  have key : J w fi fc [] [] (stepWh I fi t b) RepF (fun Q s => WhlRest prog w fc.A NoE fc.env t b [] Q (0 + 1) s) := by
    refine J.by (fun _ _ h => whl_turn (k := 0) (passesNo _ _ _) h) ?_
    have wh : ∀ L V, J w fi fc L V (I.wh fi t b) RepF (fun Q s => WhlRest prog w fc.A NoE fc.env t b [] Q 0 s) := fun L V _ _ _ _ h hP ρ s Q r _ H => S.wh _ _ _ _ _ _ _ _ h hP O B' ρ s Q 0 r H
    refine J.bndB (S.jb O B' t) ?_ (J.ret fun _ s _ _ _ k => WhlIf.no rfl (wpAny_execs_nil (k _ s.toks rfl)))
    refine J.by (fun _ _ h => WhlIf.yes rfl h) ?_
    exact J.bndF (S.jss O B' b) (wh _ _) (J.ret fun _ s _ _ _ k => k _ s.toks rfl) (wh _ _) fun a v => J.ret fun _ s _ _ c k => k _ s.toks ⟨_, rfl, c.1⟩
  exact key _ _ _ _ h hP ρ s Q r trivial H
end
end Mine
namespace Mine
open PySem PySem.W PyProof.Rows PySem.Calls PySem.Spec

section
variable {prog : Program} {w : World} {K : Frag} {p : Program} {loose : List Str} {mean : ExcName → Option Value} {mg mb : Str → Option Value} {T : PT} {D n : Nat} {I : Evs} {fi : FI} {fc : FC} {ρ : Nat → Addr} {st st' : St} {s : Shared}

theorem plain_folds {i : Expr} (h : plainIt i = true) (env : Env) (x : Value) : foldedSetIterable i env x = pure x := by
  cases i <;> first | rfl | cases h

/-- an iterator over a list is made -/
theorem liter_push {m : Str → Option Value} {os : List Obj} (R : RelAt w.params fi fc ρ st s.heap m os) {l : Nat} (hl : l < st.n) :
    Rel w.params fi fc (fun i => if i = st.n then s.heap.objs.size else ρ i) { st with sg := st.sg.set st.n (.liter l 0), n := st.n + 1 } (s.heap.push { cls := .type "list_iterator", data := .fields #[.ref (ρ l), .int 0 0] }) ∧
    Ext ρ st.n (fun i => if i = st.n then s.heap.objs.size else ρ i) (st.n + 1) := by
  have F' := R.F.push { cls := .type "list_iterator", data := .fields #[.ref (ρ l), .int 0 0] }
  have N' := R.N.push R.F { cls := .type "list_iterator", data := .fields #[.ref (ρ l), .int 0 0] }
  obtain ⟨R', X'⟩ := R.push (ao := .liter l 0) F' N' (fun q hq => Heap.lt_size (R.N q hq).1) ⟨Nat.lt_succ_of_lt hl, rfl, by simp [Nat.ne_of_lt hl]⟩
  exact ⟨⟨_, _, R'⟩, X'⟩

/-- the iterator hands on an item -/
theorem liter_next {A : Around} {k l i : Nat} {pre : Option (List AV)} {xs : List AV} {a : AV} {Q : Option Value → Shared → Prop} (r : Rel w.params fi fc ρ st s.heap) (e1 : st.sg.get k = .liter l i) (e2 : st.sg.get l = .list pre xs) (hn : nth (itm pre xs) i = some a)
    (H : ∀ h' v, Rel w.params fi fc ρ (setO k (.liter l (i + 1)) st) h' → RepV ρ st.n a v → Q (some v) { s with heap := h' }) : wpAny (model prog w) A (pyNext (.ref (ρ k))) Q NoE s := by
  obtain ⟨m, os, vs, k1, R, ho, hv, hm, hl, hlt⟩ := list_get r e2
  obtain ⟨o, ho2, ⟨hll, hc, hd⟩, hm2, hg2⟩ := R.get e1 (by intro q; cases q)
  rw [nth_eq] at hn
  obtain ⟨y, hy, ry⟩ := hv.get hn
  refine wpAny_pyNext_list_item ⟨o, hg2, hc, hd⟩ hl (by simpa using hy) fun h' hit' hs' => ?_
  obtain ⟨o', ho', hc', hd'⟩ := hit'
  have hmem := R.N _ hm2
  have hk : k < st.n := R.lt (by rw [e1]; intro q; cases q)
  have F' : Fr fc.h₀ fc.env.locals h' m := R.F.change hs' hmem.2.1 hmem.2.2
  have N' : News fc.h₀ fc.env.locals h' (ledF st.sg ρ 0 (os.set k o') ++ fc.rest) := R.news ho2 (by rw [e1]; rfl) hm2 ho' hs'.2
  exact H h' y ⟨_, _, R.set (a' := .liter l (i + 1)) hk F' N' ⟨hll, hc', hd'⟩⟩ ry
/-- the iterator is at its end -/
theorem liter_end {A : Around} {k l i : Nat} {pre : Option (List AV)} {xs : List AV} {Q : Option Value → Shared → Prop} (hh : A.handled = none) (r : Rel w.params fi fc ρ st s.heap) (e1 : st.sg.get k = .liter l i) (e2 : st.sg.get l = .list pre xs) (hn : nth (itm pre xs) i = none)
    (H : ∀ h', Rel w.params fi fc ρ (setO k .dead st) h' → Q none { s with heap := h' }) : wpAny (model prog w) A (pyNext (.ref (ρ k))) Q NoE s := by
  obtain ⟨m, os, vs, k1, R, ho, hv, hm, hl, hlt⟩ := list_get r e2
  obtain ⟨o, ho2, ⟨hll, hc, hd⟩, hm2, hg2⟩ := R.get e1 (by intro q; cases q)
  rw [nth_eq] at hn
  have hlen := hv.length
  have hx : vs.toArray[i]? = none := by
    rw [List.getElem?_eq_none_iff] at hn
    rw [List.getElem?_toArray, List.getElem?_eq_none_iff, ← hlen]; exact hn
  refine wpAny_pyNext_list_end hh ⟨o, hg2, hc, hd⟩ hl hx fun h' he' => ?_
  have hmem := R.N _ hm2
  have F' : Fr fc.h₀ fc.env.locals h' m := ⟨R.F.ns.at' fun o e => he' _ o (Ne.symm hmem.2.1) e, fun b ob e => he' b ob (fun q => by rw [q] at e; rw [hmem.2.2] at e; cases e) (R.F.keep b ob e), R.F.above⟩
  exact H h' ⟨_, _, R.kill F' (by rw [e1]; rfl) fun q hq hne => he' q.1 q.2 hne (R.N q hq).1⟩

/-- an iterator over a range is made -/
theorem riter_push {m : Str → Option Value} {os : List Obj} (R : RelAt w.params fi fc ρ st s.heap m os) (p : Bool) (x left : Int) :
    Rel w.params fi fc (fun i => if i = st.n then s.heap.objs.size else ρ i) { st with sg := st.sg.set st.n (.riter p x left), n := st.n + 1 } (s.heap.push { cls := .type "range_iterator", data := .fields #[rawInt x, rawInt left, rawInt 1] }) ∧
    Ext ρ st.n (fun i => if i = st.n then s.heap.objs.size else ρ i) (st.n + 1) := by
  have F' := R.F.push { cls := .type "range_iterator", data := .fields #[rawInt x, rawInt left, rawInt 1] }
  have N' := R.N.push R.F { cls := .type "range_iterator", data := .fields #[rawInt x, rawInt left, rawInt 1] }
  obtain ⟨R', X'⟩ := R.push (ao := .riter p x left) F' N' (fun q hq => Heap.lt_size (R.N q hq).1) rfl
  exact ⟨⟨_, _, R'⟩, X'⟩
theorem mkIt_sound {A : Around} {l : Nat} {a : AV} {P : List Prop} {Q : Value → Shared → Prop} (h : mkIt l st = some (a, st', P)) (r : Rel w.params fi fc ρ st s.heap) (hl : l < st.n)
    (H : Pst w.params fi fc ρ st st' s (fun ρ' v => RepV ρ' st'.n a v) Q) : wpAny (model prog w) A (pyIter (.ref (ρ l))) Q NoE s := by
  unfold mkIt at h
  cases el : asList (st.sg.get l) with
  | some q =>
    rw [el] at h
    obtain ⟨rfl, rfl, _⟩ := ret_some h
    obtain ⟨m1, os1, vs1, k1, R1, ho1, hv1, hm1, hL1, hlt1⟩ := list_get r (asList_eq el)
    refine wpAny_pyIter_list hL1 ?_
    obtain ⟨r2, X2⟩ := liter_push R1 hl
    exact H _ _ s.toks _ X2 r2 ⟨Nat.lt_succ_self _, by simp⟩
  | none =>
    rw [el] at h
    refine opt_el h fun g e1 y1 => ?_
    obtain ⟨rfl, rfl, _⟩ := ret_some y1
    obtain ⟨m, os, R⟩ := r
    obtain ⟨o, ho, ⟨hb, t, u, v, rfl⟩, hm, hg⟩ := R.get (asRng_eq e1) (by intro q; cases q)
    refine wpAny_pyIter_range hg (small_one hb.1 hb.2.1 hb.2.2.1 hb.2.2.2) ?_
    rw [rangeSize_one]
    obtain ⟨r2, X2⟩ := riter_push R g.1 g.2.1 (if g.2.1 < g.2.2 then g.2.2 - g.2.1 else 0)
    exact H _ _ s.toks _ X2 r2 ⟨Nat.lt_succ_self _, by simp⟩
/-- what was handed on -/
noncomputable def Handed (ρ : Nat → Addr) (n : Nat) : Option AV → Option Value → Prop
  | none, none => True
  | some a, some v => RepV ρ n a v
  | _, _ => False
noncomputable def isIter : AO → Bool
  | .liter _ _ => true
  | .riter _ _ _ => true
  | _ => false
theorem nxtL_cases {k : Nat} {q : Nat × Nat} {p : Option (List AV)} {xs : List AV} {oa : Option AV} {P : List Prop} (h : nxtL k q p xs st = some (oa, st', P)) (hP : Ps P) :
    ∃ o v, (oa = none ∧ nth (itm p xs) q.2 = none ∧ st' = { setO k .dead st with or := o, ov := v }) ∨ ∃ a, oa = some a ∧ nth (itm p xs) q.2 = some a ∧ st' = { setO k (.liter q.1 (q.2 + 1)) st with or := o, ov := v } := by
  unfold nxtL at h
  cases p with
  | none =>
    cases e : nth xs q.2 with
    | none =>
      have h : (match nth xs q.2 with | none => ret none (setO k .dead st) | some a => ret (some a) (setO k (.liter q.1 (q.2 + 1)) st)) = some (oa, st', P) := h
      rw [e] at h
      obtain ⟨rfl, rfl, _⟩ := ret_some h
      exact ⟨_, _, .inl ⟨rfl, e, rfl⟩⟩
    | some a =>
      have h : (match nth xs q.2 with | none => ret none (setO k .dead st) | some a => ret (some a) (setO k (.liter q.1 (q.2 + 1)) st)) = some (oa, st', P) := h
      rw [e] at h
      obtain ⟨rfl, rfl, _⟩ := ret_some h
      exact ⟨_, _, .inr ⟨a, rfl, e, rfl⟩⟩
  | some p =>
    dsimp only at h
    generalize hor : st.or = l at h
    induction l using List.casesOn with
    | nil => exact nn h
    | cons c r =>
      dsimp only at h
      generalize Nat.beq c 0 = b at h
      cases b with
      | true =>
        obtain ⟨rfl, rfl, rfl⟩ := some3 h
        exact ⟨_, _, .inl ⟨rfl, hP.1, rfl⟩⟩
      | false =>
        generalize hov : st.ov = l at h
        induction l using List.casesOn with
        | nil => exact nn h
        | cons v rv =>
          obtain ⟨rfl, rfl, rfl⟩ := some3 h
          exact ⟨_, _, .inr ⟨v, rfl, hP.1, rfl⟩⟩
theorem nxt_n {k : Nat} {oa : Option AV} {P : List Prop} (h : nxt k st = some (oa, st', P)) (hP : Ps P) : st'.n = st.n := by
  unfold nxt at h
  cases el : asLit (st.sg.get k) with
  | some q =>
    rw [el] at h
    refine opt_el h fun z _ y1 => ?_
    obtain ⟨o, v, ⟨_, _, rfl⟩ | ⟨a, _, _, rfl⟩⟩ := nxtL_cases y1 hP <;> rfl
  | none =>
    rw [el] at h
    refine opt_el h fun z _ y1 => bnd_el y1 hP fun b st1 P1 P2 h1 h2 hP1 hP2 => ?_
    obtain ⟨_, o, rfl⟩ := dec_some (c := decide (0 < z.2.2)) (by simp) h1 hP1
    cases b <;> (obtain ⟨_, rfl, _⟩ := ret_some h2; rfl)
theorem nxt_sound {A : Around} {k : Nat} {oa : Option AV} {P : List Prop} {Q : Option Value → Shared → Prop} (hh : A.handled = none) (h : nxt k st = some (oa, st', P)) (hP : Ps P) (r : Rel w.params fi fc ρ st s.heap)
    (H : ∀ h' tk o, Rel w.params fi fc ρ st' h' → Handed ρ st.n oa o → (oa ≠ none → isIter (st'.sg.get k) = true) → Q o { s with heap := h', toks := tk }) : wpAny (model prog w) A (pyNext (.ref (ρ k))) Q NoE s := by
  unfold nxt at h
  cases el : asLit (st.sg.get k) with
  | some q =>
    rw [el] at h
    refine opt_el h fun z e2 y1 => ?_
    have e1 := asLit_eq el
    have e2 := asList_eq e2
    obtain ⟨o, v, ⟨rfl, hn, rfl⟩ | ⟨a, rfl, hn, rfl⟩⟩ := nxtL_cases y1 hP
    · refine liter_end hh r e1 e2 hn fun h' r' => H h' s.toks none ?_ trivial fun q => absurd rfl q
      obtain ⟨m, os, R⟩ := r'
      exact ⟨m, os, R.orc o v⟩
    · refine liter_next r e1 e2 hn fun h' u r' rv' => H h' s.toks (some u) ?_ rv' fun _ => ?_
      · obtain ⟨m, os, R⟩ := r'
        exact ⟨m, os, R.orc o v⟩
      · show isIter ((st.sg.set k _).get k) = true
        rw [Tr.get_set, if_pos rfl]; rfl
  | none =>
    rw [el] at h
    refine opt_el h fun z ez y1 => bnd_el y1 hP fun b st1 P1 P2 h1 h2 hP1 hP2 => ?_
    have e1 := asRit_eq ez
    obtain ⟨hb, o, rfl⟩ := dec_some (c := decide (0 < z.2.2)) (by simp) h1 hP1
    obtain ⟨m, os, R⟩ := r
    have R := R.orc o st.ov
    have hmu : (st.sg.get k).mut = true := by rw [e1]; rfl
    obtain ⟨ob, ho2, hob, hm2, hg2⟩ := R.get (l := k) e1 (by intro q; cases q)
    have hob : ob = { cls := .type "range_iterator", dict := none, data := .fields #[rawInt z.2.1, rawInt z.2.2, rawInt 1], slots := #[] } := hob
    subst hob
    have hmem := R.N _ hm2
    cases b with
    | true =>
      obtain ⟨rfl, rfl, _⟩ := ret_some h2
      refine wpAny_pyNext_range_item hg2 (hb.mp rfl) fun h' hit' hs' => ?_
      have hk : k < st.n := R.lt (by show st.sg.get k ≠ _; rw [e1]; intro q; cases q)
      have R' := R.set (l := k) (a' := .riter z.1 (z.2.1 + 1) (z.2.2 - 1)) hk (R.F.change hs' hmem.2.1 hmem.2.2) (R.news ho2 hmu hm2 hit' hs'.2) rfl (hm := hmu)
      exact H h' _ (some _) ⟨_, _, R'⟩ (mkI_rep _ _ _) fun _ => by
        show isIter ((st.sg.set k _).get k) = true
        rw [Tr.get_set, if_pos rfl]; rfl
    | false =>
      obtain ⟨rfl, rfl, _⟩ := ret_some h2
      refine wpAny_pyNext_range_end hh hg2 (by have : ¬ 0 < z.2.2 := fun q => ff (hb.mpr q)
                                               lia) fun h' he' => ?_
      have F' : Fr fc.h₀ fc.env.locals h' m := ⟨R.F.ns.at' fun o e => he' _ o (Ne.symm hmem.2.1) e, fun b ob e => he' b ob (fun q => by rw [q] at e; rw [hmem.2.2] at e; cases e) (R.F.keep b ob e), R.F.above⟩
      exact H h' s.toks none ⟨_, _, R.kill F' hmu fun q hq hne => he' q.1 q.2 hne (R.N q hq).1⟩ trivial fun q => absurd rfl q

set_option tactic.hygienic true in
theorem forTurn_sound {A : Around} {t : Expr} {it : Value} {b : List Stmt} {env : Env} {Q : Flow → Shared → Prop} {s : Shared}
    (h : wpAny (model prog w) A (pyNext it) (fun o s₁ => match o with
      | none => wpAny (model prog w) A (execs [] env) Q NoE s₁
      | some v => wpAny (model prog w) A (letOwnedTupleGo t it v) (fun _ s₂ => wpAny (model prog w) A (assign t env v) (fun _ s₃ => wpAny (model prog w) A (execs b env) (fun f s₄ => match f with
        | .next => codeAny (model prog w) A (.forLoop t it b [] env) (fun r s' => match r with | .ok f => Q f s' | .error _ => False) s₄
        | .cont => codeAny (model prog w) A (.forLoop t it b [] env) (fun r s' => match r with | .ok f => Q f s' | .error _ => False) s₄
        | .brk => Q .next s₄
        | .ret v => Q (.ret v) s₄) NoE s₃) NoE s₂) NoE s₁) NoE s) :
    codeAny (model prog w) A (.forLoop t it b [] env) (fun r s' => match r with | .ok f => Q f s' | .error _ => False) s := by
  refine codeAny_of_tree ?_
  show wpAny _ A ((forTurn t it b [] env).onRaise (fun x => do noteFrame x env; theTreesLotGoes x)) _ _ s
  refine wpAny_noted ?_
  unfold forTurn
  refine wpAny_bind (wpAny_standAt (wpAny_bind (wpAny_onRaise (wpAny_mono h (fun o s₁ h₁ => ?_) fun _ _ z => z.elim))))
  induction o with
  | none =>
    refine wpAny_pure ⟨rfl, codeAny_of_tree ?_⟩
    show wpAny _ A (do return Fin.done (← (execs [] env).onRaise (fun x => do noteFrame x env; theTreesLotGoes x))) _ _ s₁
    exact wpAny_bind (wpAny_onRaise (wpAny_mono h₁ (fun f s' hq => wpAny_pure hq) fun _ _ z => z.elim))
  | some v =>
    refine wpAny_bind (wpAny_mono h₁ (fun _ s₂ h₂ => wpAny_bind (wpAny_mono h₂ (fun _ s₃ h₃ => wpAny_bind (wpAny_mono h₃ (fun f s₄ h₄ => ?_) fun _ _ z => z.elim)) fun _ _ z => z.elim)) fun _ _ z => z.elim)
    induction f with
    | next => exact wpAny_pure ⟨rfl, h₄⟩
    | cont => exact wpAny_pure ⟨rfl, h₄⟩
    | brk => exact wpAny_pure h₄
    | ret u => exact wpAny_pure h₄
/-- the tuple that a list iterator hands on is its own -/
theorem owned_no {A : Around} {k : Nat} {t : Expr} {v : Value} {Q : Unit → Shared → Prop} (r : Rel w.params fi fc ρ st s.heap) (e1 : isIter (st.sg.get k) = true) (H : Q () s) :
    wpAny (model prog w) A (letOwnedTupleGo t (.ref (ρ k)) v) Q NoE s := by
  obtain ⟨m, os, R⟩ := r
  obtain ⟨o, hg2, hc⟩ : ∃ o, s.heap.get? (ρ k) = some o ∧ ∃ n vs, o.cls = .type n ∧ o.data = .fields vs ∧ (["enumerate", "zip", "dict_itemiterator", "dict_reverseitemiterator", "odict_iterator", "itertools.zip_longest", "itertools.pairwise"].contains n) = false := by
    cases q : st.sg.get k with
    | liter l i =>
      obtain ⟨o, ho2, ⟨hll, hc, hd⟩, hm2, hg2⟩ := R.get q (by intro q; cases q)
      exact ⟨o, hg2, _, _, hc, hd, by decide⟩
    | riter p x left =>
      obtain ⟨o, ho2, hob, hm2, hg2⟩ := R.get q (by intro q; cases q)
      have hob : o = { cls := .type "range_iterator", dict := none, data := .fields #[rawInt x, rawInt left, rawInt 1], slots := #[] } := hob
      subst hob
      exact ⟨_, hg2, _, _, rfl, rfl, by decide⟩
    | _ => rw [q] at e1; cases e1
  obtain ⟨n, vs, hc, hd, hno⟩ := hc
  have tup : ∀ a : Addr, wpAny (model prog w) A (do
      let o ← load (ρ k)
      match o.cls, o.data with
      | .type n, .fields vs =>
        if ["enumerate", "zip", "dict_itemiterator", "dict_reverseitemiterator", "odict_iterator", "itertools.zip_longest", "itertools.pairwise"].contains n && vs[0]? == some (rawInt a) then
          rule "for.unpacks-the-owned-tuple"
          updateField (ρ k) 0 .none
      | _, _ => pure ()) Q NoE s := fun a => by
    refine wpAny_bind (wpAny_load hg2 ?_)
    rw [hc, hd]
    simp only [hno, Bool.false_and, Bool.false_eq_true, if_false]
    exact wpAny_pure H
  cases t <;> first
    | exact wpAny_pure H
    | (cases v <;> first | exact wpAny_pure H | exact tup _)

set_option tactic.hygienic true in
theorem stepFr_sound (S : Snd prog w K p loose mean mg mb D n I) {t : Expr} {k : Nat} {b : List Stmt} {a : AFl} {P : List Prop} (h : stepFr I fi t k b st = some (a, st', P)) (hP : Ps P) (O : FrOk K p loose mean mg mb fi fc) (B : Room2 D (n + 1) fc.A) {Q : Flow → Shared → Prop}
    (r : Rel w.params fi fc ρ st s.heap) (H : Pst w.params fi fc ρ st st' s (fun ρ' v => RepF ρ' st'.n a v) Q) :
    codeAny (model prog w) fc.A (.forLoop t (.ref (ρ k)) b [] fc.env) (fun r s' => match r with | .ok f => Q f s' | .error _ => False) s := by
  have B' := B.step
  unfold stepFr at h
  refine bnd_el h hP fun oa st0 P1 P2 h1 h2 hP1 hP2 => ?_
  have hn := nxt_n h1 hP1
  have hk : k < st.n := by
    obtain ⟨m, os, R⟩ := r
    refine R.lt fun q => ?_
    unfold nxt at h1
    rw [q] at h1
    exact nn h1
  refine forTurn_sound (nxt_sound O.hh h1 hP1 r fun h' tk o r' ro hi => ?_)
  induction oa with
  | none =>
    induction o with
    | some v => exact ro.elim
    | none =>
      first | (obtain ⟨rfl, rfl, rfl⟩ := ret_some h2) | cases h2
      exact wpAny_execs_nil (H ρ h' tk _ ⟨Nat.le_of_eq hn.symm, fun _ _ => rfl⟩ r' rfl)
  | some a =>
    induction o with
    | none => exact ro.elim
    | some v =>
      refine bnd_el h2 hP2 fun _ st1 P3 P4 h3 h4 hP3 hP4 => ?_
      refine bnd_el h4 hP4 fun f st2 P5 P6 h5 h6 hP5 hP6 => ?_
      have rv : RepV ρ st0.n a v := by rw [hn]; exact ro
      refine owned_no (s := { s with heap := h', toks := tk }) r' (hi (by intro q; cases q)) ?_
      refine S.asg _ _ _ _ _ _ _ h3 hP3 O B' ρ { s with heap := h', toks := tk } _ _ r' rv fun ρ1 h1' tk1 _ X1 r1 _ => ?_
      refine S.ss _ _ _ _ _ _ _ h5 hP5 O B' ρ1 { s with heap := h1', toks := tk1 } _ r1 fun ρ2 h2' tk2 v2 X2 r2 q2 => ?_
      have X12 : Ext ρ st.n ρ2 st2.n := by
        have := X1.trans X2
        rw [hn] at this; exact this
      have ek : ρ2 k = ρ k := X12.2 k hk
      induction f with
      | next =>
        obtain rfl := q2
        have := S.fr _ _ _ _ _ _ _ _ _ h6 hP6 O B' ρ2 { s with heap := h2', toks := tk2 } Q r2 (fun ρ' h' tk v X r q => H ρ' h' tk v (X12.trans X) r q)
        rw [ek] at this
        exact this
      | cont =>
        obtain rfl := q2
        have := S.fr _ _ _ _ _ _ _ _ _ h6 hP6 O B' ρ2 { s with heap := h2', toks := tk2 } Q r2 (fun ρ' h' tk v X r q => H ρ' h' tk v (X12.trans X) r q)
        rw [ek] at this
        exact this
      | brk => cases h6; obtain rfl := q2; exact H _ _ _ _ X12 r2 rfl
      | ret b => cases h6; obtain ⟨u, rfl, ru⟩ := q2; exact H _ _ _ _ X12 r2 ⟨u, rfl, ru⟩

set_option tactic.hygienic true in
theorem stepTs_sound (S : Snd prog w K p loose mean mg mb D n I) {xs : List Expr} {a : Bool} {P : List Prop} (h : stepTs I fi xs st = some (a, st', P)) (hP : Ps P) (O : FrOk K p loose mean mg mb fi fc) (B : Room2 D (n + 1) fc.A) {Q : Bool → Shared → Prop}
    (r : Rel w.params fi fc ρ st s.heap) (H : Pst w.params fi fc ρ st st' s (fun _ v => v = a) Q) :
    wpAny (model prog w) fc.A (forIn xs true fun c r => if r = true then do let ok ← isTrue c fc.env (eval c fc.env); pure (ForInStep.yield ok) else pure (ForInStep.yield r)) Q NoE s := by
  have B' := B.step
  have skip : ∀ (xs : List Expr) (Q : Bool → Shared → Prop) (s : Shared), Q false s → wpAny (model prog w) fc.A (forIn xs false fun c r => if r = true then do let ok ← isTrue c fc.env (eval c fc.env); pure (ForInStep.yield ok) else pure (ForInStep.yield r)) Q NoE s := by
    intro xs
    induction xs with
    | nil => intro Q s h; simp only [List.forIn_nil]; exact wpAny_pure h
    | cons x xs ih =>
      intro Q s h
      simp only [List.forIn_cons, Bool.false_eq_true, if_false]
      exact wpAny_bind (wpAny_pure (ih Q s h))
  unfold stepTs at h
  split at h
  · first | (obtain ⟨rfl, rfl, rfl⟩ := ret_some h) | cases h
    simp only [List.forIn_nil]
    exact wpAny_pure (r.pst (tk := s.toks) H rfl)
  · rename_i e rr
    refine bnd_el h hP fun b st1 P1 P2 h1 h2 hP1 hP2 => ?_
    simp only [List.forIn_cons, if_true]
    refine wpAny_bind (wpAny_bind (S.b _ _ _ _ _ _ _ h1 hP1 O B' ρ s _ r fun ρ1 h' tk v X r1 q => ?_))
    subst q
    refine wpAny_pure ?_
    induction v with
    | true => exact S.ts _ _ _ _ _ _ _ h2 hP2 O B' ρ1 _ Q r1 (H.then X)
    | false => cases h2; exact skip rr Q _ (H _ _ _ _ X r1 rfl)
end
end Mine
namespace Mine
open PySem PySem.W PyProof.Rows PySem.Calls PySem.Spec

set_option tactic.hygienic true in
theorem localsOk_iff {names : List (Str × NameKind)} : ∀ {l : List (Str × NameKind)}, localsOk names l = true → ∀ y ∈ l, y.2 = .local → names.lookup y.1 = some .local
  | p :: r, h, y, hy, hl => by
    unfold localsOk at h
    split at h
    · rename_i hp
      split at h
      · rename_i hk
        rcases List.mem_cons.mp hy with rfl | hy
        · rw [kindL_eq, stn_nm] at hk; exact hk
        · exact localsOk_iff h y hy hl
      · first | exact nn h | cases h
    · rename_i hp
      rcases List.mem_cons.mp hy with rfl | hy
      · exact absurd hl hp
      · exact localsOk_iff h y hy hl
set_option tactic.hygienic true in
theorem clos_names {env : Env} {cl : List (Nm × Nat)} {ρ : Nat → Addr} (hc : ∀ x l, look x cl = some l → env.cells.lookup (stn x) = some (ρ l)) : ∀ {names : List (Str × NameKind)} {q : List (Nm × Nat)} {acc : List (Str × Addr)}, closA cl names = some q →
    (∀ y a, (y, a) ∈ acc → env.cells.lookup y = some a) →
    ∃ clv : List (Str × Addr), (forIn names acc (fun (x : Str × NameKind) (r : List (Str × Addr)) => (if (x.2 == .free) = true then (do let a ← cellOf env x.1; pure (ForInStep.yield ((x.1, a) :: r))) else pure (ForInStep.yield r) : Sem (ForInStep (List (Str × Addr)))))) = pure clv ∧
      (∀ y a, (y, a) ∈ clv → env.cells.lookup y = some a) ∧ (∀ z, z ∈ acc → z ∈ clv) ∧ (∀ x l, look x q = some l → look x cl = some l ∧ ∃ a, (stn x, a) ∈ clv)
  | [], q, acc, h, ha => by
    first | (obtain ⟨rfl, rfl, rfl⟩ := ret_some h) | cases h
    exact ⟨acc, rfl, ha, fun _ h => h, fun x l h => by cases h⟩
  | p :: r, q, acc, h, ha => by
    unfold closA at h
    simp only [List.forIn_cons]
    split at h
    · rename_i hp
      split at h
      · rename_i l hl
        split at h
        · rename_i q' hq'
          first | (obtain ⟨rfl, rfl, rfl⟩ := ret_some h) | cases h
          have hcell : cellOf env p.1 = pure (ρ l) := by
            unfold cellOf
            have := hc _ _ hl
            rw [stn_nm] at this
            rw [this]
          obtain ⟨clv, e, h1, h2, h3⟩ := clos_names hc (acc := (p.1, ρ l) :: acc) hq' (fun y a hm => by
            rcases List.mem_cons.mp hm with e | hm
            · cases e; have := hc _ _ hl; rwa [stn_nm] at this
            · exact ha y a hm)
          refine ⟨clv, ?_, h1, fun z hz => h2 z (.tail _ hz), fun x l' hx => ?_⟩
          · rw [if_pos (by rw [hp]; rfl), hcell]
            exact e
          · unfold look at hx
            split at hx
            · rename_i hxe
              have := nmEq_iff.mp hxe
              first | (obtain ⟨rfl, rfl, rfl⟩ := ret_some hx) | cases hx
              subst this
              exact ⟨hl, ρ l, by rw [stn_nm]; exact h2 _ (.head _)⟩
            · exact h3 x l' hx
        · first | exact nn h | cases h
      · first | exact nn h | cases h
    · rename_i hp
      obtain ⟨clv, e, h1, h2, h3⟩ := clos_names hc (acc := acc) h ha
      refine ⟨clv, ?_, h1, h2, h3⟩
      rw [if_neg (by simpa using hp)]
      exact e
theorem lookup_of_mem {y : Str} {a : Addr} : ∀ {l : List (Str × Addr)}, (y, a) ∈ l → ∃ b, l.lookup y = some b ∧ (y, b) ∈ l
  | p :: r, h => by
    rw [List.lookup_cons]
    cases e : y == p.1 with
    | true => exact ⟨p.2, rfl, by rw [beq_iff_eq.mp e]; exact .head _⟩
    | false =>
      rcases List.mem_cons.mp h with q | h
      · rw [← q] at e; simp at e
      · obtain ⟨b, hb, hm⟩ := lookup_of_mem h
        exact ⟨b, hb, .tail _ hm⟩
theorem closure_of {env : Env} {cl : List (Nm × Nat)} {ρ : Nat → Addr} {sc : Scope} {q : List (Nm × Nat)} (hc : ∀ x l, look x cl = some l → env.cells.lookup (stn x) = some (ρ l)) (h : closA cl sc.names = some q) :
    ∃ clv, closureFor sc env = pure clv ∧ ∀ x l, look x q = some l → look x cl = some l ∧ clv.lookup (stn x) = some (ρ l) := by
  obtain ⟨clv, e, h1, _, h3⟩ := clos_names hc (acc := []) h (fun y a hm => by cases hm)
  refine ⟨clv, ?_, fun x l hx => ?_⟩
  · unfold closureFor
    have := e
    simp only [bind_pure_comp] at this ⊢
    rw [this]
    rfl
  · obtain ⟨h4, a, ha⟩ := h3 x l hx
    refine ⟨h4, ?_⟩
    obtain ⟨b, hb, hm⟩ := lookup_of_mem ha
    rw [hb]
    have := h1 _ _ hm
    rw [hc _ _ h4] at this
    exact this.symm

section
variable {prog : Program} {w : World} {K : Frag} {p : Program} {loose : List Str} {mean : ExcName → Option Value} {mg mb : Str → Option Value} {T : PT} {D n : Nat} {I : Evs} {fi : FI} {fc : FC} {ρ : Nat → Addr} {st st' : St} {s : Shared}

/-- the ground a comprehension's block stands on: all but the ledger -/
theorem ground_of {h : Heap} {m : Str → Option Value} {os : List Obj} (R : RelAt w.params fi fc ρ st h m os) : ∃ g : Heap, g.objs.size = h.objs.size ∧ (∀ b o, g.get? b = some o → h.get? b = some o) ∧ (∀ q ∈ ledF st.sg ρ 0 os ++ fc.rest, g.get? q.1 = none) ∧
    fc.h₀.StaysIn g ∧ g.get? fc.env.locals ≠ none ∧ ∀ h1 C m1 led1, Fr g C h1 m1 → News g C h1 led1 → Fr fc.h₀ fc.env.locals h1 m ∧ News fc.h₀ fc.env.locals h1 led1 := by
  obtain ⟨oL, es, ep, hL, hLd, hLk, hLf⟩ := R.F.ns
  have nm : ∀ b o, fc.h₀.get? b = some o → b ∉ (ledF st.sg ρ 0 os ++ fc.rest).map (·.1) := fun b o e q => by
    obtain ⟨p, hp, rfl⟩ := List.mem_map.mp q
    rw [(R.N p hp).2.2] at e; cases e
  have nL : fc.env.locals ∉ (ledF st.sg ρ 0 os ++ fc.rest).map (·.1) := fun q => by
    obtain ⟨p, hp, e⟩ := List.mem_map.mp q
    exact (R.N p hp).2.1 e
  have hLg := hideAll_get ((ledF st.sg ρ 0 os ++ fc.rest).map (·.1)) hL nL
  have st0 : fc.h₀.StaysIn (hideAll h ((ledF st.sg ρ 0 os ++ fc.rest).map (·.1))) := fun b o e => hideAll_get _ (R.F.keep b o e) (nm b o e)
  refine ⟨_, hideAll_size _ _, fun b o e => of_hideAll _ e, fun q hq => hideAll_none _ (List.mem_map_of_mem hq), st0, (fun q => by rw [hLg] at q; cases q), fun h1 C m1 led1 F1 N1 => ?_⟩
  refine ⟨⟨⟨oL, es, ep, F1.keep _ oL hLg, hLd, hLk, hLf⟩, fun b o e => F1.keep b o (st0 b o e), R.F.above⟩, fun p hp => ⟨(N1 p hp).1, fun q => ?_, ?_⟩⟩
  · have := (N1 p hp).2.2; rw [q, hLg] at this; cases this
  · cases q : fc.h₀.get? p.1 with
    | none => rfl
    | some o => have := (N1 p hp).2.2; rw [st0 _ _ q] at this; cases this

theorem compTurn_sound {A : Around} {t elt iter : Expr} {ifs : List Expr} {sc : Scope} {pos : Pos} {it acc : Value} {env : Env} {Q : Unit → Shared → Prop} {s : Shared}
    (h : wpAny (model prog w) A (pyNext it) (fun o s₁ => match o with
      | none => Q () s₁
      | some v => wpAny (model prog w) A (letOwnedTupleGo t it v) (fun _ s₂ => wpAny (model prog w) A (assign t env v) (fun _ s₃ =>
          wpAny (model prog w) A (forIn ifs true fun c r => if r = true then do let ok ← isTrue c env (eval c env); pure (ForInStep.yield ok) else pure (ForInStep.yield r)) (fun ok s₄ =>
            if ok = true then wpAny (model prog w) A (eval elt env) (fun x s₅ => wpAny (model prog w) A (call (.builtin "list.append") [acc, x]) (fun _ s₆ =>
              codeAny (model prog w) A (.compLoop (.ListComp elt [⟨t, iter, ifs, 0⟩] sc pos) 0 it acc env) (fun r s' => match r with | .ok _ => Q () s' | .error _ => False) s₆) NoE s₅) NoE s₄
            else codeAny (model prog w) A (.compLoop (.ListComp elt [⟨t, iter, ifs, 0⟩] sc pos) 0 it acc env) (fun r s' => match r with | .ok _ => Q () s' | .error _ => False) s₄) NoE s₃) NoE s₂) NoE s₁) NoE s) :
    codeAny (model prog w) A (.compLoop (.ListComp elt [⟨t, iter, ifs, 0⟩] sc pos) 0 it acc env) (fun r s' => match r with | .ok _ => Q () s' | .error _ => False) s := by
  refine codeAny_of_tree ?_
  show wpAny _ A ((compTurn (.ListComp elt [⟨t, iter, ifs, 0⟩] sc pos) 0 it acc env).onRaise (fun x => do noteFrame x env; theTreesLotGoes x)) _ _ s
  refine wpAny_noted ?_
  rw [compTurn_list]
  refine wpAny_bind (wpAny_standAt (wpAny_bind (wpAny_mono h (fun o s₁ h₁ => ?_) fun _ _ z => z.elim)))
  induction o with
  | none => exact wpAny_pure h₁
  | some v =>
    refine wpAny_bind (wpAny_mono h₁ (fun _ s₂ h₂ => ?_) fun _ _ z => z.elim)
    refine wpAny_bind (wpAny_mono h₂ (fun _ s₃ h₃ => ?_) fun _ _ z => z.elim)
    refine wpAny_bind (wpAny_mono h₃ (fun ok s₄ h₄ => ?_) fun _ _ z => z.elim)
    induction ok with
    | true =>
      rw [if_pos rfl] at h₄
      exact wpAny_bind (wpAny_bind (wpAny_mono h₄ (fun x s₅ h₅ => wpAny_bind (wpAny_mono h₅ (fun _ s₆ h₆ => wpAny_pure (wpAny_pure ⟨rfl, h₆⟩)) fun _ _ z => z.elim)) fun _ _ z => z.elim))
    | false =>
      rw [if_neg (by decide)] at h₄
      exact wpAny_pure ⟨rfl, h₄⟩
end
end Mine
namespace Mine
open PySem PySem.W PyProof.Rows PySem.Calls PySem.Spec

section
variable {prog : Program} {w : World} {K : Frag} {p : Program} {loose : List Str} {mean : ExcName → Option Value} {mg mb : Str → Option Value} {T : PT} {D n : Nat} {I : Evs} {fi : FI} {fc : FC} {ρ : Nat → Addr} {st st' : St} {s : Shared}

theorem stepCp_sound (S : Snd prog w K p loose mean mg mb D n I) {t elt : Expr} {ifs : List Expr} {k j : Nat} {P : List Prop} (h : stepCp I fi t elt ifs k j st = some ((), st', P)) (hP : Ps P) (O : FrOk K p loose mean mg mb fi fc) (B : Room2 D (n + 1) fc.A) {Q : Unit → Shared → Prop}
    {iter : Expr} {sc : Scope} {pos : Pos} (r : Rel w.params fi fc ρ st s.heap) (hj : j < st.n) (H : Pst w.params fi fc ρ st st' s (fun _ _ => True) Q) :
    codeAny (model prog w) fc.A (.compLoop (.ListComp elt [⟨t, iter, ifs, 0⟩] sc pos) 0 (.ref (ρ k)) (.ref (ρ j)) fc.env) (fun r s' => match r with | .ok _ => Q () s' | .error _ => False) s := by
  have B' := B.step
  unfold stepCp at h
  refine bnd_el h hP fun oa st0 P1 P2 h1 h2 hP1 hP2 => ?_
  have hn := nxt_n h1 hP1
  have hk : k < st.n := by
    obtain ⟨m, os, R⟩ := r
    refine R.lt fun q => ?_
    unfold nxt at h1
    rw [q] at h1
    exact nn h1
  refine compTurn_sound (nxt_sound O.hh h1 hP1 r fun h' tk o r' ro hi => ?_)
  induction oa with
  | none =>
    induction o with
    | some v => exact ro.elim
    | none =>
      first | (obtain ⟨rfl, rfl, rfl⟩ := ret_some h2) | cases h2
      exact H ρ h' tk () ⟨Nat.le_of_eq hn.symm, fun _ _ => rfl⟩ r' trivial
  | some a =>
    cases o with
    | none => exact ro.elim
    | some v =>
      refine bnd_el h2 hP2 fun _ st1 P3 P4 h3 h4 hP3 hP4 => ?_
      refine bnd_el h4 hP4 fun c st2 P5 P6 h5 h6 hP5 hP6 => ?_
      have rv : RepV ρ st0.n a v := by rw [hn]; exact ro
      refine owned_no (s := { s with heap := h', toks := tk }) r' (hi (by intro q; cases q)) ?_
      refine S.asg _ _ _ _ _ _ _ h3 hP3 O B' ρ { s with heap := h', toks := tk } _ _ r' rv fun ρ1 h1' tk1 _ X1 r1 _ => ?_
      refine S.ts _ _ _ _ _ _ _ h5 hP5 O B' ρ1 { s with heap := h1', toks := tk1 } _ r1 fun ρ2 h2' tk2 v2 X2 r2 q2 => ?_
      subst q2
      have X12 : Ext ρ st.n ρ2 st2.n := by
        have := X1.trans X2
        rw [hn] at this; exact this
      induction v2 with
      | false =>
        rw [if_neg (by decide)]
        have ek : ρ2 k = ρ k := X12.2 k hk
        have ej : ρ2 j = ρ j := X12.2 j hj
        have := S.cp _ _ _ _ _ _ _ _ _ _ h6 hP6 O B' ρ2 { s with heap := h2', toks := tk2 } Q iter sc pos r2 (Nat.lt_of_lt_of_le hj X12.1) (fun ρ' h' tk v X r q => H ρ' h' tk v (X12.trans X) r q)
        rw [ek, ej] at this
        exact this
      | true =>
        rw [if_pos rfl]
        refine bnd_el h6 hP6 fun u st3 P7 P8 h7 h8 hP7 hP8 => ?_
        refine bnd_el h8 hP8 fun _ st4 P9 P10 h9 h10 hP9 hP10 => ?_
        refine S.e _ _ _ _ _ _ _ h7 hP7 O B' ρ2 { s with heap := h2', toks := tk2 } _ r2 fun ρ3 h3' tk3 v3 X3 r3 q3 => ?_
        have X13 := X12.trans X3
        have ej3 : ρ3 j = ρ j := X13.2 j hj
        have hb : bcall .append [.ref j, u] st3 = some (_, st4, P9) := h9
        refine bcall_sound (s := { s with heap := h3', toks := tk3 }) (b := .append) (cvs := [.ref (ρ j), v3]) O.hh hb hP9 r3 ⟨⟨Nat.lt_of_lt_of_le hj X13.1, by rw [ej3]⟩, q3, trivial⟩ fun ρ4 h4' tk4 _ X4 r4 _ => ?_
        have X14 := X13.trans X4
        have ek : ρ4 k = ρ k := X14.2 k hk
        have ej : ρ4 j = ρ j := X14.2 j hj
        have := S.cp _ _ _ _ _ _ _ _ _ _ h10 hP10 O B' ρ4 { s with heap := h4', toks := tk4 } Q iter sc pos r4 (Nat.lt_of_lt_of_le hj X14.1) (fun ρ' h' tk v X r q => H ρ' h' tk v (X14.trans X) r q)
        rw [ek, ej] at this
        exact this

theorem immut_nodict {ρ : Nat → Addr} {n : Nat} {a : AO} {o : Obj} (h : RepO w.params ρ n a o) (hm : a.mut = false) (hd : a ≠ .dead) (es : Array DictEntry) (ep : Nat) : o.data ≠ .dict es ep := by
  induction a using AO.casesOn with
  | dead => exact absurd rfl hd
  | inst D d => rw [h.2]; exact fun q => nomatch q
  | tup xs => obtain ⟨vs, k, rfl, _⟩ := h; exact fun q => nomatch q
  | rng q1 x y => obtain ⟨_, t, u, v, rfl⟩ := h; exact fun q => nomatch q
  | _ => exact ff hm.symm
/-- the block's own dictionary is let go -/
theorem Rel.dropC {C : Addr} {oC : Obj} {h h' : Heap} (r : Rel w.params fi { fc with rest := (C, oC) :: fc.rest } ρ st h) (hC : ∀ p ∈ fc.rest, p.1 ≠ C) (hs : Heap.SameBut C h h') (hoC : ∃ es ep, oC.data = .dict es ep) : Rel w.params fi fc ρ st h' := by
  obtain ⟨m, os, R⟩ := r
  obtain ⟨es, ep, hoC⟩ := hoC
  have hmem := R.N (C, oC) (List.mem_append_right _ (.head _))
  refine ⟨m, os, ⟨R.F.ns.sameBut hs (Ne.symm hmem.2.1), fun b o e => (hs.2 b fun q => by rw [q] at e; rw [hmem.2.2] at e; exact nn e).trans (R.F.keep b o e), R.F.above⟩, fun p hp => ?_, R.mu, R.len, R.os, R.out, R.inj, fun i hi p hp => R.ap i hi p (.tail _ hp), R.cl, R.lo, fun c xs hc => ?_⟩
  · have hp' : p ∈ ledF st.sg ρ 0 os ++ (C, oC) :: fc.rest ∧ p.1 ≠ C := by
      rcases List.mem_append.mp hp with hp | hp
      · refine ⟨List.mem_append_left _ hp, ?_⟩
        obtain ⟨i, o, ho, hd, rfl⟩ := mem_ledF.mp hp
        rw [Nat.zero_add] at hd ⊢
        intro q
        cases e : (st.sg.get i).mut with
        | true => exact R.ap i e (C, oC) (.head _) q.symm
        | false =>
          have h1 := (R.N (ρ i, o) (List.mem_append_left _ (mem_ledF.mpr ⟨i, o, ho, by rw [Nat.zero_add]; exact hd, by rw [Nat.zero_add]⟩))).1
          rw [show (ρ i, o).1 = C from q, hmem.1] at h1
          exact immut_nodict (R.os i o ho) e hd es ep (by rw [← show oC = o from Option.some.inj h1]; exact hoC)
      · exact ⟨List.mem_append_right _ (.tail _ hp), hC p hp⟩
    exact ⟨(hs.2 _ hp'.2).trans (R.N p hp'.1).1, (R.N p hp'.1).2⟩
  · obtain ⟨o, ho, hr⟩ := R.im c xs hc
    rcases List.mem_cons.mp ho with q | ho
    · exact absurd (show o.data = .dict es ep by rw [show o = oC from congrArg Prod.snd q]; exact hoC) (immut_nodict hr rfl (fun q => nomatch q) es ep)
    · exact ⟨_, ho, hr⟩

theorem compE_el {elt target iter : Expr} {ifs : List Expr} {sc : Scope} {x : AV × St × List Prop} {C : Prop} (h : compE I fi elt target iter ifs sc st = some x) (H : plainIt iter = true → noCell sc.names = true → localsOk sc.names sc.names = true → sc.kind = .function → ∀ cl, closA fi.cl sc.names = some cl →
    (bnd (I.e fi iter st) fun a st => opt (asRef a) fun l => bnd (mkIt l st) fun it st => opt (asRef it) fun k => bnd (alloc (.list none []) st) fun _ st1 =>
        bnd (I.cp ⟨relabel sc (dumEnv fi.sc), cl, false, none⟩ target elt ifs k st.n { st1 with mu := [] }) fun _ st' => ret (.ref st.n) { st' with mu := st1.mu }) = some x → C) : C := by
  unfold compE at h
  cases hb : andB (both (plainIt iter) (noCell sc.names)) (localsOk sc.names sc.names) with
  | false => rw [hb] at h; exact nn h
  | true =>
    rw [hb] at h
    obtain ⟨h1, h2⟩ := andB_iff hb
    have h3 : plainIt iter = true ∧ noCell sc.names = true := by
      cases q : plainIt iter with
      | true => rw [q] at h1; exact ⟨rfl, h1⟩
      | false => rw [q] at h1; cases h1
    cases hk : sc.kind with
    | function => rw [hk] at h; exact opt_el h fun cl hc h => H h3.1 h3.2 h2 hk cl hc h
    | _ => rw [hk] at h; exact nn h

set_option tactic.hygienic true in
/-- a comprehension: what it hands on, and how the frame it stands in is told -/
theorem compr_sound (S : Snd prog w K p loose mean mg mb D n I) {elt : Expr} {gens : List Comprehension} {sc : Scope} {pos : Pos} {a : AV} {P : List Prop} (h : stepE T I fi (.ListComp elt gens sc pos) st = some (a, st', P)) (hP : Ps P)
    (O : FrOk K p loose mean mg mb fi fc) (B : Room2 D (n + 1) fc.A) {Q : Value → Shared → Prop} (use : Option (Value → Sem Unit)) (r : Rel w.params fi fc ρ st s.heap)
    (H : ∀ ρ' h' tk v C oC m', Ext ρ st.n ρ' st'.n → Rel w.params fi { fc with rest := (C, oC) :: fc.rest } ρ' st' h' → (∀ p ∈ fc.rest, p.1 ≠ C) → (∃ es ep, oC.data = .dict es ep) → RepV ρ' st'.n a v → h'.Ns C m' →
      compPost (model prog w) fc.A NoE use Q v C (.ok .next) { s with heap := h', toks := tk }) :
    wpAny (model prog w) fc.A (comprehension (.ListComp elt gens sc pos) sc fc.env (firstIterPos gens pos) (newList []) (firstAsync gens) (firstIter gens fc.env) use) Q NoE s := by
  have B' := B.step
  induction gens using List.casesOn with
  | nil => exact nn h
  | cons g gs =>
    obtain ⟨target, iter, ifs, as⟩ := g
    obtain ⟨rfl, rfl⟩ : gs = [] ∧ as = 0 := by
      induction as using Int.casesOn with
      | negSucc => induction gs using List.casesOn <;> exact nn h
      | ofNat k => induction k using Nat.casesOn with
        | succ => induction gs using List.casesOn <;> exact nn h
        | zero => induction gs using List.casesOn with
          | nil => exact ⟨rfl, rfl⟩
          | cons => exact nn h
    refine compE_el (target := target) (ifs := ifs) h fun hpl hnc hlocs hkind cl hclos h => ?_
    refine bnd_el h hP fun x st1 P1 P2 h1 h2 hP1 hP2 => opt_el h2 fun l el h2 => ?_
    refine bnd_el h2 hP2 fun it st2 P3 P4 h3 h4 hP3 hP4 => opt_el h4 fun kI ei h4 => ?_
    refine bnd_el h4 hP4 fun acc st3 P5 P6 h5 h6 hP5 hP6 => ?_
    obtain ⟨rfl, rfl, rfl⟩ := ret_some h5
    obtain rfl := asRef_eq el
    obtain rfl := asRef_eq ei
    refine bnd_el h6 hP6 fun _ st4 P7 P8 h7 h8 hP7 hP8 => ?_
    obtain ⟨rfl, rfl, rfl⟩ := ret_some h8
    clear h h2 h4 h6 h8 h5
    have hcl0 : ∀ x l, look x fi.cl = some l → fc.env.cells.lookup (stn x) = some (ρ l) := by
      obtain ⟨m, os, R⟩ := r
      exact fun x l hx => (R.cl x l hx).2
    obtain ⟨clv, hcv, hcl⟩ := closure_of hcl0 hclos
    refine wpAny_comprehension_free (g := ⟨target, iter, ifs, 0⟩) (gs := []) rfl (plain_folds hpl fc.env) hcv hkind (localsOk_iff hlocs) ?_
    show wpAny _ _ (eval iter fc.env) _ _ _
    refine S.e _ _ _ _ _ _ _ h1 hP1 O B' ρ s _ r fun ρ1 h1' tk1 v1 X1 r1 q1 => ?_
    obtain ⟨hl1, rfl⟩ := q1
    refine mkIt_sound (s := { s with heap := h1', toks := tk1 }) h3 r1 hl1 fun ρ2 h2' tk2 v2 X2 r2 q2 => ?_
    obtain ⟨hI, rfl⟩ := q2
    refine alloc_list (s := { s with heap := h2', toks := tk2 }) r2 (xs := []) (pre := none) (vs := []) trivial (Nat.zero_le _) fun ρ3 h3' tk3 v3 X3 r3 q3 => ?_
    have X3 : Ext ρ2 st2.n ρ3 (st2.n + 1) := X3
    obtain ⟨hj3, rfl⟩ := q3
    have ek : ρ3 kI = ρ2 kI := X3.2 _ hI
    have X13 : Ext ρ st.n ρ3 (st2.n + 1) := X1.trans (X2.trans X3)
    refine wpAny_newFunctionEnv (noCell_iff hnc) (by intro y hy; simp at hy) (fun h₁ hns hsb => ?_) hkind
    obtain ⟨m3, os3, R3⟩ := r3
    obtain ⟨g, hg1, hg2, hg3, hg4, hg5, hg6⟩ := ground_of R3
    dsimp only at hns hsb ⊢
    have kp : ∀ b o, h3'.get? b = some o → h₁.get? b = some o := fun b o e => hsb.extBut b o (Nat.ne_of_lt (Heap.lt_size e)) (Heap.get?_push_of_some _ e)
    have F' : Fr g h3'.objs.size h₁ (fun x => ([] : List (Str × Value)).reverse.lookup x) := ⟨hns, fun b o e => kp b o (hg2 b o e), Nat.le_of_eq hg1⟩
    have N' : News g h3'.objs.size h₁ (ledF _ ρ3 0 os3 ++ fc.rest) := fun q hq => ⟨kp _ _ (R3.N q hq).1, Nat.ne_of_lt (Heap.lt_size (R3.N q hq).1), hg3 q hq⟩
    let fc' : FC := { A := fc.A, A₀ := fc.A₀, base := fc.base, outer := fc.outer, h₀ := g, env := compEnvC sc clv h3'.objs.size fc.env, rest := fc.rest }
    let fi' : FI := ⟨relabel sc (dumEnv fi.sc), cl, false, none⟩
    have O' : FrOk K p loose mean mg mb fi' fc' := ⟨O.X.keeps hg4, O.T.keeps hg4, O.hh, hkind, by show relabel sc fc.env = relabel sc (dumEnv fi.sc); rw [← O.sc]; rfl, O.gl, O.bl, (fun z => by cases z), fun b xs z => by cases z⟩
    have Rc : RelAt w.params fi' fc' ρ3 { (⟨st2.mu, st2.sg.set st2.n (.list none []), st2.n + 1, st2.or, st2.ov, st2.imm⟩ : St) with mu := [] } h₁ _ os3 :=
      ⟨F', N', (fun x b hb => by cases hb), R3.len, R3.os, R3.out, R3.inj, R3.ap, (fun x l' hx => by
        obtain ⟨c1, c2⟩ := hcl x l' hx
        obtain ⟨c3, c4⟩ := R3.cl x l' c1
        refine ⟨c3, ?_⟩
        show clv.lookup (stn x) = _
        rw [c2]
        have := hcl0 x l' c1
        rw [c4] at this
        exact this.symm), R3.lo, R3.im⟩
    have loop : ∀ tk, codeAny (model prog w) fc.A (.compLoop (.ListComp elt [⟨target, iter, ifs, 0⟩] sc pos) 0 (.ref (ρ2 kI)) (.ref (ρ3 st2.n)) (compEnvC sc clv h3'.objs.size fc.env))
        (compPost (model prog w) fc.A NoE use Q (.ref (ρ3 st2.n)) h3'.objs.size) { s with heap := h₁, toks := tk } := fun tk => by
      have := S.cp fi' fc' target elt ifs kI st2.n _ _ _ h7 hP7 O' B' ρ3 { s with heap := h₁, toks := tk } (fun _ s' => compPost (model prog w) fc.A NoE use Q (.ref (ρ3 st2.n)) h3'.objs.size (.ok .next) s') iter sc pos ⟨_, _, Rc⟩ (Nat.lt_succ_self _)
        (fun ρ4 h4' tk4 _ X4 r4 _ => by
          have X4 : Ext ρ3 (st2.n + 1) ρ4 st4.n := X4
          obtain ⟨m4, os4, R4⟩ := r4
          obtain ⟨F4, N4⟩ := hg6 _ _ _ _ R4.F R4.N
          obtain ⟨oC, es, ep, hgC, hdC, hkC, hfC⟩ := id R4.F.ns
          have hgC : h4'.get? h3'.objs.size = some oC := hgC
          refine H ρ4 h4' tk4 (.ref (ρ3 st2.n)) h3'.objs.size oC m4 (X13.trans X4) ⟨m3, os4, F4, ?_, ?_, R4.len, R4.os, R4.out, R4.inj, ?_, ?_, R4.lo, fun c xs hc => by obtain ⟨o, ho, q⟩ := R4.im c xs hc; exact ⟨o, .tail _ ho, q⟩⟩ ?_ ⟨es, ep, hdC⟩ ⟨Nat.lt_of_lt_of_le (Nat.lt_succ_self _) X4.1, by rw [X4.2 _ (Nat.lt_succ_self _)]⟩ R4.F.ns
          · intro q hq
            rcases List.mem_append.mp hq with hq | hq
            · exact N4 q (List.mem_append_left _ hq)
            · rcases List.mem_cons.mp hq with rfl | hq
              · refine ⟨hgC, fun z => ?_, ?_⟩
                · have := R3.F.ns.lt
                  rw [← z] at this
                  exact Nat.lt_irrefl _ this
                · cases z : fc.h₀.get? h3'.objs.size with
                  | none => rfl
                  | some o => exact absurd (Heap.lt_size (R3.F.keep _ _ z)) (Nat.lt_irrefl _)
              · exact N4 q (List.mem_append_right _ hq)
          · intro x b hb
            obtain ⟨v, hv, rv⟩ := R3.mu x b hb
            exact ⟨v, hv, rv.ext X4⟩
          · intro i hi q hq
            rcases List.mem_cons.mp hq with rfl | hq
            · obtain ⟨o, _, _, hm, _⟩ := R4.get (l := i) rfl (AO.mut_live hi)
              exact fun z => (R4.N _ hm).2.1 z.symm
            · exact R4.ap i hi q hq
          · intro x l' hx
            obtain ⟨c3, c4⟩ := R3.cl x l' hx
            exact ⟨Nat.lt_of_lt_of_le c3 X4.1, by rw [X4.2 _ c3]; exact c4⟩
          · intro q hq
            exact (R4.N q (List.mem_append_right _ hq)).2.1)
      rw [ek] at this
      refine codeAny_mono this fun r s' hr => ?_
      induction r with
      | ok f => (cases use <;> exact hr)
      | error e => exact hr.elim
    have hlive : ∀ ao, (⟨[], st2.sg.set st2.n (.list none []), st2.n + 1, st2.or, st2.ov, st2.imm⟩ : St).sg.get kI = ao → st2.sg.get kI = ao := fun ao e => by
      have e : (st2.sg.set st2.n (.list none [])).get kI = ao := e
      rw [Tr.get_set, if_neg (Nat.ne_of_lt hI)] at e
      exact e
    unfold mkIt at h3
    cases el : asList (st1.sg.get l) with
    | some q =>
      rw [el] at h3
      obtain ⟨hk, rfl, _⟩ := ret_some h3
      obtain rfl : _ = kI := Option.some.inj (congrArg asRef hk)
      refine codeAny_compStart_list (loop _) (wpAny_pyIter_listiter (i := 0) (l := ρ3 l) ?_ (loop _))
      obtain ⟨o, ho, ⟨hll, hc, hd⟩, hm, hgt⟩ := Rc.get (l := st1.n) (a := .liter l 0) (by
        show ((st1.sg.set st1.n (.liter l 0)).set (st1.n + 1) (.list none [])).get st1.n = _
        rw [Tr.get_set, if_neg (by lia), Tr.get_set, if_pos rfl]) (by intro q; cases q)
      rw [ek] at hgt
      exact ⟨o, hgt, hc, hd⟩
    | none =>
      rw [el] at h3
      refine opt_el h3 fun g _ y1 => ?_
      obtain ⟨hk, rfl, _⟩ := ret_some y1
      obtain rfl : _ = kI := Option.some.inj (congrArg asRef hk)
      obtain ⟨o, ho, hob, hm, hgt⟩ := Rc.get (l := st1.n) (a := .riter g.1 g.2.1 (if g.2.1 < g.2.2 then g.2.2 - g.2.1 else 0)) (by
        show ((st1.sg.set st1.n (.riter g.1 g.2.1 (if g.2.1 < g.2.2 then g.2.2 - g.2.1 else 0))).set (st1.n + 1) (.list none [])).get st1.n = _
        rw [Tr.get_set, if_neg (by lia), Tr.get_set, if_pos rfl]) (by intro q; cases q)
      rw [ek] at hgt
      have hob : o = { cls := .type "range_iterator", dict := none, data := .fields #[rawInt g.2.1, rawInt (if g.2.1 < g.2.2 then g.2.2 - g.2.1 else 0), rawInt 1], slots := #[] } := hob
      subst hob
      exact codeAny_compStart_list (loop _) (wpAny_pyIter_rangeiter hgt (loop _))
end
end Mine
namespace Mine
open PySem PySem.W PyProof.Rows PySem.Calls PySem.Spec

theorem lookup_of_memV {x : Str} {v : Value} : ∀ {l : List (Str × Value)}, (l.map (·.1)).Nodup → (x, v) ∈ l → l.lookup x = some v
  | (y, u) :: r, nd, h => by
    rw [List.map_cons, List.nodup_cons] at nd
    rw [List.lookup_cons]
    rcases List.mem_cons.mp h with h | h
    · cases h; simp
    · have : x ≠ y := fun q => nd.1 (List.mem_map.mpr ⟨(x, v), h, q⟩)
      rw [show (x == y) = false from by simpa using this]
      exact lookup_of_memV nd.2 h

section
variable {prog : Program} {w : World} {K : Frag} {p : Program} {loose : List Str} {mean : ExcName → Option Value} {mg mb : Str → Option Value} {T : PT} {D n : Nat} {I : Evs} {fi : FI} {fc : FC} {ρ : Nat → Addr} {st st' : St} {s : Shared}

set_option tactic.hygienic true in
theorem zipP_some {m : Nat} : ∀ {ps : List Nm} {vs : List AV} {mu : List (Nm × AV)} {cvs : List Value}, zipP ps vs = some mu → All2 (RepV ρ m) vs cvs →
    cvs.length = ps.length ∧ ∀ x a, look x mu = some a → ∃ v, (stn x, v) ∈ (ps.map stn).zip cvs ∧ RepV ρ m a v
  | [], [], mu, [], h, _ => by cases h; exact ⟨rfl, fun x a h => by cases h⟩
  | y :: ps, b :: vs, mu, v :: cvs, h, ha => by
    unfold zipP at h
    split at h
    · rename_i r hr
      first | (obtain ⟨rfl, rfl, rfl⟩ := ret_some h) | cases h
      obtain ⟨h1, h2⟩ := zipP_some hr ha.2
      refine ⟨by simp [h1], fun x a hx => ?_⟩
      unfold look at hx
      split at hx
      · rename_i q
        first | (obtain ⟨rfl, rfl, rfl⟩ := ret_some hx) | cases hx
        rw [nmEq_iff.mp q]
        exact ⟨v, .head _, ha.1⟩
      · obtain ⟨u, hu, ru⟩ := h2 x a hx
        exact ⟨u, .tail _ hu, ru⟩
    · first | exact nn h | cases h
  | [], [], _, _ :: _, _, ha => ha.elim
  | [], _ :: _, _, _, h, _ => by cases h
  | _ :: _, [], _, _, h, _ => by cases h
  | _ :: _, _ :: _, _, [], _, ha => ha.elim

theorem zip_keys : ∀ {ps : List Nm} {cvs : List Value}, cvs.length = ps.length → ((ps.map stn).zip cvs).map (·.1) = ps.map stn
  | [], [], _ => rfl
  | x :: ps, v :: cvs, h => by
    show stn x :: ((ps.map stn).zip cvs).map (·.1) = _
    rw [zip_keys (by simpa using h)]; rfl

set_option tactic.hygienic true in
theorem enter_sound (S : Snd prog w K p loose mean mg mb D n I) {f : Addr} {g : FnI} (G : FnRec K f g) {A : Around} (hd : A.depth ≤ fc.A.depth + 1) (hu : A.units ≤ fc.A.units + 1) (hfr : A.frames = fc.A.frames) (hhA : A.handled = none)
    {vs : List AV} {cvs : List Value} {a : AV} {P : List Prop} (h : enter I g vs st = some (a, st', P)) (hP : Ps P) (O : FrOk K p loose mean mg mb fi fc) (own : fi.own = true) (B : Room2 D (n + 1) fc.A) (big : D ≤ 900)
    {R : Result → Shared → Prop} (r : Rel w.params fi fc ρ st s.heap) (rv : All2 (RepV ρ st.n) vs cvs)
    (H : ∀ ρ' h' tk v, Ext ρ st.n ρ' st'.n → Rel w.params fi fc ρ' st' h' → RepV ρ' st'.n a v → R (.ok (.ret v)) { s with heap := h', toks := tk }) :
    codeAny (model prog w) A (.call (.ref f) ⟨cvs, []⟩) R s := by
  obtain ⟨m, os, R0⟩ := r
  obtain ⟨oc, od, name, qual, params, dV, kV, doc, pm, an, cdv, ct, osl, ho, hcd, hbind⟩ := G.ex
  obtain ⟨hB, hF, hL⟩ := O.own own
  unfold enter at h
  split at h
  · rename_i mu hz
    refine bnd_el h hP fun fl st1 P1 P2 h1 h2 hP1 hP2 => ?_
    first | (obtain ⟨rfl, rfl, rfl⟩ := ret_some h2) | cases h2
    obtain ⟨hlen, hmu⟩ := zipP_some hz rv
    have hk := zip_keys hlen
    have hA : A.frames = some (fc.env :: fc.outer) := hfr.trans hF
    refine code_def (binds := (g.ps.map stn).zip cvs) (s := s) hB R0.F O.X R0.N O.T hA hL O.hk ho hcd ?_ (BindsTo.of_eq (hbind cvs hlen)) (fun y hy => ?_) (fun g' L' h₁ FG F' N' B' X' T' => ?_) G.co G.gen G.kind G.cell
    · have := B.1
      have e : recursionLimit = 1000 := rfl
      rw [e]; lia
    · have : y.1 ∈ g.ps.map stn := by rw [← hk]; exact List.mem_map.mpr ⟨y, hy, rfl⟩
      obtain ⟨x, hx, hxy⟩ := List.mem_map.mp this
      rw [← hxy]; exact G.loc x hx
    · have O' : FrOk K p loose mean mg mb ⟨g.sc, [], true, none⟩ { A := A.deeper (envOf qual g.sc L' f cdv), A₀ := A, base := fc.base, outer := fc.env :: fc.outer, h₀ := g', env := envOf qual g.sc L' f cdv, rest := fc.rest } :=
        ⟨X', T', hhA, G.kind, rfl, rfl, rfl, (fun _ => ⟨B', Around.frames_deeper hA, rfl⟩), fun b xs z => by cases z⟩
      have Rc : RelAt w.params ⟨g.sc, [], true, none⟩ { A := A.deeper (envOf qual g.sc L' f cdv), A₀ := A, base := fc.base, outer := fc.env :: fc.outer, h₀ := g', env := envOf qual g.sc L' f cdv, rest := fc.rest } ρ { st with mu := mu } h₁ _ os :=
        ⟨F', N', (fun x b hb => by
          obtain ⟨v, hv, rv⟩ := hmu x b hb
          refine ⟨v, lookup_of_memV ?_ (List.mem_reverse.mpr hv), rv⟩
          rw [List.map_reverse, hk]
          refine (List.reverse_perm _).nodup_iff.mpr ?_
          exact List.Pairwise.map _ (fun a b q e => q (stn_inj e)) G.nd), R0.len, R0.os, R0.out, R0.inj, R0.ap, (fun x l hx => by cases hx), R0.lo, R0.im⟩
      refine wpAny_mono (S.ss _ _ _ _ _ _ _ h1 hP1 O' ⟨?_, ?_⟩ ρ { s with heap := h₁, toks := s.toks + ((g.ps.map stn).zip cvs).length } _ ⟨_, _, Rc⟩ fun ρ1 h1' tk v X r1 q => ?_) (fun _ _ x => x) (fun _ _ x => x.elim)
      · show A.depth + 1 + 2 * n ≤ D
        have := B.1; lia
      · show A.units + 3 + 10 * n ≤ 10 * D
        have := B.2; lia
      · obtain ⟨m1, os1, R1⟩ := r1
        have X : Ext ρ st.n ρ1 st1.n := X
        refine leaveK_ R1.F R1.N fun F2 N2 => H ρ1 h1' tk _ X ⟨m, os1, F2, N2, (fun x b hb => ?_), R1.len, R1.os, R1.out, R1.inj, R1.ap, (fun x l hx => ?_), R1.lo, R1.im⟩ ?_
        · obtain ⟨u, hu, ru⟩ := R0.mu x b hb
          exact ⟨u, hu, ru.ext X⟩
        · obtain ⟨c1, c2⟩ := R0.cl x l hx
          exact ⟨Nat.lt_of_lt_of_le c1 X.1, by rw [c2, X.2 l c1]⟩
        · induction fl with
          | next => obtain rfl := q; rfl
          | brk => obtain rfl := q; rfl
          | cont => obtain rfl := q; rfl
          | ret b => obtain ⟨u, rfl, ru⟩ := q; exact ru
  · first | exact nn h | cases h
end
end Mine
namespace Mine
open PySem PySem.W PyProof.Rows PySem.Calls PySem.Spec

section
variable {prog : Program} {w : World} {K : Frag} {p : Program} {loose : List Str} {mean : ExcName → Option Value} {mg mb : Str → Option Value} {T : PT} {D n : Nat} {I : Evs} {fi : FI} {fc : FC} {ρ : Nat → Addr} {st st' : St} {s : Shared}

theorem Room2.zero {D n : Nat} {A : Around} (h : Room2 D n A) : Room2 D 0 A := ⟨by have := h.1; lia, by have := h.2; lia⟩

set_option tactic.hygienic true in
theorem stepCall_sound (S : Snd prog w K p loose mean mg mb D n I) (ok : PTOk3 prog w K p loose mean mg mb T D) {own : Bool} {f : Fn} {vs : List AV} {cvs : List Value} {a : AV} {P : List Prop} (h : stepCall T I own f vs st = some (a, st', P)) (hP : Ps P)
    (O : FrOk K p loose mean mg mb fi fc) (ho : own = true → fi.own = true) (B : Room2 D (n + 1) fc.A) {Q : Value → Shared → Prop} (r : Rel w.params fi fc ρ st s.heap) (rv : All2 (RepV ρ st.n) vs cvs)
    (H : Pst w.params fi fc ρ st st' s (fun ρ' v => RepV ρ' st'.n a v) Q) : wpAny (model prog w) fc.A (call f.val cvs) Q NoE s := by
  unfold stepCall at h
  split at h
  · split at h
    · first | exact nn h | cases h
    · exact bcall_sound O.hh h hP r rv H
  · rename_i fa
    split at h
    · first | exact nn h | cases h
    · have hown := ho rfl
      split at h
      · rename_i k hk
        exact ok.ext _ _ hk _ _ _ _ _ _ _ h hP O hown B.zero ρ s cvs Q r rv H
      · split at h
        · rename_i g hg
          refine wpAny_call (enter_sound S (ok.fns _ _ hg) (Nat.le_succ _) (Nat.le_succ _) rfl O.hh h hP O hown B ok.big r rv fun ρ' h' tk v X r' q => ?_)
          exact H ρ' h' tk v X r' q
        · split at h
          · rename_i ci hci
            split at h
            · rename_i g hg
              refine bnd_el h hP fun _ st1 P1 P2 h1 h2 hP1 hP2 => ?_
              first | (obtain ⟨rfl, rfl, rfl⟩ := ret_some h1) | cases h1
              refine bnd_el h2 hP2 fun x st2 P3 P4 h3 h4 hP3 hP4 => ?_
              first | (obtain ⟨rfl, rfl, rfl⟩ := ret_some h3) | cases h3
              refine bnd_el h4 hP4 fun rr st3 P5 P6 h5 h6 hP5 hP6 => ?_
              obtain ⟨m, os, R⟩ := r
              have C := ok.cls _ _ hci
              refine call_cls R.F O.X R.N C.makes C.ini C.inif fun xa dx h' F' N' hlt hxd => ?_
              obtain ⟨R1, X1⟩ := R.push (ao := .dict []) (a := dx) (o := dictOf [] 0) F' (fun q hq => N' q (.tail _ hq)) hlt ⟨[], 0, rfl, trivial⟩
              have hlt2 : ∀ q ∈ ledF (st.sg.set st.n (.dict [])) (fun i => if i = st.n then dx else ρ i) 0 (os ++ [dictOf [] 0]) ++ fc.rest, q.1 < xa := by
                intro q hq
                rcases List.mem_append.mp hq with hq | hq
                · obtain ⟨i, o', ho', hgi, rfl⟩ := mem_ledF.mp hq
                  rw [Nat.zero_add] at hgi ⊢
                  by_cases e : i = st.n
                  · simp only [e, if_true]; exact hxd
                  · simp only [e, if_false]
                    rw [Tr.get_set, if_neg e] at hgi
                    obtain ⟨o2, _, _, hm2, _⟩ := R.get (l := i) rfl hgi
                    exact Nat.lt_trans (hlt _ hm2) hxd
                · exact Nat.lt_trans (hlt q (List.mem_append_right _ hq)) hxd
              obtain ⟨R2, X2⟩ := R1.push (ao := .inst fa st.n) (a := xa) (o := instObj fa dx) F' (fun q hq => by
                rcases List.mem_cons.mp hq with rfl | hq
                · exact N' _ (.head _)
                · exact R1.N q hq) hlt2 ⟨Nat.lt_succ_of_lt (Nat.lt_succ_self _), by simp⟩
              have X12 := X1.trans X2
              refine enter_sound S (ok.fns _ _ hg) (s := { s with heap := h' }) (Nat.le_of_eq (depth_under_make _ _ _)) (Nat.le_of_eq (units_under_make _ _ _)) rfl O.hh h5 hP5 O hown B ok.big ⟨_, _, R2⟩ ⟨⟨Nat.lt_succ_self _, by simp⟩, rv.mono fun _ _ _ q => q.ext X12⟩ fun ρ' h'' tk v X r' q => ?_
              have hxx : ρ' (st.n + 1) = xa := by
                rw [X.2 _ (Nat.lt_succ_self _)]; simp
              split at h6
              · first | (obtain ⟨rfl, rfl, rfl⟩ := ret_some h6) | cases h6
                obtain rfl := q
                exact ⟨rfl, H ρ' h'' tk (.ref xa) (X12.trans X) r' ⟨Nat.lt_of_lt_of_le (Nat.lt_succ_self _) X.1, by rw [hxx]⟩⟩
              · first | exact nn h6 | cases h6
            · first | exact nn h | cases h
          · first | exact nn h | cases h
end
end Mine
namespace Mine
open PySem PySem.W PyProof.Rows PySem.Calls PySem.Spec

section
variable {prog : Program} {w : World} {K : Frag} {p : Program} {loose : List Str} {mean : ExcName → Option Value} {mg mb : Str → Option Value} {T : PT} {D n : Nat} {I : Evs} {fi : FI} {fc : FC} {ρ : Nat → Addr} {st st' : St} {s : Shared}

theorem comp_sound (S : Snd prog w K p loose mean mg mb D n I) {elt : Expr} {gens : List Comprehension} {sc : Scope} {pos : Pos} {a : AV} {P : List Prop} (h : stepE T I fi (.ListComp elt gens sc pos) st = some (a, st', P)) (hP : Ps P)
    (O : FrOk K p loose mean mg mb fi fc) (B : Room2 D (n + 1) fc.A) {Q : Value → Shared → Prop} (r : Rel w.params fi fc ρ st s.heap) (H : Pst w.params fi fc ρ st st' s (fun ρ' v => RepV ρ' st'.n a v) Q) :
    wpAny (model prog w) fc.A (eval (.ListComp elt gens sc pos) fc.env) Q NoE s := by
  rw [eval_ListComp]
  have hfa : firstAsync gens = false := by
    unfold stepE at h
    dsimp only at h
    split at h
    · rfl
    · first | exact nn h | cases h
  have := compr_sound (Q := Q) S h hP O B none r (fun ρ' h' tk v C oC m' X r' hC hD rv hns => by
    exact ⟨m', hns, fun h'' hs => H ρ' h'' tk v X (r'.dropC hC hs hD) rv⟩)
  rw [hfa] at this ⊢
  exact this

theorem swapsSole {es : List Expr} {k : Nat} {tp : Pos} {v : Expr} {line : Nat} {env : Env} (hv : plainV v = true) : swapsWithSole [.Tuple es k tp] v line env = pure false := by
  cases v <;> first | rfl | cases hv

/-- a statement's step is sound -/
noncomputable def JS (prog : Program) (w : World) (fi : FI) (fc : FC) (T : PT) (I : Evs) (x : Stmt) : Prop := J w fi fc [] [] (stepS T I fi x) RepF (fun Q s => wpAny (model prog w) fc.A (exec x fc.env) Q NoE s)
theorem JS.none {x : Stmt} (h : stepS T I fi x = fun _ => Option.none) : JS prog w fi fc T I x := fun st _ _ _ e => by rw [h] at e; exact nn e
theorem refJ {α β : Type} {L : List AV} {V : List Value} {R : (Nat → Addr) → Nat → α → β → Prop} {wp : (β → Shared → Prop) → Shared → Prop} {a : AV} {va : Value} {e1 : Nat → St → Rr α} (h : ∀ l, J w fi fc (.ref l :: L) (va :: V) (e1 l) R wp) : J w fi fc (a :: L) (va :: V) (fun st => match a with | .ref l => e1 l st | _ => none) R wp := by
  induction a using AV.casesOn with
  | ref c => exact h c
  | _ => exact J.none
theorem storeNJ (O : FrOk K p loose mean mg mb fi fc) {x : Str} {a : AV} {va : Value} {L : List AV} {V : List Value} : J w fi fc (a :: L) (va :: V) (storeN fi (nm x) a) rU (fun Q s => wpAny (model prog w) fc.A (storeName fc.env x va) Q NoE s) :=
  fun _ _ _ _ h _ _ _ _ r c H => storeN_sound O h r c.1 H
theorem setAJ (ok : PTOk3 prog w K p loose mean mg mb T D) (O : FrOk K p loose mean mg mb fi fc) {x : Str} {a b : AV} {va vb : Value} {L : List AV} {V : List Value} : J w fi fc (b :: a :: L) (vb :: va :: V) (setA T b (nm x) a) rU (fun Q s => wpAny (model prog w) fc.A (setAttr vb x va) Q NoE s) :=
  fun _ _ _ _ h _ _ _ _ r c H => setA_sound ok.toPTOk2 O h r c.1 c.2.1 H
theorem setIJ {a b k : AV} {va vb vk : Value} {L : List AV} {V : List Value} : J w fi fc (k :: b :: a :: L) (vk :: vb :: va :: V) (setI b k a) rU (fun Q s => wpAny (model prog w) fc.A (setItem vb vk va) Q NoE s) :=
  fun _ _ _ _ h hP _ _ _ r c H => setI_sound h hP r c.2.1 c.1 c.2.2.1 H
set_option tactic.hygienic true in
theorem swapJ (S : Snd prog w K p loose mean mg mb D n I) (O : FrOk K p loose mean mg mb fi fc) (B' : Room2 D n fc.A) {es : List Expr} {k : Nat} {tp pos : Pos} {v : Expr} {names : List Str} (hv : plainV v = true) (hsw : swappedStores [.Tuple es k tp] v fc.env = pure (some names)) :
    J w fi fc [] [] (fun st => bnd (I.e fi v st) fun a st => bnd (unp a names.length st) fun xs st => bnd (storeNs fi names.reverse xs.reverse st) fun _ st => ret .next st) RepF (fun Q s => wpAny (model prog w) fc.A (exec (.Assign [.Tuple es k tp] v pos) fc.env) Q NoE s) := by
  refine J.by (fun _ _ h => Assign_Tuple_swapped h (swapsSole hv) hsw) ?_
  refine J.bndV (S.je O B' v) fun a va => ?_
  intro st a' st' P h hP ρ s Q r c H
  refine bnd_el h hP fun xs st2 P3 P4 h3 h4 hP3 hP4 => ?_
  refine bnd_el h4 hP4 fun _ st3 P5 P6 h5 h6 hP5 hP6 => ?_
  obtain ⟨rfl, rfl, rfl⟩ := ret_some h6
  obtain ⟨l, vs, rfl, ht, hv', hlen, hn, r2⟩ := unp_sound h3 hP3 r c.1
  have hvl := hv'.length
  have e2 : names.length = vs.toArray.size := by simp; lia
  rw [e2]
  refine wpAny_unpackItems_tuple O.hh ht fun h2' he => ?_
  obtain ⟨m, os, R⟩ := r2
  exact storeNs_sound O _ _ _ _ ρ { s with heap := h2' } _ _ h5 hP5 ⟨m, os, R.extBut he⟩ hv'.reverse fun ρ3 h3' tk3 _ X3 r3 _ => H _ _ _ _ (by rw [hn] at X3; exact X3) r3 rfl
theorem forJ (S : Snd prog w K p loose mean mg mb D n I) (O : FrOk K p loose mean mg mb fi fc) (B' : Room2 D n fc.A) {t i : Expr} {b : List Stmt} {pos : Pos} (hpl : plainIt i = true) :
    J w fi fc [] [] (fun st => bnd (I.e fi i st) fun a st => match a with
        | .ref l => bnd (mkIt l st) fun it st => match it with
            | .ref k => I.fr fi t k b st
            | _ => none
        | _ => none) RepF (fun Q s => wpAny (model prog w) fc.A (exec (.For t i b [] pos) fc.env) Q NoE s) := by
  refine J.by (fun _ _ h => wpAny_For h (plain_folds hpl fc.env)) ?_
  refine J.bndV (S.je O B' i) fun a va => refJ fun l => ?_
  refine J.bndV (wp1 := fun Q s => wpAny (model prog w) fc.A (pyIter va) Q NoE s) (fun _ _ _ _ h _ _ _ _ r c H => by obtain ⟨hl1, rfl⟩ := c.1; exact mkIt_sound h r hl1 H) fun it vit => refJ fun k => ?_
  intro st a' st' P h hP ρ s Q r c H
  obtain ⟨hI, rfl⟩ := c.1
  refine codeAny_mono (S.fr _ _ _ _ _ _ _ _ _ h hP O B' ρ s Q r H) fun r s' hr => ?_
  induction r with
  | ok f => exact hr
  | error e => exact hr.elim
set_option tactic.hygienic true in
theorem compAsgJ (S : Snd prog w K p loose mean mg mb D n I) (O : FrOk K p loose mean mg mb fi fc) (B' : Room2 D n fc.A)
    (hL : ∀ st ρ s, Rel w.params fi fc ρ st s.heap → ∀ elt gens sc pos v st1 P1, I.e fi (.ListComp elt gens sc pos) st = some (v, st1, P1) → Ps P1 → ∀ (use : Option (Value → Sem Unit)) (Q : Value → Shared → Prop), (∀ ρ' h' tk v' C oC m', Ext ρ st.n ρ' st1.n → Rel w.params fi { fc with rest := (C, oC) :: fc.rest } ρ' st1 h' → (∀ p ∈ fc.rest, p.1 ≠ C) → (∃ es ep, oC.data = .dict es ep) → RepV ρ' st1.n v v' → h'.Ns C m' →
      compPost (model prog w) fc.A NoE use Q v' C (.ok .next) { s with heap := h', toks := tk }) →
      wpAny (model prog w) fc.A (comprehension (.ListComp elt gens sc pos) sc fc.env (firstIterPos gens pos) (newList []) (firstAsync gens) (firstIter gens fc.env) use) Q NoE s)
    {elt : Expr} {gens : List Comprehension} {sc : Scope} {lp tp pos : Pos} {x : Str} :
    J w fi fc [] [] (fun st => match pureOf (swapsWith (.ListComp elt gens sc lp) (some (.Name x tp)) pos.line (dumEnv fi.sc)) with
        | some _ => bnd (I.e fi (.ListComp elt gens sc lp) st) fun a st => bnd (storeN fi (nm x) a st) fun _ st => ret .next st
        | none => none) RepF (fun Q s => wpAny (model prog w) fc.A (exec (.Assign [.Name x tp] (.ListComp elt gens sc lp) pos) fc.env) Q NoE s) := by
  cases hsw : pureOf (swapsWith (.ListComp elt gens sc lp) (some (.Name x tp)) pos.line (dumEnv fi.sc)) with
  | none => exact J.none
  | some bsw =>
    have hsw := pureOf_some hsw
    rw [← O.sc, ← swaps_dum] at hsw
    induction bsw with
    | false =>
      refine J.by (fun _ _ h => wpAny_Assign_Name h hsw) ?_
      refine J.bndV (S.je O B' _) fun a va => ?_
      exact J.bndU (storeNJ O) (J.ret fun _ s _ _ _ k => k _ s.toks rfl)
    | true =>
      intro st a' st' P h hP ρ s Q r c H
      refine bnd_el h hP fun b st1 P1 P2 h1 h2 hP1 hP2 => ?_
      refine bnd_el h2 hP2 fun _ st2 P3 P4 h3 h4 hP3 hP4 => ?_
      obtain ⟨rfl, rfl, rfl⟩ := ret_some h4
      rw [exec_Assign_Name_used _ _ _ _ hsw]
      refine wpAny_bind (wpAny_standAt (wpAny_bind ?_))
      rw [arm_evalThenUse_ListComp]
      refine wpAny_bind (hL st ρ s r _ _ _ _ _ _ _ h1 hP1 _ _ fun ρ1 h' tk v' C oC m' X r1 hC hD rv hns => ?_)
      show wpAny _ _ _ _ _ _
      have O2 : FrOk K p loose mean mg mb fi { fc with rest := (C, oC) :: fc.rest } := ⟨O.X, O.T, O.hh, O.hk, O.sc, O.gl, O.bl, O.own, O.scr⟩
      refine assign_Name (env := fc.env) (storeN_sound (fc := { fc with rest := (C, oC) :: fc.rest }) (s := { s with heap := h', toks := tk }) O2 h3 r1 rv fun ρ2 h2' tk2 _ X2 r2 _ => ?_)
      obtain ⟨m2, os2, R2⟩ := r2
      have hm := R2.N (C, oC) (List.mem_append_right _ (.head _))
      refine ⟨m', ?_, fun h3' hs3 => wpAny_pure (wpAny_pure (H ρ2 h3' tk2 .next (X.trans X2) (Rel.dropC ⟨m2, os2, R2⟩ hC hs3 hD) rfl))⟩
      obtain ⟨m1, os1, R1⟩ := r1
      have hm1 := R1.N (C, oC) (List.mem_append_right _ (.head _))
      obtain ⟨oC', es, ep, hg1, hg2, hg3, hg4⟩ := hns
      exact ⟨oC', es, ep, by rw [hm1.1] at hg1; cases hg1; exact hm.1, hg2, hg3, hg4⟩
set_option tactic.hygienic true in
theorem plainAsgJ (S : Snd prog w K p loose mean mg mb D n I) (ok : PTOk3 prog w K p loose mean mg mb T D) (O : FrOk K p loose mean mg mb fi fc) (B' : Room2 D n fc.A) {t v : Expr} {pos : Pos} (hv : plainV v = true)
    (hz : ∀ L V, J w fi fc L V (ret AFl.next) RepF (fun Q s => Q Flow.next s)) : J w fi fc [] [] (fun st => match t with
      | .Name x _ => bnd (I.e fi v st) fun a st => bnd (storeN fi (nm x) a st) fun _ st => ret .next st
      | .Attribute o x _ => bnd (I.e fi v st) fun a st => bnd (I.e fi o st) fun b st => bnd (setA T b (nm x) a st) fun _ st => ret .next st
      | .Subscript o i _ => bnd (I.e fi v st) fun a st => bnd (I.e fi o st) fun b st => bnd (I.e fi i st) fun k st => bnd (setI b k a st) fun _ st => ret .next st
      | .Tuple es k tp => opt (pureOf (swappedStores [.Tuple es k tp] v (dumEnv fi.sc))) fun o => match o with
        | none => bnd (I.e fi v st) fun a st => bnd (I.asg fi (.Tuple es k tp) a st) fun _ st => ret .next st
        | some names => bnd (I.e fi v st) fun a st => bnd (unp a names.length st) fun xs st => bnd (storeNs fi names.reverse xs.reverse st) fun _ st => ret .next st
      | _ => none) RepF (fun Q s => wpAny (model prog w) fc.A (exec (.Assign [t] v pos) fc.env) Q NoE s) := by
  induction t using PySem.Expr.casesOn with
  | Name x tp =>
    refine J.by (fun _ _ h => wpAny_Assign_Name h (plain_swaps hv _ _ _)) ?_
    refine J.bndV (S.je O B' v) fun a va => ?_
    exact J.bndU (storeNJ O) (hz _ _)
  | Attribute o x tp =>
    refine J.by (fun _ _ h => plainObj_wpAny_Assign_Attribute h (plain_swaps hv _ _ _)) ?_
    refine J.bndV (S.je O B' v) fun a va => ?_
    refine J.bndV (S.je O B' o) fun b vb => ?_
    exact J.bndU (setAJ ok O) (hz _ _)
  | Subscript o i tp =>
    refine J.by (fun _ _ h => wpAny_Assign_Subscript h (plain_swaps hv _ _ _)) ?_
    refine J.bndV (S.je O B' v) fun a va => ?_
    refine J.bndV (S.je O B' o) fun b vb => ?_
    refine J.bndV (S.je O B' i) fun k vk => ?_
    exact J.bndU setIJ (hz _ _)
  | Tuple es k tp =>
    refine J.opt fun o hsw => ?_
    have hsw := pureOf_some hsw
    rw [← O.sc, ← swapped_dum] at hsw
    induction o using Option.casesOn with
    | none =>
      refine J.by (fun _ _ h => Assign_Tuple h (swapsSole hv) hsw) ?_
      refine J.bndV (S.je O B' v) fun a va => ?_
      exact J.bndU (wp1 := fun Q s => wpAny (model prog w) fc.A (assign (.Tuple es k tp) fc.env va) Q NoE s) (fun _ _ _ _ h hP ρ s Q r c H => S.asg _ _ _ _ _ _ _ h hP O B' ρ s _ Q r c.1 H) (hz _ _)
    | some names => exact swapJ S O B' hv hsw
  | _ => exact J.none
set_option tactic.hygienic true in
theorem stepS_J (S : Snd prog w K p loose mean mg mb D n I) (ok : PTOk3 prog w K p loose mean mg mb T D)
    (hL : ∀ st ρ s, Rel w.params fi fc ρ st s.heap → ∀ elt gens sc pos v st1 P1, I.e fi (.ListComp elt gens sc pos) st = some (v, st1, P1) → Ps P1 → ∀ (use : Option (Value → Sem Unit)) (Q : Value → Shared → Prop), (∀ ρ' h' tk v' C oC m', Ext ρ st.n ρ' st1.n → Rel w.params fi { fc with rest := (C, oC) :: fc.rest } ρ' st1 h' → (∀ p ∈ fc.rest, p.1 ≠ C) → (∃ es ep, oC.data = .dict es ep) → RepV ρ' st1.n v v' → h'.Ns C m' →
      compPost (model prog w) fc.A NoE use Q v' C (.ok .next) { s with heap := h', toks := tk }) →
      wpAny (model prog w) fc.A (comprehension (.ListComp elt gens sc pos) sc fc.env (firstIterPos gens pos) (newList []) (firstAsync gens) (firstIter gens fc.env) use) Q NoE s)
    (O : FrOk K p loose mean mg mb fi fc) (B : Room2 D (n + 1) fc.A) (x : Stmt) : JS prog w fi fc T I x := by
  have B' := B.step
  have hz : ∀ L V, J w fi fc L V (ret AFl.next) RepF (fun Q s => Q Flow.next s) := fun _ _ => J.ret fun _ s _ _ _ k => k _ s.toks rfl
  induction x using PySem.Stmt.casesOn with
  | Expr v pos =>
    refine J.only fun hv => ?_
    refine J.by (fun _ _ h => wpAny_Expr_any h (by unfold interactive; rw [O.hk]; rfl) (plain_swaps hv _ _ _)) ?_
    exact J.bndV (S.je O B' v) fun a va => hz _ _
  | Pass pos => exact J.by (fun _ _ h => wpAny_Pass h) (hz _ _)
  | Break pos => exact J.ret fun _ s _ _ _ k => wpAny_Break (k _ s.toks rfl)
  | Continue pos => exact J.ret fun _ s _ _ _ k => wpAny_Continue (k _ s.toks rfl)
  | Return v pos => induction v using Option.casesOn with
    | none => exact J.ret fun _ s _ _ _ k => wpAny_Return_none (k _ s.toks ⟨_, rfl, rfl⟩)
    | some e =>
      refine J.by (fun _ _ h => wpAny_Return_some h) ?_
      exact J.bndV (S.je O B' e) fun a va => J.ret fun _ s _ _ c k => k _ s.toks ⟨_, rfl, c.1⟩
  | Assign ts v pos =>
    refine J.bool (c := plainV v) (fun hv => ?_) fun hv => ?_
    · induction ts using List.casesOn with
      | nil => exact J.none
      | cons t u => induction u using List.casesOn with
        | cons => exact J.none
        | nil => exact plainAsgJ S ok O B' hv hz
    · induction v using PySem.Expr.casesOn with
      | ListComp elt gens sc lp => induction ts using List.casesOn with
        | nil => exact J.none
        | cons t u => induction u using List.casesOn with
          | cons => induction t using PySem.Expr.casesOn <;> exact J.none
          | nil => induction t using PySem.Expr.casesOn with
            | Name x tp => exact compAsgJ S O B' hL
            | _ => exact J.none
      | _ => exact J.none
  | AugAssign t op v pos => induction t using PySem.Expr.casesOn with
    | Attribute o x tp => induction op using PySem.Operator.casesOn with
      | Add =>
        refine J.by (fun _ _ h => wpAny_AugAssign_AttributeAny h) ?_
        refine J.bndV (S.je O B' o) fun b vb => ?_
        refine J.bndV (wp1 := fun Q s => wpAny (model prog w) fc.A (getAttr vb x true) Q NoE s) (fun _ _ _ _ h _ _ _ _ r c H => getA_sound ok.toPTOk2 O h r c.1 H) fun old vo => ?_
        refine J.bndV (S.je O B' v) fun a va => J.opt fun p hp => J.opt fun q hq => ?_
        intro st a' st' P h hP ρ s Q r c H
        obtain ⟨t2, rfl⟩ := asInt_rep (p := q.1) (x := q.2) hq c.1
        obtain ⟨t1, rfl⟩ := asInt_rep (p := p.1) (x := p.2) hp c.2.1
        refine iadd_int ?_
        exact J.bndU (wp2 := fun _ Q s => Q Flow.next s) (L := [b, mkI (both p.1 q.1) (p.2 + q.2)]) (V := [vb, .int (p.2 + q.2) s.toks]) (setAJ ok O) (hz _ _) st a' st' P h hP ρ { s with toks := s.toks + 1 } Q r ⟨c.2.2.1, mkI_rep _ _ _, trivial⟩ H
      | _ => exact JS.none rfl
    | _ => exact JS.none rfl
  | If t b o pos =>
    refine J.by (fun _ _ h => wpAny_If h) ?_
    refine J.bndB (S.jb O B' t) ?_ ?_
    · exact J.by (fun _ _ h => h) (S.jss O B' b)
    · exact J.by (fun _ _ h => h) (S.jss O B' o)
  | While t b o pos => induction o using List.casesOn with
    | nil => exact fun _ _ _ _ h hP ρ s Q r _ H => whl_start 0 (S.wh _ _ _ _ _ _ _ _ h hP O B' ρ s Q 0 r H)
    | cons => exact JS.none rfl
  | For t i b o pos => induction o using List.casesOn with
    | nil => exact J.only (c := plainIt i) fun hpl => forJ S O B' hpl
    | cons => exact JS.none rfl
  | _ => exact JS.none rfl

set_option tactic.hygienic true in
/-- what the comprehension that is used at once needs of the level below -/
theorem comp_used (S : Snd prog w K p loose mean mg mb D n I) (O : FrOk K p loose mean mg mb fi fc) (B : Room2 D (n + 1) fc.A) :
    ∀ st ρ s, Rel w.params fi fc ρ st s.heap → ∀ elt gens sc pos v st1 P1, stepE T I fi (.ListComp elt gens sc pos) st = some (v, st1, P1) → Ps P1 → ∀ (use : Option (Value → Sem Unit)) (Q : Value → Shared → Prop), (∀ ρ' h' tk v' C oC m', Ext ρ st.n ρ' st1.n → Rel w.params fi { fc with rest := (C, oC) :: fc.rest } ρ' st1 h' → (∀ p ∈ fc.rest, p.1 ≠ C) → (∃ es ep, oC.data = .dict es ep) → RepV ρ' st1.n v v' → h'.Ns C m' →
      compPost (model prog w) fc.A NoE use Q v' C (.ok .next) { s with heap := h', toks := tk }) →
      wpAny (model prog w) fc.A (comprehension (.ListComp elt gens sc pos) sc fc.env (firstIterPos gens pos) (newList []) (firstAsync gens) (firstIter gens fc.env) use) Q NoE s := fun st ρ s r elt gens sc pos v st1 P1 h hP use Q H => by
  have hfa : firstAsync gens = false := by
    unfold stepE at h
    dsimp only at h
    split at h
    · rfl
    · first | exact nn h | cases h
  have := compr_sound (Q := Q) S h hP O B use r H
  rw [hfa] at this ⊢
  exact this

theorem snd_evs (ok : PTOk3 prog w K p loose mean mg mb T D) : ∀ n, Snd prog w K p loose mean mg mb D n (evs T n)
  | 0 => by
    refine ⟨?_, ?_, ?_, ?_, ?_, ?_, ?_, ?_, ?_, ?_, ?_, ?_⟩
    · intro _ _ _ _ _ _ _ h; exact nn h
    · intro _ _ _ _ _ _ _ h; exact nn h
    · intro _ _ _ _ _ _ _ h; exact nn h
    · intro _ _ _ _ _ _ _ h; exact nn h
    · intro _ _ _ _ _ _ _ h; exact nn h
    · intro _ _ _ _ _ _ _ _ _ h; exact nn h
    · intro _ _ _ _ _ _ _ h; exact nn h
    · intro _ _ _ _ _ _ _ h; exact nn h
    · intro _ _ _ _ _ _ _ _ h; exact nn h
    · intro _ _ _ _ _ _ _ _ _ h; exact nn h
    · intro _ _ _ _ _ _ _ h; exact nn h
    · intro _ _ _ _ _ _ _ _ _ _ h; exact nn h
  | n + 1 => by
    have S := snd_evs ok n
    refine ⟨?_, ?_, ?_, ?_, ?_, ?_, ?_, ?_, ?_, ?_, ?_, ?_⟩
    · exact fun fi fc x st a st' P h hP O B ρ s Q r H => stepE_sound S ok h hP O B (fun elt gens sc pos st a st' P h hP ρ s Q r _ H => comp_sound (T := T) S h hP O B r H) r H
    · exact fun fi fc x st a st' P h hP O B ρ s Q pos r H => stepEs_sound S h hP O B r H
    · exact fun fi fc x st a st' P h hP O B ρ s Q r H => stepB_sound S ok h hP O B r H
    · refine fun fi fc x st a st' P h hP O B ρ s Q r H => stepS_J S ok ?_ O B x _ _ _ _ h hP ρ s Q r trivial H
      cases n with
      | zero => intro _ _ _ _ _ _ _ _ _ _ _ h; exact nn h
      | succ m => exact comp_used (T := T) (snd_evs ok m) O B.step
    · exact fun fi fc x st a st' P h hP O B ρ s Q r H => stepSs_sound S h hP O B r H
    · exact fun fi fc own f vs st a st' P h hP O ho B ρ s cvs Q r rv H => stepCall_sound S ok h hP O ho B r rv H
    · exact fun fi fc t a st st' P h hP O B ρ s v Q r rv H => stepAsg_sound S ok h hP O B r rv H
    · exact fun fi fc t a st st' P h hP O B ρ s v Q r rv H => stepAsgs_sound S h hP O B r rv H
    · exact fun fi fc t b st a st' P h hP O B ρ s Q k r H => stepWh_sound S h hP O B r H
    · exact fun fi fc t k b st a st' P h hP O B ρ s Q r H => stepFr_sound S h hP O B r H
    · exact fun fi fc xs st a st' P h hP O B ρ s Q r H => stepTs_sound S h hP O B r H
    · exact fun fi fc t elt ifs k j st st' P h hP O B ρ s Q iter sc pos r hj H => stepCp_sound S h hP O B r hj H
end
end Mine
namespace Mine
open PySem PySem.W PyProof.Rows PySem.Calls PySem.Spec

/-! a state is seen anew: some locations are kept under new numbers, some go to the rest, the others are forgotten -/
noncomputable def idxF (l : Nat) : List Nat → Nat → Option Nat
  | [], _ => none
  | k :: r, i => match Nat.beq l k with
    | true => some i
    | false => idxF l r (i + 1)
set_option tactic.hygienic true in
theorem idxF_some {l : Nat} : ∀ {ks : List Nat} {i j : Nat}, idxF l ks i = some j → ∃ d, j = i + d ∧ ks[d]? = some l
  | k :: r, i, j, h => by
    unfold idxF at h
    split at h
    · rename_i e; cases h; exact ⟨0, rfl, by rw [Nat.eq_of_beq_eq_true e]; rfl⟩
    · obtain ⟨d, e1, e2⟩ := idxF_some h
      exact ⟨d + 1, by lia, by simpa using e2⟩
noncomputable def renV (ρ : Nat → Addr) (ks : List Nat) : AV → AV
  | .ref l => match idxF l ks 0 with
    | some j => .ref j
    | none => .con (.ref (ρ l))
  | a => a
noncomputable def renE (ρ : Nat → Addr) (ks : List Nat) (e : Nm × AV) : Nm × AV := (e.1, renV ρ ks e.2)
noncomputable def renL (ρ : Nat → Addr) (ks : List Nat) : List AV → List AV
  | [] => []
  | a :: r => renV ρ ks a :: renL ρ ks r
noncomputable def renP (ρ : Nat → Addr) (ks : List Nat) : List (Nm × AV) → List (Nm × AV)
  | [] => []
  | a :: r => renE ρ ks a :: renP ρ ks r
theorem renL_eq (ρ : Nat → Addr) (ks : List Nat) : ∀ l, renL ρ ks l = l.map (renV ρ ks)
  | [] => rfl
  | a :: r => by simp [renL, renL_eq ρ ks r]
theorem renP_eq (ρ : Nat → Addr) (ks : List Nat) : ∀ l, renP ρ ks l = l.map (renE ρ ks)
  | [] => rfl
  | a :: r => by simp [renP, renP_eq ρ ks r]
noncomputable def AllCon (p : List AV) : Prop := ∀ a ∈ p, ∃ c, a = .con c
noncomputable def absorb (p xs : List AV) : List AV := match xs with
  | [] => p
  | a :: r => p ++ a :: r
theorem absorb_eq (p xs : List AV) : absorb p xs = p ++ xs := by cases xs <;> simp [absorb]
noncomputable def renO (ρ : Nat → Addr) (ks : List Nat) : AO → AO
  | .dead => .dead
  | .inst C d => match idxF d ks 0 with
    | some j => .inst C j
    | none => .dead
  | .dict es => .dict (renP ρ ks es)
  | .tab es => .tab (renP ρ ks es)
  | .list none xs => .list none (renL ρ ks xs)
  | .list (some p) xs => .list (some (absorb (renL ρ ks p) (renL ρ ks xs))) []
  | .tup xs => .tup (renL ρ ks xs)
  | .cell (some a) => .cell (some (renV ρ ks a))
  | .cell none => .cell none
  | .liter l i => match idxF l ks 0 with
    | some j => .liter j i
    | none => .dead
  | .rng p a b => .rng p a b
  | .riter p x y => .riter p x y
noncomputable def renMu (ρ : Nat → Addr) (ks : List Nat) (mu : List (Nm × AV)) : List Nm → List (Nm × AV)
  | [] => []
  | x :: r => match look x mu with
    | some a => (x, renV ρ ks a) :: renMu ρ ks mu r
    | none => renMu ρ ks mu r
set_option tactic.hygienic true in
theorem renMu_look {ρ : Nat → Addr} {ks : List Nat} {mu : List (Nm × AV)} {x : Nm} {a : AV} : ∀ {ns : List Nm}, look x (renMu ρ ks mu ns) = some a → ∃ b, look x mu = some b ∧ a = renV ρ ks b
  | y :: r, h => by
    unfold renMu at h
    split at h
    · rename_i b hb
      unfold look at h
      split at h
      · rename_i e; cases h
        rw [nmEq_iff.mp e]; exact ⟨b, hb, rfl⟩
      · exact renMu_look h
    · exact renMu_look h
noncomputable def renAll (ρ : Nat → Addr) (ks : List Nat) (sg : Tr) : List Nat → List AO
  | [] => []
  | l :: r => renO ρ ks (sg.get l) :: renAll ρ ks sg r
theorem renAll_get {ρ : Nat → Addr} {ks : List Nat} {sg : Tr} : ∀ (l : List Nat) (i : Nat), (renAll ρ ks sg l)[i]? = (l[i]?).map fun l => renO ρ ks (sg.get l)
  | [], i => by simp [renAll]
  | a :: r, 0 => rfl
  | a :: r, i + 1 => by simpa [renAll] using renAll_get r i
noncomputable def subSt (ρ : Nat → Addr) (ks : List Nat) (ns : List Nm) (st : St) : St := { mu := renMu ρ ks st.mu ns, sg := Tr.ofL 0 .nil (renAll ρ ks st.sg ks), n := ks.length, or := [], ov := [] }
/-- no number twice, and all below the bound -/
noncomputable def freshL (n : Nat) : List Nat → Bool
  | [] => true
  | k :: r => match memNat k r with
    | true => false
    | false => match Nat.blt k n with
      | true => freshL n r
      | false => false
set_option tactic.hygienic true in
theorem notMemNat_iff {n : Nat} : ∀ {l : List Nat}, memNat n l = false → n ∉ l
  | [], _, q => nomatch q
  | k :: r, h, q => by
    unfold memNat at h
    split at h
    · first | exact nn h | cases h
    · rename_i e
      rcases List.mem_cons.mp q with rfl | q
      · rw [show Nat.beq n n = true from Nat.beq_refl n] at e; cases e
      · exact notMemNat_iff h q
set_option tactic.hygienic true in
theorem freshL_iff {n : Nat} : ∀ {l : List Nat}, freshL n l = true → l.Nodup ∧ ∀ k ∈ l, k < n
  | [], _ => ⟨.nil, fun _ h => nomatch h⟩
  | k :: r, h => by
    unfold freshL at h
    split at h
    · first | exact nn h | cases h
    · rename_i h1
      split at h
      · rename_i h2
        obtain ⟨a, b⟩ := freshL_iff h
        exact ⟨List.nodup_cons.mpr ⟨notMemNat_iff h1, a⟩, fun j hj => (List.mem_cons.mp hj).elim (fun e => e ▸ (by simpa [Nat.blt_eq] using h2)) (b j)⟩
      · first | exact nn h | cases h

section
variable {P : Params} {fi : FI} {fc : FC} {ρ : Nat → Addr} {st : St} {h h' : Heap} {m : Str → Option Value} {os : List Obj} {ks : List Nat}

theorem handed_ref (a : Addr) : handedIn (.ref a) = true := rfl
set_option tactic.hygienic true in
theorem renV_rep {n : Nat} {a : AV} {v : Value} (r : RepV ρ n a v) : RepV (fun j => ρ (ks.getD j 0)) ks.length (renV ρ ks a) v := by
  induction a with
  | ref l =>
    unfold renV
    dsimp only
    split
    · rename_i j hj
      obtain ⟨d, e1, e2⟩ := idxF_some hj
      rw [Nat.zero_add] at e1
      subst e1
      refine ⟨(List.getElem?_eq_some_iff.mp e2).1, ?_⟩
      rw [r.2]
      simp [List.getD, e2]
    · exact ⟨r.2, rfl⟩
  | _ => exact r
theorem renV_clo {n : Nat} {a : AV} {v : Value} (r : RepV ρ n a v) (ρ' : Nat → Addr) (n' : Nat) : RepV ρ' n' (renV ρ [] a) v := by
  induction a with
  | ref l => exact ⟨r.2, rfl⟩
  | _ => exact r
theorem All2.renL {n : Nat} {xs : List AV} {vs : List Value} (h : All2 (RepV ρ n) xs vs) : All2 (RepV (fun j => ρ (ks.getD j 0)) ks.length) (renL ρ ks xs) vs := by
  induction xs generalizing vs with
  | nil => induction vs with | nil => trivial | cons => exact h.elim
  | cons a r ih => induction vs with | nil => exact h.elim | cons v vs => exact ⟨renV_rep h.1, ih h.2⟩
theorem All2.renP {n : Nat} {xs : List (Nm × AV)} {vs : List DictEntry} (h : All2 (RepE P ρ n) xs vs) : All2 (RepE P (fun j => ρ (ks.getD j 0)) ks.length) (renP ρ ks xs) vs := by
  induction xs generalizing vs with
  | nil => induction vs with | nil => trivial | cons => exact h.elim
  | cons a r ih => induction vs with | nil => exact h.elim | cons v vs => exact ⟨⟨h.1.1, h.1.2.1, renV_rep h.1.2.2⟩, ih h.2⟩
theorem All2.cloL {n : Nat} {xs : List AV} {vs : List Value} (h : All2 (RepV ρ n) xs vs) (ρ' : Nat → Addr) (n' : Nat) : All2 (RepV ρ' n') (Mine.renL ρ [] xs) vs := by
  induction xs generalizing vs with
  | nil => induction vs with | nil => trivial | cons => exact h.elim
  | cons a r ih => induction vs with | nil => exact h.elim | cons v vs => exact ⟨renV_clo h.1 _ _, ih h.2⟩
theorem All2.cloP {n : Nat} {xs : List (Nm × AV)} {vs : List DictEntry} (h : All2 (RepE P ρ n) xs vs) (ρ' : Nat → Addr) (n' : Nat) : All2 (RepE P ρ' n') (Mine.renP ρ [] xs) vs := by
  induction xs generalizing vs with
  | nil => induction vs with | nil => trivial | cons => exact h.elim
  | cons a r ih => induction vs with | nil => exact h.elim | cons v vs => exact ⟨⟨h.1.1, h.1.2.1, renV_clo h.1.2.2 _ _⟩, ih h.2⟩
theorem AllCon.ren {p : List AV} (c : AllCon p) (ρ : Nat → Addr) (ks : List Nat) : Mine.renL ρ ks p = p := by
  induction p with
  | nil => rfl
  | cons a r ih =>
    obtain ⟨x, rfl⟩ := c a (.head _)
    show AV.con x :: Mine.renL ρ ks r = _
    rw [ih fun b hb => c b (.tail _ hb)]
theorem AllCon.rep {n n' : Nat} {p : List AV} {vs : List Value} {ρ' : Nat → Addr} (c : AllCon p) (h : All2 (RepV ρ n) p vs) : All2 (RepV ρ' n') p vs :=
  h.mono fun a ha v r => by obtain ⟨x, rfl⟩ := c a ha; exact r
theorem All2.split {α β : Type} {R : α → β → Prop} : ∀ {a c : List α} {b : List β}, All2 R (a ++ c) b → ∃ b1 b2, b = b1 ++ b2 ∧ All2 R a b1 ∧ All2 R c b2
  | [], c, b, h => ⟨[], b, rfl, trivial, h⟩
  | x :: a, c, [], h => h.elim
  | x :: a, c, y :: b, h => by
    obtain ⟨b1, b2, e, h1, h2⟩ := All2.split (a := a) (c := c) (b := b) h.2
    exact ⟨y :: b1, b2, by rw [e]; rfl, ⟨h.1, h1⟩, h2⟩
theorem renP_keys (ks : List Nat) : ∀ es : List (Nm × AV), (renP ρ ks es).map (·.1) = es.map (·.1)
  | [] => rfl
  | _ :: r => by simp [renP, renE, renP_keys ks r]
set_option tactic.hygienic true in
theorem renO_rep {n : Nat} {a : AO} {o : Obj} (r : RepO P ρ n a o) : RepO P (fun j => ρ (ks.getD j 0)) ks.length (renO ρ ks a) o := by
  have ix : ∀ {l j : Nat}, idxF l ks 0 = some j → j < ks.length ∧ ρ (ks.getD j 0) = ρ l := fun hj => by
    obtain ⟨d, e1, e2⟩ := idxF_some hj
    rw [Nat.zero_add] at e1
    subst e1
    exact ⟨(List.getElem?_eq_some_iff.mp e2).1, by simp [List.getD, e2]⟩
  induction a with
  | dead => trivial
  | inst C d =>
    unfold renO; dsimp only
    split
    · rename_i j hj
      obtain ⟨h1, h2⟩ := ix hj
      exact ⟨h1, by rw [r.2]; exact congrArg _ h2.symm⟩
    · trivial
  | dict es => obtain ⟨ds, k, e, h⟩ := r; exact ⟨ds, k, e, h.renP⟩
  | tab es => obtain ⟨ds, k, e, h, q⟩ := r; exact ⟨ds, k, e, h.renP, by rw [renP_keys]; exact q⟩
  | list p xs =>
    obtain ⟨vs, k, e, h⟩ := r
    induction p with
    | none => exact ⟨vs, k, e, h.renL⟩
    | some p =>
      refine ⟨vs, k, e, ?_⟩
      show All2 _ (absorb (Mine.renL ρ ks p) (Mine.renL ρ ks xs) ++ []) vs
      rw [absorb_eq, List.append_nil]
      obtain ⟨b1, b2, rfl, h1, h2⟩ := All2.split h
      exact h1.renL.append h2.renL
  | tup xs => obtain ⟨vs, k, e, h⟩ := r; exact ⟨vs, k, e, h.renL⟩
  | cell v => induction v with
    | none => exact r
    | some a => obtain ⟨v, e, h⟩ := r; exact ⟨v, e, renV_rep h⟩
  | liter l i =>
    unfold renO; dsimp only
    split
    · rename_i j hj
      obtain ⟨h1, h2⟩ := ix hj
      exact ⟨h1, r.2.1, by rw [r.2.2]; show _ = Data.fields #[.ref (ρ (ks.getD j 0)), .int i 0]; rw [h2]⟩
    · trivial
  | rng => exact r
  | riter => exact r

theorem Tr.get_ofL : ∀ (l : List AO) (k : Nat) (t : Tr) (i : Nat), (Tr.ofL k t l).get i = if i < k then t.get i else (l[i - k]?).getD (t.get i)
  | [], k, t, i => by simp [Tr.ofL]
  | a :: r, k, t, i => by
    unfold Tr.ofL
    rw [Tr.get_ofL r (k + 1) (t.set k a) i, Tr.get_set]
    by_cases h1 : i < k
    · simp [h1, Nat.lt_succ_of_lt h1, Nat.ne_of_lt h1]
    · by_cases h2 : i = k
      · simp [h2]
      · have e : i - k = (i - (k + 1)) + 1 := by lia
        simp [h1, h2, show ¬ i < k + 1 by lia, e]
theorem Tr.nil_get (i : Nat) : Tr.nil.get i = .dead := rfl
theorem sub_get (i : Nat) : (subSt ρ ks ns st).sg.get i = ((ks[i]?).map fun l => renO ρ ks (st.sg.get l)).getD .dead := by
  show (Tr.ofL 0 .nil (renAll ρ ks st.sg ks)).get i = _
  rw [Tr.get_ofL, if_neg (Nat.not_lt_zero _), Nat.sub_zero, renAll_get, Tr.nil_get]

theorem renO_mut {a : AO} (h : (renO ρ ks a).mut = true) : a.mut = true := by
  induction a with
  | inst C d => unfold renO at h; dsimp only at h; split at h <;> cases h
  | dead => first | exact nn h | cases h
  | tup => first | exact nn h | cases h
  | rng => first | exact nn h | cases h
  | _ => rfl
theorem renO_live {a : AO} (h : renO ρ ks a ≠ .dead) : a ≠ .dead := fun e => h (by rw [e]; rfl)

theorem nodup_idx {α : Type} : ∀ {l : List α} {i j : Nat} {a : α}, l.Nodup → l[i]? = some a → l[j]? = some a → i = j
  | [], _, _, _, _, h, _ => by simp at h
  | x :: r, 0, 0, _, _, _, _ => rfl
  | x :: r, 0, j + 1, a, nd, h, k => by
    first | (obtain ⟨rfl, rfl, rfl⟩ := ret_some h) | cases h
    exact absurd (List.mem_of_getElem? (by simpa using k)) (List.nodup_cons.mp nd).1
  | x :: r, i + 1, 0, a, nd, h, k => by
    cases k
    exact absurd (List.mem_of_getElem? (by simpa using h)) (List.nodup_cons.mp nd).1
  | x :: r, i + 1, j + 1, a, nd, h, k => by
    exact congrArg Nat.succ (nodup_idx (a := a) (l := r) (List.nodup_cons.mp nd).2 (by simpa using h) (by simpa using k))
/-- kept: ks; to the rest: xs -/
theorem Rel.sub {ns : List Nm} {xs : List Nat} (r : Rel P fi fc ρ st h) (hk : freshL st.n ks = true) (hx : freshL st.n xs = true) (hkx : ks.all (fun k => !(memNat k xs)) = true)
    (hlive : ∀ l ∈ xs, st.sg.get l ≠ .dead) (hcl : ∀ x l, look x fi.cl = some l → ks[l]? = some l) :
    ∃ f : Nat → Obj, (∀ l ∈ xs, RepO P ρ st.n (st.sg.get l) (f l) ∧ h.get? (ρ l) = some (f l)) ∧ (∀ l ∈ xs, (st.sg.get l).mut = true → ∀ p ∈ fc.rest, p.1 ≠ ρ l) ∧ (∀ l ∈ xs, (st.sg.get l).mut = true → ∀ l' ∈ xs, ρ l = ρ l' → l = l') ∧
      Rel P fi { fc with rest := xs.map (fun l => (ρ l, f l)) ++ fc.rest } (fun j => ρ (ks.getD j 0)) (subSt ρ ks ns st) h := by
  obtain ⟨m, os, R⟩ := r
  obtain ⟨hk1, hk2⟩ := freshL_iff hk
  obtain ⟨hx1, hx2⟩ := freshL_iff hx
  let f : Nat → Obj := fun l => os.getD l default
  have hf : ∀ l, l < st.n → os[l]? = some (f l) := fun l hl => by
    have : l < os.length := by rw [R.len]; exact hl
    simp [f, List.getD, this]
  refine ⟨f, fun l hl => ?_, fun l hl hm => R.ap l hm, fun l hl hm l' hl' e => R.inj l l' hm (hlive l' hl') e, m, ks.map f, ?_⟩
  · obtain ⟨o, ho, hr, _, hg⟩ := R.get (l := l) rfl (hlive l hl)
    rw [hf l (hx2 l hl)] at ho
    first | (obtain ⟨rfl, rfl, rfl⟩ := ret_some ho) | cases ho
    exact ⟨hr, hg⟩
  · have old : ∀ l, l < st.n → st.sg.get l ≠ .dead → (ρ l, f l) ∈ ledF st.sg ρ 0 os ++ fc.rest := fun l hl hd =>
      List.mem_append_left _ (mem_ledF.mpr ⟨l, f l, hf l hl, by rw [Nat.zero_add]; exact hd, by rw [Nat.zero_add]⟩)
    have key : ∀ i a, (subSt ρ ks ns st).sg.get i = a → a ≠ .dead → ∃ l, ks[i]? = some l ∧ a = renO ρ ks (st.sg.get l) ∧ l < st.n ∧ ρ (ks.getD i 0) = ρ l := by
      intro i a e hd
      rw [sub_get] at e
      cases q : ks[i]? with
      | none => rw [q] at e; exact absurd e.symm hd
      | some l => rw [q] at e; exact ⟨l, rfl, e.symm, hk2 l (List.mem_of_getElem? q), by simp [List.getD, q]⟩
    refine ⟨R.F, ?_, ?_, by simp [subSt], ?_, ?_, ?_, ?_, ?_, ?_, fun _ _ hc => hc.elim⟩
    · intro p hp
      rcases List.mem_append.mp hp with hp | hp
      · obtain ⟨i, o, ho, hd, rfl⟩ := mem_ledF.mp hp
        rw [Nat.zero_add] at hd ⊢
        obtain ⟨l, hl, he, hln, hρ⟩ := key i _ rfl hd
        rw [List.getElem?_map, hl] at ho
        first | (obtain ⟨rfl, rfl, rfl⟩ := ret_some ho) | cases ho
        have z := R.N _ (old l hln (renO_live (he ▸ hd)))
        rw [← hρ] at z
        exact z
      · rcases List.mem_append.mp hp with hp | hp
        · obtain ⟨l, hl, rfl⟩ := List.mem_map.mp hp
          exact R.N _ (old l (hx2 l hl) (hlive l hl))
        · exact R.N _ (List.mem_append_right _ hp)
    · intro x a ha
      obtain ⟨b, hb, rfl⟩ := renMu_look ha
      obtain ⟨v, hv, rv⟩ := R.mu x b hb
      exact ⟨v, hv, renV_rep rv⟩
    · intro i o ho
      rw [List.getElem?_map] at ho
      cases q : ks[i]? with
      | none => rw [q] at ho; cases ho
      | some l =>
        rw [q] at ho; cases ho
        rw [sub_get, q]
        have hl := List.mem_of_getElem? q
        exact renO_rep (R.os l _ (hf l (hk2 l hl)))
    · intro i hi
      have hi : ks.length ≤ i := hi
      rw [sub_get, List.getElem?_eq_none hi]; rfl
    · intro i j hi hj e
      obtain ⟨l, hl, he, hln, hρ⟩ := key i _ rfl (AO.mut_live hi)
      obtain ⟨l', hl', he', hln', hρ'⟩ := key j _ rfl hj
      have e : ρ (ks.getD i 0) = ρ (ks.getD j 0) := e
      rw [hρ, hρ'] at e
      have := R.inj l l' (renO_mut (he ▸ hi)) (renO_live (he' ▸ hj)) e
      subst this
      exact nodup_idx hk1 hl hl'
    · intro i hi p hp
      obtain ⟨l, hl, he, hln, hρ⟩ := key i _ rfl (AO.mut_live hi)
      show p.1 ≠ ρ (ks.getD i 0)
      rw [hρ]
      have hm := renO_mut (he ▸ hi)
      rcases List.mem_append.mp hp with hp | hp
      · obtain ⟨l', hl', rfl⟩ := List.mem_map.mp hp
        intro e
        have := R.inj l l' hm (hlive l' hl') e.symm
        subst this
        have h1 := List.all_eq_true.mp hkx l (List.mem_of_getElem? hl)
        exact notMemNat_iff (by simpa using h1) hl'
      · exact R.ap l hm p hp
    · intro x l hx
      have h1 := hcl x l hx
      obtain ⟨c1, c2⟩ := R.cl x l hx
      refine ⟨(List.getElem?_eq_some_iff.mp h1).1, ?_⟩
      rw [c2]; simp [List.getD, h1]
    · intro i es e
      obtain ⟨l, hl, he, hln, hρ⟩ := key i _ e (by intro q; cases q)
      show ρ (ks.getD i 0) ≠ _
      rw [hρ]
      cases q : st.sg.get l with
      | tab es' => exact R.lo l es' q
      | inst C d => rw [q] at he; unfold renO at he; dsimp only at he; split at he <;> cases he
      | liter C d => rw [q] at he; unfold renO at he; dsimp only at he; split at he <;> cases he
      | list p xs => rw [q] at he; cases p <;> cases he
      | cell v => rw [q] at he; cases v <;> cases he
      | _ => rw [q] at he; cases he
end
end Mine
namespace Mine
open PySem PySem.W PyProof.Rows PySem.Calls PySem.Spec

section
variable {P : Params} {fi : FI} {fc : FC} {ρ : Nat → Addr} {st : St} {h h' : Heap} {m : Str → Option Value} {os : List Obj}

/-- less of the rest -/
theorem Rel.less {r' : List (Addr × Obj)} (r : Rel P fi fc ρ st h) (hr : ∀ p ∈ r', p ∈ fc.rest) : Rel P fi { fc with rest := r' } ρ { st with imm := fun _ _ => False } h := by
  obtain ⟨m, os, R⟩ := r
  refine ⟨m, os, R.F, fun p hp => R.N p ?_, R.mu, R.len, R.os, R.out, R.inj, fun i hi p hp => R.ap i hi p (hr p hp), R.cl, R.lo, fun _ _ hc => hc.elim⟩
  rcases List.mem_append.mp hp with hp | hp
  · exact List.mem_append_left _ hp
  · exact List.mem_append_right _ (hr p hp)
theorem Rel.get? (r : Rel P fi fc ρ st h) {a : Addr} {o : Obj} (hr : (a, o) ∈ fc.rest) : h.get? a = some o := by
  obtain ⟨m, os, R⟩ := r
  exact (R.N _ (List.mem_append_right _ hr)).1
/-- what is known of the tuples of the rest -/
noncomputable def immOf (P : Params) (rest : List (Addr × Obj)) : Nat → List AV → Prop := fun c xs => ∃ o, (c, o) ∈ rest ∧ RepO P (fun _ => 0) 0 (.tup xs) o
theorem Rel.imms (r : Rel P fi fc ρ st h) : Rel P fi fc ρ { st with imm := immOf P fc.rest } h := by
  obtain ⟨m, os, R⟩ := r
  exact ⟨m, os, R.F, R.N, R.mu, R.len, R.os, R.out, R.inj, R.ap, R.cl, R.lo, fun _ _ hc => hc⟩
/-- another frame's sight of the locals -/
theorem Rel.mus (r : Rel P fi fc ρ st h) {mu' : List (Nm × AV)} (hm : ∀ x a, look x mu' = some a → look x st.mu = some a) (o : List Nat) (v : List AV) : Rel P fi fc ρ { st with mu := mu', or := o, ov := v } h := by
  obtain ⟨m, os, R⟩ := r
  exact ⟨m, os, R.F, R.N, fun x a hx => R.mu x a (hm x a hx), R.len, R.os, R.out, R.inj, R.ap, R.cl, R.lo, R.im⟩

noncomputable def upR (ρ : Nat → Addr) (n : Nat) (a : Addr) : Nat → Addr := fun i => if i = n then a else ρ i
theorem upR_ext (ρ : Nat → Addr) (n : Nat) (a : Addr) : Ext ρ n (upR ρ n a) (n + 1) := ⟨Nat.le_succ _, fun i hi => by simp [upR, Nat.ne_of_lt hi]⟩
theorem upR_self (ρ : Nat → Addr) (n : Nat) (a : Addr) : upR ρ n a n = a := by simp [upR]

/-- what cannot be written to comes out of the rest (and stays there) -/
theorem Rel.imp (r : Rel P fi fc ρ st h) {a : Addr} {o : Obj} {ao : AO} (ha : (a, o) ∈ fc.rest) (hm : ao.mut = false) (hr : RepO P (upR ρ st.n a) (st.n + 1) ao o) :
    Rel P fi fc (upR ρ st.n a) { st with sg := st.sg.set st.n ao, n := st.n + 1 } h := by
  obtain ⟨m, os, R⟩ := r
  have X := upR_ext ρ st.n a
  have lv : ∀ i, (st.sg.set st.n ao).get i ≠ .dead → i ≠ st.n → st.sg.get i ≠ .dead := fun i hg q => by
    rw [Tr.get_set, if_neg q] at hg; exact hg
  have mv : ∀ i, ((st.sg.set st.n ao).get i).mut = true → i ≠ st.n ∧ (st.sg.get i).mut = true := fun i hg => by
    rw [Tr.get_set] at hg
    by_cases q : i = st.n
    · rw [if_pos q, hm] at hg; cases hg
    · rw [if_neg q] at hg; exact ⟨q, hg⟩
  refine ⟨m, os ++ [o], R.F, ?_, ?_, by simp [R.len], ?_, ?_, ?_, ?_, ?_, ?_, R.im⟩
  · intro p hp
    rcases List.mem_append.mp hp with hp | hp
    · obtain ⟨i, o', ho, hg, rfl⟩ := mem_ledF.mp hp
      rw [Nat.zero_add] at hg ⊢
      by_cases q : i = st.n
      · subst q
        rw [← R.len, List.getElem?_append_right (Nat.le_refl _)] at ho
        simp only [Nat.sub_self, List.getElem?_cons_zero, Option.some.injEq] at ho
        subst ho
        rw [upR_self]
        exact R.N _ (List.mem_append_right _ ha)
      · have hi : i < os.length := by have := (List.getElem?_eq_some_iff.mp ho).1; simp only [List.length_append, List.length_cons, List.length_nil, R.len] at this ⊢; lia
        rw [List.getElem?_append_left hi] at ho
        simp only [upR, q, if_false]
        exact R.N _ (List.mem_append_left _ (mem_ledF.mpr ⟨i, o', ho, by rw [Nat.zero_add]; exact lv i hg q, by rw [Nat.zero_add]⟩))
    · exact R.N _ (List.mem_append_right _ hp)
  · intro x b hb
    obtain ⟨v, hv, rv⟩ := R.mu x b hb
    exact ⟨v, hv, rv.ext X⟩
  · intro i o' e
    show RepO P _ (st.n + 1) ((st.sg.set st.n ao).get i) o'
    rw [Tr.get_set]
    by_cases q : i = st.n
    · rw [if_pos q]
      rw [q, ← R.len, List.getElem?_append_right (Nat.le_refl _)] at e
      simp only [Nat.sub_self, List.getElem?_cons_zero, Option.some.injEq] at e
      subst e; exact hr
    · rw [if_neg q]
      have hi : i < os.length := by have := (List.getElem?_eq_some_iff.mp e).1; simp only [List.length_append, List.length_cons, List.length_nil, R.len] at this ⊢; lia
      rw [List.getElem?_append_left hi] at e
      exact (R.os i o' e).ext X
  · intro i hi
    show (st.sg.set st.n ao).get i = _
    have hi' : st.n + 1 ≤ i := hi
    rw [Tr.get_set, if_neg (by lia)]
    exact R.out i (by lia)
  · intro i j hi hj q
    obtain ⟨h1, hi⟩ := mv i hi
    by_cases h2 : j = st.n
    · simp only [upR, h1, h2, if_true, if_false] at q
      exact absurd q.symm (R.ap i hi _ ha)
    · simp only [upR, h1, h2, if_false] at q
      exact R.inj i j hi (lv j hj h2) q
  · intro i hi p hp
    obtain ⟨h1, hi⟩ := mv i hi
    simp only [upR, h1, if_false]
    exact R.ap i hi p hp
  · intro x l hl
    obtain ⟨q1, q2⟩ := R.cl x l hl
    exact ⟨Nat.lt_succ_of_lt q1, by rw [q2]; simp [upR, Nat.ne_of_lt q1]⟩
  · intro i es q
    have q : (st.sg.set st.n ao).get i = .tab es := q
    obtain ⟨h1, _⟩ := mv i (by rw [q]; rfl)
    rw [Tr.get_set, if_neg h1] at q
    simp only [upR, h1, if_false]
    exact R.lo i es q

/-- is it a thing that can be written to? -/
noncomputable def mutK (o : Obj) : Bool := match o.data with
  | .dict _ _ => true
  | .cell _ => true
  | _ => match o.cls with
    | .type n => n == "list" || n == "list_iterator" || n == "range_iterator"
    | _ => false
theorem mutK_t {ρ : Nat → Addr} {n : Nat} {a : AO} {o : Obj} (ha : a.mut = true) (h : RepO P ρ n a o) : mutK o = true := by
  induction a using AO.casesOn with
  | dict es => obtain ⟨ds, k, rfl, _⟩ := h; rfl
  | tab es => obtain ⟨ds, k, rfl, _⟩ := h; rfl
  | list p xs => obtain ⟨vs, k, rfl, _⟩ := h; rfl
  | cell v =>
    have h : ∃ v, o.data = .cell v := by
      induction v using Option.casesOn with
      | none => exact ⟨_, h⟩
      | some a => exact ⟨_, h.choose_spec.1⟩
    obtain ⟨v, e⟩ := h
    unfold mutK; rw [e]
  | liter l i => unfold mutK; rw [h.2.1, h.2.2]; rfl
  | riter q x y => rw [show o = _ from h]; rfl
  | _ => exact ff ha
theorem mutK_f {ρ : Nat → Addr} {n : Nat} {a : AO} {o : Obj} (ha : a.mut = false) (hd : a ≠ .dead) (h : RepO P ρ n a o) : mutK o = false := by
  induction a using AO.casesOn with
  | dead => exact absurd rfl hd
  | inst C d => rw [h.2]; rfl
  | tup xs => obtain ⟨vs, k, rfl, _⟩ := h; rfl
  | rng q x y => obtain ⟨_, t, u, v, rfl⟩ := h; rfl
  | _ => exact ff ha.symm
theorem mut_apart {n' : Nat} {ρ' : Nat → Addr} {n : Nat} {a b : AO} {o : Obj} (ha : a.mut = true) (hb : b.mut = false) (hd : b ≠ .dead) (h1 : RepO P ρ n a o) (h2 : RepO P ρ' n' b o) : False :=
  ff ((mutK_f hb hd h2).symm.trans (mutK_t ha h1))
/-- what can be written to comes out of the rest -/
theorem Rel.impM {a : Addr} {o : Obj} {ao : AO} {rest : List (Addr × Obj)} (r : Rel P fi fc ρ st h) (ha : (a, o) ∈ fc.rest) (hs : ∀ p ∈ rest, p ∈ fc.rest ∧ p.1 ≠ a) (hm : ao.mut = true) (hlo : ∀ es, ao = .tab es → a ≠ sysModules) (hr : RepO P ρ st.n ao o) :
    Rel P fi { fc with rest := rest } (upR ρ st.n a) { st with sg := st.sg.set st.n ao, n := st.n + 1, imm := fun _ _ => False } h := by
  obtain ⟨m, os, R⟩ := r
  have X := upR_ext ρ st.n a
  have hN := R.N _ (List.mem_append_right _ ha)
  have lv : ∀ i, (st.sg.set st.n ao).get i ≠ .dead → i ≠ st.n → st.sg.get i ≠ .dead := fun i hg q => by
    rw [Tr.get_set, if_neg q] at hg; exact hg
  have mv : ∀ i, ((st.sg.set st.n ao).get i).mut = true → i ≠ st.n → (st.sg.get i).mut = true := fun i hg q => by
    rw [Tr.get_set, if_neg q] at hg; exact hg
  have far : ∀ i, st.sg.get i ≠ .dead → ρ i ≠ a := by
    intro i hi q
    cases hmi : (st.sg.get i).mut with
    | true => exact R.ap i hmi _ ha q.symm
    | false =>
      obtain ⟨o', ho, hro, hmem, hg⟩ := R.get (l := i) rfl hi
      rw [q, hN.1] at hg
      first | (obtain ⟨rfl, rfl, rfl⟩ := ret_some hg) | cases hg
      exact mut_apart hm hmi hi hr hro
  refine ⟨m, os ++ [o], R.F, ?_, ?_, by simp [R.len], ?_, ?_, ?_, ?_, ?_, ?_, fun _ _ hc => hc.elim⟩
  · intro p hp
    rcases List.mem_append.mp hp with hp | hp
    · obtain ⟨i, o', ho, hg, rfl⟩ := mem_ledF.mp hp
      rw [Nat.zero_add] at hg ⊢
      by_cases q : i = st.n
      · subst q
        rw [← R.len, List.getElem?_append_right (Nat.le_refl _)] at ho
        simp only [Nat.sub_self, List.getElem?_cons_zero, Option.some.injEq] at ho
        subst ho
        rw [upR_self]
        exact hN
      · have hi : i < os.length := by have := (List.getElem?_eq_some_iff.mp ho).1; simp only [List.length_append, List.length_cons, List.length_nil, R.len] at this ⊢; lia
        rw [List.getElem?_append_left hi] at ho
        simp only [upR, q, if_false]
        exact R.N _ (List.mem_append_left _ (mem_ledF.mpr ⟨i, o', ho, by rw [Nat.zero_add]; exact lv i hg q, by rw [Nat.zero_add]⟩))
    · exact R.N _ (List.mem_append_right _ (hs p hp).1)
  · intro x b hb
    obtain ⟨v, hv, rv⟩ := R.mu x b hb
    exact ⟨v, hv, rv.ext X⟩
  · intro i o' e
    show RepO P _ (st.n + 1) ((st.sg.set st.n ao).get i) o'
    rw [Tr.get_set]
    by_cases q : i = st.n
    · rw [if_pos q]
      rw [q, ← R.len, List.getElem?_append_right (Nat.le_refl _)] at e
      simp only [Nat.sub_self, List.getElem?_cons_zero, Option.some.injEq] at e
      subst e; exact hr.ext X
    · rw [if_neg q]
      have hi : i < os.length := by have := (List.getElem?_eq_some_iff.mp e).1; simp only [List.length_append, List.length_cons, List.length_nil, R.len] at this ⊢; lia
      rw [List.getElem?_append_left hi] at e
      exact (R.os i o' e).ext X
  · intro i hi
    show (st.sg.set st.n ao).get i = _
    have hi' : st.n + 1 ≤ i := hi
    rw [Tr.get_set, if_neg (by lia)]
    exact R.out i (by lia)
  · intro i j hi hj q
    by_cases h1 : i = st.n <;> by_cases h2 : j = st.n <;> simp only [upR, h1, h2, if_true, if_false] at q ⊢
    · exact absurd q.symm (far j (lv j hj h2))
    · exact absurd q (far i (AO.mut_live (mv i hi h1)))
    · exact R.inj i j (mv i hi h1) (lv j hj h2) q
  · intro i hi p hp
    obtain ⟨p1, p2⟩ := hs p hp
    by_cases h1 : i = st.n
    · simp only [upR, h1, if_true]; exact p2
    · simp only [upR, h1, if_false]
      exact R.ap i (mv i hi h1) p p1
  · intro x l hl
    obtain ⟨q1, q2⟩ := R.cl x l hl
    exact ⟨Nat.lt_succ_of_lt q1, by rw [q2]; simp [upR, Nat.ne_of_lt q1]⟩
  · intro i es' q
    have q : (st.sg.set st.n ao).get i = .tab es' := q
    rw [Tr.get_set] at q
    by_cases h1 : i = st.n
    · rw [if_pos h1] at q
      simp only [upR, h1, if_true]; exact hlo es' q
    · rw [if_neg h1] at q
      simp only [upR, h1, if_false]
      exact R.lo i es' q

theorem Rel.impD {a : Addr} {o : Obj} {es : List (Nm × AV)} {rest : List (Addr × Obj)} (r : Rel P fi fc ρ st h) (ha : (a, o) ∈ fc.rest) (hs : ∀ p ∈ rest, p ∈ fc.rest ∧ p.1 ≠ a) (hr : RepO P ρ st.n (.dict es) o) :
    Rel P fi { fc with rest := rest } (upR ρ st.n a) { st with sg := st.sg.set st.n (.dict es), n := st.n + 1, imm := fun _ _ => False } h := r.impM ha hs rfl (fun _ q => by cases q) hr

/-- a list's items are told in another way -/
theorem Rel.view (r : Rel P fi fc ρ st h) {l : Nat} {p p' : Option (List AV)} {xs xs' : List AV} (e : st.sg.get l = .list p xs) (hv : ∀ vs, All2 (RepV ρ st.n) (itm p xs) vs → All2 (RepV ρ st.n) (itm p' xs') vs) :
    Rel P fi fc ρ (setO l (.list p' xs') st) h := by
  obtain ⟨m, os, R⟩ := r
  obtain ⟨o, ho, hr, hm, hg⟩ := R.get e (by intro q; cases q)
  have hl : l < st.n := R.lt (by rw [e]; intro q; cases q)
  have hset : os.set l o = os := by
    obtain ⟨h1, h2⟩ := List.getElem?_eq_some_iff.mp ho
    rw [← h2]; exact List.set_getElem_self h1
  have := R.set (l := l) (a' := .list p' xs') (o' := o) hl R.F (by rw [hset]; exact R.N) (by
    obtain ⟨vs, k, e1, e2⟩ := hr
    exact ⟨vs, k, e1, hv vs e2⟩) (hm := by rw [e]; rfl)
  exact ⟨m, _, this⟩
end

section
variable {prog : Program} {w : World} {K : Frag} {p : Program} {loose : List Str} {mean : ExcName → Option Value} {mg mb : Str → Option Value} {T : PT} {D n : Nat} {I : Evs} {fi : FI} {fc : FC} {ρ : Nat → Addr} {st st' : St} {s : Shared}

/-- j turns of a while loop, each of which goes on -/
noncomputable def itWh (I : Evs) (fi : FI) (t : Expr) (b : List Stmt) : Nat → St → Rr Unit
  | 0, st => ret () st
  | j + 1, st => bnd (I.b fi t st) fun c st => match c with
    | false => none
    | true => bnd (I.ss fi b st) fun f st => match f with
      | .next => itWh I fi t b j st
      | .cont => itWh I fi t b j st
      | _ => none
set_option tactic.hygienic true in
theorem itWh_sound (S : Snd prog w K p loose mean mg mb D n I) (O : FrOk K p loose mean mg mb fi fc) (B : Room2 D n fc.A) {t : Expr} {b : List Stmt} {Q : Flow → Shared → Prop} {k : Nat} : ∀ (j : Nat) {st : St} {ρ : Nat → Addr} {s : Shared} {P : List Prop},
    itWh I fi t b j st = some ((), st', P) → Ps P → Rel w.params fi fc ρ st s.heap →
    (∀ ρ' h' tk, Ext ρ st.n ρ' st'.n → Rel w.params fi fc ρ' st' h' → WhlRest prog w fc.A NoE fc.env t b [] Q k { s with heap := h', toks := tk }) → WhlRest prog w fc.A NoE fc.env t b [] Q k s
  | 0, st, ρ, s, P, h, hP, r, H => by
    first | (obtain ⟨rfl, rfl, rfl⟩ := ret_some h) | cases h
    exact H ρ s.heap s.toks ⟨Nat.le_refl _, fun _ _ => rfl⟩ r
  | j + 1, st, ρ, s, P, h, hP, r, H => by
    have h : bnd (I.b fi t st) (fun c st => match c with
      | false => none
      | true => bnd (I.ss fi b st) fun f st => match f with
        | .next => itWh I fi t b j st
        | .cont => itWh I fi t b j st
        | _ => none) = some ((), st', P) := h
    show WhlRest prog w fc.A NoE fc.env t b [] Q (0 + 1) s
    refine whl_turn (k := 0) (passesNo _ _ _) ?_
    refine bnd_el h hP fun c st1 P1 P2 h1 h2 hP1 hP2 => ?_
    refine S.b _ _ _ _ _ _ _ h1 hP1 O B ρ s _ r fun ρ1 h' tk v X r1 q => ?_
    subst q
    induction v with
    | false => first | exact nn h2 | cases h2
    | true =>
      refine bnd_el h2 hP2 fun f st2 P3 P4 h3 h4 hP3 hP4 => ?_
      refine WhlIf.yes rfl (S.ss _ _ _ _ _ _ _ h3 hP3 O B ρ1 _ _ r1 fun ρ2 h2' tk2 v2 X2 r2 q2 => ?_)
      induction f with
      | next => obtain rfl := q2; exact itWh_sound S O B (k := 0) j (s := { s with heap := h2', toks := tk2 }) h4 hP4 r2 fun ρ' h'' tk' X' r' => H ρ' h'' tk' ((X.trans X2).trans X') r'
      | cont => obtain rfl := q2; exact itWh_sound S O B (k := 0) j (s := { s with heap := h2', toks := tk2 }) h4 hP4 r2 fun ρ' h'' tk' X' r' => H ρ' h'' tk' ((X.trans X2).trans X') r'
      | brk => first | exact nn h4 | cases h4
      | ret b => first | exact nn h4 | cases h4
end
end Mine
namespace Mine
open PySem PySem.W PyProof.Rows PySem.Calls PySem.Spec

theorem look_zip_isSome {y : Str} : ∀ {ps : List Str} {vs : List Value}, y ∈ ps → vs.length = ps.length → ((ps.zip vs).lookup y).isSome = true
  | x :: ps, v :: vs, h, hl => by
    rw [List.zip_cons_cons, List.lookup_cons]
    cases e : y == x with
    | true => rfl
    | false =>
      have : y ≠ x := by simpa using e
      exact look_zip_isSome ((List.mem_cons.mp h).resolve_left this) (by simpa using hl)
  | x :: ps, [], h, hl => by simp at hl
theorem filterMap_zip : ∀ {ps : List Str} {vs : List Value} (f : Str → Option (Str × Value)), vs.length = ps.length → ps.Nodup → (∀ q ∈ ps.zip vs, f q.1 = some q) → ps.filterMap f = ps.zip vs
  | [], [], f, _, _, _ => rfl
  | x :: ps, v :: vs, f, hl, nd, h => by
    rw [List.filterMap_cons, h (x, v) (.head _), List.zip_cons_cons]
    exact congrArg _ (filterMap_zip f (by simpa using hl) (List.nodup_cons.mp nd).2 fun q hq => h q (.tail _ hq))
  | [], _ :: _, _, hl, _, _ => by simp at hl
  | _ :: _, [], _, hl, _, _ => by simp at hl
theorem lookup_zip : ∀ {ps : List Str} {vs : List Value} {q : Str × Value}, ps.Nodup → q ∈ ps.zip vs → (ps.zip vs).lookup q.1 = some q.2
  | x :: ps, v :: vs, q, nd, h => by
    rw [List.zip_cons_cons] at h ⊢
    rw [List.lookup_cons]
    rcases List.mem_cons.mp h with rfl | h
    · simp
    · have hx : q.1 ∈ ps := (List.of_mem_zip (a := q.1) (b := q.2) h).1
      have : q.1 ≠ x := fun e => (List.nodup_cons.mp nd).1 (e ▸ hx)
      rw [show (q.1 == x) = false from by simpa using this]
      exact lookup_zip (List.nodup_cons.mp nd).2 h
  | [], _, _, _, h => by simp at h
  | _ :: _, [], _, _, h => by simp at h

theorem ite_two {α : Type} {c1 c2 : Bool} {A1 A2 K R : α} (h1 : c1 = false) (h2 : c2 = false) (h3 : K = R) : (if c1 = true then A1 else if c2 = true then A2 else K) = R := by
  subst h1 h2 h3; rfl
theorem for_nil {α β γ : Type} {Z : List α} (hz : Z = []) {b : β} {f : α → β → Sem (ForInStep β)} {k : β → Sem γ} {R : Sem γ} (h : k b = R) : (forIn Z b f >>= k) = R := by subst hz; exact h
theorem bind_plain {fd : FuncData} {ps : List Str}
  (h1 : fd.params.posonlyargs = []) (h2 : fd.params.kwonlyargs = []) (h3 : fd.params.vararg = none) (h4 : fd.params.kwarg = none) (h5 : fd.defaults = .none) (hp : fd.params.args.map (·.arg) = ps)
    (nd : ps.Nodup) {vs : List Value} (hl : vs.length = ps.length) : bindArgs fd ⟨vs, []⟩ = pure (ps.zip vs) := by
  obtain ⟨a1, a2, p, a3, a4, a5, a6, a7, a8, a9, a10, a11, a12, a13, a14⟩ := fd
  obtain ⟨b1, b2, b3, b4, b5, b6, b7⟩ := p
  dsimp only at *
  subst h1 h2 h3 h4 h5 hp
  have d0 : ∀ k : Nat, List.drop k ([] : List Value) = [] := fun k => List.drop_nil
  have c1 : (decide (vs.length > (b2.map fun x => x.arg).length) && (none : Option Arg).isNone) = false := by rw [hl]; simp
  have c2 : (!(List.filter (fun n => (List.lookup n ((b2.map fun x => x.arg).zip vs)).isNone) (List.take ((b2.map fun x => x.arg).length - (List.drop (0 - (b2.map fun x => x.arg).length) ([] : List Value)).length) (b2.map fun x => x.arg))).isEmpty) = false := by
    rw [d0, List.length_nil, Nat.sub_zero, List.take_length]
    rw [show List.filter (fun n => (List.lookup n ((b2.map fun x => x.arg).zip vs)).isNone) (b2.map fun x => x.arg) = [] by
      rw [List.filter_eq_nil_iff]
      intro y hy
      have := look_zip_isSome hy hl
      cases e : ((b2.map fun x => x.arg).zip vs).lookup y with
      | none => rw [e] at this; exact ff this
      | some v => simp]
    rfl
  refine ite_two c1 c2 ?_
  refine for_nil (Z := (List.drop ((b2.map fun x => x.arg).length - (List.drop (0 - (b2.map fun x => x.arg).length) ([] : List Value)).length) (b2.map fun x => x.arg)).zip (List.drop (0 - (b2.map fun x => x.arg).length) ([] : List Value))) (by rw [d0, List.zip_nil_right]) ?_
  have hf : List.filterMap (fun n : Str => (((b2.map fun x : Arg => x.arg).zip vs).lookup n).map fun v : Value => (n, v)) ((b2.map fun x : Arg => x.arg) ++ []) = (b2.map fun x => x.arg).zip vs := by
    rw [List.append_nil]
    exact filterMap_zip _ hl nd fun q hq => by rw [lookup_zip nd hq]; rfl
  exact congrArg Sem.pure hf
noncomputable def ndB : List Nm → Bool
  | [] => true
  | x :: r => match memN x r with
    | true => false
    | false => ndB r
set_option tactic.hygienic true in
theorem memN_not {x : Nm} : ∀ {l : List Nm}, memN x l = false → x ∉ l
  | [], _, q => nomatch q
  | k :: r, h, q => by
    unfold memN at h
    split at h
    · first | exact nn h | cases h
    · rename_i e
      rcases List.mem_cons.mp q with rfl | q
      · rw [nmEq_iff.mpr rfl] at e; cases e
      · exact memN_not h q
set_option tactic.hygienic true in
theorem ndB_iff : ∀ {l : List Nm}, ndB l = true → l.Nodup
  | [], _ => .nil
  | x :: r, h => by
    unfold ndB at h
    split at h
    · first | exact nn h | cases h
    · rename_i e
      refine List.nodup_cons.mpr ⟨fun q => ?_, ndB_iff h⟩
      exact memN_not e q

noncomputable def fnK (K : Frag) (f : Nat) : FnI := match K.lookup f with
  | some ⟨_, _, .func fd, _⟩ => ⟨fd.params.args.map fun a => nm a.arg, match fd.body with | .stmts b => b | _ => [], fd.scope⟩
  | _ => ⟨[], [], default⟩
noncomputable def isStmts : FuncBody → Bool
  | .stmts _ => true
  | _ => false
noncomputable def isNoneV : Value → Bool
  | .none => true
  | _ => false
noncomputable def isFunK : ScopeKind → Bool
  | .function => true
  | _ => false
noncomputable def isLoc : Option NameKind → Bool
  | some .local => true
  | _ => false
noncomputable def fdChk (K : Frag) (fd : FuncData) : Bool :=
  isStmts fd.body && Nat.beq fd.globals mainGlobals && Nat.beq fd.builtins builtinsNs && fd.closure.isEmpty && fd.params.posonlyargs.isEmpty && fd.params.kwonlyargs.isEmpty && fd.params.vararg.isNone && fd.params.kwarg.isNone && isNoneV fd.defaults &&
  codeIn K fd.code fd.qualname && ndB (fd.params.args.map fun a => nm a.arg) && (fd.params.args.all fun a => isLoc (kindL (nm a.arg) fd.scope.names)) && !fd.scope.isCoroutine && !fd.scope.isGenerator && isFunK fd.scope.kind && noCell fd.scope.names
noncomputable def fnChk (K : Frag) (f : Nat) : Bool := match K.lookup f with
  | some ⟨_, _, .func fd, _⟩ => fdChk K fd
  | _ => false
theorem and_el16 {p1 p2 p3 p4 p5 p6 p7 p8 p9 p10 p11 p12 p13 p14 p15 p16 : Bool} {C : Prop} (h : (p1 && p2 && p3 && p4 && p5 && p6 && p7 && p8 && p9 && p10 && p11 && p12 && p13 && p14 && p15 && p16) = true)
    (k : p1 = true → p2 = true → p3 = true → p4 = true → p5 = true → p6 = true → p7 = true → p8 = true → p9 = true → p10 = true → p11 = true → p12 = true → p13 = true → p14 = true → p15 = true → p16 = true → C) : C := by
  simp only [Bool.and_eq_true] at h
  exact k h.1.1.1.1.1.1.1.1.1.1.1.1.1.1.1 h.1.1.1.1.1.1.1.1.1.1.1.1.1.1.2 h.1.1.1.1.1.1.1.1.1.1.1.1.1.2 h.1.1.1.1.1.1.1.1.1.1.1.1.2 h.1.1.1.1.1.1.1.1.1.1.1.2 h.1.1.1.1.1.1.1.1.1.1.2 h.1.1.1.1.1.1.1.1.1.2 h.1.1.1.1.1.1.1.1.2 h.1.1.1.1.1.1.1.2 h.1.1.1.1.1.1.2 h.1.1.1.1.1.2 h.1.1.1.1.2 h.1.1.1.2 h.1.1.2 h.1.2 h.2
theorem isLoc_eq {o : Option NameKind} (h : isLoc o = true) : o = some .local := by
  induction o using Option.casesOn with
  | none => exact ff h
  | some k => induction k using NameKind.casesOn with
    | «local» => rfl
    | _ => exact ff h
theorem isNoneV_eq {v : Value} (h : isNoneV v = true) : v = .none := by
  induction v using Value.casesOn with
  | none => rfl
  | _ => exact ff h
theorem isFunK_eq {k : ScopeKind} (h : isFunK k = true) : k = .function := by
  induction k using ScopeKind.casesOn with
  | function => rfl
  | _ => exact ff h
theorem isStmts_eq {b : FuncBody} (h : isStmts b = true) : ∃ l, b = .stmts l := by
  induction b using FuncBody.casesOn with
  | stmts l => exact ⟨l, rfl⟩
  | _ => exact ff h
theorem isNone_eq' {α : Type} {o : Option α} (h : o.isNone = true) : o = none := by
  cases o with
  | none => rfl
  | some => exact ff h
/-- what the check of a function leaves: its data, its shape -/
theorem fn_el {K : Frag} {f : Addr} {chk : FuncData → Bool} {C : Prop} (h : (match K.lookup f with | some ⟨_, _, .func fd, _⟩ => chk fd | _ => false) = true) (k : ∀ oc od fd osl, K.lookup f = some ⟨oc, od, .func fd, osl⟩ → chk fd = true → C) : C := by
  generalize hk : K.lookup f = z at h
  induction z using Option.casesOn with
  | none => exact ff h
  | some o =>
    obtain ⟨oc, od, dt, osl⟩ := o
    induction dt using Data.casesOn with
    | func fd => exact k oc od fd osl hk h
    | _ => exact ff h
theorem fnK_at {K : Frag} {f : Addr} {oc : Value} {od : Option Addr} {osl : Array (Option Value)} {fd : FuncData} {b : List Stmt} (hk : K.lookup f = some ⟨oc, od, .func fd, osl⟩) (hb : fd.body = .stmts b) : fnK K f = ⟨fd.params.args.map fun a => nm a.arg, b, fd.scope⟩ := by
  unfold fnK
  rw [hk]
  show FnI.mk _ (match fd.body with | .stmts b => b | _ => []) _ = _
  rw [hb]
theorem fnRec_of {K : Frag} {f : Addr} (h : fnChk K f = true) : FnRec K f (fnK K f) := fn_el h fun oc od fd osl hk h => and_el16 h fun c1 c2 c3 c4 c5 c6 c7 c8 c9 c10 c11 c12 c13 c14 c15 c16 => by
  obtain ⟨b, hb⟩ := isStmts_eq c1
  rw [fnK_at hk hb]
  obtain ⟨name, qual, params, body, scope, gl, cl, dV, kV, doc, pm, an, cdv, ct, bl⟩ := fd
  dsimp only at c2 c3 c4 c5 c6 c7 c8 c9 c10 c11 c12 c13 c14 c15 c16 hb ⊢
  have c2 := Nat.eq_of_beq_eq_true c2
  have c3 := Nat.eq_of_beq_eq_true c3
  have c4 := List.isEmpty_iff.mp c4
  subst c2 c3 c4 hb
  have nd := ndB_iff c11
  refine ⟨⟨oc, od, name, qual, params, dV, kV, doc, pm, an, cdv, ct, osl, hk, c10, fun vs hl => ?_⟩, fun x hx => ?_, nd, notT c13, notT c14, isFunK_eq c15, noCell_iff c16⟩
  · refine bind_plain (List.isEmpty_iff.mp c5) (List.isEmpty_iff.mp c6) (isNone_eq' c7) (isNone_eq' c8) (isNoneV_eq c9) (show params.args.map (·.arg) = (params.args.map fun a => nm a.arg).map stn by rw [List.map_map]; rfl) ?_ (by simpa using hl)
    exact List.Pairwise.map _ (fun a b q e => q (stn_inj e)) nd
  · obtain ⟨a, ha, rfl⟩ := List.mem_map.mp hx
    have := isLoc_eq (List.all_eq_true.mp c12 a ha)
    rw [kindL_eq] at this
    exact this

/-! the table -/
noncomputable def strChk (v : Option (Option Value)) (l : Nm) : Bool := match v with
  | some (some (.str s _)) => nmEq (nm s) l
  | _ => false
noncomputable def intChk (v : Option (Option Value)) (i : Int) : Bool := match v with
  | some (some (.int j _)) => decide (j = i)
  | _ => false
noncomputable def refChk (v : Option (Option Value)) (a : Nat) : Bool := match v with
  | some (some (.ref b)) => Nat.beq b a
  | _ => false
noncomputable def glChk (K : Frag) (e : Nm × GV) : Bool := match e.2 with
  | .av (.txt l) => strChk (nsIn K mainGlobals (stn e.1)) l
  | .av (.num i) => intChk (nsIn K mainGlobals (stn e.1)) i
  | .av (.con (.ref a)) => refChk (nsIn K mainGlobals (stn e.1)) a
  | .fn (.fn a) => keepIn K (.ref a) && refChk (nsIn K mainGlobals (stn e.1)) a
  | .fn (.bi b) => nsIn K mainGlobals (stn e.1) == some none && bootBuiltins (stn e.1) == some b.val && !(stn e.1 == ("__name__" : Str))
  | _ => false
noncomputable def mthChk (K : Frag) (C : Addr) (q : Nm × Addr) : Bool := plainGet K C (stn q.1) && findIn K (.ref C) (stn q.1) == some (some (.ref q.2)) && isFn K (.ref q.2) && keepIn K (.ref q.2)
noncomputable def fldChk (K : Frag) (C : Addr) (x : Nm) : Bool := plainGet K C (stn x) && findIn K (.ref C) (stn x) == some none && takerIn K C (stn x) == some none
noncomputable def clChk (K : Frag) (e : Nat × ClI) : Bool :=
  makesIn K e.1 && findIn K (.ref e.1) "__init__" == some (some (.ref e.2.ini)) && isFn K (.ref e.2.ini) && hasDictIn K e.1 && findIn K (.ref e.1) "__setattr__" == some (some (.builtin "object.__setattr__")) && plainOver K e.1 &&
  e.2.flds.all (fldChk K e.1) && e.2.mths.all (mthChk K e.1)
noncomputable def strE (v : Value) : Option Str := match v with
  | .str s _ => some s
  | _ => none
theorem strE_eq {v : Value} {x : Str} (h : strE v = some x) : ∃ t, v = .str x t := by
  induction v using Value.casesOn with
  | str s t => exact ⟨t, congrArg (fun s => Value.str s t) (Option.some.inj h)⟩
  | _ => exact nn h
/-- does a row of values say these names? -/
noncomputable def strsChk : List Nm → List Value → Bool
  | [], vs => vs.isEmpty
  | x :: xs, vs => match vs.head?.bind strE with
    | some s => andB (nmEq (nm s) x) (strsChk xs vs.tail)
    | none => false
noncomputable def tupChk (K : Frag) (e : Nat × List Nm) : Bool := match K.lookup e.1 with
  | some ⟨c, _, .seq xs _, _⟩ => c == .type "tuple" && strsChk e.2 xs.toList
  | _ => false
theorem strsChk_is : ∀ {xs : List Nm} {vs : List Value}, strsChk xs vs = true → StrsAre vs (xs.map stn)
  | [], vs, h => by
    rw [List.isEmpty_iff.mp h]
    exact .nil
  | x :: xs, vs, h => by
    have h : (match vs.head?.bind strE with | some s => andB (nmEq (nm s) x) (strsChk xs vs.tail) | none => false) = true := h
    cases e : vs.head?.bind strE with
    | none => rw [e] at h; exact ff h
    | some s =>
      rw [e] at h
      obtain ⟨h1, h2⟩ := andB_iff h
      obtain ⟨v, hv, hs⟩ := Option.bind_eq_some_iff.mp e
      obtain ⟨t, rfl⟩ := strE_eq hs
      have e2 : vs = .str s t :: vs.tail := by
        induction vs using List.casesOn with
        | nil => exact nn hv
        | cons u us => rw [show u = .str s t from Option.some.inj hv]; rfl
      rw [List.map_cons, ← nmEq_iff.mp h1, e2]
      exact .cons _ _ (strsChk_is h2)
theorem strChk_eq {v : Option (Option Value)} {l : Nm} (h : strChk v l = true) : ∃ t, v = some (some (.str (stn l) t)) := by
  induction v using Option.casesOn with
  | none => exact ff h
  | some v => induction v using Option.casesOn with
    | none => exact ff h
    | some v => induction v using Value.casesOn with
      | str s t => exact ⟨t, by rw [← nmEq_iff.mp h]; rfl⟩
      | _ => exact ff h
theorem intChk_eq {v : Option (Option Value)} {i : Int} (h : intChk v i = true) : ∃ t, v = some (some (.int i t)) := by
  induction v using Option.casesOn with
  | none => exact ff h
  | some v => induction v using Option.casesOn with
    | none => exact ff h
    | some v => induction v using Value.casesOn with
      | int s t => exact ⟨t, by rw [of_decide_eq_true h]⟩
      | _ => exact ff h
theorem refChk_eq {v : Option (Option Value)} {a : Nat} (h : refChk v a = true) : v = some (some (.ref a)) := by
  induction v using Option.casesOn with
  | none => exact ff h
  | some v => induction v using Option.casesOn with
    | none => exact ff h
    | some v => induction v using Value.casesOn with
      | ref b => rw [Nat.eq_of_beq_eq_true h]
      | _ => exact ff h
theorem tupChk_eq {K : Frag} {e : Nat × List Nm} (h : tupChk K e = true) : ∃ d xs n sl, K.lookup e.1 = some ⟨.type "tuple", d, .seq xs n, sl⟩ ∧ strsChk e.2 xs.toList = true := by
  unfold tupChk at h
  generalize K.lookup e.1 = z at h
  induction z using Option.casesOn with
  | none => exact ff h
  | some o =>
    obtain ⟨c, d, dt, sl⟩ := o
    induction dt using Data.casesOn with
    | seq xs n =>
      have h := (Bool.and_eq_true _ _).mp h
      exact ⟨d, xs, n, sl, by rw [beq_iff_eq.mp h.1], h.2⟩
    | _ => exact ff h
theorem ptOk_of {K : Frag} {T : PT} (h1 : T.glob.all (glChk K) = true) (h2 : T.cls.all (clChk K) = true) (h3 : T.tups.all (tupChk K) = true) : PTOk2 K T where
  tups k l h := by
    obtain ⟨dd, xs, n, sl, e, hs⟩ := tupChk_eq (List.all_eq_true.mp h3 _ (lookN_mem h))
    exact ⟨dd, n, sl, xs.toList, e, strsChk_is hs⟩
  globA x a h := by
    have this : glChk K (x, .av a) = true := List.all_eq_true.mp h1 _ (look_mem h)
    induction a using AV.casesOn with
    | txt l =>
      obtain ⟨t, e⟩ := strChk_eq this
      exact ⟨_, e, fun _ _ => ⟨t, rfl⟩⟩
    | num i =>
      obtain ⟨t, e⟩ := intChk_eq this
      exact ⟨_, e, fun _ _ => ⟨t, rfl⟩⟩
    | con v => induction v using Value.casesOn with
      | ref b => exact ⟨_, refChk_eq this, fun _ _ => ⟨rfl, rfl⟩⟩
      | _ => exact ff this
    | _ => exact ff this
  globF x f h := by
    have this : glChk K (x, .fn f) = true := List.all_eq_true.mp h1 _ (look_mem h)
    induction f using Fn.casesOn with
    | fn a =>
      have this := (Bool.and_eq_true _ _).mp this
      exact ⟨this.1, .inl (refChk_eq this.2)⟩
    | bi b =>
      have this := (Bool.and_eq_true _ _).mp this
      have t1 := (Bool.and_eq_true _ _).mp this.1
      exact ⟨trivial, .inr ⟨beq_iff_eq.mp t1.1, beq_iff_eq.mp t1.2, by simpa using this.2⟩⟩
  cls C ci h := by
    have this := List.all_eq_true.mp h2 _ (lookN_mem h)
    unfold clChk at this
    simp only [Bool.and_eq_true] at this
    refine ⟨this.1.1.1.1.1.1.1, beq_iff_eq.mp this.1.1.1.1.1.1.2, this.1.1.1.1.1.2, this.1.1.1.1.2, beq_iff_eq.mp this.1.1.1.2, this.1.1.2, fun x hx => ?_, fun q hq => ?_⟩
    · have this := List.all_eq_true.mp this.1.2 x hx
      unfold fldChk at this
      simp only [Bool.and_eq_true] at this
      exact ⟨this.1.1, beq_iff_eq.mp this.1.2, beq_iff_eq.mp this.2⟩
    · have this := List.all_eq_true.mp this.2 q hq
      unfold mthChk at this
      simp only [Bool.and_eq_true] at this
      exact ⟨this.1.1.1, beq_iff_eq.mp this.1.1.2, this.1.2, this.2⟩
end Mine
namespace Mine
open PySem PySem.W PyProof.Rows PySem.Calls PySem.Spec

/-- what is told of a thing that goes to the rest -/
inductive EO where
  | tup (xs : List AV)
  | inst (C : Addr) (a : Addr)
  | dict (es : List (Nm × AV))
  | mu (a : AO)
  | non
noncomputable def exO (ρ : Nat → Addr) : AO → EO
  | .tup xs => .tup (renL ρ [] xs)
  | .inst C d => .inst C (ρ d)
  | .dict es => .dict (renP ρ [] es)
  | .list none xs => .mu (.list none (renL ρ [] xs))
  | .list (some p) xs => .mu (.list none (renL ρ [] p ++ renL ρ [] xs))
  | .cell none => .mu (.cell none)
  | .cell (some a) => .mu (.cell (some (renV ρ [] a)))
  | .riter p x y => .mu (.riter p x y)
  | _ => .non
noncomputable def RepEO (P : Params) : EO → Obj → Prop
  | .tup xs, o => RepO P (fun _ => 0) 0 (.tup xs) o
  | .inst C a, o => o = instObj C a
  | .dict es, o => RepO P (fun _ => 0) 0 (.dict es) o
  | .mu a, o => RepO P (fun _ => 0) 0 a o
  | .non, _ => True
theorem exO_rep {P : Params} {ρ : Nat → Addr} {n : Nat} {a : AO} {o : Obj} (r : RepO P ρ n a o) : RepEO P (exO ρ a) o := by
  induction a with
  | tup xs => obtain ⟨vs, k, e, h⟩ := r; exact ⟨vs, k, e, h.cloL _ _⟩
  | dict xs => obtain ⟨vs, k, e, h⟩ := r; exact ⟨vs, k, e, h.cloP _ _⟩
  | inst C d => exact r.2
  | list p xs =>
    obtain ⟨vs, k, e, h⟩ := r
    induction p with
    | none => exact ⟨vs, k, e, h.cloL _ _⟩
    | some p =>
      refine ⟨vs, k, e, ?_⟩
      obtain ⟨b1, b2, rfl, h1, h2⟩ := All2.split h
      exact (h1.cloL _ _).append (h2.cloL _ _)
  | cell v => induction v with
    | none => exact r
    | some a => obtain ⟨v, e, h⟩ := r; exact ⟨v, e, renV_clo h _ _⟩
  | riter => exact r
  | _ => trivial
noncomputable def exAll (ρ : Nat → Addr) (sg : Tr) : List Nat → List EO
  | [] => []
  | l :: r => exO ρ (sg.get l) :: exAll ρ sg r
theorem exAll_get {ρ : Nat → Addr} {sg : Tr} : ∀ {xs : List Nat} {i l : Nat} {e : EO}, xs[i]? = some l → (exAll ρ sg xs)[i]? = some e → e = exO ρ (sg.get l)
  | [], i, l, e, h, _ => by simp at h
  | a :: r, 0, l, e, h, k => by cases h; cases k; rfl
  | a :: r, i + 1, l, e, h, k => exAll_get (xs := r) (i := i) (by simpa using h) (by simpa [exAll] using k)
noncomputable def liveL (sg : Tr) : List Nat → Bool
  | [] => true
  | l :: r => match (sg.get l).isDead with
    | true => false
    | false => liveL sg r
set_option tactic.hygienic true in
theorem liveL_iff {sg : Tr} : ∀ {xs : List Nat}, liveL sg xs = true → ∀ l ∈ xs, sg.get l ≠ .dead
  | [], _, _, h => nomatch h
  | k :: r, h, l, hl => by
    unfold liveL at h
    split at h
    · first | exact nn h | cases h
    · rename_i e
      rcases List.mem_cons.mp hl with rfl | hl
      · intro q; rw [AO.isDead_iff.mpr q] at e; cases e
      · exact liveL_iff h l hl
noncomputable def apartL (xs : List Nat) : List Nat → Bool
  | [] => true
  | k :: r => match memNat k xs with
    | true => false
    | false => apartL xs r
set_option tactic.hygienic true in
theorem apartL_iff {xs : List Nat} : ∀ {ks : List Nat}, apartL xs ks = true → ks.all (fun k => !(memNat k xs)) = true
  | [], _ => rfl
  | k :: r, h => by
    unfold apartL at h
    split at h
    · first | exact nn h | cases h
    · rename_i e
      simp only [List.all_cons, e, Bool.not_false, Bool.true_and]
      exact apartL_iff h
/-- the outcome as it is seen anew -/
noncomputable def outc {α : Type} (ρ : Nat → Addr) (ks xs : List Nat) (ns : List Nm) (r : Rr α) : Option (St × List EO × α × List Prop) := match r with
  | none => none
  | some (a, st, P) => match freshL st.n ks, freshL st.n xs, apartL xs ks, liveL st.sg xs with
    | true, true, true, true => some (subSt ρ ks ns st, exAll ρ st.sg xs, a, P)
    | _, _, _, _ => none
set_option tactic.hygienic true in
theorem outc_some {α : Type} {ρ : Nat → Addr} {ks xs : List Nat} {ns : List Nm} {r : Rr α} {C : St} {E : List EO} {a : α} {Ph : List Prop} (h : outc ρ ks xs ns r = some (C, E, a, Ph)) :
    ∃ st P, r = some (a, st, P) ∧ freshL st.n ks = true ∧ freshL st.n xs = true ∧ ks.all (fun k => !(memNat k xs)) = true ∧ (∀ l ∈ xs, st.sg.get l ≠ .dead) ∧ C = subSt ρ ks ns st ∧ E = exAll ρ st.sg xs ∧ Ph = P := by
  unfold outc at h
  split at h
  · first | exact nn h | cases h
  · rename_i a' st P
    split at h
    · rename_i h1 h2 h3 h4
      first | (obtain ⟨rfl, rfl, rfl⟩ := ret_some h) | cases h
      exact ⟨st, _, rfl, h1, h2, apartL_iff h3, liveL_iff h4, rfl, rfl, rfl⟩
    · first | exact nn h | cases h
section
variable {prog : Program} {w : World} {K : Frag} {p : Program} {loose : List Str} {mean : ExcName → Option Value} {mg mb : Str → Option Value} {T : PT} {D n : Nat} {I : Evs} {fi : FI} {fc : FC} {ρ : Nat → Addr} {st st' : St} {s : Shared}

/-- what one comes to know of the things that go to the rest -/
structure Gone (P : Params) (fc : FC) (ρ : Nat → Addr) (xs : List Nat) (E : List EO) (f : Nat → Obj) : Prop where
  rep : ∀ (i l : Nat) (e : EO), xs[i]? = some l → E[i]? = some e → RepEO P e (f l)
  new : ∀ (i l : Nat) (es : List (Nm × AV)), xs[i]? = some l → E[i]? = some (.dict es) → (∀ p ∈ fc.rest, p.1 ≠ ρ l) ∧ ∀ l' ∈ xs, ρ l = ρ l' → l = l'
  neu : ∀ (i l : Nat) (a : AO), xs[i]? = some l → E[i]? = some (.mu a) → (∀ p ∈ fc.rest, p.1 ≠ ρ l) ∧ ∀ l' ∈ xs, ρ l = ρ l' → l = l'

theorem anew {α : Type} {ks xs : List Nat} {ns : List Nm} {r : Rr α} {C : St} {E : List EO} {a : α} {Ph : List Prop} {ρ' : Nat → Addr} {h' : Heap} (h : outc ρ' ks xs ns r = some (C, E, a, Ph)) (hPh : Ps Ph) (hcl : ∀ x l, look x fi.cl = some l → ks[l]? = some l) :
    ∃ st1 P, r = some (a, st1, P) ∧ Ps P ∧ (Rel w.params fi fc ρ' st1 h' → ∃ f, Gone w.params fc ρ' xs E f ∧ Rel w.params fi { fc with rest := xs.map (fun l => (ρ' l, f l)) ++ fc.rest } (fun j => ρ' (ks.getD j 0)) C h') := by
  obtain ⟨st1, P, e, h1, h2, h3, h4, h5, h6, h7⟩ := outc_some h
  subst h5 h6
  rw [h7] at hPh
  have hP := hPh
  refine ⟨st1, P, e, hP, fun rel => ?_⟩
  obtain ⟨f, g1, g2, g3, g4⟩ := rel.sub (ns := ns) h1 h2 h3 h4 hcl
  refine ⟨f, ⟨fun i l e hi he => ?_, fun i l es hi he => ?_, fun i l es hi he => ?_⟩, g4⟩
  · rw [exAll_get hi he]
    exact exO_rep (g1 l (List.mem_of_getElem? hi)).1
  · have hl := List.mem_of_getElem? hi
    have := exAll_get hi he
    have hm : (st1.sg.get l).mut = true := by
      cases q : st1.sg.get l with
      | dict es' => rfl
      | inst C d => rw [q] at this; cases this
      | tup C => rw [q] at this; cases this
      | rng _ _ _ => rw [q] at this; cases this
      | dead => exact absurd q (h4 l hl)
      | _ => rfl
    exact ⟨g2 l hl hm, g3 l hl hm⟩
  · have hl := List.mem_of_getElem? hi
    have := exAll_get hi he
    have hm : (st1.sg.get l).mut = true := by
      cases q : st1.sg.get l with
      | dict es' => rfl
      | inst C d => rw [q] at this; cases this
      | tup C => rw [q] at this; cases this
      | rng _ _ _ => rw [q] at this; cases this
      | dead => exact absurd q (h4 l hl)
      | _ => rfl
    exact ⟨g2 l hl hm, g3 l hl hm⟩

theorem run_turn (S : Snd prog w K p loose mean mg mb D n I) (O : FrOk K p loose mean mg mb fi fc) (B : Room2 D n fc.A) {t : Expr} {b : List Stmt} {Q : Flow → Shared → Prop} {k j : Nat} {ks xs : List Nat} {ns : List Nm}
    {C : (Nat → Addr) → St} {E : (Nat → Addr) → List EO} {Ph : (Nat → Addr) → List Prop} (hev : ∀ ρ', outc ρ' ks xs ns (itWh I fi t b j st) = some (C ρ', E ρ', (), Ph ρ')) (hPh : ∀ ρ', Ext ρ st.n ρ' (st.n) → Ps (Ph ρ'))
    (hcl : ∀ x l, look x fi.cl = some l → ks[l]? = some l) (r : Rel w.params fi fc ρ st s.heap)
    (H : ∀ ρ' h' tk f, Ext ρ st.n ρ' st.n → Gone w.params fc ρ' xs (E ρ') f → Rel w.params fi { fc with rest := xs.map (fun l => (ρ' l, f l)) ++ fc.rest } (fun j => ρ' (ks.getD j 0)) (C ρ') h' →
      WhlRest prog w fc.A NoE fc.env t b [] Q k { s with heap := h', toks := tk }) : WhlRest prog w fc.A NoE fc.env t b [] Q k s := by
  obtain ⟨st1, P, e, hP, _⟩ := anew (w := w) (fc := fc) (h' := s.heap) (hev ρ) (hPh ρ ⟨Nat.le_refl _, fun _ _ => rfl⟩) hcl
  refine itWh_sound S O B j e hP r fun ρ' h' tk X r' => ?_
  have X' : Ext ρ st.n ρ' st.n := ⟨Nat.le_refl _, X.2⟩
  obtain ⟨st2, P2, e2, _, g⟩ := anew (w := w) (fc := fc) (h' := h') (hev ρ') (hPh ρ' X') hcl
  rw [e] at e2
  cases e2
  obtain ⟨f, g1, g2⟩ := g r'
  exact H ρ' h' tk f X' g1 g2
end
end Mine
namespace Mine
open PySem PySem.W PyProof.Rows PySem.Calls PySem.Spec

/-- a loop to its end, and what follows it -/
noncomputable def whEnd (I : Evs) (fi : FI) (t : Expr) (b rest : List Stmt) (st : St) : Rr AFl := bnd (I.wh fi t b st) fun f st => match f with
  | .next => I.ss fi rest st
  | .ret a => ret (.ret a) st
  | _ => none

section
variable {prog : Program} {w : World} {K : Frag} {p : Program} {loose : List Str} {mean : ExcName → Option Value} {mg mb : Str → Option Value} {T : PT} {D n : Nat} {I : Evs} {fi : FI} {fc : FC} {ρ : Nat → Addr} {st st' : St} {s : Shared}

/-- how a frame's state is seen from the frame that called -/
noncomputable def Back (w : World) (fi : FI) (fc : FC) (ρ : Nat → Addr) (st : St) (R : Value → Shared → Prop) (fi' : FI) (fc' : FC) (v : Value) (s' : Shared) : Prop :=
  ∃ ρ' st' rest' mu', Rel w.params fi' { fc' with rest := rest' } ρ' st' s'.heap ∧ (∀ x a, look x mu' = some a → ∃ b, look x st.mu = some b ∧ ∀ u, RepV ρ st.n b u → RepV ρ' st'.n a u) ∧
    (∀ x l, look x fi.cl = some l → l < st'.n ∧ ρ' l = ρ l) ∧ (Rel w.params fi { fc with rest := rest' } ρ' { st' with mu := mu' } s'.heap → R v s')

noncomputable def flVal : Flow → Value
  | .ret v => v
  | _ => .none

theorem enter_hand {f : Addr} {g : FnI} (G : FnRec K f g) {A : Around} (hroom : A.depth < 1000) (hfr : A.frames = fc.A.frames) (hhA : A.handled = none)
    {vs : List AV} {cvs : List Value} {mu : List (Nm × AV)} (hz : zipP g.ps vs = some mu) (O : FrOk K p loose mean mg mb fi fc) (own : fi.own = true)
    {R : Result → Shared → Prop} (r : Rel w.params fi fc ρ st s.heap) (rv : All2 (RepV ρ st.n) vs cvs)
    (H : ∀ (fc' : FC) (h' : Heap) (tk : Nat), fc'.A.depth = A.depth + 1 → fc'.A.units = A.units + 3 → fc'.rest = fc.rest → FrOk K p loose mean mg mb ⟨g.sc, [], true, none⟩ fc' → Rel w.params ⟨g.sc, [], true, none⟩ fc' ρ { st with mu := mu } h' →
      wpAny (model prog w) fc'.A (execs g.body fc'.env) (fun fl s' => Back w fi fc ρ st (fun v s' => R (.ok (.ret v)) s') ⟨g.sc, [], true, none⟩ fc' (flVal fl) s') NoE { s with heap := h', toks := tk }) :
    codeAny (model prog w) A (.call (.ref f) ⟨cvs, []⟩) R s := by
  obtain ⟨m, os, R0⟩ := r
  obtain ⟨oc, od, name, qual, params, dV, kV, doc, pm, an, cdv, ct, osl, ho, hcd, hbind⟩ := G.ex
  obtain ⟨hB, hF, hL⟩ := O.own own
  obtain ⟨hlen, hmu⟩ := zipP_some hz rv
  have hk := zip_keys hlen
  have hA : A.frames = some (fc.env :: fc.outer) := hfr.trans hF
  refine code_def (binds := (g.ps.map stn).zip cvs) (s := s) hB R0.F O.X R0.N O.T hA hL O.hk ho hcd ?_ (BindsTo.of_eq (hbind cvs hlen)) (fun y hy => ?_) (fun g' L' h₁ FG F' N' B' X' T' => ?_) G.co G.gen G.kind G.cell
  · have e : recursionLimit = 1000 := rfl
    rw [e]; exact hroom
  · have : y.1 ∈ g.ps.map stn := by rw [← hk]; exact List.mem_map.mpr ⟨y, hy, rfl⟩
    obtain ⟨x, hx, hxy⟩ := List.mem_map.mp this
    rw [← hxy]; exact G.loc x hx
  · have O' : FrOk K p loose mean mg mb ⟨g.sc, [], true, none⟩ { A := A.deeper (envOf qual g.sc L' f cdv), A₀ := A, base := fc.base, outer := fc.env :: fc.outer, h₀ := g', env := envOf qual g.sc L' f cdv, rest := fc.rest } :=
      ⟨X', T', hhA, G.kind, rfl, rfl, rfl, (fun _ => ⟨B', Around.frames_deeper hA, rfl⟩), fun b xs z => by cases z⟩
    have Rc : RelAt w.params ⟨g.sc, [], true, none⟩ { A := A.deeper (envOf qual g.sc L' f cdv), A₀ := A, base := fc.base, outer := fc.env :: fc.outer, h₀ := g', env := envOf qual g.sc L' f cdv, rest := fc.rest } ρ { st with mu := mu } h₁ _ os :=
      ⟨F', N', (fun x b hb => by
        obtain ⟨v, hv, rv⟩ := hmu x b hb
        refine ⟨v, lookup_of_memV ?_ (List.mem_reverse.mpr hv), rv⟩
        rw [List.map_reverse, hk]
        refine (List.reverse_perm _).nodup_iff.mpr ?_
        exact List.Pairwise.map _ (fun a b q e => q (stn_inj e)) G.nd), R0.len, R0.os, R0.out, R0.inj, R0.ap, (fun x l hx => by cases hx), R0.lo, R0.im⟩
    refine wpAny_mono (H { A := A.deeper (envOf qual g.sc L' f cdv), A₀ := A, base := fc.base, outer := fc.env :: fc.outer, h₀ := g', env := envOf qual g.sc L' f cdv, rest := fc.rest } h₁ _ rfl rfl rfl O' ⟨_, _, Rc⟩) (fun fl s' hb => ?_) (fun _ _ x => x.elim)
    obtain ⟨ρ', st', rest', mu', ⟨m1, os1, R1⟩, hm, hc, hR⟩ := hb
    show LeaveK _ _ _ _ _ (flVal fl) _
    refine leaveK_ R1.F R1.N fun F2 N2 => hR ⟨m, os1, F2, N2, (fun x a hx => ?_), R1.len, R1.os, R1.out, R1.inj, R1.ap, (fun x l hx => ?_), R1.lo, R1.im⟩
    · obtain ⟨b, hb, hr⟩ := hm x a hx
      obtain ⟨u, hu, ru⟩ := R0.mu x b hb
      exact ⟨u, hu, hr u ru⟩
    · obtain ⟨c1, c2⟩ := hc x l hx
      refine ⟨c1, ?_⟩
      rw [c2]; exact (R0.cl x l hx).2

set_option tactic.hygienic true in
theorem whEnd_sound (S : Snd prog w K p loose mean mg mb D n I) (O : FrOk K p loose mean mg mb fi fc) (B : Room2 D n fc.A) {t : Expr} {b rest : List Stmt} {a : AFl} {P : List Prop} {Q : Flow → Shared → Prop} {k : Nat} (h : whEnd I fi t b rest st = some (a, st', P)) (hP : Ps P)
    (r : Rel w.params fi fc ρ st s.heap) (H : Pst w.params fi fc ρ st st' s (fun ρ' v => RepF ρ' st'.n a v) Q) :
    WhlRest prog w fc.A NoE fc.env t b [] (fun f s' => match f with | .next => wpAny (model prog w) fc.A (execs rest fc.env) Q NoE s' | f => Q f s') k s := by
  unfold whEnd at h
  refine bnd_el h hP fun f st1 P1 P2 h1 h2 hP1 hP2 => ?_
  refine S.wh _ _ _ _ _ _ _ _ h1 hP1 O B ρ s _ k r fun ρ1 h' tk v X r1 q => ?_
  induction f with
  | next =>
    obtain rfl := q
    exact S.ss _ _ _ _ _ _ _ h2 hP2 O B ρ1 { s with heap := h', toks := tk } Q r1 (H.then X)
  | ret a =>
    first | (obtain ⟨rfl, rfl, rfl⟩ := ret_some h2) | cases h2
    obtain ⟨u, rfl, ru⟩ := q
    exact H _ _ _ _ X r1 ⟨u, rfl, ru⟩
  | brk => first | exact nn h2 | cases h2
  | cont => first | exact nn h2 | cases h2
end
end Mine
namespace Mine
open PySem PySem.W PyProof.Rows PySem.Calls PySem.Spec

section
variable {prog : Program} {w : World} {K : Frag} {p : Program} {loose : List Str} {mean : ExcName → Option Value} {mg mb : Str → Option Value} {T : PT} {D n : Nat} {I : Evs} {fi : FI} {fc : FC} {ρ : Nat → Addr} {st st' : St} {s : Shared}

/-- a method's call whose body is told by hand -/
theorem ecall_meth (S : Snd prog w K p loose mean mg mb D n I) (ok : PTOk3 prog w K p loose mean mg mb T D) {o : Expr} {name : Str} {apos pos : Pos} {args : List Expr} {a : AV} {vs : List AV} {f : Fn} {st1 st2 : St} {P1 P3 : List Prop} (hpo : plainO o = true) (hpos : Nat.beq apos.endLine pos.line = true)
    (hsh : short 20 args = true) (h1 : I.e fi o st = some (a, st1, P1)) (hP1 : Ps P1) (hm : meth T a (nm name) st1 = some f) (h3 : argsE I fi args st1 = some (vs, st2, P3)) (hP3 : Ps P3) (O : FrOk K p loose mean mg mb fi fc) (B : Room2 D n fc.A) {Q : Value → Shared → Prop}
    (r : Rel w.params fi fc ρ st s.heap) (H : ∀ ρ' h' tk va cvs, Ext ρ st.n ρ' st2.n → Rel w.params fi fc ρ' st2 h' → RepV ρ' st2.n a va → All2 (RepV ρ' st2.n) vs cvs → FnOk K f → wpAny (model prog w) fc.A (call f.val (va :: cvs)) Q NoE { s with heap := h', toks := tk }) :
    wpAny (model prog w) fc.A (eval (.Call (.Attribute o name apos) args [] pos) fc.env) Q NoE s := by
  have few : methodCallForm (args.length + 0) (backTo pos (starEach args fc.env)) [] = true := few_of h3 (short_le hsh)
  refine MethodCall_ (pl := do return (← importBound o fc.env).getD true) ?_ ?_
  · refine S.e _ _ _ _ _ _ _ h1 hP1 O B ρ s _ r fun ρ1 h' tk v X r1 q => ?_
    refine meth_sound (s := { s with heap := h', toks := tk }) ok.toPTOk2 O hm r1 q fun hf => ?_
    refine callWith_sound (s := { s with heap := h', toks := tk }) S O B r1 hf h3 hP3 fun ρ2 h'' tk2 cvs X2 r2 q2 => ?_
    exact H ρ2 h'' tk2 v cvs (X.trans X2) r2 (q.ext X2) q2 hf
  · exact methodCall_eq hpo hpos few
/-- a function's call whose body is told by hand -/
theorem ecall_fn (S : Snd prog w K p loose mean mg mb D n I) (ok : PTOk3 prog w K p loose mean mg mb T D) {x : Str} {xp pos : Pos} {args : List Expr} {vs : List AV} {f : Fn} {st2 : St} {P3 : List Prop}
    (hl : loadF T fi (nm x) = some f) (h3 : argsE I fi args st = some (vs, st2, P3)) (hP3 : Ps P3) (O : FrOk K p loose mean mg mb fi fc) (B : Room2 D n fc.A) {Q : Value → Shared → Prop}
    (r : Rel w.params fi fc ρ st s.heap) (H : ∀ ρ' h' tk cvs, Ext ρ st.n ρ' st2.n → Rel w.params fi fc ρ' st2 h' → All2 (RepV ρ' st2.n) vs cvs → wpAny (model prog w) fc.A (call f.val cvs) Q NoE { s with heap := h', toks := tk }) :
    wpAny (model prog w) fc.A (eval (.Call (.Name x xp) args [] pos) fc.env) Q NoE s := by
  refine Call_ (loadF_sound ok.toPTOk2 O hl r fun hf => ?_) ?_
  · exact callWith_sound S O B r hf h3 hP3 fun ρ2 h'' tk2 cvs X2 r2 q2 => H ρ2 h'' tk2 cvs X2 r2 q2
  · rfl
theorem call_hand {f : Addr} {g : FnI} (G : FnRec K f g) (hroom : fc.A.depth < 1000)
    {vs : List AV} {cvs : List Value} {mu : List (Nm × AV)} (hz : zipP g.ps vs = some mu) (O : FrOk K p loose mean mg mb fi fc) (own : fi.own = true)
    {Q : Value → Shared → Prop} (r : Rel w.params fi fc ρ st s.heap) (rv : All2 (RepV ρ st.n) vs cvs)
    (H : ∀ (fc' : FC) (h' : Heap) (tk : Nat), fc'.A.depth = fc.A.depth + 1 → fc'.A.units = fc.A.units + 3 → fc'.rest = fc.rest → FrOk K p loose mean mg mb ⟨g.sc, [], true, none⟩ fc' → Rel w.params ⟨g.sc, [], true, none⟩ fc' ρ { st with mu := mu } h' →
      wpAny (model prog w) fc'.A (execs g.body fc'.env) (fun fl s' => Back w fi fc ρ st Q ⟨g.sc, [], true, none⟩ fc' (flVal fl) s') NoE { s with heap := h', toks := tk }) :
    wpAny (model prog w) fc.A (call (Fn.fn f).val cvs) Q NoE s :=
  wpAny_call (enter_hand G hroom rfl O.hh hz O own r rv H)
end
end Mine
namespace Mine
open PySem PySem.W PyProof.Rows PySem.Calls PySem.Spec
section
variable {P : Params} {fi : FI} {fc : FC} {ρ : Nat → Addr} {st : St} {h h' : Heap} {m : Str → Option Value} {os : List Obj}
/-- an object is told in another way -/
theorem Rel.conv (r : Rel P fi fc ρ st h) {l : Nat} {a a' : AO} (e : st.sg.get l = a) (hm : a.mut = true) (hlo : ∀ es, a' = .tab es → ∃ es0, a = .tab es0) (hv : ∀ o, RepO P ρ st.n a o → RepO P ρ st.n a' o) : Rel P fi fc ρ (setO l a' st) h := by
  obtain ⟨m, os, R⟩ := r
  obtain ⟨o, ho, hr, hmem, hg⟩ := R.get e (AO.mut_live hm)
  have hl : l < st.n := R.lt (by rw [e]; exact AO.mut_live hm)
  have hset : os.set l o = os := by
    obtain ⟨h1, h2⟩ := List.getElem?_eq_some_iff.mp ho
    rw [← h2]; exact List.set_getElem_self h1
  have := R.set (l := l) (a' := a') (o' := o) hl R.F (by rw [hset]; exact R.N) (hv o hr) (fun es q => by
    obtain ⟨es0, e0⟩ := hlo es q
    exact R.lo l es0 (e.trans e0)) (hm := by rw [e]; exact hm)
  exact ⟨m, _, this⟩
end
end Mine
namespace Mine
open PySem PySem.W PyProof.Rows PySem.Calls PySem.Spec

section
variable {prog : Program} {w : World} {K : Frag} {p : Program} {loose : List Str} {mean : ExcName → Option Value} {mg mb : Str → Option Value} {T : PT} {D n : Nat} {I : Evs} {fi : FI} {fc : FC} {ρ : Nat → Addr} {st st' : St} {s : Shared}

/-- a way of running a piece that is sound -/
noncomputable def SndF {α β : Type} (w : World) (fi : FI) (fc : FC) (ev : St → Rr α) (RA : (Nat → Addr) → Nat → α → β → Prop) (wp : (β → Shared → Prop) → Shared → Prop) : Prop :=
  ∀ st a st' P, ev st = some (a, st', P) → Ps P → ∀ ρ s Q, Rel w.params fi fc ρ st s.heap → Pst w.params fi fc ρ st st' s (fun ρ' v => RA ρ' st'.n a v) Q → wp Q s

noncomputable def restOf (ρ : Nat → Addr) (xs : List Nat) (f : Nat → Obj) (rest : List (Addr × Obj)) : List (Addr × Obj) := xs.map (fun l => (ρ l, f l)) ++ rest
theorem out_turn {α β : Type} {ev : St → Rr α} {RA : (Nat → Addr) → Nat → α → β → Prop} {wp : (β → Shared → Prop) → Shared → Prop} (sf : SndF w fi fc ev RA wp) {Q : β → Shared → Prop} {ks xs : List Nat} {ns : List Nm}
    {C : (Nat → Addr) → St} {E : (Nat → Addr) → List EO} {a : α} {Ph : (Nat → Addr) → List Prop} (hev : ∀ ρ', outc ρ' ks xs ns (ev st) = some (C ρ', E ρ', a, Ph ρ')) (hPh : ∀ ρ', Ext ρ st.n ρ' st.n → Ps (Ph ρ'))
    (hcl : ∀ x l, look x fi.cl = some l → ks[l]? = some l) (r : Rel w.params fi fc ρ st s.heap)
    (H : ∀ ρ' h' tk f v m, Ext ρ st.n ρ' st.n → Gone w.params fc ρ' xs (E ρ') f → Rel w.params fi { fc with rest := restOf ρ' xs f fc.rest } (fun j => ρ' (ks.getD j 0)) (C ρ') h' → RA ρ' m a v → Q v { s with heap := h', toks := tk }) : wp Q s := by
  obtain ⟨st1, P, e, hP, _⟩ := anew (w := w) (fc := fc) (h' := s.heap) (hev ρ) (hPh ρ ⟨Nat.le_refl _, fun _ _ => rfl⟩) hcl
  refine sf st a st1 P e hP ρ s Q r fun ρ' h' tk v X r' q => ?_
  have X' : Ext ρ st.n ρ' st.n := ⟨Nat.le_refl _, X.2⟩
  obtain ⟨st2, P2, e2, _, g⟩ := anew (w := w) (fc := fc) (h' := h') (hev ρ') (hPh ρ' X') hcl
  rw [e] at e2
  cases e2
  obtain ⟨f, g1, g2⟩ := g r'
  exact H ρ' h' tk f v _ X' g1 g2 q
theorem sndF_ss (S : Snd prog w K p loose mean mg mb D n I) (O : FrOk K p loose mean mg mb fi fc) (B : Room2 D n fc.A) (xs : List Stmt) : SndF w fi fc (I.ss fi xs) (fun ρ' m a v => RepF ρ' m a v) (fun Q s => wpAny (model prog w) fc.A (execs xs fc.env) Q NoE s) :=
  fun st a st' P h hP ρ s Q r H => S.ss _ _ _ _ _ _ _ h hP O B ρ s Q r H
theorem sndF_s (S : Snd prog w K p loose mean mg mb D n I) (O : FrOk K p loose mean mg mb fi fc) (B : Room2 D n fc.A) (x : Stmt) : SndF w fi fc (I.s fi x) (fun ρ' m a v => RepF ρ' m a v) (fun Q s => wpAny (model prog w) fc.A (exec x fc.env) Q NoE s) :=
  fun st a st' P h hP ρ s Q r H => S.s _ _ _ _ _ _ _ h hP O B ρ s Q r H
theorem sndF_e (S : Snd prog w K p loose mean mg mb D n I) (O : FrOk K p loose mean mg mb fi fc) (B : Room2 D n fc.A) (x : Expr) : SndF w fi fc (I.e fi x) (fun ρ' m a v => RepV ρ' m a v) (fun Q s => wpAny (model prog w) fc.A (eval x fc.env) Q NoE s) :=
  fun st a st' P h hP ρ s Q r H => S.e _ _ _ _ _ _ _ h hP O B ρ s Q r H
theorem sndF_b (S : Snd prog w K p loose mean mg mb D n I) (O : FrOk K p loose mean mg mb fi fc) (B : Room2 D n fc.A) (x : Expr) : SndF w fi fc (I.b fi x) (fun _ _ a v => v = a) (fun Q s => wpAny (model prog w) fc.A (isTrue x fc.env (eval x fc.env)) Q NoE s) :=
  fun st a st' P h hP ρ s Q r H => S.b _ _ _ _ _ _ _ h hP O B ρ s Q r H

/-- the start of a for loop -/
noncomputable def startFr (I : Evs) (fi : FI) (i : Expr) (st : St) : Rr AV := bnd (I.e fi i st) fun a st => match a with
  | .ref l => mkIt l st
  | _ => none
/-- one turn of a for loop -/
noncomputable def turnFr (I : Evs) (fi : FI) (t : Expr) (k : Nat) (b : List Stmt) (st : St) : Rr (Option AFl) := bnd (nxt k st) fun o st => match o with
  | none => ret none st
  | some a => bnd (I.asg fi t a st) fun _ st => bnd (I.ss fi b st) fun f st => ret (some f) st

set_option tactic.hygienic true in
/-- one turn that goes on -/
theorem fr_next (S : Snd prog w K p loose mean mg mb D n I) (O : FrOk K p loose mean mg mb fi fc) (B : Room2 D n fc.A) {t : Expr} {k k' : Nat} {b : List Stmt} {Q : Flow → Shared → Prop} {ks xs : List Nat} {ns : List Nm}
    {C : (Nat → Addr) → St} {E : (Nat → Addr) → List EO} {Ph : (Nat → Addr) → List Prop} (hev : ∀ ρ', outc ρ' ks xs ns (turnFr I fi t k b st) = some (C ρ', E ρ', some .next, Ph ρ')) (hk : k < st.n) (hkk : ks.getD k' 0 = k) (hPh : ∀ ρ', Ext ρ st.n ρ' st.n → Ps (Ph ρ'))
    (hcl : ∀ x l, look x fi.cl = some l → ks[l]? = some l) (r : Rel w.params fi fc ρ st s.heap)
    (H : ∀ ρ' h' tk f, Ext ρ st.n ρ' st.n → Gone w.params fc ρ' xs (E ρ') f → Rel w.params fi { fc with rest := restOf ρ' xs f fc.rest } (fun j => ρ' (ks.getD j 0)) (C ρ') h' →
      codeAny (model prog w) fc.A (.forLoop t (.ref ((fun j => ρ' (ks.getD j 0)) k')) b [] fc.env) (fun r s' => match r with | .ok f => Q f s' | .error _ => False) { s with heap := h', toks := tk }) :
    codeAny (model prog w) fc.A (.forLoop t (.ref (ρ k)) b [] fc.env) (fun r s' => match r with | .ok f => Q f s' | .error _ => False) s := by
  obtain ⟨st1, P, e, hP, _⟩ := anew (w := w) (fc := fc) (h' := s.heap) (hev ρ) (hPh ρ ⟨Nat.le_refl _, fun _ _ => rfl⟩) hcl
  refine bnd_el e hP fun o st2 P1 P2 h1 h2 hP1 hP2 => ?_
  refine forTurn_sound (nxt_sound O.hh h1 hP1 r fun h' tk o' r' ro hi => ?_)
  cases o with
  | none => first | exact nn h2 | cases h2
  | some a =>
    cases o' with
    | none => exact ro.elim
    | some v =>
      have hn := nxt_n h1 hP1
      refine bnd_el h2 hP2 fun _ st3 P3 P4 h3 h4 hP3 hP4 => ?_
      refine bnd_el h4 hP4 fun f st4 P5 P6 h5 h6 hP5 hP6 => ?_
      first | (obtain ⟨rfl, rfl, rfl⟩ := ret_some h6) | cases h6
      have ro : RepV ρ st2.n a v := by rw [hn]; exact ro
      refine owned_no (s := { s with heap := h', toks := tk }) r' (hi (by intro q; cases q)) ?_
      refine S.asg _ _ _ _ _ _ _ h3 hP3 O B ρ { s with heap := h', toks := tk } _ _ r' ro fun ρ1 h1' tk1 _ X1 r1 _ => ?_
      refine S.ss _ _ _ _ _ _ _ h5 hP5 O B ρ1 { s with heap := h1', toks := tk1 } _ r1 fun ρ2 h2' tk2 v2 X2 r2 q2 => ?_
      obtain rfl := q2
      have X' : Ext ρ st.n ρ2 st.n := ⟨Nat.le_refl _, by have := (X1.trans X2).2; rw [hn] at this; exact this⟩
      obtain ⟨st5, P7, e2, _, g⟩ := anew (w := w) (fc := fc) (h' := h2') (hev ρ2) (hPh ρ2 X') hcl
      rw [e] at e2
      cases e2
      obtain ⟨f, g1, g2⟩ := g r2
      have := H ρ2 h2' tk2 f X' g1 g2
      have ek : ρ2 (ks.getD k' 0) = ρ k := by rw [hkk]; exact X'.2 k hk
      simp only [ek] at this
      exact this
set_option tactic.hygienic true in
/-- the loop's end -/
theorem fr_end (S : Snd prog w K p loose mean mg mb D n I) (O : FrOk K p loose mean mg mb fi fc) {t : Expr} {k : Nat} {b : List Stmt} {Q : Flow → Shared → Prop} {ks xs : List Nat} {ns : List Nm}
    {C : (Nat → Addr) → St} {E : (Nat → Addr) → List EO} {Ph : (Nat → Addr) → List Prop} (hev : ∀ ρ', outc ρ' ks xs ns (turnFr I fi t k b st) = some (C ρ', E ρ', none, Ph ρ')) (hPh : ∀ ρ', Ext ρ st.n ρ' st.n → Ps (Ph ρ'))
    (hcl : ∀ x l, look x fi.cl = some l → ks[l]? = some l) (r : Rel w.params fi fc ρ st s.heap)
    (H : ∀ h' tk f, Gone w.params fc ρ xs (E ρ) f → Rel w.params fi { fc with rest := restOf ρ xs f fc.rest } (fun j => ρ (ks.getD j 0)) (C ρ) h' → Q .next { s with heap := h', toks := tk }) :
    codeAny (model prog w) fc.A (.forLoop t (.ref (ρ k)) b [] fc.env) (fun r s' => match r with | .ok f => Q f s' | .error _ => False) s := by
  obtain ⟨st1, P, e, hP, _⟩ := anew (w := w) (fc := fc) (h' := s.heap) (hev ρ) (hPh ρ ⟨Nat.le_refl _, fun _ _ => rfl⟩) hcl
  refine bnd_el e hP fun o st2 P1 P2 h1 h2 hP1 hP2 => ?_
  refine forTurn_sound (nxt_sound O.hh h1 hP1 r fun h' tk o' r' ro hi => ?_)
  cases o with
  | some a =>
    refine bnd_el h2 hP2 fun _ st3 P3 P4 h3 h4 hP3 hP4 => ?_
    refine bnd_el h4 hP4 fun f st4 P5 P6 h5 h6 hP5 hP6 => ?_
    first | exact nn h6 | cases h6
  | none =>
    cases o' with
    | some v => exact ro.elim
    | none =>
      refine wpAny_execs_nil ?_
      first | (obtain ⟨rfl, rfl, rfl⟩ := ret_some h2) | cases h2
      obtain ⟨st5, P7, e2, _, g⟩ := anew (w := w) (fc := fc) (h' := h') (hev ρ) (hPh ρ ⟨Nat.le_refl _, fun _ _ => rfl⟩) hcl
      rw [e] at e2
      cases e2
      obtain ⟨f, g1, g2⟩ := g r'
      exact H h' tk f g1 g2
/-- the start -/
theorem for_out (S : Snd prog w K p loose mean mg mb D n I) (O : FrOk K p loose mean mg mb fi fc) (B : Room2 D n fc.A) {t i : Expr} {k k' : Nat} {b : List Stmt} {pos : Pos} {Q : Flow → Shared → Prop} {ks xs : List Nat} {ns : List Nm}
    {C : (Nat → Addr) → St} {E : (Nat → Addr) → List EO} {Ph : (Nat → Addr) → List Prop} (hi : plainIt i = true) (hev : ∀ ρ', outc ρ' ks xs ns (startFr I fi i st) = some (C ρ', E ρ', .ref k, Ph ρ')) (hkk : ks.getD k' 0 = k) (hPh : ∀ ρ', Ext ρ st.n ρ' st.n → Ps (Ph ρ'))
    (hcl : ∀ x l, look x fi.cl = some l → ks[l]? = some l) (r : Rel w.params fi fc ρ st s.heap)
    (H : ∀ ρ' h' tk f, Ext ρ st.n ρ' st.n → Gone w.params fc ρ' xs (E ρ') f → Rel w.params fi { fc with rest := restOf ρ' xs f fc.rest } (fun j => ρ' (ks.getD j 0)) (C ρ') h' →
      codeAny (model prog w) fc.A (.forLoop t (.ref ((fun j => ρ' (ks.getD j 0)) k')) b [] fc.env) (fun r s' => match r with | .ok f => Q f s' | .error _ => False) { s with heap := h', toks := tk }) :
    wpAny (model prog w) fc.A (exec (.For t i b [] pos) fc.env) Q NoE s := by
  obtain ⟨st1, P, e, hP, _⟩ := anew (w := w) (fc := fc) (h' := s.heap) (hev ρ) (hPh ρ ⟨Nat.le_refl _, fun _ _ => rfl⟩) hcl
  refine bnd_el e hP fun a st2 P1 P2 h1 h2 hP1 hP2 => ?_
  obtain ⟨l, rfl⟩ : ∃ l, a = .ref l := by cases a <;> first | exact ⟨_, rfl⟩ | cases h2
  refine wpAny_For (S.e _ _ _ _ _ _ _ h1 hP1 O B ρ s _ r fun ρ1 h1' tk1 v X1 r1 q => ?_) (plain_folds hi fc.env)
  obtain ⟨hl1, rfl⟩ := q
  refine mkIt_sound (s := { s with heap := h1', toks := tk1 }) h2 r1 hl1 fun ρ2 h2' tk2 v2 X2 r2 q2 => ?_
  obtain ⟨_, rfl⟩ := q2
  have X' : Ext ρ st.n ρ2 st.n := ⟨Nat.le_refl _, (X1.trans X2).2⟩
  obtain ⟨st5, P6, e5, _, g⟩ := anew (w := w) (fc := fc) (h' := h2') (hev ρ2) (hPh ρ2 X') hcl
  rw [e] at e5
  cases e5
  obtain ⟨f, g1, g2⟩ := g r2
  have := H ρ2 h2' tk2 f X' g1 g2
  simp only [hkk] at this
  refine codeAny_mono this fun r s' hr => ?_
  cases r with
  | ok f => exact hr
  | error e => exact hr.elim
set_option tactic.hygienic true in
/-- a row of statements, the first by hand -/
theorem execs_cons {x : Stmt} {xs : List Stmt} {Q : Flow → Shared → Prop} (h : wpAny (model prog w) fc.A (exec x fc.env) (fun f s' => match f with | .next => wpAny (model prog w) fc.A (execs xs fc.env) Q NoE s' | f => Q f s') NoE s) :
    wpAny (model prog w) fc.A (execs (x :: xs) fc.env) Q NoE s := wpAny_execs_cons h
end
end Mine
namespace Mine
open PySem PySem.W PyProof.Rows PySem.Calls PySem.Spec
/-- the head of one turn of a for loop -/
noncomputable def turnA (I : Evs) (fi : FI) (t : Expr) (k : Nat) (st : St) : Rr Bool := bnd (nxt k st) fun o st => match o with
  | none => ret false st
  | some a => bnd (I.asg fi t a st) fun _ st => ret true st
/-- rows of tuples in the rest -/
noncomputable def RowsR (P : Params) (rest : List (Addr × Obj)) (lg : List AV) (L : List (List AV)) : Prop := All2 (fun a l => ∃ c, a = .con (.ref c) ∧ ∃ o, (c, o) ∈ rest ∧ RepEO P (.tup l) o) lg L
theorem RowsR.con {P : Params} {rest : List (Addr × Obj)} {lg : List AV} {L : List (List AV)} (h : RowsR P rest lg L) : AllCon lg := by
  induction lg generalizing L with
  | nil => intro a ha; cases ha
  | cons a r ih =>
    cases L with
    | nil => exact h.elim
    | cons l L =>
      intro b hb
      rcases List.mem_cons.mp hb with rfl | hb
      · obtain ⟨c, rfl, _⟩ := h.1; exact ⟨_, rfl⟩
      · exact ih h.2 b hb
theorem RowsR.more {P : Params} {rest rest' : List (Addr × Obj)} {lg : List AV} {L : List (List AV)} (h : RowsR P rest lg L) (k : ∀ c o l, (c, o) ∈ rest → RepEO P (.tup l) o → (c, o) ∈ rest') : RowsR P rest' lg L :=
  h.mono fun a _ l ⟨c, e, o, ho, hr⟩ => ⟨c, e, o, k c o _ ho hr, hr⟩
theorem RowsR.mono {P : Params} {rest rest' : List (Addr × Obj)} {lg : List AV} {L : List (List AV)} (h : RowsR P rest lg L) (k : ∀ y ∈ rest, y ∈ rest') : RowsR P rest' lg L := h.more fun _ _ _ hc _ => k _ hc
theorem mem_restOf {ρ : Nat → Addr} {xs : List Nat} {f : Nat → Obj} {rest : List (Addr × Obj)} {y : Addr × Obj} (h : y ∈ rest) : y ∈ restOf ρ xs f rest := List.mem_append_right _ h
theorem new_restOf {ρ : Nat → Addr} {xs : List Nat} {f : Nat → Obj} {rest : List (Addr × Obj)} {l : Nat} (h : l ∈ xs) : (ρ l, f l) ∈ restOf ρ xs f rest := List.mem_append_left _ (List.mem_map.mpr ⟨l, h, rfl⟩)

section
variable {prog : Program} {w : World} {K : Frag} {p : Program} {loose : List Str} {mean : ExcName → Option Value} {mg mb : Str → Option Value} {T : PT} {D n : Nat} {I : Evs} {fi : FI} {fc : FC} {ρ : Nat → Addr} {st st' : St} {s : Shared}
/-- a new row -/
theorem Gone.row {xs : List Nat} {E : List EO} {f : Nat → Obj} (g : Gone w.params fc ρ xs E f) {i l : Nat} {ys : List AV} {rest : List (Addr × Obj)} (h1 : xs[i]? = some l) (h2 : E[i]? = some (.tup ys)) :
    ∃ c, AV.con (.ref (ρ l)) = .con (.ref c) ∧ ∃ o, (c, o) ∈ restOf ρ xs f rest ∧ RepEO w.params (.tup ys) o :=
  ⟨_, rfl, f l, new_restOf (List.mem_of_getElem? h1), g.rep i l _ h1 h2⟩
set_option tactic.hygienic true in
/-- one turn whose body is told by hand -/
theorem fr_hand (S : Snd prog w K p loose mean mg mb D n I) (O : FrOk K p loose mean mg mb fi fc) (B : Room2 D n fc.A) {t : Expr} {k : Nat} {b : List Stmt} {Q : Flow → Shared → Prop} {ks xs : List Nat} {ns : List Nm}
    {C : (Nat → Addr) → St} {E : (Nat → Addr) → List EO} {Ph : (Nat → Addr) → List Prop} (hev : ∀ ρ', outc ρ' ks xs ns (turnA I fi t k st) = some (C ρ', E ρ', true, Ph ρ')) (hPh : ∀ ρ', Ext ρ st.n ρ' st.n → Ps (Ph ρ'))
    (hcl : ∀ x l, look x fi.cl = some l → ks[l]? = some l) (r : Rel w.params fi fc ρ st s.heap)
    (H : ∀ ρ' h' tk f, Ext ρ st.n ρ' st.n → Gone w.params fc ρ' xs (E ρ') f → Rel w.params fi { fc with rest := restOf ρ' xs f fc.rest } (fun j => ρ' (ks.getD j 0)) (C ρ') h' →
      wpAny (model prog w) fc.A (execs b fc.env) (fun f s' => match f with
        | .next => codeAny (model prog w) fc.A (.forLoop t (.ref (ρ k)) b [] fc.env) (fun r s' => match r with | .ok f => Q f s' | .error _ => False) s'
        | .cont => codeAny (model prog w) fc.A (.forLoop t (.ref (ρ k)) b [] fc.env) (fun r s' => match r with | .ok f => Q f s' | .error _ => False) s'
        | .brk => Q .next s'
        | .ret v => Q (.ret v) s') NoE { s with heap := h', toks := tk }) :
    codeAny (model prog w) fc.A (.forLoop t (.ref (ρ k)) b [] fc.env) (fun r s' => match r with | .ok f => Q f s' | .error _ => False) s := by
  obtain ⟨st1, P, e, hP, _⟩ := anew (w := w) (fc := fc) (h' := s.heap) (hev ρ) (hPh ρ ⟨Nat.le_refl _, fun _ _ => rfl⟩) hcl
  refine bnd_el e hP fun o st2 P1 P2 h1 h2 hP1 hP2 => ?_
  refine forTurn_sound (nxt_sound O.hh h1 hP1 r fun h' tk o' r' ro hi => ?_)
  cases o with
  | none => first | exact nn h2 | cases h2
  | some a =>
    cases o' with
    | none => exact ro.elim
    | some v =>
      have hn := nxt_n h1 hP1
      refine bnd_el h2 hP2 fun _ st3 P3 P4 h3 h4 hP3 hP4 => ?_
      first | (obtain ⟨rfl, rfl, rfl⟩ := ret_some h4) | cases h4
      have ro : RepV ρ st2.n a v := by rw [hn]; exact ro
      refine owned_no (s := { s with heap := h', toks := tk }) r' (hi (by intro q; cases q)) ?_
      refine S.asg _ _ _ _ _ _ _ h3 hP3 O B ρ { s with heap := h', toks := tk } _ _ r' ro fun ρ1 h1' tk1 _ X1 r1 _ => ?_
      have X' : Ext ρ st.n ρ1 st.n := ⟨Nat.le_refl _, by have := X1.2; rw [hn] at this; exact this⟩
      obtain ⟨st5, P7, e2, _, g⟩ := anew (w := w) (fc := fc) (h' := h1') (hev ρ1) (hPh ρ1 X') hcl
      rw [e] at e2
      cases e2
      obtain ⟨f, g1, g2⟩ := g r1
      exact H ρ1 h1' tk1 f X' g1 g2
end
end Mine
namespace Mine
open PySem PySem.W PyProof.Rows PySem.Calls PySem.Spec
theorem Ps.join {a b : List Prop} (h : Ps a) (k : Ps b) : Ps (a ++ b) := by
  induction a with
  | nil => exact k
  | cons p r ih => exact ⟨h.1, ih h.2⟩
section
variable {P : Params} {fi : FI} {fc : FC} {ρ : Nat → Addr} {st st' : St} {h h' : Heap} {m : Str → Option Value} {os : List Obj}
/-- the locals told in another way -/
theorem Rel.remu (r : Rel P fi fc ρ st h) {mu' : List (Nm × AV)} (hm : ∀ x a, look x mu' = some a → ∃ b, look x st.mu = some b ∧ ∀ u, RepV ρ st.n b u → RepV ρ st.n a u) (o : List Nat) (v : List AV) : Rel P fi fc ρ { st with mu := mu', or := o, ov := v } h := by
  obtain ⟨m, os, R⟩ := r
  refine ⟨m, os, R.F, R.N, fun x a hx => ?_, R.len, R.os, R.out, R.inj, R.ap, R.cl, R.lo, R.im⟩
  obtain ⟨b, hb, k⟩ := hm x a hx
  obtain ⟨u, hu, ru⟩ := R.mu x b hb
  exact ⟨u, hu, k u ru⟩
theorem Rel.noimm (r : Rel P fi fc ρ st h) (o : List Nat) (v : List AV) : Rel P fi fc ρ { st with or := o, ov := v, imm := fun _ _ => False } h := by
  obtain ⟨m, os, R⟩ := r
  exact ⟨m, os, R.F, R.N, R.mu, R.len, R.os, R.out, R.inj, R.ap, R.cl, R.lo, fun _ _ h => h.elim⟩
/-- without its cells, without the ground's list -/
theorem Rel.cl0 (r : Rel P fi fc ρ st h) {fi' : FI} (e : fi'.cl = []) : Rel P fi' fc ρ st h := by
  obtain ⟨m, os, R⟩ := r
  exact ⟨m, os, R.F, R.N, R.mu, R.len, R.os, R.out, R.inj, R.ap, (fun x l hx => by rw [e] at hx; cases hx), R.lo, R.im⟩
theorem Rel.cls (r : Rel P fi fc ρ st h) {fi' : FI} (e : ∀ x l, look x fi'.cl = some l → l < st.n ∧ fc.env.cells.lookup (stn x) = some (ρ l)) : Rel P fi' fc ρ st h := by
  obtain ⟨m, os, R⟩ := r
  exact ⟨m, os, R.F, R.N, R.mu, R.len, R.os, R.out, R.inj, R.ap, e, R.lo, R.im⟩
theorem Rel.cell (r : Rel P fi fc ρ st h) {x : Nm} {l : Nat} (e : look x fi.cl = some l) : fc.env.cells.lookup (stn x) = some (ρ l) := by
  obtain ⟨m, os, R⟩ := r
  exact (R.cl x l e).2
theorem FrOk.refi {K : Frag} {p : Program} {loose : List Str} {mean : ExcName → Option Value} {mg mb : Str → Option Value} {fi' : FI} (O : FrOk K p loose mean mg mb fi fc) (e1 : fi'.sc = fi.sc) (e2 : fi'.own = fi.own) (e3 : fi'.scr = none) : FrOk K p loose mean mg mb fi' fc :=
  ⟨O.X, O.T, O.hh, O.hk, by rw [e1]; exact O.sc, O.gl, O.bl, by rw [e2]; exact O.own, fun b xs h => by rw [e3] at h; cases h⟩
end
section
variable {prog : Program} {w : World} {K : Frag} {p : Program} {loose : List Str} {mean : ExcName → Option Value} {mg mb : Str → Option Value} {T : PT} {D n : Nat} {I : Evs} {fi : FI} {fc : FC} {ρ : Nat → Addr} {st st' : St} {s : Shared}
/-- a state is seen anew, nothing run -/
theorem Rel.again {ks xs : List Nat} {ns : List Nm} {C : St} {E : List EO} {h' : Heap} (r : Rel w.params fi fc ρ st h') (h : outc ρ ks xs ns (ret () st) = some (C, E, (), [])) (hcl : ∀ x l, look x fi.cl = some l → ks[l]? = some l) :
    ∃ f, Gone w.params fc ρ xs E f ∧ Rel w.params fi { fc with rest := restOf ρ xs f fc.rest } (fun j => ρ (ks.getD j 0)) C h' := by
  obtain ⟨st2, P2, e2, _, g⟩ := anew (w := w) (fc := fc) (h' := h') h trivial hcl
  cases e2
  exact g r
end
/-! rows that read as data -/
theorem eqvAll_refl : ∀ {ds : List PyData}, (∀ d ∈ ds, PyData.eqv d d = true) → PyData.eqvAll ds ds = true
  | [], _ => by simp [PyData.eqvAll]
  | d :: ds, h => by
    rw [PyData.eqvAll, h d (.head _), eqvAll_refl fun e he => h e (.tail _ he)]; rfl
noncomputable def okStr (l : Nm) : Prop := ∀ c ∈ l, c < 0x110000
theorem strOk_of {l : Nm} (h : okStr l) : PyData.strOk (stn l) = true := by
  unfold PyData.strOk stn
  simp only [List.all_toArray, List.all_eq_true, decide_eq_true_eq]
  exact h
noncomputable def flatD : PyData → Prop
  | .none => True
  | .int _ => True
  | .str x => PyData.strOk x = true
  | _ => False
theorem flatD_eqv {d : PyData} (h : flatD d) : PyData.eqv d d = true := by
  cases d with
  | none => simp [PyData.eqv]
  | int i => simp [PyData.eqv]
  | str x => simp [PyData.eqv]
  | _ => exact h.elim
theorem flatD_lay {d : PyData} (h : flatD d) : d.canLay0 = true ∧ d.depth = 0 := by
  cases d with
  | none => exact ⟨by simp [PyData.canLay0], by simp [PyData.depth]⟩
  | int i => exact ⟨by simp [PyData.canLay0], by simp [PyData.depth]⟩
  | str x => exact ⟨by unfold PyData.canLay0; exact h, by simp [PyData.depth]⟩
  | _ => exact h.elim
noncomputable def rowD : PyData → Prop
  | .tuple ds => ∀ d ∈ ds, flatD d
  | _ => False
theorem canLayAll_of : ∀ {ds : List PyData}, (∀ d ∈ ds, d.canLay0 = true) → PyData.canLayAll0 ds = true
  | [], _ => by simp [PyData.canLayAll0]
  | d :: ds, h => by rw [PyData.canLayAll0, h d (.head _), canLayAll_of fun e he => h e (.tail _ he)]; rfl
theorem depthAll_of {k : Nat} : ∀ {ds : List PyData}, (∀ d ∈ ds, d.depth ≤ k) → PyData.depthAll ds ≤ k
  | [], _ => by simp [PyData.depthAll]
  | d :: ds, h => by
    rw [PyData.depthAll]
    have := h d (.head _)
    have := depthAll_of fun e he => h e (.tail _ he)
    lia
theorem rowD_all {d : PyData} (h : rowD d) : PyData.eqv d d = true ∧ d.canLay0 = true ∧ d.depth ≤ 1 := by
  cases d with
  | tuple ds =>
    refine ⟨?_, ?_, ?_⟩
    · rw [PyData.eqv]; exact eqvAll_refl fun d hd => flatD_eqv (h d hd)
    · unfold PyData.canLay0; exact canLayAll_of fun d hd => (flatD_lay (h d hd)).1
    · rw [PyData.depth]
      have := depthAll_of (k := 0) fun d hd => Nat.le_of_eq (flatD_lay (h d hd)).2
      lia
  | _ => exact h.elim
theorem rows_shaped {ds : List PyData} (h : ∀ d ∈ ds, rowD d) : SeqAt.shaped (.list ds) = true ∧ PyData.eqv (.list ds) (.list ds) = true := by
  refine ⟨?_, ?_⟩
  · unfold SeqAt.shaped
    rw [Bool.and_eq_true]
    refine ⟨?_, decide_eq_true ?_⟩
    · unfold PyData.canLay0; exact canLayAll_of fun d hd => (rowD_all (h d hd)).2.1
    · rw [PyData.depth]
      have := depthAll_of (k := 1) fun d hd => (rowD_all (h d hd)).2.2
      lia
  · rw [PyData.eqv]; exact eqvAll_refl fun d hd => (rowD_all (h d hd)).1
end Mine
namespace Mine
open PySem PySem.W PyProof.Rows PySem.Calls PySem.Spec
section
variable {prog : Program} {w : World} {K : Frag} {p : Program} {loose : List Str} {mean : ExcName → Option Value} {mg mb : Str → Option Value} {T : PT} {D n : Nat} {I : Evs} {fi : FI} {fc : FC} {ρ : Nat → Addr} {st st' : St} {s : Shared}
set_option tactic.hygienic true in
theorem ss_app (ok : PTOk3 prog w K p loose mean mg mb T D) (O : FrOk K p loose mean mg mb fi fc) {ys : List Stmt} {Q : Flow → Shared → Prop} : ∀ (xs : List Stmt) (n : Nat) {st st' : St} {P : List Prop} {ρ : Nat → Addr} {s : Shared}, (evs T n).ss fi xs st = some (.next, st', P) → Ps P → Room2 D n fc.A →
    Rel w.params fi fc ρ st s.heap → Pst w.params fi fc ρ st st' s (fun _ (_ : Unit) => True) (fun _ s' => wpAny (model prog w) fc.A (execs ys fc.env) Q NoE s') → wpAny (model prog w) fc.A (execs (xs ++ ys) fc.env) Q NoE s
  | _, 0, _, _, _, _, _, h, _, _, _, _ => by cases h
  | [], n + 1, st, st', P, ρ, s, h, hP, B, r, H => by
    first | (obtain ⟨rfl, rfl, rfl⟩ := ret_some h) | cases h
    exact H ρ s.heap s.toks () Ext.refl r trivial
  | x :: xs, n + 1, st, st', P, ρ, s, h, hP, B, r, H => by
    have h : bnd ((evs T n).s fi x st) (fun f st => match f with
      | .next => (evs T n).ss fi xs st
      | f => ret f st) = some (.next, st', P) := h
    refine bnd_el h hP fun f st1 P1 P2 h1 h2 hP1 hP2 => ?_
    refine wpAny_execs_cons ((snd_evs ok n).s _ _ _ _ _ _ _ h1 hP1 O B.step ρ s _ r fun ρ1 h' tk v X r1 q => ?_)
    cases f with
    | next =>
      obtain rfl := q
      exact ss_app ok O xs n (s := { s with heap := h', toks := tk }) h2 hP2 B.step r1 fun ρ2 h2' tk2 u X2 r2 _ => H ρ2 h2' tk2 u (X.trans X2) r2 trivial
    | brk => first | exact nn h2 | cases h2
    | cont => first | exact nn h2 | cases h2
    | ret a => first | exact nn h2 | cases h2
set_option tactic.hygienic true in
theorem out_app (ok : PTOk3 prog w K p loose mean mg mb T D) (O : FrOk K p loose mean mg mb fi fc) (B : Room2 D n fc.A) {xs ys : List Stmt} {Q : Flow → Shared → Prop} {ks ex : List Nat} {ns : List Nm}
    {C : (Nat → Addr) → St} {E : (Nat → Addr) → List EO} {Ph : (Nat → Addr) → List Prop} (hev : ∀ ρ', outc ρ' ks ex ns ((evs T n).ss fi xs st) = some (C ρ', E ρ', .next, Ph ρ')) (hPh : ∀ ρ', Ext ρ st.n ρ' st.n → Ps (Ph ρ'))
    (hcl : ∀ x l, look x fi.cl = some l → ks[l]? = some l) (r : Rel w.params fi fc ρ st s.heap)
    (H : ∀ ρ' h' tk f, Ext ρ st.n ρ' st.n → Gone w.params fc ρ' ex (E ρ') f → Rel w.params fi { fc with rest := restOf ρ' ex f fc.rest } (fun j => ρ' (ks.getD j 0)) (C ρ') h' → wpAny (model prog w) fc.A (execs ys fc.env) Q NoE { s with heap := h', toks := tk }) :
    wpAny (model prog w) fc.A (execs (xs ++ ys) fc.env) Q NoE s := by
  obtain ⟨st1, P, e, hP, _⟩ := anew (w := w) (fc := fc) (h' := s.heap) (hev ρ) (hPh ρ ⟨Nat.le_refl _, fun _ _ => rfl⟩) hcl
  refine ss_app ok O xs n e hP B r fun ρ' h' tk v X r' q => ?_
  have X' : Ext ρ st.n ρ' st.n := ⟨Nat.le_refl _, X.2⟩
  obtain ⟨st2, P2, e2, _, g⟩ := anew (w := w) (fc := fc) (h' := h') (hev ρ') (hPh ρ' X') hcl
  rw [e] at e2
  cases e2
  obtain ⟨f, g1, g2⟩ := g r'
  exact H ρ' h' tk f X' g1 g2
end
end Mine
namespace Mine
open PySem PySem.W PyProof.Rows PySem.Calls PySem.Spec
/-- a function with cells -/
structure FnRecC (K : Frag) (f : Addr) (g : FnI) : Prop where
  ex : ∃ oc od name qual params dV kV doc pm an cdv ct osl, K.lookup f = some ⟨oc, od, .func (fnOf name qual params g.body g.sc dV kV doc pm an cdv ct), osl⟩ ∧ codeIn K cdv qual = true ∧
    ∀ vs : List Value, vs.length = g.ps.length → bindArgs (fnOf name qual params g.body g.sc dV kV doc pm an cdv ct) ⟨vs, []⟩ = pure ((g.ps.map stn).zip vs)
  co : g.sc.isCoroutine = false
  gen : g.sc.isGenerator = false
  kind : g.sc.kind = .function
noncomputable def fdChkC (K : Frag) (fd : FuncData) : Bool :=
  isStmts fd.body && Nat.beq fd.globals mainGlobals && Nat.beq fd.builtins builtinsNs && fd.closure.isEmpty && fd.params.posonlyargs.isEmpty && fd.params.kwonlyargs.isEmpty && fd.params.vararg.isNone && fd.params.kwarg.isNone && isNoneV fd.defaults &&
  codeIn K fd.code fd.qualname && ndB (fd.params.args.map fun a => nm a.arg) && !fd.scope.isCoroutine && !fd.scope.isGenerator && isFunK fd.scope.kind
noncomputable def fnChkC (K : Frag) (f : Nat) : Bool := match K.lookup f with
  | some ⟨_, _, .func fd, _⟩ => fdChkC K fd
  | _ => false
theorem and_el14 {p1 p2 p3 p4 p5 p6 p7 p8 p9 p10 p11 p12 p13 p14 : Bool} {C : Prop} (h : (p1 && p2 && p3 && p4 && p5 && p6 && p7 && p8 && p9 && p10 && p11 && p12 && p13 && p14) = true)
    (k : p1 = true → p2 = true → p3 = true → p4 = true → p5 = true → p6 = true → p7 = true → p8 = true → p9 = true → p10 = true → p11 = true → p12 = true → p13 = true → p14 = true → C) : C :=
  and_el16 (p15 := true) (p16 := true) (by rw [h]; rfl) fun a1 a2 a3 a4 a5 a6 a7 a8 a9 a10 a11 a12 a13 a14 _ _ => k a1 a2 a3 a4 a5 a6 a7 a8 a9 a10 a11 a12 a13 a14
theorem fnRecC_of {K : Frag} {f : Addr} (h : fnChkC K f = true) : FnRecC K f (fnK K f) := fn_el h fun oc od fd osl hk h => and_el14 h fun c1 c2 c3 c4 c5 c6 c7 c8 c9 c10 c11 c13 c14 c15 => by
  obtain ⟨b, hb⟩ := isStmts_eq c1
  rw [fnK_at hk hb]
  obtain ⟨name, qual, params, body, scope, gl, cl, dV, kV, doc, pm, an, cdv, ct, bl⟩ := fd
  dsimp only at c2 c3 c4 c5 c6 c7 c8 c9 c10 c11 c13 c14 c15 hb ⊢
  have c2 := Nat.eq_of_beq_eq_true c2
  have c3 := Nat.eq_of_beq_eq_true c3
  have c4 := List.isEmpty_iff.mp c4
  subst c2 c3 c4 hb
  have nd := ndB_iff c11
  refine ⟨⟨oc, od, name, qual, params, dV, kV, doc, pm, an, cdv, ct, osl, hk, c10, fun vs hl => ?_⟩, notT c13, notT c14, isFunK_eq c15⟩
  refine bind_plain (List.isEmpty_iff.mp c5) (List.isEmpty_iff.mp c6) (isNone_eq' c7) (isNone_eq' c8) (isNoneV_eq c9) (show params.args.map (·.arg) = (params.args.map fun a => nm a.arg).map stn by rw [List.map_map]; rfl) ?_ (by simpa using hl)
  exact List.Pairwise.map _ (fun a b q e => q (stn_inj e)) nd
section
variable {prog : Program} {w : World} {K : Frag} {p : Program} {loose : List Str} {mean : ExcName → Option Value} {mg mb : Str → Option Value} {fi : FI} {fc : FC} {ρ : Nat → Addr} {st st' : St} {s : Shared}
theorem ad1 {a b : Nat} (h : a < b) : a ≠ b + 1 ∧ a ≠ b + 1 + 1 ∧ a ≠ b + 1 + 1 + 1 := by omega
theorem ad2 (b : Nat) : b + 1 + 1 + 1 ≠ b + 1 ∧ b + 1 + 1 ≠ b + 1 ∧ b + 1 + 1 + 1 ≠ b + 1 + 1 := by omega
/-- a call of a function of two parameters, the second of which is a cell; two cells more -/
theorem call_c3 {f : Addr} {g : FnI} (G : FnRecC K f g) {x y u v : Nm} (hps : g.ps = [x, y]) (hx : g.sc.names.lookup (stn x) = some .local) (hy : g.sc.names.lookup (stn y) = some .cell)
    (hcf : ∀ n, cellsFrom n g.sc.names [] = [(stn v, n + 1 + 1), (stn u, n + 1), (stn y, n)]) (hxy : x ≠ y) (hyu : u ≠ y) (hyv : v ≠ y) (huv : u ≠ v) (hroom : fc.A.depth < 1000)
    {a b : AV} {cvs : List Value} (O : FrOk K p loose mean mg mb fi fc) (own : fi.own = true) {Q : Value → Shared → Prop} (r : Rel w.params fi fc ρ st s.heap) (rv : All2 (RepV ρ st.n) [a, b] cvs)
    (H : ∀ (fc' : FC) (h' : Heap) (tk : Nat) (L' : Addr) (o0 o1 o2 : Obj) (vb : Value), fc'.A.depth = fc.A.depth + 1 → fc'.A.units = fc.A.units + 3 → fc'.rest = [(L' + 1 + 1 + 1, o2), (L' + 1 + 1, o1), (L' + 1, o0)] ++ fc.rest → o0.data = .cell (some vb) → RepV ρ st.n b vb → o1.data = .cell none → o2.data = .cell none →
      fc'.env.cells = [(stn v, L' + 1 + 1 + 1), (stn u, L' + 1 + 1), (stn y, L' + 1)] → (∀ i, st.sg.get i ≠ .dead → ρ i < L') → (∀ q ∈ fc.rest, q.1 < L') → (∀ (fi' : FI) rest, fi'.sc = g.sc → fi'.own = true → fi'.scr = none → FrOk K p loose mean mg mb fi' { fc' with rest := rest }) →
      Rel w.params ⟨g.sc, [], true, none⟩ fc' ρ { st with mu := [(x, a)], imm := fun _ _ => False } h' →
      wpAny (model prog w) fc'.A (execs g.body fc'.env) (fun fl s' => Back w fi fc ρ st Q ⟨g.sc, [], true, none⟩ fc' (flVal fl) s') NoE { s with heap := h', toks := tk }) :
    wpAny (model prog w) fc.A (call (.ref f) cvs) Q NoE s := by
  refine wpAny_call ?_
  obtain ⟨m, os, R0⟩ := r
  obtain ⟨va, vb, rfl, ra, rb, _⟩ := All2.two rv
  obtain ⟨oc, od, name, qual, params, dV, kV, doc, pm, an, cdv, ct, osl, ho, hcd, hbind⟩ := G.ex
  obtain ⟨hB, hF, hL⟩ := O.own own
  have hlt : ∀ {i : Nat}, st.sg.get i ≠ .dead → ∃ o, os[i]? = some o ∧ (ρ i, o) ∈ ledF st.sg ρ 0 os ++ fc.rest := fun hi => by
    obtain ⟨o, h1, _, h3, _⟩ := R0.get rfl hi
    exact ⟨o, h1, h3⟩
  refine code_defC (binds := [(stn x, va), (stn y, vb)]) (s := s) hB R0.F O.X R0.N O.T hF hL O.hk ho hcd (by have e : recursionLimit = 1000 := rfl; rw [e]; exact hroom)
    (BindsTo.of_eq (by have := hbind [va, vb] (by rw [hps]; rfl); rw [hps] at this; exact this)) (by simp [hx, hy]) (by
      rw [hcf]
      have q1 : stn v ≠ stn u := fun e => huv (stn_inj e).symm
      have q2 : stn v ≠ stn y := fun e => hyv (stn_inj e)
      have q3 : stn u ≠ stn y := fun e => hyu (stn_inj e)
      simp [q1, q2, q3]) (fun g' L' h₁ tk cells FG F' N' CA B' X' T' hnew => ?_) G.co G.gen G.kind
  have hk1 : (envOfC qual g.sc L' f cdv).kindOf (stn x) = some .local := hx
  have hk2 : (envOfC qual g.sc L' f cdv).kindOf (stn y) = some .cell := hy
  rw [hcf] at CA
  obtain ⟨o2, o1, o0, rfl, e2, e1, e0⟩ : ∃ o2 o1 o0, cells = [(L' + 1 + 1 + 1, o2), (L' + 1 + 1, o1), (L' + 1, o0)] ∧ o2.data = .cell none ∧ o1.data = .cell none ∧ o0.data = .cell (some vb) := by
    have hc : ∀ z, (bindC (envOfC qual g.sc L' f cdv).kindOf [(stn x, va), (stn y, vb)] fun _ => none) z = if z = stn y then some vb else none := fun z => by
      simp only [bindC, hk1, hk2]
      rfl
    cases CA with
    | cons d2 CA => cases CA with
      | cons d1 CA => cases CA with
        | cons d0 CA => cases CA with
          | nil =>
            rw [hc] at d0 d1 d2
            rw [if_neg (fun e => hyv (stn_inj e))] at d2
            rw [if_neg (fun e => hyu (stn_inj e))] at d1
            rw [if_pos rfl] at d0
            exact ⟨_, _, _, rfl, d2, d1, d0⟩
  let fi0 : FI := ⟨g.sc, [], true, none⟩
  let fcA : FC := { A := fc.A.deeper (envOfC qual g.sc L' f cdv), A₀ := fc.A, base := fc.base, outer := fc.env :: fc.outer, h₀ := g', env := envOfC qual g.sc L' f cdv, rest := [(L' + 1 + 1 + 1, o2), (L' + 1 + 1, o1), (L' + 1, o0)] ++ fc.rest }
  have O' : ∀ (fi' : FI) rest, fi'.sc = g.sc → fi'.own = true → fi'.scr = none → FrOk K p loose mean mg mb fi' { fcA with rest := rest } := fun fi' rest k1 k2 k3 =>
    ⟨X', T', O.hh, G.kind, k1.symm, rfl, rfl, (fun _ => ⟨B', Around.frames_deeper hF, rfl⟩), fun b xs z => by rw [k3] at z; cases z⟩
  have rA : Rel w.params fi0 fcA ρ { st with mu := [(x, a)], imm := fun _ _ => False } h₁ := by
    refine ⟨_, os, F', fun q hq => ?_, fun z b' hz => ?_, R0.len, R0.os, R0.out, R0.inj, fun i hi q hq => ?_, (fun z l hz => by cases hz), R0.lo, fun _ _ hc => hc.elim⟩
    · rcases List.mem_append.mp hq with hq | hq
      · exact N' q (List.mem_append_right _ (List.mem_append_left _ hq))
      · rcases List.mem_append.mp hq with hq | hq
        · exact N' q (List.mem_append_left _ hq)
        · exact N' q (List.mem_append_right _ (List.mem_append_right _ hq))
    · have hm := look_mem hz
      simp only [List.mem_cons, Prod.mk.injEq, List.not_mem_nil, or_false] at hm
      obtain ⟨rfl, rfl⟩ := hm
      refine ⟨va, ?_, ra⟩
      simp [bindL, hk1, hk2]
    · rcases List.mem_append.mp hq with hq | hq
      · obtain ⟨o, _, hmem⟩ := hlt (AO.mut_live hi)
        have := hnew _ hmem
        simp only [List.mem_cons, List.not_mem_nil, or_false] at hq
        have t := ad1 this
        rcases hq with rfl | rfl | rfl
        · exact t.2.2.symm
        · exact t.2.1.symm
        · exact t.1.symm
      · exact R0.ap i hi q hq
  refine wpAny_mono (H fcA h₁ tk L' o0 o1 o2 vb rfl rfl rfl e0 rb e1 e2 (hcf (L' + 1)) (fun i hi => by obtain ⟨o, _, hm⟩ := hlt hi; exact hnew _ hm) (fun q hq => hnew q (List.mem_append_right _ hq)) O' rA) (fun fl s' hb => ?_) (fun _ _ x => x.elim)
  obtain ⟨ρ', st', rest', mu', ⟨m1, os1, R1⟩, hm, hc, hR⟩ := hb
  show LeaveK _ _ _ _ _ (flVal fl) _
  refine leaveK_ R1.F R1.N fun F2 N2 => hR ⟨m, os1, F2, N2, (fun x a hx => ?_), R1.len, R1.os, R1.out, R1.inj, R1.ap, (fun x l hx => ?_), R1.lo, R1.im⟩
  · obtain ⟨b, hb, hr⟩ := hm x a hx
    obtain ⟨u, hu, ru⟩ := R0.mu x b hb
    exact ⟨u, hu, hr u ru⟩
  · obtain ⟨c1, c2⟩ := hc x l hx
    refine ⟨c1, ?_⟩
    rw [c2]; exact (R0.cl x l hx).2
end
end Mine
namespace Mine
open PySem PySem.W PyProof.Rows PySem.Calls PySem.Spec
/-! a frame of its own: all but one list of texts goes to the rest, and comes back as it was -/
noncomputable def oneSt (mu : List (Nm × AV)) (ts : List Nm) : St := { mu := mu, sg := Tr.ofL 0 .nil [.list none (ts.map .str)], n := 1, or := [], ov := [] }
theorem strs_any {P : Params} {ρ ρ' : Nat → Addr} {n n' : Nat} {ts : List Nm} {o : Obj} (h : RepO P ρ n (.list none (ts.map .str)) o) : RepO P ρ' n' (.list none (ts.map .str)) o := by
  obtain ⟨vs, k, e, h⟩ := h
  refine ⟨vs, k, e, h.mono fun a ha v r => ?_⟩
  obtain ⟨t, _, rfl⟩ := List.mem_map.mp ha
  exact r
section
variable {P : Params} {fi : FI} {fc : FC} {ρ : Nat → Addr} {st : St} {h : Heap}
theorem one_get {mu : List (Nm × AV)} {ts : List Nm} (i : Nat) : (oneSt mu ts).sg.get i = if i = 0 then .list none (ts.map .str) else .dead := by
  show (Tr.ofL 0 .nil [AO.list none (ts.map .str)]).get i = _
  rw [Tr.get_ofL, if_neg (Nat.not_lt_zero _)]
  cases i with
  | zero => rfl
  | succ i => rfl
theorem Rel.park (r : Rel P fi fc ρ st h) {l : Nat} {ts : List Nm} (hl : st.sg.get l = .list none (ts.map .str)) : ∃ (led : List (Addr × Obj)) (o : Obj),
    (∀ y ∈ led ++ fc.rest, y.1 ≠ ρ l) ∧ (∀ y ∈ led, ∃ i, st.sg.get i ≠ .dead ∧ y.1 = ρ i) ∧
    (∀ (fi' : FI) (mu : List (Nm × AV)), fi'.cl = [] → (∀ x a, look x mu = some a → ∃ b, look x st.mu = some b ∧ ∀ u, RepV ρ st.n b u → RepV (fun _ => ρ l) 1 a u) → Rel P fi' { fc with rest := led ++ fc.rest } (fun _ => ρ l) (oneSt mu ts) h) ∧
    (∀ (fi2 fi3 : FI) (ρ2 : Nat → Addr) (st2 : St) (rest2 restU : List (Addr × Obj)) (h2 : Heap) (o' : Obj), fi3.cl = [] → Rel P fi2 { fc with rest := rest2 } ρ2 st2 h2 → (∀ y ∈ led, y ∈ rest2) → (∀ y ∈ restU, y ∈ rest2 ∧ y ∈ fc.rest) →
      (ρ l, o') ∈ rest2 → RepEO P (.mu (.list none (ts.map .str))) o' → Rel P fi3 { fc with rest := restU } ρ { st with mu := [], imm := fun _ _ => False } h2) := by
  obtain ⟨m, os, R⟩ := r
  have hlive : st.sg.get l ≠ .dead := by rw [hl]; intro q; cases q
  have hmut : (st.sg.get l).mut = true := by rw [hl]; rfl
  obtain ⟨ol, hol, hro, hmem, hget⟩ := R.get hl (by intro q; cases q)
  have hled : ∀ y, y ∈ ledF (st.sg.set l .dead) ρ 0 os ↔ ∃ i o, os[i]? = some o ∧ i ≠ l ∧ st.sg.get i ≠ .dead ∧ y = (ρ i, o) := fun y => by
    rw [mem_ledF]
    constructor
    · rintro ⟨i, o, h1, h2, h3⟩
      rw [Nat.zero_add] at h2 h3
      rw [Tr.get_set] at h2
      by_cases q : i = l
      · rw [if_pos q] at h2; exact absurd rfl h2
      · rw [if_neg q] at h2; exact ⟨i, o, h1, q, h2, h3⟩
    · rintro ⟨i, o, h1, h2, h3, h4⟩
      refine ⟨i, o, h1, ?_, by rw [Nat.zero_add]; exact h4⟩
      rw [Nat.zero_add, Tr.get_set, if_neg h2]; exact h3
  have hne : ∀ y ∈ ledF (st.sg.set l .dead) ρ 0 os ++ fc.rest, y.1 ≠ ρ l := fun y hy => by
    rcases List.mem_append.mp hy with hy | hy
    · obtain ⟨i, o, h1, h2, h3, rfl⟩ := (hled y).mp hy
      intro q
      exact h2 (R.inj l i hmut h3 (by exact q.symm)).symm
    · exact R.ap l hmut y hy
  refine ⟨ledF (st.sg.set l .dead) ρ 0 os, ol, hne, (fun y hy => by obtain ⟨i, o, _, _, h3, rfl⟩ := (hled y).mp hy; exact ⟨i, h3, rfl⟩), fun fi' mu hcl hmu => ?_, fun fi2 fi3 ρ2 st2 rest2 restU h2 o' hcl hr2 hs hu ho' hro' => ?_⟩
  · have g0 : ∀ i, (oneSt mu ts).sg.get i ≠ .dead → i = 0 := fun i hi => by
      rw [one_get] at hi
      by_cases q : i = 0
      · exact q
      · rw [if_neg q] at hi; exact absurd rfl hi
    refine ⟨m, [ol], R.F, fun y hy => ?_, fun x a hx => ?_, rfl, fun i o ho => ?_, fun i hi => ?_, fun i j hi hj _ => ?_, fun i hi y hy => hne y hy, (fun x l hx => by rw [hcl] at hx; cases hx), fun i es q => ?_, fun _ _ q => q.elim⟩
    · rcases List.mem_append.mp hy with hy | hy
      · obtain ⟨i, o, h1, h2, rfl⟩ := mem_ledF.mp hy
        cases i with
        | zero => cases h1; exact R.N _ hmem
        | succ i => cases h1
      · rcases List.mem_append.mp hy with hy | hy
        · obtain ⟨i, o, h1, h2, h3, rfl⟩ := (hled y).mp hy
          exact R.N _ (List.mem_append_left _ (mem_ledF.mpr ⟨i, o, h1, by rw [Nat.zero_add]; exact h3, by rw [Nat.zero_add]⟩))
        · exact R.N _ (List.mem_append_right _ hy)
    · obtain ⟨b, hb, k⟩ := hmu x a hx
      obtain ⟨u, hu, ru⟩ := R.mu x b hb
      exact ⟨u, hu, k u ru⟩
    · cases i with
      | zero => cases ho; rw [one_get, if_pos rfl]; exact strs_any hro
      | succ i => cases ho
    · have hi : 1 ≤ i := hi
      rw [one_get, if_neg (by omega)]
    · rw [g0 i (AO.mut_live hi), g0 j hj]
    · rw [one_get] at q
      by_cases z : i = 0
      · rw [if_pos z] at q; cases q
      · rw [if_neg z] at q; cases q
  · obtain ⟨m2, os2, R2⟩ := hr2
    have hlt : l < os.length := (List.getElem?_eq_some_iff.mp hol).1
    refine ⟨m2, os.set l o', R2.F, fun y hy => ?_, (fun x a hx => by cases hx), by simp [R.len], fun i o ho => ?_, R.out, R.inj, fun i hi y hy => R.ap i hi y (hu y hy).2, (fun x l hx => by rw [hcl] at hx; cases hx), R.lo, fun _ _ q => q.elim⟩
    · rcases List.mem_append.mp hy with hy | hy
      · obtain ⟨i, o, h1, h2, rfl⟩ := mem_ledF.mp hy
        rw [Nat.zero_add] at h2 ⊢
        refine R2.N _ (List.mem_append_right _ ?_)
        rw [List.getElem?_set] at h1
        by_cases q : l = i
        · rw [if_pos q, if_pos hlt] at h1
          cases h1
          rw [← q]; exact ho'
        · rw [if_neg q] at h1
          exact hs _ ((hled _).mpr ⟨i, o, h1, fun e => q e.symm, h2, rfl⟩)
      · exact R2.N _ (List.mem_append_right _ (hu y hy).1)
    · rw [List.getElem?_set] at ho
      by_cases q : l = i
      · rw [if_pos q, if_pos hlt] at ho
        cases ho
        show RepO P ρ st.n (st.sg.get i) o'
        rw [← q, hl]
        exact strs_any hro'
      · rw [if_neg q] at ho
        exact R.os i o ho
end
end Mine
namespace Mine
open PySem PySem.W PyProof.Rows PySem.Calls PySem.Spec
theorem Room2.dn {D n m : Nat} {A : Around} (h : Room2 D n A) (hm : m ≤ n) : Room2 D m A := ⟨by have := h.1; lia, by have := h.2; lia⟩
theorem Room2.call {D n : Nat} {A A' : Around} (h : Room2 D (n + 1) A) (d1 : A'.depth = A.depth + 1) (d2 : A'.units = A.units + 3) : Room2 D n A' := ⟨by rw [d1]; have := h.1; lia, by rw [d2]; have := h.2; lia⟩
theorem Room2.lt {n : Nat} {A : Around} (h : Room2 900 n A) : A.depth < 1000 := by have := h.1; lia
noncomputable def globT : List (Nm × GV) := [
  ([79, 78, 69], .av (.txt [111, 110, 101])),
  ([87, 65, 89, 83], .av (.txt [119, 97, 121, 115])),
  ([83, 80, 76, 73, 84], .av (.txt [115, 112, 108, 105, 116])),
  ([74, 85, 77, 80], .av (.txt [106, 117, 109, 112])),
  ([77, 65, 82, 75], .av (.txt [109, 97, 114, 107])),
  ([78, 65, 77, 69], .av (.txt [110, 97, 109, 101])),
  ([83, 69, 84], .av (.txt [115, 101, 116])),
  ([71, 65, 73, 78], .av (.txt [103, 97, 105, 110])),
  ([80, 76, 65, 67, 69], .av (.txt [112, 108, 97, 99, 101])),
  ([65, 83, 75], .av (.txt [97, 115, 107])),
  ([70, 69, 78, 67, 69], .av (.txt [102, 101, 110, 99, 101])),
  ([70, 65, 73, 76], .av (.txt [102, 97, 105, 108])),
  ([65, 66, 79, 82, 84], .av (.txt [97, 98, 111, 114, 116])),
  ([83, 85, 67, 67, 69, 69, 68], .av (.txt [115, 117, 99, 99, 101, 101, 100])),
  ([68, 79, 78, 69], .av (.txt [100, 111, 110, 101])),
  ([80, 85, 84], .av (.txt [112, 117, 116])),
  ([69, 77, 73, 84], .av (.txt [101, 109, 105, 116])),
  ([79, 80, 69, 78], .av (.txt [111, 112, 101, 110])),
  ([83, 72, 85, 84], .av (.txt [115, 104, 117, 116])),
  ([77, 69, 69, 84], .av (.txt [109, 101, 101, 116])),
  ([77, 69, 84], .av (.num 0)),
  ([70, 65, 73, 76, 69, 68], .av (.num 1)),
  ([79, 86, 69, 82], .av (.num 2)),
  ([83, 73, 78, 71, 76, 69], .av (.con (.ref 15))),
  ([65, 76, 79, 78, 69], .av (.con (.ref 16))),
  ([108, 101, 110], .fn (.bi .len)),
  ([105, 115, 105, 110, 115, 116, 97, 110, 99, 101], .fn (.bi .isin)),
  ([115, 117, 109], .fn (.bi .sum)),
  ([97, 98, 115], .fn (.bi .abs)),
  ([114, 97, 110, 103, 101], .fn (.bi .range)),
  ([108, 105, 115, 116], .fn (.bi .list)),
  ([105, 110, 116], .fn (.bi .int)),
  ([115, 116, 114], .fn (.bi .tstr)),
  ([116, 117, 112, 108, 101], .fn (.bi .ttup)),
  ([114, 111, 119, 95, 111, 102], .fn (.fn 23)),
  ([105, 115, 95, 112, 108, 97, 105, 110, 95, 116, 101, 120, 116], .fn (.fn 30)),
  ([119, 105, 116, 104, 95, 116, 101, 120, 116, 115, 95, 106, 111, 105, 110, 101, 100], .fn (.fn 37)),
  ([115, 116, 114, 97, 105, 103, 104, 116, 101, 110, 101, 100], .fn (.fn 105)),
  ([99, 111, 109, 112, 105, 108, 101, 95, 112, 97, 116, 116, 101, 114, 110], .fn (.fn 112)),
  ([105, 115, 95, 102, 97, 105, 108], .fn (.fn 219)),
  ([116, 111, 95, 116, 101, 120, 116], .fn (.fn 254)),
  ([112, 97, 116, 116, 101, 114, 110, 95, 111, 102], .fn (.fn 285)),
  ([99, 104, 97, 114, 115, 95, 101, 110, 100], .fn (.fn 306)),
  ([108, 101, 110, 95, 101, 110, 100], .fn (.fn 313)),
  ([114, 112, 111, 115, 95, 101, 110, 100], .fn (.fn 327)),
  ([114, 101, 109, 95, 101, 110, 100], .fn (.fn 348)),
  ([97, 114, 98, 95, 101, 110, 100, 115], .fn (.fn 390)),
  ([111, 110, 101, 95, 101, 110, 100], .fn (.fn 411)),
  ([112, 108, 97, 105, 110, 95, 101, 110, 100], .fn (.fn 418)),
  ([101, 110, 100, 115, 95, 111, 102], .fn (.fn 425)),
  ([110, 97, 109, 101, 100, 95, 114, 111, 119, 115], .fn (.fn 537)),
  ([109, 97, 116, 99, 104, 95, 111, 114, 100, 101, 114, 115], .fn (.fn 544)),
  ([109, 97, 116, 99, 104, 95, 99, 111, 109, 112, 105, 108, 101, 100], .fn (.fn 551)),
  ([95, 108, 97, 119, 95, 116, 119, 111, 102, 111, 108, 100], .fn (.fn 600)),
  ([95, 108, 97, 119, 95, 112, 97, 114, 116, 101, 100], .fn (.fn 605)),
  ([95, 108, 97, 119, 95, 109, 101, 116], .fn (.fn 612)),
  ([95, 108, 97, 119, 95, 119, 97, 121, 115], .fn (.fn 619)),
  ([80, 97, 116, 116, 101, 114, 110, 67, 111, 100, 101], .fn (.fn 94)),
  ([70, 97, 105, 108, 117, 114, 101], .fn (.fn 145)),
  ([80, 97, 116, 116, 101, 114, 110], .fn (.fn 166)),
  ([68, 101, 108, 97, 121, 101, 100], .fn (.fn 187)),
  ([78, 97, 109, 101, 82, 101, 102], .fn (.fn 208)),
  ([87, 97, 121], .fn (.fn 449)),
  ([77, 97, 116, 99, 104], .fn (.fn 526)),
  ([80, 108, 97, 105, 110, 72, 111, 115, 116], .fn (.fn 589))]
noncomputable def fnL : List Nat := [23, 30, 37, 51, 58, 65, 70, 77, 84, 91, 105, 112, 163, 184, 205, 219, 254, 285, 306, 313, 327, 348, 390, 411, 418, 425, 439, 446, 467, 474, 481, 488, 495, 502, 509, 516, 523, 537, 544, 551, 565, 572, 579, 586, 600, 612, 619]
/-- the program's own text -/
noncomputable abbrev pw : Program := PySem.Challenge.pw_xm0941_02
noncomputable def nthS : List Stmt → Nat → Stmt
  | [], _ => default
  | s :: _, 0 => s
  | _ :: r, n + 1 => nthS r n
noncomputable def bS : Stmt → List (List Stmt)
  | .ClassDef _ _ _ b _ _ _ _ _ _ _ => [b]
  | .While _ b _ _ => [b]
  | .For _ _ b _ _ => [b]
  | .If _ b o _ => [b, o]
  | _ => []
noncomputable def nthB : Nat → List (List Stmt) → List Stmt
  | 0, b :: _ => b
  | n + 1, _ :: r => nthB n r
  | _, [] => []
noncomputable def clsS (s : Stmt) : List Stmt := nthB 0 (bS s)
noncomputable def fnS : Stmt → FnI
  | .FunctionDef _ a b _ _ _ sc _ _ _ => ⟨a.args.map fun x => nm x.arg, b, sc⟩
  | _ => ⟨[], [], default⟩
/-- where a def stands: the top's statement, and in a class the place behind 1 -/
noncomputable def fnIx : List (Nat × (Nat × Nat)) := [(23, (23, 0)), (30, (24, 0)), (37, (25, 0)), (51, (26, 1)), (58, (26, 2)), (65, (26, 3)), (70, (26, 4)), (77, (26, 5)), (84, (26, 6)), (91, (26, 7)), (105, (27, 0)), (112, (28, 0)), (163, (32, 1)), (184, (33, 1)), (205, (34, 1)),
  (219, (35, 0)), (254, (40, 0)), (285, (48, 0)), (306, (54, 0)), (313, (55, 0)), (327, (57, 0)), (348, (60, 0)), (390, (66, 0)), (411, (69, 0)), (418, (70, 0)), (425, (71, 0)), (439, (76, 1)), (446, (76, 2)), (467, (77, 1)), (474, (77, 2)), (481, (77, 3)), (488, (77, 4)),
  (495, (77, 5)), (502, (77, 6)), (509, (77, 7)), (516, (77, 8)), (523, (77, 9)), (537, (78, 0)), (544, (79, 0)), (551, (80, 0)), (565, (82, 1)), (572, (82, 2)), (579, (82, 3)), (586, (82, 4)), (600, (84, 0)), (605, (85, 0)), (612, (86, 0)), (619, (87, 0)), (626, (88, 0))]
noncomputable def fnx (f : Nat) : FnI := match lookN f fnIx with
  | some (i, 0) => fnS (nthS pw.main.body i)
  | some (i, j + 1) => fnS (nthS (clsS (nthS pw.main.body i)) j)
  | none => ⟨[], [], default⟩
noncomputable def fnsT (_ : Params) : List (Nat × FnI) := fnL.map fun a => (a, fnx a)
noncomputable def clsT : List (Nat × ClI) := [
  (94, ⟨[[111, 114, 100, 101, 114, 115]], [([101, 109, 105, 116], 58), ([112, 117, 116], 65), ([98, 101, 103, 117, 110], 70), ([99, 104, 111, 105, 99, 101], 77), ([114, 101, 112, 101, 97, 116], 84), ([98, 111, 117, 110, 100], 91)], 51⟩),
  (166, ⟨[[110, 111, 100, 101]], [], 163⟩),
  (187, ⟨[[116, 114, 101, 101]], [], 184⟩),
  (208, ⟨[[107, 105, 110, 100], [111, 119, 110, 101, 114], [107, 101, 121]], [], 205⟩),
  (449, ⟨[[111, 114, 100, 101, 114, 115], [112, 99], [97, 116], [110, 97, 109, 101, 100], [109, 97, 114, 107, 115], [99, 97, 108, 108, 115]], [([99, 111, 112, 105, 101, 100], 446)], 439⟩),
  (526, ⟨[[115, 117, 98, 106, 101, 99, 116], [104, 111, 115, 116], [104, 105, 115, 116, 111, 114, 121]], [([114, 117, 110], 474), ([119, 97, 121, 95, 98, 97, 99, 107], 481), ([100, 111, 110, 101], 488), ([109, 101, 116, 95, 111, 110, 99, 101], 495), ([101, 110, 100, 101, 100], 502), ([111, 116, 104, 101, 114], 509), ([109, 101, 116, 95, 111, 102, 116, 101, 110], 516), ([97, 115, 107, 101, 100], 523)], 467⟩),
  (589, ⟨[[118, 97, 108, 117, 101, 115], [108, 105, 109, 105, 116], [114, 101, 102, 117, 115, 101, 100], [119, 105, 100, 116, 104], [115, 116, 101, 112, 115], [108, 111, 103]], [([118, 97, 108, 117, 101, 95, 111, 102], 572), ([97, 115, 115, 105, 103, 110], 579), ([115, 116, 101, 112], 586)], 565⟩)]
noncomputable def tupsT : List (Nat × List Nm) := [(15, [[99, 104, 97, 114, 115], [108, 101, 110], [112, 111, 115], [114, 112, 111, 115], [116, 97, 98], [114, 116, 97, 98], [97, 110, 121], [110, 111, 116, 97, 110, 121], [115, 112, 97, 110], [98, 114, 101, 97, 107], [114, 101, 109]]), (16, [[102, 101, 110, 99, 101], [102, 97, 105, 108], [97, 98, 111, 114, 116], [115, 117, 99, 99, 101, 101, 100]])]
noncomputable def ptT (P : Params) (ext : Nat → Option (List AV → St → Rr AV)) : PT := ⟨globT, fnsT P, clsT, tupsT, ext⟩
/-- what is asked of the heap behind the top -/
noncomputable def chkK (K : Frag) : Bool := globT.all (glChk K) && clsT.all (clChk K) && tupsT.all (tupChk K) && fnL.all (fnChk K)
noncomputable def Sound2 (K : Frag) : Prop := chkK K = true ∧ fnL.map (fnK K) = fnL.map fnx ∧ fnChkC K 605 = true ∧ fnK K 605 = fnx 605
theorem ptT_ok {K : Frag} (P : Params) (ext : Nat → Option (List AV → St → Rr AV)) (h : Sound2 K) : PTOk2 K (ptT P ext) := by
  have h1 := h.1
  unfold chkK at h1
  simp only [Bool.and_eq_true] at h1
  exact ptOk_of (T := ptT P ext) h1.1.1.1 h1.1.1.2 h1.1.2
theorem map_at {α β : Type} {f g : α → β} : ∀ {l : List α}, l.map f = l.map g → ∀ a ∈ l, f a = g a
  | [], _, _, h => nomatch h
  | x :: r, e, a, h => by
    simp only [List.map_cons, List.cons.injEq] at e
    rcases List.mem_cons.mp h with rfl | h
    · exact e.1
    · exact map_at e.2 a h
theorem fnC_ok {K : Frag} (h : Sound2 K) : FnRecC K 605 (fnx 605) := h.2.2.2 ▸ fnRecC_of h.2.2.1
theorem fnsT_ok {K : Frag} (P : Params) (h : Sound2 K) : ∀ f g, lookN f (fnsT P) = some g → FnRec K f g := fun f g e => by
  have h1 := h.1
  unfold chkK at h1
  simp only [Bool.and_eq_true] at h1
  obtain ⟨a, ha, q⟩ := List.mem_map.mp (lookN_mem e)
  cases q
  rw [← map_at h.2.1 _ ha]
  exact fnRec_of (List.all_eq_true.mp h1.2 _ ha)
end Mine
namespace Mine
open PySem PySem.W PyProof.Rows PySem.Calls PySem.Spec
noncomputable def cSelf : Nm := [115, 101, 108, 102]
noncomputable def cWay : Nm := [119, 97, 121]
noncomputable def cSubject : Nm := [115, 117, 98, 106, 101, 99, 116]
noncomputable def cHost : Nm := [104, 111, 115, 116]
noncomputable def cHistory : Nm := [104, 105, 115, 116, 111, 114, 121]
noncomputable def cOrders : Nm := [111, 114, 100, 101, 114, 115]
noncomputable def cPc : Nm := [112, 99]
noncomputable def cAt : Nm := [97, 116]
noncomputable def cNamed : Nm := [110, 97, 109, 101, 100]
noncomputable def cMarks : Nm := [109, 97, 114, 107, 115]
noncomputable def cCalls : Nm := [99, 97, 108, 108, 115]
noncomputable def cValues : Nm := [118, 97, 108, 117, 101, 115]
noncomputable def cLimit : Nm := [108, 105, 109, 105, 116]
noncomputable def cRefused : Nm := [114, 101, 102, 117, 115, 101, 100]
noncomputable def cWidth : Nm := [119, 105, 100, 116, 104]
noncomputable def cSteps : Nm := [115, 116, 101, 112, 115]
noncomputable def cLog : Nm := [108, 111, 103]
noncomputable def cKind : Nm := [107, 105, 110, 100]
noncomputable def cOwner : Nm := [111, 119, 110, 101, 114]
noncomputable def cKey : Nm := [107, 101, 121]
noncomputable def cVar : Nm := [118, 97, 114]

noncomputable def tSplit : Nm := [115, 112, 108, 105, 116]
noncomputable def tJump : Nm := [106, 117, 109, 112]
noncomputable def tMark : Nm := [109, 97, 114, 107]
noncomputable def tOne : Nm := [111, 110, 101]
noncomputable def tChars : Nm := [99, 104, 97, 114, 115]
noncomputable def tName : Nm := [110, 97, 109, 101]
noncomputable def tGain : Nm := [103, 97, 105, 110]
noncomputable def tRpos : Nm := [114, 112, 111, 115]
noncomputable def tPlace : Nm := [112, 108, 97, 99, 101]
noncomputable def tFail : Nm := [102, 97, 105, 108]
noncomputable def tDone : Nm := [100, 111, 110, 101]
noncomputable def kX : Nm := [88]
noncomputable def kE : Nm := [69]
noncomputable def tCat : Nm := [99, 97, 116]
noncomputable def tAlt : Nm := [97, 108, 116]
noncomputable def tArbno : Nm := [97, 114, 98, 110, 111]
noncomputable def tLater : Nm := [108, 97, 116, 101, 114]
noncomputable def tCursor : Nm := [99, 117, 114, 115, 111, 114]
noncomputable def CW : Nat := 449
noncomputable def CM : Nat := 526
noncomputable def CH : Nat := 589
noncomputable def CN : Nat := 208
noncomputable def wayD (ords pc at_ N M calls : AV) : List (Nm × AV) := [(cOrders, ords), (cPc, pc), (cAt, at_), (cNamed, N), (cMarks, M), (cCalls, calls)]
noncomputable def refAO (l : Nat) (k : Nm) : List AO := [.inst CN (l + 1), .dict [(cKind, .txt cVar), (cOwner, .none), (cKey, .txt k)]]
noncomputable def mkS0 (mu : List (Nm × AV)) (l : List AO) (or : List Nat) (ov : List AV) : St := { mu := mu, sg := Tr.ofL 0 .nil l, n := l.length, or := or, ov := ov }
noncomputable def upN : Nat → Nat → List Nat
  | _, 0 => []
  | a, c + 1 => a :: upN (a + 1) c
noncomputable def refL : Nat → Nat → List AV
  | _, 0 => []
  | a, c + 1 => .ref a :: refL (a + 1) c
/-- the expressions of a statement, the pieces of an expression -/
noncomputable def kS : Stmt → List Expr
  | .While t _ _ _ => [t]
  | .For t i _ _ _ => [t, i]
  | .If t _ _ _ => [t]
  | .Assign ts v _ => v :: ts
  | .Return v _ => v.toList
  | _ => []
noncomputable def kEs : Expr → List Expr
  | .Call f a _ _ => f :: a
  | .Compare l _ rs _ => l :: rs
  | .BinOp l _ r _ => [l, r]
  | .Tuple es _ _ => es
  | .Attribute o _ _ => [o]
  | _ => []
noncomputable def nthE : Nat → List Expr → Expr
  | _, [] => .Name ⟨#[]⟩ default
  | 0, e :: _ => e
  | n + 1, _ :: r => nthE n r
noncomputable def whileT (s : Stmt) : Expr := nthE 0 (kS s)
noncomputable def whileB (s : Stmt) : List Stmt := nthB 0 (bS s)
noncomputable def runW : Stmt := match (fnx 474).body with
  | _ :: w :: _ => w
  | _ => default
noncomputable def runRest : List Stmt := match (fnx 474).body with
  | _ :: _ :: r => r
  | _ => []
noncomputable def fiRun : FI := ⟨(fnx 474).sc, [], true, none⟩
noncomputable def T2 (P : Params) : PT := ptT P fun _ => none
noncomputable def turn (P : Params) (j : Nat) (st : St) : Rr Unit := itWh (evs (T2 P) 200) fiRun (whileT runW) (whileB runW) j st
noncomputable def lastW (P : Params) (st : St) : Rr AFl := whEnd (evs (T2 P) 200) fiRun (whileT runW) (whileB runW) runRest st
/-- the words: one, two or three -/
inductive Ws where
  | w1 (a : Nm)
  | w2 (a b : Nm)
  | w3 (a b c : Nm)
noncomputable def Ws.l : Ws → List Nm
  | .w1 a => [a]
  | .w2 a b => [a, b]
  | .w3 a b c => [a, b, c]
noncomputable def oneT (w : Nm) : AO := .tup [.txt tOne, .txt tChars, .str w]
/-- the orders, the first at 13 -/
noncomputable def Ws.ords : Ws → List AO
  | .w1 a => [.tup [.txt tSplit, .num 2], .tup [.txt tJump, .num 8], .tup [.txt tMark], .tup [.txt tMark], oneT a, .tup [.txt tName, .ref 11], .tup [.txt tGain], .tup [.txt tJump, .num 0], .tup [.txt tOne, .txt tRpos, .num 0]]
  | .w2 a b => [.tup [.txt tSplit, .num 2], .tup [.txt tJump, .num 11], .tup [.txt tMark], .tup [.txt tMark], .tup [.txt tSplit, .num 7], oneT a, .tup [.txt tJump, .num 8], oneT b, .tup [.txt tName, .ref 11], .tup [.txt tGain], .tup [.txt tJump, .num 0],
      .tup [.txt tOne, .txt tRpos, .num 0]]
  | .w3 a b c => [.tup [.txt tSplit, .num 2], .tup [.txt tJump, .num 14], .tup [.txt tMark], .tup [.txt tMark], .tup [.txt tSplit, .num 7], oneT a, .tup [.txt tJump, .num 11], .tup [.txt tSplit, .num 10], oneT b, .tup [.txt tJump, .num 11], oneT c,
      .tup [.txt tName, .ref 11], .tup [.txt tGain], .tup [.txt tJump, .num 0], .tup [.txt tOne, .txt tRpos, .num 0]]
/-- how many orders, without the last ones -/
noncomputable def Ws.m : Ws → Nat
  | .w1 _ => 9
  | .w2 _ _ => 12
  | .w3 _ _ _ => 15
/-- the last orders; with the place told they are three, and the name's two -/
noncomputable def tailAO (v : Bool) (l : Nat) : List AO := match v with
  | false => [.tup [.txt tDone]]
  | true => [.tup [.txt tPlace, .ref (l + 3)], .tup [.txt tFail], .tup [.txt tDone]] ++ refAO (l + 3) kE
noncomputable def tailN (v : Bool) : Nat := match v with
  | false => 1
  | true => 3
noncomputable def tailC (v : Bool) : Nat := match v with
  | false => 1
  | true => 5
/-- the host's values -/
noncomputable def veD : Option Int → List (Nm × AV)
  | none => []
  | some i => [(kE, .int i)]
noncomputable def mAO (v : Bool) (ws : Ws) (msg : Nm) (p hx : List AV) (pc at_ N M : AV) (ve : Option Int) (steps : Int) (lg : List AV) (more : List AO) : List AO :=
  [.inst CM 1, .dict [(cSubject, .str msg), (cHost, .ref 5), (cHistory, .ref 2)], .list (some p) hx, .inst CW 4, .dict (wayD (.ref 8) pc at_ N M .none), .inst CH 6,
   .dict [(cValues, .ref 7), (cLimit, .num 9999), (cRefused, .ref 10), (cWidth, .num 64), (cSteps, .int steps), (cLog, .ref 9)], .tab (veD ve), .list none (refL 13 (ws.m + tailN v)), .list (some lg) [], .list none []] ++ refAO 11 kX ++ ws.ords ++ tailAO v (13 + ws.m) ++ more
noncomputable def mSt (v : Bool) (ws : Ws) (msg : Nm) (p hx : List AV) (pc at_ N M : AV) (ve : Option Int) (steps : Int) (lg : List AV) (more : List AO) (or : List Nat) (ov : List AV) : St :=
  mkS0 [(cSelf, .ref 0), (cWay, .ref 3)] (mAO v ws msg p hx pc at_ N M ve steps lg more) or ov
noncomputable def Ws.n (v : Bool) (ws : Ws) : Nat := 13 + ws.m + tailC v
end Mine
namespace Mine
open PySem PySem.W PyProof.Rows PySem.Calls PySem.Spec
/-- where the tries stand -/
noncomputable def Ws.pc : Nat → Int
  | 0 => 4
  | 1 => 7
  | _ => 10
noncomputable def Ws.k : Ws → Nat
  | .w1 _ => 1
  | .w2 _ _ => 2
  | .w3 _ _ _ => 3
noncomputable def ksN (v : Bool) (ws : Ws) : List Nat := [0, 1, 2, ws.n v + 1, ws.n v] ++ upN 5 (ws.n v - 5)
noncomputable def ksI (v : Bool) (ws : Ws) : List Nat := upN 0 (ws.n v)
noncomputable def nsW : List Nm := [cSelf, cWay]
noncomputable def seg (sub : Nm) (b e : Int) : Nm := (sub.take e.toNat).drop b.toNat
noncomputable def stepP (steps : Int) : Prop := ¬ (9999 : Int) < steps
noncomputable def popP (p : List AV) (x : AV) : List Prop := [(itm (some p) [x]).length < 2 ^ 62, (0 : Int) < ((List.length p + List.length [x] : Nat) : Int), (itm (some p) [x]).length ≤ sizeLine]
noncomputable def pushP (p : List AV) : Prop := (itm (some p) []).length ≤ sizeLine
noncomputable def lgP (lg : List AV) : Prop := (itm (some lg) []).length ≤ sizeLine
/-! equations over all words, all at once -/
noncomputable def allC (a b c : Nm) (y : Int) : List (Ws × Bool × Option Int) := [(.w1 a, true, none), (.w1 a, true, some y), (.w1 a, false, none), (.w1 a, false, some y), (.w2 a b, true, none), (.w2 a b, true, some y), (.w2 a b, false, none), (.w2 a b, false, some y), (.w3 a b c, true, none), (.w3 a b c, true, some y), (.w3 a b c, false, none), (.w3 a b c, false, some y)]
noncomputable def allD (a b c : Nm) (y : Int) : List ((Ws × Nat) × Bool × Option Int) := [((.w2 a b, 0), true, none), ((.w2 a b, 0), true, some y), ((.w2 a b, 0), false, none), ((.w2 a b, 0), false, some y), ((.w3 a b c, 0), true, none), ((.w3 a b c, 0), true, some y), ((.w3 a b c, 0), false, none), ((.w3 a b c, 0), false, some y), ((.w3 a b c, 1), true, none), ((.w3 a b c, 1), true, some y), ((.w3 a b c, 1), false, none), ((.w3 a b c, 1), false, some y)]
theorem at_of {α : Type} {l m : List α} (k : Nat) {x y : α} (h : l = m) (hx : l[k]? = some x) (hy : m[k]? = some y) : x = y := Option.some.inj (hx.symm.trans ((congrArg (fun l => l[k]?) h).trans hy))
theorem four {α β : Type} {F G : β → Bool → Option Int → α} {x : β} {k : Nat} {l m : Int → List α} (h : ∀ y, l y = m y) (e1 : ∀ y, (l y).drop k = [F x true none, F x true (some y), F x false none, F x false (some y)] ++ (l y).drop (k + 4)) (e2 : ∀ y, (m y).drop k = [G x true none, G x true (some y), G x false none, G x false (some y)] ++ (m y).drop (k + 4)) : ∀ v ve, F x v ve = G x v ve := by
  have e : ∀ y, [F x true none, F x true (some y), F x false none, F x false (some y)] ++ (l y).drop (k + 4) = [G x true none, G x true (some y), G x false none, G x false (some y)] ++ (l y).drop (k + 4) := fun y => by
    rw [← e1 y, h y, e2 y]
  intro v ve
  cases v with
  | true => cases ve with
    | none => exact at_of 0 (e 0) rfl rfl
    | some y => exact at_of 1 (e y) rfl rfl
  | false => cases ve with
    | none => exact at_of 2 (e 0) rfl rfl
    | some y => exact at_of 3 (e y) rfl rfl
theorem all3 {α : Type} (F G : Ws → Bool → Option Int → α) (h : ∀ a b c y, (allC a b c y).map (fun q => F q.1 q.2.1 q.2.2) = (allC a b c y).map (fun q => G q.1 q.2.1 q.2.2)) (ws : Ws) (v : Bool) (ve : Option Int) : F ws v ve = G ws v ve := by
  cases ws with
  | w1 a => exact four (k := 0) (h a a a) (fun _ => rfl) (fun _ => rfl) v ve
  | w2 a b => exact four (k := 4) (h a b a) (fun _ => rfl) (fun _ => rfl) v ve
  | w3 a b c => exact four (k := 8) (h a b c) (fun _ => rfl) (fun _ => rfl) v ve
theorem all4 {α : Type} (F G : Ws × Nat → Bool → Option Int → α) (h : ∀ a b c y, (allD a b c y).map (fun q => F q.1 q.2.1 q.2.2) = (allD a b c y).map (fun q => G q.1 q.2.1 q.2.2)) (ws : Ws) (i : Nat) (hi : i + 1 < ws.k) (v : Bool) (ve : Option Int) : F (ws, i) v ve = G (ws, i) v ve := by
  cases ws with
  | w1 => exact absurd hi (Nat.not_lt_of_le (Nat.le_add_left 1 i))
  | w2 a b => cases i with
    | zero => exact four (k := 0) (h a b a) (fun _ => rfl) (fun _ => rfl) v ve
    | succ i => exact absurd hi (Nat.not_lt_of_le (Nat.le_add_left 2 i))
  | w3 a b c => cases i with
    | zero => exact four (k := 4) (h a b c) (fun _ => rfl) (fun _ => rfl) v ve
    | succ i => cases i with
      | zero => exact four (k := 8) (h a b c) (fun _ => rfl) (fun _ => rfl) v ve
      | succ i => exact absurd hi (Nat.not_lt_of_le (Nat.le_add_left 3 i))
/-- the head, not at the end -/
noncomputable def tH1L (v : Bool) (ws : Ws) (P : Params) (ρ : Nat → Addr) (msg : Nm) (p : List AV) (x : Int) (V : Value) (ve : Option Int) (steps : Int) (lg : List AV) := outc ρ (ksN v ws) [ws.n v + 3, ws.n v + 4] nsW (turn P 5 (mSt v ws msg p [] (.num 0) (.int x) (.con V) .none ve steps lg [] [0, 0, 0, 0, 1, 0, 0] []))
noncomputable def tH1R (v : Bool) (ws : Ws) (ρ : Nat → Addr) (msg : Nm) (p : List AV) (x : Int) (V : Value) (ve : Option Int) (steps : Int) (lg : List AV) : Option (St × List EO × Unit × List Prop) := some (mSt v ws msg (renL ρ (ksN v ws) p) [] (.num 4) (.int x) (.con V) (.con (.ref (ρ (ws.n v + 4)))) ve (steps + 1 + 1 + 1 + 1 + 1) (renL ρ (ksN v ws) lg) [] [] [],
        [.tup [.none, .int x], .tup [.con (.ref (ρ (ws.n v + 3))), .int x]], (),
        [stepP (steps + 1), pushP p, stepP (steps + 1 + 1), stepP (steps + 1 + 1 + 1), msg.length < 2 ^ 62, ¬ (msg.length : Int) - x = 0] ++ popP p (.ref (ws.n v + 1)) ++ [stepP (steps + 1 + 1 + 1 + 1), stepP (steps + 1 + 1 + 1 + 1 + 1)])
theorem tH1 (v : Bool) (ws : Ws) (P : Params) (ρ : Nat → Addr) (msg : Nm) (p : List AV) (x : Int) (V : Value) (ve : Option Int) (steps : Int) (lg : List AV) : tH1L v ws P ρ msg p x V ve steps lg = tH1R v ws ρ msg p x V ve steps lg := all3 (fun ws v ve => tH1L v ws P ρ msg p x V ve steps lg) (fun ws v ve => tH1R v ws ρ msg p x V ve steps lg) (fun a b c y => by kernel_rfl) ws v ve
/-- the head at the end, the place told -/
noncomputable def tH2L (ws : Ws) (P : Params) (ρ : Nat → Addr) (msg : Nm) (p : List AV) (x : Int) (V : Value) (ve : Option Int) (steps : Int) (lg : List AV) := outc ρ (ksN true ws) [ws.n true + 4, ws.n true + 6, ws.n true + 7] nsW (turn P 7 (mSt true ws msg p [] (.num 0) (.int x) (.con V) .none ve steps lg [] [0, 0, 0, 1, 0, 0, 1, 0, 0] []))
noncomputable def tH2R (ws : Ws) (ρ : Nat → Addr) (msg : Nm) (p : List AV) (x : Int) (V : Value) (steps : Int) (lg : List AV) : Option (St × List EO × Unit × List Prop) := some (mSt true ws msg (renL ρ (ksN true ws) p) [] (.num 4) (.int x) (.con V) (.con (.ref (ρ (ws.n true + 7)))) (some x) (steps + 1 + 1 + 1 + 1 + 1 + 1 + 1) (renL ρ (ksN true ws) lg ++ [.con (.ref (ρ (ws.n true + 4)))]) [] [] [],
        [.tup [.txt kE, .int x], .tup [.none, .int x], .tup [.con (.ref (ρ (ws.n true + 6))), .int x]], (),
        [stepP (steps + 1), pushP p, stepP (steps + 1 + 1), stepP (steps + 1 + 1 + 1), msg.length < 2 ^ 62, (msg.length : Int) - x = 0, stepP (steps + 1 + 1 + 1 + 1), lgP lg, stepP (steps + 1 + 1 + 1 + 1 + 1)] ++ popP p (.ref (ws.n true + 1)) ++ [stepP (steps + 1 + 1 + 1 + 1 + 1 + 1), stepP (steps + 1 + 1 + 1 + 1 + 1 + 1 + 1)])
theorem tH2 (ws : Ws) (P : Params) (ρ : Nat → Addr) (msg : Nm) (p : List AV) (x : Int) (V : Value) (ve : Option Int) (steps : Int) (lg : List AV) : tH2L ws P ρ msg p x V ve steps lg = tH2R ws ρ msg p x V steps lg := all3 (fun ws v ve => tH2L ws P ρ msg p x V ve steps lg) (fun ws v ve => tH2R ws ρ msg p x V steps lg) (fun a b c y => by kernel_rfl) ws true ve
noncomputable def withImm (st : St) (imm : Nat → List AV → Prop) : St := { st with imm := imm }
noncomputable def endI (w : Nm) (x : Int) : Int := x + (w.length : Int)
/-- what the test of a word asks -/
noncomputable def onP (msg w : Nm) (x : Int) : List Prop := [w.length < 2 ^ 62, 0 ≤ x ∧ x < 2 ^ 62, 0 ≤ endI w x ∧ endI w x < 2 ^ 62, msg.length ≤ sizeLine]
/-- what the name and the gain ask -/
noncomputable def nmP (im : Nat → List AV → Prop) (msg w : Nm) (x : Int) (m m1 : Nat) (steps : Int) : List Prop :=
  [stepP steps, im m [.con (.ref m1), .int x], 0 ≤ x ∧ x < 2 ^ 62, 0 ≤ endI w x ∧ endI w x < 2 ^ 62, msg.length ≤ sizeLine, stepP (steps + 1), im m1 [.none, .int x], 0 ≤ x ∧ x < 2 ^ 62, 0 ≤ endI w x ∧ endI w x < 2 ^ 62, msg.length ≤ sizeLine, x < endI w x, stepP (steps + 1 + 1)]
/-- a word that is met, with another behind it -/
noncomputable def tYL (v : Bool) (ws : Ws) (i : Nat) (P : Params) (ρ : Nat → Addr) (im : Nat → List AV → Prop) (msg : Nm) (p : List AV) (x : Int) (V : Value) (m : Nat) (m1 : Nat) (ve : Option Int) (steps : Int) (lg : List AV) := outc ρ (ksI v ws) [ws.n v, ws.n v + 1, ws.n v + 4, ws.n v + 5] nsW (turn P 6 (withImm (mSt v ws msg p [] (.num (Ws.pc i)) (.int x) (.con V) (.con (.ref m)) ve steps lg [] [0, 0, 1, 0, 0, 0, 1, 0] [.con (.ref m1), .int x, .none, .int x]) im))
noncomputable def tYR (v : Bool) (ws : Ws) (i : Nat) (ρ : Nat → Addr) (im : Nat → List AV → Prop) (msg : Nm) (p : List AV) (x : Int) (V : Value) (m : Nat) (m1 : Nat) (ve : Option Int) (steps : Int) (lg : List AV) : Option (St × List EO × Unit × List Prop) := some (mSt v ws msg (absorb (renL ρ (ksI v ws) p) [.con (.ref (ρ (ws.n v + 1)))]) [] (.num 0) (.int (endI (ws.l.getD i []) x)) (.con (.ref (ρ (ws.n v + 5)))) .none ve (steps + 1 + 1 + 1 + 1 + 1 + 1) (renL ρ (ksI v ws) lg) [] [] [],
        [.dict (wayD (.con (.ref (ρ 8))) (.num (Ws.pc (i + 1))) (.int x) (.con V) (.con (.ref m)) .none), .inst CW (ρ (ws.n v)), .tup [.con (.ref (ρ 11)), .str (seg msg x (endI (ws.l.getD i []) x))], .tup [.con V, .con (.ref (ρ (ws.n v + 4)))]], (),
        [stepP (steps + 1), pushP p, stepP (steps + 1 + 1)] ++ onP msg (ws.l.getD i []) x ++ [seg msg x (endI (ws.l.getD i []) x) = ws.l.getD i [], stepP (steps + 1 + 1 + 1)] ++ nmP im msg (ws.l.getD i []) x m m1 (steps + 1 + 1 + 1 + 1))
theorem tY (v : Bool) (ws : Ws) (i : Nat) (hi : i + 1 < ws.k) (P : Params) (ρ : Nat → Addr) (im : Nat → List AV → Prop) (msg : Nm) (p : List AV) (x : Int) (V : Value) (m m1 : Nat) (ve : Option Int) (steps : Int) (lg : List AV) : tYL v ws i P ρ im msg p x V m m1 ve steps lg = tYR v ws i ρ im msg p x V m m1 ve steps lg := all4 (fun q v ve => tYL v q.1 q.2 P ρ im msg p x V m m1 ve steps lg) (fun q v ve => tYR v q.1 q.2 ρ im msg p x V m m1 ve steps lg) (fun a b c y => by kernel_rfl) ws i hi v ve
/-- the last word, met -/
noncomputable def tYkL (v : Bool) (ws : Ws) (P : Params) (ρ : Nat → Addr) (im : Nat → List AV → Prop) (msg : Nm) (p : List AV) (x : Int) (V : Value) (m : Nat) (m1 : Nat) (ve : Option Int) (steps : Int) (lg : List AV) := outc ρ (ksI v ws) [ws.n v + 2, ws.n v + 3] nsW (turn P 4 (withImm (mSt v ws msg p [] (.num (Ws.pc (ws.k - 1))) (.int x) (.con V) (.con (.ref m)) ve steps lg [] [0, 1, 0, 0, 1, 0] [.con (.ref m1), .int x, .none, .int x]) im))
noncomputable def tYkR (v : Bool) (ws : Ws) (ρ : Nat → Addr) (im : Nat → List AV → Prop) (msg : Nm) (p : List AV) (x : Int) (V : Value) (m : Nat) (m1 : Nat) (ve : Option Int) (steps : Int) (lg : List AV) : Option (St × List EO × Unit × List Prop) := some (mSt v ws msg (renL ρ (ksI v ws) p) [] (.num 0) (.int (endI (ws.l.getD (ws.k - 1) []) x)) (.con (.ref (ρ (ws.n v + 3)))) .none ve (steps + 1 + 1 + 1 + 1) (renL ρ (ksI v ws) lg) [] [] [],
        [.tup [.con (.ref (ρ 11)), .str (seg msg x (endI (ws.l.getD (ws.k - 1) []) x))], .tup [.con V, .con (.ref (ρ (ws.n v + 2)))]], (),
        stepP (steps + 1) :: (onP msg (ws.l.getD (ws.k - 1) []) x ++ [seg msg x (endI (ws.l.getD (ws.k - 1) []) x) = ws.l.getD (ws.k - 1) []] ++ nmP im msg (ws.l.getD (ws.k - 1) []) x m m1 (steps + 1 + 1)))
theorem tYk (v : Bool) (ws : Ws) (P : Params) (ρ : Nat → Addr) (im : Nat → List AV → Prop) (msg : Nm) (p : List AV) (x : Int) (V : Value) (m m1 : Nat) (ve : Option Int) (steps : Int) (lg : List AV) : tYkL v ws P ρ im msg p x V m m1 ve steps lg = tYkR v ws ρ im msg p x V m m1 ve steps lg := all3 (fun ws v ve => tYkL v ws P ρ im msg p x V m m1 ve steps lg) (fun ws v ve => tYkR v ws ρ im msg p x V m m1 ve steps lg) (fun a b c y => by kernel_rfl) ws v ve
/-- a word that is not met, with another behind it -/
noncomputable def tNL (v : Bool) (ws : Ws) (i : Nat) (P : Params) (ρ : Nat → Addr) (msg : Nm) (p : List AV) (x : Int) (V : Value) (m : Nat) (ve : Option Int) (steps : Int) (lg : List AV) := outc ρ (ksN v ws) [] nsW (turn P 2 (mSt v ws msg p [] (.num (Ws.pc i)) (.int x) (.con V) (.con (.ref m)) ve steps lg [] [0, 0, 0, 1] []))
noncomputable def tNR (v : Bool) (ws : Ws) (i : Nat) (ρ : Nat → Addr) (msg : Nm) (p : List AV) (x : Int) (V : Value) (m : Nat) (ve : Option Int) (steps : Int) (lg : List AV) : Option (St × List EO × Unit × List Prop) := some (mSt v ws msg (renL ρ (ksN v ws) p) [] (.num (Ws.pc (i + 1))) (.int x) (.con V) (.con (.ref m)) ve (steps + 1 + 1) (renL ρ (ksN v ws) lg) [] [] [], [], (),
        [stepP (steps + 1), pushP p, stepP (steps + 1 + 1)] ++ onP msg (ws.l.getD i []) x ++ [¬ seg msg x (endI (ws.l.getD i []) x) = ws.l.getD i []] ++ popP p (.ref (ws.n v + 1)))
theorem tN (v : Bool) (ws : Ws) (i : Nat) (hi : i + 1 < ws.k) (P : Params) (ρ : Nat → Addr) (msg : Nm) (p : List AV) (x : Int) (V : Value) (m : Nat) (ve : Option Int) (steps : Int) (lg : List AV) : tNL v ws i P ρ msg p x V m ve steps lg = tNR v ws i ρ msg p x V m ve steps lg := all4 (fun q v ve => tNL v q.1 q.2 P ρ msg p x V m ve steps lg) (fun q v ve => tNR v q.1 q.2 ρ msg p x V m ve steps lg) (fun a b c y => by kernel_rfl) ws i hi v ve
/-- the last word, not met; a way waits -/
noncomputable def tNkL (v : Bool) (ws : Ws) (P : Params) (ρ : Nat → Addr) (msg : Nm) (p : List AV) (x : Int) (V : Value) (m : Nat) (ve : Option Int) (steps : Int) (lg : List AV) (i : Nat) (y : Int) (U : Value) (m' : Nat) := outc ρ (ksN v ws) [] nsW (turn P 1 (mSt v ws msg p [.ref (ws.n v + 1)] (.num (Ws.pc (ws.k - 1))) (.int x) (.con V) (.con (.ref m)) ve steps lg [.dict (wayD (.ref 8) (.num (Ws.pc i)) (.int y) (.con U) (.con (.ref m')) .none), .inst CW (ws.n v)] [0, 0, 1] []))
noncomputable def tNkR (v : Bool) (ws : Ws) (ρ : Nat → Addr) (msg : Nm) (p : List AV) (x : Int) (m : Nat) (ve : Option Int) (steps : Int) (lg : List AV) (i : Nat) (y : Int) (U : Value) (m' : Nat) : Option (St × List EO × Unit × List Prop) := some (mSt v ws msg (renL ρ (ksN v ws) p) [] (.num (Ws.pc i)) (.int y) (.con U) (.con (.ref m')) ve (steps + 1) (renL ρ (ksN v ws) lg) [] [] [], [], (),
        stepP (steps + 1) :: (onP msg (ws.l.getD (ws.k - 1) []) x ++ [¬ seg msg x (endI (ws.l.getD (ws.k - 1) []) x) = ws.l.getD (ws.k - 1) []] ++ popP p (.ref (ws.n v + 1))))
theorem tNk (v : Bool) (ws : Ws) (P : Params) (ρ : Nat → Addr) (msg : Nm) (p : List AV) (x : Int) (V : Value) (m : Nat) (ve : Option Int) (steps : Int) (lg : List AV) (i : Nat) (y : Int) (U : Value) (m' : Nat) : tNkL v ws P ρ msg p x V m ve steps lg i y U m' = tNkR v ws ρ msg p x m ve steps lg i y U m' := by
  cases i with
  | zero => exact all3 (fun ws v ve => tNkL v ws P ρ msg p x V m ve steps lg 0 y U m') (fun ws v ve => tNkR v ws ρ msg p x m ve steps lg 0 y U m') (fun a b c y => by kernel_rfl) ws v ve
  | succ i => cases i with
    | zero => exact all3 (fun ws v ve => tNkL v ws P ρ msg p x V m ve steps lg (0 + 1) y U m') (fun ws v ve => tNkR v ws ρ msg p x m ve steps lg (0 + 1) y U m') (fun a b c y => by kernel_rfl) ws v ve
    | succ i => exact all3 (fun ws v ve => tNkL v ws P ρ msg p x V m ve steps lg (i + 1 + 1) y U m') (fun ws v ve => tNkR v ws ρ msg p x m ve steps lg (i + 1 + 1) y U m') (fun a b c y => by kernel_rfl) ws v ve
/-- what the caller of a match sees -/
noncomputable def hAO (ve : Option Int) (steps : Int) (lg : List AV) (more : List AO) : List AO :=
  [.inst CH 1, .dict [(cValues, .ref 2), (cLimit, .num 9999), (cRefused, .ref 4), (cWidth, .num 64), (cSteps, .int steps), (cLog, .ref 3)], .tab (veD ve), .list (some lg) [], .list none []] ++ more
noncomputable def ksF (t : List Nat) : List Nat := [5, 6, 7, 9, 10] ++ t
noncomputable def endP : List Prop := [(itm (some []) []).length < 2 ^ 62, ¬ (0 : Int) < (((List.nil : List AV).length + (List.nil : List AV).length : Nat) : Int)]
/-- the last word, not met; no way waits -/
noncomputable def tEL (v : Bool) (ws : Ws) (P : Params) (ρ : Nat → Addr) (msg : Nm) (x : Int) (V : Value) (m : Nat) (ve : Option Int) (steps : Int) (lg : List AV) := outc ρ (ksF [ws.n v + 1]) [] [] (lastW P (mSt v ws msg [] [] (.num (Ws.pc (ws.k - 1))) (.int x) (.con V) (.con (.ref m)) ve steps lg [] [0, 0, 0] []))
noncomputable def tER (v : Bool) (ws : Ws) (ρ : Nat → Addr) (msg : Nm) (x : Int) (ve : Option Int) (steps : Int) (lg : List AV) : Option (St × List EO × AFl × List Prop) := some (mkS0 [] (hAO ve (steps + 1) (renL ρ (ksF [ws.n v + 1]) lg) [.tup [.num 1, .none]]) [] [], [], .ret (.ref (ws.n v + 1)),
        stepP (steps + 1) :: (onP msg (ws.l.getD (ws.k - 1) []) x ++ [¬ seg msg x (endI (ws.l.getD (ws.k - 1) []) x) = ws.l.getD (ws.k - 1) []] ++ endP))
theorem tE (v : Bool) (ws : Ws) (P : Params) (ρ : Nat → Addr) (msg : Nm) (x : Int) (V : Value) (m : Nat) (ve : Option Int) (steps : Int) (lg : List AV) : tEL v ws P ρ msg x V m ve steps lg = tER v ws ρ msg x ve steps lg := all3 (fun ws v ve => tEL v ws P ρ msg x V m ve steps lg) (fun ws v ve => tER v ws ρ msg x ve steps lg) (fun a b c y => by kernel_rfl) ws v ve
/-- met -/
noncomputable def tML (ws : Ws) (P : Params) (ρ : Nat → Addr) (msg : Nm) (p : List AV) (x : Int) (V : Value) (ve : Option Int) (steps : Int) (lg : List AV) := outc ρ (ksF [ws.n false + 3, 3, 4]) [] [] (lastW P (mSt false ws msg p [] (.num 0) (.int x) (.con V) .none ve steps lg [] [0, 0, 0, 1, 0] []))
noncomputable def tMR (ws : Ws) (ρ : Nat → Addr) (msg : Nm) (p : List AV) (x : Int) (V : Value) (ve : Option Int) (steps : Int) (lg : List AV) : Option (St × List EO × AFl × List Prop) := some (mkS0 [] (hAO ve (steps + 1 + 1 + 1 + 1) (renL ρ (ksF [ws.n false + 3, 3, 4]) lg) [.tup [.num 0, .ref 6], .inst CW 7, .dict (wayD (.con (.ref (ρ 8))) (.num (ws.m : Nat)) (.int x) (.con V) .none .none)]) [] [], [], .ret (.ref (ws.n false + 3)),
        [stepP (steps + 1), pushP p, stepP (steps + 1 + 1), stepP (steps + 1 + 1 + 1), msg.length < 2 ^ 62, (msg.length : Int) - x = 0, stepP (steps + 1 + 1 + 1 + 1)])
theorem tM (ws : Ws) (P : Params) (ρ : Nat → Addr) (msg : Nm) (p : List AV) (x : Int) (V : Value) (ve : Option Int) (steps : Int) (lg : List AV) : tML ws P ρ msg p x V ve steps lg = tMR ws ρ msg p x V ve steps lg := all3 (fun ws v ve => tML ws P ρ msg p x V ve steps lg) (fun ws v ve => tMR ws ρ msg p x V ve steps lg) (fun a b c y => by kernel_rfl) ws true ve
end Mine
namespace Mine
open PySem PySem.W PyProof.Rows PySem.Calls PySem.Spec
/-! the rest -/
noncomputable def dropA (rest : List (Addr × Obj)) (d : Addr) : List (Addr × Obj) := rest.filter fun y => !(Nat.beq y.1 d)
theorem dropA_mem {rest : List (Addr × Obj)} {d : Addr} {x : Addr × Obj} : x ∈ dropA rest d ↔ x ∈ rest ∧ x.1 ≠ d := by
  unfold dropA
  rw [List.mem_filter]
  refine and_congr_right fun _ => ?_
  cases h : Nat.beq x.1 d with
  | true => simp [Nat.eq_of_beq_eq_true h]
  | false => simpa using Nat.ne_of_beq_eq_false h
theorem FrOk.rst {K : Frag} {p : Program} {loose : List Str} {mean : ExcName → Option Value} {mg mb : Str → Option Value} {fi : FI} {fc : FC} (O : FrOk K p loose mean mg mb fi fc) (r : List (Addr × Obj)) : FrOk K p loose mean mg mb fi { fc with rest := r } :=
  ⟨O.X, O.T, O.hh, O.hk, O.sc, O.gl, O.bl, O.own, O.scr⟩
/-- a tuple of the rest -/
noncomputable def InT (P : Params) (rest : List (Addr × Obj)) (c : Addr) (l : List AV) : Prop := ∃ o, (c, o) ∈ rest ∧ RepEO P (.tup l) o
theorem InT.mono {P : Params} {rest rest' : List (Addr × Obj)} {c : Addr} {l : List AV} (h : InT P rest c l) (k : ∀ y ∈ rest, y ∈ rest') : InT P rest' c l := by
  obtain ⟨o, h1, h2⟩ := h
  exact ⟨o, k _ h1, h2⟩
section
variable {P : Params} {fi : FI} {fc : FC} {ρ : Nat → Addr} {st : St} {h : Heap}
theorem InT.drop (r : Rel P fi fc ρ st h) {c d : Addr} {l : List AV} {es : List (Nm × AV)} {od : Obj} (t : InT P fc.rest c l) (hd : (d, od) ∈ fc.rest) (he : RepEO P (.dict es) od) : InT P (dropA fc.rest d) c l := by
  obtain ⟨o, h1, h2⟩ := t
  refine ⟨o, dropA_mem.mpr ⟨h1, fun q => ?_⟩, h2⟩
  have q : c = d := q
  have e1 := r.get? h1
  have e2 := r.get? hd
  rw [q, e2] at e1
  obtain rfl := Option.some.inj e1
  obtain ⟨vs, k, e, _⟩ := h2
  obtain ⟨ds, k', e', _⟩ := he
  rw [e'] at e
  exact nomatch (congrArg Obj.data e : (dictOf ds k').data = _)
end
/-- what is known of the marks -/
noncomputable def Mk (P : Params) (rest : List (Addr × Obj)) (m : Addr) (x : Int) : Prop := ∃ m1, InT P rest m [.con (.ref m1), .int x] ∧ InT P rest m1 [.none, .int x]
/-- what is known of the names so far -/
noncomputable def Nmd (P : Params) (rest : List (Addr × Obj)) (X : Addr) : Value → List Nm → Prop
  | V, [] => V = .none
  | V, t :: r => ∃ c d V', V = .ref c ∧ InT P rest c [.con V', .con (.ref d)] ∧ InT P rest d [.con (.ref X), .str t] ∧ Nmd P rest X V' r
/-- the log: so many times the place -/
noncomputable def LogE (P : Params) (rest : List (Addr × Obj)) (x : Int) (lg : List AV) (n : Nat) : Prop := lg.length = n ∧ ∀ a ∈ lg, ∃ c, a = .con (.ref c) ∧ InT P rest c [.txt kE, .int x]
theorem LogE.con {P : Params} {rest : List (Addr × Obj)} {x : Int} {lg : List AV} {n : Nat} (h : LogE P rest x lg n) : AllCon lg := fun a ha => by
  obtain ⟨c, e, _⟩ := h.2 a ha
  exact ⟨_, e⟩
/-- what keeps the tuples -/
noncomputable def Kp (P : Params) (rest rest' : List (Addr × Obj)) : Prop := ∀ c l, InT P rest c l → InT P rest' c l
theorem Kp.mk {P : Params} {rest rest' : List (Addr × Obj)} (k : Kp P rest rest') {m : Addr} {x : Int} (h : Mk P rest m x) : Mk P rest' m x := by
  obtain ⟨m1, h1, h2⟩ := h
  exact ⟨m1, k _ _ h1, k _ _ h2⟩
theorem Kp.nmd {P : Params} {rest rest' : List (Addr × Obj)} (k : Kp P rest rest') {X : Addr} : ∀ {V : Value} {l : List Nm}, Nmd P rest X V l → Nmd P rest' X V l
  | V, [], h => h
  | V, t :: r, ⟨c, d, V', e, h1, h2, h3⟩ => ⟨c, d, V', e, k _ _ h1, k _ _ h2, k.nmd h3⟩
theorem Kp.log {P : Params} {rest rest' : List (Addr × Obj)} (k : Kp P rest rest') {x : Int} {lg : List AV} {n : Nat} (h : LogE P rest x lg n) : LogE P rest' x lg n := ⟨h.1, fun a ha => by
  obtain ⟨c, e, t⟩ := h.2 a ha
  exact ⟨c, e, k _ _ t⟩⟩
/-! the machine, told plainly -/
structure En where
  i : Nat
  x : Nat
  nm : List Nm
inductive Cf where
  | hd (x : Nat) (nm : List Nm)
  | tr (i x : Nat) (nm : List Nm)
inductive Rs where
  | met (x : Nat) (nm : List Nm)
  | fail
noncomputable def runC (v : Bool) (ws : Ws) (msg : Nm) : Nat → Cf → List En → Nat → Nat → Option (Rs × Nat × Nat)
  | 0, _, _, _, _ => none
  | n + 1, .hd x nm, stk, s, h => if x = msg.length then (match v with
      | true => runC v ws msg n (.tr 0 x nm) stk (s + 7) (h + 1)
      | false => some (.met x nm, s + 4, h))
    else runC v ws msg n (.tr 0 x nm) stk (s + 5) h
  | n + 1, .tr i x nm, stk, s, h => if (msg.take (x + (ws.l.getD i []).length)).drop x = ws.l.getD i [] then
      (if i + 1 < ws.k then runC v ws msg n (.hd (x + (ws.l.getD i []).length) (ws.l.getD i [] :: nm)) (⟨i + 1, x, nm⟩ :: stk) (s + 6) h
       else runC v ws msg n (.hd (x + (ws.l.getD i []).length) (ws.l.getD i [] :: nm)) stk (s + 4) h)
    else if i + 1 < ws.k then runC v ws msg n (.tr (i + 1) x nm) stk (s + 2) h
    else match stk with
      | [] => some (.fail, s + 1, h)
      | e :: r => runC v ws msg n (.tr e.i e.x e.nm) r (s + 1) h
theorem runC_le {v : Bool} {ws : Ws} {msg : Nm} : ∀ {n : Nat} {c : Cf} {stk : List En} {s h : Nat} {r : Rs} {t h' : Nat}, runC v ws msg n c stk s h = some (r, t, h') → s < t
  | 0, _, _, _, _, _, _, _, e => nn e
  | n + 1, .hd x nm, stk, s, h, r, t, h', e => by
    unfold runC at e
    split at e
    · cases v with
      | true => have := runC_le (v := true) (n := n) e; lia
      | false => cases e; lia
    · have := runC_le e; lia
  | n + 1, .tr i x nm, stk, s, h, r, t, h', e => by
    unfold runC at e
    split at e
    · split at e
      · have := runC_le e; lia
      · have := runC_le e; lia
    · split at e
      · have := runC_le e; lia
      · cases stk with
        | nil => cases e; lia
        | cons a b => have := runC_le (n := n) e; lia
/-- a way that waits -/
structure Wt where
  ai : Addr
  ad : Addr
  e : En
noncomputable def EntR (P : Params) (rest : List (Addr × Obj)) (o8 X : Addr) (z : Wt) : Prop := (z.ai, instObj CW z.ad) ∈ rest ∧ ∃ V m o, (z.ad, o) ∈ rest ∧ RepEO P (.dict (wayD (.con (.ref o8)) (.num (Ws.pc z.e.i)) (.int z.e.x) (.con V) (.con (.ref m)) .none)) o ∧ Mk P rest m z.e.x ∧ Nmd P rest X V z.e.nm
noncomputable def pendL (q : List Wt) : List AV := (q.map fun z => AV.con (.ref z.ai)).reverse
theorem pendL_con (q : List Wt) : AllCon (pendL q) := fun a ha => by
  obtain ⟨x, _, rfl⟩ := List.mem_map.mp (List.mem_reverse.mp ha)
  exact ⟨_, rfl⟩
theorem pendL_cons (x : Wt) (q : List Wt) : pendL (x :: q) = pendL q ++ [.con (.ref x.ai)] := by simp [pendL]
theorem pendL_len (q : List Wt) : (pendL q).length = q.length := by simp [pendL]
noncomputable def Stk (P : Params) (rest : List (Addr × Obj)) (o8 X : Addr) (q : List Wt) : Prop := (∀ z ∈ q, EntR P rest o8 X z) ∧ (q.map (·.ad)).Nodup
end Mine
namespace Mine
open PySem PySem.W PyProof.Rows PySem.Calls PySem.Spec
theorem Ws.n_ge (v : Bool) (ws : Ws) : 23 ≤ ws.n v := by cases ws <;> cases v <;> exact Nat.le_of_ble_eq_true rfl
theorem mSt_n {v : Bool} {ws : Ws} {msg : Nm} {p hx : List AV} {pc at_ N M : AV} {ve : Option Int} {steps : Int} {lg : List AV} {more : List AO} {or : List Nat} {ov : List AV} : (mSt v ws msg p hx pc at_ N M ve steps lg more or ov).n = ws.n v + more.length := by
  cases ws <;> cases v <;> simp [mSt, mkS0, mAO, Ws.ords, tailAO, refAO, Ws.n, Ws.m, tailC] <;> omega
theorem mSt_2 {v : Bool} {ws : Ws} {msg : Nm} {p hx : List AV} {pc at_ N M : AV} {ve : Option Int} {steps : Int} {lg : List AV} {or : List Nat} {ov : List AV} : (mSt v ws msg p hx pc at_ N M ve steps lg [] or ov).sg.get 2 = .list (some p) hx := by
  cases ws <;> cases v <;> rfl
/-- the state with two more things -/
theorem mSt_two {v : Bool} {ws : Ws} {msg : Nm} {p p' hx : List AV} {pc at_ N M : AV} {ve : Option Int} {steps : Int} {lg : List AV} {a b : AO} (or : List Nat) (n n' : Nat) (e : ws.n v = n) (e' : n + 1 = n') :
    ({ setO 2 (.list (some p') hx) { mSt v ws msg p [] pc at_ N M ve steps lg [] [] [] with sg := ((mSt v ws msg p [] pc at_ N M ve steps lg [] [] []).sg.set n a).set n' b, n := n' + 1 } with or := or, ov := [] } : St) = mSt v ws msg p' hx pc at_ N M ve steps lg [a, b] or [] := by
  subst e'
  subst e
  cases ws <;> cases v <;> cases ve <;> kernel_rfl
section
variable {P : Params} {fc : FC} {ρ : Nat → Addr} {h : Heap} {fi : FI}
theorem wayD_rep {n i8 : Nat} {o8 : Addr} {pc at_ N M : AV} {o : Obj} (hpc : ∀ v, RepV (fun _ => 0) 0 pc v → RepV ρ n pc v) (hat : ∀ v, RepV (fun _ => 0) 0 at_ v → RepV ρ n at_ v) (hN : ∀ v, RepV (fun _ => 0) 0 N v → RepV ρ n N v) (hM : ∀ v, RepV (fun _ => 0) 0 M v → RepV ρ n M v)
    (h : RepEO P (.dict (wayD (.con (.ref o8)) pc at_ N M .none)) o) (h8 : ρ i8 = o8) (hn : i8 < n) : RepO P ρ n (.dict (wayD (.ref i8) pc at_ N M .none)) o := by
  obtain ⟨ds, k, e, h⟩ := h
  subst h8
  refine ⟨ds, k, e, All2.map2 ?_ h⟩
  exact ⟨fun _ q => ⟨q.1, q.2.1, hn, q.2.2.1⟩, fun _ q => ⟨q.1, q.2.1, hpc _ q.2.2⟩, fun _ q => ⟨q.1, q.2.1, hat _ q.2.2⟩, fun _ q => ⟨q.1, q.2.1, hN _ q.2.2⟩, fun _ q => ⟨q.1, q.2.1, hM _ q.2.2⟩, fun _ q => q, trivial⟩
theorem impE {v : Bool} {ws : Ws} {msg : Nm} {pc at_ N M : AV} {ve : Option Int} {steps : Int} {lg : List AV} {or : List Nat} {z : Wt} {q : List Wt}
    (r : Rel P fi fc ρ (mSt v ws msg (pendL (z :: q)) [] pc at_ N M ve steps lg [] [] []) h) (hz : EntR P fc.rest (ρ 8) (ρ 11) z) :
    ∃ ρ1 V m o, (z.ad, o) ∈ fc.rest ∧ RepEO P (.dict (wayD (.con (.ref (ρ 8))) (.num (Ws.pc z.e.i)) (.int z.e.x) (.con V) (.con (.ref m)) .none)) o ∧ Mk P fc.rest m z.e.x ∧ Nmd P fc.rest (ρ 11) V z.e.nm ∧
      Rel P fi { fc with rest := dropA fc.rest z.ad } ρ1 (mSt v ws msg (pendL q) [.ref (ws.n v + 1)] pc at_ N M ve steps lg [.dict (wayD (.ref 8) (.num (Ws.pc z.e.i)) (.int z.e.x) (.con V) (.con (.ref m)) .none), .inst CW (ws.n v)] or []) h ∧ (∀ j, j < ws.n v → ρ1 j = ρ j) := by
  obtain ⟨hi, V, m, o, ho, hro, hm, hn⟩ := hz
  have en : (mSt v ws msg (pendL (z :: q)) [] pc at_ N M ve steps lg [] [] []).n = ws.n v := mSt_n
  have h23 := Ws.n_ge v ws
  refine ⟨upR (upR ρ (ws.n v) z.ad) (ws.n v + 1) z.ai, V, m, o, ho, hro, hm, hn, ?_, fun j hj => ?_⟩
  · have r1 := r.impD (rest := dropA fc.rest z.ad) ho (fun y hy => dropA_mem.mp hy) (wayD_rep (ρ := ρ) (i8 := 8) (pc := .num (Ws.pc z.e.i)) (at_ := .int z.e.x) (N := .con V) (M := .con (.ref m)) (fun _ h => h) (fun _ h => h) (fun _ h => h) (fun _ h => h) hro rfl (by rw [en]; lia))
    rw [en] at r1
    have hne : z.ai ≠ z.ad := by
      intro q
      have h1 := r.get? hi
      have h2 := r.get? ho
      rw [q, h2] at h1
      obtain rfl := Option.some.inj h1
      obtain ⟨ds, k, e, _⟩ := hro
      exact nomatch (congrArg Obj.data e : (instObj CW z.ad).data = _)
    have r2 := r1.imp (ao := .inst CW (ws.n v)) (dropA_mem.mpr ⟨hi, hne⟩) rfl ⟨by show ws.n v < ws.n v + 1 + 1; lia, by
      show instObj CW z.ad = instObj CW (upR (upR ρ (ws.n v) z.ad) (ws.n v + 1) z.ai (ws.n v))
      simp [upR]⟩
    have g2 : (({ mSt v ws msg (pendL (z :: q)) [] pc at_ N M ve steps lg [] [] [] with sg := ((mSt v ws msg (pendL (z :: q)) [] pc at_ N M ve steps lg [] [] []).sg.set (ws.n v) (.dict (wayD (.ref 8) (.num (Ws.pc z.e.i)) (.int z.e.x) (.con V) (.con (.ref m)) .none))).set (ws.n v + 1) (.inst CW (ws.n v)), n := ws.n v + 1 + 1, imm := fun _ _ => False } : St).sg.get 2) = .list (some (pendL (z :: q))) [] := by
      show ((_ : Tr).set _ _).get 2 = _
      rw [Tr.get_set, if_neg (by lia), Tr.get_set, if_neg (by lia)]
      exact mSt_2
    have r3 := (r2.view (l := 2) (p' := some (pendL q)) (xs' := [.ref (ws.n v + 1)]) (p := some (pendL (z :: q))) (xs := []) g2 (fun vs hv => by
      rw [pendL_cons] at hv
      have hv : All2 _ ((pendL q ++ [.con (.ref z.ai)]) ++ []) vs := hv
      rw [List.append_nil] at hv
      obtain ⟨b1, b2, rfl, h1, h2⟩ := All2.split hv
      refine All2.append h1 ?_
      refine All2.map2 ?_ h2
      exact ⟨fun _ q => ⟨by show ws.n v + 1 < ws.n v + 1 + 1; lia, by rw [q.1]; simp [upR]⟩, trivial⟩)).mus (fun _ _ h => h) or []
    have e3 := mSt_two (v := v) (ws := ws) (msg := msg) (p := pendL (z :: q)) (p' := pendL q) (hx := [.ref (ws.n v + 1)]) (pc := pc) (at_ := at_) (N := N) (M := M) (ve := ve) (steps := steps) (lg := lg)
      (a := .dict (wayD (.ref 8) (.num (Ws.pc z.e.i)) (.int z.e.x) (.con V) (.con (.ref m)) .none)) (b := .inst CW (ws.n v)) or (ws.n v) (ws.n v + 1) rfl rfl
    exact e3 ▸ r3
  · have h1 : j ≠ ws.n v + 1 := by lia
    have h2 : j ≠ ws.n v := by lia
    show upR (upR ρ (ws.n v) z.ad) (ws.n v + 1) z.ai j = _
    simp [upR, h1, h2]
end
end Mine
namespace Mine
open PySem PySem.W PyProof.Rows PySem.Calls PySem.Spec
theorem wSt_n {v : Bool} {ws : Ws} {msg : Nm} {p hx : List AV} {pc at_ N M : AV} {ve : Option Int} {steps : Int} {lg : List AV} {more : List AO} {or : List Nat} {ov : List AV} {im : Nat → List AV → Prop} : (withImm (mSt v ws msg p hx pc at_ N M ve steps lg more or ov) im).n = ws.n v + more.length := mSt_n (or := or) (ov := ov)
theorem seg_nat (msg w : Nm) (x : Nat) : seg msg (x : Int) (endI w x) = (msg.take (x + w.length)).drop x := by
  unfold seg endI
  rw [show ((x : Int) + (w.length : Int)).toNat = x + w.length by lia, Int.toNat_natCast]
theorem upN_at : ∀ (c a j : Nat), j < c → (upN a c).getD j 0 = a + j
  | 0, _, _, h => absurd h (Nat.not_lt_zero _)
  | c + 1, a, 0, _ => rfl
  | c + 1, a, j + 1, h => by
    have := upN_at c (a + 1) j (Nat.lt_of_succ_lt_succ h)
    show (upN (a + 1) c).getD j 0 = _
    rw [this]; lia
theorem ksN_at (v : Bool) (ws : Ws) (j : Nat) (h : 5 ≤ j) (h' : j < 13) : (ksN v ws).getD j 0 = j := by
  have h23 := Ws.n_ge v ws
  obtain ⟨i, rfl⟩ : ∃ i, j = i + 5 := ⟨j - 5, by lia⟩
  show (upN 5 (ws.n v - 5)).getD i 0 = _
  rw [upN_at _ _ _ (by lia)]; lia
theorem ksI_at (v : Bool) (ws : Ws) (j : Nat) (h' : j < 13) : (ksI v ws).getD j 0 = j := by
  have h23 := Ws.n_ge v ws
  unfold ksI
  rw [upN_at _ _ _ (by lia)]; lia
noncomputable def Same (ρ ρ' : Nat → Addr) : Prop := ρ' 5 = ρ 5 ∧ ρ' 8 = ρ 8 ∧ ρ' 9 = ρ 9 ∧ ρ' 11 = ρ 11
/-- what a state of the machine is -/
noncomputable def CfR (w : World) (fc : FC) (ρ : Nat → Addr) (v : Bool) (ws : Ws) (msg : Nm) (q : List Wt) (ve : Option Int) (steps : Nat) (lg : List AV) (h : Heap) : Cf → Prop
  | .hd x nm => ∃ V, Rel w.params fiRun fc ρ (mSt v ws msg (pendL q) [] (.num 0) (.int x) (.con V) .none ve steps lg [] [] []) h ∧ Nmd w.params fc.rest (ρ 11) V nm ∧ x ≤ msg.length
  | .tr i x nm => i < ws.k ∧ ∃ V m, Rel w.params fiRun fc ρ (mSt v ws msg (pendL q) [] (.num (Ws.pc i)) (.int x) (.con V) (.con (.ref m)) ve steps lg [] [] []) h ∧ Nmd w.params fc.rest (ρ 11) V nm ∧ Mk w.params fc.rest m x ∧ x ≤ msg.length
/-- what is so at the end -/
noncomputable def EndR (w : World) (fc : FC) (ρ : Nat → Addr) (msg : Nm) (q : List Wt) (t hits : Nat) (Q : Flow → Shared → Prop) (s : Shared) : Rs → Prop
  | .fail => ∀ ρ' h' tk rest' lg' ve', ρ' 0 = ρ 5 → ρ' 3 = ρ 9 → Rel w.params fiRun { fc with rest := rest' } ρ' (mkS0 [] (hAO ve' t lg' [.tup [.num 1, .none]]) [] []) h' → LogE w.params rest' msg.length lg' hits → (∀ y ∈ fc.rest, (∀ z ∈ q, y.1 ≠ z.ad) → y ∈ rest') → Q (.ret (.ref (ρ' 5))) { s with heap := h', toks := tk }
  | .met x nm => ∀ ρ' h' tk rest' lg' ve' o8 V X pc, ρ' 0 = ρ 5 → ρ' 3 = ρ 9 → Rel w.params fiRun { fc with rest := rest' } ρ' (mkS0 [] (hAO ve' t lg' [.tup [.num 0, .ref 6], .inst CW 7, .dict (wayD (.con (.ref o8)) (.num pc) (.int x) (.con V) .none .none)]) [] []) h' → Nmd w.params rest' X V nm →
      LogE w.params rest' msg.length lg' hits → (∀ y ∈ fc.rest, (∀ z ∈ q, y.1 ≠ z.ad) → y ∈ rest') → Q (.ret (.ref (ρ' 5))) { s with heap := h', toks := tk }
theorem hclR {ks : List Nat} : ∀ x l, look x fiRun.cl = some l → ks[l]? = some l := fun x l h => by cases h
theorem popP_ok {p : List AV} {x : AV} (h : p.length ≤ 100000) : Ps (popP p x) := by
  simp only [popP, Ps, and_true]
  refine ⟨?_, ?_, ?_⟩
  · simp [itm]; lia
  · simp only [List.length_cons, List.length_nil]; lia
  · rw [sizeL]; simp [itm]; lia
theorem pushP_ok {p : List AV} (h : p.length ≤ 100000) : pushP p := by unfold pushP; rw [sizeL]; simp [itm]; lia
theorem Ps.app {a b : List Prop} (h : Ps a) (k : Ps b) : Ps (a ++ b) := by
  induction a with
  | nil => exact k
  | cons p r ih => exact ⟨h.1, ih h.2⟩
theorem onP_ok {msg w : Nm} {x : Nat} (h1 : w.length ≤ 100) (h2 : x ≤ msg.length) (h3 : msg.length ≤ 1000) : Ps (onP msg w x) := by
  simp only [onP, Ps, and_true, endI, sizeL]
  refine ⟨?_, ⟨?_, ?_⟩, ⟨?_, ?_⟩, ?_⟩ <;> lia
theorem nmP_ok {im : Nat → List AV → Prop} {msg w : Nm} {x : Nat} {m m1 : Nat} {steps : Int} (h1 : w.length ≤ 100) (h0 : w ≠ []) (h2 : x ≤ msg.length) (h3 : msg.length ≤ 1000) (hs : steps + 2 ≤ 9999) (i1 : im m [.con (.ref m1), .int x]) (i2 : im m1 [.none, .int x]) : Ps (nmP im msg w x m m1 steps) := by
  have hp : 0 < w.length := by cases w with | nil => exact absurd rfl h0 | cons => simp
  simp only [nmP, Ps, and_true, endI, sizeL, stepP]
  refine ⟨?_, i1, ?_, ?_, ?_, ?_, i2, ?_, ?_, ?_, ?_, ?_⟩ <;> lia
theorem fit_le {msg w : Nm} {x : Nat} (h : (msg.take (x + w.length)).drop x = w) (h0 : w ≠ []) : x + w.length ≤ msg.length := by
  have hp : 0 < w.length := by cases w with | nil => exact absurd rfl h0 | cons => simp
  have := congrArg List.length h
  simp only [List.length_drop, List.length_take] at this
  lia
theorem Ws.k_len (ws : Ws) : ws.k = ws.l.length := by cases ws <;> rfl
theorem getD_mem {ws : Ws} {i : Nat} (h : i < ws.k) : ws.l.getD i [] ∈ ws.l := by
  rw [Ws.k_len] at h
  rw [List.getD_eq_getElem?_getD, List.getElem?_eq_getElem h]
  exact List.getElem_mem h
theorem kp_app {P : Params} {rest : List (Addr × Obj)} (l : List (Addr × Obj)) : Kp P rest (l ++ rest) := fun _ _ h => h.mono fun _ hy => List.mem_append_right _ hy
theorem Gone.int {w : World} {fc : FC} {ρ : Nat → Addr} {xs : List Nat} {E : List EO} {f : Nat → Obj} (g : Gone w.params fc ρ xs E f) {i l : Nat} {ys : List AV} {rest : List (Addr × Obj)} (h1 : xs[i]? = some l) (h2 : E[i]? = some (.tup ys)) : InT w.params (xs.map (fun l => (ρ l, f l)) ++ rest) (ρ l) ys :=
  ⟨f l, List.mem_append_left _ (List.mem_map.mpr ⟨l, List.mem_of_getElem? h1, rfl⟩), g.rep i l _ h1 h2⟩
theorem EntR.kp {P : Params} {rest rest' : List (Addr × Obj)} {o8 X : Addr} {z : Wt} (h : EntR P rest o8 X z) (k : Kp P rest rest') (m1 : ∀ o, (z.ai, o) ∈ rest → (z.ai, o) ∈ rest') (m2 : ∀ o, (z.ad, o) ∈ rest → (z.ad, o) ∈ rest') : EntR P rest' o8 X z := by
  obtain ⟨h1, V, m, o, h2, h3, h4, h5⟩ := h
  exact ⟨m1 _ h1, V, m, o, m2 _ h2, h3, k.mk h4, k.nmd h5⟩
theorem Stk.app {P : Params} {rest : List (Addr × Obj)} {o8 X : Addr} {q : List Wt} (h : Stk P rest o8 X q) (l : List (Addr × Obj)) : Stk P (l ++ rest) o8 X q :=
  ⟨fun z hz => (h.1 z hz).kp (kp_app l) (fun _ hm => List.mem_append_right _ hm) fun _ hm => List.mem_append_right _ hm, h.2⟩
section
variable {prog : Program} {w : World} {K : Frag} {p : Program} {loose : List Str} {mean : ExcName → Option Value} {mg mb : Str → Option Value}
theorem EndR.go {fc : FC} {ρ ρ2 : Nat → Addr} {msg : Nm} {q q2 : List Wt} {t h1 : Nat} {Q : Flow → Shared → Prop} {s : Shared} {r : Rs} {rest2 : List (Addr × Obj)} {h' : Heap} {tk : Nat} (H : EndR w fc ρ msg q t h1 Q s r) (e5 : ρ2 5 = ρ 5) (e9 : ρ2 9 = ρ 9)
    (hk : ∀ y ∈ fc.rest, (∀ z ∈ q, y.1 ≠ z.ad) → y ∈ rest2 ∧ ∀ z ∈ q2, y.1 ≠ z.ad) : EndR w { fc with rest := rest2 } ρ2 msg q2 t h1 Q { s with heap := h', toks := tk } r := by
  cases r with
  | fail => exact fun ρ' h' tk rest' lg' ve' k1 k2 k3 k4 k5 => H ρ' h' tk rest' lg' ve' (k1.trans e5) (k2.trans e9) k3 k4 fun y hy hz => k5 y (hk y hy hz).1 (hk y hy hz).2
  | met x nm => exact fun ρ' h' tk rest' lg' ve' o8 V X pc k1 k2 k3 k3' k4 k5 => H ρ' h' tk rest' lg' ve' o8 V X pc (k1.trans e5) (k2.trans e9) k3 k3' k4 fun y hy hz => k5 y (hk y hy hz).1 (hk y hy hz).2
theorem k_pos (ws : Ws) : 0 < ws.k := by cases ws <;> exact Nat.le_of_ble_eq_true rfl
theorem sd {a : Int} (h : stepP (a + 1)) : stepP a := by unfold stepP at *; lia
theorem mSt_lt {v : Bool} {ws : Ws} {msg : Nm} {p hx : List AV} {pc at_ N M : AV} {ve : Option Int} {steps : Int} {lg : List AV} {more : List AO} {or : List Nat} {ov : List AV} {j : Nat} (h : j < 13) : j < (mSt v ws msg p hx pc at_ N M ve steps lg more or ov).n := by
  rw [mSt_n]
  have := Ws.n_ge v ws
  lia
theorem wSt_lt {v : Bool} {ws : Ws} {msg : Nm} {p hx : List AV} {pc at_ N M : AV} {ve : Option Int} {steps : Int} {lg : List AV} {more : List AO} {or : List Nat} {ov : List AV} {im : Nat → List AV → Prop} {j : Nat} (h : j < 13) : j < (withImm (mSt v ws msg p hx pc at_ N M ve steps lg more or ov) im).n := mSt_lt (or := or) (ov := ov) h
/-- the machine's loop runs to its end -/
noncomputable def MGo (prog : Program) (w : World) (fc : FC) (Q : Flow → Shared → Prop) (k : Nat) (s : Shared) : Prop := WhlRest prog w fc.A NoE fc.env (whileT runW) (whileB runW) [] (fun f s' => match f with | .next => wpAny (model prog w) fc.A (execs runRest fc.env) Q NoE s' | f => Q f s') k s
set_option tactic.hygienic true in
theorem simHd (S : Snd prog w K p loose mean mg mb 900 200 (evs (T2 w.params) 200)) {v : Bool} {ws : Ws} {msg : Nm} (hmsg : msg.length ≤ 1000) (hws : ∀ u ∈ ws.l, u ≠ [] ∧ u.length ≤ 100) {Q : Flow → Shared → Prop} {n : Nat}
    (IH : ∀ {cf : Cf} {q : List Wt} {s0 h0 t h1 : Nat} {r : Rs} {fc : FC} {ρ : Nat → Addr} {s : Shared} {ve : Option Int} {lg : List AV} {k : Nat}, runC v ws msg n cf (q.map (·.e)) s0 h0 = some (r, t, h1) → t ≤ 9999 → q.length + (t - s0) ≤ 20000 → lg.length + (t - s0) ≤ 20000 →
    FrOk K p loose mean mg mb fiRun fc → Room2 900 200 fc.A → CfR w fc ρ v ws msg q ve s0 lg s.heap cf → Stk w.params fc.rest (ρ 8) (ρ 11) q → (∀ z ∈ q, z.e.i < ws.k ∧ z.e.x ≤ msg.length) → LogE w.params fc.rest msg.length lg h0 → EndR w fc ρ msg q t h1 Q s r → MGo prog w fc Q k s)
    {x : Nat} {nm : List Nm} {q : List Wt} {s0 h0 t h1 : Nat} {r : Rs} {fc : FC} {ρ : Nat → Addr} {s : Shared} {ve : Option Int} {lg : List AV} {k : Nat}
    (e : runC v ws msg (n + 1) (.hd x nm) (q.map (·.e)) s0 h0 = some (r, t, h1)) (ht : t ≤ 9999) (hq : q.length + (t - s0) ≤ 20000) (hl : lg.length + (t - s0) ≤ 20000) (O : FrOk K p loose mean mg mb fiRun fc) (B : Room2 900 200 fc.A) (hc : CfR w fc ρ v ws msg q ve s0 lg s.heap (.hd x nm)) (hS : Stk w.params fc.rest (ρ 8) (ρ 11) q) (hE : (∀ z ∈ q, z.e.i < ws.k ∧ z.e.x ≤ msg.length)) (hL : LogE w.params fc.rest msg.length lg h0) (H : EndR w fc ρ msg q t h1 Q s r) : MGo prog w fc Q k s := by
  obtain ⟨V, rr, hN, hx⟩ := hc
  have hlt := runC_le e
  have hpl := pendL_len q
  have hp : (pendL q).length ≤ 100000 := by lia
  have hm62 : msg.length < 2 ^ 62 := by lia
  have hn := Ws.n_ge v ws
  unfold runC at e
  split at e
  · rename_i hxe
    cases v with
    | false =>
      cases e
      have hP : Ps [stepP ((s0 : Int) + 1), pushP (pendL q), stepP ((s0 : Int) + 1 + 1), stepP ((s0 : Int) + 1 + 1 + 1), msg.length < 2 ^ 62, (msg.length : Int) - (x : Int) = 0, stepP ((s0 : Int) + 1 + 1 + 1 + 1)] := by
        have h4 : stepP ((s0 : Int) + 1 + 1 + 1 + 1) := by unfold stepP; lia
        exact ⟨sd (sd (sd h4)), pushP_ok hp, sd (sd h4), sd h4, hm62, by lia, h4, trivial⟩
      have hev := fun ρ' => tM ws w.params ρ' msg (pendL q) x V ve s0 lg
      have r1 := rr.mus (fun _ _ h => h) [0, 0, 0, 1, 0] []
      obtain ⟨st1, P1, e1, hP1, _⟩ := anew (w := w) (fc := fc) (fi := fiRun) (h' := s.heap) (hev ρ) hP hclR
      refine whEnd_sound S O B e1 hP1 r1 fun ρ' h' tk vv X r' qq => ?_
      obtain ⟨st2, P2, e2, _, g⟩ := anew (w := w) (fc := fc) (fi := fiRun) (h' := h') (hev ρ') hP hclR
      rw [e1] at e2
      cases e2
      obtain ⟨f, g1, g2⟩ := g r'
      obtain ⟨v', rfl, rv⟩ := qq
      obtain ⟨_, rfl⟩ := rv
      rw [hL.con.ren] at g2
      have e5 : ρ' 5 = ρ 5 := X.2 5 (mSt_lt (by decide))
      have e9 : ρ' 9 = ρ 9 := X.2 9 (mSt_lt (by decide))
      have es : ((s0 : Int) + 1 + 1 + 1 + 1) = ((s0 + 4 : Nat) : Int) := rfl
      rw [es] at g2
      exact H _ h' tk _ lg ve (ρ' 8) V _ _ e5 e9 g2 ((kp_app _).nmd hN) ((kp_app _).log hL) fun y hy _ => List.mem_append_right _ hy
    | true =>
      have h7 := runC_le e
      have hP : ∀ ρ' : Nat → Addr, Ps ([stepP ((s0 : Int) + 1), pushP (pendL q), stepP ((s0 : Int) + 1 + 1), stepP ((s0 : Int) + 1 + 1 + 1), msg.length < 2 ^ 62, (msg.length : Int) - (x : Int) = 0, stepP ((s0 : Int) + 1 + 1 + 1 + 1), lgP lg, stepP ((s0 : Int) + 1 + 1 + 1 + 1 + 1)] ++ popP (pendL q) (.ref (ws.n true + 1)) ++ [stepP ((s0 : Int) + 1 + 1 + 1 + 1 + 1 + 1), stepP ((s0 : Int) + 1 + 1 + 1 + 1 + 1 + 1 + 1)]) := fun _ => by
        have h7 : stepP ((s0 : Int) + 1 + 1 + 1 + 1 + 1 + 1 + 1) := by unfold stepP; lia
        have h5 := sd (sd h7)
        exact Ps.app (Ps.app ⟨sd (sd (sd (sd h5))), pushP_ok hp, sd (sd (sd h5)), sd (sd h5), hm62, by lia, sd h5, pushP_ok (by lia), h5, trivial⟩ (popP_ok hp)) ⟨sd h7, h7, trivial⟩
      refine run_turn S O B (hev := fun ρ' => tH2 ws w.params ρ' msg (pendL q) x V ve s0 lg) (fun ρ' _ => hP ρ') hclR (rr.mus (fun _ _ h => h) _ _) fun ρ' h' tk f X g1 g2 => ?_
      have ex : ∀ j, 5 ≤ j → j < 13 → ρ' ((ksN true ws).getD j 0) = ρ j := fun j h5 h13 => by rw [ksN_at _ _ _ h5 h13]; exact X.2 j (mSt_lt h13)
      rw [hL.con.ren, (pendL_con q).ren, show ((s0 : Int) + 1 + 1 + 1 + 1 + 1 + 1 + 1) = ((s0 + 7 : Nat) : Int) from rfl] at g2
      have z1 := (kp_app (([ws.n true + 4, ws.n true + 6, ws.n true + 7] : List Nat).map (fun l => (ρ' l, f l)))).nmd hN
      have z2 := hS.app (([ws.n true + 4, ws.n true + 6, ws.n true + 7] : List Nat).map (fun l => (ρ' l, f l)))
      rw [← ex 11 (by decide) (by decide)] at z1 z2
      rw [← ex 8 (by decide) (by decide)] at z2
      refine IH (fc := { fc with rest := ([ws.n true + 4, ws.n true + 6, ws.n true + 7] : List Nat).map (fun l => (ρ' l, f l)) ++ fc.rest }) (ρ := fun j => ρ' ((ksN true ws).getD j 0)) (s := { s with heap := h', toks := tk }) (q := q) e ht (by lia) (by simp only [List.length_append, List.length_cons, List.length_nil]; lia) (O.rst _) B
        ⟨k_pos ws, V, _, g2, z1, ⟨_, g1.int (i := 2) rfl rfl, g1.int (i := 1) rfl rfl⟩, hx⟩ z2 hE ⟨?_, ?_⟩ (H.go (ex 5 (by decide) (by decide)) (ex 9 (by decide) (by decide)) fun y hy hz => ⟨List.mem_append_right _ hy, hz⟩)
      · rw [List.length_append, hL.1]; rfl
      · intro a ha
        rcases List.mem_append.mp ha with ha | ha
        · exact ((kp_app _).log hL).2 a ha
        · obtain rfl := List.mem_singleton.mp ha
          refine ⟨_, rfl, ?_⟩
          rw [← hxe]
          exact g1.int (i := 0) rfl rfl
  · rename_i hxe
    have h7 := runC_le e
    have hP : ∀ ρ' : Nat → Addr, Ps ([stepP ((s0 : Int) + 1), pushP (pendL q), stepP ((s0 : Int) + 1 + 1), stepP ((s0 : Int) + 1 + 1 + 1), msg.length < 2 ^ 62, ¬ (msg.length : Int) - (x : Int) = 0] ++ popP (pendL q) (.ref (ws.n v + 1)) ++ [stepP ((s0 : Int) + 1 + 1 + 1 + 1), stepP ((s0 : Int) + 1 + 1 + 1 + 1 + 1)]) := fun _ => by
      have h5 : stepP ((s0 : Int) + 1 + 1 + 1 + 1 + 1) := by unfold stepP; lia
      exact Ps.app (Ps.app ⟨sd (sd (sd (sd h5))), pushP_ok hp, sd (sd (sd h5)), sd (sd h5), hm62, by lia, trivial⟩ (popP_ok hp)) ⟨sd h5, h5, trivial⟩
    refine run_turn S O B (hev := fun ρ' => tH1 v ws w.params ρ' msg (pendL q) x V ve s0 lg) (fun ρ' _ => hP ρ') hclR (rr.mus (fun _ _ h => h) _ _) fun ρ' h' tk f X g1 g2 => ?_
    have ex : ∀ j, 5 ≤ j → j < 13 → ρ' ((ksN v ws).getD j 0) = ρ j := fun j h5 h13 => by rw [ksN_at _ _ _ h5 h13]; exact X.2 j (mSt_lt h13)
    rw [hL.con.ren, (pendL_con q).ren, show ((s0 : Int) + 1 + 1 + 1 + 1 + 1) = ((s0 + 5 : Nat) : Int) from rfl] at g2
    have z1 := (kp_app (([ws.n v + 3, ws.n v + 4] : List Nat).map (fun l => (ρ' l, f l)))).nmd hN
    have z2 := hS.app (([ws.n v + 3, ws.n v + 4] : List Nat).map (fun l => (ρ' l, f l)))
    rw [← ex 11 (by decide) (by decide)] at z1 z2
    rw [← ex 8 (by decide) (by decide)] at z2
    exact IH (fc := { fc with rest := ([ws.n v + 3, ws.n v + 4] : List Nat).map (fun l => (ρ' l, f l)) ++ fc.rest }) (ρ := fun j => ρ' ((ksN v ws).getD j 0)) (s := { s with heap := h', toks := tk }) (q := q) e ht (by lia) (by lia) (O.rst _) B
      ⟨k_pos ws, V, _, g2, z1, ⟨_, g1.int (i := 1) rfl rfl, g1.int (i := 0) rfl rfl⟩, hx⟩ z2 hE ((kp_app _).log hL) (H.go (ex 5 (by decide) (by decide)) (ex 9 (by decide) (by decide)) fun y hy hz => ⟨List.mem_append_right _ hy, hz⟩)
set_option tactic.hygienic true in
theorem simTr (S : Snd prog w K p loose mean mg mb 900 200 (evs (T2 w.params) 200)) {v : Bool} {ws : Ws} {msg : Nm} (hmsg : msg.length ≤ 1000) (hws : ∀ u ∈ ws.l, u ≠ [] ∧ u.length ≤ 100) {Q : Flow → Shared → Prop} {n : Nat}
    (IH : ∀ {cf : Cf} {q : List Wt} {s0 h0 t h1 : Nat} {r : Rs} {fc : FC} {ρ : Nat → Addr} {s : Shared} {ve : Option Int} {lg : List AV} {k : Nat}, runC v ws msg n cf (q.map (·.e)) s0 h0 = some (r, t, h1) → t ≤ 9999 → q.length + (t - s0) ≤ 20000 → lg.length + (t - s0) ≤ 20000 →
    FrOk K p loose mean mg mb fiRun fc → Room2 900 200 fc.A → CfR w fc ρ v ws msg q ve s0 lg s.heap cf → Stk w.params fc.rest (ρ 8) (ρ 11) q → (∀ z ∈ q, z.e.i < ws.k ∧ z.e.x ≤ msg.length) → LogE w.params fc.rest msg.length lg h0 → EndR w fc ρ msg q t h1 Q s r → MGo prog w fc Q k s)
    {i x : Nat} {nm : List Nm} {q : List Wt} {s0 h0 t h1 : Nat} {r : Rs} {fc : FC} {ρ : Nat → Addr} {s : Shared} {ve : Option Int} {lg : List AV} {k : Nat}
    (e : runC v ws msg (n + 1) (.tr i x nm) (q.map (·.e)) s0 h0 = some (r, t, h1)) (ht : t ≤ 9999) (hq : q.length + (t - s0) ≤ 20000) (hl : lg.length + (t - s0) ≤ 20000) (O : FrOk K p loose mean mg mb fiRun fc) (B : Room2 900 200 fc.A) (hc : CfR w fc ρ v ws msg q ve s0 lg s.heap (.tr i x nm)) (hS : Stk w.params fc.rest (ρ 8) (ρ 11) q) (hE : (∀ z ∈ q, z.e.i < ws.k ∧ z.e.x ≤ msg.length)) (hL : LogE w.params fc.rest msg.length lg h0) (H : EndR w fc ρ msg q t h1 Q s r) : MGo prog w fc Q k s := by
  obtain ⟨hi, V, m, rr, hN, ⟨m1, hM1, hM2⟩, hx⟩ := hc
  have hlt := runC_le e
  have hpl := pendL_len q
  have hp : (pendL q).length ≤ 100000 := by lia
  have hm62 : msg.length < 2 ^ 62 := by lia
  have hn := Ws.n_ge v ws
  obtain ⟨hw0, hw1⟩ := hws _ (getD_mem hi)
  unfold runC at e
  split at e
  · rename_i hm
    have hfit := fit_le hm hw0
    have hend : endI (ws.l.getD i []) x = ((x + (ws.l.getD i []).length : Nat) : Int) := by unfold endI; lia
    have hseg : seg msg x (endI (ws.l.getD i []) x) = ws.l.getD i [] := (seg_nat _ _ _).trans hm
    split at e
    · rename_i hk
      have h7 := runC_le e
      have hP : ∀ ρ' : Nat → Addr, Ps ([stepP ((s0 : Int) + 1), pushP (pendL q), stepP ((s0 : Int) + 1 + 1)] ++ onP msg (ws.l.getD i []) x ++ [seg msg x (endI (ws.l.getD i []) x) = ws.l.getD i [], stepP ((s0 : Int) + 1 + 1 + 1)] ++ nmP (immOf w.params fc.rest) msg (ws.l.getD i []) x m m1 ((s0 : Int) + 1 + 1 + 1 + 1)) := fun _ => by
        have h3 : stepP ((s0 : Int) + 1 + 1 + 1) := by unfold stepP; lia
        exact Ps.app (Ps.app (Ps.app ⟨sd (sd h3), pushP_ok hp, sd h3, trivial⟩ (onP_ok hw1 hx hmsg)) ⟨hseg, h3, trivial⟩) (nmP_ok hw1 hw0 hx hmsg (by lia) hM1 hM2)
      refine run_turn S O B (hev := fun ρ' => tY v ws i hk w.params ρ' (immOf w.params fc.rest) msg (pendL q) x V m m1 ve s0 lg) (fun ρ' _ => hP ρ') hclR (rr.imms.mus (fun _ _ h => h) _ _) fun ρ' h' tk f X g1 g2 => ?_
      have ex : ∀ j, j < 13 → ρ' ((ksI v ws).getD j 0) = ρ j := fun j h13 => by rw [ksI_at _ _ _ h13]; exact X.2 j (wSt_lt h13)
      have e11 : ρ' 11 = ρ 11 := by rw [← ex 11 (by decide), ksI_at _ _ _ (by decide)]
      have e8 : ρ' 8 = ρ 8 := by rw [← ex 8 (by decide), ksI_at _ _ _ (by decide)]
      have hq' : absorb (renL ρ' (ksI v ws) (pendL q)) [.con (.ref (ρ' (ws.n v + 1)))] = pendL (⟨ρ' (ws.n v + 1), ρ' (ws.n v), ⟨i + 1, x, nm⟩⟩ :: q) := by
        rw [absorb_eq, (pendL_con q).ren, pendL_cons]
      rw [hL.con.ren, hq', hend, show ((s0 : Int) + 1 + 1 + 1 + 1 + 1 + 1) = ((s0 + 6 : Nat) : Int) from rfl] at g2
      have kp := kp_app (P := w.params) (rest := fc.rest) (([ws.n v, ws.n v + 1, ws.n v + 4, ws.n v + 5] : List Nat).map (fun l => (ρ' l, f l)))
      have z1 := kp.nmd hN
      have z2 := hS.app (([ws.n v, ws.n v + 1, ws.n v + 4, ws.n v + 5] : List Nat).map (fun l => (ρ' l, f l)))
      have fr := (g1.new 0 (ws.n v) _ rfl rfl).1
      have t4 := g1.int (i := 2) (rest := fc.rest) rfl rfl
      have t5 := g1.int (i := 3) (rest := fc.rest) rfl rfl
      have gd := g1.rep 0 (ws.n v) _ rfl rfl
      have gi : f (ws.n v + 1) = instObj CW (ρ' (ws.n v)) := g1.rep 1 (ws.n v + 1) _ rfl rfl
      rw [hseg, e11] at t4
      rw [e8] at gd
      have mem : ∀ l, l ∈ ([ws.n v, ws.n v + 1, ws.n v + 4, ws.n v + 5] : List Nat) → (ρ' l, f l) ∈ ([ws.n v, ws.n v + 1, ws.n v + 4, ws.n v + 5] : List Nat).map (fun l => (ρ' l, f l)) ++ fc.rest := fun l hl => List.mem_append_left _ (List.mem_map.mpr ⟨l, hl, rfl⟩)
      have hS' : Stk w.params (([ws.n v, ws.n v + 1, ws.n v + 4, ws.n v + 5] : List Nat).map (fun l => (ρ' l, f l)) ++ fc.rest) (ρ 8) (ρ 11) (⟨ρ' (ws.n v + 1), ρ' (ws.n v), ⟨i + 1, x, nm⟩⟩ :: q) := by
        refine ⟨fun z hz => ?_, List.nodup_cons.mpr ⟨fun hz => ?_, z2.2⟩⟩
        · rcases List.mem_cons.mp hz with rfl | hz
          · exact ⟨by rw [← gi]; exact mem _ (.tail _ (.head _)), V, m, _, mem _ (.head _), gd, kp.mk ⟨m1, hM1, hM2⟩, z1⟩
          · exact z2.1 z hz
        · obtain ⟨z, hz, ez⟩ := List.mem_map.mp hz
          obtain ⟨_, _, _, o, ho, _⟩ := hS.1 z hz
          exact fr _ ho ez
      have z3 : Nmd w.params (([ws.n v, ws.n v + 1, ws.n v + 4, ws.n v + 5] : List Nat).map (fun l => (ρ' l, f l)) ++ fc.rest) (ρ 11) (.ref (ρ' (ws.n v + 5))) (ws.l.getD i [] :: nm) := ⟨_, _, _, rfl, t5, t4, z1⟩
      rw [← ex 11 (by decide)] at z3 hS'
      rw [← ex 8 (by decide)] at hS'
      exact IH (fc := { fc with rest := ([ws.n v, ws.n v + 1, ws.n v + 4, ws.n v + 5] : List Nat).map (fun l => (ρ' l, f l)) ++ fc.rest }) (ρ := fun j => ρ' ((ksI v ws).getD j 0)) (s := { s with heap := h', toks := tk }) (q := ⟨ρ' (ws.n v + 1), ρ' (ws.n v), ⟨i + 1, x, nm⟩⟩ :: q) e ht (by simp only [List.length_cons]; lia) (by lia) (O.rst _) B
        ⟨_, g2, z3, hfit⟩ hS' (fun z hz => by
          rcases List.mem_cons.mp hz with rfl | hz
          · exact ⟨hk, hx⟩
          · exact hE z hz) (kp.log hL) (H.go (ex 5 (by decide)) (ex 9 (by decide)) fun y hy hz => ⟨List.mem_append_right _ hy, fun z hz' => by
          rcases List.mem_cons.mp hz' with rfl | hz'
          · exact fr y hy
          · exact hz z hz'⟩)
    · rename_i hk
      have h7 := runC_le e
      obtain rfl : i = ws.k - 1 := by lia
      have hP : ∀ ρ' : Nat → Addr, Ps (stepP ((s0 : Int) + 1) :: (onP msg (ws.l.getD (ws.k - 1) []) x ++ [seg msg x (endI (ws.l.getD (ws.k - 1) []) x) = ws.l.getD (ws.k - 1) []] ++ nmP (immOf w.params fc.rest) msg (ws.l.getD (ws.k - 1) []) x m m1 ((s0 : Int) + 1 + 1))) := fun _ =>
        ⟨by unfold stepP; lia, Ps.app (Ps.app (onP_ok hw1 hx hmsg) ⟨hseg, trivial⟩) (nmP_ok hw1 hw0 hx hmsg (by lia) hM1 hM2)⟩
      refine run_turn S O B (hev := fun ρ' => tYk v ws w.params ρ' (immOf w.params fc.rest) msg (pendL q) x V m m1 ve s0 lg) (fun ρ' _ => hP ρ') hclR (rr.imms.mus (fun _ _ h => h) _ _) fun ρ' h' tk f X g1 g2 => ?_
      have ex : ∀ j, j < 13 → ρ' ((ksI v ws).getD j 0) = ρ j := fun j h13 => by rw [ksI_at _ _ _ h13]; exact X.2 j (wSt_lt h13)
      have e11 : ρ' 11 = ρ 11 := by rw [← ex 11 (by decide), ksI_at _ _ _ (by decide)]
      rw [hL.con.ren, (pendL_con q).ren, hend, show ((s0 : Int) + 1 + 1 + 1 + 1) = ((s0 + 4 : Nat) : Int) from rfl] at g2
      have kp := kp_app (P := w.params) (rest := fc.rest) (([ws.n v + 2, ws.n v + 3] : List Nat).map (fun l => (ρ' l, f l)))
      have z2 := hS.app (([ws.n v + 2, ws.n v + 3] : List Nat).map (fun l => (ρ' l, f l)))
      have t4 := g1.int (i := 0) (rest := fc.rest) rfl rfl
      have t5 := g1.int (i := 1) (rest := fc.rest) rfl rfl
      rw [hseg, e11] at t4
      have z3 : Nmd w.params (([ws.n v + 2, ws.n v + 3] : List Nat).map (fun l => (ρ' l, f l)) ++ fc.rest) (ρ 11) (.ref (ρ' (ws.n v + 3))) (ws.l.getD (ws.k - 1) [] :: nm) := ⟨_, _, _, rfl, t5, t4, kp.nmd hN⟩
      rw [← ex 11 (by decide)] at z3 z2
      rw [← ex 8 (by decide)] at z2
      exact IH (fc := { fc with rest := ([ws.n v + 2, ws.n v + 3] : List Nat).map (fun l => (ρ' l, f l)) ++ fc.rest }) (ρ := fun j => ρ' ((ksI v ws).getD j 0)) (s := { s with heap := h', toks := tk }) (q := q) e ht (by lia) (by lia) (O.rst _) B
        ⟨_, g2, z3, hfit⟩ z2 hE (kp.log hL) (H.go (ex 5 (by decide)) (ex 9 (by decide)) fun y hy hz => ⟨List.mem_append_right _ hy, hz⟩)
  · rename_i hm
    have hseg : ¬ seg msg x (endI (ws.l.getD i []) x) = ws.l.getD i [] := fun z => hm ((seg_nat _ _ _).symm.trans z)
    split at e
    · rename_i hk
      have h7 := runC_le e
      have hP : ∀ ρ' : Nat → Addr, Ps ([stepP ((s0 : Int) + 1), pushP (pendL q), stepP ((s0 : Int) + 1 + 1)] ++ onP msg (ws.l.getD i []) x ++ [¬ seg msg x (endI (ws.l.getD i []) x) = ws.l.getD i []] ++ popP (pendL q) (.ref (ws.n v + 1))) := fun _ => by
        have h2 : stepP ((s0 : Int) + 1 + 1) := by unfold stepP; lia
        exact Ps.app (Ps.app (Ps.app ⟨sd h2, pushP_ok hp, h2, trivial⟩ (onP_ok hw1 hx hmsg)) ⟨hseg, trivial⟩) (popP_ok hp)
      refine run_turn S O B (hev := fun ρ' => tN v ws i hk w.params ρ' msg (pendL q) x V m ve s0 lg) (fun ρ' _ => hP ρ') hclR (rr.mus (fun _ _ h => h) _ _) fun ρ' h' tk f X g1 g2 => ?_
      have ex : ∀ j, 5 ≤ j → j < 13 → ρ' ((ksN v ws).getD j 0) = ρ j := fun j h5 h13 => by rw [ksN_at _ _ _ h5 h13]; exact X.2 j (mSt_lt h13)
      rw [hL.con.ren, (pendL_con q).ren, show ((s0 : Int) + 1 + 1) = ((s0 + 2 : Nat) : Int) from rfl] at g2
      have z1 := hN
      have z2 := hS
      rw [← ex 11 (by decide) (by decide)] at z1 z2
      rw [← ex 8 (by decide) (by decide)] at z2
      exact IH (fc := fc) (ρ := fun j => ρ' ((ksN v ws).getD j 0)) (s := { s with heap := h', toks := tk }) (q := q) e ht (by lia) (by lia) O B
        ⟨hk, V, m, g2, z1, ⟨m1, hM1, hM2⟩, hx⟩ z2 hE hL (H.go (ex 5 (by decide) (by decide)) (ex 9 (by decide) (by decide)) fun y hy hz => ⟨hy, hz⟩)
    · rename_i hk
      obtain rfl : i = ws.k - 1 := by lia
      have hP0 : Ps (stepP ((s0 : Int) + 1) :: (onP msg (ws.l.getD (ws.k - 1) []) x ++ [¬ seg msg x (endI (ws.l.getD (ws.k - 1) []) x) = ws.l.getD (ws.k - 1) []])) := ⟨by unfold stepP; lia, Ps.app (onP_ok hw1 hx hmsg) ⟨hseg, trivial⟩⟩
      cases q with
      | nil =>
        cases e
        have hP : Ps (stepP ((s0 : Int) + 1) :: (onP msg (ws.l.getD (ws.k - 1) []) x ++ [¬ seg msg x (endI (ws.l.getD (ws.k - 1) []) x) = ws.l.getD (ws.k - 1) []] ++ endP)) := ⟨hP0.1, Ps.app hP0.2 ⟨by simp [itm], by simp, trivial⟩⟩
        have hev := fun ρ' => tE v ws w.params ρ' msg x V m ve s0 lg
        have r1 := rr.mus (fun _ _ h => h) [0, 0, 0] []
        obtain ⟨st1, P1, e1, hP1, _⟩ := anew (w := w) (fc := fc) (fi := fiRun) (h' := s.heap) (hev ρ) hP hclR
        refine whEnd_sound S O B e1 hP1 r1 fun ρ' h' tk vv X r' qq => ?_
        obtain ⟨st2, P2, e2, _, g⟩ := anew (w := w) (fc := fc) (fi := fiRun) (h' := h') (hev ρ') hP hclR
        rw [e1] at e2
        cases e2
        obtain ⟨f, g1, g2⟩ := g r'
        obtain ⟨v', rfl, rv⟩ := qq
        obtain ⟨_, rfl⟩ := rv
        rw [hL.con.ren] at g2
        have e5 : ρ' 5 = ρ 5 := X.2 5 (mSt_lt (by decide))
        have e9 : ρ' 9 = ρ 9 := X.2 9 (mSt_lt (by decide))
        exact H _ h' tk _ lg ve e5 e9 g2 ((kp_app _).log hL) fun y hy _ => List.mem_append_right _ hy
      | cons z q =>
        have h7 := runC_le e
        simp only [List.length_cons] at hq
        have hpl' := pendL_len q
        obtain ⟨ρ1, U, m', o, ho, hro, hMk, hNd, r1, hρ1⟩ := impE (or := [0, 0, 1]) rr (hS.1 z (.head _))
        have hP : ∀ ρ' : Nat → Addr, Ps (stepP ((s0 : Int) + 1) :: (onP msg (ws.l.getD (ws.k - 1) []) x ++ [¬ seg msg x (endI (ws.l.getD (ws.k - 1) []) x) = ws.l.getD (ws.k - 1) []] ++ popP (pendL q) (.ref (ws.n v + 1)))) := fun _ => ⟨hP0.1, Ps.app hP0.2 (popP_ok (by lia))⟩
        refine run_turn (fc := { fc with rest := dropA fc.rest z.ad }) S (O.rst _) B (hev := fun ρ' => tNk v ws w.params ρ' msg (pendL q) x V m ve s0 lg z.e.i z.e.x U m') (fun ρ' _ => hP ρ') hclR r1 fun ρ' h' tk f X g1 g2 => ?_
        have ex : ∀ j, 5 ≤ j → j < 13 → ρ' ((ksN v ws).getD j 0) = ρ j := fun j h5 h13 => by rw [ksN_at _ _ _ h5 h13, X.2 j (mSt_lt h13)]; exact hρ1 j (by lia)
        rw [hL.con.ren, (pendL_con q).ren, show ((s0 : Int) + 1) = ((s0 + 1 : Nat) : Int) from rfl] at g2
        have kp : Kp w.params fc.rest (dropA fc.rest z.ad) := fun c l t => t.drop rr ho hro
        have nd := List.nodup_cons.mp hS.2
        have z2 : Stk w.params (dropA fc.rest z.ad) (ρ 8) (ρ 11) q := by
          refine ⟨fun y hy => (hS.1 y (.tail _ hy)).kp kp (fun o' hm' => dropA_mem.mpr ⟨hm', fun q' => ?_⟩) fun o' hm' => dropA_mem.mpr ⟨hm', fun q' => nd.1 (List.mem_map.mpr ⟨y, hy, q'⟩)⟩, nd.2⟩
          have q' : y.ai = z.ad := q'
          have a1 := rr.get? (hS.1 y (.tail _ hy)).1
          have a2 := rr.get? ho
          rw [q', a2] at a1
          obtain rfl := Option.some.inj a1
          obtain ⟨ds, kk, ee, _⟩ := hro
          exact nomatch (congrArg Obj.data ee : (instObj CW y.ad).data = _)
        have z1 := kp.nmd hNd
        rw [← ex 11 (by decide) (by decide)] at z1 z2
        rw [← ex 8 (by decide) (by decide)] at z2
        obtain ⟨b1, b2⟩ := hE z (.head _)
        exact IH (fc := { fc with rest := dropA fc.rest z.ad }) (ρ := fun j => ρ' ((ksN v ws).getD j 0)) (s := { s with heap := h', toks := tk }) (q := q) e ht (by lia) (by lia) (O.rst _) B
          ⟨b1, U, m', g2, z1, kp.mk hMk, b2⟩ z2 (fun y hy => hE y (.tail _ hy)) (kp.log hL) (H.go (ex 5 (by decide) (by decide)) (ex 9 (by decide) (by decide)) fun y hy hz => ⟨dropA_mem.mpr ⟨hy, hz z (.head _)⟩, fun y' hy' => hz y' (.tail _ hy')⟩)
/-- the machine does what the plain one does -/
theorem simC (S : Snd prog w K p loose mean mg mb 900 200 (evs (T2 w.params) 200)) {v : Bool} {ws : Ws} {msg : Nm} (hmsg : msg.length ≤ 1000) (hws : ∀ u ∈ ws.l, u ≠ [] ∧ u.length ≤ 100) {Q : Flow → Shared → Prop} :
    ∀ (n : Nat) {cf : Cf} {q : List Wt} {s0 h0 t h1 : Nat} {r : Rs} {fc : FC} {ρ : Nat → Addr} {s : Shared} {ve : Option Int} {lg : List AV} {k : Nat}, runC v ws msg n cf (q.map (·.e)) s0 h0 = some (r, t, h1) → t ≤ 9999 → q.length + (t - s0) ≤ 20000 → lg.length + (t - s0) ≤ 20000 →
    FrOk K p loose mean mg mb fiRun fc → Room2 900 200 fc.A → CfR w fc ρ v ws msg q ve s0 lg s.heap cf → Stk w.params fc.rest (ρ 8) (ρ 11) q → (∀ z ∈ q, z.e.i < ws.k ∧ z.e.x ≤ msg.length) → LogE w.params fc.rest msg.length lg h0 → EndR w fc ρ msg q t h1 Q s r → MGo prog w fc Q k s := by
  intro n
  induction n with
  | zero => intro _ _ _ _ _ _ _ _ _ _ _ _ _ e; exact nn e
  | succ n ih =>
    intro cf
    induction cf using Cf.casesOn with
    | hd => exact simHd S hmsg hws ih
    | tr => exact simTr S hmsg hws ih
end
end Mine
namespace Mine
open PySem PySem.W PyProof.Rows PySem.Calls PySem.Spec
noncomputable def hdS : List Stmt → Stmt
  | s :: _ => s
  | _ => default
noncomputable def tlS : List Stmt → List Stmt
  | _ :: r => r
  | _ => []
noncomputable def takeS : Nat → List Stmt → List Stmt
  | 0, _ => []
  | _, [] => []
  | n + 1, s :: r => s :: takeS n r
noncomputable def dropS : Nat → List Stmt → List Stmt
  | 0, l => l
  | _, [] => []
  | n + 1, _ :: r => dropS n r
noncomputable def rtE (s : Stmt) : Expr := nthE 0 (kS s)
noncomputable def tupE (e : Expr) : List Expr := kEs e
noncomputable def hdE (l : List Expr) : Expr := nthE 0 l
noncomputable def caA (e : Expr) : List Expr := (kEs e).tail
noncomputable def caF (e : Expr) : Expr := nthE 0 (kEs e)
noncomputable def caX : Expr → Nm
  | .Name x _ => nm x
  | _ => []
noncomputable def atO (e : Expr) : Expr := nthE 0 (kEs e)
noncomputable def forI (s : Stmt) : Expr := nthE 1 (kS s)
noncomputable def forB (s : Stmt) : List Stmt := nthB 0 (bS s)
noncomputable def forT (s : Stmt) : Expr := nthE 0 (kS s)
noncomputable def asV (s : Stmt) : Expr := nthE 0 (kS s)
noncomputable def asT (s : Stmt) : Expr := nthE 1 (kS s)
noncomputable def evT (P : Params) : Evs := evs (T2 P) 200
/-! what came of a piece that is reckoned out -/
noncomputable def rrA {α : Type} (d : α) : Rr α → α
  | some (a, _, _) => a
  | none => d
noncomputable def rrS {α : Type} (r : Rr α) : St := match r with
  | some (_, st, _) => st
  | none => mkS0 [] [] [] []
noncomputable def okR {α : Type} (r : Rr α) : Bool := match r with
  | some (_, _, []) => true
  | _ => false
theorem okR_eq {α : Type} (d : α) {r : Rr α} (h : okR r = true) : r = some (rrA d r, rrS r, []) := by
  unfold okR at h
  split at h
  · rfl
  · cases h
/-! up to the machine's loop -/
noncomputable def nWords : Nm := [119, 111, 114, 100, 115]
noncomputable def nMessage : Nm := [109, 101, 115, 115, 97, 103, 101]
noncomputable def nLast : Nm := [108, 97, 115, 116]
noncomputable def nBegin : Nm := [98, 101, 103, 105, 110]
noncomputable def fiM : FI := ⟨(fnx 612).sc, [], true, none⟩
noncomputable def fiMC : FI := ⟨(fnx 551).sc, [], true, none⟩
noncomputable def fiMO : FI := ⟨(fnx 544).sc, [], true, none⟩
noncomputable def lastAO (v : Bool) : List AO := match v with
  | false => [.tup [.txt tChars, .txt []]]
  | true => refAO 1 kE ++ [.tup [.txt tCursor, .ref 1], .tup [.txt tFail], .tup [.txt tCat, .ref 3, .ref 4]]
noncomputable def lastL (v : Bool) : Nat := match v with
  | false => 1
  | true => 5
noncomputable def metMu (v : Bool) (msg : Nm) : List (Nm × AV) := [(nWords, .ref 0), (nMessage, .str msg), (nLast, .ref (lastL v))]
noncomputable def metS (v : Bool) (ws : Ws) (msg : Nm) : St := mkS0 (metMu v msg) ([.list none (ws.l.map .str)] ++ lastAO v) [] []
noncomputable def metB : List Stmt := (fnx 612).body
noncomputable def callX : Expr := hdE (tupE (rtE (hdS (dropS 4 metB))))
noncomputable def mcE : Expr := rtE (hdS (fnx 551).body)
noncomputable def moB : List Stmt := (fnx 544).body
noncomputable def moL : List Stmt := forB (hdS moB)
noncomputable def moV : Expr := asV (hdS moL)
noncomputable def runB0 : Stmt := hdS (fnx 474).body
noncomputable def withMu (mu : List (Nm × AV)) (st : St) : St := { st with mu := mu }
noncomputable def muOf (f : Nat) (vs : List AV) : List (Nm × AV) := match zipP (fnx f).ps vs with
  | some mu => mu
  | none => []
noncomputable def Ws.ordsX (X : Nat) : Ws → List AO
  | .w1 a => [.tup [.txt tSplit, .num 2], .tup [.txt tJump, .num 8], .tup [.txt tMark], .tup [.txt tMark], oneT a, .tup [.txt tName, .ref X], .tup [.txt tGain], .tup [.txt tJump, .num 0], .tup [.txt tOne, .txt tRpos, .num 0]]
  | .w2 a b => [.tup [.txt tSplit, .num 2], .tup [.txt tJump, .num 11], .tup [.txt tMark], .tup [.txt tMark], .tup [.txt tSplit, .num 7], oneT a, .tup [.txt tJump, .num 8], oneT b, .tup [.txt tName, .ref X], .tup [.txt tGain], .tup [.txt tJump, .num 0],
      .tup [.txt tOne, .txt tRpos, .num 0]]
  | .w3 a b c => [.tup [.txt tSplit, .num 2], .tup [.txt tJump, .num 14], .tup [.txt tMark], .tup [.txt tMark], .tup [.txt tSplit, .num 7], oneT a, .tup [.txt tJump, .num 11], .tup [.txt tSplit, .num 10], oneT b, .tup [.txt tJump, .num 11], oneT c,
      .tup [.txt tName, .ref X], .tup [.txt tGain], .tup [.txt tJump, .num 0], .tup [.txt tOne, .txt tRpos, .num 0]]
noncomputable def nAnch : Nm := [105, 115, 95, 97, 110, 99, 104, 111, 114, 101, 100]
/-- what match_orders starts with -/
noncomputable def moAO (v : Bool) (ws : Ws) : List AO :=
  [.inst CH 1, .dict [(cValues, .ref 2), (cLimit, .num 9999), (cRefused, .ref 5), (cWidth, .num 64), (cSteps, .num 0), (cLog, .ref 4)], .tab [], .list none (refL 8 (ws.m + tailN v)), .list none [], .list none []] ++ refAO 6 kX ++ ws.ordsX 6 ++ tailAO v (8 + ws.m)
noncomputable def moMu (msg : Nm) : List (Nm × AV) := [(cOrders, .ref 3), (cSubject, .str msg), (nAnch, .bool true), (cHost, .ref 0)]
noncomputable def cMO (v : Bool) (ws : Ws) (msg : Nm) : St := mkS0 (moMu msg) (moAO v ws) [] []
section
variable (P : Params) (v : Bool) (ws : Ws) (msg : Nm)
noncomputable def rM0 : Rr AFl := (evT P).ss fiM (takeS 4 metB) (metS v ws msg)
noncomputable def rM1 : Rr (List AV) := argsE (evT P) fiM (caA callX) (rrS (rM0 P v ws msg))
noncomputable def vM1 : List AV := rrA [] (rM1 P v ws msg)
noncomputable def sM1 : St := withMu (muOf 551 (vM1 P v ws msg)) (rrS (rM1 P v ws msg))
noncomputable def rM2 : Rr (List AV) := argsE (evT P) fiMC (caA mcE) (sM1 P v ws msg)
noncomputable def vM2 : List AV := rrA [] (rM2 P v ws msg)
noncomputable def sM2 : St := withMu (muOf 544 (vM2 P v ws msg)) (rrS (rM2 P v ws msg))
end
section
variable (P : Params) (v : Bool) (ws : Ws) (msg : Nm)
noncomputable def rM3 : Rr AV := startFr (evT P) fiMO (forI (hdS moB)) (cMO v ws msg)
noncomputable def kM3 : Nat := match rM3 P v ws msg with
  | some (.ref k, _, _) => k
  | _ => 0
noncomputable def rM4 : Rr Bool := turnA (evT P) fiMO (forT (hdS moB)) (kM3 P v ws msg) (rrS (rM3 P v ws msg))
noncomputable def rM5 : Rr AV := (evT P).e fiMO (atO (caF moV)) (rrS (rM4 P v ws msg))
noncomputable def rM6 : Rr (List AV) := argsE (evT P) fiMO (caA moV) (rrS (rM5 P v ws msg))
noncomputable def aM5 : AV := rrA .none (rM5 P v ws msg)
noncomputable def vM6 : List AV := aM5 P v ws msg :: rrA [] (rM6 P v ws msg)
noncomputable def sM6 : St := withMu (muOf 474 (vM6 P v ws msg)) (rrS (rM6 P v ws msg))
noncomputable def rM7 : Rr AFl := (evT P).s fiRun runB0 (sM6 P v ws msg)
end
end Mine
namespace Mine
open PySem PySem.W PyProof.Rows PySem.Calls PySem.Spec
/-- where things stand when the pattern is compiled -/
noncomputable def ksC (v : Bool) (ws : Ws) : List Nat := match ws, v with
  | .w1 _, false => [12, 11, 9, 61, 13, 10, 6, 5, 64, 66, 35, 46, 52, 48, 37, 73, 57, 60]
  | .w1 _, true => [16, 15, 13, 74, 17, 14, 10, 9, 77, 79, 42, 53, 59, 55, 44, 86, 64, 67, 70, 73, 1, 2]
  | .w2 _ _, false => [14, 13, 11, 88, 15, 12, 8, 7, 91, 93, 37, 48, 97, 73, 100, 77, 50, 39, 105, 84, 87]
  | .w2 _ _, true => [18, 17, 15, 101, 19, 16, 12, 11, 104, 106, 44, 55, 110, 80, 113, 84, 57, 46, 118, 91, 94, 97, 100, 1, 2]
  | .w3 _ _ _, false => [16, 15, 13, 100, 17, 14, 10, 9, 103, 105, 39, 50, 109, 80, 112, 114, 84, 117, 88, 52, 41, 122, 96, 99]
  | .w3 _ _ _, true => [20, 19, 17, 113, 21, 18, 14, 13, 116, 118, 46, 57, 122, 87, 125, 127, 91, 130, 95, 59, 48, 135, 103, 106, 109, 112, 1, 2]
noncomputable def Ws.nC (v : Bool) (ws : Ws) : Nat := 8 + ws.m + tailC v
noncomputable def ksS (v : Bool) (ws : Ws) : List Nat := [ws.nC v + 3, ws.nC v + 2, ws.nC v + 4, ws.nC v + 6, ws.nC v + 5, 0, 1, 2, 3, 4, 5, 6, 7] ++ upN 8 (ws.m + tailC v)
noncomputable def kIt (v : Bool) (ws : Ws) : Nat := ws.nC v + 1
noncomputable def hdRaw : AO := .dict [(cValues, .ref 7), (cLimit, .num 9999), (cRefused, .ref 10), (cWidth, .num 64), (cSteps, .num 0), (cLog, .ref 9)]
noncomputable def mRaw (v : Bool) (ws : Ws) (msg : Nm) : St := setO 2 (.list none []) (setO 4 (.dict (wayD (.ref 8) (.num 0) (.num 0) .none .none .none)) (setO 6 hdRaw (setO 9 (.list none []) (mSt v ws msg [] [] (.num 0) (.int 0) (.con .none) .none none 0 [] [] [] []))))
section
variable (P : Params) (v : Bool) (ws : Ws) (msg : Nm)
set_option tactic.hygienic true in
theorem okM0 : rM0 P v ws msg = some (.next, rrS (rM0 P v ws msg), []) := by cases ws <;> cases v <;> kernel_rfl
theorem okM1 : rM1 P v ws msg = some (vM1 P v ws msg, rrS (rM1 P v ws msg), []) := by cases ws <;> cases v <;> kernel_rfl
theorem okTwo (ρ : Nat → Addr) : (rM2 P v ws msg, zipP (fnx 544).ps (vM2 P v ws msg), outc ρ (ksC v ws) [0] [cOrders, cSubject, nAnch, cHost] (ret () (sM2 P v ws msg)), (look cHost (rrS (rM1 P v ws msg)).mu, Nat.blt ((ksC v ws).getD 0 0) (rrS (rM1 P v ws msg)).n, Nat.blt 0 (metS v ws msg).n, Nat.ble (metS v ws msg).n (rrS (rM0 P v ws msg)).n, Nat.ble (rrS (rM0 P v ws msg)).n (rrS (rM1 P v ws msg)).n, Nat.ble (rrS (rM1 P v ws msg)).n (rrS (rM2 P v ws msg)).n)) = (some (vM2 P v ws msg, rrS (rM2 P v ws msg), []), some (muOf 544 (vM2 P v ws msg)), some (cMO v ws msg, [.mu (.list none (ws.l.map .str))], (), []), (some (.ref ((ksC v ws).getD 0 0)), true, true, true, true, true)) := by cases ws <;> cases v <;> kernel_rfl
theorem okM2 : rM2 P v ws msg = some (vM2 P v ws msg, rrS (rM2 P v ws msg), []) := (Prod.mk.inj (okTwo P v ws msg fun _ => 0)).1
theorem zM1 : zipP (fnx 551).ps (vM1 P v ws msg) = some (muOf 551 (vM1 P v ws msg)) := by cases ws <;> cases v <;> kernel_rfl
theorem zM2 : zipP (fnx 544).ps (vM2 P v ws msg) = some (muOf 544 (vM2 P v ws msg)) := (Prod.mk.inj (Prod.mk.inj (okTwo P v ws msg fun _ => 0)).2).1
theorem okC (ρ : Nat → Addr) : outc ρ (ksC v ws) [0] [cOrders, cSubject, nAnch, cHost] (ret () (sM2 P v ws msg)) = some (cMO v ws msg, [.mu (.list none (ws.l.map .str))], (), []) := (Prod.mk.inj (Prod.mk.inj (Prod.mk.inj (okTwo P v ws msg ρ)).2).2).1
theorem metC_host : (look cHost (rrS (rM1 P v ws msg)).mu, Nat.blt ((ksC v ws).getD 0 0) (rrS (rM1 P v ws msg)).n, Nat.blt 0 (metS v ws msg).n, Nat.ble (metS v ws msg).n (rrS (rM0 P v ws msg)).n, Nat.ble (rrS (rM0 P v ws msg)).n (rrS (rM1 P v ws msg)).n, Nat.ble (rrS (rM1 P v ws msg)).n (rrS (rM2 P v ws msg)).n) = (some (.ref ((ksC v ws).getD 0 0)), true, true, true, true, true) := (Prod.mk.inj (Prod.mk.inj (Prod.mk.inj (okTwo P v ws msg fun _ => 0)).2).2).2
theorem okM3 : rM3 P v ws msg = some (.ref (kIt v ws), rrS (rM3 P v ws msg), []) := by cases ws <;> cases v <;> kernel_rfl
theorem okM4 : rM4 P v ws msg = some (true, rrS (rM4 P v ws msg), []) := by cases ws <;> cases v <;> kernel_rfl
theorem okM5 : rM5 P v ws msg = some (.ref ((ksS v ws).getD 0 0), rrS (rM5 P v ws msg), []) := by cases ws <;> cases v <;> kernel_rfl
theorem okM6 : rM6 P v ws msg = some ([.ref ((ksS v ws).getD 8 0), .num 0], rrS (rM6 P v ws msg), []) := by cases ws <;> cases v <;> kernel_rfl
theorem okMe : meth (T2 P) (.ref ((ksS v ws).getD 0 0)) [114, 117, 110] (rrS (rM5 P v ws msg)) = some (.fn 474) := by cases ws <;> cases v <;> kernel_rfl
set_option tactic.hygienic true in
theorem okM7 (ρ : Nat → Addr) : outc ρ (ksS v ws) [kIt v ws] nsW (rM7 P v ws msg) = some (mRaw v ws msg, [.mu (.riter true 1 0)], .next, []) := by cases ws <;> cases v <;> kernel_rfl
end
end Mine
namespace Mine
open PySem PySem.W PyProof.Rows PySem.Calls PySem.Spec
section
variable {prog : Program} {w : World} {K : Frag} {p : Program} {loose : List Str} {mean : ExcName → Option Value} {mg mb : Str → Option Value} {T : PT} {D n : Nat} {I : Evs} {fi : FI} {fc : FC} {ρ : Nat → Addr} {st st' : St} {s : Shared}
set_option tactic.hygienic true in
/-- one turn whose body is told by hand, nothing seen anew -/
theorem fr_hand0 (S : Snd prog w K p loose mean mg mb D n I) (O : FrOk K p loose mean mg mb fi fc) (B : Room2 D n fc.A) {t : Expr} {k : Nat} {b : List Stmt} {Q : Flow → Shared → Prop} {st1 : St} {P : List Prop} (e : turnA I fi t k st = some (true, st1, P)) (hP : Ps P) (r : Rel w.params fi fc ρ st s.heap)
    (H : ∀ ρ' h' tk, Ext ρ st.n ρ' st1.n → Rel w.params fi fc ρ' st1 h' →
      wpAny (model prog w) fc.A (execs b fc.env) (fun f s' => match f with
        | .next => codeAny (model prog w) fc.A (.forLoop t (.ref (ρ k)) b [] fc.env) (fun r s' => match r with | .ok f => Q f s' | .error _ => False) s'
        | .cont => codeAny (model prog w) fc.A (.forLoop t (.ref (ρ k)) b [] fc.env) (fun r s' => match r with | .ok f => Q f s' | .error _ => False) s'
        | .brk => Q .next s'
        | .ret v => Q (.ret v) s') NoE { s with heap := h', toks := tk }) :
    codeAny (model prog w) fc.A (.forLoop t (.ref (ρ k)) b [] fc.env) (fun r s' => match r with | .ok f => Q f s' | .error _ => False) s := by
  refine bnd_el e hP fun o st2 P1 P2 h1 h2 hP1 hP2 => ?_
  refine forTurn_sound (nxt_sound O.hh h1 hP1 r fun h' tk o' r' ro hi => ?_)
  cases o with
  | none => have := (ret_some h2).1; cases this
  | some a =>
    cases o' with
    | none => exact ro.elim
    | some v =>
      have hn := nxt_n h1 hP1
      refine bnd_el h2 hP2 fun _ st3 P3 P4 h3 h4 hP3 hP4 => ?_
      obtain ⟨_, rfl, rfl⟩ := ret_some h4
      have ro : RepV ρ st2.n a v := by rw [hn]; exact ro
      refine owned_no (s := { s with heap := h', toks := tk }) r' (hi (by intro q; cases q)) ?_
      refine S.asg _ _ _ _ _ _ _ h3 hP3 O B ρ { s with heap := h', toks := tk } _ _ r' ro fun ρ1 h1' tk1 _ X1 r1 _ => ?_
      exact H ρ1 h1' tk1 (by rw [hn] at X1; exact X1) r1
/-- the start of a for loop, nothing seen anew -/
theorem for_hand0 (S : Snd prog w K p loose mean mg mb D n I) (O : FrOk K p loose mean mg mb fi fc) (B : Room2 D n fc.A) {t i : Expr} {k : Nat} {b : List Stmt} {pos : Pos} {Q : Flow → Shared → Prop} {st1 : St} {P : List Prop} (hi : plainIt i = true) (e : startFr I fi i st = some (.ref k, st1, P)) (hP : Ps P) (r : Rel w.params fi fc ρ st s.heap)
    (H : ∀ ρ' h' tk, Ext ρ st.n ρ' st1.n → Rel w.params fi fc ρ' st1 h' → codeAny (model prog w) fc.A (.forLoop t (.ref (ρ' k)) b [] fc.env) (fun r s' => match r with | .ok f => Q f s' | .error _ => False) { s with heap := h', toks := tk }) :
    wpAny (model prog w) fc.A (exec (.For t i b [] pos) fc.env) Q NoE s := by
  refine bnd_el e hP fun a st2 P1 P2 h1 h2 hP1 hP2 => ?_
  obtain ⟨l, rfl⟩ : ∃ l, a = .ref l := by clear h1; cases a <;> first | exact ⟨_, rfl⟩ | cases h2
  refine wpAny_For (S.e _ _ _ _ _ _ _ h1 hP1 O B ρ s _ r fun ρ1 h1' tk1 v X1 r1 q => ?_) (plain_folds hi fc.env)
  obtain ⟨hl1, rfl⟩ := q
  refine mkIt_sound (s := { s with heap := h1', toks := tk1 }) h2 r1 hl1 fun ρ2 h2' tk2 v2 X2 r2 q2 => ?_
  obtain ⟨_, rfl⟩ := q2
  refine codeAny_mono (H ρ2 h2' tk2 (X1.trans X2) r2) fun r s' hr => ?_
  cases r with
  | ok f => exact hr
  | error e => exact hr.elim
end
/-! the names of a match -/
noncomputable def nNamed : Nm := [110, 97, 109, 101, 100]
noncomputable def nFound : Nm := [102, 111, 117, 110, 100]
noncomputable def fiNR : FI := ⟨(fnx 537).sc, [], true, none⟩
noncomputable def nrB : List Stmt := (fnx 537).body
noncomputable def nrW : Stmt := hdS (dropS 1 nrB)
noncomputable def nrSt (V : AV) (ve : Option Int) (steps : Int) (lg : List AV) (a : AO) (or : List Nat) (ov : List AV) : St := mkS0 [(nNamed, V), (nFound, .ref 5)] (hAO ve steps lg [a]) or ov
theorem nr_turn (P : Params) (ρ : Nat → Addr) (im : Nat → List AV → Prop) (c d : Nat) (V : Value) (ve : Option Int) (steps : Int) (lg rows : List AV) :
    outc ρ (upN 0 6) [] [nNamed, nFound] (itWh (evT P) fiNR (whileT nrW) (whileB nrW) 1 (withImm (nrSt (.con (.ref c)) ve steps lg (.list (some rows) []) [] [.con V, .con (.ref d)]) im)) =
      some (nrSt (.con V) ve steps (renL ρ (upN 0 6) lg) (.list (some (absorb (renL ρ (upN 0 6) rows) [.con (.ref d)])) []) [] [], [], (), [im c [.con V, .con (.ref d)], (itm (some rows) []).length ≤ sizeLine]) := by cases ve <;> kernel_rfl
theorem nr_end (P : Params) (ρ : Nat → Addr) (ve : Option Int) (steps : Int) (lg rows : List AV) :
    outc ρ (upN 0 6) [] [] (whEnd (evT P) fiNR (whileT nrW) (whileB nrW) (dropS 2 nrB) (nrSt .none ve steps lg (.list none rows) [] [])) =
      some (mkS0 [] (hAO ve steps (renL ρ (upN 0 6) lg) [.list none (renL ρ (upN 0 6) rows.reverse)]) [] [], [], .ret (.ref 5), (hcP (short 1000 rows) (rows.length ≤ sizeLine) ++ []) ++ []) := by cases ve <;> kernel_rfl
end Mine
namespace Mine
open PySem PySem.W PyProof.Rows PySem.Calls PySem.Spec
noncomputable def RowN (P : Params) (rest : List (Addr × Obj)) (a : AV) (t : Nm) : Prop := ∃ d X, a = .con (.ref d) ∧ InT P rest d [.con (.ref X), .str t]
noncomputable def RowsN (P : Params) (rest : List (Addr × Obj)) : List AV → List Nm → Prop := All2 (RowN P rest)
theorem RowsN.con {P : Params} {rest : List (Addr × Obj)} : ∀ {rows : List AV} {ts : List Nm}, RowsN P rest rows ts → AllCon rows
  | [], [], _ => fun a ha => nomatch ha
  | a :: r, t :: ts, h => fun b hb => by
    rcases List.mem_cons.mp hb with rfl | hb
    · obtain ⟨d, X, e, _⟩ := h.1; exact ⟨_, e⟩
    · exact RowsN.con (rows := r) (ts := ts) h.2 b hb
  | [], _ :: _, h => h.elim
  | _ :: _, [], h => h.elim
theorem RowsN.mono {P : Params} {rest rest' : List (Addr × Obj)} {rows : List AV} {ts : List Nm} (h : RowsN P rest rows ts) (k : ∀ y ∈ rest, y ∈ rest') : RowsN P rest' rows ts :=
  All2.mono h fun _ _ _ ⟨d, X, e, t⟩ => ⟨d, X, e, t.mono k⟩
theorem hclNR {ks : List Nat} : ∀ x l, look x fiNR.cl = some l → ks[l]? = some l := fun x l h => by cases h
theorem up6 : ∀ j, j < 6 → (upN 0 6).getD j 0 = j := by decide
theorem hAO_n {ve : Option Int} {steps : Int} {lg : List AV} {more : List AO} : (hAO ve steps lg more).length = 5 + more.length := by simp [hAO]; omega
section
variable {prog : Program} {w : World} {K : Frag} {p : Program} {loose : List Str} {mean : ExcName → Option Value} {mg mb : Str → Option Value}
set_option tactic.hygienic true in
theorem nrLoop (S : Snd prog w K p loose mean mg mb 900 200 (evs (T2 w.params) 200)) {X : Addr} {ve : Option Int} {steps : Int} {lg : List AV} (hlg : AllCon lg) {Q : Flow → Shared → Prop} :
    ∀ (nm : List Nm) {V : Value} {fc : FC} {ρ : Nat → Addr} {s : Shared} {rows : List AV} {ts : List Nm} {k : Nat}, FrOk K p loose mean mg mb fiNR fc → Room2 900 200 fc.A → Rel w.params fiNR fc ρ (nrSt (.con V) ve steps lg (.list (some rows) []) [] []) s.heap → Nmd w.params fc.rest X V nm → RowsN w.params fc.rest rows ts → rows.length + nm.length ≤ 1000 →
    (∀ ρ' h' tk rows', (∀ j, j < 5 → ρ' j = ρ j) → Rel w.params fiNR fc ρ' (mkS0 [] (hAO ve steps lg [.list none rows']) [] []) h' → RowsN w.params fc.rest rows' (ts ++ nm).reverse → Q (.ret (.ref (ρ' 5))) { s with heap := h', toks := tk }) →
    WhlRest prog w fc.A NoE fc.env (whileT nrW) (whileB nrW) [] (fun f s' => match f with | .next => wpAny (model prog w) fc.A (execs (dropS 2 nrB) fc.env) Q NoE s' | f => Q f s') k s
  | [], V, fc, ρ, s, rows, ts, k, O, B, r, hN, hR, hlen, H => by
    obtain rfl : V = .none := hN
    have r1 := r.view (l := 5) (p := some rows) (xs := []) (p' := none) (xs' := rows) (by kernel_rfl) (fun vs hv => by
      have hv : All2 _ (rows ++ []) vs := hv
      rw [List.append_nil] at hv; exact hv)
    have r2 := r1.remu (mu' := [(nNamed, .none), (nFound, .ref 5)]) (fun x a hx => by
      have hmm := look_mem hx
      simp only [List.mem_cons, Prod.mk.injEq, List.not_mem_nil, or_false] at hmm
      rcases hmm with ⟨rfl, rfl⟩ | ⟨rfl, rfl⟩
      · exact ⟨.con .none, rfl, fun u h => h.1⟩
      · exact ⟨.ref 5, rfl, fun u h => h⟩) [] []
    have r3 : Rel w.params fiNR fc ρ (nrSt .none ve steps lg (.list none rows) [] []) s.heap := by
      exact Eq.mp (by kernel_rfl) r2
    have hP : Ps ((hcP (short 1000 rows) (rows.length ≤ sizeLine) ++ []) ++ []) := by
      rw [List.append_nil, List.append_nil]
      unfold hcP
      split
      · trivial
      · exact ⟨by rw [sizeL]; simp at hlen; lia, trivial⟩
    have hev := fun ρ' => nr_end w.params ρ' ve steps lg rows
    obtain ⟨st1, P1, e1, hP1, _⟩ := anew (w := w) (fc := fc) (fi := fiNR) (h' := s.heap) (hev ρ) hP hclNR
    refine whEnd_sound S O B e1 hP1 r3 fun ρ' h' tk vv X' r' qq => ?_
    obtain ⟨st2, P2, e2, _, g⟩ := anew (w := w) (fc := fc) (fi := fiNR) (h' := h') (hev ρ') hP hclNR
    rw [e1] at e2
    cases e2
    obtain ⟨f, _, g2⟩ := g r'
    obtain ⟨v', rfl, rv⟩ := qq
    obtain ⟨_, rfl⟩ := rv
    have hrr : AllCon rows.reverse := fun a ha => hR.con a (List.mem_reverse.mp ha)
    rw [hlg.ren, hrr.ren] at g2
    have e5 : ∀ j, j < 6 → ρ' j = ρ j := fun j hj => X'.2 j (by show j < (hAO ve steps lg [_]).length; rw [hAO_n]; simp; lia)
    have := H (fun j => ρ' ((upN 0 6).getD j 0)) h' tk rows.reverse (fun j hj => by rw [up6 j (by lia)]; exact e5 j (by lia)) g2 (by rw [List.append_nil]; exact All2.reverse hR)
    exact this
  | t :: nm, V, fc, ρ, s, rows, ts, k, O, B, r, hN, hR, hlen, H => by
    obtain ⟨c, d, V', rfl, t1, t2, t3⟩ := hN
    simp only [List.length_cons] at hlen
    refine run_turn S O B (hev := fun ρ' => nr_turn w.params ρ' (immOf w.params fc.rest) c d V' ve steps lg rows) (fun ρ' _ => ⟨t1, by rw [sizeL]; simp [itm]; lia, trivial⟩) hclNR (r.imms.mus (fun _ _ h => h) _ _) fun ρ' h' tk f X' g1 g2 => ?_
    have e5 : ∀ j, j < 6 → (fun j => ρ' ((upN 0 6).getD j 0)) j = ρ j := fun j hj => by
      show ρ' ((upN 0 6).getD j 0) = _
      rw [up6 j hj]
      exact X'.2 j (by show j < (hAO ve steps lg [_]).length; rw [hAO_n]; simp; lia)
    rw [hlg.ren, hR.con.ren, absorb_eq] at g2
    refine nrLoop (X := X) (ve := ve) (steps := steps) S hlg nm (V := V') (fc := fc) (ρ := fun j => ρ' ((upN 0 6).getD j 0)) (s := { s with heap := h', toks := tk }) (rows := rows ++ [AV.con (Value.ref d)]) (ts := ts ++ [t]) O B g2 t3 (All2.append hR ⟨⟨d, X, rfl, t2⟩, trivial⟩) (by simp; lia) fun ρ2 h2 tk2 rows' c1 c2 c3 => ?_
    exact H ρ2 h2 tk2 rows' (fun j hj => (c1 j hj).trans (e5 j (by lia))) c2 (by rw [List.append_assoc] at c3; exact c3)
end
end Mine
namespace Mine
open PySem PySem.W PyProof.Rows PySem.Calls PySem.Spec
noncomputable def ifT (s : Stmt) : Expr := nthE 0 (kS s)
noncomputable def ifB (s : Stmt) : List Stmt := nthB 0 (bS s)
noncomputable def nHow : Nm := [104, 111, 119]
noncomputable def moTail (P : Params) (st : St) : Rr AFl := bnd ((evT P).asg fiMO (asT (hdS moL)) (.ref 5) st) fun _ st => (evT P).ss fiMO (tlS moL) st
noncomputable def bMu : List (Nm × AV) := [(nBegin, .num 0)]
set_option tactic.hygienic true in
theorem mo_tail (P : Params) (ρ : Nat → Addr) (ve : Option Int) (steps : Int) (lg : List AV) :
    outc ρ (upN 0 5) [] [] (moTail P (mkS0 bMu (hAO ve steps lg [.tup [.num 1, .none]]) [] [])) = some (mkS0 [] (hAO ve steps (renL ρ (upN 0 5) lg) []) [] [], [], .next, []) := by cases ve <;> kernel_rfl
theorem mo_end (P : Params) (ρ : Nat → Addr) (ve : Option Int) (steps : Int) (lg : List AV) :
    outc ρ (upN 0 5) [] [] (turnFr (evT P) fiMO (forT (hdS moB)) 5 moL (mkS0 [] (hAO ve steps lg [.riter true 1 0]) [] [])) = some (mkS0 [] (hAO ve steps (renL ρ (upN 0 5) lg) []) [] [], [], none, []) := by cases ve <;> kernel_rfl
theorem mo_ret (P : Params) (ve : Option Int) (steps : Int) (lg : List AV) :
    (evT P).ss fiMO (tlS moB) (mkS0 [] (hAO ve steps lg []) [] []) = some (.ret .none, mkS0 [] (hAO ve steps lg []) [] [], []) := by cases ve <;> kernel_rfl
noncomputable def wD (o8 : Addr) (pc x : Int) (V : Value) : List AO := [.tup [.num 0, .ref 6], .inst CW 7, .dict (wayD (.con (.ref o8)) (.num pc) (.int x) (.con V) .none .none)]
noncomputable def mMu : List (Nm × AV) := [(nBegin, .num 0), (nHow, .num 0), (cWay, .ref 6)]
noncomputable def mS1 (ve : Option Int) (steps : Int) (lg : List AV) (o8 : Addr) (pc x : Int) (V : Value) : St := mkS0 mMu (hAO ve steps lg (wD o8 pc x V)) [] []
noncomputable def moIf : Stmt := hdS (tlS moL)
noncomputable def moR : List Expr := tupE (rtE (hdS (ifB moIf)))
section
variable (P : Params) (ve : Option Int) (steps : Int) (lg : List AV) (o8 : Addr) (pc x : Int) (V : Value)
theorem mm_asg : (evT P).asg fiMO (asT (hdS moL)) (.ref 5) (mkS0 bMu (hAO ve steps lg (wD o8 pc x V)) [] []) = some ((), mS1 ve steps lg o8 pc x V, []) := by cases ve <;> kernel_rfl
theorem mm_if : (evT P).b fiMO (ifT moIf) (mS1 ve steps lg o8 pc x V) = some (true, mS1 ve steps lg o8 pc x V, []) := by cases ve <;> kernel_rfl
theorem mm_e0 : (evT P).e fiMO (nthE 0 moR) (mS1 ve steps lg o8 pc x V) = some (.num 0, mS1 ve steps lg o8 pc x V, []) := by cases ve <;> kernel_rfl
theorem mm_e1 : (evT P).e fiMO (nthE 1 moR) (mS1 ve steps lg o8 pc x V) = some (.int x, mS1 ve steps lg o8 pc x V, []) := by cases ve <;> kernel_rfl
theorem mm_a2 : argsE (evT P) fiMO (caA (nthE 2 moR)) (mS1 ve steps lg o8 pc x V) = some ([.con V], mS1 ve steps lg o8 pc x V, []) := by cases ve <;> kernel_rfl
set_option tactic.hygienic true in
theorem nr_start (ρ : Nat → Addr) : outc ρ (upN 0 5 ++ [8]) [] [nNamed, nFound] ((evT P).s fiNR (hdS nrB) (withMu [(nNamed, .con V)] (mS1 ve steps lg o8 pc x V))) =
    some (nrSt (.con V) ve steps (renL ρ (upN 0 5 ++ [8]) lg) (.list none []) [] [], [], .next, []) := by cases ve <;> kernel_rfl
end
theorem mo_swap : pureOf (swappedStores [asT (hdS moL)] (asV (hdS moL)) (dumEnv fiMO.sc)) = some none := by kernel_rfl
end Mine
namespace Mine
open PySem PySem.W PyProof.Rows PySem.Calls PySem.Spec
theorem run_body : (fnx 474).body = runB0 :: runW :: runRest := by kernel_rfl
theorem zM6 (P : Params) (v : Bool) (ws : Ws) (msg : Nm) : zipP (fnx 474).ps [.ref ((ksS v ws).getD 0 0), .ref ((ksS v ws).getD 8 0), .num 0] = some (muOf 474 (vM6 P v ws msg)) := by cases ws <;> cases v <;> kernel_rfl
theorem bM6 (P : Params) (v : Bool) (ws : Ws) (msg : Nm) : look nBegin (rrS (rM6 P v ws msg)).mu = some (.num 0) := by cases ws <;> cases v <;> kernel_rfl
/-- where the host and its log stand -/
noncomputable def hL (v : Bool) (ws : Ws) : Nat := 0
noncomputable def gL (v : Bool) (ws : Ws) : Nat := 4
theorem nM (P : Params) (v : Bool) (ws : Ws) (msg : Nm) : (Nat.blt (hL v ws) (rrS (rM4 P v ws msg)).n, Nat.blt (gL v ws) (rrS (rM4 P v ws msg)).n, Nat.blt (kIt v ws) (rrS (rM4 P v ws msg)).n, Nat.ble (rrS (rM4 P v ws msg)).n (rrS (rM6 P v ws msg)).n) = (true, true, true, true) := by cases ws <;> cases v <;> kernel_rfl
theorem mRaw_at (v : Bool) (ws : Ws) (msg : Nm) : ((mRaw v ws msg).sg.get 2, (mRaw v ws msg).sg.get 9, (mRaw v ws msg).sg.get 4, (mRaw v ws msg).sg.get 6) = (.list none [], .list none [], .dict (wayD (.ref 8) (.num 0) (.num 0) .none .none .none), hdRaw) := by cases ws <;> cases v <;> kernel_rfl
theorem mRaw_go (v : Bool) (ws : Ws) (msg : Nm) : setO 9 (.list (some []) []) (setO 2 (.list (some []) []) (setO 6 (.dict [(cValues, .ref 7), (cLimit, .num 9999), (cRefused, .ref 10), (cWidth, .num 64), (cSteps, .int 0), (cLog, .ref 9)]) (setO 4 (.dict (wayD (.ref 8) (.num 0) (.int 0) (.con .none) .none .none)) (mRaw v ws msg)))) =
    mSt v ws msg [] [] (.num 0) (.int 0) (.con .none) .none none 0 [] [] [] [] := by cases ws <;> cases v <;> kernel_rfl
theorem mRaw_conv {P : Params} {fi : FI} {fc : FC} {ρ : Nat → Addr} {h : Heap} {v : Bool} {ws : Ws} {msg : Nm} (r : Rel P fi fc ρ (mRaw v ws msg) h) : Rel P fi fc ρ (mSt v ws msg [] [] (.num 0) (.int 0) (.con .none) .none none 0 [] [] [] []) h := by
  have hg := mRaw_at v ws msg
  simp only [Prod.mk.injEq] at hg
  obtain ⟨h2, h9, h4, h6⟩ := hg
  have r1 := r.conv (l := 4) (a' := .dict (wayD (.ref 8) (.num 0) (.int 0) (.con .none) .none .none)) (a := .dict (wayD (.ref 8) (.num 0) (.num 0) .none .none .none)) h4 rfl (fun es q => by cases q) (fun o h => by
    obtain ⟨ds, k, e, h⟩ := h
    refine ⟨_, k, e, All2.map2 ?_ h⟩
    exact ⟨fun _ q => q, fun _ q => q, fun _ q => q, fun _ q => ⟨q.1, q.2.1, q.2.2, by rfl⟩, fun _ q => q, fun _ q => q, trivial⟩)
  have r2 := r1.conv (l := 6) (a' := .dict [(cValues, .ref 7), (cLimit, .num 9999), (cRefused, .ref 10), (cWidth, .num 64), (cSteps, .int 0), (cLog, .ref 9)]) (a := hdRaw) (by show ((mRaw v ws msg).sg.set 4 _).get 6 = _; rw [Tr.get_set, if_neg (by decide)]; exact h6) rfl (fun es q => by cases q) (fun o h => by
    obtain ⟨ds, k, e, h⟩ := h
    refine ⟨_, k, e, All2.map2 ?_ h⟩
    exact ⟨fun _ q => q, fun _ q => q, fun _ q => q, fun _ q => q, fun _ q => q, fun _ q => q, trivial⟩)
  have r3 := r2.view (l := 2) (p := none) (xs := []) (p' := some []) (xs' := []) (by show (((mRaw v ws msg).sg.set 4 _).set 6 _).get 2 = _; rw [Tr.get_set, if_neg (by decide), Tr.get_set, if_neg (by decide)]; exact h2) (fun vs h => h)
  have r4 := r3.view (l := 9) (p := none) (xs := []) (p' := some []) (xs' := []) (by show ((((mRaw v ws msg).sg.set 4 _).set 6 _).set 2 _).get 9 = _; rw [Tr.get_set, if_neg (by decide), Tr.get_set, if_neg (by decide), Tr.get_set, if_neg (by decide)]; exact h9) (fun vs h => h)
  exact mRaw_go v ws msg ▸ r4
theorem q_mv : ∃ q : Str × Pos × Pos, moV = .Call (.Attribute (atO (caF moV)) q.1 q.2.1) (caA moV) [] q.2.2 ∧ nm q.1 = [114, 117, 110] ∧ Nat.beq q.2.1.endLine q.2.2.line = true := ⟨(_, _, _), rfl, by kernel_rfl, by kernel_rfl⟩
noncomputable def p_mv : Str × Pos × Pos := Classical.choose q_mv
theorem e_mv : moV = .Call (.Attribute (atO (caF moV)) p_mv.1 p_mv.2.1) (caA moV) [] p_mv.2.2 := (Classical.choose_spec q_mv).1
theorem f_mv : nm p_mv.1 = [114, 117, 110] ∧ Nat.beq p_mv.2.1.endLine p_mv.2.2.line = true := (Classical.choose_spec q_mv).2
theorem w_run : ∃ pos, runW = .While (whileT runW) (whileB runW) [] pos := ⟨_, rfl⟩
theorem e_run : runW = .While (whileT runW) (whileB runW) [] (Classical.choose w_run) := Classical.choose_spec w_run
section
variable {prog : Program} {w : World} {K : Frag} {p : Program} {loose : List Str} {mean : ExcName → Option Value} {mg mb : Str → Option Value}
/-- what is so when run has come back -/
noncomputable def RunR (w : World) (fc : FC) (ρ : Nat → Addr) (v : Bool) (ws : Ws) (msg : Nm) (t hits : Nat) (Q : Value → Shared → Prop) (s : Shared) : Rs → Prop
  | .fail => ∀ ρ' h' tk rest' lg' ve' o, ρ' 0 = ρ (hL v ws) → ρ' 3 = ρ (gL v ws) → Rel w.params fiMO { fc with rest := rest' } ρ' (mkS0 bMu (hAO ve' t lg' [.tup [.num 1, .none]]) [] []) h' → LogE w.params rest' msg.length lg' hits → (∀ y ∈ fc.rest, y ∈ rest') → (ρ (kIt v ws), o) ∈ rest' → RepEO w.params (.mu (.riter true 1 0)) o → (∀ y ∈ fc.rest, y.1 ≠ ρ (kIt v ws)) →
      Q (.ref (ρ' 5)) { s with heap := h', toks := tk }
  | .met x nm => ∀ ρ' h' tk rest' lg' ve' o8 V X pc, ρ' 0 = ρ (hL v ws) → ρ' 3 = ρ (gL v ws) → Rel w.params fiMO { fc with rest := rest' } ρ' (mkS0 bMu (hAO ve' t lg' (wD o8 pc x V)) [] []) h' → Nmd w.params rest' X V nm → LogE w.params rest' msg.length lg' hits → (∀ y ∈ fc.rest, y ∈ rest') →
      Q (.ref (ρ' 5)) { s with heap := h', toks := tk }
theorem runCall2 (S : Snd prog w K p loose mean mg mb 900 200 (evs (T2 w.params) 200)) (ok : PTOk3 prog w K p loose mean mg mb (T2 w.params) 900) {v : Bool} {ws : Ws} {msg : Nm} (hmsg : msg.length ≤ 1000) (hws : ∀ u ∈ ws.l, u ≠ [] ∧ u.length ≤ 100)
    {n t h1 : Nat} {rs : Rs} (hr : runC v ws msg n (.hd 0 []) [] 0 0 = some (rs, t, h1)) (ht : t ≤ 9999) {fc : FC} {ρ : Nat → Addr} {s : Shared} {Q : Value → Shared → Prop} (O : FrOk K p loose mean mg mb fiMO fc) (B : Room2 900 201 fc.A) (r : Rel w.params fiMO fc ρ (rrS (rM4 w.params v ws msg)) s.heap)
    (H : RunR w fc ρ v ws msg t h1 Q s rs) : wpAny (model prog w) fc.A (eval moV fc.env) Q NoE s := by
  have hobj : (evs (T2 w.params) 200).e fiMO (atO (caF moV)) (rrS (rM4 w.params v ws msg)) = _ := okM5 w.params v ws msg
  have hargs : argsE (evs (T2 w.params) 200) fiMO (caA moV) (rrS (rM5 w.params v ws msg)) = _ := okM6 w.params v ws msg
  rw [e_mv]
  have hn := nM w.params v ws msg
  simp only [Prod.mk.injEq] at hn
  obtain ⟨n1, n2, n3, n4⟩ := hn
  have n1 := Nat.blt_eq.mp n1
  have n2 := Nat.blt_eq.mp n2
  have n3 := Nat.blt_eq.mp n3
  have n4 := Nat.le_of_ble_eq_true n4
  refine ecall_meth S ok (by kernel_rfl) f_mv.2 (by kernel_rfl) hobj trivial (by rw [f_mv.1]; exact okMe w.params v ws msg) hargs trivial O B.step r fun ρ1 h1' tk1 va cvs X1 r1 rv rvs _ => ?_
  have G : FnRec K 474 (fnx 474) := ok.fns 474 _ (by kernel_rfl)
  refine call_hand (fc := fc) (s := { s with heap := h1', toks := tk1 }) G B.lt (zM6 w.params v ws msg) O rfl r1 ⟨rv, rvs⟩ fun fc' h2' tk2 d1 d2 d3 O2 r2 => ?_
  have B2 : Room2 900 200 fc'.A := (B.call d1 d2).dn (by decide)
  rw [run_body]
  have hev := fun ρ' => okM7 w.params v ws msg ρ'
  obtain ⟨st1, P1, e1, hP1, _⟩ := anew (w := w) (fc := fc') (fi := fiRun) (h' := h2') (hev ρ) trivial hclR
  refine wpAny_execs_cons (S.s _ _ _ _ _ _ _ e1 hP1 O2 B2 ρ1 { s with heap := h2', toks := tk2 } _ r2 fun ρ2 h3' tk3 vv X2 r3 q => ?_)
  obtain rfl := q
  obtain ⟨st2, P2, e2, _, g⟩ := anew (w := w) (fc := fc') (fi := fiRun) (h' := h3') (hev ρ2) trivial hclR
  rw [e1] at e2
  cases e2
  obtain ⟨f, g1, g2⟩ := g r3
  have X2 : Ext ρ1 (rrS (rM6 w.params v ws msg)).n ρ2 st1.n := X2
  have at_ : ∀ j, j < (rrS (rM4 w.params v ws msg)).n → ρ2 j = ρ j := fun j hj => (X2.2 j (Nat.lt_of_lt_of_le hj n4)).trans (X1.2 j hj)
  have g3 := mRaw_conv g2
  refine wpAny_execs_cons ?_
  rw [e_run]
  have hit := g1.rep 0 (kIt v ws) _ rfl rfl
  have hitn := (g1.neu 0 (kIt v ws) _ rfl rfl).1
  refine whl_start 0 (simC S hmsg hws n (cf := .hd 0 []) (q := []) (fc := { fc' with rest := ([kIt v ws] : List Nat).map (fun l => (ρ2 l, f l)) ++ fc'.rest }) (ρ := fun j => ρ2 ((ksS v ws).getD j 0)) (s := { s with heap := h3', toks := tk3 }) (ve := none) (lg := []) hr ht (by simp; lia) (by simp; lia) (O2.rst _) B2
    ⟨.none, g3, rfl, Nat.zero_le _⟩ ⟨(fun z hz => nomatch hz), List.nodup_nil⟩ (fun z hz => nomatch hz) ⟨rfl, fun a ha => nomatch ha⟩ ?_)
  have eI : ρ2 (kIt v ws) = ρ (kIt v ws) := at_ _ n3
  cases rs with
  | fail =>
    intro ρ3 h4' tk4 rest3 lg3 ve3 c1 c2 c3 c4 c5
    refine ⟨ρ3, _, rest3, bMu, c3, fun y a hy => ?_, (fun y l h => by cases h), fun rb => ?_⟩
    · have hmm := look_mem hy
      simp only [bMu, List.mem_cons, Prod.mk.injEq, List.not_mem_nil, or_false] at hmm
      obtain ⟨rfl, rfl⟩ := hmm
      exact ⟨_, bM6 w.params v ws msg, fun u h => h⟩
    · refine H ρ3 h4' tk4 rest3 lg3 ve3 (f (kIt v ws)) (c1.trans (at_ _ n1)) (c2.trans (at_ _ n2)) rb c4 (fun y hy => ?_) ?_ hit (fun y hy => ?_)
      · exact c5 y (List.mem_append_right _ (by rw [d3]; exact hy)) fun z hz => nomatch hz
      · rw [← eI]; exact c5 _ (List.mem_append_left _ (.head _)) fun z hz => nomatch hz
      · rw [← eI]; exact hitn y (by rw [d3]; exact hy)
  | met x nm =>
    intro ρ3 h4' tk4 rest3 lg3 ve3 o8 V X pc c1 c2 c3 c3' c4 c5
    refine ⟨ρ3, _, rest3, bMu, c3, fun y a hy => ?_, (fun y l h => by cases h), fun rb => ?_⟩
    · have hmm := look_mem hy
      simp only [bMu, List.mem_cons, Prod.mk.injEq, List.not_mem_nil, or_false] at hmm
      obtain ⟨rfl, rfl⟩ := hmm
      exact ⟨_, bM6 w.params v ws msg, fun u h => h⟩
    · refine H ρ3 h4' tk4 rest3 lg3 ve3 o8 V X pc (c1.trans (at_ _ n1)) (c2.trans (at_ _ n2)) rb c3' c4 (fun y hy => ?_)
      exact c5 y (List.mem_append_right _ (by rw [d3]; exact hy)) fun z hz => nomatch hz
end
end Mine
namespace Mine
open PySem PySem.W PyProof.Rows PySem.Calls PySem.Spec
noncomputable def ifO (s : Stmt) : List Stmt := nthB 1 (bS s)
theorem moB_eq : moB = hdS moB :: tlS moB := by kernel_rfl
theorem moL_eq : moL = hdS moL :: moIf :: tlS (tlS moL) := by kernel_rfl
theorem moIf_b : ifB moIf = hdS (ifB moIf) :: [] := by kernel_rfl
theorem nrB_eq : (fnx 537).body = hdS nrB :: nrW :: dropS 2 nrB := by kernel_rfl
theorem InT.dropM {P : Params} {fi : FI} {fc : FC} {ρ : Nat → Addr} {st : St} {h : Heap} (r : Rel P fi fc ρ st h) {c d : Addr} {l : List AV} {x y : Int} {p : Bool} {od : Obj} (t : InT P fc.rest c l) (hd : (d, od) ∈ fc.rest) (he : RepEO P (.mu (.riter p x y)) od) : InT P (dropA fc.rest d) c l := by
  obtain ⟨o, h1, h2⟩ := t
  refine ⟨o, dropA_mem.mpr ⟨h1, fun q => ?_⟩, h2⟩
  have q : c = d := q
  have e1 := r.get? h1
  have e2 := r.get? hd
  rw [q, e2] at e1
  obtain rfl := Option.some.inj e1
  exact mut_apart (P := P) (ρ := fun _ => 0) (n := 0) (a := .riter p x y) (b := .tup l) rfl rfl (by intro z; cases z) he h2
theorem q_mo : ∃ q : Pos × Pos, nthE 2 moR = .Call (.Name (stn (caX (caF (nthE 2 moR)))) q.1) (caA (nthE 2 moR)) [] q.2 := ⟨(_, _), rfl⟩
noncomputable def p_mo : Pos × Pos := Classical.choose q_mo
theorem e_mo : nthE 2 moR = .Call (.Name (stn (caX (caF (nthE 2 moR)))) p_mo.1) (caA (nthE 2 moR)) [] p_mo.2 := Classical.choose_spec q_mo
theorem q_mor : ∃ q : Pos × Nat × Pos, hdS (ifB moIf) = .Return (some (.Tuple [nthE 0 moR, nthE 1 moR, nthE 2 moR] q.2.1 q.2.2)) q.1 := ⟨(_, _, _), rfl⟩
noncomputable def p_mor : Pos × Nat × Pos := Classical.choose q_mor
theorem e_mor : hdS (ifB moIf) = .Return (some (.Tuple [nthE 0 moR, nthE 1 moR, nthE 2 moR] p_mor.2.1 p_mor.2.2)) p_mor.1 := Classical.choose_spec q_mor
section
variable {prog : Program} {w : World} {K : Frag} {p : Program} {loose : List Str} {mean : ExcName → Option Value} {mg mb : Str → Option Value}
/-- what is so when match_orders has come back -/
noncomputable def MoR (w : World) (fc : FC) (ρ : Nat → Addr) (msg : Nm) (t hits : Nat) (Q : Flow → Shared → Prop) (s : Shared) : Rs → Prop
  | .fail => ∀ ρ' h' tk rest' lg' ve', ρ' 0 = ρ 0 → ρ' 3 = ρ 4 → Rel w.params fiMO { fc with rest := rest' } ρ' (mkS0 [] (hAO ve' t lg' []) [] []) h' → LogE w.params rest' msg.length lg' hits → (∀ y ∈ fc.rest, y ∈ rest') →
      Q (.ret .none) { s with heap := h', toks := tk }
  | .met x nm => ∀ ρ' h' tk rest' lg' ve' rows', ρ' 0 = ρ 0 → ρ' 3 = ρ 4 → Rel w.params fiMO { fc with rest := rest' } ρ' (mkS0 [] (hAO ve' t lg' [.list none rows', .tup [.num 0, .int x, .ref 5]]) [] []) h' → RowsN w.params rest' rows' nm.reverse → LogE w.params rest' msg.length lg' hits → (∀ y ∈ fc.rest, y ∈ rest') →
      Q (.ret (.ref (ρ' 6))) { s with heap := h', toks := tk }
theorem mo_pushI {ve : Option Int} {t : Int} {lg : List AV} {a : AO} : ({ mkS0 [] (hAO ve t lg []) [] [] with sg := (mkS0 [] (hAO ve t lg []) [] []).sg.set (mkS0 [] (hAO ve t lg []) [] []).n a, n := (mkS0 [] (hAO ve t lg []) [] []).n + 1, imm := fun _ _ => False } : St) = mkS0 [] (hAO ve t lg [a]) [] [] := by cases ve <;> kernel_rfl
theorem hA_n {mu : List (Nm × AV)} {ve : Option Int} {t : Int} {lg : List AV} {more : List AO} : (mkS0 mu (hAO ve t lg more) [] []).n = 5 + more.length := hAO_n
/-- the names of a match, and the answer -/
theorem moMet (S : Snd prog w K p loose mean mg mb 900 200 (evs (T2 w.params) 200)) (ok : PTOk3 prog w K p loose mean mg mb (T2 w.params) 900) {msg : Nm} (hmsg : msg.length ≤ 1000) {x t hits : Nat} {nl : List Nm} (hnm : nl.length ≤ 1000)
    {fc : FC} {ρ : Nat → Addr} {s : Shared} {Q : Flow → Shared → Prop} (O : FrOk K p loose mean mg mb fiMO fc) (B : Room2 900 201 fc.A) {ve : Option Int} {lg : List AV} {o8 : Addr} {V : Value} {X : Addr} {pc : Int}
    (r : Rel w.params fiMO fc ρ (mkS0 bMu (hAO ve t lg (wD o8 pc x V)) [] []) s.heap) (hN : Nmd w.params fc.rest X V nl) (hL : LogE w.params fc.rest msg.length lg hits)
    {es : List Expr} {k : Nat} {tp : Pos} (e1 : asT (hdS moL) = .Tuple es k tp)
    (H : ∀ ρ' h' tk rows', ρ' 0 = ρ 0 → ρ' 3 = ρ 3 → Rel w.params fiMO fc ρ' (mkS0 [] (hAO ve t lg [.list none rows', .tup [.num 0, .int x, .ref 5]]) [] []) h' → RowsN w.params fc.rest rows' nl.reverse → Q (.ret (.ref (ρ' 6))) { s with heap := h', toks := tk }) :
    wpAny (model prog w) fc.A (assign (.Tuple es k tp) fc.env (.ref (ρ 5))) (fun _ s' => wpAny (model prog w) fc.A (execs (moIf :: tlS (tlS moL)) fc.env) Q NoE s') NoE s := by
  have h4 := mm_asg w.params ve t lg o8 pc x V
  rw [e1] at h4
  have hn8 : ∀ mu, (mkS0 mu (hAO ve t lg (wD o8 pc x V)) [] []).n = 8 := fun _ => hA_n
  have hm8 : (mS1 ve t lg o8 pc x V).n = 8 := hn8 mMu
  have B1 := B.step
  refine S.asg _ _ _ _ _ _ _ h4 trivial O B1 ρ s _ _ r ⟨by rw [hn8]; lia, rfl⟩ fun ρ1 h1 tk1 _ X1 r1 _ => ?_
  have ex : ∀ {m : Nat} {ρ ρ' : Nat → Addr} {m' : Nat}, Ext ρ 8 ρ' m' → ∀ j, j < 8 → ρ' j = ρ j := fun X j hj => X.2 j hj
  rw [hn8, hm8] at X1
  refine wpAny_execs_cons ?_
  obtain ⟨pos, e0⟩ : ∃ pos, moIf = .If (ifT moIf) (ifB moIf) (ifO moIf) pos := ⟨_, rfl⟩
  rw [e0]
  refine wpAny_If (S.b _ _ _ _ _ _ _ (mm_if w.params ve t lg o8 pc x V) trivial O B1 ρ1 { s with heap := h1, toks := tk1 } _ r1 fun ρ2 h2 tk2 c X2 r2 q2 => ?_)
  subst q2
  rw [if_pos rfl]
  rw [moIf_b]
  refine wpAny_execs_cons ?_
  rw [e_mor]
  refine wpAny_Return_some (Tuple_ ?_)
  have n0 : noStar (nthE 0 moR) = true := by kernel_rfl
  have n1 : noStar (nthE 1 moR) = true := by kernel_rfl
  have n2 : noStar (nthE 2 moR) = true := by kernel_rfl
  rw [starEach_cons n0, starEach_cons n1, starEach_cons n2]
  have g0 := mm_e0 w.params ve t lg o8 pc x V
  have g1 := mm_e1 w.params ve t lg o8 pc x V
  have g2 := mm_a2 w.params ve t lg o8 pc x V
  refine spliced_cons (S.e _ _ _ _ _ _ _ g0 trivial O B1 ρ2 { s with heap := h2, toks := tk2 } _ r2 fun ρ3 h3 tk3 v0 X3 r3 q3 => ?_)
  refine spliced_cons (S.e _ _ _ _ _ _ _ g1 trivial O B1 ρ3 { s with heap := h3, toks := tk3 } _ r3 fun ρ4 h4 tk4 v1 X4 r4 q4 => ?_)
  have hl : loadF (T2 w.params) fiMO (nm (stn (caX (caF (nthE 2 moR))))) = some (.fn 537) := by kernel_rfl
  rw [hm8] at X2 X3 X4
  have G : FnRec K 537 (fnx 537) := ok.fns 537 _ (by kernel_rfl)
  refine spliced_cons ?_
  rw [e_mo]
  refine ecall_fn S ok hl g2 trivial O B1 (s := { s with heap := h4, toks := tk4 }) r4 fun ρ5 h5 tk5 cvs X5 r5 q5 => ?_
  refine call_hand (fc := fc) (s := { s with heap := h5, toks := tk5 }) G B.lt (mu := [(nNamed, .con V)]) (by kernel_rfl) O rfl r5 q5 fun fc' h6 tk6 d1 d2 d3 O2 r6 => ?_
  have B2 : Room2 900 200 fc'.A := (B.call d1 d2).dn (by decide)
  rw [nrB_eq]
  have hev := fun ρ' => nr_start w.params ve t lg o8 pc x V ρ'
  obtain ⟨st1, P1, e1', hP1, _⟩ := anew (w := w) (fc := fc') (fi := fiNR) (h' := h6) (hev ρ5) trivial (fun x l h => by cases h)
  refine wpAny_execs_cons (S.s _ _ _ _ _ _ _ e1' hP1 O2 B2 ρ5 { s with heap := h6, toks := tk6 } _ r6 fun ρ6 h7 tk7 vv X6 r7 q => ?_)
  obtain rfl := q
  obtain ⟨st2, P2, e2, _, g⟩ := anew (w := w) (fc := fc') (fi := fiNR) (h' := h7) (hev ρ6) trivial (fun x l h => by cases h)
  rw [e1'] at e2
  cases e2
  obtain ⟨f, _, g3⟩ := g r7
  have g3 : Rel w.params fiNR fc' (fun j => ρ6 ((upN 0 5 ++ [8]).getD j 0)) (nrSt (.con V) ve t (renL ρ6 (upN 0 5 ++ [8]) lg) (.list none []) [] []) h7 := g3
  rw [hL.con.ren] at g3
  have g4 := g3.view (l := 5) (p := none) (xs := []) (p' := some []) (xs' := []) (by kernel_rfl) (fun vs hv => hv)
  have g5 : Rel w.params fiNR fc' (fun j => ρ6 ((upN 0 5 ++ [8]).getD j 0)) (nrSt (.con V) ve t lg (.list (some []) []) [] []) h7 := by
    exact Eq.mp (by kernel_rfl) g4
  have up8 : ∀ j, j < 5 → (upN 0 5 ++ [8]).getD j 0 = j := by decide
  have X6 : Ext ρ5 8 ρ6 st1.n := by
    have : (withMu [(nNamed, AV.con V)] (mS1 ve t lg o8 pc x V)).n = 8 := hn8 mMu
    rw [← this]; exact X6
  rw [hm8] at X5
  have c5 : ∀ j, j < 5 → ρ6 ((upN 0 5 ++ [8]).getD j 0) = ρ j := fun j hj => by
    rw [up8 j hj, X6.2 j (by lia), X5.2 j (by lia), X4.2 j (by lia), X3.2 j (by lia), X2.2 j (by lia), X1.2 j (by lia)]
  obtain ⟨wpos, ew⟩ : ∃ pos, nrW = .While (whileT nrW) (whileB nrW) [] pos := ⟨_, rfl⟩
  refine wpAny_execs_cons ?_
  rw [ew]
  refine whl_start 0 (nrLoop (X := X) S hL.con nl (fc := fc') (ρ := fun j => ρ6 ((upN 0 5 ++ [8]).getD j 0)) (s := { s with heap := h7, toks := tk7 }) (rows := []) (ts := []) O2 B2 g5 (by rw [d3]; exact hN) trivial (by simp; lia) fun ρ7 h8 tk8 rows' c1 c2 c3 => ?_)
  refine ⟨ρ7, _, fc'.rest, [], c2, fun y a hy => (by cases hy), (fun y l h => by cases h), fun rb => ?_⟩
  rw [d3] at c3 rb
  refine spliced_nil ?_
  have n6 : (mkS0 [] (hAO ve t lg [.list none rows']) [] []).n = 6 := hA_n
  refine alloc_tup (s := { s with heap := h8, toks := tk8 }) (xs := [.num 0, .int x, .ref 5]) rb ⟨q3, q4, ⟨by rw [n6]; lia, rfl⟩, trivial⟩ (by rw [sizeL]; simp) fun ρ8 h9 tk9 v X8 r9 q9 => ?_
  have r9 : Rel w.params fiMO fc ρ8 (mkS0 [] (hAO ve t lg [.list none rows', .tup [.num 0, .int x, .ref 5]]) [] []) h9 := by
    exact Eq.mp (by kernel_rfl) r9
  rw [n6] at X8 q9
  obtain rfl := q9.2
  exact H ρ8 h9 tk9 rows' ((X8.2 0 (by lia)).trans ((c1 0 (by lia)).trans (c5 0 (by lia)))) ((X8.2 3 (by lia)).trans ((c1 3 (by lia)).trans (c5 3 (by lia)))) r9 c3
end
end Mine
namespace Mine
open PySem PySem.W PyProof.Rows PySem.Calls PySem.Spec
theorem nM3 (P : Params) (v : Bool) (ws : Ws) (msg : Nm) : (Nat.blt 4 (cMO v ws msg).n, Nat.blt 4 (rrS (rM3 P v ws msg)).n, Nat.blt (kIt v ws) (rrS (rM3 P v ws msg)).n) = (true, true, true) := by cases ws <;> cases v <;> kernel_rfl
theorem kM3_eq (P : Params) (v : Bool) (ws : Ws) (msg : Nm) : kM3 P v ws msg = kIt v ws := by unfold kM3; rw [okM3]
theorem q_mob : ∃ pos, hdS moB = .For (forT (hdS moB)) (forI (hdS moB)) moL [] pos := ⟨_, rfl⟩
theorem e_mob : hdS moB = .For (forT (hdS moB)) (forI (hdS moB)) moL [] (Classical.choose q_mob) := Classical.choose_spec q_mob
theorem q_mol : ∃ q : List Expr × Nat × Pos × Pos, hdS moL = .Assign [.Tuple q.1 q.2.1 q.2.2.1] moV q.2.2.2 ∧ asT (hdS moL) = .Tuple q.1 q.2.1 q.2.2.1 := ⟨(_, _, _, _), rfl, rfl⟩
noncomputable def p_mol : List Expr × Nat × Pos × Pos := Classical.choose q_mol
theorem e_mol : hdS moL = .Assign [.Tuple p_mol.1 p_mol.2.1 p_mol.2.2.1] moV p_mol.2.2.2 := (Classical.choose_spec q_mol).1
theorem f_mol : asT (hdS moL) = .Tuple p_mol.1 p_mol.2.1 p_mol.2.2.1 := (Classical.choose_spec q_mol).2
theorem g_mol : plainV moV = true := by kernel_rfl
section
variable {prog : Program} {w : World} {K : Frag} {p : Program} {loose : List Str} {mean : ExcName → Option Value} {mg mb : Str → Option Value}
set_option tactic.hygienic true in
theorem moRun (S : Snd prog w K p loose mean mg mb 900 200 (evs (T2 w.params) 200)) (ok : PTOk3 prog w K p loose mean mg mb (T2 w.params) 900) {v : Bool} {ws : Ws} {msg : Nm} (hmsg : msg.length ≤ 1000) (hws : ∀ u ∈ ws.l, u ≠ [] ∧ u.length ≤ 100)
    {n t hits : Nat} {rs : Rs} (hr : runC v ws msg n (.hd 0 []) [] 0 0 = some (rs, t, hits)) (ht : t ≤ 9999) (hnm : ∀ x nl, rs = .met x nl → nl.length ≤ 1000) {fc : FC} {ρ : Nat → Addr} {s : Shared} {Q : Flow → Shared → Prop} (O : FrOk K p loose mean mg mb fiMO fc) (B : Room2 900 201 fc.A)
    (r : Rel w.params fiMO fc ρ (cMO v ws msg) s.heap) (H : MoR w fc ρ msg t hits Q s rs) : wpAny (model prog w) fc.A (execs (fnx 544).body fc.env) Q NoE s := by
  show wpAny (model prog w) fc.A (execs moB fc.env) Q NoE s
  have hn := nM3 w.params v ws msg
  simp only [Prod.mk.injEq] at hn
  obtain ⟨n1, n2, n3⟩ := hn
  have n1 := Nat.blt_eq.mp n1
  have n2 := Nat.blt_eq.mp n2
  have n3 := Nat.blt_eq.mp n3
  have B1 := B.step
  have ep : plainIt (forI (hdS moB)) = true := by kernel_rfl
  rw [moB_eq]
  refine wpAny_execs_cons ?_
  rw [e_mob]
  refine for_hand0 S O B1 ep (okM3 w.params v ws msg) trivial r fun ρ1 h1 tk1 X1 r1 => ?_
  have h4 : turnA (evs (T2 w.params) 200) fiMO (forT (hdS moB)) (kIt v ws) (rrS (rM3 w.params v ws msg)) = some (true, rrS (rM4 w.params v ws msg), []) := by
    have e : rM4 w.params v ws msg = turnA (evs (T2 w.params) 200) fiMO (forT (hdS moB)) (kIt v ws) (rrS (rM3 w.params v ws msg)) := by
      rw [← kM3_eq w.params]; rfl
    exact e ▸ okM4 w.params v ws msg
  refine fr_hand0 S O B1 (s := { s with heap := h1, toks := tk1 }) h4 trivial r1 fun ρ2 h2 tk2 X2 r2 => ?_
  have hsw := pureOf_some mo_swap
  rw [f_mol, show fiMO.sc = fc.env.scope from O.sc.symm, ← swapped_dum] at hsw
  have c1 : ∀ j, j ≤ 4 → ρ2 j = ρ j := fun j hj => (X2.2 j (by lia)).trans (X1.2 j (by lia))
  have ck : ρ2 (kIt v ws) = ρ1 (kIt v ws) := X2.2 _ n3
  rw [moL_eq]
  refine wpAny_execs_cons ?_
  rw [e_mol]
  refine Assign_Tuple ?_ (swapsSole g_mol) hsw
  refine runCall2 S ok hmsg hws hr ht (s := { s with heap := h2, toks := tk2 }) O B r2 ?_
  cases rs with
  | met x nl =>
    intro ρ3 h3 tk3 rest3 lg3 ve3 o8 V X pc d0 d3 r3 hN hL hk
    refine moMet (s := { s with heap := h3, toks := tk3 }) (fc := { fc with rest := rest3 }) S ok hmsg (hnm x nl rfl) (O.rst _) B r3 hN hL f_mol fun ρ4 h4 tk4 rows' k0 k3 r4 hR => ?_
    exact H ρ4 h4 tk4 rest3 lg3 ve3 rows' (k0.trans (d0.trans (c1 0 (by lia)))) (k3.trans (d3.trans (c1 4 (by lia)))) r4 hR hL hk
  | fail =>
    intro ρ3 h3 tk3 rest3 lg3 ve3 o d0 d3 r3 hL hk ho hro hne
    have hn6 : ∀ a, (mkS0 bMu (hAO ve3 t lg3 [a]) [] []).n = 6 := fun _ => hA_n
    obtain ⟨st3, P3, e3, hP3, _⟩ := anew (w := w) (fc := { fc with rest := rest3 }) (fi := fiMO) (h' := h3) (mo_tail w.params ρ3 ve3 t lg3) trivial (fun x l h => by cases h)
    refine bnd_el e3 hP3 fun _ st4 P4 P5 h4 h5 hP4 hP5 => ?_
    rw [f_mol] at h4
    refine S.asg _ { fc with rest := rest3 } _ _ _ _ _ h4 hP4 (O.rst _) B1 ρ3 { s with heap := h3, toks := tk3 } _ _ r3 ⟨by rw [hn6]; lia, rfl⟩ fun ρ4 h4' tk4 _ X4 r4 _ => ?_
    refine S.ss _ { fc with rest := rest3 } _ _ _ _ _ h5 hP5 (O.rst _) B1 ρ4 { s with heap := h4', toks := tk4 } _ r4 fun ρ5 h5' tk5 v5 X5 r5 q5 => ?_
    obtain rfl := q5
    obtain ⟨st5, P6, e5, _, g⟩ := anew (w := w) (fc := { fc with rest := rest3 }) (fi := fiMO) (h' := h5') (mo_tail w.params ρ5 ve3 t lg3) trivial (fun x l h => by cases h)
    rw [e3] at e5
    cases e5
    obtain ⟨f, _, g2⟩ := g r5
    have g2 : Rel w.params fiMO { fc with rest := rest3 } (fun j => ρ5 ((upN 0 5).getD j 0)) (mkS0 [] (hAO ve3 t (renL ρ5 (upN 0 5) lg3) []) [] []) h5' := g2
    rw [hL.con.ren] at g2
    have X45 := X4.trans X5
    rw [hn6] at X45
    have up5 : ∀ j, j < 5 → (upN 0 5).getD j 0 = j := by decide
    have c5 : ∀ j, j < 5 → ρ5 ((upN 0 5).getD j 0) = ρ3 j := fun j hj => by rw [up5 j hj]; exact X45.2 j (by lia)
    have hn5 : (mkS0 [] (hAO ve3 t lg3 []) [] []).n = 5 := hA_n
    have hL5 : LogE w.params (dropA rest3 (ρ2 (kIt v ws))) msg.length lg3 hits := Kp.log (fun c l tt => InT.dropM g2 tt ho hro) hL
    have g3 := g2.impM (rest := dropA rest3 (ρ2 (kIt v ws))) (ao := .riter true 1 0) ho (fun y hy => dropA_mem.mp hy) rfl (fun _ q => by cases q) hro
    rw [hn5] at g3
    have g4 : Rel w.params fiMO { fc with rest := dropA rest3 (ρ2 (kIt v ws)) } (upR (fun j => ρ5 ((upN 0 5).getD j 0)) 5 (ρ2 (kIt v ws))) (mkS0 [] (hAO ve3 t lg3 [.riter true 1 0]) [] []) h5' := by
      exact Eq.mp (by kernel_rfl) g3
    have hup : upR (fun j => ρ5 ((upN 0 5).getD j 0)) 5 (ρ2 (kIt v ws)) 5 = ρ2 (kIt v ws) := upR_self _ _ _
    have fin := fr_end (s := { s with heap := h5', toks := tk5 }) (fc := { fc with rest := dropA rest3 (ρ2 (kIt v ws)) }) (Q := fun f s' => match f with | .next => wpAny (model prog w) fc.A (execs (tlS moB) fc.env) Q NoE s' | f => Q f s') S (O.rst _) (hev := fun ρ' => mo_end w.params ρ' ve3 t lg3) (fun _ _ => trivial) (fun x l h => by cases h) g4 fun h6 tk6 f6 _ r6 => ?_
    · rw [hup, ck] at fin
      rw [moL_eq, e_mol] at fin
      exact fin
    · have r6 : Rel w.params fiMO { fc with rest := dropA rest3 (ρ2 (kIt v ws)) } (fun j => upR (fun j => ρ5 ((upN 0 5).getD j 0)) 5 (ρ2 (kIt v ws)) ((upN 0 5).getD j 0)) (mkS0 [] (hAO ve3 t (renL (upR (fun j => ρ5 ((upN 0 5).getD j 0)) 5 (ρ2 (kIt v ws))) (upN 0 5) lg3) []) [] []) h6 := r6
      rw [hL.con.ren] at r6
      refine S.ss _ { fc with rest := dropA rest3 (ρ2 (kIt v ws)) } _ _ _ _ _ (mo_ret w.params ve3 t lg3) trivial (O.rst _) B1 _ { s with heap := h6, toks := tk6 } _ r6 fun ρ7 h7 tk7 v7 X7 r7 q7 => ?_
      obtain ⟨u, rfl, ru⟩ := q7
      obtain rfl := ru
      rw [hn5] at X7
      have c7 : ∀ j, j < 5 → ρ7 j = ρ3 j := fun j hj => by
        rw [X7.2 j hj]
        show upR _ 5 _ ((upN 0 5).getD j 0) = _
        rw [up5 j hj]
        rw [show upR (fun j => ρ5 ((upN 0 5).getD j 0)) 5 (ρ2 (kIt v ws)) j = ρ5 ((upN 0 5).getD j 0) from by simp [upR, Nat.ne_of_lt hj]]
        exact c5 j hj
      exact H ρ7 h7 tk7 (dropA rest3 (ρ2 (kIt v ws))) lg3 ve3 ((c7 0 (by lia)).trans (d0.trans (c1 0 (by lia)))) ((c7 3 (by lia)).trans (d3.trans (c1 4 (by lia)))) r7 hL5 fun y hy => dropA_mem.mpr ⟨hk y hy, hne y hy⟩
end
end Mine
namespace Mine
open PySem PySem.W PyProof.Rows PySem.Calls PySem.Spec
noncomputable def metR : List Expr := tupE (rtE (hdS (dropS 4 metB)))
theorem metB_eq : (fnx 612).body = takeS 4 metB ++ [hdS (dropS 4 metB)] := by kernel_rfl
noncomputable def hMu : List (Nm × AV) := [(cHost, .ref 0)]
theorem mt_log (P : Params) (ve : Option Int) (t : Int) (lg : List AV) : (evT P).e fiM (nthE 1 metR) (mkS0 hMu (hAO ve t lg []) [] []) = some (.ref 3, mkS0 hMu (hAO ve t lg []) [] [], []) := by cases ve <;> kernel_rfl
theorem mt_logM (P : Params) (ve : Option Int) (t : Int) (lg : List AV) (a b : AO) : (evT P).e fiM (nthE 1 metR) (mkS0 hMu (hAO ve t lg [a, b]) [] []) = some (.ref 3, mkS0 hMu (hAO ve t lg [a, b]) [] [], []) := by cases ve <;> kernel_rfl
noncomputable def failAO (lg : List AV) : List AO := [.tup [.none, .ref 1], .list (some lg) []]
noncomputable def metAO (x : Nat) (rows lg : List AV) : List AO := [.tup [.ref 1, .ref 3], .tup [.num 0, .int x, .ref 2], .list none rows, .list (some lg) []]
theorem mt_fail (ρ : Nat → Addr) (ve : Option Int) (t : Int) (lg : List AV) : outc ρ [5, 3] [] [] (ret () (mkS0 hMu (hAO ve t lg [.tup [.none, .ref 3]]) [] [])) = some (mkS0 [] (failAO (renL ρ [5, 3] lg)) [] [], [], (), []) := by cases ve <;> kernel_rfl
theorem mt_met (ρ : Nat → Addr) (ve : Option Int) (t : Int) (x : Nat) (rows lg : List AV) :
    outc ρ [7, 6, 5, 3] [] [] (ret () (mkS0 hMu (hAO ve t lg [.list none rows, .tup [.num 0, .int x, .ref 5], .tup [.ref 6, .ref 3]]) [] [])) = some (mkS0 [] (metAO x (renL ρ [7, 6, 5, 3] rows) (renL ρ [7, 6, 5, 3] lg)) [] [], [], (), []) := by kernel_rfl
theorem hclM {ks : List Nat} : ∀ x l, look x fiM.cl = some l → ks[l]? = some l := fun x l h => by cases h
theorem q_met : ∃ q : Pos × Pos, callX = .Call (.Name (stn (caX (caF (callX)))) q.1) (caA (callX)) [] q.2 := ⟨(_, _), rfl⟩
noncomputable def p_met : Pos × Pos := Classical.choose q_met
theorem e_met : callX = .Call (.Name (stn (caX (caF (callX)))) p_met.1) (caA (callX)) [] p_met.2 := Classical.choose_spec q_met
theorem q_mc : ∃ q : Pos × Pos, mcE = .Call (.Name (stn (caX (caF (mcE)))) q.1) (caA (mcE)) [] q.2 := ⟨(_, _), rfl⟩
noncomputable def p_mc : Pos × Pos := Classical.choose q_mc
theorem e_mc : mcE = .Call (.Name (stn (caX (caF (mcE)))) p_mc.1) (caA (mcE)) [] p_mc.2 := Classical.choose_spec q_mc
theorem q_metr : ∃ q : Pos × Nat × Pos, hdS (dropS 4 metB) = .Return (some (.Tuple [callX, nthE 1 metR] q.2.1 q.2.2)) q.1 := ⟨(_, _, _), rfl⟩
noncomputable def p_metr : Pos × Nat × Pos := Classical.choose q_metr
theorem e_metr : hdS (dropS 4 metB) = .Return (some (.Tuple [callX, nthE 1 metR] p_metr.2.1 p_metr.2.2)) p_metr.1 := Classical.choose_spec q_metr
section
variable {prog : Program} {w : World} {K : Frag} {p : Program} {loose : List Str} {mean : ExcName → Option Value} {mg mb : Str → Option Value}
/-- what is so when _law_met has come back -/
noncomputable def MetR (w : World) (fi : FI) (fc : FC) (aW : Addr) (mu' : List (Nm × AV)) (ws : Ws) (msg : Nm) (hits : Nat) (Q : Value → Shared → Prop) (s : Shared) : Rs → Prop
  | .fail => ∀ ρ' h' tk rest' lg' o, Rel w.params fi { fc with rest := rest' } ρ' (mkS0 mu' (failAO lg') [] []) h' → LogE w.params rest' msg.length lg' hits → (∀ y ∈ fc.rest, y ∈ rest') → (aW, o) ∈ rest' → RepEO w.params (.mu (.list none (ws.l.map .str))) o →
      Q (.ref (ρ' 0)) { s with heap := h', toks := tk }
  | .met x nl => ∀ ρ' h' tk rest' lg' rows' o, Rel w.params fi { fc with rest := rest' } ρ' (mkS0 mu' (metAO x rows' lg') [] []) h' → RowsN w.params rest' rows' nl.reverse → LogE w.params rest' msg.length lg' hits → (∀ y ∈ fc.rest, y ∈ rest') → (aW, o) ∈ rest' → RepEO w.params (.mu (.list none (ws.l.map .str))) o →
      Q (.ref (ρ' 0)) { s with heap := h', toks := tk }
theorem metCall (S : Snd prog w K p loose mean mg mb 900 200 (evs (T2 w.params) 200)) (ok : PTOk3 prog w K p loose mean mg mb (T2 w.params) 900) {v : Bool} {ws : Ws} {msg : Nm} (hmsg : msg.length ≤ 1000) (hws : ∀ u ∈ ws.l, u ≠ [] ∧ u.length ≤ 100)
    {n t hits : Nat} {rs : Rs} (hr : runC v ws msg n (.hd 0 []) [] 0 0 = some (rs, t, hits)) (ht : t ≤ 9999) (hnm : ∀ x nl, rs = .met x nl → nl.length ≤ 1000) {fi : FI} (hcl0 : fi.cl = []) (own : fi.own = true) {fc : FC} {ρ : Nat → Addr} {s : Shared} {mu mu' : List (Nm × AV)} {cvs : List Value} {Q : Value → Shared → Prop} (O : FrOk K p loose mean mg mb fi fc) (B : Room2 900 210 fc.A)
    (r : Rel w.params fi fc ρ (mkS0 mu ([.list none (ws.l.map .str)] ++ lastAO v) [] []) s.heap) (rv : All2 (RepV ρ (mkS0 mu ([.list none (ws.l.map .str)] ++ lastAO v) [] []).n) [.ref 0, .str msg, .ref (lastL v)] cvs) (hmu : ∀ x a, look x mu' = some a → ∃ b, look x mu = some b ∧ ∀ u ρ' m, RepV ρ (mkS0 mu ([.list none (ws.l.map .str)] ++ lastAO v) [] []).n b u → RepV ρ' m a u)
    (H : MetR w fi fc (ρ 0) mu' ws msg hits Q s rs) : wpAny (model prog w) fc.A (call (Fn.fn 612).val cvs) Q NoE s := by
  have G0 : FnRec K 612 (fnx 612) := ok.fns 612 _ (by kernel_rfl)
  have G1 : FnRec K 551 (fnx 551) := ok.fns 551 _ (by kernel_rfl)
  have G2 : FnRec K 544 (fnx 544) := ok.fns 544 _ (by kernel_rfl)
  have hc := metC_host w.params v ws msg
  simp only [Prod.mk.injEq] at hc
  obtain ⟨hc0, hc1, hc2, hc3, hc4, hc5⟩ := hc
  have hc1 := Nat.blt_eq.mp hc1
  have hc2 := Nat.blt_eq.mp hc2
  have hc3 := Nat.le_of_ble_eq_true hc3
  have hc4 := Nat.le_of_ble_eq_true hc4
  have hc5 := Nat.le_of_ble_eq_true hc5
  refine call_hand (fc := fc) G0 B.lt (mu := metMu v msg) (by kernel_rfl) O own r rv fun fc1 h1 tk1 d1 d2 d3 O1 r1 => ?_
  have B1 : Room2 900 207 fc1.A := (B.call d1 d2).dn (by decide)
  have B1' : Room2 900 200 fc1.A := B1.dn (by decide)
  have hM0 : (evs (T2 w.params) 200).ss fiM (takeS 4 metB) (metS v ws msg) = _ := okM0 w.params v ws msg
  rw [metB_eq]
  refine ss_app ok O1 _ _ (s := { s with heap := h1, toks := tk1 }) hM0 trivial B1' r1 fun ρ2 h2 tk2 _ X2 r2 _ => ?_
  refine wpAny_execs_cons ?_
  rw [e_metr]
  refine wpAny_Return_some (Tuple_ ?_)
  have n0 : noStar callX = true := by kernel_rfl
  have n1 : noStar (nthE 1 metR) = true := by kernel_rfl
  rw [starEach_cons n0, starEach_cons n1]
  have hl : loadF (T2 w.params) fiM (nm (stn (caX (caF callX)))) = some (.fn 551) := by kernel_rfl
  have hM1 : argsE (evs (T2 w.params) 200) fiM (caA callX) (rrS (rM0 w.params v ws msg)) = _ := okM1 w.params v ws msg
  refine spliced_cons ?_
  rw [e_met]
  refine ecall_fn S ok hl hM1 trivial O1 B1' (s := { s with heap := h2, toks := tk2 }) r2 fun ρ3 h3 tk3 cvs3 X3 r3 q3 => ?_
  refine call_hand (fc := fc1) (s := { s with heap := h3, toks := tk3 }) G1 B1.lt (zM1 w.params v ws msg) O1 rfl r3 q3 fun fc2 h4 tk4 d4 d5 d6 O2 r4 => ?_
  have B2 : Room2 900 204 fc2.A := (B1.call d4 d5).dn (by decide)
  have B2' : Room2 900 200 fc2.A := B2.dn (by decide)
  obtain ⟨pos5, eb⟩ : (∃ pos, (fnx 551).body = [.Return (some mcE) pos]) := ⟨_, rfl⟩
  rw [eb]
  refine wpAny_execs_cons (wpAny_Return_some ?_)
  have hl2 : loadF (T2 w.params) fiMC (nm (stn (caX (caF mcE)))) = some (.fn 544) := by kernel_rfl
  have hM2 : argsE (evs (T2 w.params) 200) fiMC (caA mcE) (sM1 w.params v ws msg) = _ := okM2 w.params v ws msg
  rw [e_mc]
  refine ecall_fn (fi := fiMC) (fc := fc2) S ok hl2 hM2 trivial O2 B2' (s := { s with heap := h4, toks := tk4 }) r4 fun ρ5 h5 tk5 cvs5 X5 r5 q5 => ?_
  refine call_hand (fi := fiMC) (fc := fc2) (s := { s with heap := h5, toks := tk5 }) G2 B2.lt (zM2 w.params v ws msg) O2 rfl r5 q5 fun fc3 h6 tk6 d7 d8 d9 O3 r6 => ?_
  have B3 : Room2 900 201 fc3.A := (B2.call d7 d8).dn (by decide)
  obtain ⟨f, gf, r7⟩ := r6.again (okC w.params v ws msg ρ5) (fun x l h => by cases h)
  have X5 : Ext ρ3 (rrS (rM1 w.params v ws msg)).n ρ5 (rrS (rM2 w.params v ws msg)).n := X5
  have a0 : ρ5 0 = ρ 0 := by rw [X5.2 0 (by lia), X3.2 0 (by lia), X2.2 0 hc2]
  have ak : ρ5 ((ksC v ws).getD 0 0) = ρ3 ((ksC v ws).getD 0 0) := X5.2 _ hc1
  have hro := gf.rep 0 0 _ rfl rfl
  have hsub : ∀ {rest6 : List (Addr × Obj)}, (∀ y ∈ restOf ρ5 [0] f fc3.rest, y ∈ rest6) → (∀ y ∈ fc.rest, y ∈ rest6) ∧ (ρ 0, f 0) ∈ rest6 := fun hk =>
    ⟨fun y hy => hk y (mem_restOf (by rw [d9, d6, d3]; exact hy)), by rw [← a0]; exact hk _ (new_restOf (.head _))⟩
  have hmm : ∀ {m : Nat} {ρ' : Nat → Addr} (y : Nm) (a : AV), look y mu' = some a → ∃ b, look y mu = some b ∧ ∀ u, RepV ρ (mkS0 mu ([.list none (ws.l.map .str)] ++ lastAO v) [] []).n b u → RepV ρ' m a u := fun y a hy => by
    obtain ⟨b, h5, h6⟩ := hmu y a hy
    exact ⟨b, h5, fun u ru => h6 u _ _ ru⟩
  refine moRun S ok hmsg hws hr ht hnm (fc := { fc3 with rest := restOf ρ5 [0] f fc3.rest }) (ρ := fun j => ρ5 ((ksC v ws).getD j 0)) (s := { s with heap := h6, toks := tk6 }) (O3.rst _) B3 r7 ?_
  have hm5 : ∀ {m : Nat} {ρ6 : Nat → Addr}, ρ6 0 = ρ5 ((ksC v ws).getD 0 0) → 0 < m → ∀ (y : Nm) (a : AV), look y hMu = some a → ∃ b, look y (rrS (rM1 w.params v ws msg)).mu = some b ∧ ∀ u, RepV ρ3 (rrS (rM1 w.params v ws msg)).n b u → RepV ρ6 m a u := fun e0 hm y a hy => by
    have hmem := look_mem hy
    simp only [hMu, List.mem_cons, Prod.mk.injEq, List.not_mem_nil, or_false] at hmem
    obtain ⟨rfl, rfl⟩ := hmem
    exact ⟨_, hc0, fun u ru => ⟨hm, by rw [ru.2, e0, ak]⟩⟩
  cases rs with
  | fail =>
    intro ρ6 h7 tk7 rest6 lg6 ve6 c0 c3 r8 hL hk
    obtain ⟨k1, k2⟩ := hsub hk
    have hn5 : ∀ mu, (mkS0 mu (hAO ve6 t lg6 []) [] []).n = 5 := fun _ => hA_n
    refine ⟨ρ6, mkS0 [] (hAO ve6 t lg6 []) [] [], rest6, [], r8, (fun y a hy => by cases hy), (fun y l h => by cases h), fun rb => ?_⟩
    refine ⟨ρ6, mkS0 [] (hAO ve6 t lg6 []) [] [], rest6, hMu, rb, hm5 c0 (by rw [hn5]; lia), (fun y l h => by cases h), fun rc => ?_⟩
    refine spliced_cons ?_
    refine S.e _ { fc1 with rest := rest6 } _ _ _ _ _ (mt_log w.params ve6 t lg6) trivial (O1.rst _) B1' ρ6 { s with heap := h7, toks := tk7 } _ rc fun ρ7 h8 tk8 v8 X8 r9 q9 => ?_
    refine spliced_nil ?_
    refine alloc_tup (fc := { fc1 with rest := rest6 }) (s := { s with heap := h8, toks := tk8 }) (xs := [.none, .ref 3]) r9 ⟨rfl, q9, trivial⟩ (by rw [sizeL]; simp) fun ρ9 h10 tk10 v9 X9 r10 q10 => ?_
    have r11 : Rel w.params fiM { fc1 with rest := rest6 } ρ9 (mkS0 hMu (hAO ve6 t lg6 [.tup [.none, .ref 3]]) [] []) h10 := by
      exact Eq.mp (by kernel_rfl) r10
    obtain ⟨f2, _, r12⟩ := r11.again (mt_fail ρ9 ve6 t lg6) hclM
    have r12 : Rel w.params fiM { fc1 with rest := rest6 } (fun j => ρ9 ([5, 3].getD j 0)) (mkS0 [] (failAO (renL ρ9 [5, 3] lg6)) [] []) h10 := r12
    rw [hL.con.ren] at r12
    refine ⟨_, _, rest6, mu', r12, hmm, (fun x l h => by rw [hcl0] at h; cases h), fun rd => ?_⟩
    have := H _ h10 tk10 rest6 lg6 (f 0) rd hL k1 k2 hro
    obtain rfl := q10.2
    rw [hn5]
    exact this
  | met x nl =>
    intro ρ6 h7 tk7 rest6 lg6 ve6 rows6 c0 c3 r8 hR hL hk
    obtain ⟨k1, k2⟩ := hsub hk
    have hn7 : ∀ mu, (mkS0 mu (hAO ve6 t lg6 [.list none rows6, .tup [.num 0, .int x, .ref 5]]) [] []).n = 7 := fun _ => hA_n
    refine ⟨ρ6, mkS0 [] (hAO ve6 t lg6 [.list none rows6, .tup [.num 0, .int x, .ref 5]]) [] [], rest6, [], r8, (fun y a hy => by cases hy), (fun y l h => by cases h), fun rb => ?_⟩
    refine ⟨ρ6, mkS0 [] (hAO ve6 t lg6 [.list none rows6, .tup [.num 0, .int x, .ref 5]]) [] [], rest6, hMu, rb, hm5 c0 (by rw [hn7]; lia), (fun y l h => by cases h), fun rc => ?_⟩
    refine spliced_cons ?_
    refine S.e _ { fc1 with rest := rest6 } _ _ _ _ _ (mt_logM w.params ve6 t lg6 _ _) trivial (O1.rst _) B1' ρ6 { s with heap := h7, toks := tk7 } _ rc fun ρ7 h8 tk8 v8 X8 r9 q9 => ?_
    refine spliced_nil ?_
    rw [hn7] at X8
    refine alloc_tup (fc := { fc1 with rest := rest6 }) (s := { s with heap := h8, toks := tk8 }) (xs := [.ref 6, .ref 3]) r9 ⟨⟨by rw [hn7]; lia, by rw [X8.2 6 (by lia)]; rfl⟩, q9, trivial⟩ (by rw [sizeL]; simp) fun ρ9 h10 tk10 v9 X9 r10 q10 => ?_
    have r11 : Rel w.params fiM { fc1 with rest := rest6 } ρ9 (mkS0 hMu (hAO ve6 t lg6 [.list none rows6, .tup [.num 0, .int x, .ref 5], .tup [.ref 6, .ref 3]]) [] []) h10 := by
      exact Eq.mp (by kernel_rfl) r10
    obtain ⟨f2, _, r12⟩ := r11.again (mt_met ρ9 ve6 t x rows6 lg6) hclM
    have r12 : Rel w.params fiM { fc1 with rest := rest6 } (fun j => ρ9 ([7, 6, 5, 3].getD j 0)) (mkS0 [] (metAO x (renL ρ9 [7, 6, 5, 3] rows6) (renL ρ9 [7, 6, 5, 3] lg6)) [] []) h10 := r12
    rw [hL.con.ren, hR.con.ren] at r12
    refine ⟨_, _, rest6, mu', r12, hmm, (fun x l h => by rw [hcl0] at h; cases h), fun rd => ?_⟩
    have := H _ h10 tk10 rest6 lg6 rows6 (f 0) rd hR hL k1 k2 hro
    obtain rfl := q10.2
    rw [hn7]
    exact this
end
end Mine
namespace Mine
open PySem PySem.W PyProof.Rows PySem.Calls PySem.Spec
/-! in how many ways a message can be parted -/
noncomputable def nWays : Nm := [119, 97, 121, 115]
noncomputable def nEnd : Nm := [101, 110, 100]
noncomputable def fiPA : FI := ⟨(fnx 605).sc, [(nMessage, 1), (nWays, 2), (nEnd, 3)], true, none⟩
noncomputable def paB : List Stmt := (fnx 605).body
noncomputable def paF : Stmt := hdS (dropS 1 paB)
noncomputable def ecA (ec : Option Int) : AO := .cell (ec.map .int)
noncomputable def paO (ws : Ws) (msg : Nm) (wl : AO) (ec : Option Int) (more : List AO) : List AO := [.list none (ws.l.map .str), .cell (some (.str msg)), .cell (some (.ref 4)), ecA ec, wl] ++ more
noncomputable def paMu : List (Nm × AV) := [(nWords, .ref 0)]
noncomputable def paSt (ws : Ws) (msg : Nm) (wl : AO) (ec : Option Int) (more : List AO) (or : List Nat) (ov : List AV) : St := mkS0 paMu (paO ws msg wl ec more) or ov
noncomputable def pa0 (ws : Ws) (msg : Nm) : St := mkS0 paMu [.list none (ws.l.map .str), .cell (some (.str msg)), .cell none, .cell none] [] []
theorem paB_eq : (fnx 605).body = hdS paB :: paF :: dropS 2 paB := by kernel_rfl
/-- what comes of a word at a place -/
inductive Oc where
  | long
  | no
  | hit (y : Int)
noncomputable def Oc.or : Oc → List Nat
  | .long => [0]
  | .no => [1, 0]
  | .hit _ => [1, 1]
noncomputable def Oc.vs : Oc → List Int
  | .hit y => [y]
  | _ => []
noncomputable def Oc.ps (msg : Nm) (p : List AV) (x : Int) (a : Nm) : Oc → List Prop
  | .long => [a.length < 2 ^ 62, ¬ (a.length : Int) ≤ x]
  | .no => [a.length < 2 ^ 62, (a.length : Int) ≤ x, a.length < 2 ^ 62, 0 ≤ x - (a.length : Int) ∧ x - (a.length : Int) < 2 ^ 62, 0 ≤ x ∧ x < 2 ^ 62, msg.length ≤ sizeLine, ¬ (msg.take x.toNat).drop (x - (a.length : Int)).toNat = a]
  | .hit y => [a.length < 2 ^ 62, (a.length : Int) ≤ x, a.length < 2 ^ 62, 0 ≤ x - (a.length : Int) ∧ x - (a.length : Int) < 2 ^ 62, 0 ≤ x ∧ x < 2 ^ 62, msg.length ≤ sizeLine, (msg.take x.toNat).drop (x - (a.length : Int)).toNat = a,
      a.length < 2 ^ 62, 0 ≤ x - (a.length : Int) ∧ x - (a.length : Int) < 2 ^ 62 ∧ (itm (some p) [])[(x - (a.length : Int)).toNat]? = some (.int y)]
noncomputable def orsO : List Oc → List Nat
  | [] => []
  | o :: r => o.or ++ orsO r
noncomputable def valsO : List Oc → List Int
  | [] => []
  | o :: r => o.vs ++ valsO r
noncomputable def pssO (msg : Nm) (p : List AV) (x : Int) : List Nm → List Oc → List Prop
  | a :: l, o :: r => o.ps msg p x a ++ pssO msg p x l r
  | _, _ => []
section
variable (P : Params) (ρ : Nat → Addr) (ws : Ws) (msg : Nm)
set_option tactic.hygienic true in
theorem pa_one : outc ρ [0, 1, 2, 3, 4] [] [nWords] ((evT P).s fiPA (hdS paB) (pa0 ws msg)) = some (paSt ws msg (.list none [.num 1]) none [] [] [], [], .next, []) := by cases ws <;> kernel_rfl
theorem pa_for : outc ρ [0, 1, 2, 3, 4, 6] [] [nWords] (startFr (evT P) fiPA (forI paF) (paSt ws msg (.list (some [.int 1]) []) none [] [] [])) =
    some (paSt ws msg (.list (some [.int 1]) []) none [.riter false 1 (if (1 : Int) < (msg.length : Int) + 1 then (msg.length : Int) + 1 - 1 else 0)] [] [], [], .ref 6, [msg.length < 2 ^ 62, -(2 ^ 62) ≤ (msg.length : Int) + 1 ∧ (msg.length : Int) + 1 < 2 ^ 62]) := by cases ws <;> kernel_rfl
noncomputable def paL (p : List AV) (ec : Option Int) (x left : Int) (os : List Oc) : Option (St × List EO × Option AFl × List Prop) := outc ρ [0, 1, 2, 3, 4, 5] [] [nWords] (turnFr (evT P) fiPA (forT paF) 5 (forB paF) (paSt ws msg (.list (some p) []) ec [.riter false x left] (1 :: orsO os) ((valsO os).map .int)))
noncomputable def paR (p : List AV) (x left : Int) (os : List Oc) : Option (St × List EO × Option AFl × List Prop) := some (paSt ws msg (.list (some (absorb (renL ρ [0, 1, 2, 3, 4, 5] p) [.int (valsO os).sum])) []) (some x) [.riter false (x + 1) (left - 1)] [] [], [], some .next, (0 < left) :: (pssO msg p x ws.l os ++ [(itm (some p) []).length ≤ sizeLine]))
theorem pa_turn0 (p : List AV) (ec : Option Int) (x left : Int) : ∀ os : List Oc, os.length = ws.l.length → paL P ρ ws msg p ec x left os = paR ρ ws msg p x left os := by
  cases ws with
  | w1 a =>
    intro os h
    obtain ⟨o, rfl⟩ := List.length_eq_one_iff.mp h
    cases o <;> kernel_rfl
  | w2 a b =>
    intro os h
    obtain ⟨o, l, rfl⟩ := List.exists_cons_of_length_eq_add_one h
    obtain ⟨o', rfl⟩ := List.length_eq_one_iff.mp (Nat.succ.inj h)
    cases o <;> cases o' <;> kernel_rfl
  | w3 a b c =>
    intro os h
    obtain ⟨o, l, rfl⟩ := List.exists_cons_of_length_eq_add_one h
    have h := Nat.succ.inj h
    obtain ⟨o', l, rfl⟩ := List.exists_cons_of_length_eq_add_one h
    obtain ⟨o'', rfl⟩ := List.length_eq_one_iff.mp (Nat.succ.inj h)
    cases o <;> cases o' <;> cases o'' <;> kernel_rfl
set_option tactic.hygienic true in
theorem pa_turn (p : List AV) (ec : Option Int) (x left : Int) (os : List Oc) (h : os.length = ws.l.length) : outc ρ [0, 1, 2, 3, 4, 5] [] [nWords] (turnFr (evT P) fiPA (forT paF) 5 (forB paF) (paSt ws msg (.list (some p) []) ec [.riter false x left] (1 :: orsO os) ((valsO os).map .int))) =
    some (paSt ws msg (.list (some (absorb (renL ρ [0, 1, 2, 3, 4, 5] p) [.int (valsO os).sum])) []) (some x) [.riter false (x + 1) (left - 1)] [] [], [], some .next, (0 < left) :: (pssO msg p x ws.l os ++ [(itm (some p) []).length ≤ sizeLine])) := pa_turn0 P ρ ws msg p ec x left os h
theorem pa_end (p : List AV) (ec : Option Int) (x left : Int) : outc ρ [0, 1, 2, 3, 4] [] [nWords] (turnFr (evT P) fiPA (forT paF) 5 (forB paF) (paSt ws msg (.list (some p) []) ec [.riter false x left] [0] [])) =
    some (paSt ws msg (.list (some (renL ρ [0, 1, 2, 3, 4] p)) []) ec [] [] [], [], none, [¬ 0 < left]) := by cases ws <;> cases ec <;> kernel_rfl
theorem pa_ret (p : List AV) (ec : Option Int) (y : Int) : outc ρ [0, 1, 2, 3, 4] [] [] ((evT P).ss fiPA (dropS 2 paB) (paSt ws msg (.list (some p) []) ec [] [] [.int y])) =
    some (mkS0 [] (paO ws msg (.list (some (renL ρ [0, 1, 2, 3, 4] p)) []) ec []) [] [], [], .ret (.int y), [msg.length < 2 ^ 62, 0 ≤ (msg.length : Int) ∧ (msg.length : Int) < 2 ^ 62 ∧ (itm (some p) [])[(msg.length : Int).toNat]? = some (.int y)]) := by cases ws <;> cases ec <;> kernel_rfl
end
end Mine
namespace Mine
open PySem PySem.W PyProof.Rows PySem.Calls PySem.Spec
noncomputable def ocW (msg : Nm) (W : List Int) (x : Nat) (a : Nm) : Oc := if a.length ≤ x then (if (msg.take x).drop (x - a.length) = a then .hit (W.getD (x - a.length) 0) else .no) else .long
noncomputable def ocsW (l : List Nm) (msg : Nm) (W : List Int) (x : Nat) : List Oc := l.map (ocW msg W x)
theorem pa_n {ws : Ws} {msg : Nm} {wl : AO} {ec : Option Int} {more : List AO} : (paSt ws msg wl ec more [] []).n = 5 + more.length := by simp [paSt, mkS0, paO]; omega
/-- the ways up to each place -/
noncomputable def partN (l : List Nm) (msg : Nm) : Nat → List Int
  | 0 => [1]
  | n + 1 => partN l msg n ++ [(valsO (ocsW l msg (partN l msg n) (n + 1))).sum]
noncomputable def parted (l : List Nm) (msg : Nm) : Int := (partN l msg msg.length).getD msg.length 0
theorem partN_len (l : List Nm) (msg : Nm) : ∀ n, (partN l msg n).length = n + 1
  | 0 => rfl
  | n + 1 => by simp [partN, partN_len l msg n]
theorem renL_ints (ρ : Nat → Addr) (ks : List Nat) : ∀ W : List Int, renL ρ ks (W.map .int) = W.map .int
  | [] => rfl
  | _ :: r => congrArg (_ :: ·) (renL_ints ρ ks r)
set_option tactic.hygienic true in
theorem pssO_ok {msg : Nm} {W : List Int} {k : Nat} (hW : W.length = k + 1) (hk : k + 1 ≤ msg.length) (hm : msg.length ≤ 1000) : ∀ {l : List Nm}, (∀ a ∈ l, a ≠ [] ∧ a.length ≤ 100) → Ps (pssO msg (W.map .int) ((k + 1 : Nat) : Int) l (ocsW l msg W (k + 1)))
  | [], _ => trivial
  | a :: l, h => by
    have ih := pssO_ok hW hk hm (l := l) fun b hb => h b (.tail _ hb)
    obtain ⟨h1, h2⟩ := h a (.head _)
    have h1 : 1 ≤ a.length := Nat.one_le_iff_ne_zero.mpr fun q => h1 (List.length_eq_zero_iff.mp q)
    show Ps ((ocW msg W (k + 1) a).ps msg (W.map .int) ((k + 1 : Nat) : Int) a ++ pssO msg (W.map .int) ((k + 1 : Nat) : Int) l (ocsW l msg W (k + 1)))
    refine Ps.join ?_ ih
    have e1 : ((k + 1 : Nat) : Int).toNat = k + 1 := by lia
    have e2 : a.length ≤ k + 1 → (((k + 1 : Nat) : Int) - (a.length : Int)).toNat = k + 1 - a.length := fun _ => by lia
    have hsz : msg.length ≤ sizeLine := by rw [sizeL]; lia
    unfold ocW
    split
    · rename_i hl
      split
      · rename_i hs
        refine ⟨by lia, by lia, by lia, ⟨by lia, by lia⟩, ⟨by lia, by lia⟩, hsz, by rw [e1, e2 hl]; exact hs, by lia, ⟨by lia, by lia, ?_⟩, trivial⟩
        rw [e2 hl]
        show (W.map AV.int ++ [])[_]? = _
        rw [List.append_nil, List.getElem?_map, List.getD_eq_getElem?_getD, List.getElem?_eq_getElem (by lia)]
        rfl
      · rename_i hs
        exact ⟨by lia, by lia, by lia, ⟨by lia, by lia⟩, ⟨by lia, by lia⟩, hsz, by rw [e1, e2 hl]; exact hs, trivial⟩
    · exact ⟨by lia, by lia, trivial⟩
section
variable {prog : Program} {w : World} {K : Frag} {p : Program} {loose : List Str} {mean : ExcName → Option Value} {mg mb : Str → Option Value}
theorem hclP {ks : List Nat} (h1 : ks[1]? = some 1) (h2 : ks[2]? = some 2) (h3 : ks[3]? = some 3) : ∀ x l, look x fiPA.cl = some l → ks[l]? = some l := fun x l h => by
  have hm := look_mem h
  simp only [fiPA, List.mem_cons, Prod.mk.injEq, List.not_mem_nil, or_false] at hm
  rcases hm with ⟨_, rfl⟩ | ⟨_, rfl⟩ | ⟨_, rfl⟩ <;> assumption
set_option tactic.hygienic true in
theorem paLoop (S : Snd prog w K p loose mean mg mb 900 200 (evs (T2 w.params) 200)) {ws : Ws} {msg : Nm} (hm : msg.length ≤ 1000) (hws : ∀ u ∈ ws.l, u ≠ [] ∧ u.length ≤ 100) {fc : FC} (O : FrOk K p loose mean mg mb fiPA fc) (B : Room2 900 200 fc.A) {Q : Flow → Shared → Prop} :
    ∀ (n : Nat) {k : Nat} {ec : Option Int} {ρ : Nat → Addr} {s : Shared}, k + n = msg.length → Rel w.params fiPA fc ρ (paSt ws msg (.list (some ((partN ws.l msg k).map .int)) []) ec [.riter false ((k + 1 : Nat) : Int) (n : Int)] [] []) s.heap →
    (∀ ρ' h' tk ec', (∀ j, j < 5 → ρ' j = ρ j) → Rel w.params fiPA fc ρ' (paSt ws msg (.list (some ((partN ws.l msg msg.length).map .int)) []) ec' [] [] []) h' → Q .next { s with heap := h', toks := tk }) →
    codeAny (model prog w) fc.A (.forLoop (forT paF) (.ref (ρ 5)) (forB paF) [] fc.env) (fun r s' => match r with | .ok f => Q f s' | .error _ => False) s
  | 0, k, ec, ρ, s, hk, r, H => by
    obtain rfl : k = msg.length := by lia
    have r1 := r.mus (fun _ _ h => h) [0] []
    refine fr_end S O (hev := fun ρ' => pa_end w.params ρ' ws msg _ ec _ _) (fun _ _ => ⟨by lia, trivial⟩) (hclP rfl rfl rfl) r1 fun h' tk f _ r2 => ?_
    have r2 : Rel w.params fiPA fc (fun j => ρ ([0, 1, 2, 3, 4].getD j 0)) (paSt ws msg (.list (some (renL ρ [0, 1, 2, 3, 4] ((partN ws.l msg msg.length).map .int))) []) ec [] [] []) h' := r2
    rw [renL_ints] at r2
    have hj : ∀ j, j < 5 → [0, 1, 2, 3, 4].getD j 0 = j := by decide
    exact H _ h' tk ec (fun j hj' => by show ρ ([0, 1, 2, 3, 4].getD j 0) = _; rw [hj j hj']) r2
  | n + 1, k, ec, ρ, s, hk, r, H => by
    have hlen : (ocsW ws.l msg (partN ws.l msg k) (k + 1)).length = ws.l.length := by simp [ocsW]
    have r1 := r.mus (fun _ _ h => h) (1 :: orsO (ocsW ws.l msg (partN ws.l msg k) (k + 1))) ((valsO (ocsW ws.l msg (partN ws.l msg k) (k + 1))).map .int)
    have hP : Ps ((0 < ((n + 1 : Nat) : Int)) :: (pssO msg ((partN ws.l msg k).map .int) ((k + 1 : Nat) : Int) ws.l (ocsW ws.l msg (partN ws.l msg k) (k + 1)) ++ [(itm (some ((partN ws.l msg k).map AV.int)) []).length ≤ sizeLine])) :=
      ⟨by lia, Ps.join (pssO_ok (partN_len _ _ _) (by lia) hm hws) ⟨by rw [sizeL]; simp [itm, partN_len]; lia, trivial⟩⟩
    have hn6 : (paSt ws msg (.list (some ((partN ws.l msg k).map .int)) []) ec [.riter false ((k + 1 : Nat) : Int) ((n + 1 : Nat) : Int)] [] []).n = 6 := pa_n
    refine fr_next (k' := 5) S O B (hev := fun ρ' => pa_turn w.params ρ' ws msg _ ec _ _ _ hlen) (Nat.lt_of_lt_of_eq (by decide : 5 < 6) hn6.symm) rfl (fun _ _ => hP) (hclP rfl rfl rfl) r1 fun ρ' h' tk f X' _ r2 => ?_
    have r2 : Rel w.params fiPA fc (fun j => ρ' ([0, 1, 2, 3, 4, 5].getD j 0)) (paSt ws msg (.list (some (absorb (renL ρ' [0, 1, 2, 3, 4, 5] ((partN ws.l msg k).map .int)) [.int (valsO (ocsW ws.l msg (partN ws.l msg k) (k + 1))).sum])) []) (some ((k + 1 : Nat) : Int)) [.riter false (((k + 1 : Nat) : Int) + 1) (((n + 1 : Nat) : Int) - 1)] [] []) h' := r2
    rw [renL_ints, absorb_eq, show ((k + 1 : Nat) : Int) + 1 = ((k + 1 + 1 : Nat) : Int) by lia, show ((n + 1 : Nat) : Int) - 1 = (n : Int) by lia, show (partN ws.l msg k).map AV.int ++ [.int (valsO (ocsW ws.l msg (partN ws.l msg k) (k + 1))).sum] = (partN ws.l msg (k + 1)).map AV.int by simp [partN]] at r2
    have hj : ∀ j, j < 6 → [0, 1, 2, 3, 4, 5].getD j 0 = j := by decide
    have e5 : ∀ j, j < 6 → ρ' ([0, 1, 2, 3, 4, 5].getD j 0) = ρ j := fun j hj' => by rw [hj j hj']; exact X'.2 j (Nat.lt_of_lt_of_eq hj' hn6.symm)
    exact paLoop S hm hws O B n (s := { s with heap := h', toks := tk }) (ρ := fun j => ρ' ([0, 1, 2, 3, 4, 5].getD j 0)) (k := k + 1) (by lia) r2 fun ρ2 h2 tk2 ec2 c1 c2 => H ρ2 h2 tk2 ec2 (fun j hj' => (c1 j hj').trans (e5 j (by lia))) c2
end
end Mine
namespace Mine
open PySem PySem.W PyProof.Rows PySem.Calls PySem.Spec
theorem pa_end2 (ρ : Nat → Addr) (ws : Ws) (msg : Nm) (p : List AV) (ec : Option Int) : outc ρ [] [0] [] (ret () (mkS0 [] (paO ws msg (.list (some p) []) ec []) [] [])) = some (mkS0 [] [] [] [], [.mu (.list none (ws.l.map .str))], (), []) := by cases ws <;> cases ec <;> kernel_rfl
section
variable {prog : Program} {w : World} {K : Frag} {p : Program} {loose : List Str} {mean : ExcName → Option Value} {mg mb : Str → Option Value}
/-- the body, from the frame's start -/
theorem paWalk (S : Snd prog w K p loose mean mg mb 900 200 (evs (T2 w.params) 200)) {ws : Ws} {msg : Nm} (hm : msg.length ≤ 1000) (hws : ∀ u ∈ ws.l, u ≠ [] ∧ u.length ≤ 100) {fc : FC} (O : FrOk K p loose mean mg mb fiPA fc) (B : Room2 900 200 fc.A) {ρ : Nat → Addr} {s : Shared} {Q : Flow → Shared → Prop}
    (r : Rel w.params fiPA fc ρ (pa0 ws msg) s.heap)
    (H : ∀ ρ' h' tk ec u n, ρ' 0 = ρ 0 → Rel w.params fiPA fc ρ' (mkS0 [] (paO ws msg (.list (some ((partN ws.l msg msg.length).map .int)) []) ec []) [] []) h' → RepV ρ n (.int (parted ws.l msg)) u → Q (.ret u) { s with heap := h', toks := tk }) :
    wpAny (model prog w) fc.A (execs (fnx 605).body fc.env) Q NoE s := by
  obtain ⟨pos, e0, ep⟩ : (∃ pos, paF = .For (forT paF) (forI paF) (forB paF) [] pos ∧ plainIt (forI paF) = true) := ⟨_, rfl, by kernel_rfl⟩
  rw [paB_eq]
  refine wpAny_execs_cons (out_turn (sndF_s S O B (hdS paB)) (hev := fun ρ' => pa_one w.params ρ' ws msg) (fun _ _ => trivial) (hclP rfl rfl rfl) r fun ρ1 h1 tk1 f1 v1 m1 X1 _ r1 q1 => ?_)
  obtain rfl := q1
  have r1 : Rel w.params fiPA fc (fun j => ρ1 ([0, 1, 2, 3, 4].getD j 0)) (paSt ws msg (.list none [.num 1]) none [] [] []) h1 := r1
  have r1 := r1.view (l := 4) (p := none) (xs := [.num 1]) (p' := some [.int 1]) (xs' := []) (by kernel_rfl) (fun vs hv => All2.map2 (a := [AV.num 1]) ⟨fun _ q => q, trivial⟩ hv)
  have r1 : Rel w.params fiPA fc (fun j => ρ1 ([0, 1, 2, 3, 4].getD j 0)) (paSt ws msg (.list (some [.int 1]) []) none [] [] []) h1 := Eq.mp (by kernel_rfl) r1
  refine wpAny_execs_cons ?_
  rw [e0]
  refine for_out (k' := 5) (s := { s with heap := h1, toks := tk1 }) S O B ep (hev := fun ρ' => pa_for w.params ρ' ws msg) rfl (fun _ _ => ⟨by lia, ⟨by lia, by lia⟩, trivial⟩) (hclP rfl rfl rfl) r1 fun ρ2 h2 tk2 f2 X2 _ r2 => ?_
  have r2 : Rel w.params fiPA fc (fun j => ρ2 ([0, 1, 2, 3, 4, 6].getD j 0)) (paSt ws msg (.list (some [.int 1]) []) none [.riter false 1 (if (1 : Int) < (msg.length : Int) + 1 then (msg.length : Int) + 1 - 1 else 0)] [] []) h2 := r2
  rw [show (if (1 : Int) < (msg.length : Int) + 1 then (msg.length : Int) + 1 - 1 else 0) = (msg.length : Int) by split <;> lia] at r2
  have n5 : (paSt ws msg (.list (some [.int 1]) []) none [] [] []).n = 5 := pa_n
  have c2 : ρ2 0 = ρ 0 := (X2.2 0 (Nat.lt_of_lt_of_eq (by decide : 0 < 5) n5.symm)).trans (X1.2 0 (by show 0 < 4; decide))
  refine paLoop S hm hws O B msg.length (k := 0) (s := { s with heap := h2, toks := tk2 }) (by lia) r2 fun ρ3 h3 tk3 ec3 c3 r3 => ?_
  have r3 := r3.mus (fun _ _ h => h) [] [.int (parted ws.l msg)]
  have hP : Ps [msg.length < 2 ^ 62, 0 ≤ (msg.length : Int) ∧ (msg.length : Int) < 2 ^ 62 ∧ (itm (some ((partN ws.l msg msg.length).map AV.int)) [])[(msg.length : Int).toNat]? = some (.int (parted ws.l msg))] := by
    refine ⟨by lia, ⟨by lia, by lia, ?_⟩, trivial⟩
    rw [show (msg.length : Int).toNat = msg.length by lia]
    show ((partN ws.l msg msg.length).map AV.int ++ [])[_]? = _
    unfold parted
    rw [List.append_nil, List.getElem?_map, List.getD_eq_getElem?_getD, List.getElem?_eq_getElem (by rw [partN_len]; lia)]
    rfl
  refine out_turn (s := { s with heap := h3, toks := tk3 }) (sndF_ss S O B (dropS 2 paB)) (hev := fun ρ' => pa_ret w.params ρ' ws msg _ ec3 _) (fun _ _ => hP) (hclP rfl rfl rfl) r3 fun ρ4 h4 tk4 f4 v4 m4 X4 _ r4 q4 => ?_
  obtain ⟨u, rfl, ru⟩ := q4
  have r4 : Rel w.params fiPA fc (fun j => ρ4 ([0, 1, 2, 3, 4].getD j 0)) (mkS0 [] (paO ws msg (.list (some (renL ρ4 [0, 1, 2, 3, 4] ((partN ws.l msg msg.length).map .int))) []) ec3 []) [] []) h4 := r4
  rw [renL_ints] at r4
  have n3 : (paSt ws msg (.list (some ((partN ws.l msg msg.length).map .int)) []) ec3 [] [] []).n = 5 := pa_n
  exact H (fun j => ρ4 ([0, 1, 2, 3, 4].getD j 0)) h4 tk4 ec3 u m4 ((X4.2 0 (Nat.lt_of_lt_of_eq (by decide : 0 < 5) n3.symm)).trans ((c3 0 (by lia)).trans c2)) r4 ru
theorem partedCall (S : Snd prog w K p loose mean mg mb 900 200 (evs (T2 w.params) 200)) (G : FnRecC K 605 (fnx 605)) {ws : Ws} {msg : Nm} (hm : msg.length ≤ 1000) (hws : ∀ u ∈ ws.l, u ≠ [] ∧ u.length ≤ 100) {fi : FI} (own : fi.own = true) {fc : FC} {ρ : Nat → Addr} {st : St} {s : Shared} {l : Nat} {cvs : List Value} {Q : Value → Shared → Prop}
    (O : FrOk K p loose mean mg mb fi fc) (B : Room2 900 210 fc.A) (r : Rel w.params fi fc ρ st s.heap) (hl : st.sg.get l = .list none (ws.l.map .str)) (rv : All2 (RepV ρ st.n) [.ref l, .str msg] cvs)
    (H : ∀ h' tk u, Rel w.params fi fc ρ { st with imm := fun _ _ => False } h' → RepV ρ st.n (.int (parted ws.l msg)) u → Q u { s with heap := h', toks := tk }) : wpAny (model prog w) fc.A (call (.ref 605) cvs) Q NoE s := by
  refine call_c3 G (x := nWords) (y := nMessage) (u := nWays) (v := nEnd) (by kernel_rfl) (by kernel_rfl) (by kernel_rfl) (fun n => by kernel_rfl) (by decide) (by decide) (by decide) (by decide) B.lt O own r rv fun fc' h1 tk1 L' o0 o1 o2 vb d1 d2 d3 e0 rb e1 e2 ecells hlt hrest O1 r1 => ?_
  have B1 : Room2 900 200 fc'.A := (B.call d1 d2).dn (by decide)
  obtain ⟨led, ol, hne, hadr, p1, p2⟩ := r1.park (l := l) (ts := ws.l) hl
  have hlen : l < st.n := by obtain ⟨m, os, R⟩ := r; exact R.lt (by rw [hl]; intro q; cases q)
  have rP := p1 ⟨(fnx 605).sc, [], true, none⟩ paMu rfl (fun x a hx => by
    have hmm := look_mem hx
    simp only [paMu, List.mem_cons, Prod.mk.injEq, List.not_mem_nil, or_false] at hmm
    obtain ⟨rfl, rfl⟩ := hmm
    exact ⟨.ref l, by kernel_rfl, fun u h => ⟨Nat.zero_lt_one, h.2⟩⟩)
  have hled : ∀ y ∈ led, y.1 < L' := fun y hy => by
    obtain ⟨i, h1, h2⟩ := hadr y hy
    rw [h2]; exact hlt i h1
  rw [d3] at rP p2
  have q1 := rP.impM (a := L' + 1) (o := o0) (ao := .cell (some (.str msg))) (rest := [(L' + 1 + 1 + 1, o2), (L' + 1 + 1, o1)] ++ (led ++ fc.rest)) (by simp) (fun q hq => ?_) rfl (fun _ q => by cases q) ⟨vb, e0, rb⟩
  · have q2 := q1.impM (a := L' + 1 + 1) (o := o1) (ao := .cell none) (rest := [(L' + 1 + 1 + 1, o2)] ++ (led ++ fc.rest)) (by simp) (fun q hq => ?_) rfl (fun _ q => by cases q) e1
    · have q3 := q2.impM (a := L' + 1 + 1 + 1) (o := o2) (ao := .cell none) (rest := led ++ fc.rest) (by simp) (fun q hq => ?_) rfl (fun _ q => by cases q) e2
      · have q4 : Rel w.params ⟨(fnx 605).sc, [], true, none⟩ { fc' with rest := led ++ fc.rest } (upR (upR (upR (fun _ => ρ l) 1 (L' + 1)) 2 (L' + 1 + 1)) 3 (L' + 1 + 1 + 1)) (pa0 ws msg) h1 := Eq.mp (by kernel_rfl) q3
        have q5 : Rel w.params fiPA { fc' with rest := led ++ fc.rest } (upR (upR (upR (fun _ => ρ l) 1 (L' + 1)) 2 (L' + 1 + 1)) 3 (L' + 1 + 1 + 1)) (pa0 ws msg) h1 := q4.cls fun x j hx => by
          have hmm := look_mem hx
          simp only [fiPA, List.mem_cons, Prod.mk.injEq, List.not_mem_nil, or_false] at hmm
          show j < 4 ∧ fc'.env.cells.lookup (stn x) = _
          rw [ecells]
          rcases hmm with ⟨rfl, rfl⟩ | ⟨rfl, rfl⟩ | ⟨rfl, rfl⟩
          · exact ⟨by decide, by kernel_rfl⟩
          · exact ⟨by decide, by kernel_rfl⟩
          · exact ⟨by decide, by kernel_rfl⟩
        refine paWalk (fc := { fc' with rest := led ++ fc.rest }) (s := { s with heap := h1, toks := tk1 }) S hm hws (O1 fiPA _ rfl rfl rfl) B1 q5 fun ρ' h' tk ec u n c0 rr ru => ?_
        obtain ⟨f, gf, r9⟩ := (rr.cl0 (fi' := ⟨(fnx 605).sc, [], true, none⟩) rfl).again (pa_end2 ρ' ws msg _ ec) (fun x l h => by cases h)
        have hro := gf.rep 0 0 _ rfl rfl
        have back := p2 _ ⟨(fnx 605).sc, [], true, none⟩ _ _ (restOf ρ' [0] f (led ++ fc.rest)) fc.rest h' (f 0) rfl r9 (fun y hy => mem_restOf (List.mem_append_left _ hy)) (fun y hy => ⟨mem_restOf (List.mem_append_right _ hy), List.mem_append_right _ hy⟩)
          (by have : ρ' 0 = ρ l := c0; rw [← this]; exact new_restOf (.head _)) hro
        refine ⟨ρ, _, fc.rest, st.mu, back, fun x a hx => ⟨a, hx, fun u h => h⟩, fun x j hx => ?_, fun rb => H h' tk u rb ru⟩
        obtain ⟨m, os, R⟩ := r
        exact ⟨(R.cl x j hx).1, rfl⟩
      · rcases List.mem_append.mp hq with h | h
        · exact ⟨List.mem_append_right _ hq, (ad1 (hled q h)).2.2⟩
        · exact ⟨List.mem_append_right _ hq, (ad1 (hrest q h)).2.2⟩
    · rcases List.mem_append.mp hq with h | h
      · simp only [List.mem_cons, List.not_mem_nil, or_false] at h
        subst h
        exact ⟨by simp, (ad2 L').2.2⟩
      · rcases List.mem_append.mp h with h' | h'
        · exact ⟨List.mem_append_right _ h, (ad1 (hled q h')).2.1⟩
        · exact ⟨List.mem_append_right _ h, (ad1 (hrest q h')).2.1⟩
  · rcases List.mem_append.mp hq with h | h
    · simp only [List.mem_cons, List.not_mem_nil, or_false] at h
      rcases h with rfl | rfl
      · exact ⟨by simp, (ad2 L').1⟩
      · exact ⟨by simp, (ad2 L').2.1⟩
    · rcases List.mem_append.mp h with h' | h'
      · exact ⟨List.mem_append_left _ h', (ad1 (hled q h')).1⟩
      · exact ⟨List.mem_append_right _ (List.mem_append_right _ h'), (ad1 (hrest q h')).1⟩
end
end Mine
namespace Mine
open PySem PySem.W PyProof.Rows PySem.Calls PySem.Spec
/-! all ways in which a message is met -/
noncomputable def fiWY : FI := ⟨(fnx 619).sc, [], true, none⟩
noncomputable def wyB : List Stmt := (fnx 619).body
noncomputable def cmpL (e : Expr) : Expr := nthE 0 (kEs e)
noncomputable def cmpR (e : Expr) : Expr := nthE 1 (kEs e)
noncomputable def binL (e : Expr) : Expr := nthE 0 (kEs e)
noncomputable def binR (e : Expr) : Expr := nthE 1 (kEs e)
noncomputable def wyE : Expr := rtE (hdS (dropS 1 wyB))
noncomputable def wyT : List Expr := tupE (cmpR wyE)
noncomputable def wyMul : Expr := nthE 1 wyT
theorem wyB_eq : (fnx 619).body = hdS wyB :: hdS (dropS 1 wyB) :: [] := by kernel_rfl
noncomputable def wyMu (msg : Nm) (more : List (Nm × AV)) (a : AV) : List (Nm × AV) := [(nWords, a), (nMessage, .str msg)] ++ more
set_option tactic.hygienic true in
theorem wy_one (P : Params) (ρ : Nat → Addr) (ws : Ws) (msg : Nm) : outc ρ [0, 2, 1, 3, 4, 5] [] [nWords, nMessage, nLast] ((evT P).s fiWY (hdS wyB) (oneSt (wyMu msg [] (.ref 0)) ws.l)) =
    some (mkS0 (wyMu msg [(nLast, .ref 5)] (.ref 0)) ([.list none (ws.l.map .str)] ++ lastAO true) [] [], [], .next, []) := by cases ws <;> kernel_rfl
theorem wy_args (P : Params) (ws : Ws) (msg : Nm) : argsE (evT P) fiWY (caA (cmpL wyE)) (mkS0 (wyMu msg [(nLast, .ref 5)] (.ref 0)) ([.list none (ws.l.map .str)] ++ lastAO true) [] []) =
    some ([.ref 0, .str msg, .ref 5], mkS0 (wyMu msg [(nLast, .ref 5)] (.ref 0)) ([.list none (ws.l.map .str)] ++ lastAO true) [] [], []) := by cases ws <;> kernel_rfl
/-- behind the match: what is compared -/
noncomputable def wyAO (ws : Ws) (lg : List AV) (more : List AO) : List AO := failAO lg ++ [.list none (ws.l.map .str)] ++ more
noncomputable def wySt (ws : Ws) (msg : Nm) (lg : List AV) (more : List AO) (or : List Nat) : St := mkS0 (wyMu msg [] (.ref 2)) (wyAO ws lg more) or []
noncomputable def wyNew (msg : Nm) : List AO := [.tup [.txt kE, .int (msg.length : Int)], .list none [.ref 3]]
section
variable (P : Params) (ws : Ws) (msg : Nm) (lg : List AV)
theorem wy_e0 : (evT P).e fiWY (nthE 0 wyT) (wySt ws msg lg [] []) = some (.none, wySt ws msg lg [] [], []) := by cases ws <;> kernel_rfl
theorem wy_e1 : (evT P).e fiWY (binL wyMul) (wySt ws msg lg [] []) = some (.ref 4, wySt ws msg lg (wyNew msg) [], [msg.length < 2 ^ 62]) := by cases ws <;> kernel_rfl
theorem wy_a2 : argsE (evT P) fiWY (caA (binR wyMul)) (wySt ws msg lg (wyNew msg) []) = some ([.ref 2, .str msg], wySt ws msg lg (wyNew msg) [], []) := by cases ws <;> kernel_rfl
noncomputable def wyAll (rp : List AV) : List AO := wyNew msg ++ [.list (some rp) [], .tup [.none, .ref 5]]
theorem wy_end (ρ : Nat → Addr) (rp : List AV) (imm : Nat → List AV → Prop) : outc ρ [] [2] [] (ret () (withImm (wySt ws msg lg (wyAll msg rp) []) imm)) = some (mkS0 [] [] [] [], [.mu (.list none (ws.l.map .str))], (), []) := by cases ws <;> kernel_rfl
theorem wy_cmp (T : PT) (rp : List AV) (imm : Nat → List AV → Prop) : cmp T .Eq (.ref 0) (.ref 6) (withImm (wySt ws msg lg (wyAll msg rp) [1]) imm) = some (.bool true, withImm (wySt ws msg lg (wyAll msg rp) []) imm, [DatEq (wySt ws msg lg (wyAll msg rp) []).sg imm (.ref 0) (.ref 6) true]) := by cases ws <;> kernel_rfl
end
noncomputable def logD (x : Nat) (n : Nat) : PyData := .list (List.replicate n (.tuple [.str (stn kE), .int x]))
theorem logD_row (x : Nat) : rowD (.tuple [.str (stn kE), .int x]) := fun d hd => by
  simp only [List.mem_cons, List.not_mem_nil, or_false] at hd
  rcases hd with rfl | rfl
  · exact strOk_of (fun c hc => by simp only [kE, List.mem_cons, List.not_mem_nil, or_false] at hc; lia)
  · trivial
theorem wy_dat (ws : Ws) (msg : Nm) {lg : List AV} {n : Nat} {imm : Nat → List AV → Prop} (h : lg.length = n) (hi : ∀ a ∈ lg, ∃ c, a = .con (.ref c) ∧ imm c [.txt kE, .int (msg.length : Int)]) :
    DatEq (wySt ws msg lg (wyAll msg (List.replicate n (.ref 3))) []).sg imm (.ref 0) (.ref 6) true := by
  have get : ∀ j a, (Tr.ofL 0 .nil (wyAO ws lg (wyAll msg (List.replicate n (.ref 3))))).get j = a → (wySt ws msg lg (wyAll msg (List.replicate n (.ref 3))) []).sg.get j = a := fun _ _ h => h
  have g0 : (wySt ws msg lg (wyAll msg (List.replicate n (.ref 3))) []).sg.get 0 = .tup [.none, .ref 1] := by cases ws <;> kernel_rfl
  have g1 : (wySt ws msg lg (wyAll msg (List.replicate n (.ref 3))) []).sg.get 1 = .list (some lg) [] := by cases ws <;> kernel_rfl
  have g3 : (wySt ws msg lg (wyAll msg (List.replicate n (.ref 3))) []).sg.get 3 = .tup [.txt kE, .int (msg.length : Int)] := by cases ws <;> kernel_rfl
  have g5 : (wySt ws msg lg (wyAll msg (List.replicate n (.ref 3))) []).sg.get 5 = .list (some (List.replicate n (.ref 3))) [] := by cases ws <;> kernel_rfl
  have g6 : (wySt ws msg lg (wyAll msg (List.replicate n (.ref 3))) []).sg.get 6 = .tup [.none, .ref 5] := by cases ws <;> kernel_rfl
  generalize (wySt ws msg lg (wyAll msg (List.replicate n (.ref 3))) []).sg = sg at g0 g1 g3 g5 g6
  obtain ⟨s1, s2⟩ := rows_shaped (ds := List.replicate n (.tuple [.str (stn kE), .int (msg.length : Int)])) (fun d hd => by rw [List.eq_of_mem_replicate hd]; exact logD_row _)
  have hl : ∀ (lg : List AV) (n : Nat), lg.length = n → (∀ a ∈ lg, ∃ c, a = .con (.ref c) ∧ imm c [.txt kE, .int (msg.length : Int)]) → RdVs sg imm lg (List.replicate n (.tuple [.str (stn kE), .int (msg.length : Int)])) := by
    intro lg
    induction lg with
    | nil => intro n h _; subst h; exact .nil
    | cons a r ih =>
      intro n h k
      subst h
      obtain ⟨c, rfl, hc⟩ := k a (.head _)
      exact .cons (.con hc (.cons (.txt _) (.cons (.int _) .nil))) (ih _ rfl fun b hb => k b (.tail _ hb))
  have hr : ∀ n : Nat, RdVs sg imm (List.replicate n (.ref 3)) (List.replicate n (.tuple [.str (stn kE), .int (msg.length : Int)])) := by
    intro n
    induction n with
    | zero => exact .nil
    | succ n ih => exact .cons (.tup g3 (.cons (.txt _) (.cons (.int _) .nil))) ih
  have hs : SeqAt.shaped (.tuple [.none, .list (List.replicate n (.tuple [.str (stn kE), .int (msg.length : Int)]))]) = true := by
    unfold SeqAt.shaped at s1 ⊢
    rw [Bool.and_eq_true] at s1 ⊢
    obtain ⟨c1, c2⟩ := s1
    have c2 := of_decide_eq_true c2
    have hd : (PyData.list (List.replicate n (.tuple [.str (stn kE), .int (msg.length : Int)]))).depth ≤ 2 := by
      rw [PyData.depth]
      have := depthAll_of (k := 1) (ds := List.replicate n (.tuple [.str (stn kE), .int (msg.length : Int)])) fun d hd => by rw [List.eq_of_mem_replicate hd]; exact (rowD_all (logD_row _)).2.2
      lia
    refine ⟨?_, decide_eq_true ?_⟩
    · unfold PyData.canLay0
      exact canLayAll_of fun d hd => by
        simp only [List.mem_cons, List.not_mem_nil, or_false] at hd
        rcases hd with rfl | rfl
        · simp [PyData.canLay0]
        · exact c1
    · rw [PyData.depth]
      have := depthAll_of (k := 2) (ds := [.none, .list (List.replicate n (.tuple [.str (stn kE), .int (msg.length : Int)]))]) fun d hd' => by
        simp only [List.mem_cons, List.not_mem_nil, or_false] at hd'
        rcases hd' with rfl | rfl
        · simp [PyData.depth]
        · exact hd
      lia
  refine ⟨_, _, .tup g0 (.cons .none (.cons (.list g1 ?_) .nil)), .tup g6 (.cons .none (.cons (.list g5 ?_) .nil)), hs, hs, ?_⟩
  · show RdVs sg imm (lg ++ []) _
    rw [List.append_nil]; exact hl lg n h hi
  · show RdVs sg imm (List.replicate n (.ref 3) ++ []) _
    rw [List.append_nil]; exact hr n
  · rw [PyData.eqv]
    exact eqvAll_refl fun d hd => by
      simp only [List.mem_cons, List.not_mem_nil, or_false] at hd
      rcases hd with rfl | rfl
      · simp [PyData.eqv]
      · exact s2
end Mine
namespace Mine
open PySem PySem.W PyProof.Rows PySem.Calls PySem.Spec
theorem wy_n (ws : Ws) (msg : Nm) (lg : List AV) (more : List AO) (or : List Nat) : (wySt ws msg lg more or).n = 3 + more.length := by simp [wySt, mkS0, wyAO, failAO]; omega
theorem wy_lt {ws : Ws} {msg : Nm} {lg : List AV} {more : List AO} {or : List Nat} {j : Nat} (h : j < 3 + more.length) : j < (wySt ws msg lg more or).n := by rw [wy_n]; exact h
theorem q_wl : ∃ q : Pos × Pos, cmpL wyE = .Call (.Name (stn (caX (caF (cmpL wyE)))) q.1) (caA (cmpL wyE)) [] q.2 := ⟨(_, _), rfl⟩
noncomputable def p_wl : Pos × Pos := Classical.choose q_wl
theorem e_wl : cmpL wyE = .Call (.Name (stn (caX (caF (cmpL wyE)))) p_wl.1) (caA (cmpL wyE)) [] p_wl.2 := Classical.choose_spec q_wl
theorem q_wp : ∃ q : Pos × Pos, binR wyMul = .Call (.Name (stn (caX (caF (binR wyMul)))) q.1) (caA (binR wyMul)) [] q.2 := ⟨(_, _), rfl⟩
noncomputable def p_wp : Pos × Pos := Classical.choose q_wp
theorem e_wp : binR wyMul = .Call (.Name (stn (caX (caF (binR wyMul)))) p_wp.1) (caA (binR wyMul)) [] p_wp.2 := Classical.choose_spec q_wp
theorem q_wy : ∃ q : Pos × Pos × Nat × Pos × Pos, hdS (dropS 1 wyB) = .Return (some (.Compare (cmpL wyE) [.Eq] [.Tuple [nthE 0 wyT, .BinOp (binL wyMul) .Mult (binR wyMul) q.2.1] q.2.2.1 q.2.2.2.1] q.2.2.2.2)) q.1 ∧ behindInMarks .Eq (.Tuple [nthE 0 wyT, .BinOp (binL wyMul) .Mult (binR wyMul) q.2.1] q.2.2.1 q.2.2.2.1) = false := ⟨(_, _, _, _, _), rfl, by kernel_rfl⟩
noncomputable def p_wy : Pos × Pos × Nat × Pos × Pos := Classical.choose q_wy
theorem e_wy : hdS (dropS 1 wyB) = .Return (some (.Compare (cmpL wyE) [.Eq] [.Tuple [nthE 0 wyT, .BinOp (binL wyMul) .Mult (binR wyMul) p_wy.2.1] p_wy.2.2.1 p_wy.2.2.2.1] p_wy.2.2.2.2)) p_wy.1 := (Classical.choose_spec q_wy).1
theorem g_wy : behindInMarks .Eq (.Tuple [nthE 0 wyT, .BinOp (binL wyMul) .Mult (binR wyMul) p_wy.2.1] p_wy.2.2.1 p_wy.2.2.2.1) = false := (Classical.choose_spec q_wy).2
theorem InT.dropX {P : Params} {fi : FI} {fc : FC} {ρ : Nat → Addr} {st : St} {h : Heap} {rest : List (Addr × Obj)} (r : Rel P fi { fc with rest := rest } ρ st h) {c d : Addr} {l : List AV} {a : AO} {od : Obj} (t : InT P rest c l) (hd : (d, od) ∈ rest) (he : RepEO P (.mu a) od) (hm : a.mut = true) : InT P (dropA rest d) c l := by
  obtain ⟨o, h1, h2⟩ := t
  refine ⟨o, dropA_mem.mpr ⟨h1, fun q => ?_⟩, h2⟩
  have q : c = d := q
  have e1 := r.get? h1
  have e2 := r.get? hd
  rw [q, e2] at e1
  obtain rfl := Option.some.inj e1
  exact mut_apart (P := P) (ρ := fun _ => 0) (n := 0) (a := a) (b := .tup l) hm rfl (by intro z; cases z) he h2
section
variable {prog : Program} {w : World} {K : Frag} {p : Program} {loose : List Str} {mean : ExcName → Option Value} {mg mb : Str → Option Value}
theorem wayWalk (S : Snd prog w K p loose mean mg mb 900 200 (evs (T2 w.params) 200)) (ok : PTOk3 prog w K p loose mean mg mb (T2 w.params) 900) (G : FnRecC K 605 (fnx 605)) {ws : Ws} {msg : Nm} (hm : msg.length ≤ 1000) (hws : ∀ u ∈ ws.l, u ≠ [] ∧ u.length ≤ 100)
    {n t hits : Nat} (hr : runC true ws msg n (.hd 0 []) [] 0 0 = some (.fail, t, hits)) (ht : t ≤ 9999) (hh : hits ≤ 10000) (hp : parted ws.l msg = hits) {fc : FC} {ρ : Nat → Addr} {s : Shared} {Q : Flow → Shared → Prop} (O : FrOk K p loose mean mg mb fiWY fc) (B : Room2 900 220 fc.A)
    (r : Rel w.params fiWY fc ρ (oneSt (wyMu msg [] (.ref 0)) ws.l) s.heap)
    (H : ∀ ρ' h' tk rest' o, Rel w.params fiWY { fc with rest := rest' } ρ' (mkS0 [] [] [] []) h' → (∀ y ∈ fc.rest, y ∈ rest') → (ρ 0, o) ∈ rest' → RepEO w.params (.mu (.list none (ws.l.map .str))) o → Q (.ret (.bool true)) { s with heap := h', toks := tk }) :
    wpAny (model prog w) fc.A (execs (fnx 619).body fc.env) Q NoE s := by
  have B2 : Room2 900 200 fc.A := B.dn (by decide)
  have B3 : Room2 900 210 fc.A := B.dn (by decide)
  have hcl : ∀ {ks : List Nat} (x : Nm) (l : Nat), look x fiWY.cl = some l → ks[l]? = some l := fun x l h => by cases h
  rw [wyB_eq]
  refine wpAny_execs_cons (out_turn (sndF_s S O B2 (hdS wyB)) (hev := fun ρ' => wy_one w.params ρ' ws msg) (fun _ _ => trivial) hcl r fun ρ1 h1 tk1 f1 v1 m1 X1 _ r1 q1 => ?_)
  obtain rfl := q1
  have r1 : Rel w.params fiWY fc (fun j => ρ1 ([0, 2, 1, 3, 4, 5].getD j 0)) (mkS0 (wyMu msg [(nLast, .ref 5)] (.ref 0)) ([.list none (ws.l.map .str)] ++ lastAO true) [] []) h1 := r1
  have a0 : ρ1 0 = ρ 0 := X1.2 0 Nat.zero_lt_one
  refine wpAny_execs_cons ?_
  rw [e_wy]
  refine wpAny_Return_some (wpAny_Compare1 ?_ g_wy)
  have hl : loadF (T2 w.params) fiWY (nm (stn (caX (caF (cmpL wyE))))) = some (.fn 612) := by kernel_rfl
  have hargs := wy_args w.params ws msg
  rw [e_wl]
  refine ecall_fn S ok hl hargs trivial O B2 (s := { s with heap := h1, toks := tk1 }) r1 fun ρ2 h2 tk2 cvs X2 r2 q2 => ?_
  have n6 : (mkS0 (wyMu msg [(nLast, .ref 5)] (.ref 0)) ([.list none (ws.l.map .str)] ++ lastAO true) [] []).n = 6 := rfl
  rw [n6] at X2
  have b0 : ρ2 0 = ρ 0 := (X2.2 0 (by decide)).trans a0
  refine metCall S ok hm hws hr ht (fun x nl q => by cases q) rfl rfl (mu' := wyMu msg [] (.con (.ref (ρ 0)))) O B3 (s := { s with heap := h2, toks := tk2 }) r2 q2 (fun x a hx => ?_) ?_
  · have hmm := look_mem hx
    simp only [wyMu, List.append_nil, List.mem_cons, Prod.mk.injEq, List.not_mem_nil, or_false] at hmm
    rcases hmm with ⟨rfl, rfl⟩ | ⟨rfl, rfl⟩
    · exact ⟨.ref 0, by kernel_rfl, fun u ρ' m h => ⟨by rw [h.2, b0], rfl⟩⟩
    · exact ⟨.str msg, by kernel_rfl, fun u ρ' m h => h⟩
  intro ρ3 h3 tk3 rest3 lg o r3 hL hk ho hro
  have n2 : (mkS0 (wyMu msg [] (.con (.ref (ρ 0)))) (failAO lg) [] []).n = 2 := rfl
  have hL4 : LogE w.params (dropA rest3 (ρ2 0)) msg.length lg hits := Kp.log (fun c l tt => InT.dropX r3 tt ho hro rfl) hL
  have r4 := r3.impM (rest := dropA rest3 (ρ2 0)) (ao := .list none (ws.l.map .str)) ho (fun y hy => dropA_mem.mp hy) rfl (fun _ q => by cases q) (strs_any hro)
  have r5 := r4.remu (mu' := wyMu msg [] (.ref 2)) (fun x a hx => by
    have hmm := look_mem hx
    simp only [wyMu, List.append_nil, List.mem_cons, Prod.mk.injEq, List.not_mem_nil, or_false] at hmm
    rcases hmm with ⟨rfl, rfl⟩ | ⟨rfl, rfl⟩
    · exact ⟨.con (.ref (ρ 0)), by kernel_rfl, fun u h => ⟨by show 2 < 3; decide, by rw [h.1, ← b0]; exact congrArg Value.ref (upR_self ρ3 2 (ρ2 0)).symm⟩⟩
    · exact ⟨.str msg, by kernel_rfl, fun u h => h⟩) [] []
  have r6 : Rel w.params fiWY { fc with rest := dropA rest3 (ρ2 0) } (upR ρ3 2 (ρ2 0)) (wySt ws msg lg [] []) h3 := Eq.mp (by kernel_rfl) r5
  have O4 : FrOk K p loose mean mg mb fiWY { fc with rest := dropA rest3 (ρ2 0) } := O.rst _
  refine Tuple_ ?_
  have s0 : noStar (nthE 0 wyT) = true := by kernel_rfl
  have s1 : ∀ m1, noStar (.BinOp (binL wyMul) .Mult (binR wyMul) m1) = true := fun _ => rfl
  rw [starEach_cons s0, starEach_cons (s1 _)]
  have w0 := wy_e0 w.params ws msg lg
  have w1 := wy_e1 w.params ws msg lg
  refine spliced_cons (S.e _ { fc with rest := dropA rest3 (ρ2 0) } _ _ _ _ _ w0 trivial O4 B2 _ { s with heap := h3, toks := tk3 } _ r6 fun ρ5 h5' tk5 v5 X5 r7 q5 => ?_)
  refine spliced_cons (wpAny_BinOp (S.e _ { fc with rest := dropA rest3 (ρ2 0) } _ _ _ _ _ w1 ⟨by lia, trivial⟩ O4 B2 _ { s with heap := h5', toks := tk5 } _ r7 fun ρ6 h6' tk6 v6 X6 r8 q6 => ?_))
  have hl2 : loadF (T2 w.params) fiWY (nm (stn (caX (caF (binR wyMul))))) = some (.fn 605) := by kernel_rfl
  have w2 := wy_a2 w.params ws msg lg
  rw [e_wp]
  refine ecall_fn (fc := { fc with rest := dropA rest3 (ρ2 0) }) S ok hl2 w2 trivial O4 B2 (s := { s with heap := h6', toks := tk6 }) r8 fun ρ7 h7' tk7 cvs7 X7 r9 q7 => ?_
  refine partedCall S G hm hws (l := 2) rfl (fc := { fc with rest := dropA rest3 (ρ2 0) }) (s := { s with heap := h7', toks := tk7 }) O4 B3 r9 (by kernel_rfl) q7 fun h8 tk8 u r10 ru => ?_
  rw [hp] at ru
  obtain ⟨tu, rfl⟩ := ru
  have e4 : v6 = .ref (ρ7 4) := by rw [q6.2, X7.2 4 (wy_lt (Nat.le_of_ble_eq_true rfl))]
  subst e4
  refine mul_one (l := 4) (x := .ref 3) (fc := { fc with rest := dropA rest3 (ρ2 0) }) (s := { s with heap := h8, toks := tk8 }) r10 (by kernel_rfl) ⟨by lia, by lia⟩ fun ρ8 h9 tk9 v8 X8 r11 q8 => ?_
  rw [show (hits : Int).toNat = hits by lia] at r11
  have r11 : Rel w.params fiWY { fc with rest := dropA rest3 (ρ2 0) } ρ8 (wySt ws msg lg (wyNew msg ++ [.list (some (List.replicate hits (.ref 3))) []]) []) h9 := Eq.mp (by kernel_rfl) r11
  refine spliced_nil ?_
  refine alloc_tup (fc := { fc with rest := dropA rest3 (ρ2 0) }) (s := { s with heap := h9, toks := tk9 }) (xs := [.none, .ref 5]) r11 ⟨q5, ⟨wy_lt (Nat.le_of_ble_eq_true rfl), by rw [q8.2]; rfl⟩, trivial⟩ (by rw [sizeL]; simp) fun ρ9 h10 tk10 v9 X9 r12 q9 => ?_
  have r12 : Rel w.params fiWY { fc with rest := dropA rest3 (ρ2 0) } ρ9 (wySt ws msg lg (wyAll msg (List.replicate hits (.ref 3))) []) h10 := Eq.mp (by kernel_rfl) r12
  have rI := (r12.mus (mu' := wyMu msg [] (.ref 2)) (fun _ _ h => h) [1] []).imms
  have rI : Rel w.params fiWY { fc with rest := dropA rest3 (ρ2 0) } ρ9 (withImm (wySt ws msg lg (wyAll msg (List.replicate hits (.ref 3))) [1]) (immOf w.params (dropA rest3 (ρ2 0)))) h10 := rI
  have hdat := wy_dat ws msg (imm := immOf w.params (dropA rest3 (ρ2 0))) hL4.1 (fun a ha => hL4.2 a ha)
  have X39 : ρ9 0 = ρ3 0 := by
    have c4 : upR ρ3 2 (ρ2 0) 0 = ρ3 0 := by simp [upR]
    rw [X9.2 0 (wy_lt (Nat.le_of_ble_eq_true rfl)), X8.2 0 (wy_lt (Nat.le_of_ble_eq_true rfl)), X7.2 0 (wy_lt (Nat.le_of_ble_eq_true rfl)), X6.2 0 (wy_lt (Nat.le_of_ble_eq_true rfl)), X5.2 0 (wy_lt (Nat.le_of_ble_eq_true rfl)), c4]
  have nI : (withImm (wySt ws msg lg (wyAll msg (List.replicate hits (.ref 3))) [1]) (immOf w.params (dropA rest3 (ρ2 0)))).n = 7 := rfl
  have n9 : (wySt ws msg lg (wyNew msg ++ [.list (some (List.replicate hits (.ref 3))) []]) []).n = 6 := rfl
  refine cmpJ (n := 200) ok O4 (B.dn (by decide)) (op := .Eq) (a := .ref 0) (b := .ref 6) (L := []) (V := []) _ _ _ _ (wy_cmp ws msg lg (T2 w.params) (List.replicate hits (.ref 3)) _) ⟨hdat, trivial⟩ ρ9 { s with heap := h10, toks := tk10 } _ rI ⟨⟨by rw [nI]; decide, by rw [q9.2]; exact congrArg (fun k => Value.ref (ρ9 k)) n9⟩, ⟨by rw [nI]; decide, by rw [X39]⟩, trivial⟩ fun ρ11 h11 tk11 v11 X11 r13 q11 => ?_
  obtain rfl := q11
  obtain ⟨f, gf, r14⟩ := r13.again (wy_end ws msg lg ρ11 (List.replicate hits (.ref 3)) _) (fun x l h => by cases h)
  rw [nI] at X11
  have X29 : ρ11 2 = ρ 0 := by
    have c4 : upR ρ3 2 (ρ2 0) 2 = ρ2 0 := upR_self _ _ _
    rw [X11.2 2 (by decide), X9.2 2 (wy_lt (Nat.le_of_ble_eq_true rfl)), X8.2 2 (wy_lt (Nat.le_of_ble_eq_true rfl)), X7.2 2 (wy_lt (Nat.le_of_ble_eq_true rfl)), X6.2 2 (wy_lt (Nat.le_of_ble_eq_true rfl)), X5.2 2 (wy_lt (Nat.le_of_ble_eq_true rfl)), c4, b0]
  refine H _ h11 tk11 (restOf ρ11 [2] f (dropA rest3 (ρ2 0))) (f 2) r14 (fun y hy => mem_restOf (dropA_mem.mpr ⟨hk y hy, fun q => ?_⟩)) (by rw [← X29]; exact new_restOf (.head _)) (gf.rep 0 2 _ rfl rfl)
  obtain ⟨m, os, R⟩ := r
  exact R.ap 0 rfl y hy (by rw [q, b0])
end
end Mine
namespace Mine
open PySem PySem.W PyProof.Rows PySem.Calls PySem.Spec
section
variable {prog : Program} {w : World} {K : Frag} {p : Program} {loose : List Str} {mean : ExcName → Option Value} {mg mb : Str → Option Value}
/-- a call that leaves its caller's things as they are: the frame's walk starts from the words alone -/
theorem call_own {f : Addr} {g : FnI} (G : FnRec K f g) {fi : FI} (own : fi.own = true) {fc : FC} {ρ : Nat → Addr} {st : St} {s : Shared} {l : Nat} {ts : List Nm} {vs : List AV} {cvs : List Value} {mu mu0 : List (Nm × AV)} {Q : Value → Shared → Prop} (hroom : fc.A.depth < 1000)
    (hz : zipP g.ps vs = some mu) (hmu : ∀ x a, look x mu0 = some a → ∃ b, look x mu = some b ∧ ∀ u, RepV ρ st.n b u → RepV (fun _ => ρ l) 1 a u)
    (O : FrOk K p loose mean mg mb fi fc) (r : Rel w.params fi fc ρ st s.heap) (hl : st.sg.get l = .list none (ts.map .str)) (rv : All2 (RepV ρ st.n) vs cvs)
    (H : ∀ (fc' : FC) (rest : List (Addr × Obj)) (h1 : Heap) (tk1 : Nat), fc'.A.depth = fc.A.depth + 1 → fc'.A.units = fc.A.units + 3 → FrOk K p loose mean mg mb ⟨g.sc, [], true, none⟩ { fc' with rest := rest } → Rel w.params ⟨g.sc, [], true, none⟩ { fc' with rest := rest } (fun _ => ρ l) (oneSt mu0 ts) h1 →
      (∀ fl ρ' st' h2 tk2 rest2 o, Rel w.params ⟨g.sc, [], true, none⟩ { fc' with rest := rest2 } ρ' st' h2 → (∀ y ∈ rest, y ∈ rest2) → (ρ l, o) ∈ rest2 → RepEO w.params (.mu (.list none (ts.map .str))) o →
        (∀ h' tk, Rel w.params fi fc ρ { st with imm := fun _ _ => False } h' → Q (flVal fl) { s with heap := h', toks := tk }) → Back w fi fc ρ st Q ⟨g.sc, [], true, none⟩ fc' (flVal fl) { s with heap := h2, toks := tk2 }) →
      wpAny (model prog w) fc'.A (execs g.body fc'.env) (fun fl s' => Back w fi fc ρ st Q ⟨g.sc, [], true, none⟩ fc' (flVal fl) s') NoE { s with heap := h1, toks := tk1 }) :
    wpAny (model prog w) fc.A (call (Fn.fn f).val cvs) Q NoE s := by
  refine call_hand G hroom hz O own r rv fun fc' h1 tk1 d1 d2 d3 O1 r1 => ?_
  obtain ⟨led, ol, hne, hadr, p1, p2⟩ := r1.park (l := l) (ts := ts) hl
  have rP := p1 ⟨g.sc, [], true, none⟩ mu0 rfl hmu
  refine H fc' (led ++ fc'.rest) h1 tk1 d1 d2 (O1.rst _) rP fun fl ρ' st' h2 tk2 rest2 o rr hs ho hro hq => ?_
  rw [d3] at p2 hs
  have back := p2 _ ⟨g.sc, [], true, none⟩ _ _ rest2 fc.rest h2 o rfl rr (fun y hy => hs y (List.mem_append_left _ hy)) (fun y hy => ⟨hs y (List.mem_append_right _ hy), hy⟩) ho hro
  refine ⟨ρ, _, fc.rest, st.mu, back, fun x a hx => ⟨a, hx, fun u h => h⟩, fun x j hx => ?_, fun rb => hq h2 tk2 rb⟩
  obtain ⟨m, os, R⟩ := r
  exact ⟨(R.cl x j hx).1, rfl⟩
theorem waysCall (S : Snd prog w K p loose mean mg mb 900 200 (evs (T2 w.params) 200)) (ok : PTOk3 prog w K p loose mean mg mb (T2 w.params) 900) (G : FnRecC K 605 (fnx 605)) {ws : Ws} {msg : Nm} (hm : msg.length ≤ 1000) (hws : ∀ u ∈ ws.l, u ≠ [] ∧ u.length ≤ 100)
    {n t hits : Nat} (hr : runC true ws msg n (.hd 0 []) [] 0 0 = some (.fail, t, hits)) (ht : t ≤ 9999) (hh : hits ≤ 10000) (hp : parted ws.l msg = hits) {fi : FI} (own : fi.own = true) {fc : FC} {ρ : Nat → Addr} {st : St} {s : Shared} {l : Nat} {cvs : List Value} {Q : Value → Shared → Prop}
    (O : FrOk K p loose mean mg mb fi fc) (B : Room2 900 230 fc.A) (r : Rel w.params fi fc ρ st s.heap) (hl : st.sg.get l = .list none (ws.l.map .str)) (rv : All2 (RepV ρ st.n) [.ref l, .str msg] cvs)
    (H : ∀ h' tk, Rel w.params fi fc ρ { st with imm := fun _ _ => False } h' → Q (.bool true) { s with heap := h', toks := tk }) : wpAny (model prog w) fc.A (call (Fn.fn 619).val cvs) Q NoE s := by
  have G0 : FnRec K 619 (fnx 619) := ok.fns 619 _ (by kernel_rfl)
  refine call_own G0 own B.lt (mu := [(nWords, .ref l), (nMessage, .str msg)]) (mu0 := wyMu msg [] (.ref 0)) (by kernel_rfl) (fun x a hx => ?_) O r hl rv fun fc' rest h1 tk1 d1 d2 O1 r1 back => ?_
  · have hmm := look_mem hx
    simp only [wyMu, List.append_nil, List.mem_cons, Prod.mk.injEq, List.not_mem_nil, or_false] at hmm
    rcases hmm with ⟨rfl, rfl⟩ | ⟨rfl, rfl⟩
    · exact ⟨.ref l, by kernel_rfl, fun u h => ⟨Nat.zero_lt_one, h.2⟩⟩
    · exact ⟨.str msg, by kernel_rfl, fun u h => h⟩
  refine wayWalk (fc := { fc' with rest := rest }) (s := { s with heap := h1, toks := tk1 }) S ok G hm hws hr ht hh hp O1 ((B.call d1 d2).dn (by decide)) r1 fun ρ' h' tk rest' o rr hs ho hro => ?_
  exact back (.ret (.bool true)) ρ' _ h' tk rest' o rr hs ho hro fun h2 tk2 r2 => H h2 tk2 r2
end
end Mine
namespace Mine
open PySem PySem.W PyProof.Rows PySem.Calls PySem.Spec
/-! what can be left over where two rows of words begin alike -/
noncomputable def nWaiting : Nm := [119, 97, 105, 116, 105, 110, 103]
noncomputable def nMet : Nm := [109, 101, 116]
noncomputable def nOne : Nm := [111, 110, 101]
noncomputable def nOther : Nm := [111, 116, 104, 101, 114]
noncomputable def nText : Nm := [116, 101, 120, 116]
noncomputable def nRest : Nm := [114, 101, 115, 116]
noncomputable def fiTW : FI := ⟨(fnx 600).sc, [], true, none⟩
noncomputable def twB : List Stmt := (fnx 600).body
noncomputable def twF : Stmt := hdS (dropS 1 twB)
noncomputable def twI : Stmt := hdS (forB twF)
noncomputable def twW : Stmt := hdS (dropS 2 twB)
noncomputable def twWB : List Stmt := whileB twW
noncomputable def twJ : Stmt := hdS (dropS 4 twWB)
theorem twB_eq : (fnx 600).body = hdS twB :: twF :: twW :: dropS 3 twB := by kernel_rfl
theorem twWB_eq : twWB = takeS 4 twWB ++ [twJ] := by kernel_rfl
noncomputable def twMu (more : List (Nm × AV)) : List (Nm × AV) := [(nWords, .ref 0), (nWaiting, .ref 1), (nMet, .ref 2)] ++ more
noncomputable def twO (ts : List Nm) (W : List AV) (M : List Nm) (more : List AO) : List AO := [.list (some (ts.map .str)) [], .list (some W) [], .list (some (M.map .str)) []] ++ more
noncomputable def twSt (ts : List Nm) (W : List AV) (M : List Nm) (mu : List (Nm × AV)) (more : List AO) (or : List Nat) (ov : List AV) : St := mkS0 (twMu mu) (twO ts W M more) or ov
end Mine
namespace Mine
open PySem PySem.W PyProof.Rows PySem.Calls PySem.Spec
noncomputable def szP (W : List AV) : Prop := (itm (some W) []).length ≤ sizeLine
noncomputable def atP (ts : List Nm) (i : Nat) (a : Nm) : Prop := nth (itm (some (ts.map AV.str)) []) i = some (.str a)
/-- what is asked to cut a text at a word's length -/
noncomputable def cutP (a b : Nm) : List Prop := [a.length < 2 ^ 62, 0 ≤ (a.length : Int) ∧ (a.length : Int) < 2 ^ 62, b.length ≤ sizeLine]
noncomputable def pfx (a b : Nm) : Prop := (b.take a.length).drop 0 = a
noncomputable def hasP (M : List Nm) (r : Nm) : Prop := AV.str r ∈ itm (some (M.map AV.str)) []
noncomputable def allP (M : List Nm) : Prop := ∀ y, y ∈ itm (some (M.map AV.str)) [] → ∃ z, y = AV.str z
noncomputable def nsT : List Nm := [nWords, nWaiting, nMet]
/-- a state seen anew: the lists renamed -/
noncomputable def twR (ρ : Nat → Addr) (ks : List Nat) (ts : List Nm) (W : List AV) (new : List AV) (M : List Nm) (m : List AV) (mu : List (Nm × AV)) (more : List AO) : St :=
  mkS0 (twMu mu) ([.list (some (renL ρ ks (ts.map .str))) [], .list (some (absorb (renL ρ ks W) new)) [], .list (some (absorb (renL ρ ks (M.map .str)) m)) []] ++ more) [] []
theorem renL_strs (ρ : Nat → Addr) (ks : List Nat) : ∀ M : List Nm, renL ρ ks (M.map .str) = M.map .str
  | [] => rfl
  | _ :: r => congrArg (_ :: ·) (renL_strs ρ ks r)
theorem twR_eq {ρ : Nat → Addr} {ks : List Nat} {ts : List Nm} {W new m : List AV} {M : List Nm} {mu : List (Nm × AV)} {more : List AO} (h : AllCon W) :
    twR ρ ks ts W new M m mu more = mkS0 (twMu mu) ([.list (some (ts.map .str)) [], .list (some (W ++ new)) [], .list (some (M.map .str ++ m)) []] ++ more) [] [] := by
  unfold twR
  rw [renL_strs, renL_strs, h.ren, absorb_eq, absorb_eq]
section
variable (P : Params) (ρ : Nat → Addr) (ts M : List Nm) (W : List AV)
set_option tactic.hygienic true in
theorem tw_one : outc ρ [0, 1, 2] [] nsT ((evT P).s fiTW (hdS twB) { mu := [(nWords, .ref 0)], sg := Tr.ofL 0 .nil [.list (some (ts.map .str)) []], n := 1, or := [], ov := [] }) =
    some (mkS0 (twMu []) [.list (some (renL ρ [0, 1, 2] (ts.map .str))) [], .list none [], .list none []] [] [], [], .next, []) := by kernel_rfl
/-- the outer loop -/
theorem tw_for : outc ρ [0, 1, 2, 3] [] nsT (startFr (evT P) fiTW (forI twF) (twSt ts W M [] [] [] [])) = some (twR ρ [0, 1, 2, 3] ts W [] M [] [] [.liter 0 0], [], .ref 3, []) := by kernel_rfl
theorem tw_turn (i : Nat) (a : Nm) : outc ρ [0, 1, 2, 3] [] (nsT ++ [nOne]) (turnA (evT P) fiTW (forT twF) 3 (twSt ts W M [] [.liter 0 i] [1] [.str a])) = some (twR ρ [0, 1, 2, 3] ts W [] M [] [(nOne, .str a)] [.liter 0 (i + 1)], [], true, [atP ts i a]) := by kernel_rfl
theorem tw_end (i : Nat) : outc ρ [0, 1, 2] [] nsT (turnFr (evT P) fiTW (forT twF) 3 (forB twF) (twSt ts W M [] [.liter 0 i] [0] [])) = some (twR ρ [0, 1, 2] ts W [] M [] [] [], [], none, [nth (itm (some (ts.map AV.str)) []) i = none]) := by kernel_rfl
/-- the inner loop -/
theorem ti_for (i : Nat) (a : Nm) : outc ρ [0, 1, 2, 3, 4] [] (nsT ++ [nOne]) (startFr (evT P) fiTW (forI twI) (twSt ts W M [(nOne, .str a)] [.liter 0 i] [] [])) = some (twR ρ [0, 1, 2, 3, 4] ts W [] M [] [(nOne, .str a)] [.liter 0 i, .liter 0 0], [], .ref 4, []) := by kernel_rfl
set_option tactic.hygienic true in
theorem ti_eq (i j : Nat) (a b : Nm) : outc ρ [0, 1, 2, 3, 4] [] (nsT ++ [nOne]) (turnFr (evT P) fiTW (forT twI) 4 (forB twI) (twSt ts W M [(nOne, .str a)] [.liter 0 i, .liter 0 j] [1, 1] [.str b])) =
    some (twR ρ [0, 1, 2, 3, 4] ts W [] M [] [(nOne, .str a)] [.liter 0 i, .liter 0 (j + 1)], [], some .next, [atP ts j b, a = b]) := by kernel_rfl
set_option tactic.hygienic true in
theorem ti_no (i j : Nat) (a b : Nm) : outc ρ [0, 1, 2, 3, 4] [] (nsT ++ [nOne]) (turnFr (evT P) fiTW (forT twI) 4 (forB twI) (twSt ts W M [(nOne, .str a)] [.liter 0 i, .liter 0 j] [1, 0, 0] [.str b])) =
    some (twR ρ [0, 1, 2, 3, 4] ts W [] M [] [(nOne, .str a)] [.liter 0 i, .liter 0 (j + 1)], [], some .next, [atP ts j b, ¬ a = b] ++ cutP a b ++ [¬ pfx a b]) := by kernel_rfl
set_option tactic.hygienic true in
theorem ti_y (i j : Nat) (a b : Nm) : outc ρ [0, 1, 2, 3, 4] [5] (nsT ++ [nOne]) (turnFr (evT P) fiTW (forT twI) 4 (forB twI) (twSt ts W M [(nOne, .str a)] [.liter 0 i, .liter 0 j] [1, 0, 1] [.str b])) =
    some (twR ρ [0, 1, 2, 3, 4] ts W [.con (.ref (ρ 5))] M [] [(nOne, .str a)] [.liter 0 i, .liter 0 (j + 1)], [.tup [.str b, .str (b.drop a.length)]], some .next, [atP ts j b, ¬ a = b] ++ cutP a b ++ [pfx a b] ++ cutP a b ++ [szP W]) := by kernel_rfl
theorem ti_end (i j : Nat) (a : Nm) : outc ρ [0, 1, 2, 3] [] nsT (turnFr (evT P) fiTW (forT twI) 4 (forB twI) (twSt ts W M [(nOne, .str a)] [.liter 0 i, .liter 0 j] [0] [])) =
    some (twR ρ [0, 1, 2, 3] ts W [] M [] [] [.liter 0 i], [], none, [nth (itm (some (ts.map AV.str)) []) j = none]) := by kernel_rfl
/-- the loop behind them -/
theorem tl_test (c : Nat) (imm : Nat → List AV → Prop) : outc ρ [0, 1, 2] [] nsT ((evT P).b fiTW (whileT twW) (withImm (twSt ts (.con (.ref c) :: W) M [] [] [0] []) imm)) =
    some (twR ρ [0, 1, 2] ts (.con (.ref c) :: W) [] M [] [] [], [], true, [DatEq (twSt ts (.con (.ref c) :: W) M [] [.list none []] [] []).sg imm (.ref 1) (.ref 3) false]) := by kernel_rfl
theorem tl_end (imm : Nat → List AV → Prop) : outc ρ [0] [] [nWords] (whEnd (evT P) fiTW (whileT twW) twWB (dropS 3 twB) (withImm (twSt ts [] M [] [] [1] []) imm)) =
    some (mkS0 [(nWords, .ref 0)] [.list (some (renL ρ [0] (ts.map .str))) []] [] [], [], .ret .none, [DatEq (twSt ts [] M [] [.list none []] [] []).sg imm (.ref 1) (.ref 3) true]) := by kernel_rfl
theorem tl_ret (c : Nat) (t : Nm) (r : Nm) (imm : Nat → List AV → Prop) : outc ρ [0] [] [nWords] ((evT P).ss fiTW twWB (withImm (twSt ts (.con (.ref c) :: W) M [] [] [1] [.str t, .str r]) imm)) =
    some (mkS0 [(nWords, .ref 0)] [.list (some (renL ρ [0] (ts.map .str))) []] [] [], [], .ret (.str t), [szP (.con (.ref c) :: W), imm c [.str t, .str r], r = []]) := by kernel_rfl
theorem tl_cont (c : Nat) (t : Nm) (r : Nm) (imm : Nat → List AV → Prop) : outc ρ [0, 1, 2] [] nsT ((evT P).ss fiTW twWB (withImm (twSt ts (.con (.ref c) :: W) M [] [] [0, 1] [.str t, .str r]) imm)) =
    some (twR ρ [0, 1, 2] ts W [] M [] [] [], [], .cont, [szP (.con (.ref c) :: W), imm c [.str t, .str r], ¬ r = [], allP M, hasP M r]) := by kernel_rfl
set_option tactic.hygienic true in
theorem tl_next (c : Nat) (t : Nm) (r : Nm) (imm : Nat → List AV → Prop) : outc ρ [0, 1, 2] [] (nsT ++ [nText, nRest]) ((evT P).ss fiTW (takeS 4 twWB) (withImm (twSt ts (.con (.ref c) :: W) M [] [] [0, 0] [.str t, .str r]) imm)) =
    some (twR ρ [0, 1, 2] ts W [] M [.str r] [(nText, .str t), (nRest, .str r)] [], [], .next, [szP (.con (.ref c) :: W), imm c [.str t, .str r], ¬ r = [], allP M, ¬ hasP M r, szP (M.map .str)]) := by kernel_rfl
/-- its inner loop -/
theorem tj_for (t r : Nm) : outc ρ [0, 1, 2, 3] [] (nsT ++ [nText, nRest]) (startFr (evT P) fiTW (forI twJ) (twSt ts W M [(nText, .str t), (nRest, .str r)] [] [] [])) = some (twR ρ [0, 1, 2, 3] ts W [] M [] [(nText, .str t), (nRest, .str r)] [.liter 0 0], [], .ref 3, []) := by kernel_rfl
set_option tactic.hygienic true in
theorem tj_y (t r a : Nm) (i : Nat) : outc ρ [0, 1, 2, 3] [4] (nsT ++ [nText, nRest]) (turnFr (evT P) fiTW (forT twJ) 3 (forB twJ) (twSt ts W M [(nText, .str t), (nRest, .str r)] [.liter 0 i] [1, 1] [.str a])) =
    some (twR ρ [0, 1, 2, 3] ts W [.con (.ref (ρ 4))] M [] [(nText, .str t), (nRest, .str r)] [.liter 0 (i + 1)], [.tup [.str t, .str (r.drop a.length)]], some .next, [atP ts i a] ++ cutP a r ++ [pfx a r] ++ cutP a r ++ [szP W]) := by kernel_rfl
set_option tactic.hygienic true in
theorem tj_z (t r a : Nm) (i : Nat) : outc ρ [0, 1, 2, 3] [4] (nsT ++ [nText, nRest]) (turnFr (evT P) fiTW (forT twJ) 3 (forB twJ) (twSt ts W M [(nText, .str t), (nRest, .str r)] [.liter 0 i] [1, 0, 1] [.str a])) =
    some (twR ρ [0, 1, 2, 3] ts W [.con (.ref (ρ 4))] M [] [(nText, .str t), (nRest, .str r)] [.liter 0 (i + 1)], [.tup [.str (t ++ a.drop r.length), .str (a.drop r.length)]], some .next,
      [atP ts i a] ++ cutP a r ++ [¬ pfx a r] ++ cutP r a ++ [pfx r a] ++ cutP r a ++ [t.length + (a.drop r.length).length ≤ sizeLine] ++ cutP r a ++ [szP W]) := by kernel_rfl
set_option tactic.hygienic true in
theorem tj_n (t r a : Nm) (i : Nat) : outc ρ [0, 1, 2, 3] [] (nsT ++ [nText, nRest]) (turnFr (evT P) fiTW (forT twJ) 3 (forB twJ) (twSt ts W M [(nText, .str t), (nRest, .str r)] [.liter 0 i] [1, 0, 0] [.str a])) =
    some (twR ρ [0, 1, 2, 3] ts W [] M [] [(nText, .str t), (nRest, .str r)] [.liter 0 (i + 1)], [], some .next, [atP ts i a] ++ cutP a r ++ [¬ pfx a r] ++ cutP r a ++ [¬ pfx r a]) := by kernel_rfl
theorem tj_end (t r : Nm) (i : Nat) : outc ρ [0, 1, 2] [] nsT (turnFr (evT P) fiTW (forT twJ) 3 (forB twJ) (twSt ts W M [(nText, .str t), (nRest, .str r)] [.liter 0 i] [0] [])) =
    some (twR ρ [0, 1, 2] ts W [] M [] [] [], [], none, [nth (itm (some (ts.map AV.str)) []) i = none]) := by kernel_rfl
end
end Mine
namespace Mine
open PySem PySem.W PyProof.Rows PySem.Calls PySem.Spec
noncomputable def RowT (P : Params) (rest : List (Addr × Obj)) (a : AV) (q : Nm × Nm) : Prop := ∃ c, a = .con (.ref c) ∧ InT P rest c [.str q.1, .str q.2]
noncomputable def RowsT (P : Params) (rest : List (Addr × Obj)) : List AV → List (Nm × Nm) → Prop := All2 (RowT P rest)
theorem RowsT.con {P : Params} {rest : List (Addr × Obj)} : ∀ {W : List AV} {L : List (Nm × Nm)}, RowsT P rest W L → AllCon W
  | [], [], _ => fun a ha => nomatch ha
  | a :: r, t :: ts, h => fun b hb => by
    rcases List.mem_cons.mp hb with rfl | hb
    · obtain ⟨c, e, _⟩ := h.1; exact ⟨_, e⟩
    · exact RowsT.con (W := r) (L := ts) h.2 b hb
  | [], _ :: _, h => h.elim
  | _ :: _, [], h => h.elim
theorem RowsT.mono {P : Params} {rest rest' : List (Addr × Obj)} {W : List AV} {L : List (Nm × Nm)} (h : RowsT P rest W L) (k : ∀ y ∈ rest, y ∈ rest') : RowsT P rest' W L :=
  All2.mono h fun _ _ _ ⟨c, e, t⟩ => ⟨c, e, t.mono k⟩
/-- what a word leaves over of the words behind -/
noncomputable def iStep (a : Nm) : List Nm → List (Nm × Nm)
  | [] => []
  | b :: l => (if a = b then [] else if b.take a.length = a then [(b, b.drop a.length)] else []) ++ iStep a l
theorem at_ok {ts : List Nm} {j : Nat} {b : Nm} {l : List Nm} (h : ts.drop j = b :: l) : atP ts j b ∧ ts.drop (j + 1) = l := by
  have e : ts[j]? = some b := by
    have := List.getElem?_drop (xs := ts) (i := j) (j := 0)
    rw [h] at this
    simpa using this.symm
  refine ⟨?_, ?_⟩
  · unfold atP
    rw [nth_eq]
    show (ts.map AV.str ++ [])[j]? = _
    rw [List.append_nil, List.getElem?_map, e]; rfl
  · rw [← List.drop_drop, h]; rfl
theorem at_no {ts : List Nm} {j : Nat} (h : ts.drop j = []) : nth (itm (some (ts.map AV.str)) []) j = none := by
  rw [nth_eq]
  show (ts.map AV.str ++ [])[j]? = _
  rw [List.append_nil, List.getElem?_eq_none_iff, List.length_map]
  exact List.drop_eq_nil_iff.mp h
theorem cut_ok {a b : Nm} (ha : a.length ≤ 1000) (hb : b.length ≤ 1000) : Ps (cutP a b) := ⟨by lia, ⟨by lia, by lia⟩, by rw [sizeL]; lia, trivial⟩
theorem sz_ok {W : List AV} (h : W.length ≤ 1000) : szP W := by
  unfold szP
  rw [sizeL]; simp [itm]; lia
theorem hclT {ks : List Nat} : ∀ x l, look x fiTW.cl = some l → ks[l]? = some l := fun x l h => by cases h
theorem tw_n {ts M : List Nm} {W : List AV} {mu : List (Nm × AV)} {more : List AO} {or : List Nat} {ov : List AV} : (twSt ts W M mu more or ov).n = 3 + more.length := by simp [twSt, mkS0, twO]; omega
section
variable {prog : Program} {w : World} {K : Frag} {p : Program} {loose : List Str} {mean : ExcName → Option Value} {mg mb : Str → Option Value}
set_option tactic.hygienic true in
theorem tiLoop (S : Snd prog w K p loose mean mg mb 900 200 (evs (T2 w.params) 200)) {ts M : List Nm} (hts : ∀ u ∈ ts, u.length ≤ 100) {a : Nm} (ha : a.length ≤ 100) {i : Nat} {Q : Flow → Shared → Prop} : ∀ (l : List Nm) {j : Nat} {W : List AV} {L : List (Nm × Nm)} {fc : FC} {ρ : Nat → Addr} {s : Shared},
    ts.drop j = l → FrOk K p loose mean mg mb fiTW fc → Room2 900 200 fc.A → Rel w.params fiTW fc ρ (twSt ts W M [(nOne, .str a)] [.liter 0 i, .liter 0 j] [] []) s.heap → RowsT w.params fc.rest W L → W.length + l.length ≤ 1000 →
    (∀ ρ' h' tk rest' W', (∀ k, k < 4 → ρ' k = ρ k) → Rel w.params fiTW { fc with rest := rest' } ρ' (twSt ts W' M [] [.liter 0 i] [] []) h' → RowsT w.params rest' W' (L ++ iStep a l) → (∀ y ∈ fc.rest, y ∈ rest') → Q .next { s with heap := h', toks := tk }) →
    codeAny (model prog w) fc.A (.forLoop (forT twI) (.ref (ρ 4)) (forB twI) [] fc.env) (fun r s' => match r with | .ok f => Q f s' | .error _ => False) s
  | [], j, W, L, fc, ρ, s, hj, O, B, r, hW, hlen, H => by
    have r1 := r.mus (fun _ _ h => h) [0] []
    refine fr_end S O (hev := fun ρ' => ti_end w.params ρ' ts M W i j a) (fun _ _ => ⟨at_no hj, trivial⟩) hclT r1 fun h' tk f _ r2 => ?_
    rw [twR_eq hW.con, List.append_nil, List.append_nil] at r2
    have hk : ∀ k, k < 4 → [0, 1, 2, 3].getD k 0 = k := by decide
    exact H _ h' tk fc.rest W (fun k hk' => by show ρ ([0, 1, 2, 3].getD k 0) = _; rw [hk k hk']) r2 (by rw [show iStep a [] = [] from rfl, List.append_nil]; exact hW) fun y hy => hy
  | b :: l, j, W, L, fc, ρ, s, hj, O, B, r, hW, hlen, H => by
    obtain ⟨h1, h2⟩ := at_ok hj
    have hb : b.length ≤ 100 := hts b (List.mem_of_mem_drop (i := j) (by rw [hj]; exact .head _))
    simp only [List.length_cons] at hlen
    have hn : ∀ or ov, (twSt ts W M [(nOne, .str a)] [.liter 0 i, .liter 0 j] or ov).n = 5 := fun _ _ => tw_n
    have hk5 : ∀ k, k < 5 → [0, 1, 2, 3, 4].getD k 0 = k := by decide
    by_cases e1 : a = b
    · have r1 := r.mus (fun _ _ h => h) [1, 1] [.str b]
      refine fr_next (k' := 4) S O B (hev := fun ρ' => ti_eq w.params ρ' ts M W i j a b) (Nat.lt_of_lt_of_eq (by decide : 4 < 5) (hn _ _).symm) rfl (fun _ _ => ⟨h1, e1, trivial⟩) hclT r1 fun ρ' h' tk f X' _ r2 => ?_
      rw [twR_eq hW.con, List.append_nil, List.append_nil] at r2
      refine tiLoop S hts ha l (fc := fc) (ρ := fun k => ρ' ([0, 1, 2, 3, 4].getD k 0)) (s := { s with heap := h', toks := tk }) h2 O B r2 hW (by lia) fun ρ2 h3 tk2 rest' W' c1 c2 c3 c4 => ?_
      exact H ρ2 h3 tk2 rest' W' (fun k hk' => by rw [c1 k hk', hk5 k (by lia)]; exact X'.2 k (Nat.lt_of_lt_of_eq (by lia : k < 5) (hn _ _).symm)) c2 (by simpa [iStep, e1] using c3) c4
    · by_cases e2 : b.take a.length = a
      · have r1 := r.mus (fun _ _ h => h) [1, 0, 1] [.str b]
        have hP : Ps ([atP ts j b, ¬ a = b] ++ cutP a b ++ [pfx a b] ++ cutP a b ++ [szP W]) := Ps.join (Ps.join (Ps.join (Ps.join ⟨h1, e1, trivial⟩ (cut_ok (by lia) (by lia))) ⟨e2, trivial⟩) (cut_ok (by lia) (by lia))) ⟨sz_ok (by lia), trivial⟩
        refine fr_next (k' := 4) S O B (hev := fun ρ' => ti_y w.params ρ' ts M W i j a b) (Nat.lt_of_lt_of_eq (by decide : 4 < 5) (hn _ _).symm) rfl (fun _ _ => hP) hclT r1 fun ρ' h' tk f X' gf r2 => ?_
        rw [twR_eq hW.con, List.append_nil] at r2
        have hW2 : RowsT w.params (restOf ρ' [5] f fc.rest) (W ++ [.con (.ref (ρ' 5))]) (L ++ [(b, b.drop a.length)]) := All2.append (hW.mono fun y hy => mem_restOf hy) ⟨⟨_, rfl, f 5, new_restOf (.head _), gf.rep 0 5 _ rfl rfl⟩, trivial⟩
        refine tiLoop S hts ha l (fc := { fc with rest := restOf ρ' [5] f fc.rest }) (ρ := fun k => ρ' ([0, 1, 2, 3, 4].getD k 0)) (s := { s with heap := h', toks := tk }) h2 (O.rst _) B r2 hW2 (by simp; lia) fun ρ2 h3 tk2 rest' W' c1 c2 c3 c4 => ?_
        exact H ρ2 h3 tk2 rest' W' (fun k hk' => by rw [c1 k hk', hk5 k (by lia)]; exact X'.2 k (Nat.lt_of_lt_of_eq (by lia : k < 5) (hn _ _).symm)) c2 (by simpa [iStep, e1, e2] using c3) fun y hy => c4 y (mem_restOf hy)
      · have r1 := r.mus (fun _ _ h => h) [1, 0, 0] [.str b]
        have hP : Ps ([atP ts j b, ¬ a = b] ++ cutP a b ++ [¬ pfx a b]) := Ps.join (Ps.join ⟨h1, e1, trivial⟩ (cut_ok (by lia) (by lia))) ⟨e2, trivial⟩
        refine fr_next (k' := 4) S O B (hev := fun ρ' => ti_no w.params ρ' ts M W i j a b) (Nat.lt_of_lt_of_eq (by decide : 4 < 5) (hn _ _).symm) rfl (fun _ _ => hP) hclT r1 fun ρ' h' tk f X' _ r2 => ?_
        rw [twR_eq hW.con, List.append_nil, List.append_nil] at r2
        refine tiLoop S hts ha l (fc := fc) (ρ := fun k => ρ' ([0, 1, 2, 3, 4].getD k 0)) (s := { s with heap := h', toks := tk }) h2 O B r2 hW (by lia) fun ρ2 h3 tk2 rest' W' c1 c2 c3 c4 => ?_
        exact H ρ2 h3 tk2 rest' W' (fun k hk' => by rw [c1 k hk', hk5 k (by lia)]; exact X'.2 k (Nat.lt_of_lt_of_eq (by lia : k < 5) (hn _ _).symm)) c2 (by simpa [iStep, e1, e2] using c3) c4
end
end Mine
namespace Mine
open PySem PySem.W PyProof.Rows PySem.Calls PySem.Spec
noncomputable def oStep (ts : List Nm) : List Nm → List (Nm × Nm)
  | [] => []
  | a :: l => iStep a ts ++ oStep ts l
theorem twF_b : forB twF = [twI] := by kernel_rfl
theorem RowsT.len {P : Params} {rest : List (Addr × Obj)} {W : List AV} {L : List (Nm × Nm)} (h : RowsT P rest W L) : W.length = L.length := All2.length h
theorem iStep_len (a : Nm) : ∀ l, (iStep a l).length ≤ l.length
  | [] => Nat.le_refl _
  | b :: l => by
    have := iStep_len a l
    simp only [iStep, List.length_append, List.length_cons]
    split
    · simp; lia
    · split
      · simp; lia
      · simp; lia
section
variable {prog : Program} {w : World} {K : Frag} {p : Program} {loose : List Str} {mean : ExcName → Option Value} {mg mb : Str → Option Value}
theorem q_twI : ∃ pos, twI = .For (forT twI) (forI twI) (forB twI) [] pos := ⟨_, rfl⟩
theorem e_twI : twI = .For (forT twI) (forI twI) (forB twI) [] (Classical.choose q_twI) := Classical.choose_spec q_twI
set_option tactic.hygienic true in
theorem twLoop (S : Snd prog w K p loose mean mg mb 900 200 (evs (T2 w.params) 200)) {ts M : List Nm} (hts : ∀ u ∈ ts, u.length ≤ 100) {Q : Flow → Shared → Prop} : ∀ (l : List Nm) {i : Nat} {W : List AV} {L : List (Nm × Nm)} {fc : FC} {ρ : Nat → Addr} {s : Shared},
    ts.drop i = l → FrOk K p loose mean mg mb fiTW fc → Room2 900 200 fc.A → Rel w.params fiTW fc ρ (twSt ts W M [] [.liter 0 i] [] []) s.heap → RowsT w.params fc.rest W L → W.length + l.length * ts.length ≤ 1000 →
    (∀ ρ' h' tk rest' W', (∀ k, k < 3 → ρ' k = ρ k) → Rel w.params fiTW { fc with rest := rest' } ρ' (twSt ts W' M [] [] [] []) h' → RowsT w.params rest' W' (L ++ oStep ts l) → (∀ y ∈ fc.rest, y ∈ rest') → Q .next { s with heap := h', toks := tk }) →
    codeAny (model prog w) fc.A (.forLoop (forT twF) (.ref (ρ 3)) (forB twF) [] fc.env) (fun r s' => match r with | .ok f => Q f s' | .error _ => False) s
  | [], i, W, L, fc, ρ, s, hj, O, B, r, hW, hlen, H => by
    have r1 := r.mus (fun _ _ h => h) [0] []
    refine fr_end S O (hev := fun ρ' => tw_end w.params ρ' ts M W i) (fun _ _ => ⟨at_no hj, trivial⟩) hclT r1 fun h' tk f _ r2 => ?_
    rw [twR_eq hW.con, List.append_nil, List.append_nil, List.append_nil] at r2
    have hk : ∀ k, k < 3 → [0, 1, 2].getD k 0 = k := by decide
    exact H _ h' tk fc.rest W (fun k hk' => by show ρ ([0, 1, 2].getD k 0) = _; rw [hk k hk']) r2 (by rw [show oStep ts [] = [] from rfl, List.append_nil]; exact hW) fun y hy => hy
  | a :: l, i, W, L, fc, ρ, s, hj, O, B, r, hW, hlen, H => by
    obtain ⟨h1, h2⟩ := at_ok hj
    have ha : a.length ≤ 100 := hts a (List.mem_of_mem_drop (i := i) (by rw [hj]; exact .head _))
    simp only [List.length_cons, Nat.add_mul, Nat.one_mul] at hlen
    have hn : ∀ or ov, (twSt ts W M [] [.liter 0 i] or ov).n = 4 := fun _ _ => tw_n
    have hn1 : ∀ or ov, (twSt ts W M [(nOne, .str a)] [.liter 0 (i + 1)] or ov).n = 4 := fun _ _ => tw_n
    have hk4 : ∀ k, k < 4 → [0, 1, 2, 3].getD k 0 = k := by decide
    have hk5 : ∀ k, k < 5 → k < 4 → [0, 1, 2, 3, 4].getD k 0 = k := by decide
    have r1 := r.mus (fun _ _ h => h) [1] [.str a]
    refine fr_hand S O B (hev := fun ρ' => tw_turn w.params ρ' ts M W i a) (fun _ _ => ⟨h1, trivial⟩) hclT r1 fun ρ1 h1' tk1 f1 X1 _ r2 => ?_
    rw [twR_eq hW.con, List.append_nil, List.append_nil] at r2
    have ep : plainIt (forI twI) = true := by kernel_rfl
    rw [twF_b]
    refine wpAny_execs_cons ?_
    rw [e_twI]
    refine for_out (k' := 4) (fc := fc) (ρ := fun k => ρ1 ([0, 1, 2, 3].getD k 0)) (s := { s with heap := h1', toks := tk1 }) S O B ep (hev := fun ρ' => ti_for w.params ρ' ts M W (i + 1) a) rfl (fun _ _ => trivial) hclT r2 fun ρ2 h2' tk2 f2 X2 _ r3 => ?_
    rw [twR_eq hW.con, List.append_nil, List.append_nil] at r3
    refine tiLoop S hts ha ts (j := 0) (fc := fc) (ρ := fun k => ρ2 ([0, 1, 2, 3, 4].getD k 0)) (s := { s with heap := h2', toks := tk2 }) rfl O B r3 hW (by lia) fun ρ3 h3' tk3 rest3 W3 c1 c2 c3 c4 => ?_
    have e3 : ∀ k, k < 4 → ρ3 k = ρ k := fun k hk => by
      rw [c1 k hk]
      show ρ2 ([0, 1, 2, 3, 4].getD k 0) = _
      rw [hk5 k (by lia) hk, X2.2 k (Nat.lt_of_lt_of_eq hk (hn1 _ _).symm)]
      show ρ1 ([0, 1, 2, 3].getD k 0) = _
      rw [hk4 k hk]
      exact X1.2 k (Nat.lt_of_lt_of_eq hk (hn _ _).symm)
    have hl3 := c3.len
    have hl0 := hW.len
    have hst := iStep_len a ts
    rw [List.length_append] at hl3
    refine wpAny_execs_nil ?_
    have ih := twLoop S hts l (Q := Q) (fc := { fc with rest := rest3 }) (ρ := ρ3) (s := { s with heap := h3', toks := tk3 }) h2 (O.rst _) B c2 c3 (by lia) fun ρ4 h4 tk4 rest4 W4 k1 k2 k3 k4 => ?_
    · rw [e3 3 (by lia), twF_b, e_twI] at ih
      exact ih
    · exact H ρ4 h4 tk4 rest4 W4 (fun k hk => (k1 k hk).trans (e3 k (by lia))) k2 (by rw [show oStep ts (a :: l) = iStep a ts ++ oStep ts l from rfl, ← List.append_assoc]; exact k3) fun y hy => k4 y (c4 y hy)
end
end Mine
namespace Mine
open PySem PySem.W PyProof.Rows PySem.Calls PySem.Spec
/-- what comes of a text and what is left over of it -/
noncomputable def jStep (t r : Nm) : List Nm → List (Nm × Nm)
  | [] => []
  | a :: l => (if r.take a.length = a then [(t, r.drop a.length)] else if a.take r.length = r then [(t ++ a.drop r.length, a.drop r.length)] else []) ++ jStep t r l
theorem jStep_len (t r : Nm) : ∀ l, (jStep t r l).length ≤ l.length
  | [] => Nat.le_refl _
  | b :: l => by
    have := jStep_len t r l
    simp only [jStep, List.length_append, List.length_cons]
    split
    · simp; lia
    · split
      · simp; lia
      · simp; lia
section
variable {prog : Program} {w : World} {K : Frag} {p : Program} {loose : List Str} {mean : ExcName → Option Value} {mg mb : Str → Option Value}
set_option tactic.hygienic true in
theorem tjLoop (S : Snd prog w K p loose mean mg mb 900 200 (evs (T2 w.params) 200)) {ts M : List Nm} (hts : ∀ u ∈ ts, u.length ≤ 100) {t r : Nm} (ht : t.length ≤ 10000) (hr : r.length ≤ 100) {Q : Flow → Shared → Prop} : ∀ (l : List Nm) {i : Nat} {W : List AV} {L : List (Nm × Nm)} {fc : FC} {ρ : Nat → Addr} {s : Shared},
    ts.drop i = l → FrOk K p loose mean mg mb fiTW fc → Room2 900 200 fc.A → Rel w.params fiTW fc ρ (twSt ts W M [(nText, .str t), (nRest, .str r)] [.liter 0 i] [] []) s.heap → RowsT w.params fc.rest W L → W.length + l.length ≤ 1000 →
    (∀ ρ' h' tk rest' W', (∀ k, k < 3 → ρ' k = ρ k) → Rel w.params fiTW { fc with rest := rest' } ρ' (twSt ts W' M [] [] [] []) h' → RowsT w.params rest' W' (L ++ jStep t r l) → (∀ y ∈ fc.rest, y ∈ rest') → Q .next { s with heap := h', toks := tk }) →
    codeAny (model prog w) fc.A (.forLoop (forT twJ) (.ref (ρ 3)) (forB twJ) [] fc.env) (fun r s' => match r with | .ok f => Q f s' | .error _ => False) s
  | [], i, W, L, fc, ρ, s, hj, O, B, rr, hW, hlen, H => by
    have r1 := rr.mus (fun _ _ h => h) [0] []
    refine fr_end S O (hev := fun ρ' => tj_end w.params ρ' ts M W t r i) (fun _ _ => ⟨at_no hj, trivial⟩) hclT r1 fun h' tk f _ r2 => ?_
    rw [twR_eq hW.con, List.append_nil, List.append_nil, List.append_nil] at r2
    have hk : ∀ k, k < 3 → [0, 1, 2].getD k 0 = k := by decide
    exact H _ h' tk fc.rest W (fun k hk' => by show ρ ([0, 1, 2].getD k 0) = _; rw [hk k hk']) r2 (by rw [show jStep t r [] = [] from rfl, List.append_nil]; exact hW) fun y hy => hy
  | a :: l, i, W, L, fc, ρ, s, hj, O, B, rr, hW, hlen, H => by
    obtain ⟨h1, h2⟩ := at_ok hj
    have ha : a.length ≤ 100 := hts a (List.mem_of_mem_drop (i := i) (by rw [hj]; exact .head _))
    simp only [List.length_cons] at hlen
    have hn : ∀ or ov, (twSt ts W M [(nText, .str t), (nRest, .str r)] [.liter 0 i] or ov).n = 4 := fun _ _ => tw_n
    have hk4 : ∀ k, k < 4 → [0, 1, 2, 3].getD k 0 = k := by decide
    have c1' := cut_ok (a := a) (b := r) (by lia) (by lia)
    have c2' := cut_ok (a := r) (b := a) (by lia) (by lia)
    by_cases e1 : r.take a.length = a
    · have r1 := rr.mus (fun _ _ h => h) [1, 1] [.str a]
      have hP : Ps ([atP ts i a] ++ cutP a r ++ [pfx a r] ++ cutP a r ++ [szP W]) := Ps.join (Ps.join (Ps.join (Ps.join ⟨h1, trivial⟩ c1') ⟨e1, trivial⟩) c1') ⟨sz_ok (by lia), trivial⟩
      refine fr_next (k' := 3) S O B (hev := fun ρ' => tj_y w.params ρ' ts M W t r a i) (Nat.lt_of_lt_of_eq (by decide : 3 < 4) (hn _ _).symm) rfl (fun _ _ => hP) hclT r1 fun ρ' h' tk f X' gf r2 => ?_
      rw [twR_eq hW.con, List.append_nil] at r2
      have hW2 : RowsT w.params (restOf ρ' [4] f fc.rest) (W ++ [.con (.ref (ρ' 4))]) (L ++ [(t, r.drop a.length)]) := All2.append (hW.mono fun y hy => mem_restOf hy) ⟨⟨_, rfl, f 4, new_restOf (.head _), gf.rep 0 4 _ rfl rfl⟩, trivial⟩
      refine tjLoop S hts ht hr l (fc := { fc with rest := restOf ρ' [4] f fc.rest }) (ρ := fun k => ρ' ([0, 1, 2, 3].getD k 0)) (s := { s with heap := h', toks := tk }) h2 (O.rst _) B r2 hW2 (by simp; lia) fun ρ2 h3 tk2 rest' W' c1 c2 c3 c4 => ?_
      exact H ρ2 h3 tk2 rest' W' (fun k hk' => by rw [c1 k hk', hk4 k (by lia)]; exact X'.2 k (Nat.lt_of_lt_of_eq (by lia : k < 4) (hn _ _).symm)) c2 (by simpa [jStep, e1] using c3) fun y hy => c4 y (mem_restOf hy)
    · by_cases e2 : a.take r.length = r
      · have r1 := rr.mus (fun _ _ h => h) [1, 0, 1] [.str a]
        have hP : Ps ([atP ts i a] ++ cutP a r ++ [¬ pfx a r] ++ cutP r a ++ [pfx r a] ++ cutP r a ++ [t.length + (a.drop r.length).length ≤ sizeLine] ++ cutP r a ++ [szP W]) :=
          Ps.join (Ps.join (Ps.join (Ps.join (Ps.join (Ps.join (Ps.join (Ps.join ⟨h1, trivial⟩ c1') ⟨e1, trivial⟩) c2') ⟨e2, trivial⟩) c2') ⟨by rw [sizeL, List.length_drop]; lia, trivial⟩) c2') ⟨sz_ok (by lia), trivial⟩
        refine fr_next (k' := 3) S O B (hev := fun ρ' => tj_z w.params ρ' ts M W t r a i) (Nat.lt_of_lt_of_eq (by decide : 3 < 4) (hn _ _).symm) rfl (fun _ _ => hP) hclT r1 fun ρ' h' tk f X' gf r2 => ?_
        rw [twR_eq hW.con, List.append_nil] at r2
        have hW2 : RowsT w.params (restOf ρ' [4] f fc.rest) (W ++ [.con (.ref (ρ' 4))]) (L ++ [(t ++ a.drop r.length, a.drop r.length)]) := All2.append (hW.mono fun y hy => mem_restOf hy) ⟨⟨_, rfl, f 4, new_restOf (.head _), gf.rep 0 4 _ rfl rfl⟩, trivial⟩
        refine tjLoop S hts ht hr l (fc := { fc with rest := restOf ρ' [4] f fc.rest }) (ρ := fun k => ρ' ([0, 1, 2, 3].getD k 0)) (s := { s with heap := h', toks := tk }) h2 (O.rst _) B r2 hW2 (by simp; lia) fun ρ2 h3 tk2 rest' W' c1 c2 c3 c4 => ?_
        exact H ρ2 h3 tk2 rest' W' (fun k hk' => by rw [c1 k hk', hk4 k (by lia)]; exact X'.2 k (Nat.lt_of_lt_of_eq (by lia : k < 4) (hn _ _).symm)) c2 (by simpa [jStep, e1, e2] using c3) fun y hy => c4 y (mem_restOf hy)
      · have r1 := rr.mus (fun _ _ h => h) [1, 0, 0] [.str a]
        have hP : Ps ([atP ts i a] ++ cutP a r ++ [¬ pfx a r] ++ cutP r a ++ [¬ pfx r a]) := Ps.join (Ps.join (Ps.join (Ps.join ⟨h1, trivial⟩ c1') ⟨e1, trivial⟩) c2') ⟨e2, trivial⟩
        refine fr_next (k' := 3) S O B (hev := fun ρ' => tj_n w.params ρ' ts M W t r a i) (Nat.lt_of_lt_of_eq (by decide : 3 < 4) (hn _ _).symm) rfl (fun _ _ => hP) hclT r1 fun ρ' h' tk f X' _ r2 => ?_
        rw [twR_eq hW.con, List.append_nil, List.append_nil] at r2
        refine tjLoop S hts ht hr l (fc := fc) (ρ := fun k => ρ' ([0, 1, 2, 3].getD k 0)) (s := { s with heap := h', toks := tk }) h2 O B r2 hW (by lia) fun ρ2 h3 tk2 rest' W' c1 c2 c3 c4 => ?_
        exact H ρ2 h3 tk2 rest' W' (fun k hk' => by rw [c1 k hk', hk4 k (by lia)]; exact X'.2 k (Nat.lt_of_lt_of_eq (by lia : k < 4) (hn _ _).symm)) c2 (by simpa [jStep, e1, e2] using c3) c4
end
end Mine
namespace Mine
open PySem PySem.W PyProof.Rows PySem.Calls PySem.Spec
/-- the loop, told plainly -/
noncomputable def twRun (ts : List Nm) : Nat → List (Nm × Nm) → List Nm → Option (Option Nm)
  | 0, _, _ => none
  | _ + 1, [], _ => some none
  | n + 1, q :: L, M => if q.2 = [] then some (some q.1) else if q.2 ∈ M then twRun ts n L M else twRun ts n (L ++ jStep q.1 q.2 ts) (M ++ [q.2])
noncomputable def resA : Option Nm → AV
  | none => .none
  | some t => .str t
theorem jStep_ok {t r : Nm} {ts : List Nm} {B : Nat} (hts : ∀ u ∈ ts, u.length ≤ 100) (ht : t.length + 100 ≤ B) (hr : r.length ≤ 100) : ∀ {l : List Nm}, (∀ u ∈ l, u.length ≤ 100) → ∀ q ∈ jStep t r l, q.1.length ≤ B ∧ q.2.length ≤ 100
  | [], _, q, hq => nomatch hq
  | a :: l, h, q, hq => by
    have ha := h a (.head _)
    rcases List.mem_append.mp hq with hq | hq
    · split at hq
      · obtain rfl := List.mem_singleton.mp hq
        exact ⟨by show t.length ≤ B; lia, by show (r.drop a.length).length ≤ 100; rw [List.length_drop]; lia⟩
      · split at hq
        · obtain rfl := List.mem_singleton.mp hq
          exact ⟨by show (t ++ a.drop r.length).length ≤ B; rw [List.length_append, List.length_drop]; lia, by show (a.drop r.length).length ≤ 100; rw [List.length_drop]; lia⟩
        · exact nomatch hq
    · exact jStep_ok hts ht hr (fun u hu => h u (.tail _ hu)) q hq
theorem RowsT.rdv {P : Params} {sg : Tr} {rest : List (Addr × Obj)} : ∀ {W : List AV} {L : List (Nm × Nm)}, RowsT P rest W L → RdVs sg (immOf P rest) W (L.map fun q => .tuple [.str (stn q.1), .str (stn q.2)])
  | [], [], _ => .nil
  | [], _ :: _, h => h.elim
  | _ :: _, [], h => h.elim
  | a :: W, q :: L, h => by
    obtain ⟨c, rfl, o, ho, hr⟩ := h.1
    exact .cons (.con (xs := [.str q.1, .str q.2]) ⟨o, ho, hr⟩ (.cons (.str _) (.cons (.str _) .nil))) (RowsT.rdv h.2)
noncomputable def okRow (q : Nm × Nm) : Prop := okStr q.1 ∧ okStr q.2
theorem row_shaped {L : List (Nm × Nm)} (h : ∀ q ∈ L, okRow q) : SeqAt.shaped (.list (L.map fun q => PyData.tuple [.str (stn q.1), .str (stn q.2)])) = true := (rows_shaped fun d hd => by
  obtain ⟨q, hq, rfl⟩ := List.mem_map.mp hd
  intro e he
  simp only [List.mem_cons, List.not_mem_nil, or_false] at he
  rcases he with rfl | rfl
  · exact strOk_of (h q hq).1
  · exact strOk_of (h q hq).2).1
theorem tw_dat {P : Params} {rest : List (Addr × Obj)} {ts M : List Nm} {W : List AV} {L : List (Nm × Nm)} (h : RowsT P rest W L) (ho : ∀ q ∈ L, okRow q) : DatEq (twSt ts W M [] [.list none []] [] []).sg (immOf P rest) (.ref 1) (.ref 3) (L.isEmpty) := by
  have g1 : (twSt ts W M [] [.list none []] [] []).sg.get 1 = .list (some W) [] := by kernel_rfl
  have g3 : (twSt ts W M [] [.list none []] [] []).sg.get 3 = .list none [] := by kernel_rfl
  refine ⟨_, _, .list g1 (by show RdVs _ _ (W ++ []) _; rw [List.append_nil]; exact h.rdv), .list g3 .nil, row_shaped ho, (rows_shaped (ds := []) fun d hd => nomatch hd).1, ?_⟩
  cases L with
  | nil => simp [PyData.eqv, PyData.eqvAll]
  | cons q L => simp [PyData.eqv, PyData.eqvAll]
end Mine
namespace Mine
open PySem PySem.W PyProof.Rows PySem.Calls PySem.Spec
theorem okStr_drop {a : Nm} (h : okStr a) (n : Nat) : okStr (a.drop n) := fun c hc => h c (List.mem_of_mem_drop hc)
theorem okStr_app {a b : Nm} (h : okStr a) (k : okStr b) : okStr (a ++ b) := fun c hc => by
  rcases List.mem_append.mp hc with hc | hc
  · exact h c hc
  · exact k c hc
theorem jStep_row {t r : Nm} (ht : okStr t) (hr : okStr r) : ∀ {l : List Nm}, (∀ u ∈ l, okStr u) → ∀ q ∈ jStep t r l, okRow q
  | [], _, q, hq => nomatch hq
  | a :: l, h, q, hq => by
    have ha := h a (.head _)
    rcases List.mem_append.mp hq with hq | hq
    · split at hq
      · obtain rfl := List.mem_singleton.mp hq
        exact ⟨ht, okStr_drop hr _⟩
      · split at hq
        · obtain rfl := List.mem_singleton.mp hq
          exact ⟨okStr_app ht (okStr_drop ha _), okStr_drop ha _⟩
        · exact nomatch hq
    · exact jStep_row ht hr (fun u hu => h u (.tail _ hu)) q hq
theorem has_iff {M : List Nm} {r : Nm} : hasP M r ↔ r ∈ M := by
  unfold hasP
  show AV.str r ∈ M.map AV.str ++ [] ↔ _
  rw [List.append_nil, List.mem_map]
  constructor
  · rintro ⟨a, ha, e⟩
    cases e; exact ha
  · exact fun h => ⟨r, h, rfl⟩
theorem all_ok (M : List Nm) : allP M := fun y hy => by
  have hy : y ∈ M.map AV.str ++ [] := hy
  rw [List.append_nil] at hy
  obtain ⟨z, _, rfl⟩ := List.mem_map.mp hy
  exact ⟨z, rfl⟩
section
variable {prog : Program} {w : World} {K : Frag} {p : Program} {loose : List Str} {mean : ExcName → Option Value} {mg mb : Str → Option Value}
set_option tactic.hygienic true in
theorem twWhile (S : Snd prog w K p loose mean mg mb 900 200 (evs (T2 w.params) 200)) (ok : PTOk3 prog w K p loose mean mg mb (T2 w.params) 900) {ts : List Nm} (hts : ∀ u ∈ ts, u.length ≤ 100) (hok : ∀ u ∈ ts, okStr u) (hl3 : ts.length ≤ 3) {res : Option Nm} {Q : Flow → Shared → Prop} : ∀ (n : Nat) {M : List Nm} {W : List AV} {L : List (Nm × Nm)} {fc : FC} {ρ : Nat → Addr} {s : Shared} {k : Nat},
    twRun ts n L M = some res → FrOk K p loose mean mg mb fiTW fc → Room2 900 200 fc.A → Rel w.params fiTW fc ρ (twSt ts W M [] [] [] []) s.heap → RowsT w.params fc.rest W L → W.length + 3 * n ≤ 900 → M.length + n ≤ 900 → (∀ q ∈ L, q.1.length + 100 * n ≤ 10000 ∧ q.2.length ≤ 100) → (∀ q ∈ L, okRow q) →
    (∀ ρ' h' tk rest' u m, ρ' 0 = ρ 0 → Rel w.params fiTW { fc with rest := rest' } ρ' (mkS0 [(nWords, .ref 0)] [.list (some (ts.map .str)) []] [] []) h' → (∀ y ∈ fc.rest, y ∈ rest') → RepV ρ' m (resA res) u → Q (.ret u) { s with heap := h', toks := tk }) →
    WhlRest prog w fc.A NoE fc.env (whileT twW) twWB [] (fun f s' => match f with | .next => wpAny (model prog w) fc.A (execs (dropS 3 twB) fc.env) Q NoE s' | f => Q f s') k s
  | 0, _, _, _, _, _, _, _, h, _, _, _, _, _, _, _, _, _ => nn h
  | n + 1, M, W, [], fc, ρ, s, k, h, O, B, r, hW, hwl, hml, hq, hr, H => by
    obtain rfl : res = none := by cases h; rfl
    have hW0 : W = [] := by cases W with | nil => rfl | cons => exact hW.elim
    subst hW0
    have r1 : Rel w.params fiTW fc ρ (withImm (twSt ts [] M [] [] [1] []) (immOf w.params fc.rest)) s.heap := (r.mus (mu' := twMu []) (fun _ _ h => h) [1] []).imms
    have hev := fun ρ' => tl_end w.params ρ' ts M (immOf w.params fc.rest)
    have hP : Ps [DatEq (twSt ts [] M [] [.list none []] [] []).sg (immOf w.params fc.rest) (.ref 1) (.ref 3) true] := ⟨tw_dat (L := []) hW (fun q hq => nomatch hq), trivial⟩
    obtain ⟨st1, P1, e1, hP1, _⟩ := anew (w := w) (fc := fc) (fi := fiTW) (h' := s.heap) (hev ρ) hP hclT
    refine whEnd_sound S O B e1 hP1 r1 fun ρ' h' tk vv X' r' qq => ?_
    obtain ⟨st2, P2, e2, _, g⟩ := anew (w := w) (fc := fc) (fi := fiTW) (h' := h') (hev ρ') hP hclT
    rw [e1] at e2
    cases e2
    obtain ⟨f, _, g2⟩ := g r'
    obtain ⟨v', rfl, rv⟩ := qq
    rw [renL_strs] at g2
    exact H (fun j => ρ' ([0].getD j 0)) h' tk fc.rest v' 0 (X'.2 0 (by show 0 < 3; decide)) g2 (fun y hy => hy) rv
  | n + 1, M, W, q :: L, fc, ρ, s, k, h, O, B, r, hW, hwl, hml, hq, hr, H => by
    obtain ⟨t, rr⟩ := q
    obtain ⟨c, W, rfl, hin, hW'⟩ : ∃ c W', W = .con (.ref c) :: W' ∧ InT w.params fc.rest c [.str t, .str rr] ∧ RowsT w.params fc.rest W' L := by
      cases W with
      | nil => exact hW.elim
      | cons a W' => obtain ⟨c, rfl, hc⟩ := hW.1; exact ⟨c, W', rfl, hc, hW.2⟩
    simp only [List.length_cons] at hwl
    obtain ⟨q1, q2⟩ := hq _ (.head _)
    obtain ⟨o1, o2⟩ := hr _ (.head _)
    have r1 : Rel w.params fiTW fc ρ (withImm (twSt ts (.con (.ref c) :: W) M [] [] [0] []) (immOf w.params fc.rest)) s.heap := (r.mus (mu' := twMu []) (fun _ _ h => h) [0] []).imms
    have hP : Ps [DatEq (twSt ts (.con (.ref c) :: W) M [] [.list none []] [] []).sg (immOf w.params fc.rest) (.ref 1) (.ref 3) false] := ⟨tw_dat (L := (t, rr) :: L) hW hr, trivial⟩
    show WhlRest prog w fc.A NoE fc.env (whileT twW) twWB [] _ (0 + 1) s
    refine whl_turn (passesNo _ _ _) ?_
    refine out_turn (sndF_b S O B (whileT twW)) (hev := fun ρ' => tl_test w.params ρ' ts M W c (immOf w.params fc.rest)) (fun _ _ => hP) hclT r1 fun ρ1 h1 tk1 f1 v1 m1 X1 _ r2 qv => ?_
    subst qv
    refine WhlIf.yes rfl ?_
    rw [twR_eq hW.con, List.append_nil, List.append_nil, List.append_nil] at r2
    have r2 : Rel w.params fiTW fc (fun j => ρ1 ([0, 1, 2].getD j 0)) (twSt ts (.con (.ref c) :: W) M [] [] [] []) h1 := r2
    have hk3 : ∀ j, j < 3 → [0, 1, 2].getD j 0 = j := by decide
    have n3 : ∀ or ov, (twSt ts (.con (.ref c) :: W) M [] [] or ov).n = 3 := fun _ _ => tw_n
    have e1 : ∀ j, j < 3 → ρ1 ([0, 1, 2].getD j 0) = ρ j := fun j hj => by rw [hk3 j hj]; exact X1.2 j (Nat.lt_of_lt_of_eq hj (n3 [0] []).symm)
    have hin' : immOf w.params fc.rest c [.str t, .str rr] := hin
    have hsz : szP (.con (.ref c) :: W) := sz_ok (by simp; lia)
    have n3' : ∀ or ov, (twSt ts (.con (.ref c) :: W) M [] [] or ov).n = 3 := fun _ _ => tw_n
    unfold twRun at h
    by_cases d1 : rr = []
    · rw [if_pos d1] at h
      obtain rfl := Option.some.inj h
      have r3 := (r2.mus (mu' := twMu []) (fun _ _ h => h) [1] [.str t, .str rr]).imms
      refine out_turn (s := { s with heap := h1, toks := tk1 }) (sndF_ss S O B twWB) (hev := fun ρ' => tl_ret w.params ρ' ts M W c t rr (immOf w.params fc.rest)) (fun _ _ => ⟨hsz, hin', d1, trivial⟩) hclT r3 fun ρ2 h2 tk2 f2 v2 m2 X2 _ r4 q4 => ?_
      obtain ⟨v', rfl, rv⟩ := q4
      rw [renL_strs] at r4
      exact H (fun j => ρ2 ([0].getD j 0)) h2 tk2 _ v' m2 ((X2.2 0 (Nat.lt_of_lt_of_eq (by decide : 0 < 3) (n3' [1] [.str t, .str rr]).symm)).trans (e1 0 (by decide))) r4 (fun y hy => hy) rv
    · rw [if_neg d1] at h
      by_cases d2 : rr ∈ M
      · rw [if_pos d2] at h
        have r3 := (r2.mus (mu' := twMu []) (fun _ _ h => h) [0, 1] [.str t, .str rr]).imms
        refine out_turn (s := { s with heap := h1, toks := tk1 }) (sndF_ss S O B twWB) (hev := fun ρ' => tl_cont w.params ρ' ts M W c t rr (immOf w.params fc.rest)) (fun _ _ => ⟨hsz, hin', d1, all_ok M, has_iff.mpr d2, trivial⟩) hclT r3 fun ρ2 h2 tk2 f2 v2 m2 X2 _ r4 q4 => ?_
        obtain rfl := q4
        rw [twR_eq hW'.con, List.append_nil, List.append_nil, List.append_nil] at r4
        have e2 : ρ2 ([0, 1, 2].getD 0 0) = ρ 0 := (X2.2 0 (Nat.lt_of_lt_of_eq (by decide : 0 < 3) (n3' [0, 1] [.str t, .str rr]).symm)).trans (e1 0 (by decide))
        exact twWhile S ok hts hok hl3 n (k := 0) (fc := fc) (ρ := fun j => ρ2 ([0, 1, 2].getD j 0)) (s := { s with heap := h2, toks := tk2 }) h O B r4 hW' (by lia) (by lia) (fun q hq' => ⟨by have := (hq q (.tail _ hq')).1; lia, (hq q (.tail _ hq')).2⟩) (fun q hq' => hr q (.tail _ hq')) fun ρ' h' tk rest' u m k1 k2 k3 k4 => H ρ' h' tk rest' u m (k1.trans e2) k2 k3 k4
      · rw [if_neg d2] at h
        have r3 := (r2.mus (mu' := twMu []) (fun _ _ h => h) [0, 0] [.str t, .str rr]).imms
        rw [twWB_eq]
        refine out_app (s := { s with heap := h1, toks := tk1 }) ok O B (fun ρ' => tl_next w.params ρ' ts M W c t rr (immOf w.params fc.rest)) (fun _ _ => ⟨hsz, hin', d1, all_ok M, fun q => d2 (has_iff.mp q), sz_ok (by simp; lia), trivial⟩) hclT r3 fun ρ2 h2 tk2 f2 X2 _ r4 => ?_
        rw [twR_eq hW'.con, List.append_nil, List.append_nil, show M.map AV.str ++ [.str rr] = (M ++ [rr]).map AV.str by simp] at r4
        have e2 : ∀ j, j < 3 → ρ2 ([0, 1, 2].getD j 0) = ρ j := fun j hj => by
          rw [hk3 j hj, X2.2 j (Nat.lt_of_lt_of_eq hj (n3' [0, 0] [.str t, .str rr]).symm)]; exact e1 j hj
        obtain ⟨pos, e0, ep⟩ : (∃ pos, twJ = .For (forT twJ) (forI twJ) (forB twJ) [] pos ∧ plainIt (forI twJ) = true) := ⟨_, rfl, by kernel_rfl⟩
        refine wpAny_execs_cons ?_
        rw [e0]
        refine for_out (k' := 3) (fc := fc) (ρ := fun j => ρ2 ([0, 1, 2].getD j 0)) (s := { s with heap := h2, toks := tk2 }) S O B ep (hev := fun ρ' => tj_for w.params ρ' ts (M ++ [rr]) W t rr) rfl (fun _ _ => trivial) hclT r4 fun ρ3 h3 tk3 f3 X3 _ r5 => ?_
        rw [twR_eq hW'.con, List.append_nil, List.append_nil] at r5
        have hk4 : ∀ j, j < 4 → [0, 1, 2, 3].getD j 0 = j := by decide
        have n3'' : (twSt ts W (M ++ [rr]) [(nText, .str t), (nRest, .str rr)] [] [] []).n = 3 := tw_n
        refine tjLoop S hts (by lia) q2 ts (i := 0) (fc := fc) (ρ := fun j => ρ3 ([0, 1, 2, 3].getD j 0)) (s := { s with heap := h3, toks := tk3 }) rfl O B r5 hW' (by lia) fun ρ4 h4 tk4 rest4 W4 c1 c2 c3 c4 => ?_
        have hl := c3.len
        have hjl := jStep_len t rr ts
        have hl0 := hW'.len
        rw [List.length_append] at hl
        have e4 : ρ4 0 = ρ 0 := by
          rw [c1 0 (by decide)]
          show ρ3 ([0, 1, 2, 3].getD 0 0) = _
          rw [hk4 0 (by decide), X3.2 0 (Nat.lt_of_lt_of_eq (by decide : 0 < 3) n3''.symm)]
          exact e2 0 (by decide)
        refine wpAny_execs_nil ?_
        have ih := twWhile S ok hts hok hl3 n (M := M ++ [rr]) (L := L ++ jStep t rr ts) (Q := Q) (k := 0) (fc := { fc with rest := rest4 }) (ρ := ρ4) (s := { s with heap := h4, toks := tk4 }) h (O.rst _) B c2 c3 (by lia) (by simp; lia) (fun q hq' => ?_) (fun q hq' => ?_) fun ρ' h' tk rest' u m k1 k2 k3 k4 => H ρ' h' tk rest' u m (k1.trans e4) k2 (fun y hy => k3 y (c4 y hy)) k4
        · rw [twWB_eq, e0] at ih
          exact ih
        · rcases List.mem_append.mp hq' with hq' | hq'
          · exact ⟨by have := (hq q (.tail _ hq')).1; lia, (hq q (.tail _ hq')).2⟩
          · obtain ⟨g1, g2⟩ := jStep_ok (B := 10000 - 100 * n) hts (by lia) q2 hts q hq'
            exact ⟨by lia, g2⟩
        · rcases List.mem_append.mp hq' with hq' | hq'
          · exact hr q (.tail _ hq')
          · exact jStep_row o1 o2 hok q hq'
end
end Mine
namespace Mine
open PySem PySem.W PyProof.Rows PySem.Calls PySem.Spec
theorem tw_out (ρ : Nat → Addr) (ts : List Nm) : outc ρ [] [0] [] (ret () (mkS0 [(nWords, .ref 0)] [.list (some (ts.map .str)) []] [] [])) = some (mkS0 [] [] [] [], [.mu (.list none (renL ρ [] (ts.map .str) ++ []))], (), []) := by kernel_rfl
section
variable {prog : Program} {w : World} {K : Frag} {p : Program} {loose : List Str} {mean : ExcName → Option Value} {mg mb : Str → Option Value}
theorem twWalk (S : Snd prog w K p loose mean mg mb 900 200 (evs (T2 w.params) 200)) (ok : PTOk3 prog w K p loose mean mg mb (T2 w.params) 900) {ts : List Nm} (hts : ∀ u ∈ ts, u.length ≤ 100) (hok : ∀ u ∈ ts, okStr u) (hl3 : ts.length ≤ 3) {res : Option Nm} {n : Nat} (hn : n ≤ 90)
    (h : twRun ts n (oStep ts ts) [] = some res) (hq : ∀ q ∈ oStep ts ts, q.1.length ≤ 100 ∧ q.2.length ≤ 100) (hr : ∀ q ∈ oStep ts ts, okRow q) {fc : FC} {ρ : Nat → Addr} {s : Shared} {Q : Flow → Shared → Prop}
    (O : FrOk K p loose mean mg mb fiTW fc) (B : Room2 900 200 fc.A) (r : Rel w.params fiTW fc ρ (oneSt paMu ts) s.heap)
    (H : ∀ ρ' h' tk rest' o u m, Rel w.params fiTW { fc with rest := rest' } ρ' (mkS0 [] [] [] []) h' → (∀ y ∈ fc.rest, y ∈ rest') → (ρ 0, o) ∈ rest' → RepEO w.params (.mu (.list none (ts.map .str))) o → RepV ρ' m (resA res) u → Q (.ret u) { s with heap := h', toks := tk }) :
    wpAny (model prog w) fc.A (execs (fnx 600).body fc.env) Q NoE s := by
  rw [twB_eq]
  have r0 := r.view (l := 0) (p := none) (xs := ts.map .str) (p' := some (ts.map .str)) (xs' := []) (by rw [one_get]; rfl) (fun vs hv => by show All2 _ (ts.map AV.str ++ []) vs; rw [List.append_nil]; exact hv)
  have r0 : Rel w.params fiTW fc ρ { mu := [(nWords, .ref 0)], sg := Tr.ofL 0 .nil [.list (some (ts.map .str)) []], n := 1, or := [], ov := [] } s.heap := Eq.mp (by kernel_rfl) r0
  refine wpAny_execs_cons (out_turn (sndF_s S O B (hdS twB)) (hev := fun ρ' => tw_one w.params ρ' ts) (fun _ _ => trivial) hclT r0 fun ρ1 h1 tk1 f1 v1 m1 X1 _ r1 q1 => ?_)
  obtain rfl := q1
  rw [renL_strs] at r1
  have r1 := (r1.view (l := 1) (p := none) (xs := []) (p' := some []) (xs' := []) (by kernel_rfl) (fun vs hv => hv)).view (l := 2) (p := none) (xs := []) (p' := some []) (xs' := []) (by kernel_rfl) (fun vs hv => hv)
  have r1 : Rel w.params fiTW fc (fun j => ρ1 ([0, 1, 2].getD j 0)) (twSt ts [] [] [] [] [] []) h1 := Eq.mp (by kernel_rfl) r1
  obtain ⟨pos, e0, ep⟩ : (∃ pos, twF = .For (forT twF) (forI twF) (forB twF) [] pos ∧ plainIt (forI twF) = true) := ⟨_, rfl, by kernel_rfl⟩
  refine wpAny_execs_cons ?_
  rw [e0]
  refine for_out (k' := 3) (fc := fc) (ρ := fun j => ρ1 ([0, 1, 2].getD j 0)) (s := { s with heap := h1, toks := tk1 }) S O B ep (hev := fun ρ' => tw_for w.params ρ' ts [] []) rfl (fun _ _ => trivial) hclT r1 fun ρ2 h2 tk2 f2 X2 _ r2 => ?_
  rw [twR_eq (W := []) (fun a ha => nomatch ha)] at r2
  have r2 : Rel w.params fiTW fc (fun j => ρ2 ([0, 1, 2, 3].getD j 0)) (twSt ts [] [] [] [.liter 0 0] [] []) h2 := r2
  have hb : ts.length * ts.length ≤ 1000 := Nat.le_trans (Nat.mul_le_mul hl3 hl3) (by decide)
  refine twLoop S hts ts (i := 0) (W := []) (L := []) (fc := fc) (ρ := fun j => ρ2 ([0, 1, 2, 3].getD j 0)) (s := { s with heap := h2, toks := tk2 }) rfl O B r2 trivial (by simpa using hb) fun ρ3 h3 tk3 rest3 W3 c1 c2 c3 c4 => ?_
  have n3 : (twSt ts [] [] [] [] [] []).n = 3 := tw_n
  have e3 : ρ3 0 = ρ 0 := by
    rw [c1 0 (by decide)]
    show ρ2 0 = _
    rw [X2.2 0 (Nat.lt_of_lt_of_eq (by decide : 0 < 3) n3.symm)]
    exact X1.2 0 (by show 0 < 1; decide)
  have hlen : W3.length ≤ 9 := by
    have h1 := c3.len
    have h2 : ∀ l : List Nm, (oStep ts l).length ≤ l.length * ts.length := by
      intro l
      induction l with
      | nil => exact Nat.zero_le _
      | cons a l ih =>
        have := iStep_len a ts
        simp only [oStep, List.length_append, List.length_cons, Nat.add_mul, Nat.one_mul]; lia
    have h3 := h2 ts
    have h4 := Nat.mul_le_mul hl3 hl3
    rw [h1]
    show ([] ++ oStep ts ts).length ≤ 9
    rw [List.nil_append]; lia
  obtain ⟨wpos, ew⟩ : (∃ pos, twW = .While (whileT twW) twWB [] pos) := ⟨_, rfl⟩
  refine wpAny_execs_cons ?_
  rw [ew]
  refine whl_start 0 (twWhile S ok hts hok hl3 n (M := []) (L := oStep ts ts) (k := 0) (fc := { fc with rest := rest3 }) (ρ := ρ3) (s := { s with heap := h3, toks := tk3 }) h (O.rst _) B c2 c3 (by lia) (by simp; lia) (fun q hq' => ⟨by have := (hq q hq').1; lia, (hq q hq').2⟩) hr fun ρ4 h4 tk4 rest4 u m k1 k2 k3 k4 => ?_)
  obtain ⟨f, gf, r5⟩ := k2.again (tw_out ρ4 ts) hclT
  have hro := gf.rep 0 0 _ rfl rfl
  rw [renL_strs, List.append_nil] at hro
  exact H _ h4 tk4 (restOf ρ4 [0] f rest4) (f 0) u m r5 (fun y hy => mem_restOf (k3 y (c4 y hy))) (by rw [← e3, ← k1]; exact new_restOf (.head _)) hro (by cases res <;> exact k4)
end
end Mine
namespace Mine
open PySem PySem.W PyProof.Rows PySem.Calls PySem.Spec
section
variable {prog : Program} {w : World} {K : Frag} {p : Program} {loose : List Str} {mean : ExcName → Option Value} {mg mb : Str → Option Value}
theorem twofoldCall (S : Snd prog w K p loose mean mg mb 900 200 (evs (T2 w.params) 200)) (ok : PTOk3 prog w K p loose mean mg mb (T2 w.params) 900) {ts : List Nm} (hts : ∀ u ∈ ts, u.length ≤ 100) (hok : ∀ u ∈ ts, okStr u) (hl3 : ts.length ≤ 3) {res : Option Nm} {n : Nat} (hn : n ≤ 90)
    (h : twRun ts n (oStep ts ts) [] = some res) (hq : ∀ q ∈ oStep ts ts, q.1.length ≤ 100 ∧ q.2.length ≤ 100) (hr : ∀ q ∈ oStep ts ts, okRow q) {fi : FI} (own : fi.own = true) {fc : FC} {ρ : Nat → Addr} {st : St} {s : Shared} {l : Nat} {cvs : List Value} {Q : Value → Shared → Prop}
    (O : FrOk K p loose mean mg mb fi fc) (B : Room2 900 230 fc.A) (r : Rel w.params fi fc ρ st s.heap) (hl : st.sg.get l = .list none (ts.map .str)) (rv : All2 (RepV ρ st.n) [.ref l] cvs)
    (H : ∀ h' tk u, Rel w.params fi fc ρ { st with imm := fun _ _ => False } h' → RepV ρ st.n (resA res) u → Q u { s with heap := h', toks := tk }) : wpAny (model prog w) fc.A (call (Fn.fn 600).val cvs) Q NoE s := by
  have G0 : FnRec K 600 (fnx 600) := ok.fns 600 _ (by kernel_rfl)
  refine call_own G0 own B.lt (mu := [(nWords, .ref l)]) (mu0 := paMu) (by kernel_rfl) (fun x a hx => ?_) O r hl rv fun fc' rest h1 tk1 d1 d2 O1 r1 back => ?_
  · have hmm := look_mem hx
    simp only [paMu, List.mem_cons, Prod.mk.injEq, List.not_mem_nil, or_false] at hmm
    obtain ⟨rfl, rfl⟩ := hmm
    exact ⟨.ref l, by kernel_rfl, fun u h => ⟨Nat.zero_lt_one, h.2⟩⟩
  refine twWalk (fc := { fc' with rest := rest }) (s := { s with heap := h1, toks := tk1 }) S ok hts hok hl3 hn h hq hr O1 ((B.call d1 d2).dn (by decide)) r1 fun ρ' h' tk rest' o u m rr hs ho hro ru => ?_
  exact back (.ret u) ρ' _ h' tk rest' o rr hs ho hro fun h2 tk2 r2 => H h2 tk2 u r2 (by cases res <;> exact ru)
end
end Mine
namespace Mine
open PySem PySem.W PyProof.Rows PySem.Calls PySem.Spec
/-! the law's own frame -/
noncomputable def nScript : Nm := [115, 99, 114, 105, 112, 116]
noncomputable def nUsual : Nm := [117, 115, 117, 97, 108]
noncomputable def nCells : Nm := [99, 101, 108, 108, 115]
noncomputable def nTold : Nm := [116, 111, 108, 100]
noncomputable def nMany : Nm := [109, 97, 110, 121]
noncomputable def nRow : Nm := [114, 111, 119]
noncomputable def nFoundL : Nm := [102, 111, 117, 110, 100]
noncomputable def nNames : Nm := [110, 97, 109, 101, 115]
noncomputable def nLog : Nm := [108, 111, 103]
noncomputable def lwB : List Stmt := (fnx 626).body
noncomputable def clW : List (Nm × Nat) := [(nCells, 0), (nWords, 1), (nTold, 2), (nMany, 3)]
noncomputable def fiLW (cl : List (Nm × Nat)) (scr : Option (Nat × List AV)) : FI := ⟨(fnx 626).sc, cl, true, scr⟩
noncomputable def stL0 (a : Nat) : St := mkS0 [(nScript, .con (.ref a))] [.cell none, .cell none, .cell none, .cell none] [] []
end Mine
namespace Mine
open PySem PySem.W PyProof.Rows PySem.Calls PySem.Spec
noncomputable def absI (x : Int) : Int := if x < 0 then -x else x
noncomputable def lwA (P : Params) (cl : List (Nm × Nat)) (scr : Option (Nat × List AV)) (b : List Stmt) (st : St) : Rr AFl := (evT P).ss (fiLW cl scr) b st
/-- the cells told, no word yet -/
noncomputable def S1v (vs : List AV) : St := mkS0 [] [.cell (some (.ref 4)), .cell (some (.ref 5)), .cell none, .cell none, .list none vs, .list none []] [] []
noncomputable def ks1 : List Nat := [0, 1, 2, 3, 10, 11]
noncomputable def scP (a : Nat) (l : List AV) : List Prop := [a = a, l.length < 2 ^ 20, a = a, l.length < 2 ^ 20]
section
variable (P : Params) (ρ : Nat → Addr) (a : Nat) (i j k m n : Int) (r : List AV)
set_option tactic.hygienic true in
theorem sec1_0 : outc ρ ks1 [] [] (lwA P clW (some (a, [])) (takeS 3 lwB) (stL0 a)) = some (S1v [.num 2, .num 0, .num 7, .num 4, .num 0], [], .next, scP a []) := by kernel_rfl
set_option tactic.hygienic true in
theorem sec1_1 : outc ρ ks1 [] [] (lwA P clW (some (a, [.int i])) (takeS 3 lwB) (stL0 a)) = some (S1v [.int (absI i), .num 0, .num 7, .num 4, .num 0], [], .next, scP a [.int i]) := by kernel_rfl
set_option tactic.hygienic true in
theorem sec1_2 : outc ρ ks1 [] [] (lwA P clW (some (a, [.int i, .int j])) (takeS 3 lwB) (stL0 a)) = some (S1v [.int (absI i), .int (absI j), .num 7, .num 4, .num 0], [], .next, scP a [.int i, .int j]) := by kernel_rfl
set_option tactic.hygienic true in
theorem sec1_3 : outc ρ ks1 [] [] (lwA P clW (some (a, [.int i, .int j, .int k])) (takeS 3 lwB) (stL0 a)) = some (S1v [.int (absI i), .int (absI j), .int (absI k), .num 4, .num 0], [], .next, scP a [.int i, .int j, .int k]) := by kernel_rfl
set_option tactic.hygienic true in
theorem sec1_4 : outc ρ ks1 [] [] (lwA P clW (some (a, [.int i, .int j, .int k, .int m])) (takeS 3 lwB) (stL0 a)) = some (S1v [.int (absI i), .int (absI j), .int (absI k), .int (absI m), .num 0], [], .next, scP a [.int i, .int j, .int k, .int m]) := by kernel_rfl
set_option tactic.hygienic true in
theorem sec1_5 : outc ρ ks1 [] [] (lwA P clW (some (a, .int i :: .int j :: .int k :: .int m :: .int n :: r)) (takeS 3 lwB) (stL0 a)) =
    some (S1v [.int (absI i), .int (absI j), .int (absI k), .int (absI m), .int (absI n)], [], .next, scP a (.int i :: .int j :: .int k :: .int m :: .int n :: r)) := by kernel_rfl
end
end Mine
namespace Mine
open PySem PySem.W PyProof.Rows PySem.Calls PySem.Spec
/-! in how many ways a text is parted into words, told from the front -/
noncomputable def pre : Nm → Nm → Option Nm
  | [], s => some s
  | _ :: _, [] => none
  | a :: r, b :: s => match Nat.beq a b with
    | true => pre r s
    | false => none
theorem pre_some : ∀ {a s t : Nm}, pre a s = some t → s = a ++ t
  | [], s, t, h => Option.some.inj h
  | a :: r, b :: s, t, h => by
    unfold pre at h
    cases e : Nat.beq a b with
    | true =>
      rw [e] at h
      rw [Nat.eq_of_beq_eq_true e, List.cons_append, ← pre_some (a := r) h]
    | false => rw [e] at h; exact nn h
theorem pre_app : ∀ (a t : Nm), pre a (a ++ t) = some t
  | [], _ => rfl
  | a :: r, t => by
    show (match Nat.beq a a with | true => pre r (r ++ t) | false => none) = _
    rw [Nat.beq_refl]
    exact pre_app r t
theorem pre_none {a s : Nm} (h : pre a s = none) (t : Nm) : s ≠ a ++ t := fun e => by rw [e, pre_app] at h; cases h
noncomputable def opW (g : Nm → Nat) : Option Nm → Nat
  | some t => g t
  | none => 0
noncomputable def sumW (g : Nm → Nat) (s : Nm) : List Nm → Nat
  | [] => 0
  | a :: r => opW g (pre a s) + sumW g s r
noncomputable def cn (l : List Nm) : Nat → Nm → Nat
  | 0, _ => 0
  | _ + 1, [] => 1
  | f + 1, c :: s => sumW (cn l f) (c :: s) l
noncomputable def cnt (l : List Nm) (s : Nm) : Nat := cn l (s.length + 1) s
theorem sumW_congr {g g' : Nm → Nat} {s : Nm} : ∀ {l : List Nm}, (∀ a ∈ l, ∀ t, s = a ++ t → g t = g' t) → sumW g s l = sumW g' s l
  | [], _ => rfl
  | a :: r, h => by
    have ih := sumW_congr (g := g) (g' := g') (s := s) (l := r) fun b hb => h b (.tail _ hb)
    show opW g (pre a s) + sumW g s r = opW g' (pre a s) + sumW g' s r
    rw [ih]
    congr 1
    cases e : pre a s with
    | none => rfl
    | some t => exact h a (.head _) t (pre_some e)
theorem cn_fuel {l : List Nm} (hl : ∀ a ∈ l, a ≠ []) : ∀ (f f' : Nat) {s : Nm}, s.length < f → s.length < f' → cn l f s = cn l f' s
  | 0, _, _, h, _ => absurd h (Nat.not_lt_zero _)
  | _ + 1, 0, _, _, h => absurd h (Nat.not_lt_zero _)
  | f + 1, f' + 1, [], _, _ => rfl
  | f + 1, f' + 1, c :: s, h, h' => sumW_congr fun a ha t e => by
    have hn := List.length_pos_iff.mpr (hl a ha)
    have := congrArg List.length e
    simp only [List.length_cons, List.length_append] at this h h'
    exact cn_fuel hl f f' (by lia) (by lia)
theorem cnt_nil (l : List Nm) : cnt l [] = 1 := rfl
theorem cnt_eq {l : List Nm} (hl : ∀ a ∈ l, a ≠ []) {s : Nm} (h : s ≠ []) : cnt l s = sumW (cnt l) s l := by
  induction s with
  | nil => exact absurd rfl h
  | cons c s =>
    show sumW (cn l (s.length + 1)) (c :: s) l = _
    refine sumW_congr fun a ha t e => ?_
    have hn := List.length_pos_iff.mpr (hl a ha)
    have := congrArg List.length e
    simp only [List.length_cons, List.length_append] at this
    exact cn_fuel hl _ _ (by lia) (by lia)
/-- how long the walk of a text may be -/
noncomputable def Bd : Nat → Nat
  | 0 => 28
  | 1 => 56
  | 2 => 112
  | n + 3 => 28 + Bd (n + 2) + Bd (n + 1) + Bd n
theorem Bd_7 : ∀ n, n ≤ 7 → Bd n ≤ 3000
  | 0, _ | 1, _ | 2, _ | 3, _ | 4, _ | 5, _ | 6, _ | 7, _ => by decide
  | _ + 8, h => absurd h (by lia)
theorem Bd_pos : ∀ n, 28 ≤ Bd n
  | 0 | 1 | 2 => by decide
  | n + 3 => by unfold Bd; lia
theorem sum_erase {U : List Nat} {f : Nat → Nat} {j : Nat} (h : j ∈ U) : (U.map f).sum = f j + ((U.erase j).map f).sum := by
  have := ((List.perm_cons_erase h).map f).sum_nat
  rw [this]; rfl
theorem sumW_le {g : Nm → Nat} {s : Nm} : ∀ {l : List Nm} {U : List Nat}, l.Nodup → (∀ a ∈ l, ∀ t, s = a ++ t → a.length ∈ U) → sumW g s l ≤ (U.map fun j => if j ≤ s.length then g (s.drop j) else 0).sum
  | [], _, _, _ => Nat.zero_le _
  | a :: r, U, hn, hU => by
    obtain ⟨h1, h2⟩ := List.nodup_cons.mp hn
    show opW g (pre a s) + sumW g s r ≤ _
    cases e : pre a s with
    | none =>
      show 0 + _ ≤ _
      rw [Nat.zero_add]
      exact sumW_le h2 fun b hb => hU b (.tail _ hb)
    | some t =>
      have e1 := pre_some e
      have ha := hU a (.head _) t e1
      have ih := sumW_le (g := g) (s := s) (U := U.erase a.length) h2 fun b hb t' e2 => by
        refine (List.mem_erase_of_ne fun q => ?_).mpr (hU b (.tail _ hb) t' e2)
        have : b = a := by
          have z1 : s.take b.length = b := by rw [e2]; simp
          have z2 : s.take a.length = a := by rw [e1]; simp
          rw [← z1, ← z2, q]
        exact h1 (this ▸ hb)
      rw [sum_erase ha]
      have e3 : (if a.length ≤ s.length then g (s.drop a.length) else 0) = g t := by
        rw [e1]; simp
      show g t + _ ≤ _
      rw [e3]
      exact Nat.add_le_add_left ih _
/-- words: unlike, of one to three signs -/
structure WsOk (l : List Nm) : Prop where
  nd : l.Nodup
  len : ∀ a ∈ l, 1 ≤ a.length ∧ a.length ≤ 3
theorem WsOk.ne {l : List Nm} (h : WsOk l) : ∀ a ∈ l, a ≠ [] := fun a ha => List.length_pos_iff.mp (h.len a ha).1
theorem sumW_Bd {l : List Nm} (hl : WsOk l) {g : Nm → Nat} (k : Nat) (hg : ∀ t, g t ≤ k + Bd t.length) (hk : k ≤ 5) (s : Nm) : sumW g s l + 13 ≤ Bd s.length := by
  have h1 := sumW_le (g := g) (s := s) (U := [1, 2, 3]) hl.nd fun a ha t e => by
    have := hl.len a ha
    simp only [List.mem_cons, List.not_mem_nil, or_false]
    lia
  have hd : ∀ j, (if j ≤ s.length then g (s.drop j) else 0) ≤ (if j ≤ s.length then 5 + Bd (s.length - j) else 0) := fun j => by
    split
    · have := hg (s.drop j); rw [List.length_drop] at this; lia
    · exact Nat.le_refl _
  have d1 := hd 1
  have d2 := hd 2
  have d3 := hd 3
  simp only [List.map_cons, List.map_nil, List.sum_cons, List.sum_nil] at h1
  refine Nat.le_trans (Nat.add_le_add_right (Nat.le_trans h1 (Nat.add_le_add d1 (Nat.add_le_add d2 (Nat.add_le_add_right d3 0)))) 13) ?_
  clear h1 hd d1 d2 d3
  generalize s.length = n
  match n with
  | 0 => decide
  | 1 => decide
  | 2 => decide
  | n + 3 =>
    rw [if_pos (by lia), if_pos (by lia), if_pos (by lia)]
    show _ ≤ 28 + Bd (n + 2) + Bd (n + 1) + Bd n
    rw [show n + 3 - 1 = n + 2 by lia, show n + 3 - 2 = n + 1 by lia, show n + 3 - 3 = n by lia]
    lia
set_option tactic.hygienic true in
theorem cnt_le {l : List Nm} (hl : WsOk l) : ∀ (m : Nat) {s : Nm}, s.length < m → cnt l s ≤ Bd s.length
  | 0, _, h => absurd h (Nat.not_lt_zero _)
  | m + 1, s, h => by
    by_cases q : s = []
    · subst q; exact (by decide : 1 ≤ 28)
    · rw [cnt_eq hl.ne q]
      rw [sumW_congr (g' := fun t => if t.length < m then cnt l t else 0) fun a ha t e => by
        have e2 := congrArg List.length e
        have := (hl.len a ha).1
        rw [List.length_append] at e2
        rw [if_pos (by rw [e2] at h; lia)]]
      have := sumW_Bd hl (g := fun t => if t.length < m then cnt l t else 0) 0 (fun t => by
        show (if t.length < m then cnt l t else 0) ≤ _
        split
        · rename_i z; have := cnt_le hl m z; lia
        · lia) (by lia) s
      lia
end Mine
namespace Mine
open PySem PySem.W PyProof.Rows PySem.Calls PySem.Spec
/-! counted from the end it is the same -/
noncomputable def sm (f : Nm → Nat) : List Nm → Nat
  | [] => 0
  | a :: r => f a + sm f r
theorem sumW_sm (g : Nm → Nat) (s : Nm) : ∀ l, sumW g s l = sm (fun a => opW g (pre a s)) l
  | [] => rfl
  | a :: r => congrArg (_ + ·) (sumW_sm g s r)
theorem sm_congr {f g : Nm → Nat} : ∀ {l : List Nm}, (∀ a ∈ l, f a = g a) → sm f l = sm g l
  | [], _ => rfl
  | a :: r, h => by
    show f a + sm f r = g a + sm g r
    rw [h a (.head _), sm_congr fun b hb => h b (.tail _ hb)]
theorem sm_add (f g : Nm → Nat) : ∀ l, sm (fun a => f a + g a) l = sm f l + sm g l
  | [] => rfl
  | a :: r => by
    show f a + g a + sm (fun a => f a + g a) r = f a + sm f r + (g a + sm g r)
    rw [sm_add f g r]; lia
theorem sm_zero : ∀ l, sm (fun _ => 0) l = 0
  | [] => rfl
  | a :: r => by show 0 + sm (fun _ => 0) r = 0; rw [sm_zero r]
theorem sm_swap (f : Nm → Nm → Nat) (m : List Nm) : ∀ l, sm (fun a => sm (fun b => f a b) m) l = sm (fun b => sm (fun a => f a b) l) m
  | [] => (sm_zero m).symm
  | a :: r => by
    show sm (fun b => f a b) m + sm (fun a => sm (fun b => f a b) m) r = _
    rw [sm_swap f m r, ← sm_add]
    rfl
noncomputable def sfx (b s : Nm) : Option Nm := if b.length ≤ s.length ∧ s.drop (s.length - b.length) = b then some (s.take (s.length - b.length)) else none
set_option tactic.hygienic true in
theorem sfx_some {b s u : Nm} (h : sfx b s = some u) : s = u ++ b := by
  unfold sfx at h
  split at h
  · rename_i q
    obtain rfl := Option.some.inj h
    have := List.take_append_drop (s.length - b.length) s
    rw [q.2] at this
    exact this.symm
  · exact nn h
theorem sfx_app (u b : Nm) : sfx b (u ++ b) = some u := by
  unfold sfx
  have e : (u ++ b).length - b.length = u.length := by simp
  rw [e]
  simp
noncomputable def f2 (l : List Nm) (s a b : Nm) : Nat := opW (fun t => opW (cnt l) (sfx b t)) (pre a s)
noncomputable def f3 (l : List Nm) (s a b : Nm) : Nat := opW (fun t => opW (cnt l) (pre a t)) (sfx b s)
theorem f2_f3 (l : List Nm) (s a b : Nm) : f2 l s a b = f3 l s a b := by
  unfold f2 f3
  cases e1 : pre a s with
  | some t =>
    have e1' := pre_some e1
    cases e2 : sfx b t with
    | some u =>
      have e2' := sfx_some e2
      rw [e1', e2', ← List.append_assoc, sfx_app]
      show opW (cnt l) (sfx b (u ++ b)) = opW (cnt l) (pre a (a ++ u))
      rw [sfx_app, pre_app]
    | none =>
      cases e3 : sfx b s with
      | none => show opW (cnt l) (sfx b t) = 0; rw [e2]; rfl
      | some v =>
        cases e4 : pre a v with
        | none => show opW (cnt l) (sfx b t) = opW (cnt l) (pre a v); rw [e2, e4]
        | some u =>
          have e3' := sfx_some e3
          have e4' := pre_some e4
          rw [e4', List.append_assoc, e1'] at e3'
          have := List.append_cancel_left e3'
          rw [this, sfx_app] at e2
          exact nn e2.symm
  | none =>
    cases e3 : sfx b s with
    | none => rfl
    | some v =>
      cases e4 : pre a v with
      | none => show 0 = opW (cnt l) (pre a v); rw [e4]; rfl
      | some u =>
        have e3' := sfx_some e3
        have e4' := pre_some e4
        rw [e4', List.append_assoc] at e3'
        exact absurd e3' (pre_none e1 _)
noncomputable def eqN (s a : Nm) : Nat := if s = a then 1 else 0
theorem cnt_back {l : List Nm} (hl : ∀ a ∈ l, a ≠ []) : ∀ (m : Nat) {s : Nm}, s.length < m → s ≠ [] → cnt l s = sm (fun b => opW (cnt l) (sfx b s)) l
  | 0, _, h, _ => absurd h (Nat.not_lt_zero _)
  | m + 1, s, h, hs => by
    have h1 : cnt l s = sm (fun a => eqN s a + sm (fun b => f2 l s a b) l) l := by
      rw [cnt_eq hl hs, sumW_sm]
      refine sm_congr fun a ha => ?_
      unfold f2
      cases e : pre a s with
      | none =>
        have : s ≠ a := fun q => pre_none e [] (by rw [List.append_nil]; exact q)
        show 0 = eqN s a + sm (fun _ => 0) l
        rw [sm_zero, eqN, if_neg this]
      | some t =>
        have e' := pre_some e
        have hp := List.length_pos_iff.mpr (hl a ha)
        have hlen := congrArg List.length e'
        rw [List.length_append] at hlen
        show cnt l t = eqN s a + sm (fun b => opW (cnt l) (sfx b t)) l
        by_cases q : t = []
        · subst q
          rw [List.append_nil] at e'
          rw [eqN, if_pos e', sm_congr (g := fun _ => 0) fun b hb => ?_, sm_zero]
          · rfl
          · have : sfx b [] = none := by
              unfold sfx
              rw [if_neg]
              rintro ⟨z, _⟩
              exact hl b hb (List.length_eq_zero_iff.mp (Nat.le_zero.mp z))
            rw [this]; rfl
        · rw [eqN, if_neg, Nat.zero_add]
          · exact cnt_back hl m (by lia) q
          · intro z
            have := List.length_pos_iff.mpr q
            rw [← z] at hlen
            lia
    have h2 : sm (fun b => opW (cnt l) (sfx b s)) l = sm (fun b => eqN s b + sm (fun a => f3 l s a b) l) l := by
      refine sm_congr fun b hb => ?_
      unfold f3
      cases e : sfx b s with
      | none =>
        have : s ≠ b := fun q => by have z := sfx_app [] b; rw [List.nil_append, ← q] at z; rw [← q] at e; rw [e] at z; cases z
        show 0 = eqN s b + sm (fun _ => 0) l
        rw [sm_zero, eqN, if_neg this]
      | some t =>
        have e' := sfx_some e
        have hp := List.length_pos_iff.mpr (hl b hb)
        have hlen := congrArg List.length e'
        rw [List.length_append] at hlen
        show cnt l t = eqN s b + sm (fun a => opW (cnt l) (pre a t)) l
        by_cases q : t = []
        · subst q
          rw [List.nil_append] at e'
          rw [eqN, if_pos e', sm_congr (g := fun _ => 0) fun a ha => ?_, sm_zero]
          · rfl
          · have : pre a [] = none := by
              cases z : pre a [] with
              | none => rfl
              | some u =>
                have := congrArg List.length (pre_some z)
                rw [List.length_append, List.length_nil] at this
                exact absurd (List.length_eq_zero_iff.mp (by lia : a.length = 0)) (hl a ha)
            rw [this]; rfl
        · rw [eqN, if_neg, Nat.zero_add, cnt_eq hl q, sumW_sm]
          intro z
          have := List.length_pos_iff.mpr q
          rw [← z] at hlen
          lia
    rw [h1, h2, sm_add, sm_add, sm_swap]
    congr 1
    exact sm_congr fun b _ => sm_congr fun a _ => f2_f3 l s a b
theorem partN_cnt {l : List Nm} (hl : ∀ a ∈ l, a ≠ []) {msg : Nm} : ∀ {n : Nat}, n ≤ msg.length → ∀ j, j ≤ n → (partN l msg n).getD j 0 = (cnt l (msg.take j) : Int)
  | 0, _, j, hj => by
    obtain rfl := Nat.le_zero.mp hj
    rfl
  | n + 1, hn, j, hj => by
    have ih := @partN_cnt l hl msg n (by lia)
    have hlen := partN_len l msg n
    unfold partN
    by_cases q : j = n + 1
    · subst q
      rw [List.getD_eq_getElem?_getD, List.getElem?_append_right (by lia), hlen, Nat.sub_self]
      show (valsO (ocsW l msg (partN l msg n) (n + 1))).sum = _
      have hs : (msg.take (n + 1)).length = n + 1 := by rw [List.length_take]; lia
      rw [cnt_back hl _ (Nat.lt_succ_self _) (fun z => by rw [z] at hs; cases hs)]
      have key : ∀ m : List Nm, (∀ a ∈ m, a ≠ []) → (valsO (ocsW m msg (partN l msg n) (n + 1))).sum = ((sm (fun b => opW (cnt l) (sfx b (msg.take (n + 1)))) m : Nat) : Int) := by
        intro m
        induction m with
        | nil => intro _; rfl
        | cons a m ihm =>
          intro hm
          have ha := List.length_pos_iff.mpr (hm a (.head _))
          have e1 : valsO (ocsW (a :: m) msg (partN l msg n) (n + 1)) = (ocW msg (partN l msg n) (n + 1) a).vs ++ valsO (ocsW m msg (partN l msg n) (n + 1)) := rfl
          rw [e1, List.sum_append_int, ihm fun b hb => hm b (.tail _ hb)]
          show _ = ((opW (cnt l) (sfx a (msg.take (n + 1))) + sm (fun b => opW (cnt l) (sfx b (msg.take (n + 1)))) m : Nat) : Int)
          rw [Int.natCast_add]
          congr 1
          unfold sfx ocW
          rw [hs]
          by_cases h1 : a.length ≤ n + 1
          · rw [if_pos h1]
            by_cases h2 : (msg.take (n + 1)).drop (n + 1 - a.length) = a
            · rw [if_pos h2, if_pos ⟨h1, h2⟩]
              show [(partN l msg n).getD (n + 1 - a.length) 0].sum = ((cnt l ((msg.take (n + 1)).take (n + 1 - a.length)) : Nat) : Int)
              rw [ih _ (by lia), List.take_take, Nat.min_eq_left (by lia)]
              simp
            · rw [if_neg h2, if_neg fun z => h2 z.2]; rfl
          · rw [if_neg h1, if_neg fun z => h1 z.1]; rfl
      exact key l hl
    · rw [List.getD_eq_getElem?_getD, List.getElem?_append_left (by lia), ← List.getD_eq_getElem?_getD]
      exact ih j (by lia)
theorem parted_cnt {l : List Nm} (hl : ∀ a ∈ l, a ≠ []) (msg : Nm) : parted l msg = (cnt l msg : Int) := by
  unfold parted
  rw [partN_cnt hl (Nat.le_refl _) _ (Nat.le_refl _), List.take_length]
end Mine
namespace Mine
open PySem PySem.W PyProof.Rows PySem.Calls PySem.Spec
/-! what the machine finds -/
theorem Ws.l_len (ws : Ws) : 1 ≤ ws.l.length ∧ ws.l.length ≤ 3 := by cases ws <;> exact ⟨Nat.le_of_ble_eq_true rfl, Nat.le_of_ble_eq_true rfl⟩
theorem at_drop {ws : Ws} {i : Nat} {a : Nm} {r : List Nm} (h : ws.l.drop i = a :: r) : ws.l.getD i [] = a ∧ ws.l.drop (i + 1) = r ∧ (i + 1 < ws.k ↔ r ≠ []) := by
  have h1 : ws.l.drop (i + 1) = r := by rw [← List.drop_drop, h]; rfl
  refine ⟨?_, h1, ?_⟩
  · have := List.getElem?_drop (xs := ws.l) (i := i) (j := 0)
    rw [h, Nat.add_zero] at this
    rw [List.getD_eq_getElem?_getD, ← this]; rfl
  · rw [Ws.k_len, ← List.length_pos_iff, ← h1, List.length_drop]
    exact ⟨Nat.sub_pos_of_lt, Nat.lt_of_sub_pos⟩
theorem cut_pre {msg a : Nm} {x : Nat} : (msg.take (x + a.length)).drop x = a ↔ ∃ t, pre a (msg.drop x) = some t := by
  rw [List.drop_take, Nat.add_sub_cancel_left]
  constructor
  · intro h
    refine ⟨(msg.drop x).drop a.length, ?_⟩
    have := List.take_append_drop a.length (msg.drop x)
    rw [h] at this
    have z := pre_app a ((msg.drop x).drop a.length)
    rw [this] at z
    exact z
  · rintro ⟨t, h⟩
    rw [pre_some h]; simp
theorem pre_at {msg a t : Nm} {x : Nat} (h : pre a (msg.drop x) = some t) (ha : a ≠ []) : t = msg.drop (x + a.length) ∧ x + a.length ≤ msg.length ∧ msg.length - (x + a.length) = t.length := by
  have e := pre_some h
  have e2 := congrArg List.length e
  have hp := List.length_pos_iff.mpr ha
  rw [List.length_append, List.length_drop] at e2
  have e3 : a.length ≤ msg.length - x := by rw [e2]; exact Nat.le_add_right _ _
  refine ⟨?_, Nat.add_le_of_le_sub' (Nat.le_of_lt (Nat.lt_of_sub_pos (Nat.lt_of_lt_of_le hp e3))) e3, by rw [← Nat.sub_sub, e2, Nat.add_sub_cancel_left]⟩
  rw [← List.drop_drop, e]; simp
noncomputable def popM (v : Bool) (ws : Ws) (msg : Nm) (n : Nat) (stk : List En) (s h : Nat) : Option (Rs × Nat × Nat) := match stk with
  | [] => some (.fail, s + 1, h)
  | e :: r => runC v ws msg n (.tr e.i e.x e.nm) r (s + 1) h
theorem runC_hd {v : Bool} {ws : Ws} {msg : Nm} {n x : Nat} {nm : List Nm} {stk : List En} {s h : Nat} : runC v ws msg (n + 1) (.hd x nm) stk s h = (if x = msg.length then (match v with
      | true => runC v ws msg n (.tr 0 x nm) stk (s + 7) (h + 1)
      | false => some (.met x nm, s + 4, h))
    else runC v ws msg n (.tr 0 x nm) stk (s + 5) h) := rfl
theorem runC_tr {v : Bool} {ws : Ws} {msg : Nm} {n i x : Nat} {nm : List Nm} {stk : List En} {s h : Nat} : runC v ws msg (n + 1) (.tr i x nm) stk s h = (if (msg.take (x + (ws.l.getD i []).length)).drop x = ws.l.getD i [] then
      (if i + 1 < ws.k then runC v ws msg n (.hd (x + (ws.l.getD i []).length) (ws.l.getD i [] :: nm)) (⟨i + 1, x, nm⟩ :: stk) (s + 6) h
       else runC v ws msg n (.hd (x + (ws.l.getD i []).length) (ws.l.getD i [] :: nm)) stk (s + 4) h)
    else if i + 1 < ws.k then runC v ws msg n (.tr (i + 1) x nm) stk (s + 2) h
    else popM v ws msg n stk s h) := rfl
theorem r_hit {v : Bool} {ws : Ws} {msg a t : Nm} {i x n : Nat} {nm : List Nm} {stk : List En} {s h : Nat} (e : ws.l.getD i [] = a) (ht : pre a (msg.drop x) = some t) (hk : i + 1 < ws.k) :
    runC v ws msg (n + 1) (.tr i x nm) stk s h = runC v ws msg n (.hd (x + a.length) (a :: nm)) (⟨i + 1, x, nm⟩ :: stk) (s + 6) h := by
  rw [runC_tr, e, if_pos (cut_pre.mpr ⟨t, ht⟩), if_pos hk]
theorem r_hit1 {v : Bool} {ws : Ws} {msg a t : Nm} {i x n : Nat} {nm : List Nm} {stk : List En} {s h : Nat} (e : ws.l.getD i [] = a) (ht : pre a (msg.drop x) = some t) (hk : ¬ i + 1 < ws.k) :
    runC v ws msg (n + 1) (.tr i x nm) stk s h = runC v ws msg n (.hd (x + a.length) (a :: nm)) stk (s + 4) h := by
  rw [runC_tr, e, if_pos (cut_pre.mpr ⟨t, ht⟩), if_neg hk]
theorem r_no {v : Bool} {ws : Ws} {msg a : Nm} {i x n : Nat} {nm : List Nm} {stk : List En} {s h : Nat} (e : ws.l.getD i [] = a) (ht : pre a (msg.drop x) = none) (hk : i + 1 < ws.k) :
    runC v ws msg (n + 1) (.tr i x nm) stk s h = runC v ws msg n (.tr (i + 1) x nm) stk (s + 2) h := by
  rw [runC_tr, e, if_neg (fun z => by obtain ⟨t, z⟩ := cut_pre.mp z; rw [ht] at z; cases z), if_pos hk]
theorem r_no1 {v : Bool} {ws : Ws} {msg a : Nm} {i x n : Nat} {nm : List Nm} {stk : List En} {s h : Nat} (e : ws.l.getD i [] = a) (ht : pre a (msg.drop x) = none) (hk : ¬ i + 1 < ws.k) :
    runC v ws msg (n + 1) (.tr i x nm) stk s h = popM v ws msg n stk s h := by
  rw [runC_tr, e, if_neg (fun z => by obtain ⟨t, z⟩ := cut_pre.mp z; rw [ht] at z; cases z), if_neg hk]
theorem drop_ne {msg : Nm} {x : Nat} (hx : x ≤ msg.length) (q : ¬ x = msg.length) : msg.drop x ≠ [] := fun z => by
  have := congrArg List.length z
  rw [List.length_drop, List.length_nil] at this
  exact q (Nat.le_antisymm hx (Nat.le_of_sub_eq_zero this))
theorem l_ne (ws : Ws) : ws.l ≠ [] := by cases ws <;> exact fun z => nomatch z
theorem lt_in {k x m n : Nat} (h : n - x < m + 1) (h2 : x + k ≤ n) (h1 : 1 ≤ k) : n - (x + k) < m := by
  rw [← Nat.sub_sub]
  exact Nat.lt_of_lt_of_le (Nat.sub_lt (Nat.lt_of_lt_of_le h1 (Nat.le_sub_of_add_le' h2)) h1) (Nat.le_of_lt_succ h)
theorem b_hit {c B L S : Nat} (h : c ≤ B) : 6 + c ≤ 2 * (L + 1) + (5 + B + S) := by lia
theorem b_hit1 {c B L S : Nat} (h : c ≤ B) : 4 + c ≤ 2 * (L + 1) + (5 + B + S) := by lia
theorem b_both {c d B L S : Nat} (h : c ≤ B) (k : d ≤ 2 * L + S) : 7 + c + d ≤ 2 * (L + 1) + (5 + B + S) := by lia
theorem b_no {d L S : Nat} (k : d ≤ 2 * L + S) : 2 + d ≤ 2 * (L + 1) + (0 + S) := by lia
theorem asc3 (n a b : Nat) : n + (a + b + 1) = n + a + b + 1 := congrArg (· + 1) (Nat.add_assoc n a b).symm
theorem asc7 (s a b : Nat) : s + 6 + a + 1 + b = s + (7 + a + b) := by lia
/-- what the walk may cost behind the head -/
noncomputable def costT (msg : Nm) (x : Nat) (l : List Nm) : Nat := 2 * l.length + sumW (fun t => 5 + Bd t.length) (msg.drop x) l
noncomputable def GoT (ws : Ws) (msg : Nm) (cf : Cf) (B k : Nat) : Prop := ∃ F c, c ≤ B ∧ ∀ n stk s h, runC true ws msg (n + F) cf stk s h = popM true ws msg n stk (s + c) (h + k)
noncomputable def GoF (ws : Ws) (msg : Nm) (x : Nat) (nm : List Nm) (cf : Cf) (B k : Nat) : Prop := ∃ F c, c ≤ B ∧
  ((k = 0 ∧ ∀ n stk s h, runC false ws msg (n + F) cf stk s h = popM false ws msg n stk (s + c) h) ∨
   (k ≠ 0 ∧ ∃ p : List Nm, (∀ u ∈ p, u ∈ ws.l) ∧ p.flatten = msg.drop x ∧ ∀ n stk s h, runC false ws msg (n + F) cf stk s h = some (.met msg.length (p.reverse ++ nm), s + c, h)))
section
variable {ws : Ws} {msg : Nm} (hw : WsOk ws.l)
include hw
theorem tr_t {m : Nat} (IH : ∀ x nm, x ≤ msg.length → msg.length - x < m → GoT ws msg (.hd x nm) (Bd (msg.length - x)) (cnt ws.l (msg.drop x))) :
    ∀ (l : List Nm) {i x : Nat} {nm : List Nm}, ws.l.drop i = l → l ≠ [] → x ≤ msg.length → msg.length - x < m + 1 → GoT ws msg (.tr i x nm) (costT msg x l) (sumW (cnt ws.l) (msg.drop x) l)
  | [], _, _, _, _, h, _, _ => absurd rfl h
  | a :: r, i, x, nm, h, _, hx, hm => by
    obtain ⟨e1, e2, e3⟩ := at_drop h
    have ha := hw.len a (List.mem_of_mem_drop (h ▸ List.mem_cons_self : a ∈ ws.l.drop i))
    have ihr := fun q => tr_t (m := m) IH r (i := i + 1) (x := x) (nm := nm) e2 q hx hm
    unfold costT at ihr ⊢
    simp only [sumW, List.length_cons]
    cases ep : pre a (msg.drop x) with
    | some t =>
      obtain ⟨t1, t2, t3⟩ := pre_at ep (List.length_pos_iff.mp ha.1)
      obtain ⟨F1, c1, b1, R1⟩ := IH (x + a.length) (a :: nm) t2 (lt_in hm t2 ha.1)
      rw [← t1] at R1
      rw [t3] at b1
      by_cases q : r = []
      · refine ⟨F1 + 1, 4 + c1, b_hit1 b1, fun n stk s h => ?_⟩
        rw [← Nat.add_assoc, r_hit1 e1 ep (fun z => e3.mp z q), R1, q, Nat.add_assoc]
        rfl
      · obtain ⟨F2, c2, b2, R2⟩ := ihr q
        refine ⟨F2 + F1 + 1, 7 + c1 + c2, b_both b1 b2, fun n stk s h => ?_⟩
        rw [asc3, r_hit e1 ep (e3.mpr q), R1]
        show runC true ws msg (n + F2) (.tr (i + 1) x nm) stk (s + 6 + c1 + 1) _ = _
        rw [R2]
        simp only [opW]
        rw [asc7, Nat.add_assoc h]
    | none =>
      by_cases q : r = []
      · refine ⟨1, 0, Nat.zero_le _, fun n stk s h => ?_⟩
        rw [r_no1 e1 ep (fun z => e3.mp z q), q]
        rfl
      · obtain ⟨F2, c2, b2, R2⟩ := ihr q
        refine ⟨F2 + 1, 2 + c2, b_no b2, fun n stk s h => ?_⟩
        rw [← Nat.add_assoc, r_no e1 ep (e3.mpr q), R2]
        simp only [opW]
        rw [Nat.zero_add, Nat.add_assoc s]
theorem cost_ok {x c : Nat} (hc : c ≤ costT msg x ws.l) (hx : x ≤ msg.length) : 7 + c ≤ Bd (msg.length - x) := by
  have h1 := sumW_Bd hw (g := fun t => 5 + Bd t.length) 5 (fun t => Nat.le_refl _) (Nat.le_refl _) (msg.drop x)
  have h2 := ws.l_len
  unfold costT at hc
  rw [List.length_drop] at h1
  lia
theorem hd_t : ∀ (m : Nat) (x : Nat) (nm : List Nm), x ≤ msg.length → msg.length - x < m → GoT ws msg (.hd x nm) (Bd (msg.length - x)) (cnt ws.l (msg.drop x))
  | 0, _, _, _, h => absurd h (Nat.not_lt_zero _)
  | m + 1, x, nm, hx, hm => by
    obtain ⟨F, c, b, R⟩ := tr_t hw (hd_t m) ws.l (i := 0) (x := x) (nm := nm) rfl (l_ne ws) hx hm
    have hb := cost_ok hw b hx
    by_cases q : x = msg.length
    · refine ⟨F + 1, 7 + c, hb, fun n stk s h => ?_⟩
      rw [← Nat.add_assoc, runC_hd, if_pos q]
      show runC true ws msg (n + F) (.tr 0 x nm) stk (s + 7) (h + 1) = _
      rw [R, Nat.add_assoc, Nat.add_assoc]
      have e : msg.drop x = [] := by rw [q]; exact List.drop_length
      rw [e, cnt_nil]
      have := sumW_le (g := cnt ws.l) (s := []) (U := []) hw.nd fun a ha t z => by
        have := hw.len a ha
        have := congrArg List.length z
        rw [List.length_append, List.length_nil] at this
        lia
      rw [Nat.le_zero.mp this]
    · refine ⟨F + 1, 5 + c, Nat.le_trans (Nat.add_le_add_right (by decide) c) hb, fun n stk s h => ?_⟩
      rw [← Nat.add_assoc, runC_hd, if_neg q, R, Nat.add_assoc, cnt_eq hw.ne (drop_ne hx q)]
theorem tr_f {m : Nat} (IH : ∀ x nm, x ≤ msg.length → msg.length - x < m → GoF ws msg x nm (.hd x nm) (Bd (msg.length - x)) (cnt ws.l (msg.drop x))) :
    ∀ (l : List Nm) {i x : Nat} {nm : List Nm}, ws.l.drop i = l → l ≠ [] → x ≤ msg.length → msg.length - x < m + 1 → GoF ws msg x nm (.tr i x nm) (costT msg x l) (sumW (cnt ws.l) (msg.drop x) l)
  | [], _, _, _, _, h, _, _ => absurd rfl h
  | a :: r, i, x, nm, h, _, hx, hm => by
    obtain ⟨e1, e2, e3⟩ := at_drop h
    have hal : a ∈ ws.l := List.mem_of_mem_drop (h ▸ List.mem_cons_self : a ∈ ws.l.drop i)
    have ha := hw.len a hal
    have ihr := fun q => tr_f (m := m) IH r (i := i + 1) (x := x) (nm := nm) e2 q hx hm
    unfold costT at ihr ⊢
    simp only [sumW, List.length_cons]
    cases ep : pre a (msg.drop x) with
    | some t =>
      obtain ⟨t1, t2, t3⟩ := pre_at ep (List.length_pos_iff.mp ha.1)
      obtain ⟨F1, c1, b1, R1⟩ := IH (x + a.length) (a :: nm) t2 (lt_in hm t2 ha.1)
      rw [← t1] at R1
      rw [t3] at b1
      simp only [opW]
      rcases R1 with ⟨k1, R1⟩ | ⟨k1, p, p1, p2, R1⟩
      · by_cases q : r = []
        · refine ⟨F1 + 1, 4 + c1, b_hit1 b1, .inl ⟨by rw [q, k1]; rfl, fun n stk s h => ?_⟩⟩
          rw [← Nat.add_assoc, r_hit1 e1 ep (fun z => e3.mp z q), R1, Nat.add_assoc]
        · obtain ⟨F2, c2, b2, R2⟩ := ihr q
          have go : ∀ n stk s h, runC false ws msg (n + (F2 + F1 + 1)) (.tr i x nm) stk s h = runC false ws msg (n + F2) (.tr (i + 1) x nm) stk (s + 6 + c1 + 1) h := fun n stk s h => by
            rw [asc3, r_hit e1 ep (e3.mpr q), R1]
            rfl
          rcases R2 with ⟨k2, R2⟩ | ⟨k2, p, p1, p2, R2⟩
          · refine ⟨F2 + F1 + 1, 7 + c1 + c2, b_both b1 b2, .inl ⟨by rw [k1, k2], fun n stk s h => ?_⟩⟩
            rw [go, R2, asc7]
          · refine ⟨F2 + F1 + 1, 7 + c1 + c2, b_both b1 b2, .inr ⟨fun z => k2 (Nat.add_eq_zero_iff.mp z).2, p, p1, p2, fun n stk s h => ?_⟩⟩
            rw [go, R2, asc7]
      · have h1 : ∀ u ∈ a :: p, u ∈ ws.l := fun u hu => (List.mem_cons.mp hu).elim (fun z => z ▸ hal) (p1 u)
        have h2 : (a :: p).flatten = msg.drop x := by
          rw [List.flatten_cons, p2]
          exact (pre_some ep).symm
        have h3 : (a :: p).reverse ++ nm = p.reverse ++ a :: nm := by simp
        by_cases q : r = []
        · refine ⟨F1 + 1, 4 + c1, b_hit1 b1, .inr ⟨fun z => k1 (Nat.add_eq_zero_iff.mp z).1, a :: p, h1, h2, fun n stk s h => ?_⟩⟩
          rw [← Nat.add_assoc, r_hit1 e1 ep (fun z => e3.mp z q), R1, h3, Nat.add_assoc]
        · refine ⟨F1 + 1, 6 + c1, b_hit b1, .inr ⟨fun z => k1 (Nat.add_eq_zero_iff.mp z).1, a :: p, h1, h2, fun n stk s h => ?_⟩⟩
          rw [← Nat.add_assoc, r_hit e1 ep (e3.mpr q), R1, h3, Nat.add_assoc]
    | none =>
      simp only [opW]
      by_cases q : r = []
      · refine ⟨1, 0, Nat.zero_le _, .inl ⟨by rw [q]; rfl, fun n stk s h => ?_⟩⟩
        rw [r_no1 e1 ep (fun z => e3.mp z q)]
        rfl
      · obtain ⟨F2, c2, b2, R2⟩ := ihr q
        rcases R2 with ⟨k2, R2⟩ | ⟨k2, p, p1, p2, R2⟩
        · refine ⟨F2 + 1, 2 + c2, b_no b2, .inl ⟨by rw [k2], fun n stk s h => ?_⟩⟩
          rw [← Nat.add_assoc, r_no e1 ep (e3.mpr q), R2, Nat.add_assoc s]
        · refine ⟨F2 + 1, 2 + c2, b_no b2, .inr ⟨fun z => k2 (Nat.add_eq_zero_iff.mp z).2, p, p1, p2, fun n stk s h => ?_⟩⟩
          rw [← Nat.add_assoc, r_no e1 ep (e3.mpr q), R2, Nat.add_assoc s]
theorem hd_f : ∀ (m : Nat) (x : Nat) (nm : List Nm), x ≤ msg.length → msg.length - x < m → GoF ws msg x nm (.hd x nm) (Bd (msg.length - x)) (cnt ws.l (msg.drop x))
  | 0, _, _, _, h => absurd h (Nat.not_lt_zero _)
  | m + 1, x, nm, hx, hm => by
    by_cases q : x = msg.length
    · have e : msg.drop x = [] := by rw [q]; exact List.drop_length
      refine ⟨1, 4, Nat.le_trans (by decide) (Bd_pos (msg.length - x)), .inr ⟨by rw [e, cnt_nil]; decide, [], (fun u hu => nomatch hu), e.symm, fun n stk s h => ?_⟩⟩
      rw [runC_hd, if_pos q, q]
      rfl
    · obtain ⟨F, c, b, R⟩ := tr_f hw (hd_f m) ws.l (i := 0) (x := x) (nm := nm) rfl (l_ne ws) hx hm
      have hb := cost_ok hw b hx
      rw [← cnt_eq hw.ne (s := msg.drop x) (drop_ne hx q)] at R
      rcases R with ⟨k, R⟩ | ⟨k, p, p1, p2, R⟩
      · refine ⟨F + 1, 5 + c, Nat.le_trans (Nat.add_le_add_right (by decide) c) hb, .inl ⟨k, fun n stk s h => ?_⟩⟩
        rw [← Nat.add_assoc, runC_hd, if_neg q, R, Nat.add_assoc]
      · refine ⟨F + 1, 5 + c, Nat.le_trans (Nat.add_le_add_right (by decide) c) hb, .inr ⟨k, p, p1, p2, fun n stk s h => ?_⟩⟩
        rw [← Nat.add_assoc, runC_hd, if_neg q, R, Nat.add_assoc]
theorem run_t (hm : msg.length ≤ 7) : ∃ (n t : Nat), runC true ws msg n (.hd 0 []) [] 0 0 = some (.fail, t, cnt ws.l msg) ∧ t ≤ 9999 := by
  obtain ⟨F, c, b, R⟩ := hd_t (msg := msg) hw (msg.length + 1) 0 [] (Nat.zero_le _) (by lia)
  have := Bd_7 _ hm
  refine ⟨0 + F, 0 + c + 1, ?_, by rw [Nat.sub_zero] at b; lia⟩
  rw [R, Nat.zero_add (cnt _ _)]
  rfl
theorem run_f (hm : msg.length ≤ 7) (hc : cnt ws.l msg ≠ 0) : ∃ (n t : Nat) (p : List Nm), runC false ws msg n (.hd 0 []) [] 0 0 = some (.met msg.length p.reverse, t, 0) ∧ t ≤ 9999 ∧ (∀ u ∈ p, u ∈ ws.l) ∧ p.flatten = msg := by
  obtain ⟨F, c, b, R⟩ := hd_f (msg := msg) hw (msg.length + 1) 0 [] (Nat.zero_le _) (by lia)
  have := Bd_7 _ hm
  rcases R with ⟨k, _⟩ | ⟨k, p, p1, p2, R⟩
  · exact absurd k hc
  · refine ⟨0 + F, 0 + c, p, ?_, by rw [Nat.sub_zero] at b; lia, p1, p2⟩
    rw [R, List.append_nil]
end
/-- a parse counts -/
theorem sumW_mem {g : Nm → Nat} {s : Nm} : ∀ {l : List Nm} {a t : Nm}, a ∈ l → s = a ++ t → g t ≤ sumW g s l
  | b :: l, a, t, h, e => by
    show _ ≤ opW g (pre b s) + sumW g s l
    rcases List.mem_cons.mp h with rfl | h
    · rw [e, pre_app]; exact Nat.le_add_right _ _
    · exact Nat.le_trans (sumW_mem h e) (Nat.le_add_left _ _)
theorem sumW_two {g : Nm → Nat} {s : Nm} : ∀ {l : List Nm} {a t b u : Nm}, a ∈ l → b ∈ l → a ≠ b → s = a ++ t → s = b ++ u → g t + g u ≤ sumW g s l
  | c :: l, a, t, b, u, ha, hb, hab, ea, eb => by
    show _ ≤ opW g (pre c s) + sumW g s l
    rcases List.mem_cons.mp ha with h1 | h1
    · rcases List.mem_cons.mp hb with h2 | h2
      · exact absurd (h1.trans h2.symm) hab
      · have := sumW_mem (g := g) h2 eb
        have e : pre c s = some t := by rw [ea, h1, pre_app]
        rw [e]; exact Nat.add_le_add_left this (g t)
    · rcases List.mem_cons.mp hb with h2 | h2
      · have := sumW_mem (g := g) h1 ea
        have e : pre c s = some u := by rw [eb, h2, pre_app]
        rw [e, Nat.add_comm]; exact Nat.add_le_add_left this (g u)
      · exact Nat.le_trans (sumW_two h1 h2 hab ea eb) (Nat.le_add_left _ _)
theorem flat_ne {p : List Nm} {a : Nm} (h : a ≠ []) : (a :: p).flatten ≠ [] := by
  rw [List.flatten_cons]
  intro z
  exact h (List.append_eq_nil_iff.mp z).1
theorem cnt_pos {l : List Nm} (hl : ∀ a ∈ l, a ≠ []) : ∀ {p : List Nm}, (∀ u ∈ p, u ∈ l) → 1 ≤ cnt l p.flatten
  | [], _ => Nat.le_refl _
  | a :: p, h => by
    have ha := h a (.head _)
    rw [cnt_eq hl (flat_ne (hl a ha))]
    exact Nat.le_trans (cnt_pos hl fun u hu => h u (.tail _ hu)) (sumW_mem ha rfl)
theorem cnt_uniq {l : List Nm} (hl : ∀ a ∈ l, a ≠ []) : ∀ {p q : List Nm}, (∀ u ∈ p, u ∈ l) → (∀ u ∈ q, u ∈ l) → p.flatten = q.flatten → cnt l p.flatten ≤ 1 → p = q
  | [], [], _, _, _, _ => rfl
  | [], b :: q, _, hq, e, _ => absurd e.symm (flat_ne (hl b (hq b (.head _))))
  | a :: p, [], hp, _, e, _ => absurd e (flat_ne (hl a (hp a (.head _))))
  | a :: p, b :: q, hp, hq, e, hc => by
    have ha := hp a (.head _)
    have hb := hq b (.head _)
    have hp' : ∀ u ∈ p, u ∈ l := fun u hu => hp u (.tail _ hu)
    have hq' : ∀ u ∈ q, u ∈ l := fun u hu => hq u (.tail _ hu)
    rw [cnt_eq hl (flat_ne (hl a ha))] at hc
    have c1 := cnt_pos hl hp'
    have c2 := cnt_pos hl hq'
    by_cases z : a = b
    · subst z
      rw [List.flatten_cons, List.flatten_cons] at e
      have e' := List.append_cancel_left e
      rw [cnt_uniq hl hp' hq' e' (Nat.le_trans (sumW_mem ha rfl) hc)]
    · have := sumW_two (g := cnt l) (s := (a :: p).flatten) (t := p.flatten) (u := q.flatten) ha hb z rfl (by rw [e]; rfl)
      lia
theorem flat_len {p : List Nm} (h : ∀ u ∈ p, 1 ≤ u.length) : p.length ≤ p.flatten.length := by
  induction p with
  | nil => exact Nat.le_refl _
  | cons a p ih =>
    rw [List.flatten_cons, List.length_append, List.length_cons]
    have := h a (.head _)
    have := ih fun u hu => h u (.tail _ hu)
    lia
end Mine
namespace Mine
open PySem PySem.W PyProof.Rows PySem.Calls PySem.Spec
/-! all rows of words, looked through -/
noncomputable def kraft : List Nm → Nat
  | [] => 0
  | a :: r => 2 ^ (3 - a.length) + kraft r
noncomputable def allB (f : Nm → Bool) : List Nm → Bool
  | [] => true
  | a :: r => match f a with
    | true => allB f r
    | false => false
set_option tactic.hygienic true in
theorem allB_iff {f : Nm → Bool} : ∀ {l : List Nm}, allB f l = true → ∀ a ∈ l, f a = true
  | b :: r, h, a, ha => by
    unfold allB at h
    split at h
    · rename_i e
      rcases List.mem_cons.mp ha with rfl | ha
      · exact e
      · exact allB_iff h a ha
    · cases h
noncomputable def chk (ts : List Nm) : Bool := match twRun ts 20 (oStep ts ts) [] with
  | none => false
  | some none => andB (Nat.ble (kraft ts) 8) (allB (fun a => andB (Nat.beq (cnt ts a) 1) (allB (fun b => Nat.beq (cnt ts (a ++ b)) 1) ts)) ts)
  | some (some o) => andB (Nat.ble 2 (cnt ts o)) (Nat.ble o.length 7)
noncomputable def allW : List Nm := [[48], [49], [48, 48], [49, 48], [48, 49], [49, 49], [48, 48, 48], [49, 48, 48], [48, 49, 48], [49, 49, 48], [48, 48, 49], [49, 48, 49], [48, 49, 49], [49, 49, 49]]
noncomputable def orB : Bool → Bool → Bool
  | true, _ => true
  | false, b => b
noncomputable def chk3 (a : Nm) : Bool := andB (chk [a]) (allB (fun b => orB (nmEq a b) (andB (chk [a, b]) (allB (fun c => orB (nmEq a c) (orB (nmEq b c) (chk [a, b, c]))) allW))) allW)
theorem chk_all : allB chk3 allW = true := by kernel_rfl
end Mine
namespace Mine
open PySem PySem.W PyProof.Rows PySem.Calls PySem.Spec
/-! the law's frame is reckoned by an evaluator that knows three of the calls -/
noncomputable def noImm (st : St) (r : List AV) : St := { st with ov := r, imm := fun _ _ => False }
noncomputable def TwP (xs : List AV) (v : AV) : Prop := ∃ (ts : List Nm) (res : Option Nm) (n : Nat), xs = ts.map .str ∧ (∀ u ∈ ts, u.length ≤ 100) ∧ (∀ u ∈ ts, okStr u) ∧ ts.length ≤ 3 ∧ n ≤ 90 ∧ twRun ts n (oStep ts ts) [] = some res ∧
  (∀ q ∈ oStep ts ts, q.1.length ≤ 100 ∧ q.2.length ≤ 100) ∧ (∀ q ∈ oStep ts ts, okRow q) ∧ v = resA res
noncomputable def PaP (xs : List AV) (m : AV) (v : AV) : Prop := ∃ (ws : Ws) (msg : Nm), xs = ws.l.map .str ∧ m = .str msg ∧ msg.length ≤ 1000 ∧ (∀ u ∈ ws.l, u ≠ [] ∧ u.length ≤ 100) ∧ v = .int (parted ws.l msg)
noncomputable def WyP (xs : List AV) (m : AV) : Prop := ∃ (ws : Ws) (msg : Nm) (n t hits : Nat), xs = ws.l.map .str ∧ m = .str msg ∧ msg.length ≤ 1000 ∧ (∀ u ∈ ws.l, u ≠ [] ∧ u.length ≤ 100) ∧ runC true ws msg n (.hd 0 []) [] 0 0 = some (.fail, t, hits) ∧ t ≤ 9999 ∧ hits ≤ 10000 ∧ parted ws.l msg = hits
/-- the next expected value -/
noncomputable def popV (st : St) (f : AV → Prop) : Rr AV := match st.ov with
  | v :: r => some (v, noImm st r, [f v])
  | [] => none
theorem popV_eq {st st' : St} {f : AV → Prop} {b : AV} {P : List Prop} (h : popV st f = some (b, st', P)) (hP : Ps P) : (∃ r, st' = noImm st r) ∧ f b := by
  unfold popV at h
  generalize st.ov = l at h
  induction l using List.casesOn with
  | nil => exact nn h
  | cons v r =>
    obtain ⟨rfl, rfl, rfl⟩ := some3 h
    exact ⟨⟨r, rfl⟩, hP.1⟩
theorem arg1_el {vs : List AV} {k : AV → Rr AV} {x : AV × St × List Prop} {C : Prop} (h : arg1 vs k = some x) (H : ∀ a, vs = [a] → k a = some x → C) : C := by
  induction vs using List.casesOn with
  | nil => exact nn h
  | cons a r => induction r using List.casesOn with
    | nil => exact H a rfl h
    | cons => exact nn h
theorem arg2_el {vs : List AV} {k : AV → AV → Rr AV} {x : AV × St × List Prop} {C : Prop} (h : arg2 vs k = some x) (H : ∀ a b, vs = [a, b] → k a b = some x → C) : C := by
  induction vs using List.casesOn with
  | nil => exact nn h
  | cons a r => induction r using List.casesOn with
    | nil => exact nn h
    | cons b r => induction r using List.casesOn with
      | nil => exact H a b rfl h
      | cons => exact nn h
noncomputable def eTw (vs : List AV) (st : St) : Rr AV := arg1 vs fun a => opt (asRef a) fun l => opt (listN (st.sg.get l)) fun xs => popV st (TwP xs)
noncomputable def ePa (vs : List AV) (st : St) : Rr AV := arg2 vs fun a m => opt (asRef a) fun l => opt (listN (st.sg.get l)) fun xs => popV st (PaP xs m)
noncomputable def eWy (vs : List AV) (st : St) : Rr AV := arg2 vs fun a m => opt (asRef a) fun l => opt (listN (st.sg.get l)) fun xs => some (.bool true, noImm st st.ov, [WyP xs m])
noncomputable def extT (a : Nat) : Option (List AV → St → Rr AV) := match Nat.beq a 600 with
  | true => some eTw
  | false => match Nat.beq a 605 with
    | true => some ePa
    | false => match Nat.beq a 619 with
      | true => some eWy
      | false => none
noncomputable def T3 (P : Params) : PT := ptT P extT
noncomputable def evU (P : Params) : Evs := evs (T3 P) 60
section
variable {prog : Program} {w : World} {K : Frag} {p : Program} {loose : List Str} {mean : ExcName → Option Value} {mg mb : Str → Option Value}
theorem ok2 (h : Sound2 K) : PTOk3 prog w K p loose mean mg mb (T2 w.params) 900 :=
  { ptT_ok w.params (fun _ => none) h with
    fns := fnsT_ok w.params h
    ext := fun a k h => by cases h
    big := Nat.le_refl _ }
theorem S2 (h : Sound2 K) (n : Nat) : Snd prog w K p loose mean mg mb 900 n (evs (T2 w.params) n) := snd_evs (ok2 h) n
theorem room3 {A : Around} (B : Room2 440 0 A) : Room2 900 230 A := ⟨by have := B.1; lia, by have := B.2; lia⟩
theorem noImm_ov {P : Params} {fi : FI} {fc : FC} {ρ : Nat → Addr} {st : St} {h : Heap} (r : Rel P fi fc ρ { st with imm := fun _ _ => False } h) (l : List AV) : Rel P fi fc ρ (noImm st l) h := r.mus (fun _ _ h => h) st.or l
theorem ext_ok (h : Sound2 K) : SndExt prog w K p loose mean mg mb (T3 w.params) 440 := by
  intro a k hk fi fc vs st b st' P e hP O own B ρ s cvs Q r rv H
  have hk : extT a = some k := hk
  unfold extT at hk
  cases q : Nat.beq a 600 with
  | true =>
    rw [q] at hk
    rw [Nat.eq_of_beq_eq_true q]
    obtain rfl := Option.some.inj hk
    refine arg1_el e fun a ha e => opt_el e fun l hl e => opt_el e fun xs hx e => ?_
    obtain ⟨⟨v, rfl⟩, ts, res, n, hxs, h1, h2, h3, h4, h5, h6, h7, hb⟩ := popV_eq e hP
    rw [hxs] at hx
    rw [ha, asRef_eq hl] at rv
    rw [hb] at H
    exact twofoldCall (S2 h 200) (ok2 h) h1 h2 h3 h4 h5 h6 h7 own O (room3 B) r (listN_eq hx) rv fun h' tk u r' ru => H ρ h' tk u Ext.refl (noImm_ov r' _) ru
  | false =>
    rw [q] at hk
    cases q2 : Nat.beq a 605 with
    | true =>
      rw [q2] at hk
      rw [Nat.eq_of_beq_eq_true q2]
      obtain rfl := Option.some.inj hk
      refine arg2_el e fun a m ha e => opt_el e fun l hl e => opt_el e fun xs hx e => ?_
      obtain ⟨⟨v, rfl⟩, ws, msg, hxs, hm, h1, h2, hb⟩ := popV_eq e hP
      rw [hxs] at hx
      rw [ha, asRef_eq hl, hm] at rv
      rw [hb] at H
      exact partedCall (S2 h 200) (fnC_ok h) h1 h2 own O ((room3 B).dn (by decide)) r (listN_eq hx) rv fun h' tk u r' ru => H ρ h' tk u Ext.refl (noImm_ov r' _) ru
    | false =>
      rw [q2] at hk
      cases q3 : Nat.beq a 619 with
      | false => rw [q3] at hk; exact nn hk
      | true =>
        rw [q3] at hk
        rw [Nat.eq_of_beq_eq_true q3]
        obtain rfl := Option.some.inj hk
        refine arg2_el e fun a m ha e => opt_el e fun l hl e => opt_el e fun xs hx e => ?_
        obtain ⟨hb, hs, hp⟩ := some3 e
        subst hb hs hp
        obtain ⟨ws, msg, n, t, hits, hxs, hm, h1, h2, h3, h4, h5, h6⟩ := hP.1
        rw [hxs] at hx
        rw [ha, asRef_eq hl, hm] at rv
        exact waysCall (S2 h 200) (ok2 h) (fnC_ok h) h1 h2 h3 h4 h5 h6 own O (room3 B) r (listN_eq hx) rv fun h' tk r' => H ρ h' tk _ Ext.refl (noImm_ov r' _) rfl
theorem ok3 (h : Sound2 K) : PTOk3 prog w K p loose mean mg mb (T3 w.params) 440 :=
  { ptT_ok w.params extT h with
    fns := fnsT_ok w.params h
    ext := ext_ok h
    big := by decide }
theorem S3 (h : Sound2 K) (n : Nat) : Snd prog w K p loose mean mg mb 440 n (evs (T3 w.params) n) := snd_evs (ok3 h) n
end
end Mine
namespace Mine
open PySem PySem.W PyProof.Rows PySem.Calls PySem.Spec
noncomputable def lwF : Stmt := hdS (dropS 3 lwB)
noncomputable def fiL0 : FI := fiLW clW none
noncomputable def tcA : Option Int → AO
  | none => .cell none
  | some x => .cell (some (.int x))
/-- the told cells, the words so far -/
noncomputable def lwO (A B C D E : Int) (tl : AO) (tc : Option Int) (more : List AO) : List AO := [.cell (some (.ref 4)), .cell (some (.ref 5)), tcA tc, .cell none, .list none [.int A, .int B, .int C, .int D, .int E], tl] ++ more
noncomputable def lwSt (A B C D E : Int) (tl : AO) (tc : Option Int) (more : List AO) (or : List Nat) (ov : List AV) : St := mkS0 [] (lwO A B C D E tl tc more) or ov
noncomputable def toldL (A B C D E : Int) : List AV := ([AV.int A, .int B, .int C, .int D, .int E].take (2 + A.fmod 3).toNat).drop 1
noncomputable def ks8 : List Nat := [0, 1, 2, 3, 4, 5, 6, 7]
noncomputable def onesL : List Nat → List Nat
  | [] => [0]
  | _ :: r => 1 :: onesL r
noncomputable def strL : List Nat → List AV
  | [] => []
  | c :: r => .str [c] :: strL r
noncomputable def bitZ (x at_ : Int) : Int := ((x.fdiv 3).fdiv (2 ^ at_.toNat)).fmod 2
noncomputable def PhL (x : Int) : Int → Int → List Nat → List Prop
  | _, left, [] => [¬ 0 < left]
  | at_, left, c :: r => (0 < left) :: ((3 : Int) ≠ 0 ∧ Builtin.divisionGoesByPylong x 3 = false) :: (0 ≤ at_ ∧ at_ ≤ 1000000 ∧ (2 : Int).natAbs < 2 ^ 64) :: ((2 : Int) ^ at_.toNat ≠ 0 ∧ Builtin.divisionGoesByPylong (x.fdiv 3) (2 ^ at_.toNat) = false) ::
      (0 ≤ bitZ x at_ ∧ bitZ x at_ < 2 ^ 62 ∧ ∃ c', AV.str [c] = AV.str [c'] ∧ (nm (Str.ofString "01"))[(bitZ x at_).toNat]? = some c') :: PhL x (at_ + 1) (left - 1) r
noncomputable def appP : List Prop → List Prop → List Prop
  | [], l => l
  | a :: r, l => a :: appP r l
noncomputable def leftL (x : Int) : Int := if 0 < 1 + x.fmod 3 then 1 + x.fmod 3 - 0 else 0
section
variable (P : Params) (ρ : Nat → Addr) (A B C D E x : Int) (ts : List Nm) (p : List AV) (i : Nat)
theorem lw_for : outc ρ ks8 [] [] (startFr (evT P) fiL0 (forI lwF) (lwSt A B C D E (.list none []) none [] [] [])) =
    some (lwSt A B C D E (.list none []) none [.list none (renL ρ ks8 (toldL A B C D E)), .liter 6 0] [] [], [], .ref 7, [0 ≤ 2 + A.fmod 3 ∧ 2 + A.fmod 3 < 2 ^ 62]) := by kernel_rfl
noncomputable def St3 (cs : List Nat) : Prop := ∀ (P : Params) (ρ : Nat → Addr) (A B C D E x : Int) (ts : List Nm) (p : List AV) (i : Nat) (tc : Option Int),
  outc ρ ks8 [] [] (turnFr (evT P) fiL0 (forT lwF) 7 (forB lwF) (lwSt A B C D E (.list (some (ts.map .str)) []) tc [.list (some p) [], .liter 6 i] (1 :: (onesL cs ++ [0])) (.int x :: strL cs))) =
    some (lwSt A B C D E (.list (some (absorb (renL ρ ks8 (ts.map .str)) [.str cs])) []) (some x) [.list (some (renL ρ ks8 p)) [], .liter 6 (i + 1)] [] [], [], some .next,
      (nth (itm (some p) []) i = some (.int x)) :: (-(2 ^ 62) ≤ 1 + x.fmod 3 ∧ 1 + x.fmod 3 < 2 ^ 62) :: appP (PhL x 0 (leftL x) cs) [cs.length ≤ 1000, allP ts, ¬ hasP ts cs, szP (ts.map .str)])
noncomputable def St4 (cs : List Nat) : Prop := ∀ (P : Params) (ρ : Nat → Addr) (A B C D E x : Int) (ts : List Nm) (p : List AV) (i : Nat) (tc : Option Int),
  outc ρ ks8 [] [] (turnFr (evT P) fiL0 (forT lwF) 7 (forB lwF) (lwSt A B C D E (.list (some (ts.map .str)) []) tc [.list (some p) [], .liter 6 i] (1 :: (onesL cs ++ [1])) (.int x :: strL cs))) =
    some (lwSt A B C D E (.list (some (renL ρ ks8 (ts.map .str))) []) (some x) [.list (some (renL ρ ks8 p)) [], .liter 6 (i + 1)] [] [], [], some .next,
      (nth (itm (some p) []) i = some (.int x)) :: (-(2 ^ 62) ≤ 1 + x.fmod 3 ∧ 1 + x.fmod 3 < 2 ^ 62) :: appP (PhL x 0 (leftL x) cs) [cs.length ≤ 1000, allP ts, hasP ts cs])
theorem lw_new : ∀ cs : List Nat, 1 ≤ cs.length → cs.length ≤ 3 → St3 cs
  | [], h, _ => by simp at h
  | [_], _, _ => by intro P ρ A B C D E x ts p i tc; cases tc <;> kernel_rfl
  | [_, _], _, _ => by intro P ρ A B C D E x ts p i tc; cases tc <;> kernel_rfl
  | [_, _, _], _, _ => by intro P ρ A B C D E x ts p i tc; cases tc <;> kernel_rfl
  | _ :: _ :: _ :: _ :: _, _, h => by simp at h
theorem lw_old : ∀ cs : List Nat, 1 ≤ cs.length → cs.length ≤ 3 → St4 cs
  | [], h, _ => by simp at h
  | [_], _, _ => by intro P ρ A B C D E x ts p i tc; cases tc <;> kernel_rfl
  | [_, _], _, _ => by intro P ρ A B C D E x ts p i tc; cases tc <;> kernel_rfl
  | [_, _, _], _, _ => by intro P ρ A B C D E x ts p i tc; cases tc <;> kernel_rfl
  | _ :: _ :: _ :: _ :: _, _, h => by simp at h
theorem lw_end (tc : Option Int) : outc ρ [0, 1, 2, 3, 4, 5] [] [] (turnFr (evT P) fiL0 (forT lwF) 7 (forB lwF) (lwSt A B C D E (.list (some (ts.map .str)) []) tc [.list (some p) [], .liter 6 i] [0] [])) =
    some (lwSt A B C D E (.list (some (renL ρ [0, 1, 2, 3, 4, 5] (ts.map .str))) []) tc [] [] [], [], none, [nth (itm (some p) []) i = none]) := by cases tc <;> kernel_rfl
end
end Mine
namespace Mine
open PySem PySem.W PyProof.Rows PySem.Calls PySem.Spec
theorem appP_ok : ∀ {a b : List Prop}, Ps a → Ps b → Ps (appP a b)
  | [], _, _, h => h
  | _ :: _, _, h, k => ⟨h.1, appP_ok h.2 k⟩
/-- a word's signs -/
noncomputable def digL (x : Int) : Int → Nat → Nm
  | _, 0 => []
  | at_, n + 1 => (48 + (bitZ x at_).toNat) :: digL x (at_ + 1) n
noncomputable def wordZ (x : Int) : Nm := digL x 0 (1 + x.fmod 3).toNat
noncomputable def wordsZ (ts : List Nm) : List Int → List Nm
  | [] => ts
  | x :: r => if wordZ x ∈ ts then wordsZ ts r else wordsZ (ts ++ [wordZ x]) r
theorem digL_len (x : Int) : ∀ (n : Nat) (at_ : Int), (digL x at_ n).length = n
  | 0, _ => rfl
  | n + 1, at_ => congrArg (· + 1) (digL_len x n (at_ + 1))
theorem pylong_no {a b : Int} (h : b.natAbs.log2 < 40) : Builtin.divisionGoesByPylong a b = false := by
  unfold Builtin.divisionGoesByPylong
  simp only [Bool.and_eq_false_iff, decide_eq_false_iff_not]
  left
  split <;> lia
theorem phL_ok {x : Int} : ∀ (n : Nat) {at_ left : Int}, left = n → 0 ≤ at_ → at_ + n ≤ 20 → Ps (PhL x at_ left (digL x at_ n))
  | 0, at_, left, hl, hx, hn => ⟨by lia, trivial⟩
  | n + 1, at_, left, hl, hx, hn => by
    have h1 := Int.fmod_nonneg_of_pos ((x.fdiv 3).fdiv (2 ^ at_.toNat)) (by decide : (0 : Int) < 2)
    have h2 := Int.fmod_lt_of_pos ((x.fdiv 3).fdiv (2 ^ at_.toNat)) (by decide : (0 : Int) < 2)
    have hpw : (2 : Int) ^ at_.toNat ≠ 0 := Int.pow_ne_zero (by decide)
    have h1 : 0 ≤ bitZ x at_ := h1
    have h2 : bitZ x at_ < 2 := h2
    refine ⟨by lia, ⟨by decide, pylong_no (by decide)⟩, ⟨hx, by lia, by decide⟩, ⟨hpw, pylong_no ?_⟩, ⟨h1, by lia, _, rfl, ?_⟩, phL_ok n (by lia) (by lia) (by lia)⟩
    · have hlt : ((2 : Int) ^ at_.toNat).natAbs < 2 ^ 40 := by
        rw [Int.natAbs_pow]
        calc (2 : Int).natAbs ^ at_.toNat ≤ 2 ^ 20 := Nat.pow_le_pow_right (by decide) (by lia)
          _ < 2 ^ 40 := by decide
      rw [Nat.log2_lt (by lia)]; exact hlt
    · have : (bitZ x at_).toNat < 2 := by lia
      revert this
      generalize (bitZ x at_).toNat = d
      intro hd
      match d, hd with
      | 0, _ => rfl
      | 1, _ => rfl
theorem leftL_eq (x : Int) : leftL x = ((1 + x.fmod 3).toNat : Int) ∧ 1 ≤ (1 + x.fmod 3).toNat ∧ (1 + x.fmod 3).toNat ≤ 3 := by
  have h1 := Int.fmod_nonneg_of_pos x (by decide : (0 : Int) < 3)
  have h2 := Int.fmod_lt_of_pos x (by decide : (0 : Int) < 3)
  unfold leftL
  split <;> lia
theorem wordZ_len (x : Int) : 1 ≤ (wordZ x).length ∧ (wordZ x).length ≤ 3 := by
  unfold wordZ
  rw [digL_len]
  exact (leftL_eq x).2
theorem hclW {ks : List Nat} (h0 : ks[0]? = some 0) (h1 : ks[1]? = some 1) (h2 : ks[2]? = some 2) (h3 : ks[3]? = some 3) : ∀ x l, look x fiL0.cl = some l → ks[l]? = some l := fun x l h => by
  have hm := look_mem h
  have hm : (x, l) ∈ clW := hm
  simp only [clW, List.mem_cons, Prod.mk.injEq, List.not_mem_nil, or_false] at hm
  rcases hm with ⟨_, rfl⟩ | ⟨_, rfl⟩ | ⟨_, rfl⟩ | ⟨_, rfl⟩ <;> assumption
theorem nth_some {p : List AV} {i : Nat} : nth (itm (some p) []) i = p[i]? := by
  show nth (p ++ []) i = _
  rw [List.append_nil, nth_eq]
section
variable {prog : Program} {w : World} {K : Frag} {p : Program} {loose : List Str} {mean : ExcName → Option Value} {mg mb : Str → Option Value}
set_option tactic.hygienic true in
theorem lwLoop (S : Snd prog w K p loose mean mg mb 900 200 (evs (T2 w.params) 200)) {A B C D E : Int} {L0 : List Int} {fc : FC} (O : FrOk K p loose mean mg mb fiL0 fc) (R : Room2 900 200 fc.A) {Q : Flow → Shared → Prop} : ∀ (l : List Int) {i : Nat} {ts : List Nm} {tc : Option Int} {ρ : Nat → Addr} {s : Shared},
    L0.drop i = l → ts.length + l.length ≤ 1000 → Rel w.params fiL0 fc ρ (lwSt A B C D E (.list (some (ts.map .str)) []) tc [.list (some (L0.map .int)) [], .liter 6 i] [] []) s.heap →
    (∀ ρ' h' tk tc', Rel w.params fiL0 fc ρ' (lwSt A B C D E (.list (some ((wordsZ ts l).map .str)) []) tc' [] [] []) h' → Q .next { s with heap := h', toks := tk }) →
    codeAny (model prog w) fc.A (.forLoop (forT lwF) (.ref (ρ 7)) (forB lwF) [] fc.env) (fun r s' => match r with | .ok f => Q f s' | .error _ => False) s
  | [], i, ts, tc, ρ, s, hj, hlen, r, H => by
    have r1 := r.mus (fun _ _ h => h) [0] []
    refine fr_end S O (hev := fun ρ' => lw_end w.params ρ' A B C D E ts (L0.map .int) i tc) (fun _ _ => ⟨?_, trivial⟩) (hclW rfl rfl rfl rfl) r1 fun h' tk f _ r2 => ?_
    · rw [nth_some, List.getElem?_eq_none_iff, List.length_map]
      exact List.drop_eq_nil_iff.mp hj
    · rw [renL_strs] at r2
      exact H _ h' tk tc r2
  | x :: l, i, ts, tc, ρ, s, hj, hlen, r, H => by
    have e1 : L0[i]? = some x := by
      have := List.getElem?_drop (xs := L0) (i := i) (j := 0)
      rw [hj, Nat.add_zero] at this
      exact this.symm
    have e2 : L0.drop (i + 1) = l := by rw [← List.drop_drop, hj]; rfl
    have e3 : nth (itm (some (L0.map AV.int)) []) i = some (.int x) := by rw [nth_some, List.getElem?_map, e1]; rfl
    obtain ⟨z1, z2, z3⟩ := leftL_eq x
    have hb : -(2 ^ 62) ≤ 1 + x.fmod 3 ∧ 1 + x.fmod 3 < 2 ^ 62 := by
      have h1 := Int.fmod_nonneg_of_pos x (by decide : (0 : Int) < 3)
      have h2 := Int.fmod_lt_of_pos x (by decide : (0 : Int) < 3)
      lia
    have hw := wordZ_len x
    have hph : Ps (PhL x 0 (leftL x) (wordZ x)) := phL_ok _ z1 (by decide) (by lia)
    have n8 : ∀ or ov, 7 < (lwSt A B C D E (.list (some (ts.map .str)) []) tc [.list (some (L0.map .int)) [], .liter 6 i] or ov).n := fun _ _ => by show 7 < 8; decide
    simp only [List.length_cons] at hlen
    by_cases q : wordZ x ∈ ts
    · have hh : hasP ts (wordZ x) := List.mem_append_left _ (List.mem_map.mpr ⟨_, q, rfl⟩)
      refine fr_next (k' := 7) S O R (fun ρ' => lw_old (wordZ x) hw.1 hw.2 w.params ρ' A B C D E x ts (L0.map .int) i tc) (n8 _ _) rfl (fun _ _ => ⟨e3, hb, appP_ok hph ⟨by lia, all_ok ts, hh, trivial⟩⟩) (hclW rfl rfl rfl rfl) (r.mus (fun _ _ h => h) (1 :: (onesL (wordZ x) ++ [1])) (.int x :: strL (wordZ x))) fun ρ' h' tk f X _ r2 => ?_
      rw [renL_strs, renL_ints] at r2
      refine lwLoop S O R l (ts := ts) (ρ := fun j => ρ' (ks8.getD j 0)) (s := { s with heap := h', toks := tk }) e2 (by lia) r2 fun ρ2 h2 tk2 tc2 r3 => H ρ2 h2 tk2 tc2 ?_
      rw [show wordsZ ts (x :: l) = wordsZ ts l from if_pos q]; exact r3
    · have hh : ¬ hasP ts (wordZ x) := fun z => by
        rcases List.mem_append.mp z with z | z
        · obtain ⟨u, hu, e⟩ := List.mem_map.mp z
          cases e; exact q hu
        · cases z
      refine fr_next (k' := 7) S O R (fun ρ' => lw_new (wordZ x) hw.1 hw.2 w.params ρ' A B C D E x ts (L0.map .int) i tc) (n8 _ _) rfl (fun _ _ => ⟨e3, hb, appP_ok hph ⟨by lia, all_ok ts, hh, by unfold szP; rw [sizeL]; simp [itm]; lia, trivial⟩⟩) (hclW rfl rfl rfl rfl) (r.mus (fun _ _ h => h) (1 :: (onesL (wordZ x) ++ [0])) (.int x :: strL (wordZ x))) fun ρ' h' tk f X _ r2 => ?_
      rw [renL_strs, renL_ints, absorb_eq, show ts.map AV.str ++ [.str (wordZ x)] = (ts ++ [wordZ x]).map .str by rw [List.map_append]; rfl] at r2
      refine lwLoop S O R l (ts := ts ++ [wordZ x]) (ρ := fun j => ρ' (ks8.getD j 0)) (s := { s with heap := h', toks := tk }) e2 (by rw [List.length_append, List.length_singleton]; lia) r2 fun ρ2 h2 tk2 tc2 r3 => H ρ2 h2 tk2 tc2 ?_
      rw [show wordsZ ts (x :: l) = wordsZ (ts ++ [wordZ x]) l from if_neg q]; exact r3
end
end Mine
namespace Mine
open PySem PySem.W PyProof.Rows PySem.Calls PySem.Spec
/-! the row, the message, what is met twice -/
noncomputable def mnZ (ts : List Nm) : Int := (((ts.map AV.str).length + ([] : List AV).length : Nat) : Int)
noncomputable def rowZ (E m at_ : Int) : Int := ((E.fdiv 3).fdiv (m ^ at_.toNat)).fmod m
noncomputable def PhR (E m : Int) (p : List AV) : Int → Int → List Nm → List Prop
  | _, left, [] => [¬ 0 < left]
  | at_, left, a :: r => (0 < left) :: ((3 : Int) ≠ 0 ∧ Builtin.divisionGoesByPylong E 3 = false) :: (0 ≤ at_ ∧ at_ ≤ 1000000 ∧ m.natAbs < 2 ^ 64) :: (m ^ at_.toNat ≠ 0 ∧ Builtin.divisionGoesByPylong (E.fdiv 3) (m ^ at_.toNat) = false) :: (m ≠ 0) ::
      (0 ≤ rowZ E m at_ ∧ rowZ E m at_ < 2 ^ 62 ∧ (itm (some p) [])[(rowZ E m at_).toNat]? = some (.str a)) :: PhR E m p (at_ + 1) (left - 1) r
noncomputable def leftR (E : Int) : Int := if 0 < E.fmod 3 then E.fmod 3 - 0 else 0
noncomputable def onesN : List Nm → List Nat
  | [] => [0]
  | _ :: r => 1 :: onesN r
noncomputable def fiW : FI := fiLW [(nWords, 1)] none
noncomputable def rwSt (mu : List (Nm × AV)) (wl rl : AO) (more : List AO) (or : List Nat) (ov : List AV) : St := mkS0 mu ([wl, .cell (some (.ref 0)), rl] ++ more) or ov
noncomputable def msgA : List Nm → AV
  | [] => .txt []
  | a :: r => .str (a :: r).flatten
noncomputable def msgP : List Nm → List Prop
  | [] => []
  | a :: r => [(a :: r).flatten.length ≤ 1000]
noncomputable def rsSt (A B C D E : Int) (ts : List Nm) (wl : List AV) (tc : Option Int) (rs : List Nm) : St :=
  mkS0 [(nRow, .ref 6)] [.cell (some (.ref 4)), .cell (some (.ref 5)), tcA tc, .cell (some (.int (mnZ ts))), .list none [.int A, .int B, .int C, .int D, .int E], .list (some wl) [], .list none (rs.map .str)] [] []
noncomputable def St5 (rs : List Nm) : Prop := ∀ (P : Params) (ρ : Nat → Addr) (A B C D E : Int) (ts : List Nm) (tc : Option Int),
  outc ρ [0, 1, 2, 3, 4, 5, 8] [] [nRow] ((evT P).ss fiL0 (takeS 2 (dropS 4 lwB)) (lwSt A B C D E (.list (some (ts.map .str)) []) tc [] (onesN rs) (rs.map .str))) =
    some (rsSt A B C D E ts (renL ρ [0, 1, 2, 3, 4, 5, 8] (ts.map .str)) tc rs, [], .next,
      ((itm (some (ts.map AV.str)) []).length < 2 ^ 62) :: (-(2 ^ 62) ≤ E.fmod 3 ∧ E.fmod 3 < 2 ^ 62) :: PhR E (mnZ ts) (ts.map .str) 0 (leftR E) rs)
noncomputable def St6 (rs : List Nm) : Prop := ∀ (ρ : Nat → Addr) (A B C D E : Int) (ts : List Nm) (tc : Option Int),
  outc ρ [5, 1, 6] [] [nRow] (ret () (rsSt A B C D E ts (ts.map .str) tc rs)) = some (rwSt [(nRow, .ref 2)] (.list (some (renL ρ [5, 1, 6] (ts.map .str))) []) (.list none (rs.map .str)) [] [] [], [], (), [])
noncomputable def St7 (rs : List Nm) : Prop := ∀ (P : Params) (ρ : Nat → Addr) (ts : List Nm) (res : Option Nm),
  outc ρ [0, 1, 2] [] [nRow, nMessage, nOther] ((evU P).ss fiW (takeS 1 (dropS 6 lwB)) (rwSt [(nRow, .ref 2)] (.list none (ts.map .str)) (.list none (rs.map .str)) [] [] [resA res])) =
    some (rwSt [(nRow, .ref 2), (nMessage, msgA rs), (nOther, resA res)] (.list none (renL ρ [0, 1, 2] (ts.map .str))) (.list none (rs.map .str)) [] [] [], [], .next, appP (msgP rs) [TwP (ts.map .str) (resA res)])
theorem rs_all : ∀ rs : List Nm, rs.length ≤ 2 → St5 rs ∧ St6 rs ∧ St7 rs
  | [], _ => ⟨(by intro P ρ A B C D E ts tc; cases tc <;> kernel_rfl), (by intro ρ A B C D E ts tc; cases tc <;> kernel_rfl), (by intro P ρ ts res; cases res <;> kernel_rfl)⟩
  | [a], _ => ⟨(by intro P ρ A B C D E ts tc; cases tc <;> kernel_rfl), (by intro ρ A B C D E ts tc; cases tc <;> kernel_rfl), (by intro P ρ ts res; cases res <;> kernel_rfl)⟩
  | [a, b], _ => ⟨(by intro P ρ A B C D E ts tc; cases tc <;> kernel_rfl), (by intro ρ A B C D E ts tc; cases tc <;> kernel_rfl), (by intro P ρ ts res; cases res <;> kernel_rfl)⟩
  | _ :: _ :: _ :: _, h => by simp at h
theorem phR_ok {E : Int} {ts : List Nm} (h1 : 1 ≤ ts.length) (h3 : ts.length ≤ 3) : ∀ (n : Nat) {at_ left : Int}, left = n → 0 ≤ at_ → at_ + n ≤ 20 → ∃ rs : List Nm, rs.length = n ∧ (∀ u ∈ rs, u ∈ ts) ∧ Ps (PhR E (mnZ ts) (ts.map .str) at_ left rs)
  | 0, at_, left, hl, hx, hn => ⟨[], rfl, (fun _ h => nomatch h), by show ¬ 0 < left; lia, trivial⟩
  | n + 1, at_, left, hl, hx, hn => by
    obtain ⟨rs, e1, e2, e3⟩ := phR_ok (E := E) h1 h3 n (at_ := at_ + 1) (left := left - 1) (by lia) (by lia) (by lia)
    have hm : mnZ ts = (ts.length : Int) := by simp [mnZ]
    have hpos : 0 < mnZ ts := by lia
    have g1 : 0 ≤ rowZ E (mnZ ts) at_ := Int.fmod_nonneg_of_pos _ hpos
    have g2 : rowZ E (mnZ ts) at_ < mnZ ts := Int.fmod_lt_of_pos _ hpos
    have hlt : (rowZ E (mnZ ts) at_).toNat < ts.length := by lia
    refine ⟨ts[(rowZ E (mnZ ts) at_).toNat] :: rs, by simp [e1], fun u hu => (List.mem_cons.mp hu).elim (fun z => z ▸ List.getElem_mem hlt) (e2 u),
      by lia, ⟨by decide, pylong_no (by decide)⟩, ⟨hx, by lia, by lia⟩, ⟨Int.pow_ne_zero (by lia), pylong_no ?_⟩, by lia, ⟨g1, by lia, ?_⟩, e3⟩
    · have hq : (mnZ ts ^ at_.toNat).natAbs < 2 ^ 40 := by
        rw [Int.natAbs_pow]
        calc (mnZ ts).natAbs ^ at_.toNat ≤ 3 ^ at_.toNat := Nat.pow_le_pow_left (by lia) _
          _ ≤ 3 ^ 20 := Nat.pow_le_pow_right (by lia) (by lia)
          _ < 2 ^ 40 := by decide
      have hne : mnZ ts ^ at_.toNat ≠ 0 := Int.pow_ne_zero (by lia)
      rw [Nat.log2_lt (by lia)]; exact hq
    · show (ts.map AV.str ++ [])[_]? = _
      rw [List.append_nil, List.getElem?_map, List.getElem?_eq_getElem hlt]
      rfl
theorem leftR_eq (E : Int) : leftR E = ((E.fmod 3).toNat : Int) ∧ (E.fmod 3).toNat ≤ 2 ∧ 0 ≤ E.fmod 3 ∧ E.fmod 3 < 3 := by
  have h1 := Int.fmod_nonneg_of_pos E (by decide : (0 : Int) < 3)
  have h2 := Int.fmod_lt_of_pos E (by decide : (0 : Int) < 3)
  unfold leftR
  split <;> lia
end Mine
namespace Mine
open PySem PySem.W PyProof.Rows PySem.Calls PySem.Spec
/-! the law calls _law_met -/
noncomputable def lmS : Stmt := hdS (dropS 7 lwB)
noncomputable def fiW0 : FI := fiLW [] none
noncomputable def mu3 (a : AV) (msg : Nm) (res : Option Nm) (more : List (Nm × AV)) : List (Nm × AV) := [(nRow, a), (nMessage, .str msg), (nOther, resA res)] ++ more
noncomputable def r0St (msg : Nm) (res : Option Nm) (ts rs : List Nm) (more : List AO) : St := rwSt (mu3 (.ref 2) msg res []) (.list none (ts.map .str)) (.list none (rs.map .str)) more [] []
noncomputable def chT : AO := .tup [.txt tChars, .txt []]
noncomputable def fnd (a b : AV) : List (Nm × AV) := [(nFoundL, a), (nLog, b)]
/-- behind the match -/
noncomputable def m8St (x : Nat) (msg : Nm) (res : Option Nm) (wl : AO) (rs : List Nm) (rows : List AV) (or : List Nat) : St :=
  mkS0 (mu3 (.ref 2) msg res (fnd (.ref 3) (.ref 5))) [wl, .cell (some (.ref 0)), .list none (rs.map .str), .tup [.num 0, .int x, .ref 4], .list none rows, .list (some []) []] or []
section
variable (P : Params) (ρ : Nat → Addr) (msg : Nm) (res : Option Nm) (ts rs : List Nm)
theorem lm_args : argsE (evT P) fiW (caA (asV lmS)) (r0St msg res ts rs []) = some ([.ref 0, .str msg, .ref 3], r0St msg res ts rs [chT], []) := by cases res <;> kernel_rfl
theorem lm_park : outc ρ [0, 3] [1, 2] [nRow, nMessage, nOther] (ret () (r0St msg res ts rs [chT])) =
    some (mkS0 (mu3 (.con (.ref (ρ 2))) msg res []) ([.list none (renL ρ [0, 3] (ts.map .str))] ++ lastAO false) [] [], [.mu (.cell (some (.con (.ref (ρ 0))))), .mu (.list none (renL ρ [] (rs.map .str)))], (), []) := by cases res <;> kernel_rfl
theorem lm_asg (a : Value) (x : Nat) (rows lg : List AV) : (evT P).asg fiW0 (asT lmS) (.ref 0) (mkS0 (mu3 (.con a) msg res []) (metAO x rows lg) [] []) =
    some ((), mkS0 (mu3 (.con a) msg res (fnd (.ref 1) (.ref 3))) (metAO x rows lg) [] [], []) := by cases res <;> kernel_rfl
noncomputable def impSt (a : AV) (x : Nat) (rows : List AV) (wc : AV) : St := mkS0 (mu3 a msg res (fnd (.ref 1) (.ref 3))) (metAO x rows [] ++ [.list none (ts.map .str), .list none (rs.map .str), .cell (some wc)]) [] []
theorem lm_sort (x : Nat) (rows : List AV) : outc ρ [4, 6, 5, 1, 2, 3] [] [nRow, nMessage, nOther, nFoundL, nLog] (ret () (impSt msg res ts rs (.ref 5) x rows (.ref 4))) =
    some (mkS0 (mu3 (.ref 2) msg res (fnd (.ref 3) (.ref 5))) [.list none (renL ρ [4, 6, 5, 1, 2, 3] (ts.map .str)), .cell (some (.ref 0)), .list none (renL ρ [4, 6, 5, 1, 2, 3] (rs.map .str)), .tup [.num 0, .int x, .ref 4], .list none (renL ρ [4, 6, 5, 1, 2, 3] rows), .list (some []) []] [] [], [], (), []) := by cases res <;> kernel_rfl
end
theorem q_lm : ∃ q : Pos × Pos, asV lmS = .Call (.Name (stn (caX (caF (asV lmS)))) q.1) (caA (asV lmS)) [] q.2 := ⟨(_, _), rfl⟩
noncomputable def p_lm : Pos × Pos := Classical.choose q_lm
theorem e_lm : asV lmS = .Call (.Name (stn (caX (caF (asV lmS)))) p_lm.1) (caA (asV lmS)) [] p_lm.2 := Classical.choose_spec q_lm
theorem q_lms : ∃ q : List Expr × Nat × Pos × Pos, lmS = .Assign [.Tuple q.1 q.2.1 q.2.2.1] (asV lmS) q.2.2.2 ∧ asT lmS = .Tuple q.1 q.2.1 q.2.2.1 ∧ pureOf (swappedStores [.Tuple q.1 q.2.1 q.2.2.1] (asV lmS) (dumEnv fiW.sc)) = some none := ⟨(_, _, _, _), rfl, rfl, by kernel_rfl⟩
noncomputable def p_lms : List Expr × Nat × Pos × Pos := Classical.choose q_lms
theorem lm_plain : plainV (asV lmS) = true := by kernel_rfl
theorem Rel.ne {P : Params} {fi : FI} {fc : FC} {ρ : Nat → Addr} {st : St} {h : Heap} (r : Rel P fi fc ρ st h) {i j : Nat} (hm : (st.sg.get i).mut = true) (hj : st.sg.get j ≠ .dead) (hij : i ≠ j) : ρ i ≠ ρ j := fun q => by
  obtain ⟨m, os, R⟩ := r
  exact hij (R.inj i j hm hj q)
theorem RowsN.dropX {P : Params} {fi : FI} {fc : FC} {ρ : Nat → Addr} {st : St} {h : Heap} {rest : List (Addr × Obj)} (r : Rel P fi { fc with rest := rest } ρ st h) {rows : List AV} {ns : List Nm} {d : Addr} {a : AO} {od : Obj} (t : RowsN P rest rows ns) (hd : (d, od) ∈ rest) (he : RepEO P (.mu a) od) (hm : a.mut = true) : RowsN P (dropA rest d) rows ns :=
  All2.mono t fun _ _ _ ⟨e, X, k, i⟩ => ⟨e, X, k, i.dropX r hd he hm⟩
theorem mu3_look {a b : AV} {msg : Nm} {res : Option Nm} {more : List (Nm × AV)} {y : Nm} {c : AV} (h : look y (mu3 a msg res more) = some c) : (y = nRow ∧ c = a) ∨ (y ≠ nRow ∧ look y (mu3 b msg res more) = some c) := by
  unfold mu3 at h ⊢
  simp only [List.cons_append] at h ⊢
  unfold look at h ⊢
  cases e : nmEq y nRow with
  | true => rw [e] at h; exact .inl ⟨nmEq_iff.mp e, (Option.some.inj h).symm⟩
  | false => rw [e] at h; exact .inr ⟨fun q => (by rw [nmEq_iff.mpr q] at e; cases e), h⟩
section
variable {prog : Program} {w : World} {K : Frag} {p : Program} {loose : List Str} {mean : ExcName → Option Value} {mg mb : Str → Option Value}
theorem lawMet (S : Snd prog w K p loose mean mg mb 900 200 (evs (T2 w.params) 200)) (ok : PTOk3 prog w K p loose mean mg mb (T2 w.params) 900) {ws : Ws} {msg : Nm} (hmsg : msg.length ≤ 1000) (hws : ∀ u ∈ ws.l, u ≠ [] ∧ u.length ≤ 100)
    {n t x : Nat} {nl : List Nm} (hr : runC false ws msg n (.hd 0 []) [] 0 0 = some (.met x nl, t, 0)) (ht : t ≤ 9999) (hnm : nl.length ≤ 1000) {res : Option Nm} {rs : List Nm} {fc : FC} {ρ : Nat → Addr} {s : Shared} {rest : List Stmt} {Q : Flow → Shared → Prop}
    (O : FrOk K p loose mean mg mb fiW fc) (B : Room2 900 210 fc.A) (r : Rel w.params fiW fc ρ (r0St msg res ws.l rs []) s.heap)
    (H : ∀ ρ' h' tk rest' rows, Rel w.params fiW { fc with rest := rest' } ρ' (m8St x msg res (.list none (ws.l.map .str)) rs rows []) h' → RowsN w.params rest' rows nl.reverse →
      wpAny (model prog w) fc.A (execs rest fc.env) Q NoE { s with heap := h', toks := tk }) :
    wpAny (model prog w) fc.A (execs (lmS :: rest) fc.env) Q NoE s := by
  have B' : Room2 900 200 fc.A := B.dn (by decide)
  refine wpAny_execs_cons ?_
  have e1 : lmS = .Assign [.Tuple p_lms.1 p_lms.2.1 p_lms.2.2.1] (asV lmS) p_lms.2.2.2 := (Classical.choose_spec q_lms).1
  have e2 : asT lmS = .Tuple p_lms.1 p_lms.2.1 p_lms.2.2.1 := (Classical.choose_spec q_lms).2.1
  have hsw := pureOf_some (show pureOf (swappedStores [.Tuple p_lms.1 p_lms.2.1 p_lms.2.2.1] (asV lmS) (dumEnv fiW.sc)) = some none from (Classical.choose_spec q_lms).2.2)
  generalize p_lms = q at e1 e2 hsw
  rw [← O.sc, ← swapped_dum] at hsw
  rw [e1]
  refine Assign_Tuple ?_ (swapsSole lm_plain) hsw
  have hl : loadF (T2 w.params) fiW (nm (stn (caX (caF (asV lmS))))) = some (.fn 612) := by kernel_rfl
  have hargs := lm_args w.params msg res ws.l rs
  rw [e_lm]
  refine ecall_fn S ok hl hargs trivial O B' r fun ρ2 h2 tk2 cvs X2 r2 q2 => ?_
  have gC : (r0St msg res ws.l rs [chT]).sg.get 1 = .cell (some (.ref 0)) := by kernel_rfl
  have gW : (r0St msg res ws.l rs [chT]).sg.get 0 = .list none (ws.l.map .str) := by kernel_rfl
  have gR : (r0St msg res ws.l rs [chT]).sg.get 2 = .list none (rs.map .str) := by kernel_rfl
  have n10 : ρ2 1 ≠ ρ2 0 := r2.ne (by rw [gC]; rfl) (by rw [gW]; intro q; cases q) (by decide)
  have n12 : ρ2 1 ≠ ρ2 2 := r2.ne (by rw [gC]; rfl) (by rw [gR]; intro q; cases q) (by decide)
  have n20 : ρ2 2 ≠ ρ2 0 := r2.ne (by rw [gR]; rfl) (by rw [gW]; intro q; cases q) (by decide)
  have eC : fc.env.cells.lookup (stn nWords) = some (ρ2 1) := r2.cell rfl
  obtain ⟨f, gf, r3⟩ := (r2.cl0 (fi' := fiW0) rfl).again (lm_park ρ2 msg res ws.l rs) (fun x l h => by cases h)
  rw [renL_strs] at r3
  have hC := gf.rep 0 1 _ rfl rfl
  have hR := gf.rep 1 2 _ rfl rfl
  rw [renL_strs] at hR
  have O0 : ∀ rest, FrOk K p loose mean mg mb fiW0 { fc with rest := rest } := fun rest => (O.refi (fi' := fiW0) rfl rfl rfl).rst rest
  have n3 : (mkS0 (mu3 (.con (.ref (ρ2 2))) msg res []) ([.list none (ws.l.map .str)] ++ lastAO false) [] []).n = 2 := rfl
  refine metCall S ok hmsg hws hr ht (fun _ _ q => by cases q; exact hnm) rfl rfl (mu' := mu3 (.con (.ref (ρ2 2))) msg res []) (fc := { fc with rest := restOf ρ2 [1, 2] f fc.rest }) (ρ := fun j => ρ2 ([0, 3].getD j 0)) (s := { s with heap := h2, toks := tk2 }) (O0 _) B r3 ?_ (fun y a hy => ⟨a, hy, fun u ρ' m ru => ?_⟩) ?_
  · exact All2.map2 (R := RepV ρ2 (r0St msg res ws.l rs [chT]).n) (a := [AV.ref 0, AV.str msg, AV.ref 3]) ⟨fun _ q => ⟨by rw [n3]; decide, q.2⟩, fun _ q => q, fun _ q => ⟨by rw [n3]; decide, q.2⟩, trivial⟩ q2
  · have hmm := look_mem hy
    simp only [mu3, List.append_nil, List.mem_cons, Prod.mk.injEq, List.not_mem_nil, or_false] at hmm
    rcases hmm with ⟨_, rfl⟩ | ⟨_, rfl⟩ | ⟨_, rfl⟩
    · exact ru
    · exact ru
    · cases res <;> exact ru
  intro ρ4 h4 tk4 rest4 lg rows o r4 hN hL hk hW hro
  have el : lg = [] := List.length_eq_zero_iff.mp hL.1
  subst el
  rw [← e2]
  refine S.asg _ { fc with rest := rest4 } _ _ _ _ _ (lm_asg w.params msg res (.ref (ρ2 2)) x rows []) trivial (O0 _) B' ρ4 { s with heap := h4, toks := tk4 } _ _ r4 ⟨Nat.le_of_ble_eq_true rfl, rfl⟩ fun ρ5 h5 tk5 _ X5 r5 _ => ?_
  -- the words, the row, the cell come back
  have yC : (ρ2 1, f 1) ∈ rest4 := hk _ (new_restOf (by decide))
  have yR : (ρ2 2, f 2) ∈ rest4 := hk _ (new_restOf (by decide))
  have yW : (ρ2 0, o) ∈ rest4 := hW
  let rest6 := dropA rest4 (ρ2 0)
  let rest7 := dropA rest6 (ρ2 2)
  let rest8 := dropA rest7 (ρ2 1)
  have r6 := r5.impM (rest := rest6) (ao := .list none (ws.l.map .str)) yW (fun y hy => dropA_mem.mp hy) rfl (fun _ q => by cases q) (strs_any hro)
  have N6 : RowsN w.params rest6 rows nl.reverse := hN.dropX r5 yW hro rfl
  have yR6 : (ρ2 2, f 2) ∈ rest6 := dropA_mem.mpr ⟨yR, n20⟩
  have yC6 : (ρ2 1, f 1) ∈ rest6 := dropA_mem.mpr ⟨yC, n10⟩
  have r7 := r6.impM (rest := rest7) (ao := .list none (rs.map .str)) yR6 (fun y hy => dropA_mem.mp hy) rfl (fun _ q => by cases q) (strs_any hR)
  have N7 : RowsN w.params rest7 rows nl.reverse := N6.dropX r6 yR6 hR rfl
  have yC7 : (ρ2 1, f 1) ∈ rest7 := dropA_mem.mpr ⟨yC6, n12⟩
  have r8 := r7.impM (rest := rest8) (ao := .cell (some (.con (.ref (ρ2 0))))) yC7 (fun y hy => dropA_mem.mp hy) rfl (fun _ q => by cases q) hC
  have N8 : RowsN w.params rest8 rows nl.reverse := N7.dropX r7 yC7 hC rfl
  have r8 : Rel w.params fiW0 { fc with rest := rest8 } (upR (upR (upR ρ5 4 (ρ2 0)) 5 (ρ2 2)) 6 (ρ2 1)) (impSt msg res ws.l rs (.con (.ref (ρ2 2))) x rows (.con (.ref (ρ2 0)))) h5 := Eq.mp (by kernel_rfl) r8
  have a4 : upR (upR (upR ρ5 4 (ρ2 0)) 5 (ρ2 2)) 6 (ρ2 1) 4 = ρ2 0 := rfl
  have a5 : upR (upR (upR ρ5 4 (ρ2 0)) 5 (ρ2 2)) 6 (ρ2 1) 5 = ρ2 2 := rfl
  have a6 : upR (upR (upR ρ5 4 (ρ2 0)) 5 (ρ2 2)) 6 (ρ2 1) 6 = ρ2 1 := rfl
  generalize upR (upR (upR ρ5 4 (ρ2 0)) 5 (ρ2 2)) 6 (ρ2 1) = ρ6 at r8 a4 a5 a6
  have n7 : ∀ a b, (impSt msg res ws.l rs a x rows b).n = 7 := fun _ _ => rfl
  have r9 := r8.conv (l := 6) (a := .cell (some (.con (.ref (ρ2 0))))) (a' := .cell (some (.ref 4))) (by kernel_rfl) rfl (fun es q => by cases q) (fun od ⟨v, e, q⟩ => ⟨v, e, by rw [n7]; decide, by rw [q.1, a4]⟩)
  have r9 : Rel w.params fiW0 { fc with rest := rest8 } ρ6 (impSt msg res ws.l rs (.con (.ref (ρ2 2))) x rows (.ref 4)) h5 := Eq.mp (by kernel_rfl) r9
  have r10 := r9.remu (mu' := mu3 (.ref 5) msg res (fnd (.ref 1) (.ref 3))) (fun y c hy => by
    rcases mu3_look (b := .con (.ref (ρ2 2))) hy with ⟨rfl, rfl⟩ | ⟨_, q⟩
    · exact ⟨.con (.ref (ρ2 2)), by kernel_rfl, fun u ru => ⟨by rw [n7]; decide, by rw [ru.1, a5]⟩⟩
    · exact ⟨c, q, fun u ru => ru⟩) [] []
  have r10 : Rel w.params fiW0 { fc with rest := rest8 } ρ6 (impSt msg res ws.l rs (.ref 5) x rows (.ref 4)) h5 := r10
  obtain ⟨f2, _, r11⟩ := r10.again (lm_sort ρ6 msg res ws.l rs x rows) (fun x l h => by cases h)
  rw [renL_strs, renL_strs, N8.con.ren] at r11
  have r11 : Rel w.params fiW0 { fc with rest := rest8 } (fun j => ρ6 ([4, 6, 5, 1, 2, 3].getD j 0)) (m8St x msg res (.list none (ws.l.map .str)) rs rows []) h5 := r11
  refine H _ h5 tk5 rest8 rows (r11.cls (fi' := fiW) fun y l hy => ?_) N8
  have hmm := look_mem hy
  have hmm : (y, l) ∈ [(nWords, 1)] := hmm
  simp only [List.mem_cons, Prod.mk.injEq, List.not_mem_nil, or_false] at hmm
  obtain ⟨rfl, rfl⟩ := hmm
  exact ⟨Nat.lt_of_lt_of_eq (by decide : 1 < 6) (by kernel_rfl : 6 = _), by show fc.env.cells.lookup _ = some (ρ6 6); rw [a6]; exact eC⟩
end
end Mine
namespace Mine
open PySem PySem.W PyProof.Rows PySem.Calls PySem.Spec
/-! what the law asks of the match, and of its names -/
noncomputable def m8M (x : Nat) (msg : Nm) (res : Option Nm) (wl : AO) (rs : List Nm) (rows : List AV) (more : List AO) : St :=
  mkS0 (mu3 (.ref 2) msg res (fnd (.ref 3) (.ref 5))) ([wl, .cell (some (.ref 0)), .list none (rs.map .str), .tup [.num 0, .int x, .ref 4], .list none rows, .list (some []) []] ++ more) [] []
noncomputable def cutT (x : Nat) : AO := .tup [.num 0, .int x]
noncomputable def m9St (x : Nat) (msg : Nm) (res : Option Nm) (wl : AO) (rl : List AV) (rows : List AV) (or : List Nat) (ov : List AV) : St :=
  mkS0 (mu3 (.ref 2) msg res [(nFoundL, .ref 3)]) [wl, .cell (some (.ref 0)), .list none rl, .tup [.num 0, .int x, .ref 4], .list none rows] or ov
noncomputable def noI : Nat → List AV → Prop := fun _ _ => False
set_option tactic.hygienic true in
theorem s8 (P : Params) (ρ : Nat → Addr) (x : Nat) (msg : Nm) (res : Option Nm) (ts rs : List Nm) (rows : List AV) :
    outc ρ [0, 1, 2, 3, 4] [] [nRow, nMessage, nOther, nFoundL] ((evU P).s fiW (hdS (dropS 8 lwB)) (m8St x msg res (.list none (ts.map .str)) rs rows [1, 1])) =
      some (m9St x msg res (.list none (renL ρ [0, 1, 2, 3, 4] (ts.map .str))) (renL ρ [0, 1, 2, 3, 4] (rs.map .str)) (renL ρ [0, 1, 2, 3, 4] rows) [] [], [], .next,
        [msg.length < 2 ^ 62, DatEq (m8M x msg res (.list none (ts.map .str)) rs rows [cutT x, cutT msg.length]).sg noI (.ref 6) (.ref 7) true,
          DatEq (m8M x msg res (.list none (ts.map .str)) rs rows [cutT x, cutT msg.length, .list none []]).sg noI (.ref 5) (.ref 8) true, WyP (ts.map .str) (.str msg)]) := by cases res <;> kernel_rfl
/-- a row of the names: its place, what it names, its text -/
structure Nq where
  c : Nat
  x : Nat
  t : Nm
noncomputable def rowsQ : List Nq → List AV
  | [] => []
  | q :: r => .con (.ref q.c) :: rowsQ r
noncomputable def ovQ : List Nq → List AV
  | [] => []
  | q :: r => .con (.ref q.x) :: .str q.t :: ovQ r
noncomputable def txtQ : List Nq → List Nm
  | [] => []
  | q :: r => q.t :: txtQ r
noncomputable def ones : List Nq → List Nat
  | [] => [1]
  | _ :: r => 1 :: ones r
noncomputable def immQ (imm : Nat → List AV → Prop) : List Nq → List Prop → List Prop
  | [], l => l
  | q :: r, l => imm q.c [.con (.ref q.x), .str q.t] :: immQ imm r l
noncomputable def hasQ (ts : List Nm) : List Nq → List Prop → List Prop
  | [], l => l
  | q :: r, l => allP ts :: hasP ts q.t :: hasQ ts r l
noncomputable def catP : List Nq → List Prop → List Prop
  | [], l => l
  | q :: r, l => ((txtQ (q :: r)).flatten.length ≤ 1000) :: l
noncomputable def m10St (msg : Nm) (res : Option Nm) (wl : AO) (rl nl : List AV) (or : List Nat) (ov : List AV) : St :=
  mkS0 (mu3 (.ref 2) msg res [(nNames, .ref 3)]) [wl, .cell (some (.ref 0)), .list none rl, .list none nl] or ov
noncomputable def m9M (x : Nat) (msg : Nm) (res : Option Nm) (ts : List Nm) (rl : List AV) (rows : List AV) (nl : List AV) : St :=
  mkS0 [] [.list (some (ts.map .str)) [], .cell (some (.ref 0)), .list none rl, .tup [.num 0, .int x, .ref 4], .list none rows, .dead, .list none nl, .dead, .list none [], .list none []] [] []
noncomputable def St10 (qs : List Nq) : Prop := ∀ (P : Params) (ρ : Nat → Addr) (x : Nat) (msg : Nm) (res : Option Nm) (ts : List Nm) (rl : List AV) (imm : Nat → List AV → Prop),
  outc ρ [0, 1, 2, 6] [] [nRow, nMessage, nOther, nNames] ((evU P).ss fiW (takeS 2 (dropS 9 lwB)) (withImm (m9St x msg res (.list (some (ts.map .str)) []) rl (rowsQ qs) (1 :: ones qs) (ovQ qs)) imm)) =
    some (m10St msg res (.list (some (renL ρ [0, 1, 2, 6] (ts.map .str))) []) (renL ρ [0, 1, 2, 6] rl) ((txtQ qs).map .str) [] [], [], .next,
      immQ imm qs (catP qs (((txtQ qs).flatten = msg) :: hasQ ts qs [DatEq (m9M x msg res ts rl (rowsQ qs) ((txtQ qs).map .str)).sg imm (.ref 8) (.ref 9) true])))
theorem st10 : ∀ qs : List Nq, qs.length ≤ 7 → St10 qs
  | [], _ => by intro P ρ x msg res ts rl imm; cases res <;> kernel_rfl
  | [_], _ => by intro P ρ x msg res ts rl imm; cases res <;> kernel_rfl
  | [_, _], _ => by intro P ρ x msg res ts rl imm; cases res <;> kernel_rfl
  | [_, _, _], _ => by intro P ρ x msg res ts rl imm; cases res <;> kernel_rfl
  | [_, _, _, _], _ => by intro P ρ x msg res ts rl imm; cases res <;> kernel_rfl
  | [_, _, _, _, _], _ => by intro P ρ x msg res ts rl imm; cases res <;> kernel_rfl
  | [_, _, _, _, _, _], _ => by intro P ρ x msg res ts rl imm; cases res <;> kernel_rfl
  | [_, _, _, _, _, _, _], _ => by intro P ρ x msg res ts rl imm; cases res <;> kernel_rfl
  | _ :: _ :: _ :: _ :: _ :: _ :: _ :: _ :: _, h => by simp at h
end Mine
namespace Mine
open PySem PySem.W PyProof.Rows PySem.Calls PySem.Spec
noncomputable def powZ (a : Nm) : Int := 2 ^ ((3 : Int) - (a.length : Int)).toNat
noncomputable def powP : List Nm → List Prop → List Prop
  | [], l => l
  | a :: r, l => (a.length < 2 ^ 62) :: (0 ≤ (3 : Int) - (a.length : Int) ∧ (3 : Int) - (a.length : Int) ≤ 1000000 ∧ (2 : Int).natAbs < 2 ^ 64) :: powP r l
noncomputable def endSt (wl : List AV) : St := mkS0 [] [.list none wl, .cell (some (.ref 0))] [] []
noncomputable def m11M (ts : List Nm) (rl nl : List AV) (pl : List AV) : St := mkS0 [] [.list none (ts.map .str), .cell (some (.ref 0)), .list none rl, .list none nl, .dead, .list none pl] [] []
theorem s11 (P : Params) (ρ : Nat → Addr) (ws : Ws) (msg : Nm) (rl nl : List AV) (pv : Int) :
    outc ρ [0, 1] [] [] ((evU P).ss fiW (dropS 11 lwB) (m10St msg none (.list none (ws.l.map .str)) rl nl [1, 1, 1] [.int pv])) =
      some (endSt (renL ρ [0, 1] (ws.l.map .str)), [], .ret (.bool true), PaP (ws.l.map .str) (.str msg) (.int pv) :: (pv = 1) :: powP ws.l [(ws.l.map powZ).sum ≤ 8, DatEq (m11M ws.l rl nl ((ws.l.map powZ).map .int)).sg noI (.ref 3) (.ref 2) true]) := by cases ws <;> kernel_rfl
theorem s12 (P : Params) (ρ : Nat → Addr) (ts : List Nm) (msg o : Nm) (rl nl : List AV) (pv : Int) :
    outc ρ [0, 1] [] [] ((evU P).ss fiW (dropS 11 lwB) (m10St msg (some o) (.list none (ts.map .str)) rl nl [1] [.int pv])) =
      some (endSt (renL ρ [0, 1] (ts.map .str)), [], .ret (.bool true), [PaP (ts.map .str) (.str o) (.int pv), 1 < pv, WyP (ts.map .str) (.str o)]) := by kernel_rfl
/-! what is compared -/
theorem flat_shaped {ds : List PyData} (h : ∀ d ∈ ds, flatD d) : SeqAt.shaped (.list ds) = true ∧ SeqAt.shaped (.tuple ds) = true ∧ PyData.eqv (.list ds) (.list ds) = true ∧ PyData.eqv (.tuple ds) (.tuple ds) = true := by
  have h1 : PyData.canLayAll0 ds = true := canLayAll_of fun d hd => (flatD_lay (h d hd)).1
  have h2 := depthAll_of (k := 0) (ds := ds) fun d hd => Nat.le_of_eq (flatD_lay (h d hd)).2
  have h3 : PyData.eqvAll ds ds = true := eqvAll_refl fun d hd => flatD_eqv (h d hd)
  refine ⟨?_, ?_, by rw [PyData.eqv]; exact h3, by rw [PyData.eqv]; exact h3⟩
  · unfold SeqAt.shaped
    rw [Bool.and_eq_true]
    exact ⟨by unfold PyData.canLay0; exact h1, decide_eq_true (by rw [PyData.depth]; lia)⟩
  · unfold SeqAt.shaped
    rw [Bool.and_eq_true]
    exact ⟨by unfold PyData.canLay0; exact h1, decide_eq_true (by rw [PyData.depth]; lia)⟩
theorem dat_tup {sg : Tr} {imm : Nat → List AV → Prop} {i j : Nat} {xs : List AV} {ds : List PyData} (hi : sg.get i = .tup xs) (hj : sg.get j = .tup xs) (hr : RdVs sg imm xs ds) (h : ∀ d ∈ ds, flatD d) : DatEq sg imm (.ref i) (.ref j) true :=
  ⟨_, _, .tup hi hr, .tup hj hr, (flat_shaped h).2.1, (flat_shaped h).2.1, (flat_shaped h).2.2.2⟩
theorem dat_list {sg : Tr} {imm : Nat → List AV → Prop} {i j : Nat} {p q : Option (List AV)} {xs ys : List AV} {ds : List PyData} (hi : sg.get i = .list p xs) (hj : sg.get j = .list q ys) (hr : RdVs sg imm (itm p xs) ds) (hs : RdVs sg imm (itm q ys) ds) (h : ∀ d ∈ ds, flatD d) : DatEq sg imm (.ref i) (.ref j) true :=
  ⟨_, _, .list hi hr, .list hj hs, (flat_shaped h).1, (flat_shaped h).1, (flat_shaped h).2.2.1⟩
theorem rd_strs {sg : Tr} {imm : Nat → List AV → Prop} : ∀ ts : List Nm, RdVs sg imm (ts.map .str) (ts.map fun t => .str (stn t))
  | [] => .nil
  | _ :: r => .cons (.str _) (rd_strs r)
theorem flat_strs {ts : List Nm} (h : ∀ t ∈ ts, okStr t) : ∀ d ∈ ts.map fun t => PyData.str (stn t), flatD d := fun d hd => by
  obtain ⟨t, ht, rfl⟩ := List.mem_map.mp hd
  exact strOk_of (h t ht)
theorem kraft_sum : ∀ {l : List Nm}, (∀ a ∈ l, a.length ≤ 3) → (l.map powZ).sum = (kraft l : Int)
  | [], _ => rfl
  | a :: r, h => by
    have ha := h a (.head _)
    rw [List.map_cons, List.sum_cons, kraft_sum fun b hb => h b (.tail _ hb)]
    show powZ a + _ = ((2 ^ (3 - a.length) + kraft r : Nat) : Int)
    rw [Int.natCast_add, Int.natCast_pow]
    congr 1
    show (2 : Int) ^ ((3 : Int) - (a.length : Int)).toNat = _
    rw [show ((3 : Int) - (a.length : Int)).toNat = 3 - a.length by lia]
    rfl
theorem powP_ok : ∀ {l : List Nm} {r : List Prop}, (∀ a ∈ l, a.length ≤ 3) → Ps r → Ps (powP l r)
  | [], _, _, h => h
  | a :: l, r, h, k => by
    have ha := h a (.head _)
    exact ⟨by lia, ⟨by lia, by lia, by decide⟩, powP_ok (fun b hb => h b (.tail _ hb)) k⟩
theorem rowsQ_of {P : Params} {rest : List (Addr × Obj)} : ∀ {rows : List AV} {p : List Nm}, RowsN P rest rows p → ∃ qs : List Nq, rows = rowsQ qs ∧ p = txtQ qs ∧ ∀ q ∈ qs, immOf P rest q.c [.con (.ref q.x), .str q.t]
  | [], [], _ => ⟨[], rfl, rfl, fun _ h => nomatch h⟩
  | a :: r, t :: p, h => by
    obtain ⟨⟨d, X, rfl, hi⟩, h2⟩ := h
    obtain ⟨qs, e1, e2, e3⟩ := rowsQ_of h2
    exact ⟨⟨d, X, t⟩ :: qs, by rw [e1]; rfl, by rw [e2]; rfl, fun q hq => (List.mem_cons.mp hq).elim (fun z => by rw [z]; exact hi) (e3 q)⟩
  | [], _ :: _, h => h.elim
  | _ :: _, [], h => h.elim
theorem txtQ_len : ∀ qs : List Nq, (txtQ qs).length = qs.length
  | [] => rfl
  | _ :: r => congrArg (· + 1) (txtQ_len r)
theorem immQ_ok {imm : Nat → List AV → Prop} {l : List Prop} : ∀ {qs : List Nq}, (∀ q ∈ qs, imm q.c [.con (.ref q.x), .str q.t]) → Ps l → Ps (immQ imm qs l)
  | [], _, h => h
  | q :: r, h, k => ⟨h q (.head _), immQ_ok (fun y hy => h y (.tail _ hy)) k⟩
theorem hasQ_ok {ts : List Nm} {l : List Prop} : ∀ {qs : List Nq}, (∀ t ∈ txtQ qs, t ∈ ts) → Ps l → Ps (hasQ ts qs l)
  | [], _, h => h
  | q :: r, h, k => ⟨all_ok ts, List.mem_append_left _ (List.mem_map.mpr ⟨_, h _ (.head _), rfl⟩), hasQ_ok (fun y hy => h y (.tail _ hy)) k⟩
theorem catP_ok {l : List Prop} : ∀ {qs : List Nq}, (txtQ qs).flatten.length ≤ 1000 → Ps l → Ps (catP qs l)
  | [], _, h => h
  | q :: r, h, k => ⟨h, k⟩
end Mine
namespace Mine
open PySem PySem.W PyProof.Rows PySem.Calls PySem.Spec
theorem lwB_end : dropS 8 lwB = hdS (dropS 8 lwB) :: (takeS 2 (dropS 9 lwB) ++ dropS 11 lwB) := by kernel_rfl
theorem hclV {ks : List Nat} (h : ks[1]? = some 1) : ∀ x l, look x fiW.cl = some l → ks[l]? = some l := fun x l hx => by
  have hm := look_mem hx
  have hm : (x, l) ∈ [(nWords, 1)] := hm
  simp only [List.mem_cons, Prod.mk.injEq, List.not_mem_nil, or_false] at hm
  obtain ⟨_, rfl⟩ := hm
  exact h
/-- words as the law has them -/
structure Wd (ws : Ws) : Prop where
  ok : WsOk ws.l
  st : ∀ u ∈ ws.l, okStr u
theorem Wd.ne {ws : Ws} (h : Wd ws) : ∀ u ∈ ws.l, u ≠ [] ∧ u.length ≤ 100 := fun u hu => ⟨h.ok.ne u hu, by have := (h.ok.len u hu).2; lia⟩
theorem Wd.ways {ws : Ws} (h : Wd ws) {msg : Nm} (hm : msg.length ≤ 7) : WyP (ws.l.map .str) (.str msg) := by
  obtain ⟨n, t, e, ht⟩ := run_t h.ok hm
  have h1 := cnt_le h.ok _ (Nat.lt_succ_self msg.length)
  have h2 := Bd_7 _ hm
  exact ⟨ws, msg, n, t, _, rfl, rfl, by lia, h.ne, e, ht, by lia, parted_cnt h.ok.ne msg⟩
theorem Wd.part {ws : Ws} (h : Wd ws) {msg : Nm} (hm : msg.length ≤ 7) : PaP (ws.l.map .str) (.str msg) (.int (cnt ws.l msg : Int)) := ⟨ws, msg, rfl, rfl, by lia, h.ne, by rw [parted_cnt h.ok.ne]⟩
/-- what was looked through -/
noncomputable def ResOk (ws : Ws) (msg : Nm) : Option Nm → Prop
  | none => cnt ws.l msg = 1 ∧ kraft ws.l ≤ 8
  | some o => 2 ≤ cnt ws.l o ∧ o.length ≤ 7
section
variable {prog : Program} {w : World} {K : Frag} {p : Program} {loose : List Str} {mean : ExcName → Option Value} {mg mb : Str → Option Value}
theorem lawTail (hK : Sound2 K) {ws : Ws} (hw : Wd ws) {msg : Nm} (hm : msg.length ≤ 7) {ps rs : List Nm} (hps : ∀ u ∈ ps, u ∈ ws.l) (eps : ps.flatten = msg) (hrs : ∀ u ∈ rs, u ∈ ws.l) (ers : rs.flatten = msg) {res : Option Nm} (hres : ResOk ws msg res) {rows : List AV} {fc : FC} {ρ : Nat → Addr} {s : Shared} {Q : Flow → Shared → Prop}
    (O : FrOk K p loose mean mg mb fiW fc) (B : Room2 440 60 fc.A) (r : Rel w.params fiW fc ρ (m8St msg.length msg res (.list none (ws.l.map .str)) rs rows []) s.heap) (hN : RowsN w.params fc.rest rows ps)
    (H : ∀ ρ' h' tk st' fi', Rel w.params fi' fc ρ' st' h' → Q (.ret (.bool true)) { s with heap := h', toks := tk }) :
    wpAny (model prog w) fc.A (execs (dropS 8 lwB) fc.env) Q NoE s := by
  have S : Snd prog w K p loose mean mg mb 440 60 (evs (T3 w.params) 60) := S3 hK 60
  have ok : PTOk3 prog w K p loose mean mg mb (T3 w.params) 440 := ok3 hK
  have hpl : ps.length ≤ 7 := by
    have := flat_len (p := ps) fun u hu => (hw.ok.len u (hps u hu)).1
    rw [eps] at this; lia
  obtain ⟨qs, rfl, rfl, hq⟩ := rowsQ_of hN
  have hql : qs.length ≤ 7 := by rw [← txtQ_len]; exact hpl
  have hrow := hN.con
  rw [lwB_end]
  have g6 : (m8M msg.length msg res (.list none (ws.l.map .str)) rs (rowsQ qs) [cutT msg.length, cutT msg.length]).sg.get 6 = .tup [.num 0, .int msg.length] := by kernel_rfl
  have g7 : (m8M msg.length msg res (.list none (ws.l.map .str)) rs (rowsQ qs) [cutT msg.length, cutT msg.length]).sg.get 7 = .tup [.num 0, .int msg.length] := by kernel_rfl
  have g5 : (m8M msg.length msg res (.list none (ws.l.map .str)) rs (rowsQ qs) [cutT msg.length, cutT msg.length, .list none []]).sg.get 5 = .list (some []) [] := by kernel_rfl
  have g8 : (m8M msg.length msg res (.list none (ws.l.map .str)) rs (rowsQ qs) [cutT msg.length, cutT msg.length, .list none []]).sg.get 8 = .list none [] := by kernel_rfl
  have d1 := dat_tup (imm := noI) g6 g7 (.cons (.num 0) (.cons (.int _) .nil)) (fun d hd => by
    simp only [List.mem_cons, List.not_mem_nil, or_false] at hd
    rcases hd with rfl | rfl <;> trivial)
  have d2 := dat_list (imm := noI) g5 g8 .nil .nil (fun d hd => nomatch hd)
  refine wpAny_execs_cons (out_turn (sndF_s S O B (hdS (dropS 8 lwB))) (hev := fun ρ' => s8 w.params ρ' msg.length msg res ws.l rs (rowsQ qs)) (fun _ _ => ⟨by lia, d1, d2, hw.ways hm, trivial⟩) (hclV rfl) (r.mus (fun _ _ h => h) [1, 1] []) fun ρ1 h1 tk1 f1 v1 m1 X1 _ r1 q1 => ?_)
  obtain rfl := q1
  rw [renL_strs, renL_strs, hrow.ren] at r1
  have r2 := ((r1.view (l := 0) (p := none) (xs := ws.l.map .str) (p' := some (ws.l.map .str)) (xs' := []) (by kernel_rfl) (fun vs h => by
    show All2 _ (ws.l.map AV.str ++ []) vs
    rw [List.append_nil]; exact h)).mus (fun _ _ h => h) (1 :: ones qs) (ovQ qs)).imms
  have r2 : Rel w.params fiW fc (fun j => ρ1 ([0, 1, 2, 3, 4].getD j 0)) (withImm (m9St msg.length msg res (.list (some (ws.l.map .str)) []) (rs.map .str) (rowsQ qs) (1 :: ones qs) (ovQ qs)) (immOf w.params fc.rest)) h1 := Eq.mp (by kernel_rfl) r2
  have k8 : (m9M msg.length msg res ws.l (rs.map .str) (rowsQ qs) ((txtQ qs).map .str)).sg.get 8 = .list none [] := by kernel_rfl
  have k9 : (m9M msg.length msg res ws.l (rs.map .str) (rowsQ qs) ((txtQ qs).map .str)).sg.get 9 = .list none [] := by kernel_rfl
  have d3 := dat_list (imm := immOf w.params fc.rest) k8 k9 .nil .nil (fun d hd => nomatch hd)
  refine out_app (s := { s with heap := h1, toks := tk1 }) ok O B (fun ρ' => st10 qs hql w.params ρ' msg.length msg res ws.l (rs.map .str) (immOf w.params fc.rest)) (fun _ _ => immQ_ok hq (catP_ok (by rw [eps]; lia) ⟨eps, hasQ_ok hps ⟨d3, trivial⟩⟩)) (hclV rfl) r2 fun ρ3 h3 tk3 f3 X3 _ r3 => ?_
  rw [renL_strs, renL_strs] at r3
  have r4 := r3.view (l := 0) (p := some (ws.l.map .str)) (xs := []) (p' := none) (xs' := ws.l.map .str) (by kernel_rfl) (fun vs h => by
    have h : All2 _ (ws.l.map AV.str ++ []) vs := h
    rw [List.append_nil] at h; exact h)
  have r4 : Rel w.params fiW fc (fun j => ρ3 ([0, 1, 2, 6].getD j 0)) (m10St msg res (.list none (ws.l.map .str)) (rs.map .str) ((txtQ qs).map .str) [] []) h3 := Eq.mp (by kernel_rfl) r4
  cases res with
  | none =>
    obtain ⟨c1, c2⟩ := hres
    have e : txtQ qs = rs := cnt_uniq hw.ok.ne hps hrs (by rw [eps, ers]) (by rw [eps, c1]; exact Nat.le_refl _)
    have j3 : (m11M ws.l (rs.map .str) ((txtQ qs).map .str) ((ws.l.map powZ).map .int)).sg.get 3 = .list none ((txtQ qs).map .str) := by kernel_rfl
    have j2 : (m11M ws.l (rs.map .str) ((txtQ qs).map .str) ((ws.l.map powZ).map .int)).sg.get 2 = .list none (rs.map .str) := by kernel_rfl
    have d4 := dat_list (imm := noI) j3 j2 (rd_strs _) (by rw [← e]; exact rd_strs _) (flat_strs fun t ht => hw.st t (hps t ht))
    have len3 : ∀ a ∈ ws.l, a.length ≤ 3 := fun a ha => (hw.ok.len a ha).2
    refine out_turn (s := { s with heap := h3, toks := tk3 }) (sndF_ss S O B (dropS 11 lwB)) (hev := fun ρ' => s11 w.params ρ' ws msg (rs.map .str) ((txtQ qs).map .str) (cnt ws.l msg : Int)) (fun _ _ => ⟨hw.part hm, by rw [c1]; rfl, powP_ok len3 ⟨by rw [kraft_sum len3]; lia, d4, trivial⟩⟩) (hclV rfl) (r4.mus (fun _ _ h => h) [1, 1, 1] [.int (cnt ws.l msg : Int)]) fun ρ5 h5 tk5 f5 v5 m5 X5 _ r5 q5 => ?_
    obtain ⟨u, rfl, ru⟩ := q5
    obtain rfl := ru
    exact H _ h5 tk5 _ _ r5
  | some o =>
    obtain ⟨c1, c2⟩ := hres
    refine out_turn (s := { s with heap := h3, toks := tk3 }) (sndF_ss S O B (dropS 11 lwB)) (hev := fun ρ' => s12 w.params ρ' ws.l msg o (rs.map .str) ((txtQ qs).map .str) (cnt ws.l o : Int)) (fun _ _ => ⟨hw.part c2, by lia, hw.ways c2, trivial⟩) (hclV rfl) (r4.mus (fun _ _ h => h) [1] [.int (cnt ws.l o : Int)]) fun ρ5 h5 tk5 f5 v5 m5 X5 _ r5 q5 => ?_
    obtain ⟨u, rfl, ru⟩ := q5
    obtain rfl := ru
    exact H _ h5 tk5 _ _ r5
end
end Mine
namespace Mine
open PySem PySem.W PyProof.Rows PySem.Calls PySem.Spec
/-! the words are of those that were looked through -/
noncomputable def okW (a : Nm) : Bool := andB (Nat.ble 1 a.length) (andB (Nat.ble a.length 3) (a.all fun c => Nat.blt c 1000))
theorem allW_ok {a : Nm} (h : a ∈ allW) : 1 ≤ a.length ∧ a.length ≤ 3 ∧ okStr a := by
  have h1 : okW a = true := allB_iff (by kernel_rfl : allB okW allW = true) a h
  obtain ⟨h2, h3⟩ := andB_iff h1
  obtain ⟨h3, h4⟩ := andB_iff h3
  refine ⟨Nat.le_of_ble_eq_true h2, Nat.le_of_ble_eq_true h3, fun c hc => ?_⟩
  have := Nat.blt_eq.mp (List.all_eq_true.mp h4 c hc)
  lia
theorem bits_allW : ∀ {l : Nm}, 1 ≤ l.length → l.length ≤ 3 → (∀ c ∈ l, c = 48 ∨ c = 49) → l ∈ allW
  | [], h, _, _ => by simp at h
  | [a], _, _, h => by rcases h a (.head _) with rfl | rfl <;> decide
  | [a, b], _, _, h => by rcases h a (.head _) with rfl | rfl <;> rcases h b (.tail _ (.head _)) with rfl | rfl <;> decide
  | [a, b, c], _, _, h => by rcases h a (.head _) with rfl | rfl <;> rcases h b (.tail _ (.head _)) with rfl | rfl <;> rcases h c (.tail _ (.tail _ (.head _))) with rfl | rfl <;> decide
  | _ :: _ :: _ :: _ :: _, _, h, _ => by simp at h
theorem digL_bit (x : Int) : ∀ (n : Nat) (at_ : Int), ∀ c ∈ digL x at_ n, c = 48 ∨ c = 49
  | 0, _, _, h => nomatch h
  | n + 1, at_, c, h => by
    rcases List.mem_cons.mp h with rfl | h
    · have h1 : 0 ≤ bitZ x at_ := Int.fmod_nonneg_of_pos _ (by decide : (0 : Int) < 2)
      have h2 : bitZ x at_ < 2 := Int.fmod_lt_of_pos _ (by decide : (0 : Int) < 2)
      lia
    · exact digL_bit x n _ c h
theorem wordZ_in (x : Int) : wordZ x ∈ allW := bits_allW (wordZ_len x).1 (wordZ_len x).2 (digL_bit x _ _)
theorem wordsZ_ok : ∀ (L : List Int) {ts : List Nm}, ts.Nodup → (∀ a ∈ ts, a ∈ allW) → (wordsZ ts L).Nodup ∧ (∀ a ∈ wordsZ ts L, a ∈ allW) ∧ (wordsZ ts L).length ≤ ts.length + L.length ∧ (1 ≤ ts.length + L.length → 1 ≤ (wordsZ ts L).length)
  | [], ts, h1, h2 => ⟨h1, h2, Nat.le_refl _, fun h => h⟩
  | x :: L, ts, h1, h2 => by
    unfold wordsZ
    by_cases q : wordZ x ∈ ts
    · rw [if_pos q]
      obtain ⟨k1, k2, k3, k4⟩ := wordsZ_ok L h1 h2
      have := List.length_pos_of_mem q
      exact ⟨k1, k2, by rw [List.length_cons]; lia, fun _ => k4 (by lia)⟩
    · rw [if_neg q]
      obtain ⟨k1, k2, k3, k4⟩ := wordsZ_ok L (ts := ts ++ [wordZ x]) (by
        refine List.nodup_append.mpr ⟨h1, List.nodup_cons.mpr ⟨List.not_mem_nil, List.nodup_nil⟩, fun a ha b hb e => ?_⟩
        rw [List.mem_singleton.mp hb] at e
        exact q (e ▸ ha)) (fun a ha => (List.mem_append.mp ha).elim (h2 a) fun z => by rw [List.mem_singleton.mp z]; exact wordZ_in x)
      rw [List.length_append, List.length_singleton] at k3 k4
      exact ⟨k1, k2, by rw [List.length_cons]; lia, fun _ => k4 (by lia)⟩
theorem orB_ne {a b : Nm} {c : Bool} (h : orB (nmEq a b) c = true) (hn : a ≠ b) : c = true := by
  cases e : nmEq a b with
  | true => exact absurd (nmEq_iff.mp e) hn
  | false => rw [e] at h; exact h
theorem chk_ws {ws : Ws} (nd : ws.l.Nodup) (h : ∀ a ∈ ws.l, a ∈ allW) : chk ws.l = true := by
  have key := fun a ha => allB_iff chk_all a ha
  cases ws with
  | w1 a => exact (andB_iff (key a (h a (.head _)))).1
  | w2 a b =>
    have n1 : a ≠ b := fun q => (List.nodup_cons.mp nd).1 (q ▸ .head _)
    exact (andB_iff (orB_ne (allB_iff (andB_iff (key a (h a (.head _)))).2 b (h b (.tail _ (.head _)))) n1)).1
  | w3 a b c =>
    obtain ⟨n1, n2⟩ := List.nodup_cons.mp nd
    have n3 := (List.nodup_cons.mp n2).1
    have h1 : a ≠ b := fun q => n1 (q ▸ .head _)
    have h2 : a ≠ c := fun q => n1 (q ▸ .tail _ (.head _))
    have h3 : b ≠ c := fun q => n3 (q ▸ .head _)
    exact orB_ne (orB_ne (allB_iff (andB_iff (orB_ne (allB_iff (andB_iff (key a (h a (.head _)))).2 b (h b (.tail _ (.head _)))) h1)).2 c (h c (.tail _ (.tail _ (.head _))))) h2) h3
set_option tactic.hygienic true in
theorem chk_use {ws : Ws} (h : chk ws.l = true) : ∃ res, twRun ws.l 20 (oStep ws.l ws.l) [] = some res ∧ ∀ rs : List Nm, rs.length ≤ 2 → (∀ u ∈ rs, u ∈ ws.l) → ResOk ws rs.flatten res := by
  unfold chk at h
  split at h
  · cases h
  · rename_i e
    obtain ⟨h1, h2⟩ := andB_iff h
    refine ⟨none, e, fun rs hl hr => ⟨?_, Nat.le_of_ble_eq_true h1⟩⟩
    match rs, hl, hr with
    | [], _, _ => rfl
    | [a], _, hr =>
      have := (andB_iff (allB_iff h2 a (hr a (.head _)))).1
      rw [show [a].flatten = a by simp]
      exact Nat.eq_of_beq_eq_true this
    | [a, b], _, hr =>
      have := allB_iff (andB_iff (allB_iff h2 a (hr a (.head _)))).2 b (hr b (.tail _ (.head _)))
      rw [show [a, b].flatten = a ++ b by simp]
      exact Nat.eq_of_beq_eq_true this
  · rename_i o e
    obtain ⟨h1, h2⟩ := andB_iff h
    exact ⟨some o, e, fun rs hl hr => ⟨Nat.le_of_ble_eq_true h1, Nat.le_of_ble_eq_true h2⟩⟩
theorem iStep_mem {a : Nm} {q : Nm × Nm} : ∀ {l : List Nm}, q ∈ iStep a l → ∃ b ∈ l, q = (b, b.drop a.length)
  | b :: l, h => by
    rcases List.mem_append.mp h with h | h
    · split at h
      · cases h
      · split at h
        · exact ⟨b, .head _, List.mem_singleton.mp h⟩
        · cases h
    · obtain ⟨c, hc, e⟩ := iStep_mem h
      exact ⟨c, .tail _ hc, e⟩
theorem oStep_mem {ts : List Nm} {q : Nm × Nm} : ∀ {l : List Nm}, q ∈ oStep ts l → ∃ b ∈ ts, ∃ k, q = (b, b.drop k)
  | a :: l, h => by
    rcases List.mem_append.mp h with h | h
    · obtain ⟨b, hb, e⟩ := iStep_mem h
      exact ⟨b, hb, _, e⟩
    · exact oStep_mem h
theorem Wd.tw {ws : Ws} (h : Wd ws) {res : Option Nm} (e : twRun ws.l 20 (oStep ws.l ws.l) [] = some res) : TwP (ws.l.map .str) (resA res) := by
  refine ⟨ws.l, res, 20, rfl, fun u hu => (h.ne u hu).2, h.st, ws.l_len.2, by decide, e, fun q hq => ?_, fun q hq => ?_, rfl⟩
  · obtain ⟨b, hb, k, rfl⟩ := oStep_mem hq
    have := (h.ne b hb).2
    exact ⟨this, by show (b.drop k).length ≤ 100; rw [List.length_drop]; lia⟩
  · obtain ⟨b, hb, k, rfl⟩ := oStep_mem hq
    exact ⟨h.st b hb, fun c hc => h.st b hb c (List.mem_of_mem_drop hc)⟩
theorem ws_of {ts : List Nm} (h1 : 1 ≤ ts.length) (h3 : ts.length ≤ 3) : ∃ ws : Ws, ws.l = ts := by
  match ts, h1, h3 with
  | [a], _, _ => exact ⟨.w1 a, rfl⟩
  | [a, b], _, _ => exact ⟨.w2 a b, rfl⟩
  | [a, b, c], _, _ => exact ⟨.w3 a b c, rfl⟩
theorem flat_le {rs : List Nm} (h : ∀ u ∈ rs, u.length ≤ 3) : rs.flatten.length ≤ 3 * rs.length := by
  induction rs with
  | nil => exact Nat.le_refl _
  | cons a r ih =>
    have := h a (.head _)
    have := ih fun u hu => h u (.tail _ hu)
    rw [List.flatten_cons, List.length_append, List.length_cons]
    lia
end Mine
namespace Mine
open PySem PySem.W PyProof.Rows PySem.Calls PySem.Spec
theorem lw_split : lwB = takeS 3 lwB ++ (lwF :: (takeS 2 (dropS 4 lwB) ++ (takeS 1 (dropS 6 lwB) ++ (lmS :: dropS 8 lwB)))) := by kernel_rfl
theorem Rel.recl {P : Params} {fi fi' : FI} {fc : FC} {ρ : Nat → Addr} {st : St} {h : Heap} (r : Rel P fi fc ρ st h) (e : fi'.cl = fi.cl) : Rel P fi' fc ρ st h := by
  obtain ⟨m, os, R⟩ := r
  exact ⟨m, os, R.F, R.N, R.mu, R.len, R.os, R.out, R.inj, R.ap, fun x l hx => R.cl x l (by rw [← e]; exact hx), R.lo, R.im⟩
noncomputable def AsI (v : AV) (i : Int) : Prop := ∀ (ρ : Nat → Addr) (n : Nat) u, RepV ρ n v u → RepV ρ n (.int i) u
theorem as_all {ρ : Nat → Addr} {n : Nat} : ∀ {vs : List AV} {is : List Int}, All2 AsI vs is → All2 (fun x x' => ∀ y, RepV ρ n x y → RepV ρ n x' y) vs (is.map .int)
  | [], [], _ => trivial
  | _ :: _, _ :: _, h => ⟨h.1 ρ n, as_all h.2⟩
  | [], _ :: _, h => h.elim
  | _ :: _, [], h => h.elim
structure Sc1 where
  vs : List AV
  A : Int
  B : Int
  C : Int
  D : Int
  E : Int
  Ph : List Prop
set_option tactic.hygienic true in
theorem sec1 (P : Params) (a : Nat) (ns : List Int) : ∃ q : Sc1, (∀ ρ, outc ρ ks1 [] [] (lwA P clW (some (a, ns.map .int)) (takeS 3 lwB) (stL0 a)) = some (S1v q.vs, [], .next, q.Ph)) ∧ (ns.length ≤ 63 → Ps q.Ph) ∧ All2 AsI q.vs [q.A, q.B, q.C, q.D, q.E] := by
  have t : ∀ {xs : List AV}, xs.length ≤ 63 → Ps (scP a xs) := fun h => ⟨rfl, by lia, rfl, by lia, trivial⟩
  have n : ∀ i, AsI (.num i) i := fun _ _ _ _ h => h
  have m : ∀ i, AsI (.int i) i := fun _ _ _ _ h => h
  match ns with
  | [] => exact ⟨⟨_, 2, 0, 7, 4, 0, _⟩, fun ρ => sec1_0 P ρ a, fun _ => t (Nat.zero_le _), n _, n _, n _, n _, n _, trivial⟩
  | [i] => exact ⟨⟨_, absI i, 0, 7, 4, 0, _⟩, fun ρ => sec1_1 P ρ a i, fun _ => t (Nat.le_of_ble_eq_true rfl), m _, n _, n _, n _, n _, trivial⟩
  | [i, j] => exact ⟨⟨_, absI i, absI j, 7, 4, 0, _⟩, fun ρ => sec1_2 P ρ a i j, fun _ => t (Nat.le_of_ble_eq_true rfl), m _, m _, n _, n _, n _, trivial⟩
  | [i, j, k] => exact ⟨⟨_, absI i, absI j, absI k, 4, 0, _⟩, fun ρ => sec1_3 P ρ a i j k, fun _ => t (Nat.le_of_ble_eq_true rfl), m _, m _, m _, n _, n _, trivial⟩
  | [i, j, k, l] => exact ⟨⟨_, absI i, absI j, absI k, absI l, 0, _⟩, fun ρ => sec1_4 P ρ a i j k l, fun _ => t (Nat.le_of_ble_eq_true rfl), m _, m _, m _, m _, n _, trivial⟩
  | i :: j :: k :: l :: o :: r => exact ⟨⟨_, absI i, absI j, absI k, absI l, absI o, _⟩, fun ρ => sec1_5 P ρ a i j k l o (r.map .int), fun h => t (by simpa using h), m _, m _, m _, m _, m _, trivial⟩
noncomputable def toldZ (A B C D E : Int) : List Int := ([A, B, C, D, E].take (2 + A.fmod 3).toNat).drop 1
theorem toldL_eq (A B C D E : Int) : toldL A B C D E = (toldZ A B C D E).map .int := by
  unfold toldL toldZ
  rw [List.map_drop, List.map_take]
  rfl
theorem toldZ_len (A B C D E : Int) : 1 ≤ (toldZ A B C D E).length ∧ (toldZ A B C D E).length ≤ 3 := by
  have h1 := Int.fmod_nonneg_of_pos A (by decide : (0 : Int) < 3)
  have h2 := Int.fmod_lt_of_pos A (by decide : (0 : Int) < 3)
  unfold toldZ
  rw [List.length_drop, List.length_take]
  simp only [List.length_cons, List.length_nil]
  lia
theorem msgA_rep {ρ : Nat → Addr} {n : Nat} {u : Value} (rs : List Nm) (h : RepV ρ n (msgA rs) u) : RepV ρ n (.str rs.flatten) u := by
  cases rs <;> exact h
section
variable {prog : Program} {w : World} {K : Frag} {p : Program} {loose : List Str} {mean : ExcName → Option Value} {mg mb : Str → Option Value}
/-- from the words on -/
theorem lawRow (hK : Sound2 K) {ws : Ws} (nd : ws.l.Nodup) (hin : ∀ a ∈ ws.l, a ∈ allW) {A B C D E : Int} {tc : Option Int} {fc : FC} {ρ : Nat → Addr} {s : Shared} {Q : Flow → Shared → Prop}
    (O : FrOk K p loose mean mg mb fiL0 fc) (R : Room2 440 60 fc.A) (r : Rel w.params fiL0 fc ρ (lwSt A B C D E (.list (some (ws.l.map .str)) []) tc [] [] []) s.heap)
    (H : ∀ ρ' h' tk rest' st' fi', Rel w.params fi' { fc with rest := rest' } ρ' st' h' → Q (.ret (.bool true)) { s with heap := h', toks := tk }) :
    wpAny (model prog w) fc.A (execs (takeS 2 (dropS 4 lwB) ++ (takeS 1 (dropS 6 lwB) ++ (lmS :: dropS 8 lwB))) fc.env) Q NoE s := by
  have R9 : Room2 900 210 fc.A := ⟨by have := R.1; lia, by have := R.2; lia⟩
  have R2 : Room2 900 200 fc.A := ⟨by have := R.1; lia, by have := R.2; lia⟩
  have hw : Wd ws := ⟨⟨nd, fun a ha => ⟨(allW_ok (hin a ha)).1, (allW_ok (hin a ha)).2.1⟩⟩, fun a ha => (allW_ok (hin a ha)).2.2⟩
  obtain ⟨res, etw, hres⟩ := chk_use (chk_ws nd hin)
  obtain ⟨z1, z2, z3, z4⟩ := leftR_eq E
  obtain ⟨rs, l1, l2, l3⟩ := phR_ok (E := E) ws.l_len.1 ws.l_len.2 (E.fmod 3).toNat z1 (Int.le_refl 0) (by lia)
  have hrs : rs.length ≤ 2 := by lia
  obtain ⟨a5, a6, a7⟩ := rs_all rs hrs
  have OW : FrOk K p loose mean mg mb fiW fc := O.refi (fi' := fiW) rfl rfl rfl
  refine out_app (ok2 hK) O R2 (fun ρ' => a5 w.params ρ' A B C D E ws.l tc) (fun _ _ => ⟨?_, ⟨by lia, by lia⟩, l3⟩) (hclW rfl rfl rfl rfl) (r.mus (fun _ _ h => h) (onesN rs) (rs.map .str)) fun ρ1 h1 tk1 f1 X1 _ r1 => ?_
  · have := ws.l_len.2
    show (ws.l.map AV.str ++ []).length < _
    rw [List.append_nil, List.length_map]; lia
  rw [renL_strs] at r1
  have eC : fc.env.cells.lookup (stn nWords) = some (ρ1 1) := r1.cell (x := nWords) (l := 1) rfl
  have r1 : Rel w.params fiW fc (fun j => ρ1 ([0, 1, 2, 3, 4, 5, 8].getD j 0)) (rsSt A B C D E ws.l (ws.l.map .str) tc rs) h1 := r1.cls fun y l hy => by
    have hmm := look_mem hy
    have hmm : (y, l) ∈ [(nWords, 1)] := hmm
    simp only [List.mem_cons, Prod.mk.injEq, List.not_mem_nil, or_false] at hmm
    obtain ⟨rfl, rfl⟩ := hmm
    exact ⟨Nat.le_of_ble_eq_true rfl, eC⟩
  obtain ⟨f2, _, r2⟩ := r1.again (a6 (fun j => ρ1 ([0, 1, 2, 3, 4, 5, 8].getD j 0)) A B C D E ws.l tc) (hclV rfl)
  rw [renL_strs] at r2
  have r3 := (r2.view (l := 0) (p := some (ws.l.map .str)) (xs := []) (p' := none) (xs' := ws.l.map .str) (by kernel_rfl) (fun vs h => by
    have h : All2 _ (ws.l.map AV.str ++ []) vs := h
    rw [List.append_nil] at h; exact h)).mus (fun _ _ h => h) [] [resA res]
  generalize (fun j => (fun j => ρ1 ([0, 1, 2, 3, 4, 5, 8].getD j 0)) ([5, 1, 6].getD j 0)) = ρ2 at r3
  have r3 : Rel w.params fiW fc ρ2 (rwSt [(nRow, .ref 2)] (.list none (ws.l.map .str)) (.list none (rs.map .str)) [] [] [resA res]) h1 := Eq.mp (by kernel_rfl) r3
  have hfl : rs.flatten.length ≤ 7 := by
    have := flat_le (rs := rs) fun u hu => (hw.ok.len u (l2 u hu)).2
    lia
  have hmsgP : Ps (msgP rs) := by
    cases rs with
    | nil => trivial
    | cons a l => exact ⟨by lia, trivial⟩
  refine out_app (s := { s with heap := h1, toks := tk1 }) (ok3 hK) OW R (fun ρ' => a7 w.params ρ' ws.l res) (fun _ _ => appP_ok hmsgP ⟨hw.tw etw, trivial⟩) (hclV rfl) r3 fun ρ4 h4 tk4 f4 X4 _ r4 => ?_
  rw [renL_strs] at r4
  have r5 := r4.remu (mu' := mu3 (.ref 2) rs.flatten res []) (fun y c hy => by
    have hmm := look_mem hy
    simp only [mu3, List.append_nil, List.mem_cons, Prod.mk.injEq, List.not_mem_nil, or_false] at hmm
    rcases hmm with ⟨rfl, rfl⟩ | ⟨rfl, rfl⟩ | ⟨rfl, rfl⟩
    · exact ⟨_, by kernel_rfl, fun u h => h⟩
    · exact ⟨msgA rs, by kernel_rfl, fun u h => msgA_rep rs h⟩
    · exact ⟨resA res, by kernel_rfl, fun u h => h⟩) [] []
  have r5 : Rel w.params fiW fc (fun j => ρ4 ([0, 1, 2].getD j 0)) (r0St rs.flatten res ws.l rs []) h4 := r5
  have hcp : 1 ≤ cnt ws.l rs.flatten := cnt_pos hw.ok.ne l2
  obtain ⟨n, t, ps, erun, ht, p1, p2⟩ := run_f hw.ok hfl (by lia)
  have hpl : ps.length ≤ 1000 := by
    have := flat_len (p := ps) fun u hu => (hw.ok.len u (p1 u hu)).1
    rw [p2] at this; lia
  refine lawMet (s := { s with heap := h4, toks := tk4 }) (S2 hK 200) (ok2 hK) (by lia) hw.ne erun ht (by rw [List.length_reverse]; exact hpl) OW R9 r5 fun ρ6 h6 tk6 rest6 rows r6 hN => ?_
  rw [List.reverse_reverse] at hN
  exact lawTail (fc := { fc with rest := rest6 }) (s := { s with heap := h6, toks := tk6 }) hK hw hfl p1 p2 l2 rfl (hres rs hrs l2) (OW.rst _) R r6 hN fun ρ7 h7 tk7 st7 fi7 r7 => H ρ7 h7 tk7 rest6 st7 fi7 r7
theorem q_lwF : ∃ pos, lwF = .For (forT lwF) (forI lwF) (forB lwF) [] pos := ⟨_, rfl⟩
theorem e_lwF : lwF = .For (forT lwF) (forI lwF) (forB lwF) [] (Classical.choose q_lwF) := Classical.choose_spec q_lwF
theorem lawWalk (hK : Sound2 K) {ns : List Int} (hns : ns.length ≤ 63) {a : Nat} {fc : FC} {ρ : Nat → Addr} {s : Shared} {Q : Flow → Shared → Prop}
    (O : FrOk K p loose mean mg mb (fiLW clW (some (a, ns.map .int))) fc) (R : Room2 440 60 fc.A) (r : Rel w.params (fiLW clW (some (a, ns.map .int))) fc ρ (stL0 a) s.heap)
    (H : ∀ ρ' h' tk rest' st' fi', Rel w.params fi' { fc with rest := rest' } ρ' st' h' → Q (.ret (.bool true)) { s with heap := h', toks := tk }) :
    wpAny (model prog w) fc.A (execs lwB fc.env) Q NoE s := by
  have R2 : Room2 900 200 fc.A := ⟨by have := R.1; lia, by have := R.2; lia⟩
  obtain ⟨⟨vs, A, B, C, D, E, Ph⟩, hev, hPh, hvs⟩ := sec1 w.params a ns
  dsimp only at hev hPh hvs
  have O0 : FrOk K p loose mean mg mb fiL0 fc := O.refi (fi' := fiL0) rfl rfl rfl
  rw [lw_split]
  refine out_app (ok2 hK) O R2 hev (fun _ _ => hPh hns) (fun x l h => hclW (ks := ks1) rfl rfl rfl rfl x l h) r fun ρ1 h1 tk1 f1 X1 _ r1 => ?_
  have r2 := (r1.recl (fi' := fiL0) rfl).view (l := 4) (p := none) (xs := vs) (p' := none) (xs' := [A, B, C, D, E].map .int) (by kernel_rfl) (fun us hv => All2.map2 (a := vs) (as_all hvs) hv)
  have r2 : Rel w.params fiL0 fc (fun j => ρ1 (ks1.getD j 0)) (lwSt A B C D E (.list none []) none [] [] []) h1 := Eq.mp (by kernel_rfl) r2
  have ep : plainIt (forI lwF) = true := by kernel_rfl
  have hA1 := Int.fmod_nonneg_of_pos A (by decide : (0 : Int) < 3)
  have hA2 := Int.fmod_lt_of_pos A (by decide : (0 : Int) < 3)
  refine wpAny_execs_cons ?_
  rw [e_lwF]
  refine for_out (k' := 7) (s := { s with heap := h1, toks := tk1 }) (S2 hK 200) O0 R2 ep (hev := fun ρ' => lw_for w.params ρ' A B C D E) rfl (fun _ _ => ⟨⟨by lia, by lia⟩, trivial⟩) (hclW rfl rfl rfl rfl) r2 fun ρ2 h2 tk2 f2 X2 _ r3 => ?_
  rw [toldL_eq, renL_ints] at r3
  have r4 := (r3.view (l := 5) (p := none) (xs := []) (p' := some []) (xs' := []) (by kernel_rfl) (fun vs h => h)).view (l := 6) (p := none) (xs := (toldZ A B C D E).map .int) (p' := some ((toldZ A B C D E).map .int)) (xs' := []) (by kernel_rfl) (fun vs h => by
    show All2 _ ((toldZ A B C D E).map AV.int ++ []) vs
    rw [List.append_nil]; exact h)
  have r4 : Rel w.params fiL0 fc (fun j => ρ2 (ks8.getD j 0)) (lwSt A B C D E (.list (some (([] : List Nm).map .str)) []) none [.list (some ((toldZ A B C D E).map .int)) [], .liter 6 0] [] []) h2 := Eq.mp (by kernel_rfl) r4
  obtain ⟨t1, t2⟩ := toldZ_len A B C D E
  obtain ⟨w1, w2, w3, w4⟩ := wordsZ_ok (toldZ A B C D E) (ts := []) List.nodup_nil (fun a ha => nomatch ha)
  rw [List.length_nil, Nat.zero_add] at w3 w4
  obtain ⟨ws, ews⟩ := ws_of (w4 t1) (by lia)
  refine lwLoop (S2 hK 200) O0 R2 (toldZ A B C D E) (i := 0) (ts := []) (ρ := fun j => ρ2 (ks8.getD j 0)) (s := { s with heap := h2, toks := tk2 }) rfl (by rw [List.length_nil]; lia) r4 fun ρ5 h5 tk5 tc r5 => ?_
  rw [← ews] at r5 w1 w2
  exact lawRow (s := { s with heap := h5, toks := tk5 }) hK w1 w2 O0 R r5 H
end
end Mine
namespace Mine
open PySem PySem.W PyProof.Rows PySem.Calls PySem.Spec
theorem ints_rep {vs : List Value} {ns : List Int} (h : IntsAre vs ns) (ρ : Nat → Addr) (n : Nat) : All2 (RepV ρ n) (ns.map .int) vs := by
  induction h with
  | nil => trivial
  | cons i t r ih => exact ⟨⟨t, rfl⟩, ih⟩
section
variable {prog : Program} {w : World} {K : Frag} {p : Program} {loose : List Str} {mean : ExcName → Option Value} {mg mb : Str → Option Value}
theorem lawTop (hS : Sound2 K) {h₀ : Heap} {env : Env} {m : Str → Option Value} {body : List Stmt} {s : Shared} {a : Addr} {vs : List Value} {ns : List Int} {o0 o1 o2 o3 : Obj} {Q : Flow → Shared → Prop} {E : Value → Shared → Prop}
    (KX : K.In h₀) (T : Top p loose mean mg mb h₀) (K0 : Below callerA h₀ [] h₀) (F : Fr h₀ env.locals s.heap m) (N : News h₀ env.locals s.heap [(env.locals + 1 + 1 + 1 + 1, o3), (env.locals + 1 + 1 + 1, o2), (env.locals + 1 + 1, o1), (env.locals + 1, o0)])
    (e3 : o3.data = .cell none) (e2 : o2.data = .cell none) (e1 : o1.data = .cell none) (e0 : o0.data = .cell none) (hL : h₀.IsList a vs.toArray) (hI : IntsAre vs ns) (hm : m (stn nScript) = some (.ref a)) (hns : ns.length ≤ 63)
    (hb : body = lwB) (hsc : env.scope = (fnx 626).sc) (hcell : env.cells = [(stn nMany, env.locals + 1 + 1 + 1 + 1), (stn nTold, env.locals + 1 + 1 + 1), (stn nWords, env.locals + 1 + 1), (stn nCells, env.locals + 1)]) (hk : env.scope.kind = .function) (hg : env.globals = mainGlobals) (hbl : env.builtins = builtinsNs) (hf : env.frame = some env.locals)
    (H : ∀ h' tk, (∀ b o, h₀.get? b = some o → h'.get? b = some o) → Q (.ret (.bool true)) { s with heap := h', toks := tk }) :
    wpAny (model prog w) (callerA.deeper env) (execs body env) Q E s := by
  subst hb
  let fc : FC := { A := callerA.deeper env, A₀ := callerA, base := h₀, outer := [], h₀ := h₀, env := env, rest := [] }
  let ρ : Nat → Addr := fun i => env.locals + 1 + i
  have O : FrOk K p loose mean mg mb (fiLW clW (some (a, ns.map .int))) fc :=
    ⟨KX, T, rfl, hk, hsc, hg, hbl, fun _ => ⟨K0, Around.frames_deeper K0.stack, hf⟩, fun b xs h => by cases h; exact ⟨vs, hL, ints_rep hI⟩⟩
  have B : Room2 440 60 fc.A := ⟨Nat.le_of_ble_eq_true rfl, Nat.le_of_ble_eq_true rfl⟩
  have gt : ∀ i, (stL0 a).sg.get i = if i < 4 then .cell none else .dead := fun i => by
    show (Tr.ofL 0 .nil (List.replicate 4 (AO.cell none))).get i = _
    rw [Tr.get_ofL, if_neg (Nat.not_lt_zero _), Nat.sub_zero, List.getElem?_replicate]
    split <;> rfl
  have lv : ∀ i, (stL0 a).sg.get i ≠ .dead → i < 4 := fun i hi => Classical.byContradiction fun q => hi (by rw [gt, if_neg q])
  have four : ∀ i o, ([o0, o1, o2, o3] : List Obj)[i]? = some o → (env.locals + 1 + i, o) ∈ [(env.locals + 1 + 1 + 1 + 1, o3), (env.locals + 1 + 1 + 1, o2), (env.locals + 1 + 1, o1), (env.locals + 1, o0)] ∧ o.data = .cell none ∧ i < 4 := fun i o ho => by
    induction i using Nat.casesOn with
    | zero => obtain rfl := Option.some.inj ho; exact ⟨.tail _ (.tail _ (.tail _ (.head _))), e0, by decide⟩
    | succ i => induction i using Nat.casesOn with
      | zero => obtain rfl := Option.some.inj ho; exact ⟨.tail _ (.tail _ (.head _)), e1, by decide⟩
      | succ i => induction i using Nat.casesOn with
        | zero => obtain rfl := Option.some.inj ho; exact ⟨.tail _ (.head _), e2, by decide⟩
        | succ i => induction i using Nat.casesOn with
          | zero => obtain rfl := Option.some.inj ho; exact ⟨.head _, e3, by decide⟩
          | succ i => exact nn ho
  have r : Rel w.params (fiLW clW (some (a, ns.map .int))) fc ρ (stL0 a) s.heap := by
    refine ⟨m, [o0, o1, o2, o3], F, ?_, ?_, rfl, ?_, ?_, ?_, ?_, ?_, ?_, fun _ _ h => h.elim⟩
    · intro q hq
      rcases List.mem_append.mp hq with hq | hq
      · obtain ⟨i, o, ho, hd, rfl⟩ := mem_ledF.mp hq
        rw [Nat.zero_add]
        exact N _ (four i o ho).1
      · first | exact nn hq | cases hq
    · intro x b hx
      have hmm := look_mem hx
      have hmm : (x, b) ∈ [(nScript, AV.con (.ref a))] := hmm
      simp only [List.mem_cons, Prod.mk.injEq, List.not_mem_nil, or_false] at hmm
      obtain ⟨rfl, rfl⟩ := hmm
      exact ⟨_, hm, rfl, rfl⟩
    · intro i o ho
      rw [gt, if_pos (four i o ho).2.2]
      exact (four i o ho).2.1
    · intro i hi
      rw [gt, if_neg (show ¬ i < 4 from Nat.not_lt_of_le hi)]
    · intro i j hi hj q
      exact Nat.add_left_cancel q
    · intro i hi q hq; cases hq
    · intro x l hx
      have hmm := look_mem hx
      have hmm : (x, l) ∈ clW := hmm
      simp only [clW, List.mem_cons, Prod.mk.injEq, List.not_mem_nil, or_false] at hmm
      show l < 4 ∧ env.cells.lookup (stn x) = some (env.locals + 1 + l)
      rw [hcell]
      rcases hmm with ⟨rfl, rfl⟩ | ⟨rfl, rfl⟩ | ⟨rfl, rfl⟩ | ⟨rfl, rfl⟩ <;> exact ⟨by decide, by kernel_rfl⟩
    · intro i es q
      rw [gt] at q
      split at q <;> cases q
  refine wpAny_mono (lawWalk hS hns O B r (Q := Q) fun ρ' h' tk rest' st' fi' rr => ?_) (fun _ _ h => h) (fun _ _ h => h.elim)
  obtain ⟨m', os', R⟩ := rr
  exact H h' tk fun b o e => R.F.keep b o e
end
end Mine
namespace Mine
open PySem PySem.W PyProof.Rows PySem.Calls PySem.Spec
noncomputable def fragH (h : Heap) : Frag := (List.range 600).filterMap fun a => (h.get? a).map fun o => (a, o)
noncomputable def q1 : Program := { pw with main := { pw.main with body := pw.main.body.drop 88 } }
noncomputable def loose1 : List Str := (pw.main.body.take 88).flatMap bindsAtTop
noncomputable def Xt1 (s : Shared) : Bool := recOk [] s
theorem said1 : PySem.Challenge.rw_xm0941_02.wellSaid = true := by
  rw [PySem.W.Fast.te9446332074065402090]
  kernel_rfl
theorem open1 (w : World) : (fencedOpening treeTable pw w 9000).map (fun s => (s.heap, s.gens, s.drawn, s.toks)) = some (boot_heap w.params, Array.mk [], boot_drawn, boot_toks) :=
  boot_open (by kernel_rfl) (by kernel_rfl) (fun s => by kernel_rfl) w
end Mine
namespace Mine
open PySem PySem.W PyProof.Rows PySem.Calls PySem.Spec
theorem end_thr : ∀ t : Thread, through t = (endAt 0 t).isSome
  | ⟨cur, code, pos, a :: b⟩ => rfl
  | ⟨cur, code, pos, []⟩ => by
    induction cur using Sem.casesOn with
    | pure x => induction x using PySem.Fin.casesOn with
      | done y => rfl
      | again y => rfl
    | _ => rfl
theorem run_top {tb : String → Option Builtin} {p : Program} {w : World} {n₀ : Nat} {ann : Option Value} : ∀ {n : Nat} {s s' : Shared} {t : Thread} {f : Flow} {c : Code} {q : Pos},
    segRun tb p w n₀ ann 0 n s t = some (f, s', c, q) → topRun tb p w n₀ ann n s t = some s'
  | 0, _, _, _, _, _, _, h => nn h
  | n + 1, s, s', t, f, c, q, h => by
    have e := end_thr t
    change (match endAt 0 t with
      | some f => some (f, s, t.code, t.pos)
      | none => match stepOk n₀ ann t with
        | false => none
        | true => match step (denote tb) p w s t with
          | .go s' t' => segRun tb p w n₀ ann 0 n s' t'
          | .halt _ _ => none) = some (f, s', c, q) at h
    change (match through t with
      | true => some s
      | false => match stepOk n₀ ann t with
        | false => none
        | true => match step (denote tb) p w s t with
          | .go s' t' => topRun tb p w n₀ ann n s' t'
          | .halt _ _ => none) = some s'
    generalize step (denote tb) p w s t = z at h ⊢
    generalize stepOk n₀ ann t = y at h ⊢
    generalize through t = x at e ⊢
    generalize endAt 0 t = o at h e
    subst e
    induction o using Option.casesOn with
    | some g => exact congrArg some (congrArg (fun r => r.2.1) (Option.some.inj h))
    | none => induction y using Bool.casesOn with
      | false => exact nn h
      | true => cases z with
        | halt o s₂ => exact nn h
        | go s₂ t₂ => exact run_top h
noncomputable def insL : Nat → BT → List Obj → BT
  | _, t, [] => t
  | k, t, o :: r => insL (k + 1) (t.ins k o) r
noncomputable def bootT (P : Params) : BT := insL 0 .nil (boot_heap P).objs.toList
theorem boot_abs (P : Params) : absHeap (bootT P) 11 (boot_heap P).life = boot_heap P := by kernel_rfl
theorem boot_size (P : Params) : ((boot_heap P).isNs mainGlobals, (boot_heap P).objs.size, (boot_heap P).nsMap mainGlobals "__annotations__") = (true, 11, some (.ref 6)) := by kernel_rfl
end Mine
namespace Mine
open PySem PySem.W PyProof.Rows PySem.Calls PySem.Spec
theorem run4 (w : World) (os : OsState) : (segRunT treeTable pw w 11 (some (.ref 6)) 0 9000 ⟨bootT w.params, 11, (boot_heap w.params).life, Array.mk [], boot_drawn, boot_toks, os⟩ (topStub pw)).map (fun r => ((staticsOk (importedModules pw.main.body) (boot_heap w.params) r.2.1.abs.heap && namesBound pw r.2.1.abs.heap && gensDone r.2.1.abs && laidKept (boot_heap w.params) r.2.1.abs.heap), openSeen q1 loose1 (importedModules pw.main.body) Xt1 true r.2.1.abs)) = some (true, openGood q1 loose1) := by
  rw [PySem.W.Fast.te10110043849684766642, PySem.W.Fast.te14364793385576792824, PySem.W.Fast.te4187177175401517315]
  kernel_rfl
end Mine
namespace Mine
open PySem PySem.W PyProof.Rows PySem.Calls PySem.Spec
noncomputable def fragT (s : SharedT) : Frag := ((List.range 12) ++ (List.range s.n).reverse).filterMap fun a => match Nat.blt a s.n with
  | true => ((s.tree.get a).bind alive).map fun o => (a, o)
  | false => none
theorem lookup_mem {a : Addr} {o : Obj} : ∀ {K : Frag}, K.lookup a = some o → (a, o) ∈ K
  | [], h => by cases h
  | (b, x) :: r, h => by
    by_cases e : a = b
    · subst e
      rw [List.lookup_cons_self] at h
      cases h
      exact .head _
    · have : (a == b) = false := beq_eq_false_iff_ne.mpr e
      rw [List.lookup_cons, this] at h
      exact .tail _ (lookup_mem h)
theorem fragT_in (s : SharedT) : (fragT s).In s.abs.heap := fun a o h => by
  obtain ⟨b, _, h⟩ := List.mem_filterMap.mp (lookup_mem h)
  cases lt : Nat.blt b s.n with
  | false => rw [lt] at h; cases h
  | true =>
    rw [lt] at h
    obtain ⟨x, hx, e⟩ := Option.map_eq_some_iff.mp h
    cases e
    obtain ⟨y, hy, q⟩ := Option.bind_eq_some_iff.mp hx
    exact (abs_get (Nat.le_of_ble_eq_true lt) hy).trans q
noncomputable def obsT (s : SharedT) : Bool × List FnI := (andB (chkK (fragT s)) (fnChkC (fragT s) 605), (605 :: fnL).map (fnK (fragT s)))
theorem run5 (w : World) (os : OsState) : (segRunT treeTable pw w 11 (some (.ref 6)) 0 9000 ⟨bootT w.params, 11, (boot_heap w.params).life, Array.mk [], boot_drawn, boot_toks, os⟩ (topStub pw)).map (fun r => obsT r.2.1) = some (true, (605 :: fnL).map fnx) := by
  rw [PySem.W.Fast.te10110043849684766642, PySem.W.Fast.te14364793385576792824]
  kernel_rfl
end Mine
namespace Mine
open PySem PySem.W PyProof.Rows PySem.Calls PySem.Spec
theorem left_of {p q : Program} {loose : List Str} {Xt : Shared → Bool} {N n m₀ : Nat} {ann : Option Value} {Bt : Params → BT} {life : Params → Life} {H₀ : Params → Heap} {gs₀ : Array GenState} {d₀ : Drawn} {k₀ : Nat} {Yf : Shared → Prop} {β : Type} {chk : SharedT → β} {good : β} (hg0 : gs₀ = Array.mk [])
    (open_ : ∀ w : World, (fencedOpening treeTable p w N).map (fun s => (s.heap, s.gens, s.drawn, s.toks)) = some (H₀ w.params, gs₀, d₀, k₀))
    (size : ∀ P, ((H₀ P).isNs mainGlobals, (H₀ P).objs.size, (H₀ P).nsMap mainGlobals "__annotations__") = (true, m₀, ann))
    (abs : ∀ P, absHeap (Bt P) n (life P) = H₀ P)
    (seen : ∀ (w : World) (os : OsState), (segRunT treeTable p w m₀ ann 0 N ⟨Bt w.params, n, life w.params, gs₀, d₀, k₀, os⟩ (topStub p)).map (fun r => ((staticsOk (importedModules p.main.body) (H₀ w.params) r.2.1.abs.heap && namesBound p r.2.1.abs.heap && gensDone r.2.1.abs && laidKept (H₀ w.params) r.2.1.abs.heap), openSeen q loose (importedModules p.main.body) Xt true r.2.1.abs)) = some (true, openGood q loose))
    (said : ∀ (w : World) (os : OsState), (segRunT treeTable p w m₀ ann 0 N ⟨Bt w.params, n, life w.params, gs₀, d₀, k₀, os⟩ (topStub p)).map (fun r => chk r.2.1) = some good)
    (hY : ∀ s : SharedT, chk s = good → Yf s.abs) : LeftO p q loose Xt Yf (fun _ => True) N := fun w => by
  obtain ⟨⟨h, gs, d, k, os⟩, e, e'⟩ := Option.map_eq_some_iff.mp (open_ w)
  obtain ⟨rfl, rfl, rfl, rfl⟩ : h = H₀ w.params ∧ gs = gs₀ ∧ d = d₀ ∧ k = k₀ := by simpa using e'
  obtain ⟨⟨f, s, c, q'⟩, er, e4⟩ := Option.map_eq_some_iff.mp (seen w os)
  obtain ⟨r2, er2, e5⟩ := Option.map_eq_some_iff.mp (said w os)
  rw [er] at er2
  cases er2
  obtain ⟨l1, l2⟩ := Prod.mk.inj e4
  have r := run_top (segRun_of er)
  obtain ⟨z1, z2, z3⟩ : _ ∧ _ ∧ _ := by simpa only [Prod.mk.injEq] using size w.params
  have r' : topRun treeTable p w m₀ ann N ⟨H₀ w.params, gs, d, k, os⟩ (topStub p) = some s.abs := by
    have a := abs w.params
    rw [← a]
    exact r
  have t : topFrom treeTable p w N ⟨H₀ w.params, gs, d, k, os⟩ = some s.abs := by
    unfold topFrom
    dsimp only
    rw [z1, z2, z3, r', hg0]
    show (match staticsOk (importedModules p.main.body) (H₀ w.params) s.abs.heap && namesBound p s.abs.heap && gensDone s.abs && laidKept (H₀ w.params) s.abs.heap with | true => some s.abs | false => none) = some s.abs
    have l1 : (staticsOk (importedModules p.main.body) (H₀ w.params) s.abs.heap && namesBound p s.abs.heap && gensDone s.abs && laidKept (H₀ w.params) s.abs.heap) = true := l1
    rw [l1]
  unfold openEnds
  rw [e]
  show (topFrom treeTable p w N _).map _ = _
  rw [t]
  exact congrArg some (Prod.ext l2 (eq_true (hY s e5)))
noncomputable def Yf1 (s : Shared) : Prop := ∃ K : Frag, K.In s.heap ∧ Sound2 K
theorem good1 {cl : Str → Option Addr} {mean : ExcName → Option Value} {args : List WData} {s₁ s' : Shared} (hk : ∀ b o, s₁.heap.get? b = some o → s'.heap.get? b = some o) (ho : s'.os = s₁.os) (hg : s'.gens = #[]) :
    GoodW PySem.Challenge.rw_xm0941_02.row.toRowW.claim cl mean args s₁ (.ok (.ret (.bool true))) s' :=
  ⟨.inl ⟨.bool true, .bool true, [], rfl, fun _ => rfl, .bool true, by kernel_rfl, fun _ => ⟨.nil, fun a h => nomatch h⟩⟩, hk, ho, hg⟩
end Mine
namespace Mine
open PySem PySem.W PyProof.Rows PySem.Calls PySem.Spec
theorem sound_of {K : Frag} (h1 : andB (chkK K) (fnChkC K 605) = true) (h2 : (605 :: fnL).map (fnK K) = (605 :: fnL).map fnx) : Sound2 K := by
  obtain ⟨a, b⟩ := andB_iff h1
  obtain ⟨c, d⟩ := List.cons.inj h2
  exact ⟨a, d, b, c⟩
theorem left1 : LeftO pw q1 loose1 Xt1 Yf1 (fun _ => True) 9000 :=
  left_of (p := pw) (q := q1) (loose := loose1) (Xt := Xt1) (N := 9000) (n := 11) (m₀ := 11) (ann := some (.ref 6)) (Bt := bootT) (life := fun P => (boot_heap P).life) (H₀ := boot_heap) (gs₀ := Array.mk []) (d₀ := boot_drawn) (k₀ := boot_toks) (Yf := Yf1) (chk := obsT) (good := (true, (605 :: fnL).map fnx))
    rfl open1 boot_size boot_abs run4 run5 (fun s e => ⟨fragT s, fragT_in s, sound_of (congrArg Prod.fst e) (congrArg Prod.snd e)⟩)
end Mine
namespace Mine
open PySem PySem.W PyProof.Rows PySem.Calls PySem.Spec
theorem hw1 : PySem.Challenge.rw_xm0941_02.row.toRowW.promised := by w_witness2
theorem fin1 : PySem.Challenge.rw_xm0941_02.Holds := by
  refine holds_law said1 fun said => ?_
  refine holds_open (q := q1) (loose := loose1) (Xt := Xt1) (XP := fun _ _ => True ∧ True) (Yf := Yf1) (Ya := fun _ => True) (YP := fun _ h => ∃ K : Frag, K.In h ∧ Sound2 K) (N := 9000) left1 (fun w s e => of_eq_true e) (fun w h h' ⟨K, KX, hS⟩ k => ⟨K, fun a o e => k _ _ (KX a o e), hS⟩) (fun _ _ => ⟨trivial, trivial⟩) (fun _ _ _ _ _ => ⟨trivial, trivial⟩) (by rfl) (by rfl) (by rfl) (fun s e => recFacts_of e) (by rfl) (by first | assumption | decide +kernel) (by decide +kernel) ⟨rfl, rfl, rfl, rfl, rfl, by decide +kernel⟩ ?hw ?hc
  case hw => exact hw1
  case hc =>
    intro w s₀ s₁ mg mb G Y fa o pm cd doc dV kV ho hd hcd hD hmg hg args vals as hpre hlay hrd hwl hlo
    obtain ⟨K, KX, hS⟩ := Y
    w_strict (
      k_behind G ho hd hcd hD hmg hpre hlay hrd hwl hlo cd
      refine lawTop hS (by assumption) (by assumption) (by assumption) (by assumption) (by assumption) ?_ ?_ ?_ ?_ (by assumption) (by assumption) ?_ ?_ ?_ ?_ ?_ ?_ ?_ ?_ ?_ ?_
      case refine_1 | refine_2 | refine_3 | refine_4 => (refine Eq.trans (by assumption) ?_; kernel_rfl)
      case refine_5 | refine_7 | refine_8 | refine_9 | refine_10 | refine_11 | refine_12 | refine_13 => kernel_rfl
      case refine_6 => exact Nat.le_of_not_lt fun q => absurd (Int.ofNat_lt.mpr q) (by assumption)
      case refine_14 => (intro h' tk hk; exact good1 hk rfl (by assumption)))
end Mine
theorem PySem.Challenge.cw_xm0941_02_holds : PySem.Challenge.rw_xm0941_02.Holds :=
  Mine.fin1
