import PyProof.Rows.All
import Wide.All
import OpenK.AllK
import Wide.FinOn
import KE.KTryMore
import PySem.Challenge.RW_xw0017_01
set_option Elab.async false
set_option linter.all false
noncomputable section
open PySem PySem.W PyProof.Rows PySem.Calls
namespace Mine
noncomputable def codL : List Nat → Nat
  | [] => 0
  | c :: r => 2 ^ c * (2 * codL r + 1)
noncomputable def cod (s : Str) : Nat := codL s.cps.toList
noncomputable def seq (a b : Str) : Bool := Nat.beq (cod a) (cod b)
theorem pow_odd_inj : ∀ {a b x y : Nat}, 2 ^ a * (2 * x + 1) = 2 ^ b * (2 * y + 1) → a = b ∧ x = y
  | 0, 0, x, y, e => ⟨rfl, by omega⟩
  | 0, b + 1, x, y, e => by rw [Nat.pow_succ, Nat.mul_comm (2 ^ b) 2, Nat.mul_assoc] at e; omega
  | a + 1, 0, x, y, e => by rw [Nat.pow_succ, Nat.mul_comm (2 ^ a) 2, Nat.mul_assoc] at e; omega
  | a + 1, b + 1, x, y, e => by
    rw [Nat.pow_succ, Nat.mul_comm (2 ^ a) 2, Nat.mul_assoc, Nat.pow_succ, Nat.mul_comm (2 ^ b) 2, Nat.mul_assoc] at e
    obtain ⟨h1, h2⟩ := pow_odd_inj (Nat.eq_of_mul_eq_mul_left (by decide) e)
    exact ⟨by rw [h1], h2⟩
theorem codL_inj : ∀ {l m : List Nat}, codL l = codL m → l = m
  | [], [], _ => rfl
  | [], c :: r, e => by
    have : 0 < 2 ^ c * (2 * codL r + 1) := Nat.mul_pos (Nat.pow_pos (by decide)) (by omega)
    simp only [codL] at e; omega
  | c :: r, [], e => by
    have : 0 < 2 ^ c * (2 * codL r + 1) := Nat.mul_pos (Nat.pow_pos (by decide)) (by omega)
    simp only [codL] at e; omega
  | c :: r, d :: t, e => by
    obtain ⟨h1, h2⟩ := pow_odd_inj e
    rw [h1, codL_inj h2]
theorem seq_true {a b : Str} (h : seq a b = true) : a = b := by
  have := codL_inj (Nat.eq_of_beq_eq_true h)
  obtain ⟨⟨l⟩⟩ := a
  obtain ⟨⟨m⟩⟩ := b
  simp only at this
  rw [this]
theorem seq_self (a : Str) : seq a a = true := Nat.beq_refl _
theorem seq_false {a b : Str} (h : seq a b = false) : a ≠ b := fun e => by rw [e, seq_self] at h; cases h
theorem seq_iff (a b : Str) : seq a b = decide (a = b) := by
  by_cases h : a = b
  · subst h; rw [seq_self]; simp
  · rw [decide_eq_false h]
    cases q : seq a b with
    | false => rfl
    | true => exact (h (seq_true q)).elim
inductive AV where
  | nn | bb (b : Bool) | ii (i : Int) | sy (k : Nat) | an | ss (s : Str) | ow (k : Nat) | cv (v : Value) | tp | ai
inductive AO where
  | nsp (es : List (Str × AV))
  | idc (es : List (Str × AV))
  | dic (es : List (Str × AV))
  | dip (es : List (Str × AV))
  | ins (C d : Nat)
  | lst (xs : List AV)
  | itl (l : Option Nat)
  | tup (xs : List AV)
  | exc (C : Nat) (d : Option Nat) (f : Bool)
  | rit (i n : Int)
  | lit (k : Nat) (i : Nat)
inductive Tr where
  | nil
  | node (o : Option AO) (l r : Tr)
noncomputable def tg (t : Tr) : Nat → Option AO :=
  Tr.rec (motive := fun _ => Nat → Option AO) (fun _ => none)
    (fun o _ _ gl gr k => Bool.rec (Bool.rec (gr (Nat.div (Nat.sub k (nat_lit 1)) (nat_lit 2))) (gl (Nat.div (Nat.sub k (nat_lit 1)) (nat_lit 2))) (Nat.beq (Nat.mod (Nat.sub k (nat_lit 1)) (nat_lit 2)) (nat_lit 0))) o (Nat.beq k (nat_lit 0))) t
noncomputable def mkP (f : Nat) : Nat → Option AO → Tr :=
  Nat.rec (motive := fun _ => Nat → Option AO → Tr) (fun _ _ => .nil)
    (fun _ ih k x => Bool.rec (Bool.rec (.node none .nil (ih (Nat.div (Nat.sub k (nat_lit 1)) (nat_lit 2)) x)) (.node none (ih (Nat.div (Nat.sub k (nat_lit 1)) (nat_lit 2)) x) .nil) (Nat.beq (Nat.mod (Nat.sub k (nat_lit 1)) (nat_lit 2)) (nat_lit 0))) (.node x .nil .nil) (Nat.beq k (nat_lit 0))) f
noncomputable def ts (t : Tr) (k : Nat) (x : Option AO) : Tr :=
  Tr.rec (motive := fun _ => Nat → Tr) (fun k => mkP 14 k x)
    (fun o l r sl sr k => Bool.rec (Bool.rec (.node o l (sr (Nat.div (Nat.sub k (nat_lit 1)) (nat_lit 2)))) (.node o (sl (Nat.div (Nat.sub k (nat_lit 1)) (nat_lit 2))) r) (Nat.beq (Nat.mod (Nat.sub k (nat_lit 1)) (nat_lit 2)) (nat_lit 0))) (.node x l r) (Nat.beq k (nat_lit 0))) t k
theorem tg_node (o : Option AO) (l r : Tr) (k : Nat) : tg (.node o l r) k = (Bool.rec (motive := fun _ => Option AO) (Bool.rec (motive := fun _ => Option AO) (tg r (Nat.div (Nat.sub k (nat_lit 1)) (nat_lit 2))) (tg l (Nat.div (Nat.sub k (nat_lit 1)) (nat_lit 2))) (Nat.beq (Nat.mod (Nat.sub k (nat_lit 1)) (nat_lit 2)) (nat_lit 0))) o (Nat.beq k (nat_lit 0)) : Option AO) := rfl
theorem mkP_succ (f k : Nat) (x : Option AO) : mkP (f + 1) k x = (Bool.rec (motive := fun _ => Tr) (Bool.rec (motive := fun _ => Tr) (.node none .nil (mkP f (Nat.div (Nat.sub k (nat_lit 1)) (nat_lit 2)) x)) (.node none (mkP f (Nat.div (Nat.sub k (nat_lit 1)) (nat_lit 2)) x) .nil) (Nat.beq (Nat.mod (Nat.sub k (nat_lit 1)) (nat_lit 2)) (nat_lit 0))) (.node x .nil .nil) (Nat.beq k (nat_lit 0)) : Tr) := rfl
theorem ts_node (o : Option AO) (l r : Tr) (k : Nat) (x : Option AO) : ts (.node o l r) k x = (Bool.rec (motive := fun _ => Tr) (Bool.rec (motive := fun _ => Tr) (.node o l (ts r (Nat.div (Nat.sub k (nat_lit 1)) (nat_lit 2)) x)) (.node o (ts l (Nat.div (Nat.sub k (nat_lit 1)) (nat_lit 2)) x) r) (Nat.beq (Nat.mod (Nat.sub k (nat_lit 1)) (nat_lit 2)) (nat_lit 0))) (.node x l r) (Nat.beq k (nat_lit 0)) : Tr) := rfl
theorem tg_nil (k : Nat) : tg .nil k = none := rfl
theorem tg_zero (o : Option AO) (l r : Tr) : tg (.node o l r) 0 = o := rfl
theorem tg_l (o : Option AO) (l r : Tr) (j : Nat) : tg (.node o l r) (2 * j + 1) = tg l j := by
  have h1 : Nat.beq (2 * j + 1) (nat_lit 0) = false := rfl
  have h2 : Nat.sub (2 * j + 1) (nat_lit 1) = 2 * j := rfl
  have h3 : Nat.mod (2 * j) (nat_lit 2) = 0 := Nat.mul_mod_right 2 j
  have h4 : Nat.div (2 * j) (nat_lit 2) = j := Nat.mul_div_cancel_left j (by decide)
  rw [tg_node]; dsimp only; rw [h1, h2, h3, h4]; rfl
theorem tg_r (o : Option AO) (l r : Tr) (j : Nat) : tg (.node o l r) (2 * j + 2) = tg r j := by
  have h1 : Nat.beq (2 * j + 2) (nat_lit 0) = false := rfl
  have h2 : Nat.sub (2 * j + 2) (nat_lit 1) = 2 * j + 1 := rfl
  have h3 : Nat.mod (2 * j + 1) (nat_lit 2) = 1 := by show (2 * j + 1) % 2 = 1; omega
  have h4 : Nat.div (2 * j + 1) (nat_lit 2) = j := by show (2 * j + 1) / 2 = j; omega
  rw [tg_node]; dsimp only; rw [h1, h2, h3, h4]; rfl
theorem three (k : Nat) : k = 0 ∨ (∃ j, k = 2 * j + 1) ∨ ∃ j, k = 2 * j + 2 := by
  rcases Nat.mod_two_eq_zero_or_one k with h | h
  · by_cases z : k = 0
    · exact .inl z
    · exact .inr (.inr ⟨k / 2 - 1, by omega⟩)
  · exact .inr (.inl ⟨k / 2, by omega⟩)
theorem mkP_zero (f : Nat) (x : Option AO) : mkP (f + 1) 0 x = .node x .nil .nil := rfl
theorem mkP_l (f j : Nat) (x : Option AO) : mkP (f + 1) (2 * j + 1) x = .node none (mkP f j x) .nil := by
  have h1 : Nat.beq (2 * j + 1) (nat_lit 0) = false := rfl
  have h2 : Nat.sub (2 * j + 1) (nat_lit 1) = 2 * j := rfl
  have h3 : Nat.mod (2 * j) (nat_lit 2) = 0 := Nat.mul_mod_right 2 j
  have h4 : Nat.div (2 * j) (nat_lit 2) = j := Nat.mul_div_cancel_left j (by decide)
  rw [mkP_succ]; dsimp only; rw [h1, h2, h3, h4]; rfl
theorem mkP_r (f j : Nat) (x : Option AO) : mkP (f + 1) (2 * j + 2) x = .node none .nil (mkP f j x) := by
  have h1 : Nat.beq (2 * j + 2) (nat_lit 0) = false := rfl
  have h2 : Nat.sub (2 * j + 2) (nat_lit 1) = 2 * j + 1 := rfl
  have h3 : Nat.mod (2 * j + 1) (nat_lit 2) = 1 := by show (2 * j + 1) % 2 = 1; omega
  have h4 : Nat.div (2 * j + 1) (nat_lit 2) = j := by show (2 * j + 1) / 2 = j; omega
  rw [mkP_succ]; dsimp only; rw [h1, h2, h3, h4]; rfl
theorem ts_zero (o : Option AO) (l r : Tr) (x : Option AO) : ts (.node o l r) 0 x = .node x l r := rfl
theorem ts_l (o : Option AO) (l r : Tr) (j : Nat) (x : Option AO) : ts (.node o l r) (2 * j + 1) x = .node o (ts l j x) r := by
  have h1 : Nat.beq (2 * j + 1) (nat_lit 0) = false := rfl
  have h2 : Nat.sub (2 * j + 1) (nat_lit 1) = 2 * j := rfl
  have h3 : Nat.mod (2 * j) (nat_lit 2) = 0 := Nat.mul_mod_right 2 j
  have h4 : Nat.div (2 * j) (nat_lit 2) = j := Nat.mul_div_cancel_left j (by decide)
  rw [ts_node]; dsimp only; rw [h1, h2, h3, h4]; rfl
theorem ts_r (o : Option AO) (l r : Tr) (j : Nat) (x : Option AO) : ts (.node o l r) (2 * j + 2) x = .node o l (ts r j x) := by
  have h1 : Nat.beq (2 * j + 2) (nat_lit 0) = false := rfl
  have h2 : Nat.sub (2 * j + 2) (nat_lit 1) = 2 * j + 1 := rfl
  have h3 : Nat.mod (2 * j + 1) (nat_lit 2) = 1 := by show (2 * j + 1) % 2 = 1; omega
  have h4 : Nat.div (2 * j + 1) (nat_lit 2) = j := by show (2 * j + 1) / 2 = j; omega
  rw [ts_node]; dsimp only; rw [h1, h2, h3, h4]; rfl
theorem tg_mkP : ∀ {f k j : Nat} {x : Option AO} {y : AO}, tg (mkP f k x) j = some y → j = k ∧ x = some y
  | 0, k, j, x, y, e => by cases e
  | f + 1, k, j, x, y, e => by
    rcases three k with rfl | ⟨k, rfl⟩ | ⟨k, rfl⟩
    · rw [mkP_zero] at e
      rcases three j with rfl | ⟨j, rfl⟩ | ⟨j, rfl⟩
      · exact ⟨rfl, e⟩
      · rw [tg_l, tg_nil] at e; cases e
      · rw [tg_r, tg_nil] at e; cases e
    · rw [mkP_l] at e
      rcases three j with rfl | ⟨j, rfl⟩ | ⟨j, rfl⟩
      · cases e
      · rw [tg_l] at e; obtain ⟨h1, h2⟩ := tg_mkP e; exact ⟨by omega, h2⟩
      · rw [tg_r, tg_nil] at e; cases e
    · rw [mkP_r] at e
      rcases three j with rfl | ⟨j, rfl⟩ | ⟨j, rfl⟩
      · cases e
      · rw [tg_l, tg_nil] at e; cases e
      · rw [tg_r] at e; obtain ⟨h1, h2⟩ := tg_mkP e; exact ⟨by omega, h2⟩
theorem tg_ts {t : Tr} : ∀ {k j : Nat} {x : Option AO} {y : AO}, tg (ts t k x) j = some y → (j = k ∧ x = some y) ∨ (j ≠ k ∧ tg t j = some y) := by
  induction t with
  | nil => intro k j x y e; exact .inl (tg_mkP (f := 14) (show tg (mkP 14 k x) j = some y from e))
  | node o l r il ir =>
    intro k j x y e
    rcases three k with rfl | ⟨k, rfl⟩ | ⟨k, rfl⟩
    · rw [ts_zero] at e
      rcases three j with rfl | ⟨j, rfl⟩ | ⟨j, rfl⟩
      · exact .inl ⟨rfl, e⟩
      · rw [tg_l] at e; exact .inr ⟨by omega, by rw [tg_l]; exact e⟩
      · rw [tg_r] at e; exact .inr ⟨by omega, by rw [tg_r]; exact e⟩
    · rw [ts_l] at e
      rcases three j with rfl | ⟨j, rfl⟩ | ⟨j, rfl⟩
      · exact .inr ⟨by omega, e⟩
      · rw [tg_l] at e ⊢
        rcases il e with ⟨h1, h2⟩ | ⟨h1, h2⟩
        · exact .inl ⟨by omega, h2⟩
        · exact .inr ⟨by omega, h2⟩
      · rw [tg_r] at e ⊢; exact .inr ⟨by omega, e⟩
    · rw [ts_r] at e
      rcases three j with rfl | ⟨j, rfl⟩ | ⟨j, rfl⟩
      · exact .inr ⟨by omega, e⟩
      · rw [tg_l] at e ⊢; exact .inr ⟨by omega, e⟩
      · rw [tg_r] at e ⊢
        rcases ir e with ⟨h1, h2⟩ | ⟨h1, h2⟩
        · exact .inl ⟨by omega, h2⟩
        · exact .inr ⟨by omega, h2⟩
structure St where
  n : Nat
  t : Tr
noncomputable def sget (σ : St) (k : Nat) : Option AO := tg σ.t k
noncomputable def sset (σ : St) (k : Nat) (o : AO) : St := ⟨σ.n, ts σ.t k (some o)⟩
noncomputable def sdel (σ : St) (k : Nat) : St := ⟨σ.n, ts σ.t k none⟩
noncomputable def spush (σ : St) (o : AO) : St := ⟨σ.n + 1, ts σ.t σ.n (some o)⟩
noncomputable def All2 {α β : Type} (R : α → β → Prop) : List α → List β → Prop
  | [], [] => True
  | a :: l, b :: m => R a b ∧ All2 R l m
  | _, _ => False
theorem All2.mono {α β : Type} {R R' : α → β → Prop} (h : ∀ a b, R a b → R' a b) : ∀ {l : List α} {m : List β}, All2 R l m → All2 R' l m
  | [], [], _ => trivial
  | a :: l, b :: m, x => ⟨h _ _ x.1, All2.mono h x.2⟩
theorem All2.len {α β : Type} {R : α → β → Prop} : ∀ {l : List α} {m : List β}, All2 R l m → l.length = m.length
  | [], [], _ => rfl
  | a :: l, b :: m, x => by simp [All2.len x.2]
  | [], _ :: _, x => x.elim
  | _ :: _, [], x => x.elim
theorem All2.get {α β : Type} {R : α → β → Prop} : ∀ {l : List α} {m : List β}, All2 R l m → ∀ {i : Nat} {a : α}, l[i]? = some a → ∃ b, m[i]? = some b ∧ R a b
  | a :: l, b :: m, x, 0, c, e => ⟨b, rfl, by cases e; exact x.1⟩
  | a :: l, b :: m, x, i + 1, c, e => by
    obtain ⟨b', h1, h2⟩ := All2.get x.2 (i := i) (a := c) (by simpa using e)
    exact ⟨b', by simpa using h1, h2⟩
  | [], [], _, _, _, e => by simp at e
  | [], _ :: _, x, _, _, _ => x.elim
  | _ :: _, [], x, _, _, _ => x.elim
theorem All2.append {α β : Type} {R : α → β → Prop} : ∀ {l : List α} {m : List β} {l' : List α} {m' : List β}, All2 R l m → All2 R l' m' → All2 R (l ++ l') (m ++ m')
  | [], [], _, _, _, y => y
  | a :: l, b :: m, _, _, x, y => ⟨x.1, All2.append x.2 y⟩
  | [], _ :: _, _, _, x, _ => x.elim
  | _ :: _, [], _, _, x, _ => x.elim
theorem All2.set {α β : Type} {R : α → β → Prop} : ∀ {l : List α} {m : List β} {i : Nat} {a : α} {b : β}, All2 R l m → R a b → All2 R (l.set i a) (m.set i b)
  | [], [], _, _, _, _, _ => by simp [All2]
  | a :: l, b :: m, 0, _, _, x, y => ⟨y, x.2⟩
  | a :: l, b :: m, i + 1, _, _, x, y => ⟨x.1, All2.set x.2 y⟩
  | [], _ :: _, _, _, _, x, _ => x.elim
  | _ :: _, [], _, _, _, x, _ => x.elim
theorem All2.drop {α β : Type} {R : α → β → Prop} : ∀ {l : List α} {m : List β} (n : Nat), All2 R l m → All2 R (l.drop n) (m.drop n)
  | l, m, 0, x => x
  | [], [], n + 1, _ => by simp [All2]
  | a :: l, b :: m, n + 1, x => All2.drop n x.2
  | [], _ :: _, _ + 1, x => x.elim
  | _ :: _, [], _ + 1, x => x.elim
theorem All2.take {α β : Type} {R : α → β → Prop} : ∀ {l : List α} {m : List β} (n : Nat), All2 R l m → All2 R (l.take n) (m.take n)
  | l, m, 0, x => by simp [All2]
  | [], [], n + 1, _ => by simp [All2]
  | a :: l, b :: m, n + 1, x => ⟨x.1, All2.take n x.2⟩
  | [], _ :: _, _ + 1, x => x.elim
  | _ :: _, [], _ + 1, x => x.elim
noncomputable def Le (ρ ρ' : List Addr) : Prop := ∃ l, ρ' = ρ ++ l
theorem Le.refl (ρ : List Addr) : Le ρ ρ := ⟨[], by simp⟩
theorem Le.trans {a b c : List Addr} (x : Le a b) (y : Le b c) : Le a c := by
  obtain ⟨l, rfl⟩ := x
  obtain ⟨m, rfl⟩ := y
  exact ⟨l ++ m, by simp⟩
theorem Le.get {a b : List Addr} (x : Le a b) {k : Nat} {v : Addr} (e : a[k]? = some v) : b[k]? = some v := by
  obtain ⟨l, rfl⟩ := x
  obtain ⟨hl, he⟩ := List.getElem?_eq_some_iff.mp e
  rw [List.getElem?_append_left hl]; exact e
noncomputable def look : List (Str × AV) → Str → Option AV
  | [], _ => none
  | p :: r, x => match seq p.1 x with | true => some p.2 | false => look r x
noncomputable def put : List (Str × AV) → Str → AV → List (Str × AV)
  | [], x, v => [(x, v)]
  | p :: r, x, v => match seq p.1 x with | true => (p.1, v) :: r | false => p :: put r x v
theorem look_put : ∀ (l : List (Str × AV)) (x : Str) (v : AV) (y : Str), look (put l x v) y = if y = x then some v else look l y
  | [], x, v, y => by
    simp only [put, look, seq_iff]
    by_cases h : y = x
    · subst h; simp
    · have : ¬ x = y := fun e => h e.symm
      simp [h, this]
  | p :: r, x, v, y => by
    simp only [put]
    cases q : seq p.1 x with
    | true =>
      have q := seq_true q
      simp only [look, seq_iff]
      by_cases h : y = x
      · subst h; simp [q]
      · have : ¬ p.1 = y := fun e => h (e.symm.trans q)
        simp [h, this]
    | false =>
      have q := seq_false q
      simp only [look, look_put r x v y, seq_iff]
      by_cases h : y = x
      · subst h; simp [q]
      · simp [h]
section
variable (prog : Program) (w : World) (ι : Nat → Int)
noncomputable def VR (ρ : List Addr) : AV → Value → Prop
  | .nn, v => v = .none
  | .bb b, v => v = .bool b
  | .ii i, v => ∃ t, v = .int i t
  | .sy k, v => ∃ t, v = .int (ι k) t
  | .an, v => ∃ i t, 0 ≤ i ∧ v = .int i t
  | .ss s, v => ∃ t, v = .str s t
  | .ow k, v => ∃ a, ρ[k]? = some a ∧ v = .ref a
  | .cv c, v => v = c
  | .tp, _ => True
  | .ai, v => ∃ i t, v = .int i t
theorem VR.le {ρ ρ' : List Addr} (h : Le ρ ρ') {a : AV} {v : Value} (x : VR ι ρ a v) : VR ι ρ' a v := by
  cases a with
  | ow k => obtain ⟨b, e, r⟩ := x; exact ⟨b, h.get e, r⟩
  | _ => exact x
noncomputable def NR (ρ : List Addr) (es : List (Str × AV)) (m : Str → Option Value) : Prop := ∀ x v, look es x = some v → ∃ u, m x = some u ∧ VR ι ρ v u
noncomputable def HR (ρ : List Addr) (h : Heap) (a : Addr) : AO → Prop
  | .nsp es => ∃ m, h.Ns a m ∧ NR ι ρ es m
  | .idc es => ∃ m, h.Ns1 a m ∧ NR ι ρ es m ∧ ∀ x, look es x = none → m x = none
  | .dic es => ∃ kvs, h.DictOf (strKind prog w) a kvs ∧ All2 (fun p q => p.1 = q.1 ∧ VR ι ρ p.2 q.2) es kvs
  | .dip es => ∃ kvs, h.DictOf (strKind prog w) a kvs ∧ ∀ x v, look es x = some v → ∃ u, valueAt kvs x = some u ∧ VR ι ρ v u
  | .ins C d => ∃ da, ρ[d]? = some da ∧ h.get? a = some (instObj C da)
  | .lst xs => ∃ vs n, h.get? a = some (listOf vs n) ∧ All2 (VR ι ρ) xs vs.toList
  | .itl l => ∃ vs ns, h.IsList a (List.toArray vs) ∧ IntsAre vs ns ∧ vs.length ≤ 1000000 ∧ ∀ L, l = some L → (vs.length : Int) = ι L
  | .tup xs => ∃ vs, IsTup h a vs ∧ All2 (VR ι ρ) xs vs.toList
  | .exc C d f => ∃ od vs, h.get? a = some ⟨.ref C, od, .fields vs, #[]⟩ ∧ (match d with | none => od = none | some k => ∃ da, ρ[k]? = some da ∧ od = some da) ∧ 6 ≤ vs.size ∧ (f = true → vs[1]? = some .none)
  | .rit i n => IsRangeIter h a i n 1
  | .lit k i => ∃ l, ρ[k]? = some l ∧ h.IsListIter a l i
theorem HR.le {ρ ρ' : List Addr} (L : Le ρ ρ') {h : Heap} {a : Addr} {o : AO} (x : HR prog w ι ρ h a o) : HR prog w ι ρ' h a o := by
  cases o with
  | nsp es => obtain ⟨m, h1, h2⟩ := x; exact ⟨m, h1, fun y v e => let ⟨u, q, r⟩ := h2 y v e; ⟨u, q, r.le ι L⟩⟩
  | idc es => obtain ⟨m, h1, h2, h3⟩ := x; exact ⟨m, h1, fun y v e => let ⟨u, q, r⟩ := h2 y v e; ⟨u, q, r.le ι L⟩, h3⟩
  | dic es => obtain ⟨kvs, h1, h2⟩ := x; exact ⟨kvs, h1, h2.mono fun _ _ y => ⟨y.1, y.2.le ι L⟩⟩
  | dip es => obtain ⟨kvs, h1, h2⟩ := x; exact ⟨kvs, h1, fun y v e => let ⟨u, q, r⟩ := h2 y v e; ⟨u, q, r.le ι L⟩⟩
  | ins C d => obtain ⟨da, e, r⟩ := x; exact ⟨da, L.get e, r⟩
  | lst xs => obtain ⟨vs, n, e, r⟩ := x; exact ⟨vs, n, e, r.mono fun _ _ y => y.le ι L⟩
  | itl l => exact x
  | tup xs => obtain ⟨vs, e, r⟩ := x; exact ⟨vs, e, r.mono fun _ _ y => y.le ι L⟩
  | exc C d f =>
    obtain ⟨od, vs, e, r, z⟩ := x
    refine ⟨od, vs, e, ?_, z⟩
    cases d with
    | none => exact r
    | some k => obtain ⟨da, e1, e2⟩ := r; exact ⟨da, L.get e1, e2⟩
  | rit i n => exact x
  | lit k i => obtain ⟨l, e, r⟩ := x; exact ⟨l, L.get e, r⟩
theorem HR.keeps {ρ : List Addr} {h h' : Heap} {a : Addr} {o : AO} (k : ∀ ob, h.get? a = some ob → h'.get? a = some ob) (x : HR prog w ι ρ h a o) : HR prog w ι ρ h' a o := by
  cases o with
  | nsp es => obtain ⟨m, ⟨o, es, ep, e, r⟩, h2⟩ := x; exact ⟨m, ⟨o, es, ep, k _ e, r⟩, h2⟩
  | idc es => obtain ⟨m, ⟨o, es, ep, e, r⟩, h2⟩ := x; exact ⟨m, ⟨o, es, ep, k _ e, r⟩, h2⟩
  | dic es => obtain ⟨kvs, ⟨o, es, ep, e, r⟩, h2⟩ := x; exact ⟨kvs, ⟨o, es, ep, k _ e, r⟩, h2⟩
  | dip es => obtain ⟨kvs, ⟨o, es, ep, e, r⟩, h2⟩ := x; exact ⟨kvs, ⟨o, es, ep, k _ e, r⟩, h2⟩
  | ins C d => obtain ⟨da, e, r⟩ := x; exact ⟨da, e, k _ r⟩
  | lst xs => obtain ⟨vs, n, e, r⟩ := x; exact ⟨vs, n, k _ e, r⟩
  | itl l => obtain ⟨vs, ns, ⟨o, e, r⟩, z⟩ := x; exact ⟨vs, ns, ⟨o, k _ e, r⟩, z⟩
  | tup xs => obtain ⟨vs, ⟨o, e, r⟩, z⟩ := x; exact ⟨vs, ⟨o, k _ e, r⟩, z⟩
  | exc C d f => obtain ⟨od, vs, e, r⟩ := x; exact ⟨od, vs, k _ e, r⟩
  | rit i n => exact k _ x
  | lit q i => obtain ⟨l, e, ⟨o, z, r⟩⟩ := x; exact ⟨l, e, ⟨o, k _ z, r⟩⟩
theorem HR.ex {ρ : List Addr} {h : Heap} {a : Addr} {o : AO} (x : HR prog w ι ρ h a o) : ∃ ob, h.get? a = some ob := by
  cases o with
  | nsp es => obtain ⟨m, ⟨o, es, ep, e, r⟩, h2⟩ := x; exact ⟨_, e⟩
  | idc es => obtain ⟨m, ⟨o, es, ep, e, r⟩, h2⟩ := x; exact ⟨_, e⟩
  | dic es => obtain ⟨kvs, ⟨o, es, ep, e, r⟩, h2⟩ := x; exact ⟨_, e⟩
  | dip es => obtain ⟨kvs, ⟨o, es, ep, e, r⟩, h2⟩ := x; exact ⟨_, e⟩
  | ins C d => obtain ⟨da, e, r⟩ := x; exact ⟨_, r⟩
  | lst xs => obtain ⟨vs, n, e, r⟩ := x; exact ⟨_, e⟩
  | itl l => obtain ⟨vs, ns, ⟨o, e, r⟩, z⟩ := x; exact ⟨_, e⟩
  | tup xs => obtain ⟨vs, ⟨o, e, r⟩, z⟩ := x; exact ⟨_, e⟩
  | exc C d f => obtain ⟨od, vs, e, r⟩ := x; exact ⟨_, e⟩
  | rit i n => exact ⟨_, x⟩
  | lit q i => obtain ⟨l, e, ⟨o, z, r⟩⟩ := x; exact ⟨_, z⟩
structure SR (h₀ : Heap) (os₀ : OsState) (ρ : List Addr) (σ : St) (s : Shared) : Prop where
  len : ρ.length = σ.n
  nd : ∀ (j k : Nat) (o o' : AO) (a : Addr), sget σ j = some o → sget σ k = some o' → ρ[j]? = some a → ρ[k]? = some a → j = k
  new : ∀ (k : Nat) (o : AO) (a : Addr), sget σ k = some o → ρ[k]? = some a → h₀.get? a = none
  obj : ∀ (k : Nat) (o : AO), sget σ k = some o → ∃ a, ρ[k]? = some a ∧ HR prog w ι ρ s.heap a o
  keep : ∀ b o, h₀.get? b = some o → s.heap.get? b = some o
  gens : s.gens = #[]
  os : s.os = os₀
end
section
variable {prog : Program} {w : World} {ι : Nat → Int} {h₀ : Heap} {os₀ : OsState} {ρ : List Addr} {σ : St} {s : Shared}
theorem SR.toks (R : SR prog w ι h₀ os₀ ρ σ s) (t : Nat) : SR prog w ι h₀ os₀ ρ σ { s with toks := t } := ⟨R.len, R.nd, R.new, R.obj, R.keep, R.gens, R.os⟩
theorem SR.ext {h' : Heap} {t : Nat} (R : SR prog w ι h₀ os₀ ρ σ s) (k : ∀ b o, s.heap.get? b = some o → h'.get? b = some o) :
    SR prog w ι h₀ os₀ ρ σ { s with heap := h', toks := t } :=
  ⟨R.len, R.nd, R.new, fun q o e => let ⟨a, h1, h2⟩ := R.obj q o e; ⟨a, h1, h2.keeps prog w ι fun ob e => k _ _ e⟩, fun b o e => k _ _ (R.keep b o e), R.gens, R.os⟩
theorem SR.new1 {h' : Heap} {t : Nat} {a : Addr} {o : AO} (R : SR prog w ι h₀ os₀ ρ σ s) (k : ∀ b o, s.heap.get? b = some o → h'.get? b = some o) (za : s.heap.get? a = none)
    (hr : HR prog w ι (ρ ++ [a]) h' a o) : SR prog w ι h₀ os₀ (ρ ++ [a]) (spush σ o) { s with heap := h', toks := t } := by
  have L : Le ρ (ρ ++ [a]) := ⟨_, rfl⟩
  have old : ∀ {j : Nat} {o' : AO} {b : Addr}, sget σ j = some o' → (ρ ++ [a])[j]? = some b → ρ[j]? = some b ∧ b ≠ a := by
    intro j o' b e eb
    obtain ⟨b', h3, h4⟩ := R.obj j o' e
    rw [L.get h3] at eb
    cases eb
    refine ⟨h3, fun q => ?_⟩
    subst q
    obtain ⟨ob, h5⟩ := h4.ex prog w ι
    rw [za] at h5; cases h5
  have atn : ∀ {b : Addr}, (ρ ++ [a])[σ.n]? = some b → b = a := fun e => by
    rw [← R.len] at e
    simp at e
    exact e.symm
  refine ⟨by simp [R.len, spush], ?_, ?_, ?_, fun b o' e => k _ _ (R.keep b o' e), R.gens, R.os⟩
  · intro i j o1 o2 b e1 e2 h1 h2
    rcases tg_ts e1 with ⟨q1, _⟩ | ⟨_, q1⟩ <;> rcases tg_ts e2 with ⟨q2, _⟩ | ⟨_, q2⟩
    · rw [q1, q2]
    · subst q1; exact ((old q2 h2).2 (atn h1)).elim
    · subst q2; exact ((old q1 h1).2 (atn h2)).elim
    · exact R.nd i j o1 o2 b q1 q2 (old q1 h1).1 (old q2 h2).1
  · intro i o1 b e1 h1
    rcases tg_ts e1 with ⟨q1, _⟩ | ⟨_, q1⟩
    · subst q1
      rw [atn h1]
      cases q : h₀.get? a with
      | none => rfl
      | some x => have := R.keep _ _ q; rw [za] at this; cases this
    · exact R.new i o1 b q1 (old q1 h1).1
  · intro q o' e
    show ∃ a', (ρ ++ [a])[q]? = some a' ∧ HR prog w ι _ h' a' o'
    rcases tg_ts e with ⟨h1, h2⟩ | ⟨_, h2⟩
    · cases h2
      subst h1
      exact ⟨a, by rw [← R.len]; simp, hr⟩
    · obtain ⟨a', h3, h4⟩ := R.obj q o' h2
      exact ⟨a', L.get h3, (h4.le prog w ι L).keeps prog w ι fun ob e => k _ _ e⟩
theorem SR.upd {h' : Heap} {t : Nat} {k : Nat} {a : Addr} {o o' : AO} (R : SR prog w ι h₀ os₀ ρ σ s) (eo : sget σ k = some o) (ea : ρ[k]? = some a) (hs : ∀ b o, b ≠ a → s.heap.get? b = some o → h'.get? b = some o) (hr : HR prog w ι ρ h' a o') :
    SR prog w ι h₀ os₀ ρ (sset σ k o') { s with heap := h', toks := t } := by
  refine ⟨R.len, ?_, ?_, ?_, ?_, R.gens, R.os⟩
  · intro i j o1 o2 b e1 e2 h1 h2
    rcases tg_ts e1 with ⟨q1, _⟩ | ⟨_, q1⟩ <;> rcases tg_ts e2 with ⟨q2, _⟩ | ⟨_, q2⟩
    · rw [q1, q2]
    · subst q1; exact R.nd _ j o o2 b eo q2 h1 h2
    · subst q2; exact R.nd i _ o1 o b q1 eo h1 h2
    · exact R.nd i j o1 o2 b q1 q2 h1 h2
  · intro i o1 b e1 h1
    rcases tg_ts e1 with ⟨q1, _⟩ | ⟨_, q1⟩
    · subst q1; exact R.new _ o b eo h1
    · exact R.new i o1 b q1 h1
  · intro j o1 e
    show ∃ b, ρ[j]? = some b ∧ HR prog w ι ρ h' b o1
    rcases tg_ts e with ⟨h1, h2⟩ | ⟨h1, h2⟩
    · cases h2; subst h1; exact ⟨a, ea, hr⟩
    · obtain ⟨b, h3, h4⟩ := R.obj j o1 h2
      exact ⟨b, h3, h4.keeps prog w ι fun ob e => hs b _ (fun q => h1 (by subst q; exact R.nd j k o1 o b h2 eo h3 ea)) e⟩
  · intro b o1 e
    refine hs b _ (fun q => ?_) (R.keep b o1 e)
    subst q
    rw [R.new k o b eo ea] at e
    cases e
theorem SR.del {h' : Heap} {t : Nat} {k : Nat} {a : Addr} {o : AO} (R : SR prog w ι h₀ os₀ ρ σ s) (eo : sget σ k = some o) (ea : ρ[k]? = some a) (hs : ∀ b o, b ≠ a → s.heap.get? b = some o → h'.get? b = some o) :
    SR prog w ι h₀ os₀ ρ (sdel σ k) { s with heap := h', toks := t } := by
  have old : ∀ {j : Nat} {o1 : AO}, sget (sdel σ k) j = some o1 → j ≠ k ∧ sget σ j = some o1 := fun e => by
    rcases tg_ts e with ⟨_, q⟩ | ⟨q1, q2⟩
    · cases q
    · exact ⟨q1, q2⟩
  refine ⟨R.len, fun i j o1 o2 b e1 e2 h1 h2 => R.nd i j o1 o2 b (old e1).2 (old e2).2 h1 h2, fun i o1 b e1 h1 => R.new i o1 b (old e1).2 h1, ?_, ?_, R.gens, R.os⟩
  · intro j o1 e
    obtain ⟨h1, h2⟩ := old e
    obtain ⟨b, h3, h4⟩ := R.obj j o1 h2
    exact ⟨b, h3, h4.keeps prog w ι fun ob e => hs b _ (fun q => h1 (by subst q; exact R.nd j k o1 o b h2 eo h3 ea)) e⟩
  · intro b o1 e
    refine hs b _ (fun q => ?_) (R.keep b o1 e)
    subst q
    rw [R.new k o b eo ea] at e
    cases e
theorem sb {a : Addr} {h h' : Heap} (x : Heap.SameBut a h h') : ∀ b o, b ≠ a → h.get? b = some o → h'.get? b = some o := fun b _ n e => (x.2 b n).trans e
theorem SR.ref (R : SR prog w ι h₀ os₀ ρ σ s) {k : Nat} {o : AO} {v : Value} (e : sget σ k = some o) (x : VR ι ρ (.ow k) v) : ∃ a, ρ[k]? = some a ∧ v = .ref a ∧ HR prog w ι ρ s.heap a o := by
  obtain ⟨a, h1, h2⟩ := R.obj k o e
  obtain ⟨b, h3, rfl⟩ := x
  rw [h1] at h3; cases h3
  exact ⟨a, h1, rfl, h2⟩
end
end Mine
end
noncomputable section
open PySem PySem.W PyProof.Rows PySem.Calls
namespace Mine
inductive Out (α : Type) where
  | ok (a : α) (σ : St)
  | ex (k : Nat) (σ : St)
  | no
noncomputable def app {α : Type} (x y : List α) : List α := List.rec (motive := fun _ => List α) y (fun a _ ih => a :: ih) x
theorem app_eq {α : Type} : ∀ (x y : List α), app x y = x ++ y
  | [], _ => rfl
  | a :: r, y => by show a :: app r y = a :: (r ++ y); rw [app_eq r y]
noncomputable def obind {α β : Type} (l : List (Out α)) (f : α → St → List (Out β)) : List (Out β) :=
  List.rec (motive := fun _ => List (Out β)) []
    (fun o r ih => Out.rec (motive := fun _ => List (Out β)) (fun a σ => List.rec (motive := fun _ => List (Out β)) (f a σ) (fun _ _ _ => app (f a σ) ih) r) (fun k σ => .ex k σ :: ih) [.no] o) l
theorem obind_okk {α β : Type} (a : α) (σ : St) (f : α → St → List (Out β)) : ∀ (r : List (Out α)), obind (.ok a σ :: r) f = f a σ ++ obind r f
  | [] => (List.append_nil _).symm
  | _ :: _ => app_eq _ _
noncomputable def noex {α : Type} : List (Out α) → List (Out α)
  | [] => []
  | .ok a σ :: r => .ok a σ :: noex r
  | _ :: _ => [.no]
theorem obind_ok {α β : Type} {f : α → St → List (Out β)} {P : Out β → Prop} : ∀ {l : List (Out α)}, (∀ o ∈ obind l f, P o) → P .no ∨ ((∀ a σ, .ok a σ ∈ l → ∀ o ∈ f a σ, P o) ∧ (∀ k σ, .ex k σ ∈ l → P (.ex k σ)) ∧ .no ∉ l)
  | [], _ => .inr ⟨fun _ _ h => (nomatch h), fun _ _ h => (nomatch h), fun h => (nomatch h)⟩
  | .ok a σ :: r, h => by
    rw [obind_okk] at h
    rcases obind_ok (l := r) fun o m => h o (List.mem_append_right _ m) with q | ⟨q1, q2, q3⟩
    · exact .inl q
    · refine .inr ⟨fun b τ m => ?_, fun k τ m => ?_, ?_⟩
      · cases m with
        | head => exact fun o m => h o (List.mem_append_left _ m)
        | tail _ m => exact q1 b τ m
      · cases m with
        | tail _ m => exact q2 k τ m
      · intro m; cases m with | tail _ m => exact q3 m
  | .ex k σ :: r, h => by
    rcases obind_ok (l := r) fun o m => h o (.tail _ m) with q | ⟨q1, q2, q3⟩
    · exact .inl q
    · refine .inr ⟨fun b τ m => ?_, fun k' τ m => ?_, ?_⟩
      · cases m with
        | tail _ m => exact q1 b τ m
      · cases m with
        | head => exact h _ (.head _)
        | tail _ m => exact q2 k' τ m
      · intro m; cases m with | tail _ m => exact q3 m
  | .no :: r, h => .inl (h _ (.head _))
theorem noex_ok {α : Type} {P : Out α → Prop} : ∀ {l : List (Out α)}, (∀ o ∈ noex l, P o) → P .no ∨ ((∀ a σ, .ok a σ ∈ l → P (.ok a σ)) ∧ ∀ o ∈ l, ∃ a σ, o = .ok a σ)
  | [], _ => .inr ⟨fun _ _ h => (nomatch h), fun _ h => (nomatch h)⟩
  | .ok a σ :: r, h => by
    rcases noex_ok (l := r) fun o m => h o (.tail _ m) with q | ⟨q1, q2⟩
    · exact .inl q
    · refine .inr ⟨fun b τ m => ?_, fun o m => ?_⟩
      · cases m with
        | head => exact h _ (.head _)
        | tail _ m => exact q1 b τ m
      · cases m with
        | head => exact ⟨a, σ, rfl⟩
        | tail _ m => exact q2 o m
  | .ex k σ :: r, h => .inl (h _ (.head _))
  | .no :: r, h => .inl (h _ (.head _))
noncomputable def Fly (h₀ : Heap) (ρ : List Addr) (σ : St) (a : Addr) (s : Shared) : Prop := ∃ ob vs, s.heap.get? a = some ob ∧ ob.data = .fields vs ∧
  (vs[1]? = some .none ∨ ∃ T oT ts, vs[1]? = some (.ref T) ∧ (∀ k o, sget σ k = some o → ρ[k]? ≠ some T) ∧ h₀.get? T = none ∧ s.heap.get? T = some oT ∧ oT.data = .fields ts ∧ ts[3]? = some .none)
section
variable {prog : Program} {w : World} {ι : Nat → Int} {h₀ : Heap} {os₀ : OsState}
noncomputable def Post (prog : Program) (w : World) (ι : Nat → Int) (h₀ : Heap) (os₀ : OsState) {α β : Type} (RA : List Addr → α → β → Prop) (ρ : List Addr) (Q : β → Shared → Prop) (E : Value → Shared → Prop) : Out α → Prop
  | .ok a σ => ∀ ρ' s' x, Le ρ ρ' → SR prog w ι h₀ os₀ ρ' σ s' → RA ρ' a x → Q x s'
  | .ex k σ => ∀ ρ' s' a, Le ρ ρ' → SR prog w ι h₀ os₀ ρ' σ s' → ρ'[k]? = some a → Fly h₀ ρ' σ a s' → E (.ref a) s'
  | .no => False
theorem Post.le {α β : Type} {RA : List Addr → α → β → Prop} {ρ ρ' : List Addr} {Q : β → Shared → Prop} {E : Value → Shared → Prop} (L : Le ρ ρ') {o : Out α} (h : Post prog w ι h₀ os₀ RA ρ Q E o) : Post prog w ι h₀ os₀ RA ρ' Q E o := by
  cases o with
  | ok a σ => exact fun ρ'' s' x l => h ρ'' s' x (L.trans l)
  | ex v σ => exact fun ρ'' s' x l => h ρ'' s' x (L.trans l)
  | no => exact h
noncomputable def Sp (prog : Program) (w : World) (ι : Nat → Int) (h₀ : Heap) (os₀ : OsState) (A : Around) {α β : Type} (t : Sem β) (RA : List Addr → α → β → Prop) (outs : List (Out α)) (ρ : List Addr) (s : Shared) : Prop :=
  ∀ (Q : β → Shared → Prop) (E : Value → Shared → Prop), (∀ o ∈ outs, Post prog w ι h₀ os₀ RA ρ Q E o) → wpAny (model prog w) A t Q E s
variable {A : Around} {ρ : List Addr} {σ : St} {s : Shared}
theorem Sp.seqQ {α β γ δ : Type} {t : Sem β} {RA : List Addr → α → β → Prop} {RB : List Addr → γ → δ → Prop} {outs : List (Out α)} {g : α → St → List (Out γ)} {Q : δ → Shared → Prop} {E : Value → Shared → Prop} {Q' : β → Shared → Prop}
    (h : Sp prog w ι h₀ os₀ A t RA outs ρ s) (H : ∀ o ∈ obind outs g, Post prog w ι h₀ os₀ RB ρ Q E o)
    (k : ∀ a σ', .ok a σ' ∈ outs → ∀ ρ' s' x, Le ρ ρ' → SR prog w ι h₀ os₀ ρ' σ' s' → RA ρ' a x → (∀ o ∈ g a σ', Post prog w ι h₀ os₀ RB ρ' Q E o) → Q' x s') :
    wpAny (model prog w) A t Q' E s := by
  rcases obind_ok H with q | ⟨q1, q2, q3⟩
  · exact q.elim
  · refine h _ _ fun o ho => ?_
    cases o with
    | ok a σ' => exact fun ρ' s' x L R ra => k a σ' ho ρ' s' x L R ra fun o m => (q1 a σ' ho o m).le L
    | ex v σ' => exact q2 v σ' ho
    | no => exact (q3 ho).elim
theorem Sp.bind {α β γ δ : Type} {t : Sem β} {f : β → Sem δ} {RA : List Addr → α → β → Prop} {RB : List Addr → γ → δ → Prop} {outs : List (Out α)} {g : α → St → List (Out γ)}
    (h : Sp prog w ι h₀ os₀ A t RA outs ρ s)
    (k : ∀ a σ', .ok a σ' ∈ outs → ∀ ρ' s' x, Le ρ ρ' → SR prog w ι h₀ os₀ ρ' σ' s' → RA ρ' a x → Sp prog w ι h₀ os₀ A (f x) RB (g a σ') ρ' s') :
    Sp prog w ι h₀ os₀ A (t >>= f) RB (obind outs g) ρ s :=
  fun Q E H => wpAny_bind (h.seqQ H fun a σ' ho ρ' s' x L R ra z => k a σ' ho ρ' s' x L R ra Q E z)
theorem Sp.pure {α β : Type} {x : β} {RA : List Addr → α → β → Prop} {a : α} (R : SR prog w ι h₀ os₀ ρ σ s) (ra : RA ρ a x) : Sp prog w ι h₀ os₀ A (pure x : Sem β) RA [.ok a σ] ρ s :=
  fun Q E H => wpAny_pure (H _ (.head _) ρ s x (Le.refl ρ) R ra)
theorem Sp.no {α β : Type} {t : Sem β} {RA : List Addr → α → β → Prop} : Sp prog w ι h₀ os₀ A t RA [.no] ρ s := fun Q E H => (H _ (.head _)).elim
theorem Sp.one {α β : Type} {t : Sem β} {RA : List Addr → α → β → Prop} {a : α} (h : ∀ Q E, (∀ ρ' s' x, Le ρ ρ' → SR prog w ι h₀ os₀ ρ' σ s' → RA ρ' a x → Q x s') → wpAny (model prog w) A t Q E s) :
    Sp prog w ι h₀ os₀ A t RA [.ok a σ] ρ s := fun Q E H => h Q E fun ρ' s' x L R ra => H _ (.head _) ρ' s' x L R ra
noncomputable def Sc (prog : Program) (w : World) (ι : Nat → Int) (h₀ : Heap) (os₀ : OsState) (A : Around) {α : Type} (f : Value) (vs : List Value) (RA : List Addr → α → Value → Prop) (outs : List (Out α)) (ρ : List Addr) (s : Shared) : Prop :=
  ∀ (Q : Value → Shared → Prop) (E : Value → Shared → Prop), (∀ o ∈ outs, Post prog w ι h₀ os₀ RA ρ Q E o) →
    codeAny (model prog w) A (.call f ⟨vs, []⟩) (fun r s' => match r with | .ok (.ret v) => Q v s' | .ok _ => False | .error e => E e s') s
theorem Sc.sp {α : Type} {f : Value} {vs : List Value} {RA : List Addr → α → Value → Prop} {outs : List (Out α)} (h : Sc prog w ι h₀ os₀ A f vs RA outs ρ s) : Sp prog w ι h₀ os₀ A (call f vs) RA outs ρ s :=
  fun Q E H => wpAny_call (h Q E H)
theorem Sc.no {α : Type} {f : Value} {vs : List Value} {RA : List Addr → α → Value → Prop} : Sc prog w ι h₀ os₀ A f vs RA [.no] ρ s := fun Q E H => (H _ (.head _)).elim
end
end Mine
end
noncomputable section
open PySem PySem.W PyProof.Rows PySem.Calls
namespace Mine
structure FnI where
  st : Stmt
  ds : List AV
structure ClI where
  init : Option Addr
  exc : Bool
structure Tab where
  fn : Addr → Option FnI
  cl : Addr → Option ClI
  gl : Str → Option Value
  tap : Option Addr
  tup : Addr → Option (List Str)
  attr : Addr → Str → Bool
  sa : Nat → Int → Option Nat
  sl : Nat → Nat → Option Bool
  si : Nat → Nat → Bool
  scr : Addr → Bool
  sb : Nat → Option (Int × Int)
  sm : Nat → Int → Option Int
structure Cx where
  sc : Scope
  fr : Nat
  fs : List Nat
  dp : Nat
  hd : Bool
inductive AFl where
  | nx | rt (v : AV) | bk | ct
structure IH where
  ev : Cx → Expr → St → List (Out AV)
  ex : Cx → List Stmt → St → List (Out AFl)
  ca : List Nat → Nat → Bool → AV → List AV → St → List (Out AV)
noncomputable def okk {α : Type} (a : α) (σ : St) : List (Out α) := [.ok a σ]
noncomputable def noo {α : Type} : List (Out α) := [.no]
noncomputable def aeq : AV → AV → Option Bool
  | .ii a, .ii b => some (decide (a = b))
  | .sy a, .sy b => match Nat.beq a b with | true => some true | false => none
  | .ss a, .ss b => some (seq a b)
  | .bb a, .bb b => some (a == b)
  | _, _ => none
noncomputable def ieq : AV → AV → Option Bool
  | .ii a, .ii b => some (decide (a = b))
  | .sy a, .sy b => match Nat.beq a b with | true => some true | false => none
  | _, _ => none
noncomputable def leq : List AV → List AV → Option Bool
  | [], [] => some true
  | a :: l, b :: m => match ieq a b with
    | some true => leq l m
    | _ => none
  | _, _ => none
noncomputable def tapO (m : Nat) (σ : St) : List (Out AV) := (List.range m).map fun (i : Nat) => Out.ok (.ii (Int.ofNat i)) σ
noncomputable def symO (o : Option Nat) (σ : St) : List (Out AV) := match o with
  | some j => okk (.sy j) σ
  | none => noo
noncomputable def binop (T : Tab) (op : Operator) (a b : AV) (σ : St) : List (Out AV) := match op, a, b with
  | .Add, .sy k, .ii n => symO (T.sa k n) σ
  | .Sub, .sy k, .ii n => symO (T.sa k (-n)) σ
  | .Mult, .ii x, .sy k => (match Nat.ble (Builtin.Int.intBits x) 64 with | true => okk .ai σ | false => noo)
  | .FloorDiv, .sy k, .ii y => (match decide (0 < y) && Nat.ble y.natAbs 1000 with | true => okk .ai σ | false => noo)
  | .Add, .ai, .ai => okk .ai σ
  | .Add, .ai, .ii _ => okk .ai σ
  | .Mod, .ai, .ii (.ofNat (m + 1)) => tapO (m + 1) σ
  | .Mod, .sy k, .ii y => (match decide (0 < y), T.sm k y with | true, some r => okk (.ii r) σ | _, _ => noo)
  | .Add, .ii x, .ii y => okk (.ii (x + y)) σ
  | .Sub, .ii x, .ii y => okk (.ii (x - y)) σ
  | .Mult, .ii x, .ii y => match Nat.ble (Builtin.Int.intBits x) 64 with | true => okk (.ii (x * y)) σ | false => noo
  | .Mod, .ii x, .ii y => match decide (0 < y) with | true => okk (.ii (Int.fmod x y)) σ | false => noo
  | .Add, .ss x, .ss y => match Nat.ble (x.length + y.length) 1000 with | true => okk (.ss (x ++ y)) σ | false => noo
  | .Add, .ow i, .ow j => match sget σ i, sget σ j with
    | some (.lst xs), some (.lst ys) => (match Nat.ble (xs.length + ys.length) 1000 with | true => okk (.ow σ.n) (spush σ (.lst (xs ++ ys))) | false => noo)
    | _, _ => noo
  | _, _, _ => noo
noncomputable def isNone : AV → Option Bool
  | .nn => some true
  | .ow _ | .ii _ | .ss _ | .bb _ | .sy _ => some false
  | _ => none
noncomputable def strsOf : List AV → Option (List Str)
  | [] => some []
  | .ss y :: r => (match strsOf r with | some l => some (y :: l) | none => none)
  | _ :: _ => none
noncomputable def anyN : List Str → Str → Bool
  | [], _ => false
  | y :: r, x => match seq y x with | true => true | false => anyN r x
noncomputable def notO : List (Out Bool) → List (Out Bool)
  | [.ok b σ] => [.ok (!b) σ]
  | _ => noo
noncomputable def cmpEq (a b : AV) (σ : St) : List (Out Bool) := match a, b with
  | .ow i, .ow j => match sget σ i, sget σ j with
    | some (.lst xs), some (.lst ys) => (match xs, ys with
      | _ :: _, [] => okk false σ
      | xs, ys => match leq xs ys with | some r => okk r σ | none => noo)
    | _, _ => noo
  | a, b => match aeq a b with | some r => okk r σ | none => noo
noncomputable def cmpIs (a b : AV) (σ : St) : List (Out Bool) := match b with
  | .nn => (match isNone a with | some r => okk r σ | none => noo)
  | _ => noo
noncomputable def cmpIn (T : Tab) (a b : AV) (σ : St) : List (Out Bool) := match b, a with
  | .ow j, .ss x => match sget σ j with
    | some (.tup xs) => (match strsOf xs with | some l => okk (anyN l x) σ | none => noo)
    | some (.dic es) => (match look es x with | some _ => okk true σ | none => noo)
    | some (.dip es) => (match look es x with | some _ => okk true σ | none => noo)
    | _ => noo
  | .cv (.ref q), .ss x => match T.tup q with
    | some l => okk (anyN l x) σ
    | _ => noo
  | _, _ => noo
noncomputable def iLe (T : Tab) (x : Int) (k : Nat) : Option Bool := match T.sb k with
  | some (lo, hi) => (match decide (x ≤ lo) with
    | true => some true
    | false => (match decide (hi < x) with | true => some false | false => none))
  | none => none
noncomputable def leI (T : Tab) (k : Nat) (y : Int) : Option Bool := match T.sb k with
  | some (lo, hi) => (match decide (hi ≤ y) with
    | true => some true
    | false => (match decide (y < lo) with | true => some false | false => none))
  | none => none
noncomputable def cmpB (T : Tab) (op : CmpOp) (a b : AV) (σ : St) : List (Out Bool) := match op with
  | .Eq => cmpEq a b σ
  | .NotEq => notO (cmpEq a b σ)
  | .Lt => match a, b with | .ii x, .ii y => okk (decide (x < y)) σ | _, _ => noo
  | .LtE => match a, b with
    | .ii x, .ii y => okk (decide (x ≤ y)) σ
    | .sy x, .sy y => (match T.sl x y with | some r => okk r σ | none => noo)
    | .ii x, .sy k => (match iLe T x k with | some r => okk r σ | none => noo)
    | .sy k, .ii y => (match leI T k y with | some r => okk r σ | none => noo)
    | _, _ => noo
  | .Gt => match a, b with | .ii x, .ii y => okk (decide (y < x)) σ | _, _ => noo
  | .GtE => match a, b with
    | .ii x, .ii y => okk (decide (y ≤ x)) σ
    | .sy k, .ii y => (match iLe T y k with | some r => okk r σ | none => noo)
    | .ii x, .sy k => (match leI T k x with | some r => okk r σ | none => noo)
    | _, _ => noo
  | .Is => cmpIs a b σ
  | .IsNot => notO (cmpIs a b σ)
  | .In => cmpIn T a b σ
  | .NotIn => notO (cmpIn T a b σ)
noncomputable def truth (v : AV) (σ : St) : List (Out Bool) := match v with
  | .bb b => okk b σ
  | .nn => okk false σ
  | _ => noo
noncomputable def idx (n : Nat) (i : Int) : Nat := match i with
  | .ofNat k => k
  | .negSucc k => n - (k + 1)
noncomputable def idxOk (n : Nat) (i : Int) : Bool := match i with
  | .ofNat k => Nat.blt k n && Nat.ble n 1000000
  | .negSucc k => Nat.blt k n && Nat.ble n 1000000
noncomputable def nthI (xs : List AV) (i : Int) (σ : St) : List (Out AV) := match idxOk xs.length i with
  | true => (match xs[idx xs.length i]? with | some v => okk v σ | none => noo)
  | false => noo
noncomputable def getItemA (T : Tab) (o i : AV) (σ : St) : List (Out AV) := match o, i with
  | .ow j, .ii k => match sget σ j with
    | some (.lst xs) => nthI xs k σ
    | some (.tup xs) => nthI xs k σ
    | _ => noo
  | .ow j, .ss x => match sget σ j with
    | some (.dic es) => (match look es x with | some v => okk v σ | none => noo)
    | some (.dip es) => (match look es x with | some v => okk v σ | none => noo)
    | _ => noo
  | .ow j, .sy k => match sget σ j with
    | some (.itl (some L)) => (match T.si k L with | true => okk .ai σ | false => noo)
    | _ => noo
  | _, _ => noo
noncomputable def sliceA (T : Tab) (o : AV) (lo hi : Option AV) (σ : St) : List (Out AV) := match o with
  | .cv (.ref q) => (match T.scr q with
    | true => (match lo, hi with
      | none, some (.ii (.ofNat b)) => okk (.ow σ.n) (spush σ (.itl none))
      | _, _ => noo)
    | false => noo)
  | .ow j => match sget σ j with
    | some (.lst xs) => match lo, hi with
      | some (.ii (.ofNat a)), none => (match Nat.ble a xs.length && Nat.ble xs.length 1000 with | true => okk (.ow σ.n) (spush σ (.lst (xs.drop a))) | false => noo)
      | none, some (.ii (.ofNat b)) => (match Nat.ble b xs.length && Nat.ble xs.length 1000 with | true => okk (.ow σ.n) (spush σ (.lst (xs.take b))) | false => noo)
      | _, _ => noo
    | some (.itl _) => match lo, hi with
      | none, some (.ii (.ofNat b)) => okk (.ow σ.n) (spush σ (.itl none))
      | _, _ => noo
    | _ => noo
  | _ => noo
noncomputable def isI (T : Tab) (C : Addr) (n : Str) : Bool := match T.cl C with
  | some ci => !ci.exc && T.attr C n
  | none => false
noncomputable def isX (T : Tab) (C : Addr) (n : Str) : Bool := match T.cl C with
  | some ci => ci.exc && T.attr C n
  | none => false
noncomputable def plainV : AV → Bool
  | .cv (.builtin _) => false
  | .tp => false
  | _ => true
noncomputable def getD (σ : St) (d : Nat) (n : Str) : List (Out AV) := match sget σ d with
  | some (.idc es) => (match look es n with
    | some v => (match plainV v with | true => okk v σ | false => noo)
    | none => noo)
  | _ => noo
noncomputable def setD (σ : St) (d : Nat) (n : Str) (v : AV) : List (Out Unit) := match sget σ d with
  | some (.idc es) => (match Nat.ble es.length 1000 with | true => okk () (sset σ d (.idc (put es n v))) | false => noo)
  | _ => noo
noncomputable def newD (σ : St) (j : Nat) (C : Nat) (f : Bool) (n : Str) (v : AV) : List (Out Unit) := match sget (spush σ (.idc [])) j with
  | some (.exc _ none f') => (match f == f', sget (sset (spush σ (.idc [])) j (.exc C (some σ.n) f)) σ.n with
    | true, some (.idc []) => okk () (sset (sset (spush σ (.idc [])) j (.exc C (some σ.n) f)) σ.n (.idc (put [] n v)))
    | _, _ => noo)
  | _ => noo
noncomputable def getAttrA (T : Tab) (o : AV) (n : Str) (σ : St) : List (Out AV) := match o with
  | .ow j => match sget σ j with
    | some (.ins C d) => (match isI T C n with | true => getD σ d n | false => noo)
    | some (.exc C dd _) => (match isX T C n with
      | true => (match dd with | some d => getD σ d n | none => noo)
      | false => noo)
    | _ => noo
  | _ => noo
noncomputable def setAttrA (T : Tab) (o : AV) (n : Str) (v : AV) (σ : St) : List (Out Unit) := match o with
  | .ow j => match sget σ j with
    | some (.ins C d) => (match isI T C n with | true => setD σ d n v | false => noo)
    | some (.exc C dd f) => (match isX T C n with
      | true => (match dd with
        | some d => setD σ d n v
        | none => newD σ j C f n v)
      | false => noo)
    | _ => noo
  | _ => noo
noncomputable def setItemA (o i v : AV) (σ : St) : List (Out Unit) := match o, i with
  | .ow j, .ii k => match sget σ j with
    | some (.lst xs) => (match idxOk xs.length k with
      | true => okk () (sset σ j (.lst (xs.set (idx xs.length k) v)))
      | false => noo)
    | _ => noo
  | .ow j, .ss x => match sget σ j with
    | some (.dic es) => (match Nat.ble es.length 1000 with | true => okk () (sset σ j (.dic (put es x v))) | false => noo)
    | _ => noo
  | _, _ => noo
noncomputable def kindA (sc : Scope) (x : Str) : Option NameKind := lookK sc.names x
where
  lookK : List (Str × NameKind) → Str → Option NameKind
    | [], _ => none
    | p :: r, x => match seq p.1 x with | true => some p.2 | false => lookK r x
noncomputable def loadN (T : Tab) (c : Cx) (x : Str) (σ : St) : List (Out AV) := match seq x "__debug__" with
  | true => noo
  | false => match kindA c.sc x with
  | some .local => (match sget σ c.fr with
    | some (.nsp es) => (match look es x with | some v => okk v σ | none => noo)
    | _ => noo)
  | some .globalImplicit => (match T.gl x with | some v => okk (.cv v) σ | none => noo)
  | _ => noo
noncomputable def storeN (c : Cx) (x : Str) (v : AV) (σ : St) : List (Out Unit) := match kindA c.sc x with
  | some .local => (match sget σ c.fr with
    | some (.nsp es) => okk () (sset σ c.fr (.nsp (put es x v)))
    | _ => noo)
  | _ => noo
noncomputable def star : Expr → Bool
  | .Starred _ _ => true
  | _ => false
noncomputable def evs (ev : Expr → St → List (Out AV)) : List Expr → St → List (Out (List AV))
  | [], σ => okk [] σ
  | e :: r, σ => match star e with
    | true => noo
    | false => obind (ev e σ) fun v σ => obind (evs ev r σ) fun vs σ => okk (v :: vs) σ
noncomputable def isComp : Expr → Bool
  | .ListComp .. | .SetComp .. | .DictComp .. => true
  | _ => false
noncomputable def isSet : Expr → Bool
  | .Set .. => true
  | _ => false
noncomputable def cmpCh (T : Tab) (ev : Expr → St → List (Out AV)) : AV → List CmpOp → List Expr → St → List (Out Bool)
  | l, [op], [r], σ => (match isSet r with
    | true => noo
    | false => obind (ev r σ) fun v σ => cmpB T op l v σ)
  | l, op :: ops, r :: rs, σ => match isSet r with
    | true => noo
    | false => obind (ev r σ) fun v σ => obind (cmpB T op l v σ) fun b σ => match b with
    | true => cmpCh T ev v ops rs σ
    | false => okk false σ
  | _, _, _, _ => noo
noncomputable def isBare : Expr → Bool
  | .Call _ [] [] _ => true
  | _ => false
noncomputable def isB (T : Tab) (c : Cx) (x n : Str) : Bool := match seq x n with
  | true => (match kindA c.sc x with | some .globalImplicit => (match T.gl x with | none => true | some _ => false) | _ => false)
  | false => false
end Mine
end
noncomputable section
open PySem PySem.W PyProof.Rows PySem.Calls
namespace Mine
noncomputable def lenA (v : AV) (σ : St) : List (Out AV) := match v with
  | .ow j => match sget σ j with
    | some (.lst xs) => (match Nat.ble xs.length 1000000 with | true => okk (.ii (Int.ofNat xs.length)) σ | false => noo)
    | some (.tup xs) => (match Nat.ble xs.length 1000000 with | true => okk (.ii (Int.ofNat xs.length)) σ | false => noo)
    | some (.itl (some L)) => okk (.sy L) σ
    | _ => noo
  | _ => noo
noncomputable def isInstT (T : Tab) (v : AV) (σ : St) : List (Out AV) := match v with
  | .ow j => match sget σ j with
    | some (.tup _) => okk (.bb true) σ
    | some (.ins C d) => (match T.cl C with
      | some ⟨_, false⟩ => (match sget σ d with | some (.idc _) => okk (.bb false) σ | _ => noo)
      | _ => noo)
    | _ => noo
  | _ => noo
noncomputable def isInstC (T : Tab) (v : AV) (c : AV) (σ : St) : List (Out AV) := match c with
  | .cv (.ref C) => match T.cl C with
    | some ⟨_, false⟩ => (match v with
      | .ii _ | .sy _ => okk (.bb false) σ
      | .ow j => match sget σ j with
        | some (.ins C' d) => (match T.cl C' with
          | some ⟨_, false⟩ => (match sget σ d with | some (.idc _) => okk (.bb (Nat.beq C' C)) σ | _ => noo)
          | _ => noo)
        | _ => noo
      | _ => noo)
    | _ => noo
  | _ => noo
noncomputable def unpackA (v : AV) (n : Nat) (σ : St) : List (Out (List AV)) := match v with
  | .ow j => match sget σ j with
    | some (.tup xs) => (match Nat.beq xs.length n with | true => okk xs σ | false => noo)
    | some (.lst xs) => (match Nat.beq xs.length n with | true => okk xs σ | false => noo)
    | _ => noo
  | _ => noo
noncomputable def storeAll (c : Cx) : List Expr → List AV → St → List (Out Unit)
  | [], [], σ => okk () σ
  | .Name x _ :: r, v :: vs, σ => obind (storeN c x v σ) fun _ σ => storeAll c r vs σ
  | _, _, _ => noo
noncomputable def bindP (ps : List Arg) (vs ds : List AV) : Option (List (Str × AV)) :=
  match Nat.beq (vs.length + ds.length) ps.length with
  | true => some ((ps.map (·.arg)).zip (vs ++ ds))
  | false => none
noncomputable def tr (T : Tab) (ev : Expr → St → List (Out AV)) : Nat → Expr → St → List (Out Bool)
  | 0, _, _ => noo
  | n + 1, e, σ => match e with
    | .UnaryOp op x _ => (match op with
      | .Not => obind (tr T ev n x σ) fun b σ => okk (!b) σ
      | _ => noo)
    | .BoolOp op vs _ => go n op vs σ
    | .Compare l ops rs _ => obind (ev l σ) fun v σ => cmpCh T ev v ops rs σ
    | .IfExp .. => noo
    | e => obind (ev e σ) truth
where go (n : Nat) (op : BoolOp) : List Expr → St → List (Out Bool)
    | [], _ => noo
    | [x], σ => tr T ev n x σ
    | x :: r, σ => obind (tr T ev n x σ) fun b σ => match op, b with
        | .And, false => okk false σ
        | .Or, true => okk true σ
        | _, _ => go n op r σ
noncomputable def boolA (ev : Expr → St → List (Out AV)) (op : BoolOp) : List Expr → St → List (Out AV)
  | [], _ => noo
  | [x], σ => ev x σ
  | x :: r, σ => obind (ev x σ) fun v σ => obind (truth v σ) fun b σ => match op, b with
    | .And, false => okk v σ
    | .Or, true => okk v σ
    | _, _ => boolA ev op r σ
noncomputable def dictA (ev : Expr → St → List (Out AV)) : List (Option Expr) → List Expr → List (Str × AV) → St → List (Out (List (Str × AV)))
  | [], [], es, σ => okk es σ
  | some k :: ks, v :: vs, es, σ => obind (ev k σ) fun kv σ => obind (ev v σ) fun vv σ => (match kv with
    | .ss x => dictA ev ks vs (put es x vv) σ
    | _ => noo)
  | _, _, _, _ => noo
noncomputable def known (T : Tab) : AV → Bool
  | .cv (.ref a) => (match T.fn a with
    | some _ => true
    | none => (match T.cl a with | some _ => true | none => false))
  | _ => false
noncomputable def evCall (T : Tab) (I : IH) (c : Cx) (x : Str) (as : List Expr) (σ : St) : List (Out AV) :=
  obind (loadN T c x σ) fun fv σ => (match known T fv with
    | true => obind (evs (I.ev c) as σ) fun vs σ => I.ca (c.fr :: c.fs) c.dp c.hd fv vs σ
    | false => noo)
noncomputable def evBi (T : Tab) (I : IH) (c : Cx) (x : Str) (as : List Expr) (σ : St) : List (Out AV) :=
  match isB T c x "len" with
  | true => obind (evs (I.ev c) as σ) fun vs σ => (match vs with | [v] => lenA v σ | _ => noo)
  | false => match isB T c x "isinstance" with
  | true => (match as with
      | [e, .Name k kp] => (match star e with
        | true => noo
        | false => (match isB T c k "tuple" with
          | true => obind (I.ev c e σ) (isInstT T)
          | false => obind (I.ev c e σ) fun v σ => obind (loadN T c k σ) fun k σ => isInstC T v k σ))
      | _ => noo)
  | false => match isB T c x "max" with
  | true => obind (evs (I.ev c) as σ) fun vs σ => (match vs, c.hd with
      | [.ii a, .ii b], false => okk (.ii (match decide (a < b) with | true => b | false => a)) σ
      | _, _ => noo)
  | false => match isB T c x "str" with
  | true => obind (evs (I.ev c) as σ) fun vs σ => (match vs with
      | [.ii (.ofNat a)] => (match Nat.blt a 10 with | true => okk (.ss ⟨#[48 + a]⟩) σ | false => noo)
      | _ => noo)
  | false => match isB T c x "list" with
  | true => obind (evs (I.ev c) as σ) fun vs σ => (match vs with
      | [.ow j] => (match sget σ j with | some (.lst xs) => (match Nat.ble xs.length 1000 with | true => okk (.ow σ.n) (spush σ (.lst xs)) | false => noo) | _ => noo)
      | _ => noo)
  | false => noo
noncomputable def noStar : List Expr → Bool
  | [] => true
  | e :: r => !star e && noStar r
noncomputable def evMeth (T : Tab) (I : IH) (c : Cx) (o : Expr) (m : Str) (as : List Expr) (σ : St) : List (Out AV) :=
  match seq m "append" with
  | true => obind (I.ev c o σ) fun ov σ => (match ov, as with
      | .ow j, [e] => (match sget σ j with
        | some (.lst _) => obind (I.ev c e σ) fun v σ => (match sget σ j with
          | some (.lst xs) => (match Nat.ble xs.length 1000 with | true => okk .nn (sset σ j (.lst (xs ++ [v]))) | false => noo)
          | _ => noo)
        | _ => noo)
      | _, _ => noo)
  | false => match seq m "pop" with
  | true => (match as with
      | [] => obind (I.ev c o σ) fun ov σ => (match ov with
        | .ow j => (match sget σ j with
          | some (.lst xs) => (match xs.getLast?, Nat.ble xs.length 1000 with | some v, true => okk v (sset σ j (.lst xs.dropLast)) | _, _ => noo)
          | _ => noo)
        | _ => noo)
      | _ => noo)
  | false => match seq m "__init__" with
  | true => (match o with
      | .Name k _ => (match isB T c k "Exception" with
        | true => obind (evs (I.ev c) as σ) fun vs σ => (match vs with
              | [.ow j, .ss _] => (match sget σ j with
                | some (.exc C d f) => (match T.cl C with | some ⟨some _, true⟩ => okk .nn (sset σ j (.exc C d f)) | _ => noo)
                | _ => noo)
              | _ => noo)
        | false => obind (loadN T c k σ) fun kv σ => (match kv with
              | .cv (.ref C) => (match T.cl C with
                | some ⟨some fI, true⟩ => (match known T (.cv (.ref fI)) with
                  | true => obind (evs (I.ev c) as σ) fun vs σ => I.ca (c.fr :: c.fs) c.dp c.hd (.cv (.ref fI)) vs σ
                  | false => noo)
                | _ => noo)
              | _ => noo))
      | _ => noo)
  | false => noo
noncomputable def evE (T : Tab) (I : IH) (c : Cx) (e : Expr) (σ : St) : List (Out AV) := match e with
  | .Constant k _ _ => (match k with
    | .none => okk .nn σ
    | .bool b => okk (.bb b) σ
    | .int i => okk (.ii i) σ
    | .str s => okk (.ss s) σ
    | _ => noo)
  | .Name x _ => loadN T c x σ
  | .BinOp l op r _ => obind (I.ev c l σ) fun a σ => obind (I.ev c r σ) fun b σ => binop T op a b σ
  | .UnaryOp op x _ => (match op with
    | .USub => obind (I.ev c x σ) fun v σ => (match v with | .ii i => okk (.ii (-i)) σ | _ => noo)
    | .Not => obind (I.ev c x σ) fun v σ => obind (truth v σ) fun b σ => okk (.bb (!b)) σ
    | _ => noo)
  | .BoolOp op vs _ => boolA (I.ev c) op vs σ
  | .Compare l ops rs _ => obind (I.ev c l σ) fun v σ => obind (cmpCh T (I.ev c) v ops rs σ) fun b σ => okk (.bb b) σ
  | .IfExp t b o _ => obind (tr T (I.ev c) 20 t σ) fun q σ => match q with
    | true => I.ev c b σ
    | false => I.ev c o σ
  | .Tuple es _ _ => obind (evs (I.ev c) es σ) fun vs σ => (match Nat.ble vs.length 1000 with | true => okk (.ow σ.n) (spush σ (.tup vs)) | false => noo)
  | .List es _ => obind (evs (I.ev c) es σ) fun vs σ => (match Nat.ble vs.length 1000 with | true => okk (.ow σ.n) (spush σ (.lst vs)) | false => noo)
  | .Dict ks vs _ => (match ks, vs with
    | [], [] => okk (.ow σ.n) (spush σ (.dic []))
    | ks, vs => (match Nat.ble ks.length 15 && (ks.all (·.isSome) && Nat.beq ks.length vs.length) with
      | true => obind (dictA (I.ev c) ks vs [] (spush σ (.dic []))) fun es σ' => (match sget σ' σ.n with
        | some (.dic []) => okk (.ow σ.n) (sset σ' σ.n (.dic es))
        | _ => noo)
      | false => noo))
  | .Attribute v n _ => (match isBare v with
    | true => noo
    | false => obind (I.ev c v σ) fun o σ => getAttrA T o n σ)
  | .Subscript v i _ => (match i with
    | .Slice lo hi st _ => (match st with
      | none => obind (I.ev c v σ) fun o σ => (match lo, hi with
        | some l, none => obind (I.ev c l σ) fun a σ => sliceA T o (some a) none σ
        | none, some h => obind (I.ev c h σ) fun b σ => sliceA T o none (some b) σ
        | _, _ => noo)
      | some _ => noo)
    | i => obind (I.ev c v σ) fun o σ => obind (I.ev c i σ) fun k σ => getItemA T o k σ)
  | .Call f as ks ps => (match ks with
    | [] => (match f with
      | .Name x _ => (match kindA c.sc x with
        | some .globalImplicit => (match T.gl x with
          | some _ => evCall T I c x as σ
          | none => evBi T I c x as σ)
        | _ => noo)
      | .Attribute o m ap => (match Nat.beq ap.endLine ps.line && (!isBare o && (Nat.blt as.length 20 && noStar as)) with
        | true => evMeth T I c o m as σ
        | false => noo)
      | _ => noo)
    | _ :: _ => noo)
  | _ => noo
noncomputable def gB : Stmt → List Stmt
  | .FunctionDef _ _ b _ _ _ _ _ _ _ => b
  | _ => []
noncomputable def gS : Stmt → Scope
  | .FunctionDef _ _ _ _ _ _ s _ _ _ => s
  | _ => default
noncomputable def fPs : Stmt → List Arg
  | .FunctionDef _ a _ _ _ _ _ _ _ _ => a.args
  | _ => []
noncomputable def frms (σ : St) : List Nat → Bool
  | [] => true
  | k :: r => match Nat.beq k 100000, sget σ k with | false, some (.nsp _) => frms σ r | _, _ => false
noncomputable def isExc (σ : St) (k : Nat) : Bool := match sget σ k with | some (.exc _ _ false) => true | _ => false
noncomputable def lvA (fs : List Nat) : List (Out AFl) → List (Out AFl)
  | [] => []
  | .ok a σ :: r => .ok a σ :: lvA fs r
  | .ex k σ :: r => (match frms σ fs && isExc σ k with | true => .ex k σ :: lvA fs r | false => noo)
  | .no :: _ => noo
noncomputable def callF (I : IH) (fs : List Nat) (dp : Nat) (hd : Bool) (fi : FnI) (as : List AV) (σ : St) : List (Out AV) :=
  match bindP (fPs fi.st) as fi.ds with
  | some bs => obind (lvA (σ.n :: fs) (I.ex ⟨gS fi.st, σ.n, fs, dp + 1, hd⟩ (gB fi.st) (spush σ (.nsp bs)))) fun fl σ => (match fl with
        | .nx => okk .nn σ
        | .rt v => okk v σ
        | _ => noo)
  | none => noo
noncomputable def backN (v : AV) : List (Out AV) → List (Out AV) := fun l => obind l fun r σ => match r with
  | .nn => okk v σ
  | _ => noo
noncomputable def tapR (as : List AV) (σ : St) : List (Out AV) := match as with
  | [.ow j, .ii (.ofNat m)] => (match sget σ j with
    | some (.dic [(x, .ow k), (y, .an)]) => (match seq x "script" && seq y "at", sget σ k with
      | true, some (.itl none) => (match Nat.beq m 2 || (Nat.beq m 3 || (Nat.beq m 4 || Nat.beq m 12)) with
        | true => tapO m σ
        | false => noo)
      | _, _ => noo)
    | _ => noo)
  | _ => noo
noncomputable def isTap (T : Tab) (a : Addr) : Bool := match T.tap with
  | some t => Nat.beq a t
  | none => false
noncomputable def caF (T : Tab) (I : IH) (fs : List Nat) (dp : Nat) (hd : Bool) (f : AV) (as : List AV) (σ : St) : List (Out AV) := match f with
  | .cv (.ref a) => (match Nat.blt 40 dp with
    | true => noo
    | false => match isTap T a with
    | true => tapR as σ
    | false => match T.fn a with
    | some fi => callF I fs dp hd fi as σ
    | none => match T.cl a with
      | some ⟨some fI, false⟩ => backN (.ow (σ.n + 1)) (I.ca fs (dp + 1) hd (.cv (.ref fI)) (.ow (σ.n + 1) :: as) (spush (spush σ (.idc [])) (.ins a σ.n)))
      | some ⟨some fI, true⟩ => (match Nat.ble as.length 1000 with
        | true => backN (.ow σ.n) (I.ca fs (dp + 1) hd (.cv (.ref fI)) (.ow σ.n :: as) (spush σ (.exc a none true)))
        | false => noo)
      | _ => noo)
  | _ => noo
noncomputable def allN : List Expr → Bool
  | [] => true
  | .Name _ _ :: r => allN r
  | _ :: _ => false
noncomputable def storeT (c : Cx) (t : Expr) (v : AV) (σ : St) : List (Out Unit) := match t with
  | .Name x _ => storeN c x v σ
  | .Tuple ts _ _ => (match allN ts, c.hd with
    | true, false => obind (unpackA v ts.length σ) fun vs σ => storeAll c ts vs σ
    | _, _ => noo)
  | _ => noo
noncomputable def isTupE : Expr → Bool
  | .Tuple .. => true
  | _ => false
noncomputable def badT (t v : Expr) : Bool := match t with
  | .Tuple .. => isTupE v
  | .List .. => true
  | .Starred .. => true
  | _ => false
noncomputable def forR (bd : St → List (Out AFl)) (st : AV → St → List (Out Unit)) (it : Nat) : Nat → St → List (Out AFl)
  | 0, σ => (match sget σ it with
    | some (.rit _ m) => (match decide (m = 0) with | true => okk .nx (sdel σ it) | false => noo)
    | _ => noo)
  | n + 1, σ => (match sget σ it with
    | some (.rit a m) => (match decide (m = Int.ofNat (n + 1)) with
      | true => obind (st (.ii a) (sset σ it (.rit (a + 1) (Int.ofNat n)))) fun _ σ => obind (bd σ) fun fl σ => (match fl with
        | .nx | .ct => forR bd st it n σ
        | .bk => okk .nx σ
        | .rt v => okk (.rt v) σ)
      | false => noo)
    | _ => noo)
noncomputable def forL (bd : St → List (Out AFl)) (st : AV → St → List (Out Unit)) (it : Nat) : Nat → St → List (Out AFl)
  | 0, _ => noo
  | n + 1, σ => (match sget σ it with
    | some (.lit l i) => (match sget σ l with
      | some (.lst xs) => (match xs[i]? with
        | some v => obind (st v (sset σ it (.lit l (i + 1)))) fun _ σ => obind (bd σ) fun fl σ => (match fl with
          | .nx | .ct => forL bd st it n σ
          | .bk => okk .nx σ
          | .rt v => okk (.rt v) σ)
        | none => okk .nx (sdel σ it))
      | _ => noo)
    | _ => noo)
noncomputable def whileA (I : IH) (T : Tab) (c : Cx) (t : Expr) (b : List Stmt) : Nat → St → List (Out AFl)
  | 0, _ => noo
  | n + 1, σ => obind (tr T (I.ev c) 20 t σ) fun q σ => match q with
    | true => obind (I.ex c b σ) fun fl σ => (match fl with
      | .nx | .ct => whileA I T c t b n σ
      | .bk => okk .nx σ
      | .rt v => okk (.rt v) σ)
    | false => okk .nx σ
noncomputable def drp (n : Str) : List (Str × AV) → List (Str × AV)
  | [] => []
  | p :: r => match seq p.1 n with | true => drp n r | false => p :: drp n r
noncomputable def unbind (c : Cx) (n : Str) (fl : AFl) (σ : St) : List (Out AFl) := obind (storeN c n .nn σ) fun _ σ => (match sget σ c.fr with
  | some (.nsp es) => (match look es n with | some _ => okk fl (sset σ c.fr (.nsp (drp n es))) | none => noo)
  | _ => noo)
noncomputable def handle (T : Tab) (I : IH) (c : Cx) (k n : Str) (hb : List Stmt) (j : Nat) (σ : St) : List (Out AFl) :=
  match frms σ (c.fr :: c.fs) && isExc σ j, hb with
  | true, _ :: _ => noex (obind (loadN T { c with hd := true } k σ) fun kv σ => (match kv, sget σ j with
    | .cv (.ref C'), some (.exc C _ _) => (match Nat.beq C C', T.cl C with
      | true, some ⟨some _, true⟩ => obind (storeN { c with hd := true } n (.ow j) σ) fun _ σ => obind (I.ex { c with hd := true } hb σ) fun fl σ => unbind c n fl σ
      | _, _ => noo)
    | _, _ => noo))
  | _, _ => noo
noncomputable def tryA (h : Nat → St → List (Out AFl)) : List (Out AFl) → List (Out AFl)
  | [] => []
  | .ok fl σ :: r => .ok fl σ :: tryA h r
  | .ex k σ :: r => h k σ ++ tryA h r
  | .no :: _ => noo
noncomputable def exS (T : Tab) (I : IH) (c : Cx) (s : Stmt) (σ : St) : List (Out AFl) := match s with
  | .Expr v _ => (match isComp v with
    | true => noo
    | false => obind (I.ev c v σ) fun _ σ => okk .nx σ)
  | .Pass _ => okk .nx σ
  | .Return v _ => (match v with
    | none => okk (.rt .nn) σ
    | some e => obind (I.ev c e σ) fun v σ => okk (.rt v) σ)
  | .Assign ts v _ => (match ts with
    | [t] => (match isComp v || badT t v with
      | true => noo
      | false => obind (I.ev c v σ) fun x σ => (match t with
        | .Attribute o n _ => obind (I.ev c o σ) fun ov σ => obind (setAttrA T ov n x σ) fun _ σ => okk .nx σ
        | .Subscript o i _ => obind (I.ev c o σ) fun ov σ => obind (I.ev c i σ) fun iv σ => obind (setItemA ov iv x σ) fun _ σ => okk .nx σ
        | t => obind (storeT c t x σ) fun _ σ => okk .nx σ))
    | _ => noo)
  | .If t b o _ => obind (tr T (I.ev c) 20 t σ) fun q σ => match q with
    | true => I.ex c b σ
    | false => I.ex c o σ
  | .While t b o _ => (match o with
    | [] => noex (whileA I T c t b 30 σ)
    | _ :: _ => noo)
  | .For t it b o _ => (match o, c.hd with
    | [], false => (match it with
      | .Call f [e] [] _ => (match f with
        | .Name r _ => (match isB T c r "range" && !star e with
          | true => obind (I.ev c e σ) fun v σ => (match v with
            | .ii (.ofNat n) => (match Nat.blt n 1000 with
              | true => noex (forR (I.ex c b) (storeT c t) σ.n n (spush σ (.rit 0 (Int.ofNat n))))
              | false => noo)
            | _ => noo)
          | false => noo)
        | _ => noo)
      | .Name x p => obind (I.ev c (.Name x p) σ) fun v σ => (match v with
        | .ow j => (match sget σ j with | some (.lst xs) => noex (forL (I.ex c b) (storeT c t) σ.n 30 (spush σ (.lit j 0))) | _ => noo)
        | _ => noo)
      | _ => noo)
    | _, _ => noo)
  | .Raise e ca _ => (match e, ca with
    | some e, none => (match c.hd with
      | true => noo
      | false => obind (I.ev c e σ) fun v σ => (match v with
        | .ow j => (match sget σ j with
          | some (.exc C d true) => (match T.cl C with | some ⟨some _, true⟩ => [.ex j (sset σ j (.exc C d false))] | _ => noo)
          | _ => noo)
        | _ => noo))
    | _, _ => noo)
  | .Try b hs o f _ => (match hs, o, f with
    | [.ExceptHandler (some (.Name k _)) (some n) hb _], [], [] => (match c.hd with
      | true => noo
      | false => tryA (handle T I c k n hb) (I.ex c b σ))
    | _, _, _ => noo)
  | _ => noo
noncomputable def exL (T : Tab) (I : IH) (c : Cx) : List Stmt → St → List (Out AFl)
  | [], σ => okk .nx σ
  | s :: r, σ => obind (exS T I c s σ) fun fl σ => match fl with
    | .nx => exL T I c r σ
    | fl => okk fl σ
noncomputable def stepI (T : Tab) (I : IH) : IH := ⟨evE T I, exL T I, caF T I⟩
noncomputable def IH0 : IH := ⟨fun _ _ _ => noo, fun _ _ _ => noo, fun _ _ _ _ _ _ => noo⟩
noncomputable def run (T : Tab) : Nat → IH
  | 0 => IH0
  | n + 1 => stepI T (run T n)
end Mine
end
noncomputable section
open PySem PySem.W PyProof.Rows PySem.Calls
set_option maxRecDepth 10000
namespace Mine
noncomputable def FrL (ρ : List Addr) (fs : List Nat) (l : List Env) : Prop := 100000 ∈ fs ∨ All2 (fun k (e : Env) => e.scope.kind = .function ∧ ∃ L, ρ[k]? = some L ∧ e.frame = some L) fs l
theorem FrL.le {ρ ρ' : List Addr} (L : Le ρ ρ') {fs : List Nat} {l : List Env} (x : FrL ρ fs l) : FrL ρ' fs l := x.imp id fun x => All2.mono (fun _ _ y => ⟨y.1, let ⟨a, e, f⟩ := y.2; ⟨a, L.get e, f⟩⟩) x
structure CC (ρ : List Addr) (fs : List Nat) (dp : Nat) (hd : Bool) (A : Around) : Prop where
  fr : ∃ l, A.frames = some l ∧ FrL ρ fs l
  depth : A.depth ≤ 305 + 5 * dp
  units : A.units ≤ 20 + 20 * dp
  hd : hd = false → A.handled = none
  dl : dp ≤ 41
structure CE (ρ : List Addr) (c : Cx) (env : Env) (A : Around) : Prop where
  en : ∃ name L a cd, env = envOf name c.sc L a cd ∧ ρ[c.fr]? = some L
  kind : c.sc.kind = .function
  fr : ∃ l, A.frames = some (env :: l) ∧ FrL ρ c.fs l
  depth : A.depth ≤ 305 + 5 * c.dp
  units : A.units ≤ 20 + 20 * c.dp
  hd : c.hd = false → A.handled = none
  dl : c.dp ≤ 41
theorem CE.le {ρ ρ' : List Addr} (L : Le ρ ρ') {c : Cx} {env : Env} {A : Around} (x : CE ρ c env A) : CE ρ' c env A :=
  ⟨let ⟨n, q, a, cd, e, f⟩ := x.en; ⟨n, q, a, cd, e, L.get f⟩, x.kind, let ⟨l, e, f⟩ := x.fr; ⟨l, e, f.le L⟩, x.depth, x.units, x.hd, x.dl⟩
theorem CC.le {ρ ρ' : List Addr} (L : Le ρ ρ') {fs : List Nat} {dp : Nat} {hd : Bool} {A : Around} (x : CC ρ fs dp hd A) : CC ρ' fs dp hd A :=
  ⟨let ⟨l, e, f⟩ := x.fr; ⟨l, e, f.le L⟩, x.depth, x.units, x.hd, x.dl⟩
theorem CE.cc {ρ : List Addr} {c : Cx} {env : Env} {A : Around} (x : CE ρ c env A) : CC ρ (c.fr :: c.fs) c.dp c.hd A := by
  obtain ⟨n, L, a, cd, rfl, f⟩ := x.en
  obtain ⟨l, e, z⟩ := x.fr
  exact ⟨⟨_, e, z.imp (fun h => .tail _ h) fun z => ⟨⟨x.kind, L, f, rfl⟩, z⟩⟩, x.depth, x.units, x.hd, x.dl⟩
structure AttF (K : Frag) (C : Addr) (n : Str) : Prop where
  ga : findIn K (.ref C) "__getattribute__" = some (some (.builtin "object.__getattribute__"))
  sa : findIn K (.ref C) "__setattr__" = some (some (.builtin "object.__setattr__"))
  no : findIn K (.ref C) n = some none
  plain : plainOver K C = true
  has : (clsIn K C).any (·.hasDict) = true
structure ClF (K : Frag) (C : Addr) : Prop where
  int : isNotIn K "int" C = true
  self : isIn K (.ref C) C = true
  get : plainGet K C "__class__" = true
  has : hasDictIn K C = true
  cls : findIn K (.ref C) "__class__" = some (some (.builtin "object.__class__"))
  top : mroIn K C (.type "object") = some true
  tup : kin_notT K C "tuple" = true
structure FnF (h₀ : Heap) (a : Addr) (fi : FnI) : Prop where
  obj : ∃ (oc : Value) (od : Option Addr) (osl : Array (Option Value)) (name qual : Str) (params : Arguments) (dV kV doc pm cdv ct : Value) (an : Option Addr),
    h₀.get? a = some ⟨oc, od, .func (fnOf name qual params (gB fi.st) (gS fi.st) dV kV doc pm an cdv ct), osl⟩ ∧ h₀.CodeRec cdv qual ∧
    ∀ (ι : Nat → Int) (ρ : List Addr) (s : Shared) (as : List AV) (vs : List Value) (bs : List (Str × AV)), (∀ b o, h₀.get? b = some o → s.heap.get? b = some o) → bindP (fPs fi.st) as fi.ds = some bs → All2 (VR ι ρ) as vs →
      ∃ binds, BindsTo s (fnOf name qual params (gB fi.st) (gS fi.st) dV kV doc pm an cdv ct) ⟨vs, []⟩ binds ∧ All2 (fun p q => p.1 = q.1 ∧ VR ι ρ p.2 q.2) bs binds
  nodup : ((fPs fi.st).map (·.arg)).Nodup
  loc : ∀ p ∈ fPs fi.st, (gS fi.st).names.lookup p.arg = some .local
  cell : ∀ x ∈ (gS fi.st).names, x.2 ≠ .cell
  co : (gS fi.st).isCoroutine = false
  gen : (gS fi.st).isGenerator = false
  kind : (gS fi.st).kind = .function
structure SymOk (ι : Nat → Int) (T : Tab) : Prop where
  add : ∀ k n j, T.sa k n = some j → ι k + n = ι j
  le : ∀ a b r, T.sl a b = some r → decide (ι a ≤ ι b) = r
  ix : ∀ k L, T.si k L = true → 0 ≤ ι k ∧ ι k < ι L
  bnd : ∀ k lo hi, T.sb k = some (lo, hi) → lo ≤ ι k ∧ ι k ≤ hi
  mod : ∀ k y r, T.sm k y = some r → Int.fmod (ι k) y = r
theorem iLe_ok {ι : Nat → Int} {T : Tab} (S : SymOk ι T) {x : Int} {k : Nat} {r : Bool} (h : iLe T x k = some r) : decide (x ≤ ι k) = r := by
  unfold iLe at h
  split at h
  · rename_i lo hi e
    have b := S.bnd k lo hi e
    split at h
    · rename_i q
      have q := of_decide_eq_true q
      cases h
      exact decide_eq_true (by omega)
    · split at h
      · rename_i q
        have q := of_decide_eq_true q
        cases h
        exact decide_eq_false (by omega)
      · cases h
  · cases h
theorem leI_ok {ι : Nat → Int} {T : Tab} (S : SymOk ι T) {y : Int} {k : Nat} {r : Bool} (h : leI T k y = some r) : decide (ι k ≤ y) = r := by
  unfold leI at h
  split at h
  · rename_i lo hi e
    have b := S.bnd k lo hi e
    split at h
    · rename_i q
      have q := of_decide_eq_true q
      cases h
      exact decide_eq_true (by omega)
    · split at h
      · rename_i q
        have q := of_decide_eq_true q
        cases h
        exact decide_eq_false (by omega)
      · cases h
  · cases h
structure GF (prog : Program) (w : World) (ι : Nat → Int) (h₀ : Heap) (T : Tab) (K : Frag) : Prop where
  glob : ∃ mg mb, h₀.Ns mainGlobals mg ∧ h₀.Ns builtinsNs mb ∧ (∀ x v, T.gl x = some v → mg x = some v) ∧
    ∀ x ∈ ([Str.ofString "len", Str.ofString "isinstance", Str.ofString "max", Str.ofString "str", Str.ofString "list", Str.ofString "range", Str.ofString "tuple", Str.ofString "Exception"] : List Str), T.gl x = none → mg x = none ∧ mb x = bootBuiltins x
  tup : ∀ q l, T.tup q = some l → ∃ vs, IsTup h₀ q vs ∧ StrsAre vs.toList l
  mods : h₀.get? sysModules ≠ none
  lim : h₀.NoLimit
  kin : K.In h₀
  fn : ∀ a fi, T.fn a = some fi → FnF h₀ a fi
  clF : ∀ C i, T.cl C = some ⟨i, false⟩ → ClF K C
  cl2 : ∀ C D i j, T.cl C = some ⟨i, false⟩ → T.cl D = some ⟨j, false⟩ → C ≠ D → kin_not K D C = true
  ck : ∀ C ci, T.cl C = some ci → (∃ oc od cd sl, h₀.get? C = some ⟨oc, od, .cls cd, sl⟩) ∧ specialIn K (.ref C) "__call__" = some (some (.builtin "type.__call__"))
  oc1 : specialIn K (.builtin "object.__class__") "__get__" = some (some (.builtin "getset_descriptor.__get__"))
  oc2 : takesIn K (.builtin "object.__class__") = some true
  att : ∀ C n, isI T C n = true → AttF K C n
  sym : SymOk ι T
  scr : ∀ q, T.scr q = true → ∃ vs ns, h₀.IsList q (List.toArray vs) ∧ IntsAre vs ns ∧ vs.length ≤ 1000000
theorem kindA_look (sc : Scope) (x : Str) : kindA sc x = sc.names.lookup x := by
  unfold kindA
  generalize sc.names = l
  induction l with
  | nil => rfl
  | cons p r ih =>
    obtain ⟨a, b⟩ := p
    simp only [kindA.lookK, List.lookup_cons, seq_iff, ih]
    by_cases h : a = x
    · subst h; simp
    · have h' : ¬ x = a := fun e => h e.symm
      rw [decide_eq_false h]
      have : (x == a) = false := beq_eq_false_iff_ne.mpr h'
      rw [this]
section
variable {prog : Program} {w : World} {ι : Nat → Int} {h₀ : Heap} {os₀ : OsState} {T : Tab} {K : Frag}
noncomputable def FR (ι : Nat → Int) (ρ : List Addr) : AFl → Flow → Prop
  | .nx, f => f = .next
  | .rt v, f => ∃ u, f = .ret u ∧ VR ι ρ v u
  | .bk, f => f = .brk
  | .ct, f => f = .cont
structure Snd (prog : Program) (w : World) (ι : Nat → Int) (h₀ : Heap) (os₀ : OsState) (I : IH) : Prop where
  ev : ∀ {c : Cx} {e : Expr} {σ : St} {ρ : List Addr} {s : Shared} {env : Env} {A : Around}, CE ρ c env A → SR prog w ι h₀ os₀ ρ σ s → Sp prog w ι h₀ os₀ A (eval e env) (VR ι) (I.ev c e σ) ρ s
  ex : ∀ {c : Cx} {b : List Stmt} {σ : St} {ρ : List Addr} {s : Shared} {env : Env} {A : Around}, CE ρ c env A → SR prog w ι h₀ os₀ ρ σ s → Sp prog w ι h₀ os₀ A (execs b env) (FR ι) (I.ex c b σ) ρ s
  ca : ∀ {fs : List Nat} {dp : Nat} {hd : Bool} {f : AV} {as : List AV} {fv : Value} {vs : List Value} {σ : St} {ρ : List Addr} {s : Shared} {A : Around}, CC ρ fs dp hd A → SR prog w ι h₀ os₀ ρ σ s → VR ι ρ f fv → All2 (VR ι ρ) as vs →
    Sc prog w ι h₀ os₀ A fv vs (VR ι) (I.ca fs dp hd f as σ) ρ s
variable {I : IH} {c : Cx} {σ : St} {ρ : List Addr} {s : Shared} {env : Env} {A : Around}
theorem debug_ne {x : Str} (h : seq x "__debug__" = false) : (x == ("__debug__" : Str)) = false := beq_eq_false_iff_ne.mpr (seq_false h)
theorem frame_of (R : SR prog w ι h₀ os₀ ρ σ s) {k : Nat} {L : Addr} {es : List (Str × AV)} (e : sget σ k = some (.nsp es)) (q : ρ[k]? = some L) : ∃ m, s.heap.Ns L m ∧ NR ι ρ es m := by
  obtain ⟨a, h1, h2⟩ := R.obj k _ e
  rw [q] at h1; cases h1
  exact h2
theorem name_sp (G : GF prog w ι h₀ T K) (C : CE ρ c env A) (R : SR prog w ι h₀ os₀ ρ σ s) (x : Str) (pos : Pos) : Sp prog w ι h₀ os₀ A (eval (.Name x pos) env) (VR ι) (loadN T c x σ) ρ s := by
  obtain ⟨name, L, a, cd, rfl, hL⟩ := C.en
  unfold loadN
  split
  · exact Sp.no
  · rename_i hd
    have hd := debug_ne hd
    rw [kindA_look]
    split
    · rename_i hk
      split
      · rename_i es he
        obtain ⟨m, hn, hm⟩ := frame_of R he hL
        split
        · rename_i v hv
          obtain ⟨u, hu, hr⟩ := hm x v hv
          intro Q E H
          exact wpAny_Name (wpAny_loadName_local C.kind hk hn hu (H _ (.head _) ρ s u (Le.refl ρ) R hr)) hd
        · exact Sp.no
      · exact Sp.no
    · rename_i hk
      split
      · rename_i v hv
        obtain ⟨mg, mb, g1, g2, g3, g4⟩ := G.glob
        intro Q E H
        exact Name_function_global C.kind hk (loadGlobal_global (env := envOf name c.sc L a cd) (g1.keeps R.keep) (g3 x v hv) (H _ (.head _) ρ s v (Le.refl ρ) R rfl)) hd
      · exact Sp.no
    · exact Sp.no
theorem isB_load (G : GF prog w ι h₀ T K) (C : CE ρ c env A) (R : SR prog w ι h₀ os₀ ρ σ s) {x n : Str} {pos : Pos} {v : Value} (h : isB T c x n = true) (hn : n ∈ ([Str.ofString "len", Str.ofString "isinstance", Str.ofString "max", Str.ofString "str", Str.ofString "list", Str.ofString "range", Str.ofString "tuple", Str.ofString "Exception"] : List Str))
    (hv : bootBuiltins n = some v) (hd : (n == ("__debug__" : Str)) = false) {Q : Value → Shared → Prop} {E : Value → Shared → Prop} (q : Q v s) : wpAny (model prog w) A (eval (.Name x pos) env) Q E s := by
  obtain ⟨name, L, a, cd, rfl, hL⟩ := C.en
  unfold isB at h
  split at h
  · rename_i hx
    have hx := seq_true hx
    subst hx
    rw [kindA_look] at h
    split at h
    · rename_i hk
      split at h
      · rename_i hg
        obtain ⟨mg, mb, g1, g2, g3, g4⟩ := G.glob
        obtain ⟨k1, k2⟩ := g4 x hn hg
        exact Name_function_global C.kind hk (loadGlobal_builtin (env := envOf name c.sc L a cd) (g1.keeps R.keep) k1 (g2.keeps R.keep) (k2.trans hv) q) hd
      · cases h
    · cases h
  · cases h
theorem store_sp (C : CE ρ c env A) (R : SR prog w ι h₀ os₀ ρ σ s) {v : AV} {u : Value} (x : Str) (hr : VR ι ρ v u) : Sp prog w ι h₀ os₀ A (storeName env x u) (fun _ (_ : Unit) (_ : Unit) => True) (storeN c x v σ) ρ s := by
  obtain ⟨name, L, a, cd, rfl, hL⟩ := C.en
  unfold storeN
  rw [kindA_look]
  split
  · rename_i hk
    split
    · rename_i es he
      obtain ⟨m, hn, hm⟩ := frame_of R he hL
      intro Q E H
      refine wpAny_storeName_local hk hn (fun h' hn' hs' => H _ (.head _) ρ _ () (Le.refl ρ) (R.upd he hL (sb hs') ⟨_, hn', fun y z e => ?_⟩) trivial) ?_
      · rw [look_put] at e
        split at e
        · rename_i hy; cases e; exact ⟨u, by rw [if_pos hy], hr⟩
        · rename_i hy
          obtain ⟨u', h1, h2⟩ := hm y z e
          exact ⟨u', by rw [if_neg hy]; exact h1, h2⟩
      · show (c.sc.kind == .class || (c.sc.kind == .module && L != mainGlobals)) = false
        rw [C.kind]; rfl
    · exact Sp.no
  · exact Sp.no
theorem const_sp (R : SR prog w ι h₀ os₀ ρ σ s) (k : Const) (k' pos) : Sp prog w ι h₀ os₀ A (eval (.Constant k k' pos) env) (VR ι) (evE T I c (.Constant k k' pos) σ) ρ s := by
  cases k with
  | none => exact Sp.pure R rfl
  | bool b => exact Sp.pure R rfl
  | int i => exact fun Q E H => wpAny_Constant_int (H _ (.head _) ρ _ _ (Le.refl ρ) (R.toks _) ⟨_, rfl⟩)
  | str x => exact fun Q E H => Constant_str (H _ (.head _) ρ _ _ (Le.refl ρ) (R.toks _) ⟨_, rfl⟩)
  | _ => exact Sp.no
theorem spliced_sp (H : Snd prog w ι h₀ os₀ I) (pos : Pos) : ∀ (es : List Expr) {σ : St} {ρ : List Addr} {s : Shared}, CE ρ c env A → SR prog w ι h₀ os₀ ρ σ s →
    Sp prog w ι h₀ os₀ A (spliced (backTo pos (starEach es env))) (fun ρ => All2 (VR ι ρ)) (evs (I.ev c) es σ) ρ s
  | [], σ, ρ, s, C, R => Sp.pure R trivial
  | e :: r, σ, ρ, s, C, R => by
    unfold evs
    split
    · exact Sp.no
    · rename_i hs
      have h1 : spliced (backTo pos (starEach (e :: r) env)) = (do
          let v ← eval e env
          let here ← pure [v]
          return here ++ (← holding here (spliced (backTo pos (starEach r env))))) := by
        cases e <;> first | rfl | cases hs
      rw [h1]
      refine Sp.bind (H.ev C R) fun v σ' _ ρ' s' x L R' hv => ?_
      intro Q E Z
      refine wpAny_bind (wpAny_pure (wpAny_bind (wpAny_holding ?_)))
      refine Sp.seqQ (spliced_sp H pos r (C.le L) R') Z fun vs σ'' _ ρ'' s'' xs L' R'' hvs Z' => ?_
      exact wpAny_pure (Z' _ (.head _) ρ'' s'' _ (Le.refl _) R'' ⟨hv.le ι L', hvs⟩)
end
end Mine
end
noncomputable section
open PySem PySem.W PyProof.Rows PySem.Calls
set_option maxRecDepth 10000
namespace Mine
section
variable {prog : Program} {w : World} {ι : Nat → Int} {h₀ : Heap} {os₀ : OsState} {T : Tab} {K : Frag} {I : IH} {c : Cx} {σ : St} {ρ : List Addr} {s : Shared} {env : Env} {A : Around}
theorem size_of {ρ : List Addr} {xs : List AV} {vs : Array Value} (x : All2 (VR ι ρ) xs vs.toList) : vs.size = xs.length := by rw [← Array.length_toList, x.len]
theorem newlist {h' : Heap} {t : Nat} {xs : List AV} {vs : Array Value} {n : Nat} (R : SR prog w ι h₀ os₀ ρ σ s) (e : h' = s.heap.push { cls := .type "list", data := .seq vs n }) (x : All2 (VR ι ρ) xs vs.toList) :
    SR prog w ι h₀ os₀ (ρ ++ [s.heap.objs.size]) (spush σ (.lst xs)) { s with heap := h', toks := t } := by
  subst e
  exact R.new1 (fun b o e => Heap.get?_push_of_some _ e) (Heap.get?_none_of_le (Nat.le_refl _)) ⟨vs, n, Heap.get?_push_size _ rfl, x.mono fun _ _ y => y.le ι ⟨_, rfl⟩⟩
theorem newtup {h' : Heap} {t : Nat} {xs : List AV} {vs : Array Value} {n : Nat} (R : SR prog w ι h₀ os₀ ρ σ s) (e : h' = s.heap.push { cls := .type "tuple", data := .seq vs n }) (x : All2 (VR ι ρ) xs vs.toList) :
    SR prog w ι h₀ os₀ (ρ ++ [s.heap.objs.size]) (spush σ (.tup xs)) { s with heap := h', toks := t } := by
  subst e
  exact R.new1 (fun b o e => Heap.get?_push_of_some _ e) (Heap.get?_none_of_le (Nat.le_refl _)) ⟨vs, ⟨_, Heap.get?_push_size _ rfl, rfl, _, rfl⟩, x.mono fun _ _ y => y.le ι ⟨_, rfl⟩⟩
theorem at_n (R : SR prog w ι h₀ os₀ ρ σ s) (a : Addr) : (ρ ++ [a])[σ.n]? = some a := by rw [← R.len]; simp
theorem res_ok {x : Int} {m : Nat} {t : Tok} {Q : Value → Shared → Prop} {E : Value → Shared → Prop} (R : SR prog w ι h₀ os₀ ρ σ s) (Z : ∀ o ∈ tapO (m + 1) σ, Post prog w ι h₀ os₀ (VR ι) ρ Q E o) {s' : Shared} (R' : SR prog w ι h₀ os₀ ρ σ s') :
    Q (.int (Int.fmod x (m + 1 : Nat)) t) s' := by
  have h0 : 0 ≤ Int.fmod x (m + 1 : Nat) := Int.fmod_nonneg_of_pos x (by omega)
  have h1 : Int.fmod x (m + 1 : Nat) < (m + 1 : Nat) := Int.fmod_lt_of_pos x (by omega)
  obtain ⟨r, hr⟩ := Int.eq_ofNat_of_zero_le h0
  refine Z (.ok (.ii (Int.ofNat r)) σ) (List.mem_map.mpr ⟨r, List.mem_range.mpr (by omega), rfl⟩) ρ s' _ (Le.refl ρ) R' ⟨_, by rw [hr]; rfl⟩
theorem symO_sp {o : Option Nat} {x : Int} {t : Sem Value} (R : SR prog w ι h₀ os₀ ρ σ s) (ho : ∀ j, o = some j → x = ι j) (h : ∀ (Q : Value → Shared → Prop) (E : Value → Shared → Prop), Q (.int x s.toks) { s with toks := s.toks + 1 } → wpAny (model prog w) A t Q E s) : Sp prog w ι h₀ os₀ A t (VR ι) (symO o σ) ρ s := by
  unfold symO
  split
  · rename_i j
    exact fun Q E H => h Q E (H _ (.head _) ρ _ _ (Le.refl ρ) (R.toks _) ⟨_, by rw [ho j rfl]⟩)
  · exact Sp.no
theorem binop_sp (SY : SymOk ι T) (R : SR prog w ι h₀ os₀ ρ σ s) (op : Operator) {a b : AV} {u v : Value} (ha : VR ι ρ a u) (hb : VR ι ρ b v) : Sp prog w ι h₀ os₀ A (binaryOp op u v) (VR ι) (binop T op a b σ) ρ s := by
  unfold binop
  split
  · rename_i k n
    obtain ⟨t, rfl⟩ := ha; obtain ⟨t', rfl⟩ := hb
    exact symO_sp R (fun j e => SY.add k n j e) fun Q E H => P.add_int H
  · rename_i k n
    obtain ⟨t, rfl⟩ := ha; obtain ⟨t', rfl⟩ := hb
    exact symO_sp R (fun j e => by have := SY.add k (-n) j e; omega) fun Q E H => P.sub_int H
  · rename_i x k
    obtain ⟨t, rfl⟩ := ha; obtain ⟨t', rfl⟩ := hb
    split
    · rename_i hm
      exact fun Q E H => P.mul_int (H _ (.head _) ρ _ _ (Le.refl ρ) (R.toks _) ⟨_, _, rfl⟩) (IntMulOk.of_left (Nat.le_of_ble_eq_true hm))
    · exact Sp.no
  · rename_i k y
    obtain ⟨t, rfl⟩ := ha; obtain ⟨t', rfl⟩ := hb
    split
    · rename_i hm
      rw [Bool.and_eq_true] at hm
      have hm1 := of_decide_eq_true hm.1
      have hm2 := Nat.le_of_ble_eq_true hm.2
      exact fun Q E H => floordiv_int (by omega) (H _ (.head _) ρ _ _ (Le.refl ρ) (R.toks _) ⟨_, _, rfl⟩) (.inl (PyProof.noPylong_small (by omega)))
    · exact Sp.no
  · obtain ⟨i, t, rfl⟩ := ha; obtain ⟨i', t', rfl⟩ := hb
    exact fun Q E H => P.add_int (H _ (.head _) ρ _ _ (Le.refl ρ) (R.toks _) ⟨_, _, rfl⟩)
  · obtain ⟨i, t, rfl⟩ := ha; obtain ⟨t', rfl⟩ := hb
    exact fun Q E H => P.add_int (H _ (.head _) ρ _ _ (Le.refl ρ) (R.toks _) ⟨_, _, rfl⟩)
  · rename_i m
    obtain ⟨i, t, rfl⟩ := ha; obtain ⟨t', rfl⟩ := hb
    exact fun Q E H => mod_int (by show ((m + 1 : Nat) : Int) ≠ 0; omega) (res_ok R H (R.toks _))
  · rename_i k y
    obtain ⟨t, rfl⟩ := ha; obtain ⟨t', rfl⟩ := hb
    split
    · rename_i r hy hr
      have hy := of_decide_eq_true hy
      have hr := SY.mod k y r hr
      subst hr
      exact fun Q E H => mod_int (by omega) (H _ (.head _) ρ _ _ (Le.refl ρ) (R.toks _) ⟨_, rfl⟩)
    · exact Sp.no
  · obtain ⟨t, rfl⟩ := ha; obtain ⟨t', rfl⟩ := hb
    exact fun Q E H => P.add_int (H _ (.head _) ρ _ _ (Le.refl ρ) (R.toks _) ⟨_, rfl⟩)
  · obtain ⟨t, rfl⟩ := ha; obtain ⟨t', rfl⟩ := hb
    exact fun Q E H => P.sub_int (H _ (.head _) ρ _ _ (Le.refl ρ) (R.toks _) ⟨_, rfl⟩)
  · rename_i x y
    obtain ⟨t, rfl⟩ := ha; obtain ⟨t', rfl⟩ := hb
    split
    · rename_i hm
      exact fun Q E H => P.mul_int (H _ (.head _) ρ _ _ (Le.refl ρ) (R.toks _) ⟨_, rfl⟩) (IntMulOk.of_left (Nat.le_of_ble_eq_true hm))
    · exact Sp.no
  · rename_i x y
    obtain ⟨t, rfl⟩ := ha; obtain ⟨t', rfl⟩ := hb
    split
    · rename_i hm
      have hm := of_decide_eq_true hm
      exact fun Q E H => mod_int (by omega) (H _ (.head _) ρ _ _ (Le.refl ρ) (R.toks _) ⟨_, rfl⟩)
    · exact Sp.no
  · rename_i x y
    obtain ⟨t, rfl⟩ := ha; obtain ⟨t', rfl⟩ := hb
    split
    · rename_i hm
      have hm := Nat.le_of_ble_eq_true hm
      exact fun Q E H => SB.add (fun t' k => H _ (.head _) ρ _ _ (Le.refl ρ) (R.toks _) ⟨_, rfl⟩) (by rw [sizeLine_eq]; omega)
    · exact Sp.no
  · rename_i i j
    split
    · rename_i xs ys hx hy
      obtain ⟨a, ea, rfl, vs, n, oa, ra⟩ := R.ref hx ha
      obtain ⟨b, eb, rfl, us, k, ob, rb⟩ := R.ref hy hb
      split
      · rename_i hm
        have hm := Nat.le_of_ble_eq_true hm
        intro Q E H
        refine P.add_list oa ob (H _ (.head _) (ρ ++ [s.heap.objs.size]) _ _ ⟨_, rfl⟩ (newlist (t := s.toks) R rfl ?_) ⟨_, at_n R _, rfl⟩) (by rw [sizeLine_eq, size_of ra, size_of rb]; omega)
        rw [Array.toList_append]
        exact ra.append rb
      · exact Sp.no
    · exact Sp.no
  · exact Sp.no
end
end Mine
end
noncomputable section
open PySem PySem.W PyProof.Rows PySem.Calls
set_option maxRecDepth 10000
namespace Mine
section
variable {prog : Program} {w : World} {ι : Nat → Int} {h₀ : Heap} {os₀ : OsState} {T : Tab} {K : Frag} {I : IH} {c : Cx} {σ : St} {ρ : List Addr} {s : Shared} {env : Env} {A : Around}
noncomputable def Cmp (prog : Program) (w : World) (A : Around) (op : CmpOp) (u v : Value) (r : Bool) (s : Shared) : Prop :=
  ∀ (Q : Value → Shared → Prop) (E : Value → Shared → Prop), (∀ t, Q (.bool r) { s with toks := t }) → wpAny (model prog w) A (compareOp op u v) Q E s
theorem str_beq (x y : Str) : (x == y) = seq x y := by rw [seq_iff]; rfl
theorem strL_ne (x y : Str) : (x.cps.toList != y.cps.toList) = !seq x y := by
  rw [seq_iff]
  by_cases h : x = y
  · subst h; simp
  · rw [decide_eq_false h]
    simp only [Bool.not_false, bne_iff_ne, ne_eq]
    intro q
    apply h
    obtain ⟨a⟩ := x; obtain ⟨b⟩ := y
    have q : a = b := Array.toList_inj.mp q
    rw [q]
noncomputable def ivals (ι : Nat → Int) : AV → Int
  | .ii i => i
  | .sy k => ι k
  | _ => 0
theorem leq_vals : ∀ {xs ys : List AV} {us vs : List Value}, leq xs ys = some true → All2 (VR ι ρ) xs us → All2 (VR ι ρ) ys vs →
    IntsAre us (xs.map (ivals ι)) ∧ IntsAre vs (ys.map (ivals ι)) ∧ xs.map (ivals ι) = ys.map (ivals ι)
  | [], [], [], [], _, _, _ => ⟨.nil, .nil, rfl⟩
  | a :: l, b :: m, u :: us, v :: vs, h, x, y => by
    simp only [leq] at h
    split at h
    · rename_i q
      obtain ⟨h1, h2, h3⟩ := leq_vals h x.2 y.2
      have hx := x.1
      have hy := y.1
      unfold ieq at q
      split at q
      · obtain ⟨t, rfl⟩ := hx; obtain ⟨t', rfl⟩ := hy
        simp only [Option.some.injEq, decide_eq_true_eq] at q
        subst q
        exact ⟨.cons _ _ h1, .cons _ _ h2, by simp only [List.map_cons, h3]⟩
      · split at q
        · rename_i hk
          have := Nat.eq_of_beq_eq_true hk
          subst this
          obtain ⟨t, rfl⟩ := hx; obtain ⟨t', rfl⟩ := hy
          exact ⟨.cons _ _ h1, .cons _ _ h2, by simp only [List.map_cons, h3]⟩
        · cases q
      · cases q
    · cases h
  | [], _ :: _, _, _, h, _, _ => by cases h
  | _ :: _, [], _, _, h, _, _ => by cases h
  | _ :: _, _, [], _, _, x, _ => x.elim
  | _, _ :: _, _, [], _, _, y => y.elim
  | [], _, _ :: _, _, _, x, _ => x.elim
  | _, [], _, _ :: _, _, _, y => y.elim
theorem leq_true {xs ys : List AV} {r : Bool} (h : leq xs ys = some r) : r = true := by
  induction xs generalizing ys with
  | nil => cases ys with
    | nil => cases h; rfl
    | cons => cases h
  | cons a l ih => cases ys with
    | nil => cases h
    | cons b m =>
      simp only [leq] at h
      split at h
      · exact ih h
      · cases h
theorem cmpEq_cases (R : SR prog w ι h₀ os₀ ρ σ s) (hu : A.units ≤ 2000) {a b : AV} {u v : Value} (ha : VR ι ρ a u) (hb : VR ι ρ b v) :
    cmpEq a b σ = noo ∨ ∃ r, cmpEq a b σ = okk r σ ∧ Cmp prog w A .Eq u v r s ∧ Cmp prog w A .NotEq u v (!r) s := by
  have cl : cLine = 9900 := rfl
  unfold cmpEq
  split
  · rename_i i j
    split
    · rename_i xs ys hx hy
      obtain ⟨a, ea, rfl, vs, n, oa, ra⟩ := R.ref hx ha
      obtain ⟨b, eb, rfl, us, k, ob, rb⟩ := R.ref hy hb
      have la : s.heap.IsList a vs := ⟨_, oa, rfl, n, rfl⟩
      have lb : s.heap.IsList b us := ⟨_, ob, rfl, k, rfl⟩
      split
      · rename_i x xs
        have hz : (vs.size != us.size) = true := by rw [size_of ra, size_of rb]; simp
        refine .inr ⟨false, rfl, fun Q E H => ?_, fun Q E H => ?_⟩
        · exact PySem.EqBoolInt.of_rc (SeqAt.RcAt.lists_lengths la lb hz (by omega)) (H s.toks)
        · exact PySem.EqBoolInt.of_rcne (SeqAt.RcNeAt.lists_lengths la lb hz (by omega)) (H s.toks)
      · split
        · rename_i r hr
          have := leq_true hr
          subst this
          obtain ⟨h1, h2, h3⟩ := leq_vals hr ra rb
          refine .inr ⟨true, rfl, fun Q E H => ?_, fun Q E H => ?_⟩
          · refine eq_intsK (vs := vs.toList) (us := us.toList) la h1 lb h2 (by omega) ?_
            rw [h3]; simpa using H s.toks
          · refine ne_intsK (vs := vs.toList) (us := us.toList) la h1 lb h2 (by omega) ?_
            rw [h3]; simpa using H s.toks
        · exact .inl rfl
    · exact .inl rfl
  · split
    · rename_i r hr
      refine .inr ⟨r, rfl, ?_⟩
      unfold aeq at hr
      split at hr
      · obtain ⟨t, rfl⟩ := ha; obtain ⟨t', rfl⟩ := hb
        cases hr
        exact ⟨fun Q E H => P.eq_int (H s.toks), fun Q E H => P.ne_int (H s.toks)⟩
      · split at hr
        · rename_i hk
          have := Nat.eq_of_beq_eq_true hk
          subst this
          obtain ⟨t, rfl⟩ := ha; obtain ⟨t', rfl⟩ := hb
          cases hr
          exact ⟨fun Q E H => P.eq_int (by simpa using H s.toks), fun Q E H => P.ne_int (by simpa using H s.toks)⟩
        · cases hr
      · obtain ⟨t, rfl⟩ := ha; obtain ⟨t', rfl⟩ := hb
        cases hr
        exact ⟨fun Q E H => eq_str (by rw [str_beq]; exact H s.toks), fun Q E H => P.ne_str (by rw [strL_ne]; exact H s.toks)⟩
      · cases ha; cases hb; cases hr
        exact ⟨fun Q E H => eq_bool (H s.toks), fun Q E H => ne_bool (H s.toks)⟩
      · cases hr
    · exact .inl rfl
theorem cmpIs_cases {a b : AV} {u v : Value} (ha : VR ι ρ a u) (hb : VR ι ρ b v) :
    cmpIs a b σ = noo ∨ ∃ r, cmpIs a b σ = okk r σ ∧ Cmp prog w A .Is u v r s ∧ Cmp prog w A .IsNot u v (!r) s := by
  unfold cmpIs
  split
  · cases hb
    split
    · rename_i r hr
      refine .inr ⟨r, rfl, ?_⟩
      unfold isNone at hr
      split at hr
      · cases ha; cases hr
        exact ⟨fun Q E H => is_none_none (H s.toks), fun Q E H => isnot_none_none (H s.toks)⟩
      · cases hr; obtain ⟨a, _, rfl⟩ := ha
        exact ⟨fun Q E H => is_ref_none (H s.toks), fun Q E H => isnot_ref_none (H s.toks)⟩
      · cases hr; obtain ⟨t, rfl⟩ := ha
        exact ⟨fun Q E H => is_int_none (H s.toks), fun Q E H => isnot_int_none (H s.toks)⟩
      · cases hr; obtain ⟨t, rfl⟩ := ha
        exact ⟨fun Q E H => is_str_none (H s.toks), fun Q E H => isnot_str_none (H s.toks)⟩
      · cases hr; cases ha
        exact ⟨fun Q E H => is_bool_none (H s.toks), fun Q E H => isnot_bool_none (H s.toks)⟩
      · cases hr; obtain ⟨t, rfl⟩ := ha
        exact ⟨fun Q E H => is_int_none (H s.toks), fun Q E H => isnot_int_none (H s.toks)⟩
      · cases hr
    · exact .inl rfl
  · exact .inl rfl
theorem anyN_eq (x : Str) : ∀ l : List Str, l.any (· == x) = anyN l x
  | [] => rfl
  | y :: r => by
    rw [List.any_cons, anyN_eq x r, str_beq]
    show (seq y x || anyN r x) = (match seq y x with | true => true | false => anyN r x)
    cases seq y x
    · exact Bool.false_or _
    · rfl
theorem strs_are : ∀ {xs : List AV} {vs : List Value} {l : List Str}, strsOf xs = some l → All2 (VR ι ρ) xs vs → StrsAre vs l
  | [], [], l, h, _ => by cases h; exact .nil
  | a :: r, v :: vs, l, h, q => by
    unfold strsOf at h
    split at h
    · rename_i hh; cases hh
    · rename_i y r' hh
      cases hh
      split at h
      · rename_i l' hl
        cases h
        obtain ⟨t, rfl⟩ := q.1
        exact .cons _ _ (strs_are hl q.2)
      · cases h
    · cases h
  | [], _ :: _, _, _, q => q.elim
  | _ :: _, [], _, _, q => q.elim
theorem look_val : ∀ {es : List (Str × AV)} {kvs : List (Str × Value)} {x : Str} {v : AV}, All2 (fun p q => p.1 = q.1 ∧ VR ι ρ p.2 q.2) es kvs → look es x = some v → ∃ u, valueAt kvs x = some u ∧ VR ι ρ v u
  | [], [], x, v, _, h => by cases h
  | p :: r, q :: m, x, v, z, h => by
    obtain ⟨⟨z1, z2⟩, z3⟩ := z
    unfold look at h
    split at h
    · rename_i hs
      cases h
      have hs := seq_true hs
      exact ⟨q.2, by unfold valueAt; rw [List.find?_cons_of_pos (by rw [← z1, hs]; simp)]; rfl, z2⟩
    · rename_i hs
      have hs := seq_false hs
      obtain ⟨u, h1, h2⟩ := look_val z3 h
      exact ⟨u, by unfold valueAt; rw [List.find?_cons_of_neg (by rw [← z1]; simpa using hs)]; exact h1, h2⟩
  | [], _ :: _, _, _, z, _ => z.elim
  | _ :: _, [], _, _, z, _ => z.elim
theorem key_is (x : Str) (t : Tok) : (PySem.strKind prog w).is x (.str x t) = true := by
  show Value.isStrOf x (.str x t) = true
  unfold Value.isStrOf
  simp
theorem cmpIn_cases (G : ∀ q l, T.tup q = some l → ∃ vs, IsTup h₀ q vs ∧ StrsAre vs.toList l) (hsm : h₀.get? sysModules ≠ none) (R : SR prog w ι h₀ os₀ ρ σ s) {a b : AV} {u v : Value} (ha : VR ι ρ a u) (hb : VR ι ρ b v) :
    cmpIn T a b σ = noo ∨ ∃ r, cmpIn T a b σ = okk r σ ∧ Cmp prog w A .In u v r s ∧ Cmp prog w A .NotIn u v (!r) s := by
  unfold cmpIn
  split
  · rename_i j x
    obtain ⟨t, rfl⟩ := ha
    split
    · rename_i xs hx
      obtain ⟨a, ea, rfl, vs, hv, ra⟩ := R.ref hx hb
      split
      · rename_i l hl
        have z := strs_are hl ra
        exact .inr ⟨_, rfl, fun Q E H => in_tuple_strs hv z (by rw [anyN_eq]; exact H s.toks), fun Q E H => notin_tuple_strs hv z (by rw [anyN_eq]; exact H s.toks)⟩
      · exact .inl rfl
    · rename_i es hx
      obtain ⟨a, ea, rfl, kvs, hv, ra⟩ := R.ref hx hb
      have hd : (a == sysModules) = false := by
        refine beq_eq_false_iff_ne.mpr fun q => hsm ?_
        subst q
        exact R.new _ _ _ hx ea
      split
      · rename_i y hy
        obtain ⟨w', h1, h2⟩ := look_val ra hy
        refine .inr ⟨true, rfl, fun Q E H => ?_, fun Q E H => ?_⟩
        · exact wpAny_in_of (k := x) (key_is x t) hd hv.mapOf (by rw [h1]; exact H _)
        · exact wpAny_notIn_of (k := x) (key_is x t) hd hv.mapOf (by rw [h1]; exact H _)
      · exact .inl rfl
    · rename_i es hx
      obtain ⟨a, ea, rfl, kvs, hv, ra⟩ := R.ref hx hb
      have hd : (a == sysModules) = false := by
        refine beq_eq_false_iff_ne.mpr fun q => hsm ?_
        subst q
        exact R.new _ _ _ hx ea
      split
      · rename_i y hy
        obtain ⟨w', h1, h2⟩ := ra x y hy
        refine .inr ⟨true, rfl, fun Q E H => ?_, fun Q E H => ?_⟩
        · exact wpAny_in_of (k := x) (key_is x t) hd hv.mapOf (by rw [h1]; exact H _)
        · exact wpAny_notIn_of (k := x) (key_is x t) hd hv.mapOf (by rw [h1]; exact H _)
      · exact .inl rfl
    · exact .inl rfl
  · rename_i q x
    obtain ⟨t, rfl⟩ := ha
    cases hb
    split
    · rename_i l hl
      obtain ⟨vs, h1, h2⟩ := G q l hl
      exact .inr ⟨_, rfl, fun Q E H => in_tuple_strs (h1.keeps R.keep) h2 (by rw [anyN_eq]; exact H s.toks), fun Q E H => notin_tuple_strs (h1.keeps R.keep) h2 (by rw [anyN_eq]; exact H s.toks)⟩
    · exact .inl rfl
  · exact .inl rfl
noncomputable def BR (ρ : List Addr) (b : Bool) (v : Value) : Prop := v = .bool b
theorem Cmp.sp {op : CmpOp} {u v : Value} {r : Bool} (R : SR prog w ι h₀ os₀ ρ σ s) (h : Cmp prog w A op u v r s) : Sp prog w ι h₀ os₀ A (compareOp op u v) BR (okk r σ) ρ s :=
  fun Q E H => h Q E fun t => H _ (.head _) ρ _ _ (Le.refl ρ) (R.toks _) rfl
theorem cmpB_sp (SY : SymOk ι T) (G : ∀ q l, T.tup q = some l → ∃ vs, IsTup h₀ q vs ∧ StrsAre vs.toList l) (hsm : h₀.get? sysModules ≠ none) (R : SR prog w ι h₀ os₀ ρ σ s) (hu : A.units ≤ 2000) (op : CmpOp) {a b : AV} {u v : Value} (ha : VR ι ρ a u) (hb : VR ι ρ b v) :
    Sp prog w ι h₀ os₀ A (compareOp op u v) BR (cmpB T op a b σ) ρ s := by
  cases op <;> simp only [cmpB]
  case Eq =>
    rcases cmpEq_cases R hu ha hb with e | ⟨r, e, h1, h2⟩ <;> rw [e]
    · exact Sp.no
    · exact h1.sp R
  case NotEq =>
    rcases cmpEq_cases R hu ha hb with e | ⟨r, e, h1, h2⟩ <;> rw [e]
    · exact Sp.no
    · exact h2.sp R
  case Is =>
    rcases cmpIs_cases (prog := prog) (w := w) (A := A) (s := s) ha hb with e | ⟨r, e, h1, h2⟩ <;> rw [e]
    · exact Sp.no
    · exact h1.sp R
  case IsNot =>
    rcases cmpIs_cases (prog := prog) (w := w) (A := A) (s := s) ha hb with e | ⟨r, e, h1, h2⟩ <;> rw [e]
    · exact Sp.no
    · exact h2.sp R
  case In =>
    rcases cmpIn_cases (A := A) G hsm R ha hb with e | ⟨r, e, h1, h2⟩ <;> rw [e]
    · exact Sp.no
    · exact h1.sp R
  case NotIn =>
    rcases cmpIn_cases (A := A) G hsm R ha hb with e | ⟨r, e, h1, h2⟩ <;> rw [e]
    · exact Sp.no
    · exact h2.sp R
  case Lt =>
    split
    · obtain ⟨t, rfl⟩ := ha; obtain ⟨t', rfl⟩ := hb
      exact Cmp.sp R fun Q E H => P.lt_int (H s.toks)
    · exact Sp.no
  case LtE =>
    split
    · obtain ⟨t, rfl⟩ := ha; obtain ⟨t', rfl⟩ := hb
      exact Cmp.sp R fun Q E H => P.le_int (H s.toks)
    · rename_i x y
      split
      · rename_i r hr
        have hr := SY.le x y r hr
        subst hr
        obtain ⟨t, rfl⟩ := ha; obtain ⟨t', rfl⟩ := hb
        exact Cmp.sp R fun Q E H => P.le_int (H s.toks)
      · exact Sp.no
    · rename_i x y
      split
      · rename_i r hr
        have hr := iLe_ok SY hr
        subst hr
        obtain ⟨t, rfl⟩ := ha; obtain ⟨t', rfl⟩ := hb
        exact Cmp.sp R fun Q E H => P.le_int (H s.toks)
      · exact Sp.no
    · rename_i x y
      split
      · rename_i r hr
        have hr := leI_ok SY hr
        subst hr
        obtain ⟨t, rfl⟩ := ha; obtain ⟨t', rfl⟩ := hb
        exact Cmp.sp R fun Q E H => P.le_int (H s.toks)
      · exact Sp.no
    · exact Sp.no
  case Gt =>
    split
    · obtain ⟨t, rfl⟩ := ha; obtain ⟨t', rfl⟩ := hb
      exact Cmp.sp R fun Q E H => P.gt_int (H s.toks)
    · exact Sp.no
  case GtE =>
    split
    · obtain ⟨t, rfl⟩ := ha; obtain ⟨t', rfl⟩ := hb
      exact Cmp.sp R fun Q E H => P.ge_int (H s.toks)
    · rename_i x y
      split
      · rename_i r hr
        have hr := iLe_ok SY hr
        subst hr
        obtain ⟨t, rfl⟩ := ha; obtain ⟨t', rfl⟩ := hb
        exact Cmp.sp R fun Q E H => P.ge_int (H s.toks)
      · exact Sp.no
    · rename_i x y
      split
      · rename_i r hr
        have hr := leI_ok SY hr
        subst hr
        obtain ⟨t, rfl⟩ := ha; obtain ⟨t', rfl⟩ := hb
        exact Cmp.sp R fun Q E H => P.ge_int (H s.toks)
      · exact Sp.no
    · exact Sp.no
theorem truth_sp (R : SR prog w ι h₀ os₀ ρ σ s) {a : AV} {u : Value} (ha : VR ι ρ a u) : Sp prog w ι h₀ os₀ A (truthy u) (fun _ b (v : Bool) => v = b) (truth a σ) ρ s := by
  unfold truth
  split
  · cases ha; exact fun Q E H => wpAny_truthy_bool (H _ (.head _) ρ s _ (Le.refl ρ) R rfl)
  · cases ha; exact Sp.pure R rfl
  · exact Sp.no
end
end Mine
end
noncomputable section
open PySem PySem.W PyProof.Rows PySem.Calls
set_option maxRecDepth 10000
namespace Mine
section
variable {prog : Program} {w : World} {ι : Nat → Int} {h₀ : Heap} {os₀ : OsState} {T : Tab} {K : Frag} {I : IH} {c : Cx} {σ : St} {ρ : List Addr} {s : Shared} {env : Env} {A : Around}
theorem Sp.hold {α β : Type} {t : Sem β} {RA : List Addr → α → β → Prop} {outs : List (Out α)} {vs : List Value} (h : Sp prog w ι h₀ os₀ A t RA outs ρ s) : Sp prog w ι h₀ os₀ A (holding vs t) RA outs ρ s :=
  fun Q E H => wpAny_holding (h Q E H)
theorem Sp.stand {α β : Type} {f : Unit → Sem β} {RA : List Addr → α → β → Prop} {outs : List (Out α)} {p : Pos} (h : Sp prog w ι h₀ os₀ A (f ()) RA outs ρ s) : Sp prog w ι h₀ os₀ A (standAt p >>= f) RA outs ρ s :=
  fun Q E H => wpAny_bind (wpAny_standAt (h Q E H))
theorem Sp.rel {α β : Type} {f : Unit → Sem β} {RA : List Addr → α → β → Prop} {outs : List (Out α)} {vs ks : List Value} (h : Sp prog w ι h₀ os₀ A (f ()) RA outs ρ s) : Sp prog w ι h₀ os₀ A (release vs ks >>= f) RA outs ρ s :=
  fun Q E H => wpAny_bind (wpAny_release (h Q E H))
theorem Sp.oper {α : Type} {t : Sem Value} {RA : List Addr → α → Value → Prop} {outs : List (Out α)} {vs : List Value} (h : Sp prog w ι h₀ os₀ A t RA outs ρ s) : Sp prog w ι h₀ os₀ A (operate vs t) RA outs ρ s :=
  fun Q E H => wpAny_operating (h Q E H)
theorem CE.u {ρ : List Addr} {c : Cx} {env : Env} {A : Around} (C : CE ρ c env A) : A.units ≤ 2000 := by have := C.units; have := C.dl; omega
theorem marks_of {op : CmpOp} {e : Expr} (h : isSet e = false) (t : Sem Value) : markedBehindIn op e t = t := by
  unfold markedBehindIn behindInMarks
  cases e <;> first | rfl | cases h
theorem cmpCh_sp (H : Snd prog w ι h₀ os₀ I) (G : GF prog w ι h₀ T K) (pos : Pos) : ∀ (ops : List CmpOp) (rs : List Expr) {l : AV} {lv : Value} {σ : St} {ρ : List Addr} {s : Shared}, CE ρ c env A → SR prog w ι h₀ os₀ ρ σ s → VR ι ρ l lv →
    Sp prog w ι h₀ os₀ A (compareChain pos lv ops (markedEach ops rs (evalEach rs env))) BR (cmpCh T (I.ev c) l ops rs σ) ρ s
  | [], rs, l, lv, σ, ρ, s, C, R, hl => by
    have : cmpCh T (I.ev c) l [] rs σ = noo := by unfold cmpCh; rfl
    rw [this]; exact Sp.no
  | op :: ops, [], l, lv, σ, ρ, s, C, R, hl => by
    have : cmpCh T (I.ev c) l (op :: ops) [] σ = noo := by cases ops <;> (unfold cmpCh; rfl)
    rw [this]; exact Sp.no
  | [op], [r], l, lv, σ, ρ, s, C, R, hl => by
    unfold cmpCh
    split
    · exact Sp.no
    · rename_i hs
      show Sp prog w ι h₀ os₀ A (compareChain pos lv [op] [markedBehindIn op r (eval r env)]) _ _ _ _
      rw [marks_of hs]
      refine Sp.bind (Sp.hold (H.ev C R)) fun v σ' _ ρ' s' x L R' hv => ?_
      exact Sp.stand (Sp.oper (cmpB_sp G.sym G.tup G.mods R' (C.u) op (hl.le ι L) hv))
  | op :: op2 :: ops, r :: rs, l, lv, σ, ρ, s, C, R, hl => by
    unfold cmpCh
    split
    · exact Sp.no
    · rename_i hs
      show Sp prog w ι h₀ os₀ A (compareChain pos lv (op :: op2 :: ops) (eval r env :: markedEach (op2 :: ops) rs (evalEach rs env))) _ _ _ _
      refine Sp.bind (Sp.hold (H.ev C R)) fun v σ' _ ρ' s' x L R' hv => ?_
      refine Sp.stand ?_
      refine Sp.bind (Sp.hold (cmpB_sp G.sym G.tup G.mods R' (C.u) op (hl.le ι L) hv)) fun b σ'' _ ρ'' s'' y L' R'' hb => ?_
      cases hb
      refine Sp.rel ?_
      intro Q E Z
      refine wpAny_bind (wpAny_holding (wpAny_truthy_bool ?_))
      cases b with
      | true => exact cmpCh_sp H G pos (op2 :: ops) rs (C.le (L.trans L')) R'' (hv.le ι L') Q E Z
      | false => exact Sp.pure (RA := BR) (a := false) R'' rfl Q E Z
  | [op], r :: r2 :: rs, l, lv, σ, ρ, s, C, R, hl => by
    unfold cmpCh
    split
    · exact Sp.no
    · rename_i hs
      show Sp prog w ι h₀ os₀ A (compareChain pos lv [op] (eval r env :: markedEach [] (r2 :: rs) (evalEach (r2 :: rs) env))) _ _ _ _
      refine Sp.bind (Sp.hold (H.ev C R)) fun v σ' _ ρ' s' x L R' hv => ?_
      refine Sp.stand ?_
      refine Sp.bind (Sp.hold (cmpB_sp G.sym G.tup G.mods R' (C.u) op (hl.le ι L) hv)) fun b σ'' _ ρ'' s'' y L' R'' hb => ?_
      cases hb
      refine Sp.rel ?_
      intro Q E Z
      refine wpAny_bind (wpAny_holding (wpAny_truthy_bool ?_))
      cases b with
      | true => exact cmpCh_sp H G pos [] (r2 :: rs) (C.le (L.trans L')) R'' (hv.le ι L') Q E Z
      | false => exact Sp.pure (RA := BR) (a := false) R'' rfl Q E Z
noncomputable def TR (ρ : List Addr) (b : Bool) (v : Bool) : Prop := v = b
theorem truthB (R : SR prog w ι h₀ os₀ ρ σ s) {b : Bool} : Sp prog w ι h₀ os₀ A (truthy (.bool b)) TR (okk b σ) ρ s := fun Q E Z => wpAny_truthy_bool (Z _ (.head _) ρ s _ (Le.refl ρ) R rfl)
theorem Sp.turn {α β γ : Type} {t : Sem β} {f : β → Sem γ} {RA : List Addr → α → β → Prop} {RB : List Addr → α → γ → Prop} {outs : List (Out α)}
    (h : Sp prog w ι h₀ os₀ A t RA outs ρ s)
    (k : ∀ a σ', .ok a σ' ∈ outs → ∀ ρ' s' x, Le ρ ρ' → SR prog w ι h₀ os₀ ρ' σ' s' → RA ρ' a x → Sp prog w ι h₀ os₀ A (f x) RB (okk a σ') ρ' s') :
    Sp prog w ι h₀ os₀ A (t >>= f) RB outs ρ s := by
  intro Q E Z
  refine wpAny_bind (h _ E fun o ho => ?_)
  cases o with
  | ok a σ' =>
    intro ρ' s' x L R ra
    refine k a σ' ho ρ' s' x L R ra Q E fun o' m => ?_
    cases List.mem_singleton.mp m
    exact (Z _ ho).le L
  | ex v σ' => exact Z _ ho
  | no => exact Z _ ho
theorem testCh_sp (H : Snd prog w ι h₀ os₀ I) (G : GF prog w ι h₀ T K) (pos : Pos) : ∀ (ops : List CmpOp) (rs : List Expr) {l : AV} {lv : Value} {σ : St} {ρ : List Addr} {s : Shared}, CE ρ c env A → SR prog w ι h₀ os₀ ρ σ s → VR ι ρ l lv →
    Sp prog w ι h₀ os₀ A (testChain pos lv ops (markedEach ops rs (evalEach rs env))) TR (cmpCh T (I.ev c) l ops rs σ) ρ s
  | [], rs, l, lv, σ, ρ, s, C, R, hl => by
    have : cmpCh T (I.ev c) l [] rs σ = noo := by unfold cmpCh; rfl
    rw [this]; exact Sp.no
  | op :: ops, [], l, lv, σ, ρ, s, C, R, hl => by
    have : cmpCh T (I.ev c) l (op :: ops) [] σ = noo := by cases ops <;> (unfold cmpCh; rfl)
    rw [this]; exact Sp.no
  | [op], [r], l, lv, σ, ρ, s, C, R, hl => by
    unfold cmpCh
    split
    · exact Sp.no
    · rename_i hs
      show Sp prog w ι h₀ os₀ A (testChain pos lv [op] [markedBehindIn op r (eval r env)]) _ _ _ _
      rw [marks_of hs]
      refine Sp.bind (Sp.hold (H.ev C R)) fun v σ' _ ρ' s' x L R' hv => ?_
      refine Sp.stand (Sp.turn (Sp.oper (cmpB_sp G.sym G.tup G.mods R' C.u op (hl.le ι L) hv)) fun b σ'' _ ρ'' s'' y L' R'' hb => ?_)
      cases hb
      exact Sp.hold (truthB R'')
  | op :: op2 :: ops, r :: rs, l, lv, σ, ρ, s, C, R, hl => by
    unfold cmpCh
    split
    · exact Sp.no
    · rename_i hs
      show Sp prog w ι h₀ os₀ A (testChain pos lv (op :: op2 :: ops) (eval r env :: markedEach (op2 :: ops) rs (evalEach rs env))) _ _ _ _
      refine Sp.bind (Sp.hold (H.ev C R)) fun v σ' _ ρ' s' x L R' hv => ?_
      refine Sp.stand ?_
      refine Sp.bind (Sp.hold (cmpB_sp G.sym G.tup G.mods R' C.u op (hl.le ι L) hv)) fun b σ'' _ ρ'' s'' y L' R'' hb => ?_
      cases hb
      refine Sp.rel ?_
      intro Q E Z
      refine wpAny_bind (wpAny_holding (wpAny_truthy_bool ?_))
      cases b with
      | true => exact testCh_sp H G pos (op2 :: ops) rs (C.le (L.trans L')) R'' (hv.le ι L') Q E Z
      | false => exact Sp.pure (RA := TR) (a := false) R'' rfl Q E Z
  | [op], r :: r2 :: rs, l, lv, σ, ρ, s, C, R, hl => by
    unfold cmpCh
    split
    · exact Sp.no
    · rename_i hs
      show Sp prog w ι h₀ os₀ A (testChain pos lv [op] (eval r env :: markedEach [] (r2 :: rs) (evalEach (r2 :: rs) env))) _ _ _ _
      refine Sp.bind (Sp.hold (H.ev C R)) fun v σ' _ ρ' s' x L R' hv => ?_
      refine Sp.stand ?_
      refine Sp.bind (Sp.hold (cmpB_sp G.sym G.tup G.mods R' C.u op (hl.le ι L) hv)) fun b σ'' _ ρ'' s'' y L' R'' hb => ?_
      cases hb
      refine Sp.rel ?_
      intro Q E Z
      refine wpAny_bind (wpAny_holding (wpAny_truthy_bool ?_))
      cases b with
      | true => exact testCh_sp H G pos [] (r2 :: rs) (C.le (L.trans L')) R'' (hv.le ι L') Q E Z
      | false => exact Sp.pure (RA := TR) (a := false) R'' rfl Q E Z
mutual
theorem tr_sp (H : Snd prog w ι h₀ os₀ I) (G : GF prog w ι h₀ T K) : ∀ (n : Nat) (e : Expr) {σ : St} {ρ : List Addr} {s : Shared}, CE ρ c env A → SR prog w ι h₀ os₀ ρ σ s →
    Sp prog w ι h₀ os₀ A (isTrue e env (eval e env)) TR (tr T (I.ev c) n e σ) ρ s
  | 0, e, σ, ρ, s, C, R => by unfold tr; exact Sp.no
  | n + 1, e, σ, ρ, s, C, R => by
    have dflt : (isTrue e env (eval e env) = (eval e env >>= fun v => standAt e.pos >>= fun _ => holding [v] (truthy v))) → Sp prog w ι h₀ os₀ A (isTrue e env (eval e env)) TR (obind (I.ev c e σ) truth) ρ s := fun q => by
      rw [q]
      exact Sp.bind (H.ev C R) fun v σ' _ ρ' s' x L R' hv => Sp.stand (Sp.hold (truth_sp R' hv))
    unfold tr
    cases e with
    | UnaryOp op x p =>
      cases op with
      | Not =>
        rw [arm_isTrue_UnaryOp]
        refine Sp.bind (tr_sp H G n x C R) fun b σ' _ ρ' s' v L R' hv => ?_
        cases hv
        exact Sp.pure R' rfl
      | _ => exact Sp.no
    | BoolOp op vs p =>
      rw [arm_isTrue_BoolOp]
      exact go_sp H G n op vs C R
    | Compare l ops rs p =>
      rw [arm_isTrue_Compare]
      exact Sp.bind (H.ev C R) fun v σ' _ ρ' s' x L R' hv => testCh_sp H G p ops rs (C.le L) R' hv
    | IfExp t b o p => exact Sp.no
    | _ => exact dflt rfl
theorem go_sp (H : Snd prog w ι h₀ os₀ I) (G : GF prog w ι h₀ T K) : ∀ (n : Nat) (op : BoolOp) (vs : List Expr) {σ : St} {ρ : List Addr} {s : Shared}, CE ρ c env A → SR prog w ι h₀ os₀ ρ σ s →
    Sp prog w ι h₀ os₀ A (allTrue op vs env) TR (tr.go T (I.ev c) n op vs σ) ρ s
  | n, op, [], σ, ρ, s, C, R => by unfold tr.go; exact Sp.no
  | n, op, [x], σ, ρ, s, C, R => by
    unfold tr.go
    rw [arm_allTrue_cons]
    refine Sp.turn (tr_sp H G n x C R) fun b σ' _ ρ' s' v L R' hv => ?_
    cases hv
    cases op <;> cases b <;> exact Sp.pure R' rfl
  | n, op, x :: y :: r, σ, ρ, s, C, R => by
    unfold tr.go
    rw [arm_allTrue_cons]
    refine Sp.bind (tr_sp H G n x C R) fun b σ' _ ρ' s' v L R' hv => ?_
    cases hv
    cases op <;> cases b <;> first | exact Sp.pure R' rfl | exact go_sp H G n _ (y :: r) (C.le L) R'
end
theorem bool_sp (H : Snd prog w ι h₀ os₀ I) (pos : Pos) (op : BoolOp) : ∀ (vs : List Expr) {σ : St} {ρ : List Addr} {s : Shared}, CE ρ c env A → SR prog w ι h₀ os₀ ρ σ s →
    Sp prog w ι h₀ os₀ A (boolOp pos op (evalEach vs env)) (VR ι) (boolA (I.ev c) op vs σ) ρ s
  | [], σ, ρ, s, C, R => by unfold boolA; exact Sp.no
  | [x], σ, ρ, s, C, R => by unfold boolA; exact H.ev C R
  | x :: y :: r, σ, ρ, s, C, R => by
    unfold boolA
    show Sp prog w ι h₀ os₀ A (boolOp pos op (eval x env :: evalEach (y :: r) env)) _ _ _ _
    refine Sp.bind (H.ev C R) fun v σ' _ ρ' s' u L R' hv => ?_
    refine Sp.stand ?_
    refine Sp.bind (Sp.hold (truth_sp R' hv)) fun b σ'' _ ρ'' s'' q L' R'' hb => ?_
    cases hb
    cases op <;> cases b <;> first | exact Sp.pure R'' (hv.le ι L') | exact bool_sp H pos _ (y :: r) (C.le (L.trans L')) R''
end
end Mine
end
noncomputable section
open PySem PySem.W PyProof.Rows PySem.Calls
set_option maxRecDepth 10000
namespace Mine
section
variable {prog : Program} {w : World} {ι : Nat → Int} {h₀ : Heap} {os₀ : OsState} {T : Tab} {K : Frag} {I : IH} {c : Cx} {σ : St} {ρ : List Addr} {s : Shared} {env : Env} {A : Around}
theorem lookIn_of {o : Obj} {es : Array DictEntry} {ep : Nat} {x : Str} {u : Value} (hd : o.data = .dict es ep) (hf : nsFind es x = some u) : lookIn x o = some (some u) := by
  unfold lookIn
  rw [hd]
  dsimp only
  unfold nsFind findBy at hf
  rw [← Array.find?_toList] at hf
  obtain ⟨e, he, rfl⟩ := Option.map_eq_some_iff.mp hf
  rw [he]
theorem plain_handed {v : AV} {u : Value} (h : plainV v = true) (x : VR ι ρ v u) : handedIn u = true := by
  cases v with
  | nn => cases x; rfl
  | bb b => cases x; rfl
  | ii i => obtain ⟨t, rfl⟩ := x; rfl
  | sy i => obtain ⟨t, rfl⟩ := x; rfl
  | an => obtain ⟨i, t, _, rfl⟩ := x; rfl
  | ai => obtain ⟨i, t, rfl⟩ := x; rfl
  | ss y => obtain ⟨t, rfl⟩ := x; rfl
  | ow k => obtain ⟨a, _, rfl⟩ := x; rfl
  | cv v => cases x; cases u <;> first | rfl | cases h
  | tp => cases h
theorem inst_at (R : SR prog w ι h₀ os₀ ρ σ s) {C d : Nat} {a da : Addr} {m : Str → Option Value} (hd : s.heap.get? a = some (instObj C da)) (hn : s.heap.Ns da m) :
    ∃ od es ep, s.heap.get? da = some od ∧ od.data = .dict es ep ∧ (∀ x, nsFind es x = m x) ∧ InstAt s.heap a (instObj C da) C (some od) := by
  obtain ⟨od, es, ep, h1, h2, h3, h4⟩ := hn
  exact ⟨od, es, ep, h1, h2, h4, ⟨hd, rfl, rfl, h1⟩⟩
theorem find_own {C : Addr} {n : Str} {od : Obj} {u : Value} (F : AttF K C n) (h : lookIn n od = some (some u)) : findObj K C (some od) n = some (.value u) := by
  unfold findObj
  obtain ⟨cd, hc, hh⟩ := any_some F.has
  rw [hc, F.no]
  simp only [Option.bind_some, PySem.W.ownOf, hh, if_true, h]
theorem idc_of (R : SR prog w ι h₀ os₀ ρ σ s) {k : Nat} {L : Addr} {es : List (Str × AV)} (e : sget σ k = some (.idc es)) (q : ρ[k]? = some L) : ∃ m, s.heap.Ns1 L m ∧ NR ι ρ es m ∧ ∀ x, look es x = none → m x = none := by
  obtain ⟨a, h1, h2⟩ := R.obj k _ e
  rw [q] at h1; cases h1
  exact h2
theorem getAttr_sp (G : GF prog w ι h₀ T K) (R : SR prog w ι h₀ os₀ ρ σ s) {o : AV} {u : Value} (n : Str) (ho : VR ι ρ o u)
    (GX : ∀ (C d j : Nat) (f : Bool), isX T C n = true → sget σ j = some (.exc C (some d) f) → VR ι ρ (.ow j) u → Sp prog w ι h₀ os₀ A (getAttr u n true) (VR ι) (getD σ d n) ρ s) :
    Sp prog w ι h₀ os₀ A (getAttr u n true) (VR ι) (getAttrA T o n σ) ρ s := by
  unfold getAttrA
  split
  · rename_i j
    split
    · rename_i C' d hj
      split
      · rename_i hi
        unfold getD
        split
        · rename_i es hes
          split
          · rename_i v hv
            split
            · rename_i hp
              obtain ⟨a, ea, rfl, da, eda, hx⟩ := R.ref hj ho
              obtain ⟨m, hn, hm, _⟩ := idc_of R hes eda
              obtain ⟨od, es', ep, g1, g2, g3, I⟩ := inst_at (d := d) R hx hn.ns
              have F := G.att C' n hi
              obtain ⟨v', hv', hr⟩ := hm n v hv
              exact fun Q E Z => get_value (G.kin.keeps R.keep) I F.ga (find_own F (lookIn_of g2 ((g3 n).trans hv'))) (plain_handed hp hr) (Z _ (.head _) ρ _ _ (Le.refl ρ) (R.toks _) hr)
            · exact Sp.no
          · exact Sp.no
        · exact Sp.no
      · exact Sp.no
    · rename_i C' dd hj
      split
      · rename_i hi
        split
        · exact GX _ _ j _ hi hj ho
        · exact Sp.no
      · exact Sp.no
    · exact Sp.no
  · exact Sp.no
end
end Mine
end
noncomputable section
open PySem PySem.W PyProof.Rows PySem.Calls Builtin Builtin.ObjectAttr
set_option maxRecDepth 10000
namespace Mine
theorem nd_len : ∀ {l m : List Str}, l.Nodup → (∀ x ∈ l, x ∈ m) → l.length ≤ m.length
  | [], m, _, _ => Nat.zero_le _
  | x :: l, m, h, hs => by
    have hx : x ∈ m := hs x (.head _)
    obtain ⟨h1, h2⟩ := List.nodup_cons.mp h
    have := nd_len (m := m.erase x) h2 fun y hy => (List.mem_erase_of_ne (fun (e : y = x) => h1 (by rw [← e]; exact hy))).mpr (hs y (.tail _ hy))
    rw [List.length_erase_of_mem hx] at this
    have := List.length_pos_of_mem hx
    simp only [List.length_cons]
    omega
theorem look_mem : ∀ {es : List (Str × AV)} {x : Str}, look es x ≠ none → x ∈ es.map (·.1)
  | [], x, h => (h rfl).elim
  | p :: r, x, h => by
    unfold look at h
    split at h
    · rename_i q; rw [← seq_true q]; exact .head _
    · exact .tail _ (look_mem h)
noncomputable def keyS : Value → Str
  | .str n _ => n
  | _ => default
theorem ns1_size {h : Heap} {a : Addr} {m : Str → Option Value} {o : Obj} {des : Array DictEntry} {ep : Nat} {ks : List Str} (ho : h.get? a = some o) (hd : o.data = .dict des ep) (N : h.Ns1 a m) (hs : ∀ x, m x ≠ none → x ∈ ks) : des.size ≤ ks.length := by
  obtain ⟨o', des', ep', ho', hd', hk, hu, hm⟩ := N
  rw [ho] at ho'; cases ho'
  rw [hd] at hd'; cases hd'
  have key : ∀ e ∈ des.toList, ∃ n t, e.key = .str n t := fun e he => hk e (Array.mem_toList_iff.mp he)
  have h1 : (des.toList.map fun e => keyS e.key).Nodup := by
    unfold UniqKeys at hu
    refine List.pairwise_map.mpr ?_
    refine hu.imp_of_mem fun {x y} hx hy q e => ?_
    obtain ⟨n, t, hn⟩ := key x hx
    obtain ⟨n', t', hn'⟩ := key y hy
    rw [hn, hn'] at e
    have e : n = n' := e
    subst e
    exact q n (by rw [hn]; simp [Value.isStr]) (by rw [hn']; simp [Value.isStr])
  have := nd_len (m := ks) h1 fun x hx => by
    obtain ⟨e, he, rfl⟩ := List.mem_map.mp hx
    obtain ⟨n, t, hn⟩ := key e he
    refine hs _ ?_
    rw [← hm, hn]
    show nsFind des n ≠ none
    unfold nsFind findBy
    intro q
    rw [Option.map_eq_none_iff] at q
    have := (Array.find?_eq_none.mp q) e (Array.mem_toList_iff.mp he)
    rw [hn] at this
    simp [Value.isStr] at this
  rwa [List.length_map, Array.length_toList] at this
section
variable {prog : Program} {w : World} {ι : Nat → Int} {h₀ : Heap} {os₀ : OsState} {T : Tab} {K : Frag} {I : IH} {c : Cx} {σ : St} {ρ : List Addr} {s : Shared} {env : Env} {A : Around}
theorem put_len : ∀ (es : List (Str × AV)) (n : Str) (v : AV), (put es n v).length ≤ es.length + 1
  | [], n, v => Nat.le_refl _
  | p :: r, n, v => by
    unfold put
    split
    · simp
    · have := put_len r n v; simp only [List.length_cons]; omega
theorem store_idc {β : Type} (R : SR prog w ι h₀ os₀ ρ σ s) {d : Nat} {da : Addr} {es : List (Str × AV)} {n : Str} {v : AV} {u : Value} (hes : sget σ d = some (.idc es)) (hda : ρ[d]? = some da) (hz : es.length ≤ 1000) (hv : VR ι ρ v u)
    {Q : Fin → Shared → Prop} {E : Value → Shared → Prop} {tk : Tok}
    (q : ∀ s', SR prog w ι h₀ os₀ ρ (sset σ d (.idc (put es n v))) s' → Q (.done (.ret .none)) s') : wpAny (model prog w) A (storeInDict da (.str n tk) n u) Q E s := by
  obtain ⟨m, hn, hm, hno⟩ := idc_of R hes hda
  unfold storeInDict
  refine wpAny_bind (wpAny_pure (wpAny_bind (wpAny_nsSet1 hn fun h' hn' hs' => ?_)))
  have N' : NR ι ρ (put es n v) (fun x => if x = n then some u else m x) := fun y z e => by
    rw [look_put] at e
    split at e
    · rename_i hy; cases e; exact ⟨u, if_pos hy, hv⟩
    · rename_i hy
      obtain ⟨u', h1, h2⟩ := hm y z e
      exact ⟨u', (if_neg hy).trans h1, h2⟩
  have no' : ∀ x, look (put es n v) x = none → (if x = n then some u else m x) = none := fun x e => by
    rw [look_put] at e
    split at e
    · cases e
    · rename_i hy; exact (if_neg hy).trans (hno x e)
  obtain ⟨o, des, ep, ho, hd, r⟩ := id hn'
  have hsz : des.size ≤ ((put es n v).map (·.1)).length := ns1_size ho hd hn' fun x hx => look_mem fun e => hx (no' x e)
  rw [List.length_map] at hsz
  have := put_len es n v
  refine wpAny_bind (wpAny_lookBehind ho (by rw [hd]; exact pastItsLine_dict (by rw [sizeLine_eq]; omega)) ?_)
  exact wpAny_pure (q _ (R.upd hes hda (sb hs') ⟨_, hn', N', no'⟩))
theorem setAttr_sp (G : GF prog w ι h₀ T K) (R : SR prog w ι h₀ os₀ ρ σ s) {o v : AV} {u x : Value} (n : Str) (ho : VR ι ρ o u) (hv : VR ι ρ v x)
    (GX : ∀ (C j : Nat) (dd : Option Nat) (f : Bool), isX T C n = true → sget σ j = some (.exc C dd f) → VR ι ρ (.ow j) u →
      Sp prog w ι h₀ os₀ A (setAttr u n x) (fun _ (_ : Unit) (_ : Unit) => True) (match dd with | some d => setD σ d n v | none => newD σ j C f n v) ρ s) :
    Sp prog w ι h₀ os₀ A (setAttr u n x) (fun _ (_ : Unit) (_ : Unit) => True) (setAttrA T o n v σ) ρ s := by
  unfold setAttrA
  split
  · rename_i j
    split
    · rename_i C' d hj
      split
      · rename_i hi
        unfold setD
        split
        · rename_i es hes
          split
          · rename_i hz
            have hz := Nat.le_of_ble_eq_true hz
            obtain ⟨a, ea, rfl, da, eda, hx⟩ := R.ref hj ho
            obtain ⟨m, hn, hm, hno⟩ := idc_of R hes eda
            obtain ⟨od, es', ep, g1, g2, g3, I⟩ := inst_at (d := d) R hx hn.ns
            have F := G.att C' n hi
            have X := G.kin.keeps R.keep
            obtain ⟨cd, hc, hh⟩ := any_some F.has
            intro Q E Z
            refine set_plain X I F.sa ?_
            refine osa_open (s := { s with toks := s.toks + 1 }) (r := none) X I F.plain (by unfold takerIn; rw [F.no]; rfl) fun b => ?_
            refine wpAny_bind (wpAny_pure (wpAny_bind (wpAny_bind (wpAny_loadPart hx (wpAny_bind ((looks_clsIn (M := model prog w) X hc).here (s := { s with toks := s.toks + 1 }) ?_))))))
            rw [hh]
            refine wpAny_pure (a := some da) ?_
            exact store_idc (β := Unit) (R.toks (s.toks + 1)) hes eda hz hv fun s' R' => Z _ (.head _) ρ s' () (Le.refl ρ) R' trivial
          · exact Sp.no
        · exact Sp.no
      · exact Sp.no
    · rename_i C' dd f hj
      split
      · rename_i hi
        have := GX C' j dd _ hi hj ho
        cases dd <;> exact this
      · exact Sp.no
    · exact Sp.no
  · exact Sp.no
end
end Mine
end
noncomputable section
open PySem PySem.W PyProof.Rows PySem.Calls Builtin
set_option maxRecDepth 10000
namespace Mine
section
variable {prog : Program} {w : World} {ι : Nat → Int} {h₀ : Heap} {os₀ : OsState} {T : Tab} {K : Frag} {I : IH} {c : Cx} {σ : St} {ρ : List Addr} {s : Shared} {env : Env} {A : Around}
theorem idxOk_of {n : Nat} {k : Int} (h : idxOk n k = true) : idx n k < n ∧ n ≤ 1000000 ∧ ((0 ≤ k ∧ k.toNat = idx n k) ∨ (k < 0 ∧ -(n : Int) ≤ k ∧ (k + n).toNat = idx n k)) := by
  cases k with
  | ofNat j =>
    simp only [idxOk, Bool.and_eq_true] at h
    have h1 := Nat.le_of_ble_eq_true h.1
    have h2 := Nat.le_of_ble_eq_true h.2
    exact ⟨h1, h2, .inl ⟨Int.natCast_nonneg j, rfl⟩⟩
  | negSucc j =>
    simp only [idxOk, Bool.and_eq_true] at h
    have h1 : j + 1 ≤ n := Nat.le_of_ble_eq_true h.1
    have h2 := Nat.le_of_ble_eq_true h.2
    simp only [idx]
    exact ⟨by omega, h2, .inr ⟨by omega, by omega, by omega⟩⟩
noncomputable def isSlice : Expr → Bool
  | .Slice .. => true
  | _ => false
theorem sub_plain {sl : Expr} (h : isSlice sl = false) (o i : Value) : subscripted sl false o i = operate [o, i] (getItem o i) := by cases sl <;> first | rfl | cases h
theorem sub_slice {lo hi : Option Expr} {p : Pos} (o i : Value) : subscripted (.Slice lo hi none p) false o i = operate [i, o] (getItem o i) := rfl
theorem nthI_sp {xs : List AV} {vs : Array Value} {k : Int} {t : Sem Value} (R : SR prog w ι h₀ os₀ ρ σ s) (x : All2 (VR ι ρ) xs vs.toList)
    (h : ∀ (j : Nat) (u : Value) (Q : Value → Shared → Prop) (E : Value → Shared → Prop), vs[j]? = some u → vs.size ≤ 1000000 → ((0 ≤ k ∧ k.toNat = j ∧ j < vs.size) ∨ (k < 0 ∧ -(vs.size : Int) ≤ k ∧ (k + vs.size).toNat = j)) → Q u s → wpAny (model prog w) A t Q E s) :
    Sp prog w ι h₀ os₀ A t (VR ι) (nthI xs k σ) ρ s := by
  unfold nthI
  split
  · rename_i hk
    obtain ⟨h1, h2, h3⟩ := idxOk_of hk
    split
    · rename_i v hv
      obtain ⟨u, hu, hr⟩ := x.get hv
      have hz := size_of x
      rw [← hz] at h1 h2 h3 hu
      refine fun Q E Z => h _ u Q E (by rw [← Array.getElem?_toList]; exact hu) h2 ?_ (Z _ (.head _) ρ s u (Le.refl ρ) R hr)
      rcases h3 with ⟨q1, q2⟩ | ⟨q1, q2, q3⟩
      · exact .inl ⟨q1, q2, h1⟩
      · exact .inr ⟨q1, q2, q3⟩
    · exact Sp.no
  · exact Sp.no
theorem ints_at {vs : List Value} {ns : List Int} (h : IntsAre vs ns) {i : Nat} {y : Value} (e : vs[i]? = some y) : ∃ z t, y = .int z t := by
  exact h.allInts y (by simpa using List.mem_of_getElem? e)
theorem item_sp (SY : SymOk ι T) (R : SR prog w ι h₀ os₀ ρ σ s) {value sl : Expr} (hs : isSlice sl = false) {o i : AV} {u v : Value} (ho : VR ι ρ o u) (hi : VR ι ρ i v) : Sp prog w ι h₀ os₀ A (subscriptTail value sl u v) (VR ι) (getItemA T o i σ) ρ s := by
  unfold getItemA
  split
  · rename_i j k
    obtain ⟨t, rfl⟩ := hi
    split
    · rename_i xs hx
      obtain ⟨a, ea, rfl, vs, n, oa, ra⟩ := R.ref hx ho
      have la : s.heap.IsList a vs := ⟨_, oa, rfl, n, rfl⟩
      refine nthI_sp R ra fun j u Q E hu hz hj q => ?_
      refine tail_any la.typeIs slot_list_getitem.lookup ?_ (sub_plain hs _ _)
      rcases hj with ⟨q1, q2, q3⟩ | ⟨q1, q2, q3⟩
      · exact wpAny_getItem_list la q1 (by omega) (by rw [q2]; exact hu) q
      · exact wpAny_getItem_list_neg la q1 q2 (by omega) (by rw [q3]; exact hu) q
    · rename_i xs hx
      obtain ⟨a, ea, rfl, vs, oa, ra⟩ := R.ref hx ho
      refine nthI_sp R ra fun j u Q E hu hz hj q => ?_
      refine tail_any oa.typeIs slot_tuple_getitem.lookup ?_ (sub_plain hs _ _)
      rcases hj with ⟨q1, q2, q3⟩ | ⟨q1, q2, q3⟩
      · refine PyProof.Rows.getItem_tuple oa (by omega) (by omega) (j := j) ?_ hu q
        have hk : ¬ k < 0 := by omega
        have h1 : 0 ≤ k := q1
        have h2 : k < (vs.size : Int) := by omega
        simp [seqIndex?, hk, h1, h2, q2]
      · exact PyProof.Rows.getItem_tuple oa (by omega) (by omega) (j := j) (by rw [seqIndex_neg q1 q2, q3]) hu q
    · exact Sp.no
  · rename_i j x
    obtain ⟨t, rfl⟩ := hi
    split
    · rename_i es hx
      obtain ⟨a, ea, rfl, kvs, hv, ra⟩ := R.ref hx ho
      split
      · rename_i y hy
        obtain ⟨w', h1, h2⟩ := look_val ra hy
        exact fun Q E Z => tail_any hv.typeIs slot_dict_getitem.lookup (wpAny_getItem_of (k := x) (key_is x t) hv.mapOf h1 (Z _ (.head _) ρ _ _ (Le.refl ρ) (R.toks _) h2)) (sub_plain hs _ _)
      · exact Sp.no
    · rename_i es hx
      obtain ⟨a, ea, rfl, kvs, hv, ra⟩ := R.ref hx ho
      split
      · rename_i y hy
        obtain ⟨w', h1, h2⟩ := ra x y hy
        exact fun Q E Z => tail_any hv.typeIs slot_dict_getitem.lookup (wpAny_getItem_of (k := x) (key_is x t) hv.mapOf h1 (Z _ (.head _) ρ _ _ (Le.refl ρ) (R.toks _) h2)) (sub_plain hs _ _)
      · exact Sp.no
    · exact Sp.no
  · rename_i j k
    obtain ⟨t, rfl⟩ := hi
    split
    · rename_i L hx
      split
      · rename_i hk
        obtain ⟨k0, k1⟩ := SY.ix k L hk
        obtain ⟨a, ea, rfl, vs, ns, la, hn, hz, hL⟩ := R.ref hx ho
        have hL := hL L rfl
        have hlt : (ι k).toNat < vs.length := by omega
        obtain ⟨y, hy⟩ : ∃ y, vs[(ι k).toNat]? = some y := ⟨_, List.getElem?_eq_getElem hlt⟩
        obtain ⟨z, tz, rfl⟩ := ints_at hn hy
        exact fun Q E Z => tail_any la.typeIs slot_list_getitem.lookup (wpAny_getItem_list la k0 (by omega) (by simpa using hy) (Z _ (.head _) ρ s _ (Le.refl ρ) R ⟨z, tz, rfl⟩)) (sub_plain hs _ _)
      · exact Sp.no
    · exact Sp.no
  · exact Sp.no
theorem pick_over (items : Array Value) (b : Nat) (hb : items.size ≤ b) : slicePick items none (some (b : Int)) none = items := by
  have e : sliceBounds none (some (b : Int)) none items.size = sliceBounds none none none items.size := by
    simp only [sliceBounds, Option.getD_none]
    have h1 : ¬ ((b : Int) < 0) := by omega
    have h2 : min (b : Int) (items.size : Int) = items.size := by omega
    simp [h1, h2]
  have := slicePick_all items
  unfold slicePick at this ⊢
  rw [e]
  exact this
theorem slice_sp (SC : ∀ q, T.scr q = true → ∃ vs ns, h₀.IsList q (List.toArray vs) ∧ IntsAre vs ns ∧ vs.length ≤ 1000000) (R : SR prog w ι h₀ os₀ ρ σ s) {value : Expr} {lo hi : Option Expr} {p : Pos} {o : AV} {a b : Option AV} {u x y : Value} (ho : VR ι ρ o u)
    (ha : match a with | some a => VR ι ρ a x | none => x = .none) (hb : match b with | some b => VR ι ρ b y | none => y = .none) :
    ∀ (Q : Value → Shared → Prop) (E : Value → Shared → Prop), (∀ z ∈ sliceA T o a b σ, Post prog w ι h₀ os₀ (VR ι) ρ Q E z) →
      wpAny (model prog w) A (newFields "slice" [x, y, .none]) (fun i s₁ => wpAny (model prog w) A (subscriptTail value (.Slice lo hi none p) u i) Q E s₁) E s := by
  have no : ∀ (Q : Value → Shared → Prop) (E : Value → Shared → Prop), (∀ z ∈ (noo : List (Out AV)), Post prog w ι h₀ os₀ (VR ι) ρ Q E z) →
      wpAny (model prog w) A (newFields "slice" [x, y, .none]) (fun i s₁ => wpAny (model prog w) A (subscriptTail value (.Slice lo hi none p) u i) Q E s₁) E s := fun Q E H => (H _ (.head _)).elim
  have go : ∀ {l : Addr} {items : Array Value} {plo phi : Option Int} {Q : Value → Shared → Prop} {E : Value → Shared → Prop}, u = .ref l → s.heap.IsList l items → items.size ≤ 1000000 → IsPart x plo → IsPart y phi →
      Q (.ref (s.heap.objs.size + 1)) { s with heap := (s.heap.push { cls := .type "slice", data := .fields #[x, y, .none] }).push { cls := .type "list", data := .seq (slicePick items plo phi none) } } →
      wpAny (model prog w) A (newFields "slice" [x, y, .none]) (fun i s₁ => wpAny (model prog w) A (subscriptTail value (.Slice lo hi none p) u i) Q E s₁) E s := by
    intro l items plo phi Q E e hl hz p1 p2 q
    subst e
    refine wpAny_newObj_type ?_
    have hl' := hl.push { cls := .type "slice", data := .fields #[x, y, .none] }
    refine tail_any (hl'.typeIs (s := { s with heap := s.heap.push { cls := .type "slice", data := .fields #[x, y, .none] } })) slot_list_getitem.lookup ?_ (sub_slice _ _)
    refine wpAny_getItem_list_slice hl' (Heap.IsSliceOf.new ..) p1 p2 .none (by simp) ?_ (by rw [sizeLine_eq]; omega)
    show Q (.ref (s.heap.push _).objs.size) _
    rw [Heap.size_push]
    exact q
  have R1 : ∀ o, SR prog w ι h₀ os₀ ρ σ { s with heap := s.heap.push o } := fun o => R.ext (t := s.toks) fun b z e => Heap.get?_push_of_some _ e
  have itl : ∀ {l : Addr} {vs : List Value} {ns : List Int} {k : Nat} {t : Tok} {Q : Value → Shared → Prop} {E : Value → Shared → Prop}, u = .ref l → s.heap.IsList l (List.toArray vs) → IntsAre vs ns → vs.length ≤ 1000000 → x = .none → y = .int (Int.ofNat k) t →
      (∀ z ∈ (okk (.ow σ.n) (spush σ (.itl none)) : List (Out AV)), Post prog w ι h₀ os₀ (VR ι) ρ Q E z) → wpAny (model prog w) A (newFields "slice" [x, y, .none]) (fun i s₁ => wpAny (model prog w) A (subscriptTail value (.Slice lo hi none p) u i) Q E s₁) E s := by
    intro l vs ns k t Q E hu la ia hz hx hy Z
    subst hx
    subst hy
    refine go hu la (by simpa using hz) .none (.int _ t) (Z _ (.head _) (ρ ++ [s.heap.objs.size + 1]) _ _ ⟨_, rfl⟩ ?_ ⟨_, at_n R _, rfl⟩)
    have hi' : ∃ ns', IntsAre (slicePick (List.toArray vs) none (some (Int.ofNat k)) none).toList ns' ∧ (slicePick (List.toArray vs) none (some (Int.ofNat k)) none).toList.length ≤ 1000000 := by
      by_cases hk : k ≤ (List.toArray vs).size
      · rw [show (Int.ofNat k) = (k : Int) from rfl, slicePick_upto _ k hk]
        refine ⟨ns.take k, by simpa using ia.take k, ?_⟩
        have : (List.take k vs).length ≤ vs.length := by rw [List.length_take]; omega
        simpa using Nat.le_trans this hz
      · rw [show (Int.ofNat k) = (k : Int) from rfl, pick_over _ k (by omega)]
        exact ⟨ns, ia, hz⟩
    obtain ⟨ns', hi', hz'⟩ := hi'
    have := (R1 { cls := .type "slice", data := .fields #[.none, .int (Int.ofNat k) t, .none] }).new1 (t := s.toks) (o := .itl none) (a := (s.heap.push { cls := .type "slice", data := .fields #[.none, .int (Int.ofNat k) t, .none] }).objs.size)
      (h' := (s.heap.push { cls := .type "slice", data := .fields #[.none, .int (Int.ofNat k) t, .none] }).push { cls := .type "list", data := .seq (slicePick (List.toArray vs) none (some (Int.ofNat k)) none) })
      (fun b o e => Heap.get?_push_of_some _ e) (Heap.get?_none_of_le (Nat.le_refl _)) ⟨_, ns', ⟨_, Heap.get?_push_size _ rfl, rfl, 0, rfl⟩, hi', hz', fun L e => (by cases e)⟩
    rw [Heap.size_push] at this
    exact this
  unfold sliceA
  split
  · rename_i q
    cases ho
    split
    · rename_i hq
      obtain ⟨vs, ns, la, ia, hz⟩ := SC q hq
      have la' : s.heap.IsList q (List.toArray vs) := by obtain ⟨o, e, r⟩ := la; exact ⟨o, R.keep _ _ e, r⟩
      split
      · obtain ⟨t, rfl⟩ := hb
        cases ha
        exact fun Q E => itl rfl la' ia hz rfl rfl
      · exact no
    · exact no
  · rename_i j
    split
    · rename_i xs hx
      obtain ⟨l, ea, rfl, vs, n, oa, ra⟩ := R.ref hx ho
      have la : s.heap.IsList l vs := ⟨_, oa, rfl, n, rfl⟩
      split
      · rename_i k
        obtain ⟨t, rfl⟩ := ha
        cases hb
        split
        · rename_i hk
          rw [Bool.and_eq_true] at hk
          have h1 := Nat.le_of_ble_eq_true hk.1
          have h2 := Nat.le_of_ble_eq_true hk.2
          rw [← size_of ra] at h1 h2
          refine fun Q E Z => go rfl la (by omega) (.int _ t) .none (Z _ (.head _) (ρ ++ [s.heap.objs.size + 1]) _ _ ⟨_, rfl⟩ ?_ ⟨_, at_n R _, rfl⟩)
          have := newlist (xs := xs.drop k) (vs := slicePick vs (some (Int.ofNat k)) none none) (n := 0) (t := s.toks) (R1 { cls := .type "slice", data := .fields #[.int (Int.ofNat k) t, .none, .none] }) rfl (by
            rw [show (Int.ofNat k) = (k : Int) from rfl, slicePick_from vs k h1]; exact ra.drop k)
          rw [Heap.size_push] at this
          exact this
        · exact no
      · rename_i k
        obtain ⟨t, rfl⟩ := hb
        cases ha
        split
        · rename_i hk
          rw [Bool.and_eq_true] at hk
          have h1 := Nat.le_of_ble_eq_true hk.1
          have h2 := Nat.le_of_ble_eq_true hk.2
          rw [← size_of ra] at h1 h2
          refine fun Q E Z => go rfl la (by omega) .none (.int _ t) (Z _ (.head _) (ρ ++ [s.heap.objs.size + 1]) _ _ ⟨_, rfl⟩ ?_ ⟨_, at_n R _, rfl⟩)
          have := newlist (xs := xs.take k) (vs := slicePick vs none (some (Int.ofNat k)) none) (n := 0) (t := s.toks) (R1 { cls := .type "slice", data := .fields #[.none, .int (Int.ofNat k) t, .none] }) rfl (by
            rw [show (Int.ofNat k) = (k : Int) from rfl, slicePick_upto vs k h1]; exact ra.take k)
          rw [Heap.size_push] at this
          exact this
        · exact no
      · exact no
    · rename_i hx
      obtain ⟨l, ea, rfl, vs, ns, la, ia, hz, _⟩ := R.ref hx ho
      split
      · obtain ⟨t, rfl⟩ := hb
        cases ha
        exact fun Q E => itl rfl la ia hz rfl rfl
      · exact no
    · exact no
  · exact no
end
end Mine
end
noncomputable section
open PySem PySem.W PyProof.Rows PySem.Calls Builtin
set_option maxRecDepth 10000
namespace Mine
section
variable {prog : Program} {w : World} {ι : Nat → Int} {h₀ : Heap} {os₀ : OsState} {T : Tab} {K : Frag} {I : IH} {c : Cx} {σ : St} {ρ : List Addr} {s : Shared} {env : Env} {A : Around}
theorem Sp.remap {α γ β : Type} {t : Sem β} {RA : List Addr → α → β → Prop} {RB : List Addr → γ → β → Prop} {outs : List (Out α)} {g : α → γ} (h : Sp prog w ι h₀ os₀ A t RA outs ρ s) (k : ∀ ρ a x, RA ρ a x → RB ρ (g a) x) :
    Sp prog w ι h₀ os₀ A t RB (obind outs fun a σ => okk (g a) σ) ρ s :=
  fun Q E H => h.seqQ H fun a σ' ho ρ' s' x L R ra z => z _ (.head _) ρ' s' x (Le.refl _) R (k _ _ _ ra)
theorem base_eq {o : Expr} {attr : Str} {whole : Sem Value} (h : isBare o = false) : attributeBase o attr env whole = whole := by
  unfold attributeBase
  split
  · cases h
  · rfl
noncomputable def simpleE : Expr → Bool
  | .Call .. => false
  | .Dict .. => false
  | _ => true
theorem evE_simple (H : Snd prog w ι h₀ os₀ I) (G : GF prog w ι h₀ T K)
    (GX : ∀ {ρ : List Addr} {s : Shared} {σ : St} {u : Value} (n : Str) (C d j : Nat) (f : Bool), SR prog w ι h₀ os₀ ρ σ s → isX T C n = true → sget σ j = some (.exc C (some d) f) → VR ι ρ (.ow j) u → Sp prog w ι h₀ os₀ A (getAttr u n true) (VR ι) (getD σ d n) ρ s)
    (C : CE ρ c env A) (R : SR prog w ι h₀ os₀ ρ σ s) (e : Expr) (hs : simpleE e = true) : Sp prog w ι h₀ os₀ A (eval e env) (VR ι) (evE T I c e σ) ρ s := by
  cases e with
  | Constant k x1 x2 => exact const_sp R k x1 x2
  | Name x p => exact name_sp G C R x p
  | BinOp l op r p =>
    rw [arm_eval_BinOp]
    refine Sp.bind (H.ev C R) fun a σ' _ ρ' s' x L R' ha => ?_
    refine Sp.bind (Sp.hold (H.ev (C.le L) R')) fun b σ'' _ ρ'' s'' y L' R'' hb => ?_
    exact Sp.stand (Sp.oper (binop_sp G.sym R'' op (ha.le ι L') hb))
  | UnaryOp op x p =>
    rw [arm_eval_UnaryOp]
    cases op with
    | USub =>
      refine Sp.bind (H.ev C R) fun a σ' _ ρ' s' x L R' ha => ?_
      refine Sp.stand (Sp.hold ?_)
      split
      · obtain ⟨t, rfl⟩ := ha
        exact fun Q E Z => P.neg_int (Z _ (.head _) ρ' _ _ (Le.refl _) (R'.toks _) ⟨_, rfl⟩)
      · exact Sp.no
    | Not =>
      refine Sp.bind (H.ev C R) fun a σ' _ ρ' s' x L R' ha => ?_
      refine Sp.stand (Sp.hold ?_)
      show Sp prog w ι h₀ os₀ A (holding [x] (truthy x >>= fun b => (pure (Value.bool !b) : Sem Value))) _ _ _ _
      refine Sp.hold (Sp.bind (truth_sp R' ha) fun b σ'' _ ρ'' s'' y L' R'' hb => ?_)
      cases hb
      exact Sp.pure R'' rfl
    | _ => exact Sp.no
  | BoolOp op vs p =>
    rw [arm_eval_BoolOp]
    exact bool_sp H p op vs C R
  | Compare l ops rs p =>
    rw [arm_eval_Compare]
    refine Sp.bind (H.ev C R) fun a σ' _ ρ' s' x L R' ha => ?_
    exact (cmpCh_sp H G p ops rs (C.le L) R' ha).remap fun ρ b x h => by cases h; rfl
  | IfExp t b o p =>
    rw [arm_eval_IfExp]
    refine Sp.bind (tr_sp H G 20 t C R) fun q σ' _ ρ' s' x L R' hq => ?_
    cases hq
    cases q
    · exact H.ev (C.le L) R'
    · exact H.ev (C.le L) R'
  | Tuple es x1 p =>
    rw [arm_eval_Tuple]
    refine Sp.stand (Sp.bind (spliced_sp H p es C R) fun vs σ' _ ρ' s' xs L R' hv => ?_)
    split
    · rename_i hz
      have hz := Nat.le_of_ble_eq_true hz
      have hl := hv.len
      exact fun Q E Z => wpAny_newTuple (Z _ (.head _) (ρ' ++ [s'.heap.objs.size]) _ _ ⟨_, rfl⟩ (newtup (t := s'.toks) R' rfl (by simpa using hv)) ⟨_, at_n R' _, rfl⟩) (by rw [sizeLine_eq]; omega)
    · exact Sp.no
  | List es p =>
    rw [arm_eval_List]
    refine Sp.stand (Sp.bind (spliced_sp H p es C R) fun vs σ' _ ρ' s' xs L R' hv => ?_)
    split
    · rename_i hz
      have hz := Nat.le_of_ble_eq_true hz
      have hl := hv.len
      exact fun Q E Z => wpAny_newList (Z _ (.head _) (ρ' ++ [s'.heap.objs.size]) _ _ ⟨_, rfl⟩ (newlist (t := s'.toks) R' rfl (by simpa using hv)) ⟨_, at_n R' _, rfl⟩) (by rw [sizeLine_eq]; omega)
    · exact Sp.no
  | Attribute v n p =>
    rw [arm_eval_Attribute]
    cases hb : isBare v with
    | true =>
      have e : evE T I c (.Attribute v n p) σ = (match isBare v with
        | true => noo
        | false => obind (I.ev c v σ) fun o σ => getAttrA T o n σ) := rfl
      rw [e, hb]
      exact Sp.no
    | false =>
      have e : evE T I c (.Attribute v n p) σ = (match isBare v with
        | true => noo
        | false => obind (I.ev c v σ) fun o σ => getAttrA T o n σ) := rfl
      rw [e, hb]
      rw [base_eq hb]
      refine Sp.bind (H.ev C R) fun a σ' _ ρ' s' x L R' ha => Sp.stand ?_
      refine Sp.turn (Sp.hold (getAttr_sp G R' n ha fun C' d j f h1 h2 h3 => GX n C' d j f R' h1 h2 h3)) fun b σ'' _ ρ'' s'' y L' R'' hb => ?_
      exact fun Q E Z => wpAny_bind (wpAny_letTemporaryGo (Sp.pure (RA := VR ι) R'' hb Q E Z))
  | Subscript v i p =>
    by_cases hsl : isSlice i = true
    · cases i with
      | Slice lo hi st p2 =>
        intro Q E Z
        refine Subscript_ ?_
        cases st with
        | some e => exact (Z .no (.head _)).elim
        | none =>
          refine (H.ev C R).seqQ Z fun a σ' _ ρ' s' x L R' ha Z' => ?_
          rw [arm_eval_Slice]
          cases lo with
          | some l =>
            cases hi with
            | some h => exact (Z' .no (.head _)).elim
            | none =>
              refine wpAny_bind ((H.ev (C.le L) R').seqQ Z' fun b σ'' _ ρ'' s'' y L' R'' hb Z'' => ?_)
              refine wpAny_bind (wpAny_holding (wpAny_pure (wpAny_bind (wpAny_holding (wpAny_pure ?_)))))
              exact slice_sp (T := T) (SC := G.scr) (a := some b) (b := none) (lo := some l) (hi := none) (p := p2) (value := v) R'' (ha.le ι L') hb rfl Q E Z''
          | none =>
            cases hi with
            | none => exact (Z' .no (.head _)).elim
            | some h =>
              refine wpAny_bind (wpAny_pure (wpAny_bind (wpAny_holding ((H.ev (C.le L) R').seqQ Z' fun b σ'' _ ρ'' s'' y L' R'' hb Z'' => ?_))))
              refine wpAny_bind (wpAny_holding (wpAny_pure ?_))
              exact slice_sp (T := T) (SC := G.scr) (a := none) (b := some b) (lo := none) (hi := some h) (p := p2) (value := v) R'' (ha.le ι L') rfl hb Q E Z''
      | _ => cases hsl
    · have hsl : isSlice i = false := Bool.eq_false_iff.mpr hsl
      have e : evE T I c (.Subscript v i p) σ = obind (I.ev c v σ) fun o σ => obind (I.ev c i σ) fun k σ => getItemA T o k σ := by
        cases i <;> first | rfl | cases hsl
      rw [e]
      intro Q E Z
      refine Subscript_ ?_
      refine (H.ev C R).seqQ Z fun a σ' _ ρ' s' x L R' ha Z' => ?_
      refine (H.ev (C.le L) R').seqQ Z' fun b σ'' _ ρ'' s'' y L' R'' hb Z'' => ?_
      exact item_sp G.sym R'' hsl (ha.le ι L') hb Q E Z''
  | Call f as ks p => cases hs
  | Dict ks vs p => cases hs
  | _ => exact Sp.no
end
end Mine
end
noncomputable section
open PySem PySem.W PyProof.Rows PySem.Calls Builtin
set_option maxRecDepth 10000
namespace Mine
section
variable {prog : Program} {w : World} {ι : Nat → Int} {h₀ : Heap} {os₀ : OsState} {T : Tab} {K : Frag} {I : IH} {c : Cx} {σ : St} {ρ : List Addr} {s : Shared} {env : Env} {A : Around}
theorem callWith_any {pos : Pos} {f : Value} {k : Keeper} {first : List Value} {args : List (Bool × Sem Value)} {Q : Value → Shared → Prop} {E : Value → Shared → Prop}
    (h : wpAny (model prog w) A (evalArgs f true args []) (fun a s₁ => Looks (model prog w) s₁.heap (keeperOf f) k ∧ wpAny (model prog w) A (call f (first ++ a.pos) a.kw) Q E s₁) E s) :
    wpAny (model prog w) A (callWith pos f first args []) Q E s := by
  unfold callWith
  refine wpAny_bind (wpAny_holding (wpAny_mono h (fun a s₁ h₁ => wpAny_bind (wpAny_standAt ?_)) fun _ _ x => x))
  have tail : ∀ {t : Sem Value}, wpAny (model prog w) A t Q E s₁ → wpAny (model prog w) A (t >>= fun r => holding [r] point >>= fun _ => pure r) Q E s₁ :=
    fun ht => wpAny_bind (wpAny_mono ht (fun r s₂ hr => wpAny_bind (wpAny_holding (wpAny_point (wpAny_pure hr)))) fun _ _ x => x)
  have hc := h₁.2
  have mk : ∀ {m}, wpAny (model prog w) A (callMarked m f (first ++ a.pos) a.kw) Q E s₁ := by
    intro m; unfold callMarked; exact wpAny_keep hc
  refine wpAny_bind (m := keeperOf f) (h₁.1.here ?_)
  cases k <;> cases (args.any (·.1) || ([] : List (Option Str × Sem Value)).any (·.1.isNone)) <;> dsimp only
  all_goals first
    | exact tail hc
    | exact tail mk
    | exact tail (wpAny_operating hc)
    | (split <;> first | exact tail hc | exact tail mk)
theorem callWith_sp (H : Snd prog w ι h₀ os₀ I) (pos : Pos) {f : Value} {k : Keeper} {first : List Value} {g : List AV → St → List (Out AV)} (es : List Expr) (C : CE ρ c env A) (R : SR prog w ι h₀ os₀ ρ σ s)
    (hk : ∀ {ρ : List Addr} {σ : St} {s : Shared}, SR prog w ι h₀ os₀ ρ σ s → Looks (model prog w) s.heap (keeperOf f) k)
    (hg : ∀ vs σ' ρ' s' xs, Le ρ ρ' → SR prog w ι h₀ os₀ ρ' σ' s' → All2 (VR ι ρ') vs xs → Sp prog w ι h₀ os₀ A (call f (first ++ xs)) (VR ι) (g vs σ') ρ' s') :
    Sp prog w ι h₀ os₀ A (callWith pos f first (backTo pos (starEach es env)) []) (VR ι) (obind (evs (I.ev c) es σ) g) ρ s := by
  intro Q E Z
  refine callWith_any (k := k) ?_
  have sp := (spliced_sp H pos es C R).seqQ (Q' := fun xs s' => Looks (model prog w) s'.heap (keeperOf f) k ∧ wpAny (model prog w) A (call f (first ++ xs)) Q E s') Z fun vs σ' _ ρ' s' xs L R' hv Z' => ⟨hk R', hg vs σ' ρ' s' xs L R' hv Q E Z'⟩
  cases es with
  | nil => exact evalArgs_nil3 ⟨hk R, hg [] σ ρ s [] (Le.refl ρ) R trivial Q E fun o m => Z o m⟩
  | cons e r =>
    by_cases hs : star e = true
    · have : evs (I.ev c) (e :: r) σ = noo := by unfold evs; rw [hs]
      rw [this] at Z
      exact (Z .no (.head _)).elim
    · have hs : star e = false := Bool.eq_false_iff.mpr hs
      have h1 : backTo pos (starEach (e :: r) env) = (false, eval e env) :: backTo pos (starEach r env) := by
        cases e <;> first | rfl | cases hs
      rw [h1] at sp ⊢
      exact evalArgs_plain sp
theorem arg1 {vs : List AV} {xs : List Value} {v : AV} (h : All2 (VR ι ρ) vs xs) (e : vs = [v]) : ∃ x, xs = [x] ∧ VR ι ρ v x := by
  subst e
  match xs, h with
  | [x], h => exact ⟨x, rfl, h.1⟩
  | _ :: _ :: _, h => exact h.2.elim
theorem arg2 {vs : List AV} {xs : List Value} {v u : AV} (h : All2 (VR ι ρ) vs xs) (e : vs = [v, u]) : ∃ x y, xs = [x, y] ∧ VR ι ρ v x ∧ VR ι ρ u y := by
  subst e
  match xs, h with
  | [x, y], h => exact ⟨x, y, rfl, h.1, h.2.1⟩
  | _ :: _ :: _ :: _, h => exact h.2.2.elim
  | [_], h => exact h.2.elim
theorem lenA_sp (R : SR prog w ι h₀ os₀ ρ σ s) {v : AV} {x : Value} (hv : VR ι ρ v x) : Sp prog w ι h₀ os₀ A (call (.builtin "len") [x]) (VR ι) (lenA v σ) ρ s := by
  unfold lenA
  split
  · rename_i j
    split
    · rename_i xs hx
      obtain ⟨a, ea, rfl, vs, n, oa, ra⟩ := R.ref hx hv
      split
      · rename_i hz
        have hz := Nat.le_of_ble_eq_true hz
        have hs := size_of ra
        exact fun Q E Z => PyProof.Rows.len_list ⟨_, oa, rfl, n, rfl⟩ (by omega) (Z _ (.head _) ρ _ _ (Le.refl ρ) (R.toks _) ⟨_, by rw [hs]; rfl⟩)
      · exact Sp.no
    · rename_i xs hx
      obtain ⟨a, ea, rfl, vs, oa, ra⟩ := R.ref hx hv
      split
      · rename_i hz
        have hz := Nat.le_of_ble_eq_true hz
        have hs := size_of ra
        exact fun Q E Z => PyProof.Rows.len_tuple oa (by omega) (Z _ (.head _) ρ _ _ (Le.refl ρ) (R.toks _) ⟨_, by rw [hs]; rfl⟩)
      · exact Sp.no
    · rename_i L hx
      obtain ⟨a, ea, rfl, vs, ns, la, hn, hz, hL⟩ := R.ref hx hv
      exact fun Q E Z => PyProof.Rows.len_list la (by simp; omega) (Z _ (.head _) ρ _ _ (Le.refl ρ) (R.toks _) ⟨_, by rw [← hL L rfl]; rfl⟩)
    · exact Sp.no
  · exact Sp.no
theorem digit_text : ∀ a : Nat, a < 10 → Str.ofString (toString (Int.ofNat a)) = ⟨#[48 + a]⟩ := by decide +kernel
theorem callB (H : Snd prog w ι h₀ os₀ I) (G : GF prog w ι h₀ T K) (C : CE ρ c env A) (R : SR prog w ι h₀ os₀ ρ σ s) {x n : Str} {p pos : Pos} {f : Value} {es : List Expr} {g : List AV → St → List (Out AV)} (h : isB T c x n = true)
    (hn : n ∈ ([Str.ofString "len", Str.ofString "isinstance", Str.ofString "max", Str.ofString "str", Str.ofString "list", Str.ofString "range", Str.ofString "tuple", Str.ofString "Exception"] : List Str))
    (hv : bootBuiltins n = some f) (hd : (n == ("__debug__" : Str)) = false) (hk : keeperOf f = pure .machine)
    (hg : ∀ vs σ' ρ' s' xs, Le ρ ρ' → SR prog w ι h₀ os₀ ρ' σ' s' → All2 (VR ι ρ') vs xs → Sp prog w ι h₀ os₀ A (call f xs) (VR ι) (g vs σ') ρ' s') :
    Sp prog w ι h₀ os₀ A (eval (.Call (.Name x p) es [] pos) env) (VR ι) (obind (evs (I.ev c) es σ) g) ρ s := by
  rw [arm_eval_Call_Name']
  exact fun Q E Z => wpAny_bind (isB_load G C R h hn hv hd (callWith_sp H pos (first := []) es C R (fun _ => Looks.of_pure hk) hg Q E Z))
end
end Mine
end
noncomputable section
open PySem PySem.W PyProof.Rows PySem.Calls Builtin
set_option maxRecDepth 10000
namespace Mine
section
variable {prog : Program} {w : World} {ι : Nat → Int} {h₀ : Heap} {os₀ : OsState} {T : Tab} {K : Frag} {I : IH} {c : Cx} {σ : St} {ρ : List Addr} {s : Shared} {env : Env} {A : Around}
theorem inst_any (R : SR prog w ι h₀ os₀ ρ σ s) {j C d : Nat} {u : Value} (hj : sget σ j = some (.ins C d)) (hu : VR ι ρ (.ow j) u) (hd : ∃ es, sget σ d = some (.idc es)) : ∃ a ox od, u = .ref a ∧ InstAt s.heap a ox C (some od) := by
  obtain ⟨es, hes⟩ := hd
  obtain ⟨a, ea, rfl, da, eda, hx⟩ := R.ref hj hu
  obtain ⟨m, hn, _⟩ := idc_of R hes eda
  obtain ⟨od, es', ep, g1, g2, g3, I⟩ := inst_at (d := d) R hx hn.ns
  exact ⟨a, _, od, rfl, I⟩
theorem isInstC_sp (G : GF prog w ι h₀ T K) (R : SR prog w ι h₀ os₀ ρ σ s) {v k : AV} {x y : Value} (hv : VR ι ρ v x) (hk : VR ι ρ k y) :
    Sp prog w ι h₀ os₀ A (call (.builtin "isinstance") [x, y]) (VR ι) (isInstC T v k σ) ρ s := by
  have X := G.kin.keeps R.keep
  unfold isInstC
  split
  · rename_i C
    cases hk
    split
    · rename_i i hC
      have FC := G.clF C i hC
      split
      · obtain ⟨t, rfl⟩ := hv
        exact fun Q E Z => isn_call (P := fun _ => True) X (fun M => Looks.of_pure rfl) FC.int (by intro q; cases q) trivial int_cls (Z _ (.head _) ρ _ _ (Le.refl ρ) (R.toks _) rfl)
      · obtain ⟨t, rfl⟩ := hv
        exact fun Q E Z => isn_call (P := fun _ => True) X (fun M => Looks.of_pure rfl) FC.int (by intro q; cases q) trivial int_cls (Z _ (.head _) ρ _ _ (Le.refl ρ) (R.toks _) rfl)
      · rename_i j
        split
        · rename_i C' d hj
          split
          · rename_i i' hC'
            split
            · rename_i es hes
              have FD := G.clF C' i' hC'
              obtain ⟨a, ox, od, rfl, II⟩ := inst_any R hj hv ⟨es, hes⟩
              cases hb : Nat.beq C' C with
              | true =>
                have := Nat.eq_of_beq_eq_true hb
                subst this
                exact fun Q E Z => isi_call X (fun M => II.type) FD.self (by intro q; cases q) (Z _ (.head _) ρ _ _ (Le.refl ρ) R rfl)
              | false =>
                have ne : C ≠ C' := fun e => by subst e; rw [Nat.beq_refl] at hb; cases hb
                exact fun Q E Z => kin_callC X II (G.cl2 C C' i i' hC hC' ne) FD.get FD.has FD.cls G.oc1 G.oc2 FD.top (Z _ (.head _) ρ _ _ (Le.refl ρ) (R.toks _) rfl)
            · exact Sp.no
          · exact Sp.no
        · exact Sp.no
      · exact Sp.no
    · exact Sp.no
  · exact Sp.no
theorem isInstT_sp (G : GF prog w ι h₀ T K) (R : SR prog w ι h₀ os₀ ρ σ s) {v : AV} {x : Value} (hv : VR ι ρ v x) :
    Sp prog w ι h₀ os₀ A (call (.builtin "isinstance") [x, .type "tuple"]) (VR ι) (isInstT T v σ) ρ s := by
  have X := G.kin.keeps R.keep
  unfold isInstT
  split
  · rename_i j
    split
    · rename_i xs hj
      obtain ⟨a, ea, rfl, vs, ⟨o, ho, hc, _⟩, ra⟩ := R.ref hj hv
      exact fun Q E Z => IsiPair.tuple_tuple ho hc (Z _ (.head _) ρ _ _ (Le.refl ρ) R rfl)
    · rename_i C' d hj
      split
      · rename_i i' hC'
        split
        · rename_i es hes
          have FD := G.clF C' i' hC'
          obtain ⟨a, ox, od, rfl, II⟩ := inst_any R hj hv ⟨es, hes⟩
          exact fun Q E Z => kin_callT X II FD.tup (by kernel_rfl) FD.get FD.has FD.cls G.oc1 G.oc2 FD.top (Z _ (.head _) ρ _ _ (Le.refl ρ) (R.toks _) rfl)
        · exact Sp.no
      · exact Sp.no
    · exact Sp.no
  · exact Sp.no
theorem maxA_sp (hh : A.handled = none) (R : SR prog w ι h₀ os₀ ρ σ s) {a b : Int} {t u : Tok} :
    Sp prog w ι h₀ os₀ A (call (.builtin "max") [.int a t, .int b u]) (VR ι) (okk (.ii (match decide (a < b) with | true => b | false => a)) σ) ρ s :=
  fun Q E Z => max_two_ints hh fun h' tk hk => Z _ (.head _) ρ _ _ (Le.refl ρ) (R.ext hk) (by
    by_cases h : a < b
    · rw [if_pos h, decide_eq_true h]; exact ⟨_, rfl⟩
    · rw [if_neg h, decide_eq_false h]; exact ⟨_, rfl⟩)
theorem strA_sp (R : SR prog w ι h₀ os₀ ρ σ s) {a : Nat} {t : Tok} (h : a < 10) :
    Sp prog w ι h₀ os₀ A (call (.type "str") [.int (.ofNat a) t]) (VR ι) (okk (.ss ⟨#[48 + a]⟩) σ) ρ s :=
  fun Q E Z => P.str_of_int (by
    have : (Int.ofNat a).natAbs = a := rfl
    rw [this]
    have := Nat.log2_le_self a
    omega) (Z _ (.head _) ρ _ _ (Le.refl ρ) (R.toks _) ⟨_, by rw [← digit_text a h]⟩)
theorem listA_sp (R : SR prog w ι h₀ os₀ ρ σ s) {j : Nat} {xs : List AV} {x : Value} (hx : sget σ j = some (.lst xs)) (hv : VR ι ρ (.ow j) x) (hz : xs.length ≤ 1000) :
    Sp prog w ι h₀ os₀ A (call (.type "list") [x]) (VR ι) (okk (.ow σ.n) (spush σ (.lst xs))) ρ s := by
  obtain ⟨a, ea, rfl, vs, n, oa, ra⟩ := R.ref hx hv
  refine fun Q E Z => call_list_seq a (.inl rfl) oa rfl rfl (fun h' c' hk hD => Z _ (.head _) (ρ ++ [s.heap.objs.size]) _ _ ⟨_, rfl⟩ ?_ ⟨_, at_n R _, rfl⟩) (by rw [sizeLine_eq, size_of ra]; omega)
  exact R.new1 (t := s.toks) hk (Heap.get?_none_of_le (Nat.le_refl _)) ⟨vs, c', hD, ra.mono fun _ _ y => y.le ι ⟨_, rfl⟩⟩
end
end Mine
end
noncomputable section
open PySem PySem.W PyProof.Rows PySem.Calls Builtin
set_option maxRecDepth 10000
namespace Mine
section
variable {prog : Program} {w : World} {ι : Nat → Int} {h₀ : Heap} {os₀ : OsState} {T : Tab} {K : Frag} {I : IH} {c : Cx} {σ : St} {ρ : List Addr} {s : Shared} {env : Env} {A : Around}
theorem isinst_sp (H : Snd prog w ι h₀ os₀ I) (G : GF prog w ι h₀ T K) (C : CE ρ c env A) (R : SR prog w ι h₀ os₀ ρ σ s) {x k : Str} {p kp pos : Pos} {e : Expr} (h : isB T c x "isinstance" = true) (hs : star e = false) :
    Sp prog w ι h₀ os₀ A (eval (.Call (.Name x p) [e, .Name k kp] [] pos) env) (VR ι) (match isB T c k "tuple" with
      | true => obind (I.ev c e σ) (isInstT T)
      | false => obind (I.ev c e σ) fun v σ => obind (loadN T c k σ) fun k σ => isInstC T v k σ) ρ s := by
  rw [arm_eval_Call_Name']
  intro Q E Z
  refine wpAny_bind (isB_load G C R h (by simp) (v := .builtin "isinstance") (by kernel_rfl) (by decide +kernel) ?_)
  refine callWith_any (k := .machine) ?_
  have h1 : backTo pos (starEach [e, .Name k kp] env) = (false, eval e env) :: [(false, eval (.Name k kp) env)] := by
    cases e <;> first | rfl | cases hs
  rw [h1]
  refine evalArgs_plain (spliced_cons ?_)
  split at Z
  · rename_i hk
    refine (H.ev C R).seqQ Z fun v σ' _ ρ' s' u L R' hv Z' => ?_
    refine spliced_cons (isB_load G (C.le L) R' hk (by simp) (v := .type "tuple") (by kernel_rfl) (by decide +kernel) (spliced_nil ?_))
    exact ⟨Looks.of_pure rfl, isInstT_sp G R' hv Q E Z'⟩
  · refine (H.ev C R).seqQ Z fun v σ' _ ρ' s' u L R' hv Z' => ?_
    refine spliced_cons ((name_sp G (C.le L) R' k kp).seqQ Z' fun q σ'' _ ρ'' s'' y L' R'' hq Z'' => spliced_nil ?_)
    exact ⟨Looks.of_pure rfl, isInstC_sp G R'' (hv.le ι L') hq Q E Z''⟩
theorem evBi_sp (H : Snd prog w ι h₀ os₀ I) (G : GF prog w ι h₀ T K) (C : CE ρ c env A) (R : SR prog w ι h₀ os₀ ρ σ s) (x : Str) (p pos : Pos) (es : List Expr) :
    Sp prog w ι h₀ os₀ A (eval (.Call (.Name x p) es [] pos) env) (VR ι) (evBi T I c x es σ) ρ s := by
  unfold evBi
  split
  · rename_i h
    refine callB H G C R h (by simp) (f := .builtin "len") (by kernel_rfl) (by decide +kernel) rfl fun vs σ' ρ' s' xs L R' hv => ?_
    split
    · obtain ⟨y, rfl, hy⟩ := arg1 hv rfl
      exact lenA_sp R' hy
    · exact Sp.no
  · split
    · rename_i h
      split
      · rename_i e k kp
        cases hs : star e with
        | true => exact Sp.no
        | false => exact isinst_sp H G C R h hs
      · exact Sp.no
    · split
      · rename_i h
        refine callB H G C R h (by simp) (f := .builtin "max") (by kernel_rfl) (by decide +kernel) rfl fun vs σ' ρ' s' xs L R' hv => ?_
        split
        · rename_i a b hc
          obtain ⟨y, z, rfl, ⟨t, rfl⟩, ⟨u, rfl⟩⟩ := arg2 hv rfl
          exact maxA_sp (C.hd hc) R'
        · exact Sp.no
      · split
        · rename_i h
          refine callB H G C R h (by simp) (f := .type "str") (by kernel_rfl) (by decide +kernel) rfl fun vs σ' ρ' s' xs L R' hv => ?_
          split
          · rename_i a
            obtain ⟨y, rfl, ⟨t, rfl⟩⟩ := arg1 hv rfl
            split
            · rename_i ha
              exact strA_sp R' (Nat.le_of_ble_eq_true ha)
            · exact Sp.no
          · exact Sp.no
        · split
          · rename_i h
            refine callB H G C R h (by simp) (f := .type "list") (by kernel_rfl) (by decide +kernel) rfl fun vs σ' ρ' s' xs L R' hv => ?_
            split
            · rename_i j
              obtain ⟨y, rfl, hy⟩ := arg1 hv rfl
              split
              · rename_i l hl
                split
                · rename_i hz
                  exact listA_sp R' hl hy (Nat.le_of_ble_eq_true hz)
                · exact Sp.no
              · exact Sp.no
            · exact Sp.no
          · exact Sp.no
end
end Mine
end
noncomputable section
open PySem PySem.W PyProof.Rows PySem.Calls Builtin
set_option maxRecDepth 10000
namespace Mine
theorem lvA_ok {P : Out AFl → Prop} {fs : List Nat} : ∀ {l : List (Out AFl)}, (∀ o ∈ lvA fs l, P o) → P .no ∨ ((∀ a σ, .ok a σ ∈ l → P (.ok a σ)) ∧ (∀ k σ, .ex k σ ∈ l → P (.ex k σ) ∧ frms σ fs = true ∧ isExc σ k = true) ∧ .no ∉ l)
  | [], _ => .inr ⟨fun _ _ h => (nomatch h), fun _ _ h => (nomatch h), fun h => (nomatch h)⟩
  | .ok a σ :: r, h => by
    rcases lvA_ok (l := r) fun o m => h o (.tail _ m) with q | ⟨q1, q2, q3⟩
    · exact .inl q
    · refine .inr ⟨fun b τ m => ?_, fun k τ m => ?_, fun m => ?_⟩
      · cases m with
        | head => exact h _ (.head _)
        | tail _ m => exact q1 b τ m
      · cases m with
        | tail _ m => exact q2 k τ m
      · cases m with | tail _ m => exact q3 m
  | .ex k σ :: r, h => by
    unfold lvA at h
    split at h
    · rename_i hc
      rw [Bool.and_eq_true] at hc
      rcases lvA_ok (l := r) fun o m => h o (.tail _ m) with q | ⟨q1, q2, q3⟩
      · exact .inl q
      · refine .inr ⟨fun b τ m => ?_, fun k' τ m => ?_, fun m => ?_⟩
        · cases m with
          | tail _ m => exact q1 b τ m
        · cases m with
          | head => exact ⟨h _ (.head _), hc⟩
          | tail _ m => exact q2 k' τ m
        · cases m with | tail _ m => exact q3 m
    · exact .inl (h _ (.head _))
  | .no :: r, h => .inl (h _ (.head _))
section
variable {prog : Program} {w : World} {ι : Nat → Int} {h₀ : Heap} {os₀ : OsState} {T : Tab} {K : Frag} {I : IH} {c : Cx} {σ : St} {ρ : List Addr} {s : Shared} {env : Env} {A : Around}
noncomputable def LV (prog : Program) (w : World) (ι : Nat → Int) (h₀ : Heap) (os₀ : OsState) : Prop :=
  ∀ {c : Cx} {σ : St} {ρ : List Addr} {s : Shared} {env : Env} {A : Around} {k : Nat} {a : Addr} {Q : Unit → Shared → Prop} {E : Value → Shared → Prop}, CE ρ c env A → SR prog w ι h₀ os₀ ρ σ s → frms σ (c.fr :: c.fs) = true → isExc σ k = true → ρ[k]? = some a → Fly h₀ ρ σ a s →
    (∀ s', SR prog w ι h₀ os₀ ρ σ s' → Fly h₀ ρ σ a s' → Q () s') → wpAny (model prog w) A (leaving env (.ref a)) Q E s
theorem look_rev : ∀ {bs : List (Str × AV)} {binds : List (Str × Value)}, All2 (fun p q => p.1 = q.1 ∧ VR ι ρ p.2 q.2) bs binds → (bs.map (·.1)).Nodup → NR ι ρ bs (fun x => binds.reverse.lookup x)
  | [], [], _, _ => fun x v e => by cases e
  | p :: r, q :: m, h, hn => fun x v e => by
    obtain ⟨⟨h1, h2⟩, h3⟩ := h
    obtain ⟨n1, n2⟩ := List.nodup_cons.mp hn
    show ∃ u, (q :: m).reverse.lookup x = some u ∧ _
    rw [List.reverse_cons, List.lookup_append]
    unfold look at e
    split at e
    · rename_i hs
      cases e
      have hs := seq_true hs
      have none : m.reverse.lookup x = none := by
        rw [List.lookup_eq_none_iff]
        intro y hy
        rw [List.mem_reverse] at hy
        rw [bne_iff_ne]
        intro e
        apply n1
        have : ∀ {r : List (Str × AV)} {m : List (Str × Value)}, All2 (fun p q => p.1 = q.1 ∧ VR ι ρ p.2 q.2) r m → ∀ y ∈ m, y.1 ∈ r.map (·.1) := by
          intro r
          induction r with
          | nil => intro m h y hy; cases m with
            | nil => cases hy
            | cons => exact h.elim
          | cons p r ih => intro m h y hy; cases m with
            | nil => exact h.elim
            | cons q m =>
              cases hy with
              | head => rw [← h.1.1]; exact .head _
              | tail _ hy => exact .tail _ (ih h.2 y hy)
        show p.1 ∈ _
        rw [hs, e]
        exact this h3 y hy
      rw [none]
      refine ⟨q.2, ?_, h2⟩
      obtain ⟨q1, q2⟩ := q
      have hq : x = q1 := by rw [← hs]; exact h1
      subst hq
      simp [List.lookup]
    · obtain ⟨u, hu, hr⟩ := look_rev h3 n2 x v e
      exact ⟨u, by rw [show m.reverse.lookup x = some u from hu]; rfl, hr⟩
  | [], _ :: _, h, _ => h.elim
  | _ :: _, [], h, _ => h.elim
theorem bindP_names {ps : List Arg} {vs ds : List AV} {bs : List (Str × AV)} (h : bindP ps vs ds = some bs) : bs.map (·.1) = ps.map (·.arg) := by
  unfold bindP at h
  split at h
  · rename_i hz
    cases h
    have := Nat.eq_of_beq_eq_true hz
    rw [List.map_fst_zip]
    rw [List.length_map, List.length_append]; omega
  · cases h
theorem callF_sp (LVh : LV prog w ι h₀ os₀) (H : Snd prog w ι h₀ os₀ I) (G : GF prog w ι h₀ T K) {fs : List Nat} {dp : Nat} {hd : Bool} {a : Addr} {fi : FnI} {as : List AV} {vs : List Value} (ha : T.fn a = some fi) (hdp : dp ≤ 40) (C : CC ρ fs dp hd A) (R : SR prog w ι h₀ os₀ ρ σ s) (hv : All2 (VR ι ρ) as vs) :
    Sc prog w ι h₀ os₀ A (.ref a) vs (VR ι) (callF I fs dp hd fi as σ) ρ s := by
  unfold callF
  split
  · rename_i bs hb
    have FF := G.fn a fi ha
    obtain ⟨oc, od, osl, name, qual, params, dV, kV, doc, pm, cdv, ct, an, ho, hcr, hbind⟩ := FF.obj
    obtain ⟨binds, hB, hA⟩ := hbind ι ρ s as vs bs R.keep hb hv
    intro Q E Z
    have hnm := bindP_names hb
    have names : ∀ {bs : List (Str × AV)} {binds : List (Str × Value)}, All2 (fun p q => p.1 = q.1 ∧ VR ι ρ p.2 q.2) bs binds → ∀ x ∈ binds, x.1 ∈ bs.map (·.1) := by
      intro r
      induction r with
      | nil => intro m h y hy; cases m with
        | nil => cases hy
        | cons => exact h.elim
      | cons p r ih => intro m h y hy; cases m with
        | nil => exact h.elim
        | cons q m =>
          cases hy with
          | head => rw [← h.1.1]; exact .head _
          | tail _ hy => exact .tail _ (ih h.2 y hy)
    have hdep := C.depth
    have hun := C.units
    obtain ⟨l, hfr, hfl⟩ := C.fr
    refine codeAny_call_def (fd := fnOf name qual params (gB fi.st) (gS fi.st) dV kV doc pm an cdv ct) (body := gB fi.st) (binds := binds) (by show A.depth < 1000; omega) (R.keep _ _ ho) rfl (G.lim.keeps R.keep) ?_ rfl hB FF.cell (fun x hx => ?_) (fun h₁ hns hk => ?_) FF.co FF.gen FF.kind
    · obtain ⟨c', oc', vs', tq, e1, e2, e3, e4⟩ := hcr
      exact ⟨c', oc', vs', tq, e1, R.keep _ _ e2, e3, e4⟩
    · have := names hA x hx
      rw [hnm] at this
      obtain ⟨p, hp, hpe⟩ := List.mem_map.mp this
      rw [← hpe]
      exact FF.loc p hp
    · have R1 := R.new1 (t := s.toks + binds.length) (o := .nsp bs) hk (Heap.get?_none_of_le (Nat.le_refl _)) ⟨_, hns, fun x v e => by
        obtain ⟨u, hu, hr⟩ := look_rev hA (by rw [hnm]; exact FF.nodup) x v e
        exact ⟨u, hu, hr.le ι ⟨_, rfl⟩⟩⟩
      have CI : CE (ρ ++ [s.heap.objs.size]) ⟨gS fi.st, σ.n, fs, dp + 1, hd⟩ (envOf qual (gS fi.st) s.heap.objs.size a cdv) (A.deeper (envOf qual (gS fi.st) s.heap.objs.size a cdv)) := by
        refine ⟨⟨qual, _, a, cdv, rfl, at_n R _⟩, FF.kind, ⟨l, by rw [Around.frames_deeper hfr], hfl.le ⟨_, rfl⟩⟩, ?_, ?_, C.hd, ?_⟩
        · show A.depth + 1 ≤ _; dsimp only; omega
        · show A.units + 3 ≤ _; dsimp only; omega
        · dsimp only; omega
      rcases obind_ok Z with q | ⟨q1, q2, q3⟩
      · exact q.elim
      · have lv := lvA_ok (P := fun o => match o with
          | .ok fl σ' => ∀ o ∈ (match fl with | .nx => okk .nn σ' | .rt v => okk v σ' | _ => noo : List (Out AV)), Post prog w ι h₀ os₀ (VR ι) ρ Q E o
          | .ex k σ' => Post prog w ι h₀ os₀ (VR ι) ρ Q E (.ex k σ')
          | .no => False) (fs := σ.n :: fs) (l := I.ex ⟨gS fi.st, σ.n, fs, dp + 1, hd⟩ (gB fi.st) (spush σ (.nsp bs))) (fun o m => by
            cases o with
            | ok fl σ' => exact q1 fl σ' m
            | ex k σ' => exact q2 k σ' m
            | no => exact q3 m)
        rcases lv with q | ⟨p1, p2, p3⟩
        · exact q.elim
        · refine H.ex CI R1 _ _ fun o ho => ?_
          cases o with
          | ok fl σ' =>
            intro ρ' s' f L R' hf
            have z := p1 fl σ' ho
            have L' : Le ρ ρ' := Le.trans ⟨_, rfl⟩ L
            cases fl with
            | nx => cases hf; exact z _ (.head _) ρ' s' _ L' R' rfl
            | rt v => obtain ⟨u, rfl, hu⟩ := hf; exact z _ (.head _) ρ' s' _ L' R' hu
            | bk => exact (z _ (.head _)).elim
            | ct => exact (z _ (.head _)).elim
          | ex k σ' =>
            intro ρ' s' e L R' he fly
            obtain ⟨z, hf, hx⟩ := p2 k σ' ho
            have L' : Le ρ ρ' := Le.trans ⟨_, rfl⟩ L
            exact LVh (CI.le L) R' hf hx he fly fun s'' R'' fly'' => z ρ' s'' e L' R'' he fly''
          | no => exact (p3 ho).elim
  · exact Sc.no
end
end Mine
end
noncomputable section
open PySem PySem.W PyProof.Rows PySem.Calls Builtin
set_option maxRecDepth 10000
namespace Mine
section
variable {prog : Program} {w : World} {ι : Nat → Int} {h₀ : Heap} {os₀ : OsState} {T : Tab} {K : Frag} {I : IH} {c : Cx} {σ : St} {ρ : List Addr} {s : Shared} {env : Env} {A : Around}
theorem keeper_of (G : GF prog w ι h₀ T K) {f : AV} {fv : Value} (h : known T f = true) (hv : VR ι ρ f fv) :
    ∃ k, ∀ {ρ : List Addr} {σ : St} {s : Shared}, SR prog w ι h₀ os₀ ρ σ s → Looks (model prog w) s.heap (keeperOf fv) k := by
  unfold known at h
  split at h
  · rename_i a
    cases hv
    split at h
    · rename_i fi hf
      obtain ⟨oc, od, osl, name, qual, params, dV, kV, doc, pm, cdv, ct, an, ho, _⟩ := (G.fn a fi hf).obj
      refine ⟨.frame, fun R => ?_⟩
      unfold keeperOf
      exact (Looks.ld (part := none) (R.keep _ _ ho)).andThen .now
    · split at h
      · rename_i ci hc
        obtain ⟨⟨oc, od, cd, sl, ho⟩, hs⟩ := G.ck a ci hc
        refine ⟨.machine, fun R => ?_⟩
        unfold keeperOf
        refine (Looks.ld (part := none) (R.keep _ _ ho)).andThen ?_
        dsimp only
        refine (looks_specialIn (G.kin.keeps R.keep) hs).andThen ?_
        exact Looks.of_pure (by simp)
      · cases h
  · cases h
theorem evCall_sp (H : Snd prog w ι h₀ os₀ I) (G : GF prog w ι h₀ T K) (C : CE ρ c env A) (R : SR prog w ι h₀ os₀ ρ σ s) (x : Str) (p pos : Pos) (es : List Expr) :
    Sp prog w ι h₀ os₀ A (eval (.Call (.Name x p) es [] pos) env) (VR ι) (evCall T I c x es σ) ρ s := by
  rw [arm_eval_Call_Name']
  unfold evCall
  refine Sp.bind (name_sp G C R x p) fun fv σ' _ ρ' s' f L R' hf => ?_
  split
  · rename_i hk
    obtain ⟨k, hk⟩ := keeper_of (os₀ := os₀) (prog := prog) (w := w) G hk hf
    refine callWith_sp H pos (first := []) es (C.le L) R' (fun R => hk R) fun vs σ'' ρ'' s'' xs L' R'' hv => ?_
    exact (H.ca ((C.le (L.trans L')).cc) R'' (hf.le ι L') hv).sp
  · exact Sp.no
theorem mkIns_sp (H : Snd prog w ι h₀ os₀ I) (G : GF prog w ι h₀ T K) (F : ∀ C fI, T.cl C = some ⟨some fI, false⟩ → makesIn K C = true ∧ findIn K (.ref C) "__init__" = some (some (.ref fI)) ∧ typeIn K (.ref fI) = some (.type "function"))
    {fs : List Nat} {dp : Nat} {hd : Bool} {C fI : Addr} {as : List AV} {vs : List Value} (hC : T.cl C = some ⟨some fI, false⟩) (hdp : dp ≤ 40) (CA : CC ρ fs dp hd A) (R : SR prog w ι h₀ os₀ ρ σ s) (hv : All2 (VR ι ρ) as vs) :
    Sc prog w ι h₀ os₀ A (.ref C) vs (VR ι) (backN (.ow (σ.n + 1)) (I.ca fs (dp + 1) hd (.cv (.ref fI)) (.ow (σ.n + 1) :: as) (spush (spush σ (.idc [])) (.ins C σ.n)))) ρ s := by
  obtain ⟨f1, f2, f3⟩ := F C fI hC
  have X := G.kin.keeps R.keep
  intro Q E Z
  obtain ⟨hh, g, d, t, os⟩ := s
  refine make_core (makes_of X f1) (looks_findIn X f2) (fun self => bind_fn X self f3) (.inl rfl) ?_
  have R1 : SR prog w ι h₀ os₀ (ρ ++ [hh.objs.size]) (spush σ (.idc [])) ⟨hh.push emptyDict, g, d, t, os⟩ :=
    R.new1 (t := t) (fun b o e => Heap.get?_push_of_some _ e) (Heap.get?_none_of_le (Nat.le_refl _)) ⟨fun _ => none, Heap.Ns1.of_empty (Heap.Ns.new hh _), fun x v e => by (cases e), fun x e => rfl⟩
  have R2 : SR prog w ι h₀ os₀ (ρ ++ [hh.objs.size] ++ [(hh.push emptyDict).objs.size]) (spush (spush σ (.idc [])) (.ins C σ.n)) ⟨(hh.push emptyDict).push (instObj C hh.objs.size), g, d, t, os⟩ :=
    R1.new1 (t := t) (fun b o e => Heap.get?_push_of_some _ e) (Heap.get?_none_of_le (Nat.le_refl _)) ⟨hh.objs.size, Le.get ⟨_, rfl⟩ (at_n R _), Heap.get?_push_size _ rfl⟩
  have L : Le ρ (ρ ++ [hh.objs.size] ++ [(hh.push emptyDict).objs.size]) := Le.trans ⟨_, rfl⟩ ⟨_, rfl⟩
  have hx : (ρ ++ [hh.objs.size] ++ [(hh.push emptyDict).objs.size])[σ.n + 1]? = some (hh.objs.size + 1) := by
    have := at_n R1 (hh.push emptyDict).objs.size
    rw [Heap.size_push] at this
    rw [Heap.size_push]
    exact this
  have hdep := CA.depth
  have hun := CA.units
  have CA' : CC (ρ ++ [hh.objs.size] ++ [(hh.push emptyDict).objs.size]) fs (dp + 1) hd (A.under (.builtin "type.__call__" ⟨.ref C :: vs, []⟩)) := by
    have e : A.under (.builtin "type.__call__" ⟨.ref C :: vs, []⟩) = A.under (.builtin "type.__call__" ⟨.ref C :: vs, []⟩) := rfl
    refine ⟨?_, ?_, ?_, ?_, by omega⟩
    · obtain ⟨l, h1, h2⟩ := CA.fr
      exact ⟨l, h1, h2.le L⟩
    · have : (Code.builtin "type.__call__" ⟨.ref C :: vs, []⟩).weight = 1 := by
        have h1 : (Code.builtin "type.__call__" ⟨.ref C :: vs, []⟩).isGuard = false := by kernel_rfl
        have h2 : (Code.builtin "type.__call__" ⟨.ref C :: vs, []⟩).isCaller = false := by rfl
        have h3 : (Code.builtin "type.__call__" ⟨.ref C :: vs, []⟩).frames = 0 := by rfl
        have h4 : (Code.builtin "type.__call__" ⟨.ref C :: vs, []⟩).isCreation = true := by rfl
        unfold Code.weight
        rw [h1, h2, h3, h4]
        rfl
      show A.depth + (Code.builtin "type.__call__" ⟨.ref C :: vs, []⟩).weight ≤ _
      rw [this]
      omega
    · have : (Code.builtin "type.__call__" ⟨.ref C :: vs, []⟩).cUnits = 1 := by
        have h3 : (Code.builtin "type.__call__" ⟨.ref C :: vs, []⟩).frames = 0 := by rfl
        show 1 + 3 * (Code.builtin "type.__call__" ⟨.ref C :: vs, []⟩).frames = 1
        rw [h3]
      show A.units + (Code.builtin "type.__call__" ⟨.ref C :: vs, []⟩).cUnits ≤ _
      rw [this]
      omega
    · exact CA.hd
  unfold backN at Z
  rcases obind_ok Z with q | ⟨q1, q2, q3⟩
  · exact q.elim
  · refine codeAny_mono (H.ca (f := .cv (.ref fI)) (fv := .ref fI) (as := .ow (σ.n + 1) :: as) (vs := .ref (hh.objs.size + 1) :: vs) CA' R2 rfl ⟨⟨_, hx, rfl⟩, hv.mono fun _ _ y => y.le ι L⟩ (fun v s' => v = .none ∧ Q (.ref (hh.objs.size + 1)) s') E fun o ho => ?_) fun r s' z => ?_
    · cases o with
      | ok r σ' =>
        intro ρ' s' x L' R' hr
        have z := q1 r σ' ho
        cases r with
        | nn => cases hr; exact ⟨rfl, z _ (.head _) ρ' s' _ (L.trans L') R' ⟨_, L'.get hx, rfl⟩⟩
        | _ => exact (z _ (.head _)).elim
      | ex k σ' =>
        intro ρ' s' a L' R' ha fly
        exact q2 k σ' ho ρ' s' a (L.trans L') R' ha fly
      | no => exact (q3 ho).elim
    · rcases r with e | (v | _ | _ | _) <;> first | exact z | exact z.elim
end
end Mine
end
noncomputable section
open PySem PySem.W PyProof.Rows PySem.Calls Builtin
set_option maxRecDepth 10000
namespace Mine
section
variable {prog : Program} {w : World} {ι : Nat → Int} {h₀ : Heap} {os₀ : OsState} {T : Tab} {K : Frag} {I : IH} {c : Cx} {σ : St} {ρ : List Addr} {s : Shared} {env : Env} {A : Around}
theorem exL_sp (hS : ∀ (st : Stmt) {σ : St} {ρ : List Addr} {s : Shared}, CE ρ c env A → SR prog w ι h₀ os₀ ρ σ s → Sp prog w ι h₀ os₀ A (exec st env) (FR ι) (exS T I c st σ) ρ s) :
    ∀ (l : List Stmt) {σ : St} {ρ : List Addr} {s : Shared}, CE ρ c env A → SR prog w ι h₀ os₀ ρ σ s → Sp prog w ι h₀ os₀ A (execs l env) (FR ι) (exL T I c l σ) ρ s
  | [], σ, ρ, s, C, R => fun Q E Z => wpAny_execs_nil (Z _ (.head _) ρ s _ (Le.refl ρ) R rfl)
  | st :: l, σ, ρ, s, C, R => by
    intro Q E Z
    unfold exL at Z
    refine wpAny_execs_cons ((hS st C R).seqQ Z fun fl σ' _ ρ' s' f L R' hf Z' => ?_)
    cases fl with
    | nx => cases hf; exact exL_sp hS l (C.le L) R' Q E Z'
    | rt v => obtain ⟨u, rfl, hu⟩ := hf; exact Z' _ (.head _) ρ' s' _ (Le.refl _) R' ⟨u, rfl, hu⟩
    | bk => cases hf; exact Z' _ (.head _) ρ' s' _ (Le.refl _) R' rfl
    | ct => cases hf; exact Z' _ (.head _) ρ' s' _ (Le.refl _) R' rfl
theorem ret_sp (H : Snd prog w ι h₀ os₀ I) (C : CE ρ c env A) (R : SR prog w ι h₀ os₀ ρ σ s) (v : Option Expr) (p : Pos) : Sp prog w ι h₀ os₀ A (exec (.Return v p) env) (FR ι) (exS T I c (.Return v p) σ) ρ s := by
  cases v with
  | none => exact fun Q E Z => wpAny_Return_none (Z _ (.head _) ρ s _ (Le.refl ρ) R ⟨_, rfl, rfl⟩)
  | some e => exact fun Q E Z => wpAny_Return_some ((H.ev C R).seqQ Z fun v σ' _ ρ' s' u L R' hv Z' => Z' _ (.head _) ρ' s' _ (Le.refl _) R' ⟨u, rfl, hv⟩)
theorem if_sp (H : Snd prog w ι h₀ os₀ I) (G : GF prog w ι h₀ T K) (C : CE ρ c env A) (R : SR prog w ι h₀ os₀ ρ σ s) (t : Expr) (b o : List Stmt) (p : Pos) : Sp prog w ι h₀ os₀ A (exec (.If t b o p) env) (FR ι) (exS T I c (.If t b o p) σ) ρ s := by
  intro Q E Z
  refine wpAny_If ((tr_sp H G 20 t C R).seqQ Z fun q σ' _ ρ' s' u L R' hq Z' => ?_)
  cases hq
  cases q
  · exact H.ex (C.le L) R' Q E Z'
  · exact H.ex (C.le L) R' Q E Z'
theorem pass_sp (R : SR prog w ι h₀ os₀ ρ σ s) (p : Pos) : Sp prog w ι h₀ os₀ A (exec (.Pass p) env) (FR ι) (exS T I c (.Pass p) σ) ρ s :=
  fun Q E Z => wpAny_Pass (Z _ (.head _) ρ s _ (Le.refl ρ) R rfl)
theorem assign_name_sp (C : CE ρ c env A) (R : SR prog w ι h₀ os₀ ρ σ s) {v : AV} {u : Value} (x : Str) (p : Pos) (hr : VR ι ρ v u) : Sp prog w ι h₀ os₀ A (assign (.Name x p) env u) (fun _ (_ : Unit) (_ : Unit) => True) (storeN c x v σ) ρ s :=
  fun Q E Z => wpAny_assign_Name (store_sp C R x hr Q E Z)
theorem assign_attr_sp (H : Snd prog w ι h₀ os₀ I) (G : GF prog w ι h₀ T K) (C : CE ρ c env A) (R : SR prog w ι h₀ os₀ ρ σ s) {v : AV} {u : Value} (o : Expr) (n : Str) (p : Pos) (hr : VR ι ρ v u)
    (GX : ∀ {ρ : List Addr} {s : Shared} {σ : St} {y : Value} (C j : Nat) (dd : Option Nat) (f : Bool), SR prog w ι h₀ os₀ ρ σ s → VR ι ρ v u → isX T C n = true → sget σ j = some (.exc C dd f) → VR ι ρ (.ow j) y →
      Sp prog w ι h₀ os₀ A (setAttr y n u) (fun _ (_ : Unit) (_ : Unit) => True) (match dd with | some d => setD σ d n v | none => newD σ j C f n v) ρ s) :
    Sp prog w ι h₀ os₀ A (assign (.Attribute o n p) env u) (fun _ (_ : Unit) (_ : Unit) => True) (obind (I.ev c o σ) fun ov σ => setAttrA T ov n v σ) ρ s := by
  show Sp prog w ι h₀ os₀ A (holding [u] (eval o env) >>= fun ov => standAt p.atName >>= fun _ => holding [u, ov] (setAttr ov n u) >>= fun _ => release [u, ov] []) _ _ _ _
  refine Sp.bind (Sp.hold (H.ev C R)) fun ov σ' _ ρ' s' y L R' hy => Sp.stand ?_
  refine Sp.turn (Sp.hold (setAttr_sp G R' n hy (hr.le ι L) fun C j dd f h1 h2 h3 => GX C j dd f R' (hr.le ι L) h1 h2 h3)) fun a σ'' _ ρ'' s'' z L' R'' _ => ?_
  exact fun Q E Z => wpAny_release (Z _ (.head _) ρ'' s'' () (Le.refl _) R'' trivial)
end
end Mine
end
noncomputable section
open PySem PySem.W PyProof.Rows PySem.Calls Builtin
set_option maxRecDepth 10000
namespace Mine
section
variable {prog : Program} {w : World} {ι : Nat → Int} {h₀ : Heap} {os₀ : OsState} {T : Tab} {K : Frag} {I : IH} {c : Cx} {σ : St} {ρ : List Addr} {s : Shared} {env : Env} {A : Around}
theorem noex_post {α β : Type} {RA : List Addr → α → β → Prop} {Q : β → Shared → Prop} {E : Value → Shared → Prop} {l : List (Out α)} (Z : ∀ o ∈ noex l, Post prog w ι h₀ os₀ RA ρ Q E o) :
    ∀ (E' : Value → Shared → Prop), ∀ o ∈ l, Post prog w ι h₀ os₀ RA ρ Q E' o := by
  intro E' o ho
  rcases noex_ok Z with q | ⟨q1, q2⟩
  · exact q.elim
  · obtain ⟨a, σ', rfl⟩ := q2 o ho
    exact q1 a σ' ho
theorem while_sp (H : Snd prog w ι h₀ os₀ I) (G : GF prog w ι h₀ T K) (C : CE ρ c env A) (R : SR prog w ι h₀ os₀ ρ σ s) (t : Expr) (b : List Stmt) (p : Pos) :
    Sp prog w ι h₀ os₀ A (exec (.While t b [] p) env) (FR ι) (noex (whileA I T c t b 30 σ)) ρ s := by
  intro Q E Z
  have Z0 := noex_post Z (fun _ _ => False)
  refine wpAny_While (codeAny_whileLoop (fun n s' => ∃ σ' ρ', Le ρ ρ' ∧ SR prog w ι h₀ os₀ ρ' σ' s' ∧ ∀ o ∈ whileA I T c t b n σ', Post prog w ι h₀ os₀ (FR ι) ρ' Q (fun _ _ => False) o) (fun n s' hI => ?_) 30 ⟨σ, ρ, Le.refl ρ, R, Z0⟩)
  obtain ⟨σ', ρ', L, R', Z1⟩ := hI
  cases n with
  | zero => exact (Z1 .no (.head _)).elim
  | succ n =>
    unfold whileA at Z1
    refine wpAny_mono ((tr_sp H G 20 t (C.le L) R').seqQ Z1 fun q σ'' _ ρ'' s'' u L' R'' hq Z2 => ?_) (fun _ _ x => x) fun _ _ x => x.elim
    cases hq
    cases q with
    | false =>
      simp only [Bool.false_eq_true, if_false]
      exact wpAny_execs_nil (Z2 _ (.head _) ρ'' s'' _ (Le.refl _) R'' rfl)
    | true =>
      simp only [if_true]
      refine wpAny_mono ((H.ex (C.le (L.trans L')) R'').seqQ Z2 fun fl σ3 _ ρ3 s3 f L3 R3 hf Z3 => ?_) (fun _ _ x => x) fun _ _ x => x.elim
      cases fl with
      | nx => cases hf; exact ⟨n, Nat.lt_succ_self n, σ3, ρ3, (L.trans L').trans L3, R3, Z3⟩
      | ct => cases hf; exact ⟨n, Nat.lt_succ_self n, σ3, ρ3, (L.trans L').trans L3, R3, Z3⟩
      | bk => cases hf; exact Z3 _ (.head _) ρ3 s3 _ (Le.refl _) R3 rfl
      | rt v => obtain ⟨y, rfl, hy⟩ := hf; exact Z3 _ (.head _) ρ3 s3 _ (Le.refl _) R3 ⟨y, rfl, hy⟩
end
end Mine
end
noncomputable section
open PySem PySem.W PyProof.Rows PySem.Calls Builtin
set_option maxRecDepth 10000
namespace Mine
section
variable {prog : Program} {w : World} {ι : Nat → Int} {h₀ : Heap} {os₀ : OsState} {T : Tab} {K : Frag} {I : IH} {c : Cx} {σ : St} {ρ : List Addr} {s : Shared} {env : Env} {A : Around}
theorem set_list (R : SR prog w ι h₀ os₀ ρ σ s) {j : Nat} {l : Addr} {xs : List AV} {vs : Array Value} {n k : Nat} {v : AV} {u : Value} (hx : sget σ j = some (.lst xs)) (ea : ρ[j]? = some l) (oa : s.heap.get? l = some (listOf vs n)) (ra : All2 (VR ι ρ) xs vs.toList) (hv : VR ι ρ v u) :
    SR prog w ι h₀ os₀ ρ (sset σ j (.lst (xs.set k v))) { s with heap := s.heap.update l (Obj.mapSeq (·.setIfInBounds k u)) } := by
  refine R.upd (t := s.toks) hx ea (sb (Heap.SameBut.update ..)) ?_
  have q := PySem.IsL.update (show PySem.IsL s.heap l vs n from oa) (·.setIfInBounds k u)
  refine ⟨_, _, q, ?_⟩
  rw [Array.toList_setIfInBounds]
  exact ra.set hv
theorem setList_sp (R : SR prog w ι h₀ os₀ ρ σ s) {j : Nat} {k : Int} {xs : List AV} {v : AV} {x y u : Value} (hx : sget σ j = some (.lst xs)) (ho : VR ι ρ (.ow j) x) (hi : VR ι ρ (.ii k) y) (hv : VR ι ρ v u) (hk : idxOk xs.length k = true) :
    Sp prog w ι h₀ os₀ A (setItem x y u) (fun _ (_ : Unit) (_ : Unit) => True) (okk () (sset σ j (.lst (xs.set (idx xs.length k) v)))) ρ s := by
  obtain ⟨t, rfl⟩ := hi
  obtain ⟨l, ea, rfl, vs, n, oa, ra⟩ := R.ref hx ho
  obtain ⟨h1, h2, h3⟩ := idxOk_of hk
  have hz := size_of ra
  intro Q E Z
  have fin := fun k' => set_list (k := k') R hx ea oa ra hv
  rcases h3 with ⟨q1, q2⟩ | ⟨q1, q2, q3⟩
  · refine ki_setAt oa q1 (by omega) (by omega) (Z _ (.head _) ρ _ () (Le.refl ρ) ?_ trivial)
    rw [← q2]; exact fin k.toNat
  · refine ki_setBack oa q1 (by omega) (by omega) (Z _ (.head _) ρ _ () (Le.refl ρ) ?_ trivial)
    rw [hz, q3]; exact fin _
theorem put_stored : ∀ {es : List (Str × AV)} {kvs : List (Str × Value)} {x : Str} {v : AV} {u : Value}, All2 (fun p q => p.1 = q.1 ∧ VR ι ρ p.2 q.2) es kvs → (kvs.map (·.1)).Nodup → VR ι ρ v u →
    All2 (fun p q => p.1 = q.1 ∧ VR ι ρ p.2 q.2) (put es x v) (stored kvs x u)
  | [], [], x, v, u, _, _, hv => by simp [put, stored, All2, hv]
  | p :: r, q :: m, x, v, u, h, hn, hv => by
    obtain ⟨⟨h1, h2⟩, h3⟩ := h
    obtain ⟨n1, n2⟩ := List.nodup_cons.mp hn
    unfold put
    split
    · rename_i hs
      have hs := seq_true hs
      have hq : q.1 = x := h1 ▸ hs
      have e : stored (q :: m) x u = (q.1, u) :: m := by
        unfold stored
        rw [if_pos (by simp [hq])]
        rw [List.map_cons, if_pos hq, map_store_of_not_mem m x u (by rw [← hq]; exact n1)]
      rw [e]
      exact ⟨⟨h1, hv⟩, h3⟩
    · rename_i hs
      have hs := seq_false hs
      have hq : ¬ q.1 = x := fun e => hs (h1.trans e)
      have e : stored (q :: m) x u = q :: stored m x u := by
        unfold stored
        simp only [List.any_cons, hq, decide_false, Bool.false_or, List.map_cons, if_false]
        split <;> simp
      rw [e]
      exact ⟨⟨h1, h2⟩, put_stored h3 n2 hv⟩
  | [], _ :: _, _, _, _, h, _, _ => h.elim
  | _ :: _, [], _, _, _, h, _, _ => h.elim
theorem setDict_sp (R : SR prog w ι h₀ os₀ ρ σ s) {j : Nat} {k : Str} {es : List (Str × AV)} {v : AV} {x y u : Value} (hx : sget σ j = some (.dic es)) (ho : VR ι ρ (.ow j) x) (hi : VR ι ρ (.ss k) y) (hv : VR ι ρ v u) (hz : es.length ≤ 1000) :
    Sp prog w ι h₀ os₀ A (setItem x y u) (fun _ (_ : Unit) (_ : Unit) => True) (okk () (sset σ j (.dic (put es k v)))) ρ s := by
  obtain ⟨t, rfl⟩ := hi
  obtain ⟨l, ea, rfl, kvs, hd, ra⟩ := R.ref hx ho
  have hn : (kvs.map (·.1)).Nodup := by obtain ⟨_, _, _, _, _, _, _, _, q⟩ := hd; exact q
  have hl := ra.len
  exact fun Q E Z => wpAny_setItem_pairs (k := k) (key_is k t) hd (fun h' hd' hs' => Z _ (.head _) ρ _ () (Le.refl ρ) (R.upd hx ea (sb hs') ⟨_, hd', put_stored ra hn hv⟩) trivial) (by rw [sizeLine_eq]; omega)
theorem setItem_sp (R : SR prog w ι h₀ os₀ ρ σ s) {o i v : AV} {x y u : Value} (ho : VR ι ρ o x) (hi : VR ι ρ i y) (hv : VR ι ρ v u) :
    Sp prog w ι h₀ os₀ A (setItem x y u) (fun _ (_ : Unit) (_ : Unit) => True) (setItemA o i v σ) ρ s := by
  unfold setItemA
  split
  · split
    · rename_i xs hx
      split
      · rename_i hk; exact setList_sp R hx ho hi hv hk
      · exact Sp.no
    · exact Sp.no
  · split
    · rename_i es hx
      split
      · rename_i hz; exact setDict_sp R hx ho hi hv (Nat.le_of_ble_eq_true hz)
      · exact Sp.no
    · exact Sp.no
  · exact Sp.no
end
end Mine
end
noncomputable section
open PySem PySem.W PyProof.Rows PySem.Calls Builtin
set_option maxRecDepth 10000
namespace Mine
section
variable {prog : Program} {w : World} {ι : Nat → Int} {h₀ : Heap} {os₀ : OsState} {T : Tab} {K : Frag} {I : IH} {c : Cx} {σ : St} {ρ : List Addr} {s : Shared} {env : Env} {A : Around}
theorem assign_sub_sp (H : Snd prog w ι h₀ os₀ I) (C : CE ρ c env A) (R : SR prog w ι h₀ os₀ ρ σ s) {v : AV} {u : Value} (o i : Expr) (p : Pos) (hr : VR ι ρ v u) :
    Sp prog w ι h₀ os₀ A (assign (.Subscript o i p) env u) (fun _ (_ : Unit) (_ : Unit) => True) (obind (I.ev c o σ) fun ov σ => obind (I.ev c i σ) fun iv σ => setItemA ov iv v σ) ρ s := by
  show Sp prog w ι h₀ os₀ A (holding [u] (eval o env) >>= fun ov => holding [u, ov] (eval i env) >>= fun iv => standAt p >>= fun _ => holding [u, ov, iv] (setItem ov iv u) >>= fun _ => release (match i with | .Slice _ _ none _ => [iv, u, ov] | _ => [u, ov, iv]) []) _ _ _ _
  refine Sp.bind (Sp.hold (H.ev C R)) fun ov σ' _ ρ' s' y L R' hy => ?_
  refine Sp.bind (Sp.hold (H.ev (C.le L) R')) fun iv σ'' _ ρ'' s'' z L' R'' hz => Sp.stand ?_
  refine Sp.turn (Sp.hold (setItem_sp R'' (hy.le ι L') hz (hr.le ι (L.trans L')))) fun a σ3 _ ρ3 s3 _ L3 R3 _ => ?_
  exact fun Q E Z => wpAny_release (Z _ (.head _) ρ3 s3 () (Le.refl _) R3 trivial)
end
end Mine
end
noncomputable section
open PySem PySem.W PyProof.Rows PySem.Calls Builtin
set_option maxRecDepth 10000
namespace Mine
section
variable {prog : Program} {w : World} {ι : Nat → Int} {h₀ : Heap} {os₀ : OsState} {T : Tab} {K : Frag} {I : IH} {c : Cx} {σ : St} {ρ : List Addr} {s : Shared} {env : Env} {A : Around}
theorem swap_none {v : Expr} (h : isComp v = false) (t : Option Expr) (n : Nat) : swapsWith v t n env = pure false := by
  unfold swapsWith
  cases v <;> first | rfl | cases h
noncomputable def isSeqT : Expr → Bool
  | .Tuple .. => true
  | .List .. => true
  | _ => false
theorem swapped_none {t v : Expr} (h : isSeqT t = false) : swappedStores [t] v env = pure none := by
  unfold swappedStores
  cases t <;> first | rfl | cases h
theorem each_one {t : Expr} (h : star t = false) : (assignEach [t] env).map (·.2) = [assign t env] := by
  cases t <;> first | rfl | cases h
theorem assign1_sp (H : Snd prog w ι h₀ os₀ I) (C : CE ρ c env A) (R : SR prog w ι h₀ os₀ ρ σ s) {t v : Expr} {p : Pos} {g : AV → St → List (Out Unit)} (hc : isComp v = false) (hs : star t = false)
    (ht : isSeqT t = false)
    (hg : ∀ {σ : St} {ρ : List Addr} {s : Shared} {x : AV} {u : Value}, CE ρ c env A → SR prog w ι h₀ os₀ ρ σ s → VR ι ρ x u → Sp prog w ι h₀ os₀ A (assign t env u) (fun _ (_ : Unit) (_ : Unit) => True) (g x σ) ρ s) :
    Sp prog w ι h₀ os₀ A (exec (.Assign [t] v p) env) (FR ι) (obind (I.ev c v σ) fun x σ => obind (g x σ) fun _ σ => okk .nx σ) ρ s := by
  intro Q E Z
  refine wpAny_Assign_stores ?_ (by show swapsWith v (some t) p.line env = _; exact swap_none hc _ _) (swapped_none ht)
  refine (H.ev C R).seqQ Z fun x σ' _ ρ' s' u L R' hx Z' => ?_
  rw [each_one hs]
  show wpAny (model prog w) A (assign t env u) _ _ _
  exact (hg (C.le L) R' hx).seqQ Z' fun a σ'' _ ρ'' s'' _ L' R'' _ Z'' => Z'' _ (.head _) ρ'' s'' _ (Le.refl _) R'' rfl
end
end Mine
end
noncomputable section
open PySem PySem.W PyProof.Rows PySem.Calls Builtin
set_option maxRecDepth 10000
namespace Mine
section
variable {prog : Program} {w : World} {ι : Nat → Int} {h₀ : Heap} {os₀ : OsState} {T : Tab} {K : Frag} {I : IH} {c : Cx} {σ : St} {ρ : List Addr} {s : Shared} {env : Env} {A : Around}
theorem stored_nd {k : Str} {v : Value} : ∀ {l : List (Str × Value)}, (l.map (·.1)).Nodup → ((stored l k v).map (·.1)).Nodup := by
  intro l h
  unfold stored
  split
  · have : (l.map fun kv => if kv.1 = k then (kv.1, v) else kv).map (·.1) = l.map (·.1) := by
      rw [List.map_map]
      refine List.map_congr_left fun x _ => ?_
      simp only [Function.comp]
      split <;> rfl
    rw [this]; exact h
  · rename_i hn
    rw [List.map_append, List.nodup_append]
    refine ⟨h, by simp, fun a ha b hb => ?_⟩
    obtain ⟨x, hx, rfl⟩ := List.mem_map.mp ha
    simp only [List.map_cons, List.map_nil, List.mem_singleton] at hb
    subst hb
    intro e
    exact hn (List.any_eq_true.mpr ⟨x, hx, by simp [e]⟩)
noncomputable def RD (prog : Program) (w : World) (ι : Nat → Int) (es₀ : List (Str × AV)) (ρ : List Addr) (es : List (Str × AV)) (vs : List (Value × Value)) : Prop :=
  ∀ acc : List (Str × Value), All2 (fun p q => p.1 = q.1 ∧ VR ι ρ p.2 q.2) es₀ acc → (acc.map (·.1)).Nodup → ∃ kvs, Carries (strKind prog w) vs kvs ∧ All2 (fun p q => p.1 = q.1 ∧ VR ι ρ p.2 q.2) es (merged acc kvs)
theorem dict_sp (H : Snd prog w ι h₀ os₀ I) (pos : Pos) : ∀ (ks : List (Option Expr)) (vs : List Expr) (es : List (Str × AV)) {σ : St} {ρ : List Addr} {s : Shared}, CE ρ c env A → SR prog w ι h₀ os₀ ρ σ s →
    Sp prog w ι h₀ os₀ A (evalPairs (pairTrees ks vs env pos)) (RD prog w ι es) (dictA (I.ev c) ks vs es σ) ρ s
  | [], [], es, σ, ρ, s, C, R => fun Q E Z => pairTrees_nil_walk (Z _ (.head _) ρ s _ (Le.refl ρ) R fun acc h1 h2 => ⟨[], trivial, h1⟩)
  | [], _ :: _, es, σ, ρ, s, C, R => by unfold dictA; exact Sp.no
  | none :: _, _, es, σ, ρ, s, C, R => by unfold dictA; exact Sp.no
  | some _ :: _, [], es, σ, ρ, s, C, R => by unfold dictA; exact Sp.no
  | some k :: ks, v :: vs, es, σ, ρ, s, C, R => by
    intro Q E Z
    unfold dictA at Z
    refine pairTrees_cons_walk ((H.ev C R).seqQ Z fun kv σ' _ ρ' s' x L R' hk Z' => ?_)
    refine (H.ev (C.le L) R').seqQ Z' fun vv σ'' _ ρ'' s'' y L' R'' hv Z'' => ?_
    cases kv with
    | ss x =>
      obtain ⟨t, rfl⟩ := hk
      refine dict_sp H pos ks vs (put es x vv) (C.le (L.trans L')) R'' _ _ fun o ho => ?_
      have := Z'' o ho
      cases o with
      | ok fs σ3 =>
        intro ρ3 s3 r L3 R3 hr
        refine this ρ3 s3 _ L3 R3 fun acc h1 h2 => ?_
        obtain ⟨kvs, g1, g2⟩ := hr (stored acc x y) (put_stored h1 h2 (hv.le ι L3)) (stored_nd h2)
        exact ⟨(x, y) :: kvs, ⟨key_is x t, rfl, g1⟩, g2⟩
      | ex k σ3 => exact this
      | no => exact this
    | _ => exact (Z'' .no (.head _)).elim
theorem Dict_sp (H : Snd prog w ι h₀ os₀ I) (C : CE ρ c env A) (R : SR prog w ι h₀ os₀ ρ σ s) (ks : List (Option Expr)) (vs : List Expr) (p : Pos) : Sp prog w ι h₀ os₀ A (eval (.Dict ks vs p) env) (VR ι) (evE T I c (.Dict ks vs p) σ) ρ s := by
  have new : SR prog w ι h₀ os₀ (ρ ++ [s.heap.objs.size]) (spush σ (.dic [])) { s with heap := s.heap.push { cls := .type "dict", data := .dict #[] } } :=
    R.new1 (t := s.toks) (fun b o e => Heap.get?_push_of_some _ e) (Heap.get?_none_of_le (Nat.le_refl _)) ⟨[], Heap.DictOf.new _, trivial⟩
  have main : (hz : (Nat.ble ks.length 15 && (ks.all (·.isSome) && Nat.beq ks.length vs.length)) = true) → (ks ≠ []) → Sp prog w ι h₀ os₀ A (eval (.Dict ks vs p) env) (VR ι) (obind (dictA (I.ev c) ks vs [] (spush σ (.dic []))) fun es σ' => (match sget σ' σ.n with
        | some (.dic []) => okk (.ow σ.n) (sset σ' σ.n (.dic es))
        | _ => noo)) ρ s := by
    intro hz hn Q E Z
    simp only [Bool.and_eq_true] at hz
    refine wpAny_Dict_walk (knd := strKind prog w) hz.2.1 (Nat.eq_of_beq_eq_true hz.2.2) hn (Nat.le_of_ble_eq_true hz.1) ?_
    refine (dict_sp H p ks vs [] (C.le ⟨_, rfl⟩) new).seqQ (fun o ho => (Z o ho).le ⟨_, rfl⟩) fun es σ' _ ρ' s' x L R' hr Z' => ?_
    split at Z'
    · rename_i hs
      obtain ⟨kvs, g1, g2⟩ := hr [] trivial .nil
      have ea : ρ'[σ.n]? = some s.heap.objs.size := L.get (at_n R _)
      obtain ⟨a, ea', kv0, hd, ra⟩ := R'.obj _ _ hs
      rw [ea] at ea'; cases ea'
      have : kv0 = [] := List.length_eq_zero_iff.mp ra.len.symm
      subst this
      refine ⟨kvs, g1, hd, fun h' hd' hs' => Z' _ (.head _) ρ' _ _ (Le.refl _) (R'.upd hs ea (sb hs') ⟨_, hd', g2⟩) ⟨_, ea, rfl⟩⟩
    · exact (Z' .no (.head _)).elim
  have alt : (ks ≠ [] ∨ vs ≠ []) → evE T I c (.Dict ks vs p) σ = (match Nat.ble ks.length 15 && (ks.all (·.isSome) && Nat.beq ks.length vs.length) with
      | true => obind (dictA (I.ev c) ks vs [] (spush σ (.dic []))) fun es σ' => (match sget σ' σ.n with
        | some (.dic []) => okk (.ow σ.n) (sset σ' σ.n (.dic es))
        | _ => noo)
      | false => noo) := fun h => by
    cases ks with
    | nil => cases vs with
      | nil => rcases h with h | h <;> exact (h rfl).elim
      | cons => rfl
    | cons => rfl
  cases ks with
  | nil =>
    cases vs with
    | nil => exact fun Q E Z => wpAny_Dict_empty (Z _ (.head _) (ρ ++ [s.heap.objs.size]) _ _ ⟨_, rfl⟩ new ⟨_, at_n R _, rfl⟩)
    | cons v vs => rw [alt (.inr (by simp))]; exact Sp.no
  | cons k ks =>
    rw [alt (.inl (by simp))]
    split
    · rename_i hz; exact main hz (by simp)
    · exact Sp.no
end
end Mine
end
noncomputable section
open PySem PySem.W PyProof.Rows PySem.Calls Builtin Builtin.ObjectAttr
set_option maxRecDepth 100000
namespace Mine
structure AttX (K : Frag) (C : Addr) (n : Str) : Prop where
  ga : findIn K (.ref C) "__getattribute__" = some (some (.builtin "BaseException.__getattribute__"))
  hook : findIn K (.ref C) "__getattr__" = some none
  sa : findIn K (.ref C) "__setattr__" = some (some (.builtin "object.__setattr__"))
  no : findIn K (.ref C) n = some none
  base : mroIn K C (.type "BaseException") = some true
  obj : mroIn K C (.type "object") = some true
  cls : ∃ cd, clsIn K C = some cd ∧ cd.hasDict = true ∧ ∀ self : Value, refuseLoop self "__setattr__" cd.mro = pure ()
theorem slot_bga : Slot "BaseException" "__getattribute__" "BaseException.__getattribute__" :=
  .of (owner := "BaseException") (n := "__getattribute__") (by rw [typeLookup_type, builtinLookup_eq_fast]; kernel_rfl) (by decide +kernel) (by decide +kernel) (by decide +kernel)
    (by first | exact .inl (by decide +kernel) | exact .inr (by decide +kernel)) (by rw [isSubtype_type]; kernel_rfl)
theorem bga_ne : (Value.builtin "BaseException.__getattribute__" == Value.builtin "object.__getattribute__") = false := by decide +kernel
section
variable {prog : Program} {w : World} {A : Around} {E : Value → Shared → Prop} {s : Shared} {K : Frag} {x C : Addr} {ox : Obj} {od : Option Obj} {name : Str} {expr : Bool} {v : Value}
theorem getX {Q : Value → Shared → Prop} (X : K.In s.heap) (I : InstAt s.heap x ox C od) (F : AttX K C name) (hf : findObj K C od name = some (.value v)) (hh : handedIn v = true) (h : Q v { s with toks := s.toks + 1 }) :
    wpAny (model prog w) A (getAttr (.ref x) name expr) Q E s := by
  refine wpAny_bind (wpAny_mkText (wpAny_holding (wpAny_bind (I.type _ _ _ _ (fun _ _ e => e) (wpAny_bind (looks_findIn X F.ga _ _ _ _ (fun _ _ e => e) ?_))))))
  dsimp only
  rw [bga_ne, Bool.and_false, if_neg (by decide)]
  refine wpAny_bind ((looks_hook (mc := .ref C) X (r := none) F.hook) _ _ _ _ (fun _ _ e => e) (wpAny_bind (wpAny_attempt (wpAny_holding ?_))))
  unfold callGetattribute
  rw [show (expr && onTheHeap (Value.builtin "BaseException.__getattribute__")) = false from Bool.and_false _, if_neg (by decide)]
  unfold boundAndCalled
  rw [slot_bga.bind]
  refine wpAny_bind (wpAny_pure ?_)
  show wpAny _ _ (call (.builtin "BaseException.__getattribute__") [.ref x, .str name s.toks]) _ _ _
  refine wpAny_call (codeAny_call_builtin slot_bga.plain PySem.F.entry_bexc_ga ?_)
  have sub : Looks (model prog w) s.heap (isInstance (.ref x) (.type "BaseException")) true := I.type.andThen (looks_mroIn X F.base)
  refine @check_slot (model prog w) _ _ { s with toks := s.toks + 1 } "BaseException.__getattribute__" "BaseException" "__getattribute__" (.ref x) [.str name s.toks] [] _ (by decide +kernel) (by decide +kernel) sub (PySem.F.args_bexc_ga (.ref x) (.str name s.toks)) ?_
  have L0 := I.type (M := model prog w)
  have L1 := looks_find (M := model prog w) X I hf
  refine wpAny_bind (wpAny_pure (wpAny_bind (wpAny_pure (wpAny_bind (L0.here (s := { s with toks := s.toks + 1 }) (wpAny_bind (L1.here (s := { s with toks := s.toks + 1 }) ?_)))))))
  refine wpAny_pure ?_
  show wpAny _ _ (handedOut v) _ _ _
  rw [handedOut_of hh]; exact wpAny_pure h
theorem osaX {R : Result → Shared → Prop} {tk : Tok} (X : K.In s.heap) (I : InstAt s.heap x ox C od) (F : AttX K C name)
    (h : ∀ b, wpAny (model prog w) A.in1 (storeInOwnDict (.ref x) (.ref C) (.str name tk) name v b)
      (fun fin s' => match fin with | .done f => R (.ok f) s' | .again c' => c'.quiet = true ∧ codeAny (model prog w) A c' R s') (fun e s' => R (.error e) s') s) :
    codeAny (model prog w) A (.call (.builtin "object.__setattr__") ⟨[.ref x, .str name tk, v], []⟩) R s := by
  have SF := PySem.F.store_object
  obtain ⟨cd, hc, hd, hr⟩ := F.cls
  have sub : Looks (model prog w) s.heap (isInstance (.ref x) (.type "object")) true := I.type.andThen (looks_mroIn X F.obj)
  refine codeAny_call_builtin SF.slot.plain SF.entry (@check_slot (model prog w) _ _ s "object.__setattr__" "object" "__setattr__" (.ref x) [.str name tk, v] [] _ SF.kind SF.split sub (SF.args (.ref x) (.str name tk) v) ?_)
  have hm : Looks (model prog w) s.heap (mroOf (.ref C)) cd.mro := (looks_clsIn X hc).andThen .now
  rw [osa_eq, refuse_eq]
  refine wpAny_bind (wpAny_bind (I.type.here (wpAny_bind (hm.here ?_))))
  rw [hr]
  refine wpAny_pure (wpAny_bind (I.type.here (wpAny_bind ((looks_findIn X F.no).here (wpAny_bind ((Looks.now (M := model prog w) (h := s.heap) (a := (none : Option Value))).here ?_))))))
  exact h _
end
end Mine
end
noncomputable section
open PySem PySem.W PyProof.Rows PySem.Calls Builtin Builtin.ObjectAttr
set_option maxRecDepth 100000
namespace Mine
structure XF (K : Frag) (h₀ : Heap) (C fI : Addr) : Prop where
  obj : ∃ nm q N bs bm hdct sn sub ab col dd k0 k1 k2 k3 k5, h₀.get? C = some (excClassObj nm q C N bs bm hdct sn sub ab col dd k0 k1 k2 k3 k5 "Exception.__new__") ∧
    bm.contains (.type "Exception") = true ∧ bm.contains (.type "AttributeError") = false ∧ bm.contains (.type "NameError") = false ∧ bm.contains (.type "BaseException") = true
  init : findIn K (.ref C) "__init__" = some (some (.ref fI))
  ty : typeIn K (.ref fI) = some (.type "function")
  reads : readsIn K C (.type "type") = true
  own : findCls K (.ref C) (.type "type") "__init__" = some (.val (.ref fI))
  ga : specialIn K (.ref C) "__getattribute__" = some (some (.builtin "type.__getattribute__"))
structure GE (K : Frag) (h₀ : Heap) (T : Tab) : Prop where
  attX : ∀ C n, isX T C n = true → AttX K C n
  mki : ∀ C fI, T.cl C = some ⟨some fI, false⟩ → makesIn K C = true ∧ findIn K (.ref C) "__init__" = some (some (.ref fI)) ∧ typeIn K (.ref fI) = some (.type "function")
  xf : ∀ C fI, T.cl C = some ⟨some fI, true⟩ → XF K h₀ C fI
  em : ∀ C fI, T.cl C = some ⟨some fI, true⟩ → (if (subIn K (.ref C) (.type "BaseException") == some true) = true then kitCls K (.ref C) (.ref C) else none) = some true
  ei : findCls K (.type "Exception") (.type "type") "__init__" = some (.val (.builtin "Exception.__init__"))
section
variable {prog : Program} {w : World} {ι : Nat → Int} {h₀ : Heap} {os₀ : OsState} {T : Tab} {K : Frag} {I : IH} {c : Cx} {σ : St} {ρ : List Addr} {s : Shared} {env : Env} {A : Around}
theorem exc_at {C : Addr} {a da : Addr} {vs : Array Value} {h : Heap} {m : Str → Option Value} (hx : h.get? a = some ⟨.ref C, some da, .fields vs, #[]⟩) (hn : h.Ns da m) :
    ∃ od es ep, h.get? da = some od ∧ od.data = .dict es ep ∧ (∀ x, nsFind es x = m x) ∧ InstAt h a ⟨.ref C, some da, .fields vs, #[]⟩ C (some od) := by
  obtain ⟨od, es, ep, h1, h2, h3, h4⟩ := hn
  exact ⟨od, es, ep, h1, h2, h4, ⟨hx, rfl, rfl, h1⟩⟩
theorem find_ownX {C : Addr} {n : Str} {od : Obj} {u : Value} (F : AttX K C n) (h : lookIn n od = some (some u)) : findObj K C (some od) n = some (.value u) := by
  unfold findObj
  obtain ⟨cd, hc, hh, _⟩ := F.cls
  rw [hc, F.no]
  simp only [Option.bind_some, PySem.W.ownOf, hh, if_true, h]
theorem getX_sp (G : GF prog w ι h₀ T K) (GE' : GE K h₀ T) (R : SR prog w ι h₀ os₀ ρ σ s) {u : Value} (n : Str) (C d j : Nat) (f : Bool) (hi : isX T C n = true) (hj : sget σ j = some (.exc C (some d) f)) (ho : VR ι ρ (.ow j) u) :
    Sp prog w ι h₀ os₀ A (getAttr u n true) (VR ι) (getD σ d n) ρ s := by
  unfold getD
  split
  · rename_i es hes
    split
    · rename_i v hv
      split
      · rename_i hp
        obtain ⟨a, ea, rfl, od, vs, hx, ⟨da, eda, rfl⟩, hz⟩ := R.ref hj ho
        obtain ⟨m, hn, hm, _⟩ := idc_of R hes eda
        obtain ⟨od, es', ep, g1, g2, g3, I⟩ := exc_at hx hn.ns
        have F := GE'.attX C n hi
        obtain ⟨v', hv', hr⟩ := hm n v hv
        exact fun Q E Z => getX (G.kin.keeps R.keep) I F (find_ownX F (lookIn_of g2 ((g3 n).trans hv'))) (plain_handed hp hr) (Z _ (.head _) ρ _ _ (Le.refl ρ) (R.toks _) hr)
      · exact Sp.no
    · exact Sp.no
  · exact Sp.no
theorem setX_sp (G : GF prog w ι h₀ T K) (GE' : GE K h₀ T) (R : SR prog w ι h₀ os₀ ρ σ s) {v : AV} {u x : Value} (n : Str) (C j : Nat) (dd : Option Nat) (f : Bool) (hi : isX T C n = true) (hj : sget σ j = some (.exc C dd f)) (ho : VR ι ρ (.ow j) u) (hv : VR ι ρ v x) :
    Sp prog w ι h₀ os₀ A (setAttr u n x) (fun _ (_ : Unit) (_ : Unit) => True) (match dd with | some d => setD σ d n v | none => newD σ j C f n v) ρ s := by
  have F := GE'.attX C n hi
  have X := G.kin.keeps R.keep
  obtain ⟨cd, hc, hh, hr⟩ := F.cls
  obtain ⟨a, ea, rfl, od, vs, hx, hd, hz⟩ := R.ref hj ho
  cases dd with
  | some d =>
    show Sp _ _ _ _ _ _ _ _ (setD σ d n v) ρ s
    obtain ⟨da, eda, rfl⟩ := hd
    unfold setD
    split
    · rename_i es hes
      split
      · rename_i hz
        have hz := Nat.le_of_ble_eq_true hz
        obtain ⟨m, hn, hm, hno⟩ := idc_of R hes eda
        obtain ⟨od, es', ep, g1, g2, g3, I⟩ := exc_at hx hn.ns
        intro Q E Z
        refine set_plain X I F.sa ?_
        refine osaX (s := { s with toks := s.toks + 1 }) X I F fun b => ?_
        refine wpAny_bind (wpAny_pure (wpAny_bind (wpAny_bind (wpAny_loadPart hx (wpAny_bind ((looks_clsIn (M := model prog w) X hc).here (s := { s with toks := s.toks + 1 }) ?_))))))
        rw [hh]
        refine wpAny_pure (a := some da) ?_
        exact store_idc (β := Unit) (R.toks (s.toks + 1)) hes eda hz hv fun s' R' => Z _ (.head _) ρ s' () (Le.refl ρ) R' trivial
      · exact Sp.no
    · exact Sp.no
  | none =>
    show Sp _ _ _ _ _ _ _ _ (newD σ j C f n v) ρ s
    cases hd
    intro Q E Z
    have I : InstAt s.heap a ⟨.ref C, none, .fields vs, #[]⟩ C none := ⟨hx, rfl, rfl, trivial⟩
    refine set_plain X I F.sa ?_
    refine osaX (s := { s with toks := s.toks + 1 }) X I F fun b => ?_
    refine wpAny_bind (wpAny_pure (wpAny_bind (wpAny_bind (wpAny_loadPart hx (wpAny_bind ((looks_clsIn (M := model prog w) X hc).here (s := { s with toks := s.toks + 1 }) ?_))))))
    rw [hh]
    have hg : (⟨.ref C, none, .fields vs, #[]⟩ : Obj).isFreed = false := rfl
    unfold newD at Z
    split at Z
    · rename_i C' hj'
      split at Z
      · rename_i hs
        have R1 : SR prog w ι h₀ os₀ (ρ ++ [s.heap.objs.size]) (spush σ (.idc [])) { s with heap := s.heap.push emptyDict, toks := s.toks + 1 } :=
          R.new1 (t := s.toks + 1) (fun b o e => Heap.get?_push_of_some _ e) (Heap.get?_none_of_le (Nat.le_refl _)) ⟨fun _ => none, Heap.Ns1.of_empty (Heap.Ns.new s.heap _), fun x v e => by (cases e), fun x e => rfl⟩
        have ea1 : (ρ ++ [s.heap.objs.size])[j]? = some a := Le.get ⟨_, rfl⟩ ea
        have ed1 : (ρ ++ [s.heap.objs.size])[σ.n]? = some s.heap.objs.size := at_n R _
        have hx1 : (s.heap.push emptyDict).get? a = some ⟨.ref C, none, .fields vs, #[]⟩ := Heap.get?_push_of_some _ hx
        have R2 := R1.upd (h' := (s.heap.push emptyDict).update a fun o => { o with dict := some s.heap.objs.size }) (t := s.toks + 1) (o' := .exc C (some σ.n) f) hj' ea1 (sb (Heap.SameBut.update ..))
          ⟨some s.heap.objs.size, vs, Heap.get?_update_self _ hx1 rfl, ⟨_, ed1, rfl⟩, hz⟩
        refine wpAny_bind (wpAny_alloc ?_)
        refine wpAny_bind (wpAny_update hx1 ?_)
        refine wpAny_pure ?_
        exact store_idc (β := Unit) R2 hs ed1 (by simp) (hv.le ι ⟨_, rfl⟩) fun s' R' => Z _ (.head _) _ s' () ⟨_, rfl⟩ R' trivial
      · exact (Z .no (.head _)).elim
    · exact (Z .no (.head _)).elim
end
end Mine
end
noncomputable section
open PySem PySem.W
set_option maxRecDepth 100000
namespace Mine
section
variable {prog : Program} {w : World} {ι : Nat → Int} {h₀ : Heap} {os₀ : OsState} {T : Tab} {K : Frag} {I : IH} {c : Cx} {σ : St} {ρ : List Addr} {s : Shared} {env : Env} {A : Around}
section
variable {nm q : Str} {C N : Addr} {bs bm : List Value} {hdct : Bool} {sn : List Str} {sub : List Value} {ab : Bool} {col : Option Bool} {dd : Option Addr} {k0 k1 k2 k3 k5 : Option Value} {h : Heap} {g : Array GenState} {d : Drawn} {t : Nat} {os : OsState}
theorem newE_check {M : Model} {E : Value → Shared → Prop} {rest : List Value} {Q : Unit → Shared → Prop} (hE : bm.contains (.type "Exception") = true) (hC : h.get? C = some (excClassObj nm q C N bs bm hdct sn sub ab col dd k0 k1 k2 k3 k5 "Exception.__new__"))
    (hq : Q () ⟨h, g, d, t, os⟩) : wpAny M A (checkBuiltinCall "Exception.__new__" ⟨.ref C :: rest, []⟩) Q E ⟨h, g, d, t, os⟩ := by
  have Fn := PySem.F.excBase_Exception
  have hcont : (Value.ref C :: bm).contains (.type "Exception") = true := by rw [List.contains_cons, hE, Bool.or_true]
  have hstar := Fn.noStar
  simp only [checkBuiltinCall, Fn.newKind, Fn.newSplit, Fn.newRow]
  repeat (first | refine wpAny_loadPart_at hC ?_ | (refine wpAny_isSubtype_exc hC ?_; rw [hcont]) | refine wpAny_staticBase_exc hC ?_ | refine wpAny_madeBy_exc hC ?_ | simp only [bne_self_eq_false, Bool.false_eq_true, if_false] | wp_step)
  exact hq
theorem newE_code {R : Result → Shared → Prop} {rest : List Value} (hE : bm.contains (.type "Exception") = true) (hA : bm.contains (.type "AttributeError") = false) (hN : bm.contains (.type "NameError") = false)
    (hC : h.get? C = some (excClassObj nm q C N bs bm hdct sn sub ab col dd k0 k1 k2 k3 k5 "Exception.__new__"))
    (hq : R (.ok (.ret (.ref (h.objs.size + 1)))) ⟨(h.push { cls := .type "tuple", data := .seq rest.toArray }).push
      { cls := .ref C, data := .fields #[.ref h.objs.size, .none, .none, .none, .bool false, .none] }, g, d, t, os⟩) (hrest : rest.length ≤ sizeLine) :
    codeAny (model prog w) A (.builtin "Exception.__new__" ⟨.ref C :: rest, []⟩) R ⟨h, g, d, t, os⟩ := by
  have Fn := PySem.F.excBase_Exception
  have hends := Fn.ends
  have hcB : (Value.ref C :: bm).contains (.type "Exception") = true := by rw [List.contains_cons, hE, Bool.or_true]
  have hcA : (Value.ref C :: bm).contains (.type "AttributeError") = false := by rw [List.contains_cons, hA]; rfl
  have hcN : (Value.ref C :: bm).contains (.type "NameError") = false := by rw [List.contains_cons, hN]; rfl
  refine codeAny_builtinAt Fn.entry ?_
  unfold Builtin.«BaseException.__new__»
  refine wpAt_bind ?_
  show wpAt _ _ _ (stack >>= _) _ _ _
  refine wpAt_bind (wpAt_stack fun p below => wpAt_of_wpAny ?_)
  wp_walk
  refine wpAt_of_wpAny ?_
  rw [Fn.owner]
  repeat (first | with_reducible refine wpAny_madeHere_exc Fn.canon hC ?_ | with_reducible refine wpAny_loadPart_at hC ?_ | (with_reducible refine wpAny_isSubtype_exc hC ?_; first | rw [hcB] | rw [hcA] | rw [hcN]) | wp_step)
  show R _ _
  rw [Heap.size_push]
  exact hq
theorem mkE_core {R : Result → Shared → Prop} {rest : List Value} {fI : Addr} (hE : bm.contains (.type "Exception") = true) (hA : bm.contains (.type "AttributeError") = false) (hN : bm.contains (.type "NameError") = false)
    (hC : h.get? C = some (excClassObj nm q C N bs bm hdct sn sub ab col dd k0 k1 k2 k3 k5 "Exception.__new__"))
    (hi : Looks (model prog w) h (typeLookup (.ref C) "__init__") (some (.ref fI))) (hb : ∀ self, Looks (model prog w) h (bindSpecial (.ref fI) self) (.ref fI, [self]))
    (hq : codeAny (model prog w) (A.under (.builtin "type.__call__" ⟨.ref C :: rest, []⟩)) (.call (.ref fI) ⟨.ref (h.objs.size + 1) :: rest, []⟩) (InitBack (h.objs.size + 1) R)
      ⟨(h.push { cls := .type "tuple", data := .seq rest.toArray }).push { cls := .ref C, data := .fields #[.ref h.objs.size, .none, .none, .none, .bool false, .none] }, g, d, t, os⟩) (hrest : rest.length ≤ sizeLine) :
    codeAny (model prog w) A (.call (.ref C) ⟨rest, []⟩) R ⟨h, g, d, t, os⟩ := by
  have F := PySem.F.excBase_Exception
  have f1 := tc_lookup
  have f2 := tc_bind (.ref C)
  refine codeAny_of_tree ?_
  show wpAny _ _ (callAny (.ref C) _) _ _ _
  repeat (any_goals (first | assumption | with_reducible refine wpAny_loadPart_at hC ?_ | wp_step))
  refine ⟨rfl, ?_⟩
  refine codeAny_call_builtin_at (Code.quiet_builtin _ (by decide +kernel)) entry_typeCall (wpAny_check_type_call_sub hC ?_)
  repeat (first | with_reducible refine wpAny_loadPart_at hC ?_ | with_reducible refine wpAny_madeBy_exc hC ?_ | wp_step)
  refine codeAny_call_builtin_code (Code.quiet_builtin _ F.quiet) (newE_check hE hC ?_)
  refine newE_code hE hA hN hC ?_ hrest
  show wpAny _ _ _ _ _ ⟨(h.push { cls := .type "tuple", data := .seq rest.toArray }).push { cls := .ref C, data := .fields #[.ref h.objs.size, .none, .none, .none, .bool false, .none] }, g, d, t, os⟩
  have k : ∀ b o, h.get? b = some o → ((h.push { cls := .type "tuple", data := .seq rest.toArray }).push { cls := .ref C, data := .fields #[.ref h.objs.size, .none, .none, .none, .bool false, .none] }).get? b = some o :=
    fun b o e => Heap.get?_push_of_some _ (Heap.get?_push_of_some _ e)
  have hC₁ := k _ _ hC
  have hget : ((h.push { cls := .type "tuple", data := .seq rest.toArray }).push
      { cls := .ref C, data := .fields #[.ref h.objs.size, .none, .none, .none, .bool false, .none] }).get? (h.objs.size + 1) = some
      { cls := .ref C, data := .fields #[.ref h.objs.size, .none, .none, .none, .bool false, .none] } := by heap_get
  have hcC : (Value.ref C :: bm).contains (.ref C) = true := by simp
  have i1 := hi.keeps k
  have b1 := (hb (.ref (h.objs.size + 1))).keeps k
  unfold isInstance
  repeat (first | with_reducible refine wpAny_loadPart_at hget ?_ | (with_reducible refine wpAny_isSubtype_exc hC₁ ?_; rw [hcC]) | wp_step)
  show wpAny _ _ (typeLookup (.ref C) _) _ _ _
  refine i1.at ?_
  refine wpAny_holding (wpAny_bind (b1.at ?_))
  refine wpAny_bind (wpAny_call ?_)
  refine codeAny_mono hq fun r s' z => ?_
  rcases r with e | (v | _ | _ | _) <;> first | exact z | exact z.elim | skip
  obtain ⟨rfl, z⟩ := z
  wp_walk
  exact z
end
end
end Mine
end
noncomputable section
open PySem PySem.W PyProof.Rows PySem.Calls Builtin Builtin.ObjectAttr
set_option maxRecDepth 100000
namespace Mine
section
variable {prog : Program} {w : World} {ι : Nat → Int} {h₀ : Heap} {os₀ : OsState} {T : Tab} {K : Frag} {I : IH} {c : Cx} {σ : St} {ρ : List Addr} {s : Shared} {env : Env} {A : Around}
theorem star_all (pos : Pos) : ∀ {as : List Expr}, noStar as = true → (backTo pos (starEach as env)).all (!·.1) = true
  | [], _ => rfl
  | e :: r, h => by
    unfold noStar at h
    rw [Bool.and_eq_true] at h
    have hs : star e = false := by simpa using h.1
    have h1 : backTo pos (starEach (e :: r) env) = (false, eval e env) :: backTo pos (starEach r env) := by
      cases e <;> first | rfl | cases hs
    rw [h1, List.all_cons, star_all pos h.2]
    rfl
theorem meth_any {o : Expr} {m : Str} {ap ps : Pos} {as : List Expr} {Q : Value → Shared → Prop} {E : Value → Shared → Prop} (hc : (Nat.beq ap.endLine ps.line && (!isBare o && (Nat.blt as.length 20 && noStar as))) = true)
    (h : wpAny (model prog w) A (eval o env) (fun ov s₁ => ∀ pl, wpAny (model prog w) A (getMethod ov m pl) (fun fx s₂ => wpAny (model prog w) A (callWith ps fx.1 fx.2 (backTo ps (starEach as env)) []) Q E s₂) E s₁) E s) :
    wpAny (model prog w) A (eval (.Call (.Attribute o m ap) as [] ps) env) Q E s := by
  simp only [Bool.and_eq_true, Bool.not_eq_true'] at hc
  obtain ⟨h1, h2, h3, h4⟩ := hc
  have hl := Nat.eq_of_beq_eq_true h1
  have hn : as.length < 20 := Nat.le_of_ble_eq_true h3
  rw [arm_eval_Call, base_eq h2]
  refine wpAny_bind (wpAny_mono h (fun ov s₁ h₁ => wpAny_bind (wpAny_standAt ?_)) fun _ _ e => e)
  have hform : methodCallForm (as.length + ([] : List Keyword).length) (backTo ps (starEach as env)) (backToKw ps (keywordEach [] env)) = true := by
    unfold methodCallForm
    rw [star_all ps h4]
    have : (backToKw ps (keywordEach [] env)) = [] := rfl
    rw [this]
    simp
    omega
  have hpos : methodCallPos true o env ap ps = pure ps := by unfold methodCallPos; simp [hl]
  unfold methodCall
  rw [hform]
  refine wpAny_bind (wpAny_holding (wpAny_mono (h₁ _) (fun fx s₂ h₂ => wpAny_bind (wpAny_of_eq hpos ?_)) fun _ _ e => e))
  exact h₂
theorem typeExc (X : K.In s.heap) {Q : Value × List Value → Shared → Prop} {E : Value → Shared → Prop} {pl : Sem Bool} {n : Str} {v : Value} (e : findCls K (.type "Exception") (.type "type") n = some (.val v)) (hh : handedIn v = true)
    (h : Q (v, []) { s with toks := s.toks + 1 }) : wpAny (model prog w) A (getMethod (.type "Exception") n pl) Q E s := by
  have ht : typeOf (.type "Exception") = pure (.type "type") := by kernel_rfl
  have hs : Manifest.isStub "Exception" = false := by kernel_rfl
  have hstub : opaqueClassAbove (.type "Exception") = pure none := by unfold opaqueClassAbove; dsimp only; rw [hs]; rfl
  have L0 : Looks (model prog w) s.heap (typeOf (.type "Exception")) (.type "type") := Looks.of_pure ht
  have hg : findIn K (.type "type") "__getattribute__" = some (some (.builtin "type.__getattribute__")) := type_tga
  unfold getMethod specialOf
  refine wpAny_bind (wpAny_bind (L0.here ((looks_findIn X hg).here ?_)))
  dsimp only
  rw [if_pos canon_tga]
  refine wpAny_bind (wpAny_mono (Q := fun v => Q (v, [])) (E := E) ?_ (fun _ _ z => wpAny_pure z) fun _ _ z => z)
  have LO : Looks (model prog w) s.heap (opaqueClassAbove (.type "Exception")) none := Looks.of_pure hstub
  refine cls_open X LO L0 hg (looks_hook X (r := none) (by rfl)) (by show subIn K _ _ = _; rfl) e
    (wpAny_pure (by show wpAny _ _ (handedOut v) _ _ _; rw [handedOut_of hh]; exact wpAny_pure h))
theorem append_sp (H : Snd prog w ι h₀ os₀ I) (C : CE ρ c env A) (R : SR prog w ι h₀ os₀ ρ σ s) {o e : Expr} {ap ps : Pos} (hc : (Nat.beq ap.endLine ps.line && (!isBare o && (Nat.blt [e].length 20 && noStar [e]))) = true) :
    Sp prog w ι h₀ os₀ A (eval (.Call (.Attribute o "append" ap) [e] [] ps) env) (VR ι) (obind (I.ev c o σ) fun ov σ => (match ov with
      | .ow j => (match sget σ j with
        | some (.lst _) => obind (I.ev c e σ) fun v σ => (match sget σ j with
          | some (.lst xs) => (match Nat.ble xs.length 1000 with | true => okk .nn (sset σ j (.lst (xs ++ [v]))) | false => noo)
          | _ => noo)
        | _ => noo)
      | _ => noo)) ρ s := by
  intro Q E Z
  refine meth_any hc ((H.ev C R).seqQ Z fun ov σ' _ ρ' s' x L R' hx Z' => fun pl => ?_)
  split at Z'
  · rename_i j
    split at Z'
    · rename_i l0 hj
      obtain ⟨a, ea, rfl, vs, n, oa, ra⟩ := R'.ref hj hx
      have hs : star e = false := by
        simp only [Bool.and_eq_true, noStar, Bool.not_eq_true'] at hc
        exact hc.2.2.2.1
      refine getMethod_builtin (T := "list") ⟨_, oa, rfl⟩ F.plainAttrs_list F.slot_list_append F.type_list_append (fun b e => by cases e; exact ⟨_, oa, rfl⟩) ?_
      have h1 : backTo ps (starEach [e] env) = [(false, eval e env)] := by
        cases e <;> first | rfl | cases hs
      rw [h1]
      refine P.append_list ((H.ev (C.le L) R').seqQ Z' fun v σ'' _ ρ'' s'' y L' R'' hy Z'' => ?_)
      split at Z''
      · rename_i xs hxs
        split at Z''
        · rename_i hz
          have hz := Nat.le_of_ble_eq_true hz
          obtain ⟨b, eb, ⟨vs', n', ob, rb⟩⟩ := R''.obj _ _ hxs
          rw [L'.get ea] at eb
          cases eb
          refine ⟨vs', n', by rw [sizeLine_eq, size_of rb]; omega, ob, Z'' _ (.head _) ρ'' _ _ (Le.refl _) (R''.upd (t := s''.toks) hxs (L'.get ea) (sb (Heap.SameBut.update ..)) ?_) rfl⟩
          have q := PySem.IsL.update (show PySem.IsL s''.heap a vs' n' from ob) (fun xs => xs.push y)
          exact ⟨_, _, q, by rw [Array.toList_push]; exact rb.append ⟨hy, trivial⟩⟩
        · exact (Z'' .no (.head _)).elim
      · exact (Z'' .no (.head _)).elim
    · exact (Z' .no (.head _)).elim
  · exact (Z' .no (.head _)).elim
theorem pop_sp (H : Snd prog w ι h₀ os₀ I) (C : CE ρ c env A) (R : SR prog w ι h₀ os₀ ρ σ s) {o : Expr} {ap ps : Pos} (hc : (Nat.beq ap.endLine ps.line && (!isBare o && (Nat.blt ([] : List Expr).length 20 && noStar []))) = true) :
    Sp prog w ι h₀ os₀ A (eval (.Call (.Attribute o "pop" ap) [] [] ps) env) (VR ι) (obind (I.ev c o σ) fun ov σ => (match ov with
        | .ow j => (match sget σ j with
          | some (.lst xs) => (match xs.getLast?, Nat.ble xs.length 1000 with | some v, true => okk v (sset σ j (.lst xs.dropLast)) | _, _ => noo)
          | _ => noo)
        | _ => noo)) ρ s := by
  intro Q E Z
  refine meth_any hc ((H.ev C R).seqQ Z fun ov σ' _ ρ' s' x L R' hx Z' => fun pl => ?_)
  split at Z'
  · rename_i j
    split at Z'
    · rename_i xs hj
      split at Z'
      · rename_i v hv hz
        have hz := Nat.le_of_ble_eq_true hz
        obtain ⟨a, ea, rfl, vs, n, oa, ra⟩ := R'.ref hj hx
        refine getMethod_builtin (T := "list") ⟨_, oa, rfl⟩ F.plainAttrs_list F.slot_list_pop F.type_list_pop (fun b e => by cases e; exact ⟨_, oa, rfl⟩) ?_
        have hlen := size_of ra
        rw [List.getLast?_eq_getElem?] at hv
        obtain ⟨y, hy, ry⟩ := ra.get hv
        have hy' : vs[vs.size - 1]? = some y := by rw [← Array.getElem?_toList, hlen]; exact hy
        refine P.pop_list (y := y) oa hy' (Z' _ (.head _) ρ' _ _ (Le.refl _) (R'.upd (t := s'.toks) hj ea (sb (Heap.SameBut.update ..)) ?_) ry) (by rw [sizeLine_eq, hlen]; omega)
        have q := PySem.IsL.update (show PySem.IsL s'.heap a vs n from oa) (fun xs => xs.eraseIdxIfInBounds (vs.size - 1))
        refine ⟨_, _, q, ?_⟩
        have : (vs.eraseIdxIfInBounds (vs.size - 1)).toList = vs.toList.take (xs.length - 1) := by
          obtain ⟨l⟩ := vs
          simp only [List.eraseIdxIfInBounds_toArray, List.size_toArray] at hlen ⊢
          rw [hlen]
          have : xs.length = l.length := hlen.symm
          rw [this]
          rw [List.eraseIdx_eq_take_drop_succ]
          have : l.drop (l.length - 1 + 1) = [] := List.drop_eq_nil_of_le (by omega)
          rw [this, List.append_nil]
        rw [this, List.dropLast_eq_take]
        exact ra.take _
      · exact (Z' .no (.head _)).elim
    · exact (Z' .no (.head _)).elim
  · exact (Z' .no (.head _)).elim
end
end Mine
end
noncomputable section
open PySem PySem.W PyProof.Rows PySem.Calls Builtin Builtin.ObjectAttr
set_option maxRecDepth 100000
namespace Mine
section
variable {prog : Program} {w : World} {ι : Nat → Int} {h₀ : Heap} {os₀ : OsState} {T : Tab} {K : Frag} {I : IH} {c : Cx} {σ : St} {ρ : List Addr} {s : Shared} {env : Env} {A : Around}
section
variable {nm q : Str} {C N : Addr} {bs bm : List Value} {hdct : Bool} {sn : List Str} {sub : List Value} {ab : Bool} {col : Option Bool} {dd : Option Addr} {k0 k1 k2 k3 k5 : Option Value} {h : Heap} {g : Array GenState} {d : Drawn} {t : Nat} {os : OsState}
theorem initE_check {M : Model} {e : Addr} {oe : Obj} {rest : List Value} {Q : Unit → Shared → Prop} {E : Value → Shared → Prop} (hE : bm.contains (.type "Exception") = true)
    (hC : h.get? C = some (excClassObj nm q C N bs bm hdct sn sub ab col dd k0 k1 k2 k3 k5 "Exception.__new__")) (he : h.get? e = some oe) (hcls : oe.cls = .ref C) (hq : Q () ⟨h, g, d, t, os⟩) :
    wpAny M A (checkBuiltinCall "Exception.__init__" ⟨.ref e :: rest, []⟩) Q E ⟨h, g, d, t, os⟩ := by
  have F := PySem.F.excBase_Exception
  have hcB : (Value.ref C :: bm).contains (.type "Exception") = true := by rw [List.contains_cons, hE, Bool.or_true]
  have hshort := F.noStar
  simp only [checkBuiltinCall, F.initKind, F.initSplit, F.initRow]
  repeat (first | (with_reducible refine wpAny_loadPart_at he ?_; rw [hcls]) | with_reducible refine wpAny_loadPart_at hC ?_ | (with_reducible refine wpAny_isSubtype_exc hC ?_; rw [hcB]) | wp_step)
  refine wpAny_onRaise ?_
  rw [show ∀ (a b : String) (n : Nat), Bind.check ⟨.positional, "*", "Exception", .self, [⟨"args", .varPos, false⟩]⟩ a b n (List.map (fun x => x.fst) ({ pos := Value.ref e :: rest } : Args).kw) = pure () from
    fun a b n => PySem.check_star_args _ _ _ _ _ _]
  exact wpAny_pure hq
theorem initE {e : Addr} {oe : Obj} {vs : Array Value} {rest : List Value} {Q : Value → Shared → Prop} {E : Value → Shared → Prop} (hE : bm.contains (.type "Exception") = true)
    (hC : h.get? C = some (excClassObj nm q C N bs bm hdct sn sub ab col dd k0 k1 k2 k3 k5 "Exception.__new__")) (he : h.get? e = some oe) (hcls : oe.cls = .ref C) (hd : oe.data = .fields vs) (hz : 6 ≤ vs.size)
    (hq : Q .none ⟨(h.push { cls := .type "tuple", data := .seq rest.toArray }).update e (Obj.mapFields (·.setIfInBounds 0 (.ref h.objs.size))), g, d, t, os⟩) (hrest : rest.length ≤ sizeLine) :
    wpAny (model prog w) A (call (.builtin "Exception.__init__") (.ref e :: rest)) Q E ⟨h, g, d, t, os⟩ := by
  have F := PySem.F.excBase_Exception
  refine wpAny_call (codeAny_call_builtin F.init.plain F.initEntry (initE_check hE hC he hcls ?_))
  unfold Builtin.«BaseException.__init__»
  dsimp only
  rw [if_neg (by simp)]
  unfold newTuple Builtin.BaseException.bexcPut
  have he₁ := Heap.get?_push_of_some (h := h) { cls := .type "tuple", data := .seq rest.toArray } he
  have h0 : vs[0]? = some vs[0] := Array.getElem?_eq_getElem (by omega)
  refine wpAny_bind (wpAny_newObj_type (wpAny_bind (wpAny_bind (wpAny_field he₁ hd h0 (wpAny_bind (wpAny_setField he₁ hd (by omega) ?_))))) (by show rest.toArray.size ≤ sizeLine; rw [List.size_toArray]; exact hrest))
  split
  · exact wpAny_letGo (wpAny_pure hq)
  · exact wpAny_pure (wpAny_pure hq)
end
theorem weight_tc (C : Addr) (vs : List Value) : (Code.builtin "type.__call__" ⟨.ref C :: vs, []⟩).weight = 1 ∧ (Code.builtin "type.__call__" ⟨.ref C :: vs, []⟩).cUnits = 1 := by
  have h1 : (Code.builtin "type.__call__" ⟨.ref C :: vs, []⟩).isGuard = false := by kernel_rfl
  have h2 : (Code.builtin "type.__call__" ⟨.ref C :: vs, []⟩).isCaller = false := by rfl
  have h3 : (Code.builtin "type.__call__" ⟨.ref C :: vs, []⟩).frames = 0 := by rfl
  have h4 : (Code.builtin "type.__call__" ⟨.ref C :: vs, []⟩).isCreation = true := by rfl
  constructor
  · unfold Code.weight
    rw [h1, h2, h3, h4]
    rfl
  · show 1 + 3 * (Code.builtin "type.__call__" ⟨.ref C :: vs, []⟩).frames = 1
    rw [h3]
theorem cc_tc {fs : List Nat} {dp : Nat} {hd : Bool} (CA : CC ρ fs dp hd A) (hdp : dp ≤ 40) (C : Addr) (vs : List Value) : CC ρ fs (dp + 1) hd (A.under (.builtin "type.__call__" ⟨.ref C :: vs, []⟩)) := by
  have hdep := CA.depth
  have hun := CA.units
  obtain ⟨w1, w2⟩ := weight_tc C vs
  refine ⟨CA.fr, ?_, ?_, CA.hd, by omega⟩
  · show A.depth + (Code.builtin "type.__call__" ⟨.ref C :: vs, []⟩).weight ≤ _
    rw [w1]; omega
  · show A.units + (Code.builtin "type.__call__" ⟨.ref C :: vs, []⟩).cUnits ≤ _
    rw [w2]; omega
theorem mkExc_sp (H : Snd prog w ι h₀ os₀ I) (G : GF prog w ι h₀ T K) (GE' : GE K h₀ T)
    {fs : List Nat} {dp : Nat} {hd : Bool} {C fI : Addr} {as : List AV} {vs : List Value} (hC : T.cl C = some ⟨some fI, true⟩) (hdp : dp ≤ 40) (hl : as.length ≤ 1000) (CA : CC ρ fs dp hd A) (R : SR prog w ι h₀ os₀ ρ σ s) (hv : All2 (VR ι ρ) as vs) :
    Sc prog w ι h₀ os₀ A (.ref C) vs (VR ι) (backN (.ow σ.n) (I.ca fs (dp + 1) hd (.cv (.ref fI)) (.ow σ.n :: as) (spush σ (.exc C none true)))) ρ s := by
  have XX := GE'.xf C fI hC
  obtain ⟨nm, q, N, bs, bm, hdct, sn, sub, ab, col, dd, k0, k1, k2, k3, k5, ho, hE, hA, hN, hB⟩ := XX.obj
  have X := G.kin.keeps R.keep
  intro Q E Z
  obtain ⟨hh, g, d, t, os⟩ := s
  have hlen := hv.len
  refine mkE_core hE hA hN (R.keep _ _ ho) (looks_findIn X XX.init) (fun self => bind_fn X self XX.ty) ?_ (by rw [sizeLine_eq]; omega)
  have R1 : SR prog w ι h₀ os₀ ρ σ ⟨hh.push { cls := .type "tuple", data := .seq vs.toArray }, g, d, t, os⟩ := R.ext (t := t) fun b o e => Heap.get?_push_of_some _ e
  have hsz : (hh.push { cls := .type "tuple", data := .seq vs.toArray }).objs.size = hh.objs.size + 1 := Heap.size_push ..
  have R2 : SR prog w ι h₀ os₀ (ρ ++ [hh.objs.size + 1]) (spush σ (.exc C none true)) ⟨(hh.push { cls := .type "tuple", data := .seq vs.toArray }).push { cls := .ref C, data := .fields #[.ref hh.objs.size, .none, .none, .none, .bool false, .none] }, g, d, t, os⟩ := by
    rw [← hsz]
    exact R1.new1 (t := t) (fun b o e => Heap.get?_push_of_some _ e) (Heap.get?_none_of_le (Nat.le_refl _)) ⟨none, _, Heap.get?_push_size _ rfl, rfl, by simp, fun _ => rfl⟩
  have L : Le ρ (ρ ++ [hh.objs.size + 1]) := ⟨_, rfl⟩
  have hx : (ρ ++ [hh.objs.size + 1])[σ.n]? = some (hh.objs.size + 1) := at_n R _
  unfold backN at Z
  rcases obind_ok Z with q | ⟨q1, q2, q3⟩
  · exact q.elim
  · refine codeAny_mono (H.ca (f := .cv (.ref fI)) (fv := .ref fI) (as := .ow σ.n :: as) (vs := .ref (hh.objs.size + 1) :: vs) ((cc_tc CA hdp C vs).le L) R2 rfl ⟨⟨_, hx, rfl⟩, hv.mono fun _ _ y => y.le ι L⟩ (fun v s' => v = .none ∧ Q (.ref (hh.objs.size + 1)) s') E fun o ho => ?_) fun r s' z => ?_
    · cases o with
      | ok r σ' =>
        intro ρ' s' x L' R' hr
        have z := q1 r σ' ho
        cases r with
        | nn => cases hr; exact ⟨rfl, z _ (.head _) ρ' s' _ (L.trans L') R' ⟨_, L'.get hx, rfl⟩⟩
        | _ => exact (z _ (.head _)).elim
      | ex k σ' =>
        intro ρ' s' a L' R' ha fly
        exact q2 k σ' ho ρ' s' a (L.trans L') R' ha fly
      | no => exact (q3 ho).elim
    · rcases r with e | (v | _ | _ | _) <;> first | exact z | exact z.elim
theorem initE_sp (G : GF prog w ι h₀ T K) (GE' : GE K h₀ T) (R : SR prog w ι h₀ os₀ ρ σ s) {j C : Nat} {dd : Option Nat} {f : Bool} {fI : Addr} {x y : Str} {u v : Value} (hj : sget σ j = some (.exc C dd f)) (hC : T.cl C = some ⟨some fI, true⟩) (hu : VR ι ρ (.ow j) u) :
    Sp prog w ι h₀ os₀ A (call (.builtin "Exception.__init__") [u, v]) (VR ι) (okk .nn (sset σ j (.exc C dd f))) ρ s := by
  have XX := GE'.xf C fI hC
  obtain ⟨nm, q, N, bs, bm, hdct, sn, sub, ab, col, ddd, k0, k1, k2, k3, k5, ho, hE, hA, hN, hB⟩ := XX.obj
  obtain ⟨a, ea, rfl, od, vs, hx, hd, hz⟩ := R.ref hj hu
  intro Q E Z
  obtain ⟨hh, g, d, t, os⟩ := s
  refine initE hE (R.keep _ _ ho) hx rfl rfl hz.1 (Z _ (.head _) ρ _ _ (Le.refl _) ?_ rfl) (by rw [sizeLine_eq]; simp)
  have hx1 := Heap.get?_push_of_some (h := hh) { cls := .type "tuple", data := .seq [v].toArray } hx
  refine (R.ext (t := t) fun b o e => Heap.get?_push_of_some _ e).upd (t := t) hj ea (sb (Heap.SameBut.update ..)) ⟨od, vs.setIfInBounds 0 (.ref hh.objs.size), ?_, hd, by simpa using hz.1, fun e => by rw [Array.getElem?_setIfInBounds_ne (by decide)]; exact hz.2 e⟩
  exact Heap.get?_update_self _ hx1 (by cases od <;> rfl)
end
end Mine
end
noncomputable section
open PySem PySem.W PyProof.Rows PySem.Calls Builtin Builtin.ObjectAttr
set_option maxRecDepth 100000
namespace Mine
section
variable {prog : Program} {w : World} {ι : Nat → Int} {h₀ : Heap} {os₀ : OsState} {T : Tab} {K : Frag} {I : IH} {c : Cx} {σ : St} {ρ : List Addr} {s : Shared} {env : Env} {A : Around}
theorem spliced2_sp (H : Snd prog w ι h₀ os₀ I) {pos : Pos} {f : Value} {k : Keeper} {g : List AV → St → List (Out AV)} {Q : Value → Shared → Prop} {E : Value → Shared → Prop} (es : List Expr) (C : CE ρ c env A) (R : SR prog w ι h₀ os₀ ρ σ s)
    (hk : ∀ {ρ : List Addr} {σ : St} {s : Shared}, SR prog w ι h₀ os₀ ρ σ s → Looks (model prog w) s.heap (keeperOf f) k)
    (hg : ∀ vs σ' ρ' s' xs, Le ρ ρ' → SR prog w ι h₀ os₀ ρ' σ' s' → All2 (VR ι ρ') vs xs → Sp prog w ι h₀ os₀ A (call f xs) (VR ι) (g vs σ') ρ' s')
    (Z : ∀ o ∈ obind (evs (I.ev c) es σ) g, Post prog w ι h₀ os₀ (VR ι) ρ Q E o) :
    wpAny (model prog w) A (callWith pos f [] (backTo pos (starEach es env)) []) Q E s := callWith_sp H pos (first := []) es C R hk hg Q E Z
theorem evMeth_sp (H : Snd prog w ι h₀ os₀ I) (G : GF prog w ι h₀ T K) (GE' : GE K h₀ T) (C : CE ρ c env A) (R : SR prog w ι h₀ os₀ ρ σ s) (o : Expr) (m : Str) (as : List Expr) {ap ps : Pos}
    (hc : (Nat.beq ap.endLine ps.line && (!isBare o && (Nat.blt as.length 20 && noStar as))) = true) :
    Sp prog w ι h₀ os₀ A (eval (.Call (.Attribute o m ap) as [] ps) env) (VR ι) (evMeth T I c o m as σ) ρ s := by
  unfold evMeth
  split
  · rename_i hm
    have hm := seq_true hm
    subst hm
    match as, hc with
    | [e], hc =>
      have := append_sp (ap := ap) (ps := ps) H C R (o := o) (e := e) hc
      intro Q E Z
      refine this Q E fun o' ho => Z o' ?_
      refine (congrArg (fun g => o' ∈ obind (I.ev c o σ) g) (funext fun ov => funext fun σ => ?_)).mp ho
      cases ov <;> rfl
    | [], hc =>
      intro Q E Z
      refine meth_any hc ((H.ev C R).seqQ Z fun ov σ' _ ρ' s' x L R' hx Z' => ?_)
      cases ov <;> exact (Z' .no (.head _)).elim
    | _ :: _ :: _, hc =>
      intro Q E Z
      refine meth_any hc ((H.ev C R).seqQ Z fun ov σ' _ ρ' s' x L R' hx Z' => ?_)
      cases ov <;> exact (Z' .no (.head _)).elim
  · split
    · rename_i hm
      have hm := seq_true hm
      subst hm
      cases as with
      | nil => exact pop_sp H C R hc
      | cons e r => exact Sp.no
    · split
      · rename_i hm
        have hm := seq_true hm
        subst hm
        split
        · rename_i k kp
          split
          · rename_i hk
            intro Q E Z
            refine meth_any hc (isB_load G C R hk (by simp) (v := .type "Exception") (by kernel_rfl) (by decide +kernel) fun pl => ?_)
            refine typeExc (G.kin.keeps R.keep) GE'.ei (by rfl) ?_
            refine spliced2_sp H as C (R.toks _) (k := .machine) (fun _ => Looks.of_pure (by rfl)) (fun vs σ' ρ' s' xs L R' hv => ?_) Z
            split
            · rename_i j y
              obtain ⟨u, v, rfl, hu, hv⟩ := arg2 hv rfl
              split
              · rename_i C' d hj
                split
                · rename_i fI hC
                  exact initE_sp (x := y) (y := y) G GE' R' hj hC hu
                · exact Sp.no
              · exact Sp.no
            · exact Sp.no
          · intro Q E Z
            refine meth_any hc ((name_sp G C R k kp).seqQ Z fun kv σ' _ ρ' s' x L R' hx Z' => fun pl => ?_)
            split at Z'
            · rename_i C' _
              cases hx
              split at Z'
              · rename_i fI hC
                split at Z'
                · rename_i hkn
                  have XX := GE'.xf C' fI hC
                  have X := G.kin.keeps R'.keep
                  obtain ⟨k, hk⟩ := keeper_of (os₀ := os₀) (prog := prog) (w := w) G hkn (show VR ι ρ' (.cv (.ref fI)) (.ref fI) from rfl)
                  refine method_cls X XX.ga (cls_value X XX.reads XX.own rfl ?_)
                  refine spliced2_sp H as (C.le L) (R'.toks _) (k := k) (fun R => hk R) (fun vs σ'' ρ'' s'' xs L' R'' hv => ?_) Z'
                  exact (H.ca (f := .cv (.ref fI)) (fv := .ref fI) ((C.le (L.trans L')).cc) R'' rfl hv).sp
                · exact (Z' .no (.head _)).elim
              · exact (Z' .no (.head _)).elim
            · exact (Z' .no (.head _)).elim
        · exact Sp.no
      · exact Sp.no
end
end Mine
end
noncomputable section
open PySem PySem.W PyProof.Rows PySem.Calls Builtin Builtin.ObjectAttr
set_option maxRecDepth 100000
namespace Mine
section
variable {prog : Program} {w : World} {ι : Nat → Int} {h₀ : Heap} {os₀ : OsState} {T : Tab} {K : Frag} {I : IH} {c : Cx} {σ : St} {ρ : List Addr} {s : Shared} {env : Env} {A : Around}
theorem evE_sp (H : Snd prog w ι h₀ os₀ I) (G : GF prog w ι h₀ T K) (GE' : GE K h₀ T) (C : CE ρ c env A) (R : SR prog w ι h₀ os₀ ρ σ s) (e : Expr) : Sp prog w ι h₀ os₀ A (eval e env) (VR ι) (evE T I c e σ) ρ s := by
  by_cases hs : simpleE e = true
  · exact evE_simple H G (fun n C' d j f R hi hj ho => getX_sp G GE' R n C' d j f hi hj ho) C R e hs
  · cases e with
    | Dict ks vs p => exact Dict_sp H C R ks vs p
    | Call f as ks p =>
      cases ks with
      | cons k ks => exact Sp.no
      | nil =>
        cases f with
        | Name x px =>
          have e1 : evE T I c (.Call (.Name x px) as [] p) σ = (match kindA c.sc x with
            | some .globalImplicit => (match T.gl x with
              | some _ => evCall T I c x as σ
              | none => evBi T I c x as σ)
            | _ => noo) := rfl
          rw [e1]
          split
          · split
            · exact evCall_sp H G C R x px p as
            · exact evBi_sp H G C R x px p as
          · exact Sp.no
        | Attribute o m ap =>
          have e1 : evE T I c (.Call (.Attribute o m ap) as [] p) σ = (match Nat.beq ap.endLine p.line && (!isBare o && (Nat.blt as.length 20 && noStar as)) with
            | true => evMeth T I c o m as σ
            | false => noo) := rfl
          rw [e1]
          split
          · rename_i hc
            exact evMeth_sp H G GE' C R o m as hc
          · exact Sp.no
        | _ => exact Sp.no
    | _ => exact (hs rfl).elim
end
end Mine
end
noncomputable section
open PySem PySem.W PyProof.Rows PySem.Calls Builtin Builtin.ObjectAttr
set_option maxRecDepth 100000
namespace Mine
section
variable {prog : Program} {w : World} {A : Around} {E : Value → Shared → Prop}
theorem draw_list {it t : Addr} {items : Array Value} (hne : t ≠ it) : ∀ (n i : Nat) (s : Shared) (Q : List Value → Shared → Prop), s.heap.IsListIter it t i → s.heap.IsList t items → i + n ≤ items.size →
    (∀ h', h'.IsListIter it t (i + n) → Heap.SameBut it s.heap h' → Q ((items.toList.drop i).take n) { s with heap := h' }) → wpAny (model prog w) A (draw (.ref it) n) Q E s
  | 0, i, s, Q, hit, _, _, hQ => by
    show wpAny _ _ (pure []) Q E s
    exact wpAny_pure (by simpa using hQ s.heap hit (Heap.SameBut.refl ..))
  | n + 1, i, s, Q, hit, ht, hle, hQ => by
    have hlt : i < items.size := by omega
    show wpAny _ _ (pyNext (.ref it) >>= _) Q E s
    refine wpAny_bind (PySem.wpAny_pyNext_list_item hit ht (x := items[i]) (by simp [hlt]) fun h₁ hit₁ hs₁ => ?_)
    refine wpAny_bind (wpAny_holding (draw_list hne n (i + 1) _ _ hit₁ (ht.extBut hs₁.extBut hne) (by omega) fun h₂ hit₂ hs₂ => wpAny_pure ?_))
    have hd : items.toList.drop i = items[i] :: items.toList.drop (i + 1) := by simp [List.drop_eq_getElem_cons, hlt]
    have := hQ h₂ (by rw [show i + (n + 1) = i + 1 + n by omega]; exact hit₂) (hs₁.trans hs₂)
    rw [hd, List.take_succ_cons] at this
    exact this
theorem unpackItems_list {s : Shared} {t : Addr} {items : Array Value} {Q : List Value → Shared → Prop} (hh : A.handled = none) (ht : s.heap.IsList t items)
    (hQ : ∀ h', Heap.ExtBut s.heap.objs.size s.heap h' → Q items.toList { s with heap := h' }) : wpAny (model prog w) A (unpackItems (.ref t) items.size none) Q E s := by
  have hlt : t ≠ s.heap.objs.size := by obtain ⟨o, ho, _⟩ := ht; exact Nat.ne_of_lt (Heap.lt_size ho)
  unfold unpackItems
  refine wpAny_bind ?_
  · unfold notIterableAtAll
    refine wpAny_bind (wpAny_specialOf ht.typeIs PySem.F.slot_list_iter.lookup ?_)
    refine wpAny_pure ?_
    simp only [Bool.false_eq_true, if_false]
    refine wpAny_bind (wpAny_holding (PySem.wpAny_pyIter_list ht ?_))
    refine wpAny_bind (wpAny_holding (draw_list hlt items.size 0 _ _ ⟨_, Heap.get?_push_size _ rfl, rfl, rfl⟩ (ht.push _) (by omega) fun h₁ hit₁ hs₁ => ?_))
    have hall : List.take items.size (List.drop 0 items.toList) = items.toList := by
      rw [List.drop_zero]; exact List.take_of_length_le (by simp)
    rw [hall]
    rw [if_neg (by simp)]
    have ht₁ : h₁.IsList t items := (ht.push _).extBut hs₁.extBut hlt
    refine wpAny_bind (wpAny_holding (PySem.wpAny_pyNext_list_end hh hit₁ ht₁ (by simp) fun h₂ he₂ => ?_))
    simp only [Option.isSome_none, Bool.false_eq_true, if_false]
    refine wpAny_pure (hQ h₂ fun b o hb e => he₂ b o hb (hs₁.extBut b o hb (Heap.get?_push_of_some _ e)))
theorem unpack_any {s : Shared} {v : Value} {items : Array Value} {targets : List (Bool × (Value → Sem Unit))} {Q : Unit → Shared → Prop}
    (hu : ∀ {Q : List Value → Shared → Prop}, (∀ h', Heap.ExtBut s.heap.objs.size s.heap h' → Q items.toList { s with heap := h' }) → wpAny (model prog w) A (unpackItems v items.size none) Q E s)
    (hn : targets.length = items.size) (hstar : targets.findIdx? (·.1) = none)
    (h : ∀ h', Heap.ExtBut s.heap.objs.size s.heap h' → wpAny (model prog w) A (assignInOrder (targets.map (·.2)) items.toList) Q E { s with heap := h' }) :
    wpAny (model prog w) A (unpack v targets) Q E s := by
  unfold unpack
  rw [hn, hstar]
  exact wpAny_bind (wpAny_holding (hu h))
end
section
variable {prog : Program} {w : World} {ι : Nat → Int} {h₀ : Heap} {os₀ : OsState} {T : Tab} {K : Frag} {I : IH} {c : Cx} {σ : St} {ρ : List Addr} {s : Shared} {env : Env} {A : Around}
theorem allN_each : ∀ {ts : List Expr}, allN ts = true → (assignEach ts env).length = ts.length ∧ (assignEach ts env).findIdx? (·.1) = none
  | [], _ => ⟨rfl, rfl⟩
  | t :: r, h => by
    cases t with
    | Name x p =>
      obtain ⟨h1, h2⟩ := allN_each (ts := r) h
      have e : assignEach (.Name x p :: r) env = (false, assign (.Name x p) env) :: assignEach r env := rfl
      rw [e]
      refine ⟨by simp [h1], ?_⟩
      rw [List.findIdx?_cons]
      simp [h2]
    | _ => cases h
theorem storeAll_sp (hd : c.hd = false) : ∀ (ts : List Expr) (vs : List AV) (xs : List Value) {σ : St} {ρ : List Addr} {s : Shared}, allN ts = true → CE ρ c env A → SR prog w ι h₀ os₀ ρ σ s → All2 (VR ι ρ) vs xs →
    Sp prog w ι h₀ os₀ A (assignInOrder ((assignEach ts env).map (·.2)) xs) (fun _ (_ : Unit) (_ : Unit) => True) (storeAll c ts vs σ) ρ s
  | [], [], [], σ, ρ, s, _, C, R, _ => fun Q E Z => assignInOrder_nil (Z _ (.head _) ρ s _ (Le.refl _) R trivial)
  | [], [], _ :: _, σ, ρ, s, _, C, R, hv => hv.elim
  | [], _ :: _, _, σ, ρ, s, _, C, R, _ => Sp.no
  | t :: r, [], xs, σ, ρ, s, hn, C, R, hv => by cases t <;> exact Sp.no
  | t :: r, v :: vs, [], σ, ρ, s, hn, C, R, hv => hv.elim
  | t :: r, v :: vs, x :: xs, σ, ρ, s, hn, C, R, hv => by
    cases t with
    | Name y p =>
      intro Q E Z
      exact assignInOrder_cons ((assign_name_sp C R y p hv.1).seqQ Z fun a σ' _ ρ' s' _ L R' _ Z' => storeAll_sp hd r vs xs hn (C.le L) R' (hv.2.mono fun _ _ y => y.le ι L) Q E Z')
    | _ => cases hn
theorem storeT_sp (C : CE ρ c env A) (R : SR prog w ι h₀ os₀ ρ σ s) {v : AV} {u : Value} (t : Expr) (hr : VR ι ρ v u) :
    Sp prog w ι h₀ os₀ A (assign t env u) (fun _ (_ : Unit) (_ : Unit) => True) (storeT c t v σ) ρ s := by
  unfold storeT
  split
  · rename_i x p
    exact assign_name_sp C R x p hr
  · rename_i ts x1 p
    split
    · rename_i hn hd
      rw [arm_assign_Tuple]
      intro Q E Z
      refine wpAny_bind (wpAny_standAt ?_)
      obtain ⟨e1, e2⟩ := allN_each (env := env) hn
      have key : ∀ (items : Array Value) (xs : List AV), All2 (VR ι ρ) xs items.toList → xs.length = ts.length → (∀ {Q : List Value → Shared → Prop}, (∀ h', Heap.ExtBut s.heap.objs.size s.heap h' → Q items.toList { s with heap := h' }) → wpAny (model prog w) A (unpackItems u items.size none) Q E s) →
          (∀ o ∈ storeAll c ts xs σ, Post prog w ι h₀ os₀ (fun _ (_ : Unit) (_ : Unit) => True) ρ Q E o) → wpAny (model prog w) A (unpack u (assignEach ts env)) Q E s := by
        intro items xs ra hl hu Z'
        refine unpack_any hu (by rw [e1, size_of ra, hl]) e2 fun h' he => ?_
        exact storeAll_sp hd ts xs items.toList hn C (R.ext (t := s.toks) fun b o e => he b o (Nat.ne_of_lt (Heap.lt_size e)) e) ra Q E Z'
      unfold unpackA at Z
      split at Z
      · rename_i j
        split at Z
        · rename_i xs hj
          split at Z
          · rename_i hz
            obtain ⟨a, ea, rfl, vs, oa, ra⟩ := R.ref hj hr
            exact key vs xs ra (Nat.eq_of_beq_eq_true hz) (fun h => unpackItems_tuple (C.hd hd) oa h) fun o ho => Z o ho
          · exact (Z .no (.head _)).elim
        · rename_i xs hj
          split at Z
          · rename_i hz
            obtain ⟨a, ea, rfl, vs, n, oa, ra⟩ := R.ref hj hr
            exact key vs xs ra (Nat.eq_of_beq_eq_true hz) (fun h => unpackItems_list (C.hd hd) ⟨_, oa, rfl, n, rfl⟩ h) fun o ho => Z o ho
          · exact (Z .no (.head _)).elim
        · exact (Z .no (.head _)).elim
      · exact (Z .no (.head _)).elim
    · exact Sp.no
  · exact Sp.no
end
end Mine
end
noncomputable section
open PySem PySem.W PyProof.Rows PySem.Calls Builtin Builtin.ObjectAttr
set_option maxRecDepth 100000
namespace Mine
section
variable {prog : Program} {w : World} {ι : Nat → Int} {h₀ : Heap} {os₀ : OsState} {T : Tab} {K : Frag} {I : IH} {c : Cx} {σ : St} {ρ : List Addr} {s : Shared} {env : Env} {A : Around}
theorem owned_int (target : Expr) (it : Value) (i : Int) (t : Tok) : letOwnedTupleGo target it (.int i t) = pure () := by
  unfold letOwnedTupleGo
  cases target <;> first | rfl | (cases it <;> rfl)
theorem owned_list {target : Expr} {it l : Addr} {i : Nat} {v : Value} {s : Shared} {Q : Unit → Shared → Prop} {E : Value → Shared → Prop} (hit : s.heap.IsListIter it l i) (hQ : Q () s) : wpAny (model prog w) A (letOwnedTupleGo target (.ref it) v) Q E s := by
  cases target with
  | Tuple elts x1 p => cases v with
    | ref a => exact PySem.wpAny_letOwnedTupleGo_listiter hit hQ
    | _ => exact wpAny_pure hQ
  | List elts p => cases v with
    | ref a => exact PySem.wpAny_letOwnedTupleGo_listiter (x1 := 0) (elts := elts) (pos := p) hit hQ
    | _ => exact wpAny_pure hQ
  | _ => exact wpAny_pure hQ
theorem forR_sp (H : Snd prog w ι h₀ os₀ I) (hd : c.hd = false) (C : CE ρ c env A) (R : SR prog w ι h₀ os₀ ρ σ s) (t : Expr) (b : List Stmt) (k : Nat) (ita : Addr) (hk : ρ[k]? = some ita) (n : Nat) {Q : Flow → Shared → Prop} {E : Value → Shared → Prop}
    (Z : ∀ o ∈ noex (forR (I.ex c b) (storeT c t) k n σ), Post prog w ι h₀ os₀ (FR ι) ρ Q E o) :
    codeAny (model prog w) A (.forLoop t (.ref ita) b [] env) (fun r s' => match r with | .ok f => Q f s' | .error e => cameBackBy (model prog w) A env E e s') s := by
  have Z0 := noex_post Z (fun _ _ => False)
  refine codeAny_forLoop_any (fun n s' => ∃ σ' ρ', Le ρ ρ' ∧ SR prog w ι h₀ os₀ ρ' σ' s' ∧ ∀ o ∈ forR (I.ex c b) (storeT c t) k n σ', Post prog w ι h₀ os₀ (FR ι) ρ' Q (fun _ _ => False) o) (fun n s' hI => ?_) n ⟨σ, ρ, Le.refl ρ, R, Z0⟩
  obtain ⟨σ', ρ', L, R', Z1⟩ := hI
  cases n with
  | zero =>
    unfold forR at Z1
    split at Z1
    · rename_i a m hs
      split at Z1
      · rename_i hm
        have hm := of_decide_eq_true hm
        obtain ⟨x, ex, hit⟩ := R'.obj _ _ hs
        rw [L.get hk] at ex
        cases ex
        exact wpAny_pyNext_range_end (C.hd hd) hit (by omega) fun h' hx => wpAny_execs_nil (Z1 _ (.head _) ρ' _ _ (Le.refl _) (R'.del (t := s'.toks) hs (L.get hk) hx) rfl)
      · exact (Z1 .no (.head _)).elim
    · exact (Z1 .no (.head _)).elim
  | succ n =>
    unfold forR at Z1
    split at Z1
    · rename_i a m hs
      split at Z1
      · rename_i hm
        have hm := of_decide_eq_true hm
        obtain ⟨x, ex, hit⟩ := R'.obj _ _ hs
        rw [L.get hk] at ex
        cases ex
        refine wpAny_pyNext_range_item hit (by rw [hm]; exact Int.natCast_pos.mpr (Nat.succ_pos _)) fun h' hit' hx => ?_
        refine wpAny_of_eq (owned_int t _ _ _) ?_
        have hm' : m - 1 = Int.ofNat n := by rw [hm]; exact (by simp : ((n + 1 : Nat) : Int) - 1 = (n : Int))
        rw [hm'] at hit'
        have R1 := R'.upd (t := s'.toks + 1) (o' := .rit (a + 1) (Int.ofNat n)) hs (L.get hk) (sb hx) hit'
        refine wpAny_mono ((storeT_sp (C.le L) R1 t (v := .ii a) (u := .int a s'.toks) ⟨_, rfl⟩).seqQ Z1 fun q σ'' _ ρ'' s'' u L' R'' _ Z2 => ?_) (fun _ _ x => x) fun _ _ x => x.elim
        refine wpAny_mono ((H.ex (C.le (L.trans L')) R'').seqQ Z2 fun fl σ3 _ ρ3 s3 f L3 R3 hf Z3 => ?_) (fun _ _ x => x) fun _ _ x => x.elim
        cases fl with
        | nx => cases hf; exact ⟨n, Nat.lt_succ_self n, σ3, ρ3, (L.trans L').trans L3, R3, Z3⟩
        | ct => cases hf; exact ⟨n, Nat.lt_succ_self n, σ3, ρ3, (L.trans L').trans L3, R3, Z3⟩
        | bk => cases hf; exact Z3 _ (.head _) ρ3 s3 _ (Le.refl _) R3 rfl
        | rt v => obtain ⟨y, rfl, hy⟩ := hf; exact Z3 _ (.head _) ρ3 s3 _ (Le.refl _) R3 ⟨y, rfl, hy⟩
      · exact (Z1 .no (.head _)).elim
    · exact (Z1 .no (.head _)).elim
theorem forL_sp (H : Snd prog w ι h₀ os₀ I) (hd : c.hd = false) (C : CE ρ c env A) (R : SR prog w ι h₀ os₀ ρ σ s) (t : Expr) (b : List Stmt) (k : Nat) (ita : Addr) (hk : ρ[k]? = some ita) (n : Nat) {Q : Flow → Shared → Prop} {E : Value → Shared → Prop}
    (Z : ∀ o ∈ noex (forL (I.ex c b) (storeT c t) k n σ), Post prog w ι h₀ os₀ (FR ι) ρ Q E o) :
    codeAny (model prog w) A (.forLoop t (.ref ita) b [] env) (fun r s' => match r with | .ok f => Q f s' | .error e => cameBackBy (model prog w) A env E e s') s := by
  have Z0 := noex_post Z (fun _ _ => False)
  refine codeAny_forLoop_any (fun n s' => ∃ σ' ρ', Le ρ ρ' ∧ SR prog w ι h₀ os₀ ρ' σ' s' ∧ ∀ o ∈ forL (I.ex c b) (storeT c t) k n σ', Post prog w ι h₀ os₀ (FR ι) ρ' Q (fun _ _ => False) o) (fun n s' hI => ?_) n ⟨σ, ρ, Le.refl ρ, R, Z0⟩
  obtain ⟨σ', ρ', L, R', Z1⟩ := hI
  cases n with
  | zero => exact (Z1 .no (.head _)).elim
  | succ n =>
    unfold forL at Z1
    split at Z1
    · rename_i l i hs
      split at Z1
      · rename_i xs hl
        obtain ⟨x, ex, la, el, hit⟩ := R'.obj _ _ hs
        rw [L.get hk] at ex
        cases ex
        obtain ⟨la', el', vs, m, oa, ra⟩ := R'.obj _ _ hl
        rw [el] at el'
        cases el'
        have isl : s'.heap.IsList la vs := ⟨_, oa, rfl, m, rfl⟩
        split at Z1
        · rename_i v hv
          obtain ⟨y, hy, ry⟩ := ra.get hv
          have hy' : vs[i]? = some y := by rw [← Array.getElem?_toList]; exact hy
          refine PySem.wpAny_pyNext_list_item hit isl hy' fun h' hit' hx => ?_
          refine owned_list hit' ?_
          have R1 := R'.upd (t := s'.toks) (o' := .lit l (i + 1)) hs (L.get hk) (sb hx) ⟨la, el, hit'⟩
          refine wpAny_mono ((storeT_sp (C.le L) R1 t ry).seqQ Z1 fun q σ'' _ ρ'' s'' u L' R'' _ Z2 => ?_) (fun _ _ x => x) fun _ _ x => x.elim
          refine wpAny_mono ((H.ex (C.le (L.trans L')) R'').seqQ Z2 fun fl σ3 _ ρ3 s3 f L3 R3 hf Z3 => ?_) (fun _ _ x => x) fun _ _ x => x.elim
          cases fl with
          | nx => cases hf; exact ⟨n, Nat.lt_succ_self n, σ3, ρ3, (L.trans L').trans L3, R3, Z3⟩
          | ct => cases hf; exact ⟨n, Nat.lt_succ_self n, σ3, ρ3, (L.trans L').trans L3, R3, Z3⟩
          | bk => cases hf; exact Z3 _ (.head _) ρ3 s3 _ (Le.refl _) R3 rfl
          | rt v => obtain ⟨y, rfl, hy⟩ := hf; exact Z3 _ (.head _) ρ3 s3 _ (Le.refl _) R3 ⟨y, rfl, hy⟩
        · rename_i hn
          have hy' : vs[i]? = none := by
            rw [Array.getElem?_eq_none_iff]
            rw [List.getElem?_eq_none_iff] at hn
            rw [size_of ra]; exact hn
          exact PySem.wpAny_pyNext_list_end (C.hd hd) hit isl hy' fun h' hx => wpAny_execs_nil (Z1 _ (.head _) ρ' _ _ (Le.refl _) (R'.del (t := s'.toks) hs (L.get hk) hx) rfl)
      · exact (Z1 .no (.head _)).elim
    · exact (Z1 .no (.head _)).elim
end
end Mine
end
noncomputable section
open PySem PySem.W PyProof.Rows PySem.Calls Builtin Builtin.ObjectAttr
set_option maxRecDepth 100000
namespace Mine
section
variable {prog : Program} {w : World} {ι : Nat → Int} {h₀ : Heap} {os₀ : OsState} {T : Tab} {K : Frag} {I : IH} {c : Cx} {σ : St} {ρ : List Addr} {s : Shared} {env : Env} {A : Around}
theorem for_range_sp (H : Snd prog w ι h₀ os₀ I) (G : GF prog w ι h₀ T K) (C : CE ρ c env A) (R : SR prog w ι h₀ os₀ ρ σ s) {t e : Expr} {b : List Stmt} {r : Str} {rp cp pos : Pos} (hr : isB T c r "range" = true) (hs : star e = false) (hd : c.hd = false) :
    Sp prog w ι h₀ os₀ A (exec (.For t (.Call (.Name r rp) [e] [] cp) b [] pos) env) (FR ι) (obind (I.ev c e σ) fun v σ => (match v with
            | .ii (.ofNat n) => (match Nat.blt n 1000 with
              | true => noex (forR (I.ex c b) (storeT c t) σ.n n (spush σ (.rit 0 (Int.ofNat n))))
              | false => noo)
            | _ => noo)) ρ s := by
  intro Q E Z
  refine wpAny_For ?_ (fun x => rfl)
  rw [arm_eval_Call_Name']
  refine wpAny_bind (isB_load G C R hr (by simp) (v := .type "range") (by kernel_rfl) (by decide +kernel) (callWith_any (k := .machine) ?_))
  have h1 : backTo cp (starEach [e] env) = [(false, eval e env)] := by
    cases e <;> first | rfl | cases hs
  rw [h1]
  refine evalArgs_plain (spliced_cons ((H.ev C R).seqQ Z fun v σ' _ ρ' s' x L R' hx Z' => spliced_nil ⟨Looks.of_pure (by rfl), ?_⟩))
  split at Z'
  · rename_i n _
    split at Z'
    · rename_i hn
      have hn : n.succ ≤ 1000 := Nat.le_of_ble_eq_true hn
      obtain ⟨t', rfl⟩ := hx
      have hsz : Range.rangeSize 0 (Int.ofNat n) 1 = Int.ofNat n := by
        rw [rangeSize_nat]
        have : (Int.ofNat n - 0) = (n : Int) := by simp
        rw [this]; rfl
      have hfit : ∀ m : Nat, m ≤ 1000 → Range.rangeFitsLong (m : Int) = true := fun m hm => by
        unfold Range.rangeFitsLong
        rw [Bool.and_eq_true]
        exact ⟨decide_eq_true (by omega), decide_eq_true (by omega)⟩
      refine call_range_1 ?_
      refine wpAny_pyIter_range (a := 0) (b := .ofNat n) (c := 1) (Heap.get?_push_size _ rfl) ?_ ?_
      · unfold Range.small
        rw [hsz]
        have h0 := hfit 0 (by omega)
        have h1 := hfit 1 (by omega)
        have h2 := hfit n (by omega)
        simp only [Bool.and_eq_true, Bool.or_eq_true]
        refine ⟨⟨⟨⟨h0, h2⟩, h1⟩, h2⟩, .inr ?_⟩
        rw [if_pos (by decide)]
        have : (Int.ofNat n + (1 - 1)) = (n : Int) := by simp
        rw [this]; exact h2
      rw [hsz]
      have R1 := R'.ext (t := s'.toks + 1 + 1) (h' := s'.heap.push { cls := .type "range", data := .fields #[.int 0 s'.toks, .int (.ofNat n) t', .int 1 (s'.toks + 1)] }) fun b o e => Heap.get?_push_of_some _ e
      have R2 := R1.new1 (t := s'.toks + 1 + 1) (o := .rit 0 (Int.ofNat n)) (fun b o e => Heap.get?_push_of_some { cls := .type "range_iterator", data := .fields #[rawInt 0, rawInt (Int.ofNat n), rawInt 1] } e) (Heap.get?_none_of_le (Nat.le_refl _)) (Heap.get?_push_size _ rfl)
      exact forR_sp H hd (C.le (L.trans ⟨_, rfl⟩)) R2 t b σ'.n _ (at_n R1 _) n fun o ho => (Z' o ho).le ⟨_, rfl⟩
    · exact (Z' .no (.head _)).elim
  · exact (Z' .no (.head _)).elim
theorem for_list_sp (H : Snd prog w ι h₀ os₀ I) (G : GF prog w ι h₀ T K) (C : CE ρ c env A) (R : SR prog w ι h₀ os₀ ρ σ s) {t : Expr} {b : List Stmt} {y : Str} {yp pos : Pos} (hd : c.hd = false) :
    Sp prog w ι h₀ os₀ A (exec (.For t (.Name y yp) b [] pos) env) (FR ι) (obind (I.ev c (.Name y yp) σ) fun v σ => (match v with
        | .ow j => (match sget σ j with | some (.lst xs) => noex (forL (I.ex c b) (storeT c t) σ.n 30 (spush σ (.lit j 0))) | _ => noo)
        | _ => noo)) ρ s := by
  intro Q E Z
  refine wpAny_For ((H.ev C R).seqQ Z fun v σ' _ ρ' s' x L R' hx Z' => ?_) (fun x => rfl)
  split at Z'
  · rename_i j _
    split at Z'
    · rename_i xs hj
      obtain ⟨a, ea, rfl, vs, n, oa, ra⟩ := R'.ref hj hx
      refine PySem.wpAny_pyIter_list ⟨_, oa, rfl, n, rfl⟩ ?_
      have ea' : (ρ' ++ [s'.heap.objs.size])[j]? = some a := Le.get ⟨_, rfl⟩ ea
      have R2 := R'.new1 (t := s'.toks) (o := .lit j 0) (fun b o e => Heap.get?_push_of_some { cls := .type "list_iterator", data := .fields #[.ref a, .int 0 0] } e) (Heap.get?_none_of_le (Nat.le_refl _)) ⟨a, ea', _, Heap.get?_push_size _ rfl, rfl, rfl⟩
      exact forL_sp H hd (C.le (L.trans ⟨_, rfl⟩)) R2 t b σ'.n _ (at_n R' _) 30 fun o ho => (Z' o ho).le ⟨_, rfl⟩
    · exact (Z' .no (.head _)).elim
  · exact (Z' .no (.head _)).elim
theorem expr_sp (H : Snd prog w ι h₀ os₀ I) (C : CE ρ c env A) (R : SR prog w ι h₀ os₀ ρ σ s) {v : Expr} {p : Pos} (hc : isComp v = false) :
    Sp prog w ι h₀ os₀ A (exec (.Expr v p) env) (FR ι) (obind (I.ev c v σ) fun _ σ => okk .nx σ) ρ s := by
  intro Q E Z
  obtain ⟨name, L, a, cd, rfl, hL⟩ := C.en
  exact wpAny_Expr_any ((H.ev C R).seqQ Z fun v σ' _ ρ' s' x L R' hx Z' => Z' _ (.head _) ρ' s' _ (Le.refl _) R' rfl) (by show interactive (envOf name c.sc L a cd) = false; unfold interactive; rw [show (envOf name c.sc L a cd).scope.kind = _ from C.kind]; rfl) (swap_none hc _ _)
end
end Mine
end
noncomputable section
open PySem PySem.W PyProof.Rows PySem.Calls
set_option maxRecDepth 100000
namespace Mine
section
variable {prog : Program} {w : World} {ι : Nat → Int} {h₀ : Heap} {os₀ : OsState} {T : Tab} {K : Frag} {I : IH} {c : Cx} {σ : St} {ρ : List Addr} {s : Shared} {env : Env} {A : Around}
theorem SR.unk {h' : Heap} {t : Nat} {b₀ : Addr} (R : SR prog w ι h₀ os₀ ρ σ s) (hT : ∀ k o, sget σ k = some o → ρ[k]? ≠ some b₀) (hn : h₀.get? b₀ = none) (hs : ∀ b o, b ≠ b₀ → s.heap.get? b = some o → h'.get? b = some o) :
    SR prog w ι h₀ os₀ ρ σ { s with heap := h', toks := t } := by
  refine ⟨R.len, R.nd, R.new, fun k o e => ?_, fun b o e => hs b o (fun q => by rw [q, hn] at e; cases e) (R.keep b o e), R.gens, R.os⟩
  obtain ⟨a, h1, h2⟩ := R.obj k o e
  exact ⟨a, h1, h2.keeps prog w ι fun ob e' => hs a _ (fun q => hT k o e (q ▸ h1)) e'⟩
theorem SR.same {h' : Heap} {t : Nat} {k : Nat} {a : Addr} {o : AO} (R : SR prog w ι h₀ os₀ ρ σ s) (eo : sget σ k = some o) (ea : ρ[k]? = some a) (hs : ∀ b o, b ≠ a → s.heap.get? b = some o → h'.get? b = some o) (hr : HR prog w ι ρ h' a o) :
    SR prog w ι h₀ os₀ ρ σ { s with heap := h', toks := t } := by
  refine ⟨R.len, R.nd, R.new, fun j o1 e => ?_, fun b o1 e => hs b _ (fun q => ?_) (R.keep b o1 e), R.gens, R.os⟩
  · obtain ⟨b, h3, h4⟩ := R.obj j o1 e
    by_cases q : j = k
    · subst q
      rw [eo] at e; cases e
      exact ⟨a, ea, hr⟩
    · exact ⟨b, h3, h4.keeps prog w ι fun ob e' => hs b _ (fun q' => q (by subst q'; exact R.nd j k o1 o b e eo h3 ea)) e'⟩
  · subst q
    rw [R.new k o b eo ea] at e
    cases e
theorem SR.slots {h' : Heap} {t : Nat} {S : List Addr} (R : SR prog w ι h₀ os₀ ρ σ s) (hS : ∀ a ∈ S, ∃ j es, sget σ j = some (.nsp es) ∧ ρ[j]? = some a) (x : Heap.SlotsOnly S s.heap h') :
    SR prog w ι h₀ os₀ ρ σ { s with heap := h', toks := t } := by
  refine ⟨R.len, R.nd, R.new, fun k o e => ?_, fun b o e => ?_, R.gens, R.os⟩
  · obtain ⟨a, h1, h2⟩ := R.obj k o e
    refine ⟨a, h1, ?_⟩
    by_cases q : a ∈ S
    · obtain ⟨j, es, hj, ea⟩ := hS a q
      have : k = j := R.nd k j o _ a e hj h1 ea
      subst this
      rw [hj] at e; cases e
      obtain ⟨m, ⟨ob, des, ep, e1, e2, e3, e4⟩, hm⟩ := h2
      obtain ⟨sl, e5⟩ := x.2.2 a ob e1
      exact ⟨m, ⟨_, des, ep, e5, e2, e3, e4⟩, hm⟩
    · exact h2.keeps prog w ι fun ob e' => (x.2.1 a q).trans e'
  · have hb : b ∉ S := fun q => by
      obtain ⟨j, es, hj, ea⟩ := hS b q
      rw [R.new j _ b hj ea] at e
      cases e
    exact (x.2.1 b hb).trans (R.keep b o e)
theorem frms_wild : ∀ {fs : List Nat}, frms σ fs = true → ¬ 100000 ∈ fs
  | [], _, h => by cases h
  | k :: fs, hr, h => by
    unfold frms at hr
    split at hr
    · rename_i es hw he
      cases h with
      | head => cases hw
      | tail _ h => exact frms_wild hr h
    · cases hr
theorem frames_all (R : SR prog w ι h₀ os₀ ρ σ s) : ∀ {fs : List Nat} {l : List Env}, All2 (fun k (e : Env) => e.scope.kind = .function ∧ ∃ L, ρ[k]? = some L ∧ e.frame = some L) fs l → frms σ fs = true →
    s.heap.FunFrames h₀ l ∧ ∀ a ∈ l.filterMap (·.frame), ∃ j es, sget σ j = some (.nsp es) ∧ ρ[j]? = some a
  | [], [], _, _ => ⟨trivial, fun a h => by cases h⟩
  | k :: fs, e :: l, hf, hr => by
    obtain ⟨⟨hk, L, hL, hfr⟩, hf⟩ := hf
    unfold frms at hr
    split at hr
    · rename_i es hw he
      obtain ⟨i1, i2⟩ := frames_all R hf hr
      obtain ⟨m, ⟨ob, des, ep, e1, e2, e3, e4⟩, hm⟩ := frame_of R he hL
      refine ⟨⟨by rw [hk]; decide, ⟨L, ob, hfr, R.new _ _ _ he hL, e1, fun vs q => by rw [e2] at q; cases q⟩, i1⟩, fun a ha => ?_⟩
      rw [List.filterMap_cons, hfr] at ha
      rcases List.mem_cons.mp ha with q | q
      · subst q; exact ⟨k, es, he, hL⟩
      · exact i2 a q
    · cases hr
  | [], _ :: _, hf, _ => hf.elim
  | _ :: _, [], hf, _ => hf.elim
theorem frames_fun (R : SR prog w ι h₀ os₀ ρ σ s) {fs : List Nat} {l : List Env} (hf : FrL ρ fs l) (hr : frms σ fs = true) :
    s.heap.FunFrames h₀ l ∧ ∀ a ∈ l.filterMap (·.frame), ∃ j es, sget σ j = some (.nsp es) ∧ ρ[j]? = some a := by
  rcases hf with h | h
  · exact (frms_wild hr h).elim
  · exact frames_all R h hr
theorem lv2 {k : Nat} {a : Addr} {Q : Unit → Shared → Prop} {E : Value → Shared → Prop} (C : CE ρ c env A) (R : SR prog w ι h₀ os₀ ρ σ s) (hfr : frms σ (c.fr :: c.fs) = true) (hx : isExc σ k = true) (hk : ρ[k]? = some a) (fly : Fly h₀ ρ σ a s)
    (hQ : ∀ s', SR prog w ι h₀ os₀ ρ σ s' → Fly h₀ ρ σ a s' → Q () s') : wpAny (model prog w) A (noteFrame (.ref a) env) (fun _ s' => wpAny (model prog w) A (setFlight (.ref a) none) Q E s') E s := by
  obtain ⟨name, L, af, cd, rfl, hL⟩ := C.en
  obtain ⟨l, hl, hfl⟩ := C.fr
  have hFL : FrL ρ (c.fr :: c.fs) (envOf name c.sc L af cd :: l) := hfl.imp (fun h => .tail _ h) fun z => ⟨⟨C.kind, L, hL, rfl⟩, z⟩
  obtain ⟨ob, vs, ho, hd, hT⟩ := fly
  unfold isExc at hx
  split at hx
  · rename_i C' dd hs
    obtain ⟨a', ea, od, vs', ho', hdd, hz⟩ := R.obj _ _ hs
    rw [hk] at ea; cases ea
    rw [ho] at ho'; cases ho'
    cases hd
    have hsz : 1 < vs.size := by omega
    unfold noteFrame
    have rest : ∀ (s₁ : Shared) (head : Value) (hn : Bool), SR prog w ι h₀ os₀ ρ σ s₁ → s₁.heap.get? a = some ⟨.ref C', od, .fields vs, #[]⟩ →
        (∀ s', SR prog w ι h₀ os₀ ρ σ s' → Fly h₀ ρ σ a s' → Q () s') →
        wpAny (model prog w) A (do let a' ← frameOf (envOf name c.sc L af cd); let pl ← entryPlaceOf L hn; let b ← EntryCells.newEntry head a' .none (rawInt L) .none pl; setField (.ref a) 1 b) (fun _ s' => wpAny (model prog w) A (setFlight (.ref a) none) Q E s') E s₁ := by
      intro s₁ head hn R₁ ho₁ hQ
      obtain ⟨F1, F2⟩ := frames_fun R₁ hFL hfr
      refine wpAny_bind (wpAny_frameOf_fun hl F1 rfl fun h₁ hs₁ => ?_)
      have R₂ := R₁.slots (t := s₁.toks) F2 hs₁
      have hna : a ∉ (envOf name c.sc L af cd :: l).filterMap (·.frame) := fun hm => by
        obtain ⟨j, es, hj, ej⟩ := F2 a hm
        have := R.nd j k _ _ a hj hs ej hk
        subst this
        rw [hs] at hj; cases hj
      have ho₂ : h₁.get? a = some ⟨.ref C', od, .fields vs, #[]⟩ := (hs₁.2.1 a hna).trans ho₁
      refine wpAny_bind (wpAny_entryPlaceOf fun pl hpl => ?_)
      unfold EntryCells.newEntry newFields
      refine wpAny_bind (wpAny_newObj_type ?_ (hpl.sizeOk5 _ _ _ _ _))
      have he₂ := Heap.get?_push_of_some (h := h₁) { cls := .type "traceback", dict := none, data := .fields ([head, .ref L, .none, rawInt L, .none] ++ (if pl.isEmpty then List.replicate 6 Value.none else pl)).toArray } ho₂
      refine wpAny_setField he₂ rfl (by omega) ?_
      have hTe : h₁.objs.size ≠ a := Nat.ne_of_gt (Heap.lt_size ho₂)
      have hd₃ := Obj.data_mapFields (o := (⟨.ref C', od, .fields vs, #[]⟩ : Obj)) rfl (·.setIfInBounds 1 (Value.ref h₁.objs.size))
      have he₃ := Heap.get?_update_self (Obj.mapFields (·.setIfInBounds 1 (Value.ref h₁.objs.size))) he₂ (Obj.isFreed_of_fields hd₃)
      have hT₃ := (Heap.get?_update_other (h₁.push { cls := .type "traceback", dict := none, data := .fields ([head, .ref L, .none, rawInt L, .none] ++ (if pl.isEmpty then List.replicate 6 Value.none else pl)).toArray })
        (Obj.mapFields (·.setIfInBounds 1 (Value.ref h₁.objs.size))) (Ne.symm hTe)).trans (Heap.get?_push_size h₁ rfl)
      unfold setFlight
      refine wpAny_bind (wpAny_field he₃ hd₃ (x := .ref h₁.objs.size) (by simp [hsz]) ?_)
      rw [if_pos (show (Value.ref h₁.objs.size != Value.none) = true from by simp)]
      refine wpAny_setField hT₃ rfl (by simp only [List.size_toArray, List.length_append, List.length_cons, List.length_nil] <;> omega) ?_
      have unkT : ∀ k o, sget σ k = some o → ρ[k]? ≠ some h₁.objs.size := fun k o e q => by
        obtain ⟨x, e1, e2⟩ := R₂.obj k o e
        rw [q] at e1; cases e1
        obtain ⟨ob, e3⟩ := e2.ex prog w ι
        exact Nat.lt_irrefl _ (Heap.lt_size e3)
      have hT₀ : h₀.get? h₁.objs.size = none := by
        cases q : h₀.get? h₁.objs.size with
        | none => rfl
        | some o => exact (Nat.lt_irrefl _ (Heap.lt_size (R₂.keep _ _ q))).elim
      have R₃ := R₂.ext (t := s₁.toks) fun b o e => Heap.get?_push_of_some { cls := .type "traceback", dict := none, data := .fields ([head, .ref L, .none, rawInt L, .none] ++ (if pl.isEmpty then List.replicate 6 Value.none else pl)).toArray } e
      have R₄ := R₃.same (t := s₁.toks) hs hk (sb (Heap.SameBut.update ..)) ⟨od, vs.setIfInBounds 1 (Value.ref h₁.objs.size), he₃, hdd, by simpa using hz.1, fun e => (by cases e)⟩
      have R₅ := R₄.unk (t := s₁.toks) unkT hT₀ (sb (Heap.SameBut.update (f := Obj.mapFields (·.setIfInBounds 3 ((none : Option Addr).elim Value.none fun f => rawInt f))) ..))
      refine hQ _ R₅ ⟨_, vs.setIfInBounds 1 (Value.ref h₁.objs.size), (Heap.get?_update_other _ _ hTe).trans he₃, rfl, .inr ⟨h₁.objs.size, _, _, by simp [hsz], unkT, hT₀, Heap.get?_update_self _ hT₃ rfl, rfl, ?_⟩⟩
      simp
    refine wpAny_bind ?_
    rcases hT with h1 | ⟨T', oT, ts, h1, hu, hT₀, hoT, hdT, h3⟩
    · refine wpAny_field ho rfl h1 ?_
      exact rest s .none _ R ho hQ
    · refine wpAny_field ho rfl h1 ?_
      refine wpAny_bind (wpAny_field hoT hdT h3 ?_)
      rw [if_neg (by simp [rawInt])]
      refine wpAny_bind (wpAny_setField hoT hdT (Array.getElem?_eq_some_iff.mp h3).1 ?_)
      have hTa : T' ≠ a := fun q => hu k _ hs (q ▸ hk)
      exact rest _ (.ref T') _ (R.unk (t := s.toks) hu hT₀ (sb (Heap.SameBut.update ..))) ((Heap.get?_update_other _ _ hTa).trans ho) hQ
  · cases hx
theorem lv : LV prog w ι h₀ os₀ := by
  intro c σ ρ s env A k a Q E C R hfr hx hk fly hQ
  unfold leaving
  exact wpAny_bind (lv2 C R hfr hx hk fly hQ)
end
end Mine
end
noncomputable section
open PySem PySem.W PyProof.Rows PySem.Calls
set_option maxRecDepth 100000
namespace Mine
section
variable {prog : Program} {w : World} {ι : Nat → Int} {h₀ : Heap} {os₀ : OsState} {T : Tab} {K : Frag} {I : IH} {c : Cx} {σ : St} {ρ : List Addr} {s : Shared} {env : Env} {A : Around}
theorem raise_own {M : Model} {E : Value → Shared → Prop} {x : Sem Value} {Q : Flow → Shared → Prop} (hh : A.handled = none)
    (h : wpAny M A x (fun v s₁ => ∃ e od vs C nm q N bs bm hdct sn sub ab col dd k0 k1 k2 k3 k5 newId, v = .ref e ∧ bm.contains (.type "BaseException") = true ∧ s₁.heap.get? C = some (excClassObj nm q C N bs bm hdct sn sub ab col dd k0 k1 k2 k3 k5 newId) ∧
      s₁.heap.get? e = some ⟨.ref C, od, .fields vs, #[]⟩ ∧ vs[1]? = some .none ∧ E (.ref e) s₁) E s) :
    wpAny M A (raiseStmt env (some x) none) Q E s := by
  unfold raiseStmt
  refine wpAny_bind (wpAny_mono h (fun v s₁ h₁ => ?_) fun _ _ x => x)
  obtain ⟨e, od, vs, C, nm, q, N, bs, bm, hdct, sn, sub, ab, col, dd, k0, k1, k2, k3, k5, newId, rfl, hbase, hC, he, h1, hE⟩ := h₁
  have hcB : (Value.ref C :: bm).contains (.type "BaseException") = true := by rw [List.contains_cons, hbase, Bool.or_true]
  obtain ⟨hp, g, d, tk, os⟩ := s₁
  repeat (first | with_reducible refine wpAny_loadPart_at he ?_ | with_reducible refine wpAny_loadPart_at hC ?_ | (with_reducible refine wpAny_isSubtype_exc hC ?_; rw [hcB]) | with_reducible refine wpAny_field he rfl h1 ?_ | wp_step)
  exact wpAny_raiseNew_none hh hE
theorem raise_sp (H : Snd prog w ι h₀ os₀ I) (G : GF prog w ι h₀ T K) (GE' : GE K h₀ T) (C : CE ρ c env A) (R : SR prog w ι h₀ os₀ ρ σ s) (hd : c.hd = false) (e : Expr) (p : Pos) :
    Sp prog w ι h₀ os₀ A (exec (.Raise (some e) none p) env) (FR ι) (obind (I.ev c e σ) fun v σ => (match v with
        | .ow j => (match sget σ j with
          | some (.exc C d true) => (match T.cl C with | some ⟨some _, true⟩ => [.ex j (sset σ j (.exc C d false))] | _ => noo)
          | _ => noo)
        | _ => noo)) ρ s := by
  intro Q E Z
  rw [arm_exec_Raise]
  refine wpAny_bind (wpAny_standAt ?_)
  show wpAny (model prog w) A (raiseStmt env (some (eval e env >>= fun v => standAt p >>= fun _ => pure v)) none) Q E s
  refine raise_own (C.hd hd) (wpAny_bind ((H.ev C R).seqQ Z fun v σ' _ ρ' s' x L R' hx Z' => wpAny_bind (wpAny_standAt (wpAny_pure ?_))))
  split at Z'
  · rename_i j _
    split at Z'
    · rename_i C' d hj
      split at Z'
      · rename_i fI hC
        have XX := GE'.xf C' fI hC
        obtain ⟨nm, q, N, bs, bm, hdct, sn, sub, ab, col, dd, k0, k1, k2, k3, k5, ho, hE, hA, hN, hB⟩ := XX.obj
        obtain ⟨a, ea, rfl, od, vs, hx, hdd, hz, h1⟩ := R'.ref hj hx
        have h1 := h1 rfl
        have R2 := R'.upd (h' := s'.heap) (t := s'.toks) (o' := .exc C' d false) hj ea (fun _ _ _ e => e) ⟨od, vs, hx, hdd, hz, fun e => by cases e⟩
        exact ⟨a, od, vs, C', nm, q, N, bs, bm, hdct, sn, sub, ab, col, dd, k0, k1, k2, k3, k5, _, rfl, hB, R'.keep _ _ ho, hx, h1, Z' _ (.head _) ρ' s' a (Le.refl _) R2 ea ⟨_, vs, hx, rfl, .inl h1⟩⟩
      · exact (Z' .no (.head _)).elim
    · exact (Z' .no (.head _)).elim
  · exact (Z' .no (.head _)).elim
end
end Mine
end
noncomputable section
open PySem PySem.W PyProof.Rows PySem.Calls
set_option maxRecDepth 100000
namespace Mine
section
variable {prog : Program} {w : World} {ι : Nat → Int} {h₀ : Heap} {os₀ : OsState} {T : Tab} {K : Frag} {I : IH} {c : Cx} {σ : St} {ρ : List Addr} {s : Shared} {env : Env} {A : Around}
theorem tryA_ok {P : Out AFl → Prop} {h : Nat → St → List (Out AFl)} : ∀ {l : List (Out AFl)}, (∀ o ∈ tryA h l, P o) → P .no ∨ ((∀ a σ, .ok a σ ∈ l → P (.ok a σ)) ∧ (∀ k σ, .ex k σ ∈ l → ∀ o ∈ h k σ, P o) ∧ .no ∉ l)
  | [], _ => .inr ⟨fun _ _ h => (nomatch h), fun _ _ h => (nomatch h), fun h => (nomatch h)⟩
  | .ok a σ :: r, h => by
    rcases tryA_ok (l := r) fun o m => h o (.tail _ m) with q | ⟨q1, q2, q3⟩
    · exact .inl q
    · refine .inr ⟨fun b τ m => ?_, fun k τ m => ?_, fun m => ?_⟩
      · cases m with
        | head => exact h _ (.head _)
        | tail _ m => exact q1 b τ m
      · cases m with
        | tail _ m => exact q2 k τ m
      · cases m with | tail _ m => exact q3 m
  | .ex k σ :: r, h => by
    rcases tryA_ok (l := r) fun o m => h o (List.mem_append_right _ m) with q | ⟨q1, q2, q3⟩
    · exact .inl q
    · refine .inr ⟨fun b τ m => ?_, fun k' τ m => ?_, fun m => ?_⟩
      · cases m with
        | tail _ m => exact q1 b τ m
      · cases m with
        | head => exact fun o m => h o (List.mem_append_left _ m)
        | tail _ m => exact q2 k' τ m
      · cases m with | tail _ m => exact q3 m
  | .no :: r, h => .inl (h _ (.head _))
theorem suite_as {R : Result → Shared → Prop} {e : Value} {n : Str} {b₀ : Stmt} {body : List Stmt} {pos : Pos}
    (h : wpAny (model prog w) A (setFlight e none) (fun _ s₁ => wpAny (model prog w) A (storeName env n e) (fun _ s₂ => wpAny (model prog w) A (execs (b₀ :: body) env) (fun f s₃ => R (.ok f) s₃) (fun _ _ => False) s₂) (fun _ _ => False) s₁) (fun _ _ => False) s) :
    codeAny (model prog w) A (.handlers e [.ExceptHandler none (some n) (b₀ :: body) pos] env) R s := by
  refine codeAny_of_tree ?_
  show wpAny _ A (do return Fin.done (← (handleWith e env [.ExceptHandler none (some n) (b₀ :: body) pos]).onRaise (fun x => do noteFrame x env; theTreesLotGoes x))) _ _ s
  refine wpAny_bind (wpAny_noted ?_)
  unfold handleWith
  refine wpAny_bind (wpAny_standAt (wpAny_bind (wpAny_mono h (fun _ s₁ h₁ => wpAny_bind (wpAny_bindName (wpAny_mono h₁ (fun _ s₂ h₂ => ?_) fun _ _ x => x.elim))) fun _ _ x => x.elim)))
  exact wpAny_bind (wpAny_attempt (wpAny_mono h₂ (fun f s₃ h₃ => wpAny_pure (wpAny_pure h₃)) fun _ _ x => x.elim))
theorem look_drp {n : Str} : ∀ {es : List (Str × AV)} {x : Str} {v : AV}, look (drp n es) x = some v → x ≠ n ∧ look es x = some v
  | [], x, v, h => by cases h
  | p :: r, x, v, h => by
    unfold drp at h
    split at h
    · rename_i hp
      have hp := seq_true hp
      obtain ⟨h1, h2⟩ := look_drp h
      refine ⟨h1, ?_⟩
      unfold look
      have : seq p.1 x = false := by
        cases q : seq p.1 x with
        | false => rfl
        | true => exact (h1 ((seq_true q).symm.trans hp)).elim
      rw [this]
      exact h2
    · rename_i hp
      have hp := seq_false hp
      unfold look at h ⊢
      split at h
      · rename_i hx
        have hx := seq_true hx
        exact ⟨fun e => hp (hx.trans e), h⟩
      · exact look_drp h
theorem FR.le {ρ ρ' : List Addr} (L : Le ρ ρ') {fl : AFl} {f : Flow} (h : FR ι ρ fl f) : FR ι ρ' fl f := by
  cases fl with
  | rt v => obtain ⟨u, e, r⟩ := h; exact ⟨u, e, r.le ι L⟩
  | _ => exact h
theorem unbind_sp (C : CE ρ c env A) (R : SR prog w ι h₀ os₀ ρ σ s) (n : Str) {fl : AFl} {f : Flow} (pos : Pos) {Q : Flow → Shared → Prop} {E : Value → Shared → Prop}
    (Z : ∀ o ∈ unbind c n fl σ, Post prog w ι h₀ os₀ (FR ι) ρ Q (fun _ _ => False) o) (hf : FR ι ρ fl f) :
    wpAny (model prog w) A (do bindName env n .none; unbindBehindTheSuite env n pos) (fun _ s' => Q f s') E s := by
  have hk := kindA_look c.sc n
  unfold unbind at Z
  have C' := C
  obtain ⟨name, L, a, cd, rfl, hL⟩ := C.en
  have sp := store_sp (A := A) C' R (v := .nn) (u := .none) n rfl
  have key : ∀ σ', .ok () σ' ∈ storeN c n .nn σ → c.sc.names.lookup n = some .local := by
    intro σ' h
    unfold storeN at h
    rw [hk] at h
    split at h
    · rename_i hkk; exact hkk
    · exact absurd h (by simp [noo])
  refine wpAny_mono (wpAny_bind (wpAny_bindName (sp.seqQ Z fun u σ' ho ρ' s' x L' R' _ Z' => ?_))) (fun _ _ x => x) (fun _ _ x => x.elim)
  have hloc := key σ' ho
  split at Z'
  · rename_i es he
    split at Z'
    · rename_i v hv
      obtain ⟨m, hn, hm⟩ := frame_of R' he (L'.get hL)
      obtain ⟨u', hu, _⟩ := hm n v hv
      unfold unbindBehindTheSuite
      refine wpAny_onRaise (wpAny_unbindName_local hloc hn hu (by show (c.sc.kind == .class || (c.sc.kind == .module && L != mainGlobals)) = false; rw [C'.kind]; rfl) fun h' u₁ hn' hs' => ?_)
      refine Z' _ (.head _) ρ' _ f (Le.refl _) (R'.upd (t := s'.toks) (o' := .nsp (drp n es)) he (L'.get hL) (sb hs') ⟨_, hn', fun y z e => ?_⟩) (hf.le L')
      obtain ⟨h1, h2⟩ := look_drp e
      obtain ⟨u₂, h3, h4⟩ := hm y z h2
      exact ⟨u₂, by rw [if_neg h1]; exact h3, h4⟩
    · exact (Z' .no (.head _)).elim
  · exact (Z' .no (.head _)).elim
theorem CE.mark {e : Value} (C : CE ρ c env A) : CE ρ { c with hd := true } env (A.mark (some e)) :=
  ⟨C.en, C.kind, C.fr, C.depth, C.units, fun h => (by cases h), C.dl⟩
theorem name_same (G : GF prog w ι h₀ T K) (C : CE ρ c env A) (R : SR prog w ι h₀ os₀ ρ σ s) (x : Str) (pos : Pos) {β : Type} {g : AV → St → List (Out β)} {P : Out β → Prop} {Q : Value → Shared → Prop} {E : Value → Shared → Prop} (hno : ¬ P .no)
    (Z : ∀ o ∈ obind (loadN T c x σ) g, P o) (k : ∀ v u, VR ι ρ v u → (∀ o ∈ g v σ, P o) → Q u s) : wpAny (model prog w) A (eval (.Name x pos) env) Q E s := by
  have one : ∀ {v : AV}, (∀ o ∈ obind (okk v σ) g, P o) → ∀ o ∈ g v σ, P o := fun h o ho => h o ho
  have no : (∀ o ∈ obind (noo : List (Out AV)) g, P o) → False := fun h => hno (h .no (.head _))
  obtain ⟨name, L, a, cd, rfl, hL⟩ := C.en
  unfold loadN at Z
  split at Z
  · exact (no Z).elim
  · rename_i hd
    have hd := debug_ne hd
    rw [kindA_look] at Z
    split at Z
    · rename_i hk
      split at Z
      · rename_i es he
        obtain ⟨m, hn, hm⟩ := frame_of R he hL
        split at Z
        · rename_i v hv
          obtain ⟨u, hu, hr⟩ := hm x v hv
          exact wpAny_Name (wpAny_loadName_local C.kind hk hn hu (k v u hr (one Z))) hd
        · exact (no Z).elim
      · exact (no Z).elim
    · rename_i hk
      split at Z
      · rename_i v hv
        obtain ⟨mg, mb, g1, g2, g3, g4⟩ := G.glob
        exact Name_function_global C.kind hk (loadGlobal_global (env := envOf name c.sc L a cd) (g1.keeps R.keep) (g3 x v hv) (k (.cv v) v rfl (one Z))) hd
      · exact (no Z).elim
    · exact (no Z).elim
theorem flight_sp (R : SR prog w ι h₀ os₀ ρ σ s) {a : Addr} (fly : Fly h₀ ρ σ a s) {Q : Unit → Shared → Prop} {E : Value → Shared → Prop} (h : ∀ s', SR prog w ι h₀ os₀ ρ σ s' → Q () s') : wpAny (model prog w) A (setFlight (.ref a) none) Q E s := by
  obtain ⟨ob, vs, ho, hd, hT⟩ := fly
  unfold setFlight
  rcases hT with h1 | ⟨T', oT, ts, h1, hu, hT₀, hoT, hdT, h3⟩
  · refine wpAny_bind (wpAny_field ho hd h1 ?_)
    rw [if_neg (by decide)]
    exact wpAny_pure (h s R)
  · refine wpAny_bind (wpAny_field ho hd h1 ?_)
    rw [if_pos (show (Value.ref T' != Value.none) = true from by simp)]
    exact wpAny_setField hoT hdT (Array.getElem?_eq_some_iff.mp h3).1 (h _ (R.unk (t := s.toks) hu hT₀ (sb (Heap.SameBut.update ..))))
theorem try_sp (H : Snd prog w ι h₀ os₀ I) (G : GF prog w ι h₀ T K) (GE' : GE K h₀ T) (C : CE ρ c env A) (R : SR prog w ι h₀ os₀ ρ σ s) (b : List Stmt) (k n : Str) (hb : List Stmt) {kp hp p : Pos} :
    Sp prog w ι h₀ os₀ A (exec (.Try b [.ExceptHandler (some (.Name k kp)) (some n) hb hp] [] [] p) env) (FR ι) (tryA (handle T I c k n hb) (I.ex c b σ)) ρ s := by
  intro Q E Z
  rcases tryA_ok Z with q | ⟨q1, q2, q3⟩
  · exact q.elim
  refine wpAny_Try_except (H.ex C R _ _ fun o ho => ?_)
  cases o with
  | ok fl σ' =>
    intro ρ' s' f L R' hf
    have z := q1 fl σ' ho ρ' s' f L R' hf
    cases fl with
    | nx => cases hf; exact wpAny_execs_nil z
    | rt v => obtain ⟨u, rfl, hu⟩ := hf; exact z
    | bk => cases hf; exact z
    | ct => cases hf; exact z
  | no => exact (q3 ho).elim
  | ex j σ' =>
    intro ρ' s' a L R' ha fly
    have Z1 := fun o m => (q2 j σ' ho o m).le L
    unfold handle at Z1
    split at Z1
    · rename_i b₀ suite hfx
      rw [Bool.and_eq_true] at hfx
      have C1 := C.le L
      refine lv2 C1 R' hfx.1 hfx.2 ha fly fun s2 R2 fly2 => ?_
      have Z2 := noex_post Z1 (fun _ _ => False)
      refine wpAny_handleBy_cons (codeAny_handlers_test (name_same G (C1.mark (e := .ref a)) R2 k kp (P := Post prog w ι h₀ os₀ (FR ι) ρ' Q (fun _ _ => False)) (fun h => h) Z2 fun kv x hx Z3 => ?_)) (by intro q; cases q)
      split at Z3
      · rename_i C' Cx dx fx hj
        cases hx
        split at Z3
        · rename_i i hbe hC
          have := Nat.eq_of_beq_eq_true hbe
          subst this
          have X := G.kin.keeps R2.keep
          obtain ⟨a', ea, od, vs, hxa, hdd, hz, h1⟩ := R2.obj _ _ hj
          rw [ha] at ea; cases ea
          have LT : Looks (model prog w) s2.heap (typeOf (.ref a)) (.ref Cx) := (Looks.ld hxa).andThen .now
          refine (exm_one X LT (GE'.em Cx i hC)).here ?_
          refine suite_as (flight_sp R2 fly2 fun s4 R4 => ?_)
          have C2 := C1.mark (e := .ref a)
          refine (store_sp C2 R4 n (v := .ow j) (u := .ref a) ⟨a, ha, rfl⟩).seqQ Z3 fun u σ5 _ ρ5 s5 x5 L5 R5 _ Z5 => ?_
          refine (H.ex (C2.le L5) R5).seqQ Z5 fun fl σ6 _ ρ6 s6 f L6 R6 hf Z6 => ?_
          exact unbind_sp (C1.le (L5.trans L6)) R6 n hp Z6 hf
        · exact (Z3 .no (.head _)).elim
      · exact (Z3 .no (.head _)).elim
    · exact (Z1 .no (.head _)).elim
end
end Mine
end
noncomputable section
open PySem PySem.W PyProof.Rows PySem.Calls
set_option maxRecDepth 100000
namespace Mine
section
variable {prog : Program} {w : World} {ι : Nat → Int} {h₀ : Heap} {os₀ : OsState} {T : Tab} {K : Frag} {I : IH} {c : Cx} {σ : St} {ρ : List Addr} {s : Shared} {env : Env} {A : Around}
theorem obind_app {α β : Type} {g : α → St → List (Out β)} {o : Out β} : ∀ {X Y : List (Out α)}, o ∈ obind (X ++ Y) g → o ∈ obind X g ∨ o ∈ obind Y g
  | [], Y, h => .inr h
  | .ok a σ :: X, Y, h => by
    rw [List.cons_append, obind_okk] at h
    rw [obind_okk]
    rcases List.mem_append.mp h with q | q
    · exact .inl (List.mem_append_left _ q)
    · rcases obind_app q with q | q
      · exact .inl (List.mem_append_right _ q)
      · exact .inr q
  | .ex k σ :: X, Y, h => by
    have h : o ∈ .ex k σ :: obind (X ++ Y) g := h
    cases h with
    | head => exact .inl (.head _)
    | tail _ q => rcases obind_app q with q | q
                  · exact .inl (.tail _ q)
                  · exact .inr q
  | .no :: X, Y, h => .inl h
theorem obind_as {α β γ : Type} {f : α → St → List (Out β)} {g : β → St → List (Out γ)} {o : Out γ} : ∀ {l : List (Out α)}, o ∈ obind (obind l f) g → o ∈ obind l fun a σ => obind (f a σ) g
  | [], h => h
  | .ok a σ :: r, h => by
    rw [obind_okk] at h ⊢
    rcases obind_app (X := f a σ) (Y := obind r f) h with q | q
    · exact List.mem_append_left _ q
    · exact List.mem_append_right _ (obind_as q)
  | .ex k σ :: r, h => by
    have h : o ∈ .ex k σ :: obind (obind r f) g := h
    cases h with
    | head => exact .head _
    | tail _ q => exact .tail _ (obind_as q)
  | .no :: r, h => h
theorem obind_mono {α β : Type} {f g : α → St → List (Out β)} (h : ∀ a σ o, o ∈ f a σ → o ∈ g a σ) {o : Out β} : ∀ {l : List (Out α)}, o ∈ obind l f → o ∈ obind l g
  | [], m => m
  | .ok a σ :: r, m => by
    rw [obind_okk] at m ⊢
    rcases List.mem_append.mp m with q | q
    · exact List.mem_append_left _ (h _ _ _ q)
    · exact List.mem_append_right _ (obind_mono h q)
  | .ex k σ :: r, m => by
    have m : o ∈ .ex k σ :: obind r f := m
    cases m with
    | head => exact .head _
    | tail _ q => exact .tail _ (obind_mono h q)
  | .no :: r, m => m
theorem Sp.sub {α β : Type} {t : Sem β} {RA : List Addr → α → β → Prop} {l l' : List (Out α)} (h : Sp prog w ι h₀ os₀ A t RA l ρ s) (k : ∀ o ∈ l, o ∈ l') : Sp prog w ι h₀ os₀ A t RA l' ρ s :=
  fun Q E Z => h Q E fun o ho => Z o (k o ho)
theorem exS_sp (H : Snd prog w ι h₀ os₀ I) (G : GF prog w ι h₀ T K) (GE' : GE K h₀ T) (C : CE ρ c env A) (R : SR prog w ι h₀ os₀ ρ σ s) (st : Stmt) : Sp prog w ι h₀ os₀ A (exec st env) (FR ι) (exS T I c st σ) ρ s := by
  cases st with
  | Expr v p =>
    have e : exS T I c (.Expr v p) σ = (match isComp v with
      | true => noo
      | false => obind (I.ev c v σ) fun _ σ => okk .nx σ) := rfl
    rw [e]
    split
    · exact Sp.no
    · rename_i hc; exact expr_sp H C R hc
  | Pass p => exact pass_sp R p
  | Return v p => exact ret_sp H C R v p
  | If t b o p => exact if_sp H G C R t b o p
  | While t b o p =>
    cases o with
    | nil => exact while_sp H G C R t b p
    | cons => exact Sp.no
  | For t it b o p =>
    cases o with
    | cons => exact Sp.no
    | nil =>
      cases hd : c.hd with
      | true =>
        have e : exS T I c (.For t it b [] p) σ = noo := by
          show (match ([] : List Stmt), c.hd with | [], false => _ | _, _ => noo) = _
          rw [hd]
        rw [e]; exact Sp.no
      | false =>
        have e0 : exS T I c (.For t it b [] p) σ = (match it with
          | .Call f [e] [] _ => (match f with
            | .Name r _ => (match isB T c r "range" && !star e with
              | true => obind (I.ev c e σ) fun v σ => (match v with
                | .ii (.ofNat n) => (match Nat.blt n 1000 with
                  | true => noex (forR (I.ex c b) (storeT c t) σ.n n (spush σ (.rit 0 (Int.ofNat n))))
                  | false => noo)
                | _ => noo)
              | false => noo)
            | _ => noo)
          | .Name x p => obind (I.ev c (.Name x p) σ) fun v σ => (match v with
            | .ow j => (match sget σ j with | some (.lst xs) => noex (forL (I.ex c b) (storeT c t) σ.n 30 (spush σ (.lit j 0))) | _ => noo)
            | _ => noo)
          | _ => noo) := by
          show (match ([] : List Stmt), c.hd with | [], false => _ | _, _ => noo) = _
          rw [hd]
          try rfl
        rw [e0]
        split
        · split
          · split
            · rename_i hr
              rw [Bool.and_eq_true] at hr
              exact for_range_sp H G C R hr.1 (by simpa using hr.2) hd
            · exact Sp.no
          · exact Sp.no
        · exact for_list_sp H G C R hd
        · exact Sp.no
  | Raise e ca p =>
    cases e with
    | none => exact Sp.no
    | some e =>
      cases ca with
      | some => exact Sp.no
      | none =>
        have e0 : exS T I c (.Raise (some e) none p) σ = (match c.hd with
          | true => noo
          | false => obind (I.ev c e σ) fun v σ => (match v with
            | .ow j => (match sget σ j with
              | some (.exc C d true) => (match T.cl C with | some ⟨some _, true⟩ => [.ex j (sset σ j (.exc C d false))] | _ => noo)
              | _ => noo)
            | _ => noo)) := rfl
        rw [e0]
        split
        · exact Sp.no
        · rename_i hd; exact raise_sp H G GE' C R hd e p
  | Try b hs o f p =>
    have e0 : exS T I c (.Try b hs o f p) σ = (match hs, o, f with
      | [.ExceptHandler (some (.Name k _)) (some n) hb _], [], [] => (match c.hd with
        | true => noo
        | false => tryA (handle T I c k n hb) (I.ex c b σ))
      | _, _, _ => noo) := rfl
    rw [e0]
    split
    · split
      · exact Sp.no
      · exact try_sp H G GE' C R b _ _ _
    · exact Sp.no
  | Assign ts v p =>
    match ts with
    | [] => exact Sp.no
    | _ :: _ :: _ => exact Sp.no
    | [t] =>
      have e0 : exS T I c (.Assign [t] v p) σ = (match isComp v || badT t v with
        | true => noo
        | false => obind (I.ev c v σ) fun x σ => (match t with
          | .Attribute o n _ => obind (I.ev c o σ) fun ov σ => obind (setAttrA T ov n x σ) fun _ σ => okk .nx σ
          | .Subscript o i _ => obind (I.ev c o σ) fun ov σ => obind (I.ev c i σ) fun iv σ => obind (setItemA ov iv x σ) fun _ σ => okk .nx σ
          | t => obind (storeT c t x σ) fun _ σ => okk .nx σ)) := rfl
      rw [e0]
      split
      · exact Sp.no
      · rename_i hc
        rw [Bool.or_eq_false_iff] at hc
        obtain ⟨hc, hbad⟩ := hc
        cases t with
        | Attribute o n ap =>
          refine (assign1_sp H C R (t := .Attribute o n ap) (p := p) (g := fun x σ => obind (I.ev c o σ) fun ov σ => setAttrA T ov n x σ) hc rfl rfl fun C R hx => assign_attr_sp H G C R o n ap hx fun Cx j dd f R hv hi hj ho => by
            have := setX_sp (A := A) G GE' R n Cx j dd f hi hj ho hv
            cases dd <;> exact this).sub fun o' ho => ?_
          exact obind_mono (fun x σ o' h => obind_as h) ho
        | Subscript o i ap =>
          refine (assign1_sp H C R (t := .Subscript o i ap) (p := p) (g := fun x σ => obind (I.ev c o σ) fun ov σ => obind (I.ev c i σ) fun iv σ => setItemA ov iv x σ) hc rfl rfl fun C R hx => assign_sub_sp H C R o i ap hx).sub fun o' ho => ?_
          exact obind_mono (fun x σ o' h => obind_mono (fun ov σ o' h => obind_as h) (obind_as h)) ho
        | Tuple ts x1 tp =>
          show Sp prog w ι h₀ os₀ A _ (FR ι) (obind (I.ev c v σ) fun x σ => obind (storeT c (.Tuple ts x1 tp) x σ) fun _ σ => okk .nx σ) ρ s
          have hv : isTupE v = false := hbad
          intro Q E Z
          refine wpAny_Assign_stores ?_ (by show swapsWith v (some (.Tuple ts x1 tp)) p.line env = _; exact swap_none hc _ _) ?_
          · refine (H.ev C R).seqQ Z fun x σ' _ ρ' s' u L R' hx Z' => ?_
            rw [each_one rfl]
            show wpAny (model prog w) A (assign (.Tuple ts x1 tp) env u) _ _ _
            exact (storeT_sp (C.le L) R' (.Tuple ts x1 tp) hx).seqQ Z' fun a σ'' _ ρ'' s'' _ L' R'' _ Z'' => Z'' _ (.head _) ρ'' s'' _ (Le.refl _) R'' rfl
          · unfold swappedStores
            cases v <;> first | rfl | cases hv
        | List ts tp => cases hbad
        | Starred e tp => cases hbad
        | Name x np => exact assign1_sp H C R (t := .Name x np) (p := p) (g := fun y σ => storeT c (.Name x np) y σ) hc rfl rfl fun C R hx => storeT_sp C R _ hx
        | _ => exact assign1_sp H C R (p := p) (g := fun y σ => noo) hc rfl rfl fun C R hx => Sp.no
  | _ => exact Sp.no
end
end Mine
end
noncomputable section
open PySem PySem.W PyProof.Rows PySem.Calls
set_option maxRecDepth 100000
namespace Mine
noncomputable def TapOk (prog : Program) (w : World) (ι : Nat → Int) (h₀ : Heap) (os₀ : OsState) (T : Tab) : Prop :=
  ∀ {fs : List Nat} {dp : Nat} {hd : Bool} {a : Addr} {as : List AV} {vs : List Value} {σ : St} {ρ : List Addr} {s : Shared} {A : Around}, isTap T a = true → dp ≤ 40 → CC ρ fs dp hd A → SR prog w ι h₀ os₀ ρ σ s → All2 (VR ι ρ) as vs →
    Sc prog w ι h₀ os₀ A (.ref a) vs (VR ι) (tapR as σ) ρ s
section
variable {prog : Program} {w : World} {ι : Nat → Int} {h₀ : Heap} {os₀ : OsState} {T : Tab} {K : Frag} {I : IH} {c : Cx} {σ : St} {ρ : List Addr} {s : Shared} {env : Env} {A : Around}
theorem caF_sp (TO : TapOk prog w ι h₀ os₀ T) (H : Snd prog w ι h₀ os₀ I) (G : GF prog w ι h₀ T K) (GE' : GE K h₀ T) {fs : List Nat} {dp : Nat} {hd : Bool} {f : AV} {as : List AV} {fv : Value} {vs : List Value} (C : CC ρ fs dp hd A) (R : SR prog w ι h₀ os₀ ρ σ s) (hf : VR ι ρ f fv) (hv : All2 (VR ι ρ) as vs) :
    Sc prog w ι h₀ os₀ A fv vs (VR ι) (caF T I fs dp hd f as σ) ρ s := by
  unfold caF
  split
  · rename_i a
    cases hf
    split
    · exact Sc.no
    · rename_i hd40
      have hdp : dp ≤ 40 := by
        rcases Nat.lt_or_ge 40 dp with h | h
        · have : Nat.blt 40 dp = true := Nat.ble_eq_true_of_le h
          rw [this] at hd40; cases hd40
        · exact h
      split
      · rename_i ht
        exact TO ht hdp C R hv
      · split
        · rename_i fi hfi
          exact callF_sp lv H G hfi hdp C R hv
        · split
          · rename_i fI hC
            exact mkIns_sp H G GE'.mki hC hdp C R hv
          · rename_i fI hC
            split
            · rename_i hl
              exact mkExc_sp H G GE' hC hdp (Nat.le_of_ble_eq_true hl) C R hv
            · exact Sc.no
          · exact Sc.no
  · exact Sc.no
theorem run_snd (TO : TapOk prog w ι h₀ os₀ T) (G : GF prog w ι h₀ T K) (GE' : GE K h₀ T) : ∀ n, Snd prog w ι h₀ os₀ (run T n)
  | 0 => ⟨fun _ _ => Sp.no, fun _ _ => Sp.no, fun _ _ _ _ => Sc.no⟩
  | n + 1 => by
    have H := run_snd TO G GE' n
    exact ⟨fun {c e} {σ ρ s env A} C R => evE_sp H G GE' C R e, fun {c b} {σ ρ s env A} C R => exL_sp (fun st {σ ρ s} C R => exS_sp H G GE' C R st) b C R, fun C R hf hv => caF_sp TO H G GE' C R hf hv⟩
end
end Mine
end
noncomputable section
open PySem PySem.W PyProof.Rows PySem.Calls
set_option maxRecDepth 100000
namespace Mine
theorem zip_look : ∀ {ns : List Str} {vs : List Value}, ns.Nodup → ns.length = vs.length → ns.map (fun n => (ns.zip vs).lookup n) = vs.map some
  | [], [], _, _ => rfl
  | n :: ns, v :: vs, h, hl => by
    obtain ⟨h1, h2⟩ := List.nodup_cons.mp h
    have ih := zip_look (ns := ns) (vs := vs) h2 (by simpa using hl)
    rw [List.zip_cons_cons, List.map_cons, List.map_cons]
    congr 1
    · simp [List.lookup]
    · rw [← ih]
      refine List.map_congr_left fun m hm => ?_
      have : (m == n) = false := beq_eq_false_iff_ne.mpr fun e => h1 (e ▸ hm)
      rw [List.lookup, this]
  | [], _ :: _, _, hl => by simp at hl
  | _ :: _, [], _, hl => by simp at hl
theorem filter_none {ns : List Str} {vs : List Value} {f : Str → Option Value} (h : ns.map f = vs.map some) : ns.filter (fun n => (f n).isNone) = [] := by
  induction ns generalizing vs with
  | nil => rfl
  | cons n ns ih =>
    cases vs with
    | nil => simp at h
    | cons v vs =>
      simp only [List.map_cons, List.cons.injEq] at h
      rw [List.filter_cons, h.1]
      simpa using ih h.2
theorem filterMap_zip {ns : List Str} {vs : List Value} {f : Str → Option Value} (h : ns.map f = vs.map some) : ns.filterMap (fun n => (f n).map (n, ·)) = ns.zip vs := by
  induction ns generalizing vs with
  | nil => rfl
  | cons n ns ih =>
    cases vs with
    | nil => simp at h
    | cons v vs =>
      simp only [List.map_cons, List.cons.injEq] at h
      rw [List.filterMap_cons, h.1]
      simp only [Option.map_some, List.zip_cons_cons]
      rw [ih h.2]
theorem bind_plain {fd : FuncData} {vs : List Value} (h1 : fd.params.posonlyargs = []) (h2 : fd.params.vararg = none) (h3 : fd.params.kwonlyargs = []) (h4 : fd.params.kwarg = none) (hd : fd.defaults = .none)
    (hn : (fd.params.args.map (·.arg)).Nodup) (hl : vs.length = fd.params.args.length) : bindArgs fd ⟨vs, []⟩ = pure ((fd.params.args.map (·.arg)).zip vs) := by
  have hz := zip_look hn (by simpa using hl.symm)
  have hl' : (fd.params.args.map (·.arg)).length = vs.length := by simpa using hl.symm
  have hf := filter_none hz
  have hm := filterMap_zip hz
  have hs : seqItems? .none = pure none := rfl
  unfold bindArgs
  simp only [h1, h2, h3, h4, hd, hs, List.map_nil, List.nil_append, List.append_nil, List.forIn_nil, pure_bind, Option.getD_none, List.drop_nil, List.length_nil, Nat.sub_zero, List.zip_nil_right, List.isEmpty_nil, Bool.not_true, Bool.false_eq_true, if_false]
  rw [if_neg (by rw [hl']; simp)]
  simp only [pure_bind, List.take_length, hf, hm, List.isEmpty_nil, Bool.not_true, Bool.false_eq_true, if_false]
end Mine
namespace Mine
noncomputable def ndS : List Str → Bool
  | [] => true
  | x :: r => !anyN r x && ndS r
theorem anyN_mem : ∀ {l : List Str} {x : Str}, x ∈ l → anyN l x = true
  | y :: r, x, h => by
    unfold anyN
    cases q : seq y x with
    | true => rfl
    | false => cases h with
      | head => rw [seq_self] at q; cases q
      | tail _ h => exact anyN_mem h
theorem mem_anyN : ∀ {l : List Str} {x : Str}, anyN l x = true → x ∈ l
  | y :: r, x, h => by
    unfold anyN at h
    split at h
    · rename_i q; rw [seq_true q]; exact .head _
    · exact .tail _ (mem_anyN h)
theorem ndS_nodup : ∀ {l : List Str}, ndS l = true → l.Nodup
  | [], _ => .nil
  | x :: r, h => by
    unfold ndS at h
    rw [Bool.and_eq_true] at h
    refine List.nodup_cons.mpr ⟨fun m => ?_, ndS_nodup h.2⟩
    have := anyN_mem m
    rw [this] at h
    cases h.1
noncomputable def isLoc (sc : Scope) (x : Str) : Bool := match kindA sc x with | some .local => true | _ => false
noncomputable def isCellK : NameKind → Bool
  | .cell => true
  | _ => false
noncomputable def isFunK : ScopeKind → Bool
  | .function => true
  | _ => false
noncomputable def isFun (s : Scope) : Bool := isFunK s.kind
noncomputable def gP : Stmt → Arguments
  | .FunctionDef _ a _ _ _ _ _ _ _ _ => a
  | _ => default
noncomputable def fStat (st : Stmt) : Bool :=
  ((gP st).posonlyargs.isEmpty && ((gP st).vararg.isNone && ((gP st).kwonlyargs.isEmpty && (gP st).kwarg.isNone))) &&
  (ndS ((fPs st).map (·.arg)) && ((fPs st).all (fun p => isLoc (gS st) p.arg) && ((gS st).names.all (fun x => !isCellK x.2) && (!(gS st).isCoroutine && (!(gS st).isGenerator && isFun (gS st))))))
theorem gP_args : ∀ {st : Stmt}, fStat st = true → (gP st).args = fPs st := by
  intro st h
  cases st <;> rfl
theorem fnF_of {h₀ : Heap} {a : Addr} {st : Stmt} {oc : Value} {od : Option Addr} {osl : Array (Option Value)} {name qual : Str} {kV doc pm cdv ct : Value} {an : Option Addr}
    (ho : h₀.get? a = some ⟨oc, od, .func (fnOf name qual (gP st) (gB st) (gS st) .none kV doc pm an cdv ct), osl⟩) (hc : h₀.CodeRec cdv qual) (hs : fStat st = true) : FnF h₀ a ⟨st, []⟩ := by
  have ha := gP_args hs
  simp only [fStat, Bool.and_eq_true, List.isEmpty_iff, Option.isNone_iff_eq_none, Bool.not_eq_true'] at hs
  obtain ⟨⟨h1, h2, h3, h4⟩, hn, hl, hcl, hco, hg, hk⟩ := hs
  have hn' := ndS_nodup hn
  refine ⟨⟨oc, od, osl, name, qual, gP st, .none, kV, doc, pm, cdv, ct, an, ho, hc, fun ι ρ s as vs bs hk hb hv => ?_⟩, hn', fun p hp => ?_, fun x hx => ?_, hco, hg, ?_⟩
  · unfold bindP at hb
    split at hb
    · rename_i hz
      have hz := Nat.eq_of_beq_eq_true hz
      cases hb
      have hlen := hv.len
      simp only [List.length_nil, Nat.add_zero] at hz
      refine ⟨((fPs st).map (·.arg)).zip vs, .of_eq ?_, ?_⟩
      · have := bind_plain (fd := fnOf name qual (gP st) (gB st) (gS st) .none kV doc pm an cdv ct) (vs := vs) h1 h2 h3 h4 rfl (by show ((gP st).args.map (·.arg)).Nodup; rw [ha]; exact hn') (by show vs.length = (gP st).args.length; rw [ha]; omega)
        rw [this]
        show pure (((gP st).args.map (·.arg)).zip vs) = _
        rw [ha]
      · have : ∀ {ns : List Str} {as : List AV} {vs : List Value}, ns.length = as.length → All2 (VR ι ρ) as vs → All2 (fun p q => p.1 = q.1 ∧ VR ι ρ p.2 q.2) (ns.zip (as ++ [])) (ns.zip vs) := by
          intro ns
          induction ns with
          | nil => intro as vs hl hv; exact trivial
          | cons n ns ih =>
            intro as vs hl hv
            match as, vs, hv with
            | [], [], _ => simp at hl
            | a :: as, v :: vs, hv => exact ⟨⟨rfl, hv.1⟩, ih (by simpa using hl) hv.2⟩
            | [], _ :: _, hv => exact hv.elim
            | _ :: _, [], hv => exact hv.elim
        exact this (by simpa using hz.symm) hv
    · cases hb
  · have := List.all_eq_true.mp hl p hp
    unfold isLoc at this
    rw [kindA_look] at this
    split at this
    · rename_i q; exact q
    · cases this
  · have := List.all_eq_true.mp hcl x hx
    intro e
    rw [e] at this
    cases this
  · show (gS st).kind = .function
    unfold isFun at hk
    cases q : (gS st).kind <;> rw [q] at hk <;> first | rfl | cases hk
end Mine
end
noncomputable section
open PySem PySem.W PyProof.Rows PySem.Calls
namespace Mine
noncomputable def exF (l : List (Nat × Nat)) (k : Nat) : Nat := match l with
  | [] => k
  | p :: r => match Nat.beq p.1 k with | true => p.2 | false => exF r k
noncomputable def aW (m : Nat) (l : List (Nat × Nat)) (g : Nat → Option AV) (n o : AV) : Bool := match n, o with
  | .nn, .nn => true
  | .bb a, .bb b => a == b
  | .ii a, .ii b => decide (a = b)
  | .an, .an => true
  | .an, .ii a => decide (0 ≤ a)
  | .ss a, .ss b => seq a b
  | .ow a, .ow b => Nat.beq (exF l a) b && Nat.blt a m
  | .tp, _ => true
  | .sy k, .sy j => (match g k with | some (.sy i) => Nat.beq i j | _ => false)
  | .sy k, .ii a => (match g k with | some (.ii b) => decide (a = b) | _ => false)
  | _, _ => false
noncomputable def lW (m : Nat) (l : List (Nat × Nat)) (g : Nat → Option AV) (n : List AV) : List AV → Bool :=
  List.rec (motive := fun _ => List AV → Bool) (fun o => List.rec (motive := fun _ => Bool) true (fun _ _ _ => false) o)
    (fun a _ ih o => List.rec (motive := fun _ => Bool) false (fun b s _ => Bool.rec (motive := fun _ => Bool) false (ih s) (aW m l g a b)) o) n
noncomputable def eW (m : Nat) (l : List (Nat × Nat)) (g : Nat → Option AV) (n : List (Str × AV)) : List (Str × AV) → Bool :=
  List.rec (motive := fun _ => List (Str × AV) → Bool) (fun o => List.rec (motive := fun _ => Bool) true (fun _ _ _ => false) o)
    (fun a _ ih o => List.rec (motive := fun _ => Bool) false (fun b s _ => Bool.rec (motive := fun _ => Bool) false (Bool.rec (motive := fun _ => Bool) false (ih s) (aW m l g a.2 b.2)) (seq a.1 b.1)) o) n
noncomputable def nW (m : Nat) (l : List (Nat × Nat)) (g : Nat → Option AV) : List (Str × AV) → List (Str × AV) → Bool
  | [], _ => true
  | a :: r, es => (match look es a.1 with | some v => aW m l g a.2 v | none => false) && nW m l g r es
theorem brec_and (x y : Bool) : Bool.rec (motive := fun _ => Bool) false y x = (x && y) := by cases x <;> rfl
theorem lW_cons (m : Nat) (l : List (Nat × Nat)) (g : Nat → Option AV) (a b : AV) (r s : List AV) : lW m l g (a :: r) (b :: s) = (aW m l g a b && lW m l g r s) := brec_and _ _
theorem eW_cons (m : Nat) (l : List (Nat × Nat)) (g : Nat → Option AV) (a b : Str × AV) (r s : List (Str × AV)) : eW m l g (a :: r) (b :: s) = (seq a.1 b.1 && (aW m l g a.2 b.2 && eW m l g r s)) := by
  show Bool.rec (motive := fun _ => Bool) false (Bool.rec (motive := fun _ => Bool) false (eW m l g r s) (aW m l g a.2 b.2)) (seq a.1 b.1) = _
  rw [brec_and, brec_and]
noncomputable def oW (m : Nat) (l : List (Nat × Nat)) (g : Nat → Option AV) (n o : AO) : Bool := match n, o with
  | .nsp a, .nsp b => nW m l g a b
  | .idc a, .idc b => eW m l g a b
  | .dic a, .dic b => eW m l g a b
  | .dip a, .dic b => nW m l g a b
  | .dip a, .dip b => nW m l g a b
  | .ins C d, .ins C' d' => Nat.beq C C' && (Nat.beq (exF l d) d' && Nat.blt d m)
  | .lst a, .lst b => lW m l g a b
  | .tup a, .tup b => lW m l g a b
  | .itl none, .itl _ => true
  | .rit i n, .rit i' n' => decide (i = i') && decide (n = n')
  | _, _ => false
noncomputable def apart (t : St) : List (Nat × Nat) → List (Nat × Nat) → Bool
  | _, [] => true
  | all, p :: r => (match sget t p.2 with | none => true | some _ => Nat.beq (exF all p.2) p.2 == false || Nat.beq p.1 p.2) && (r.all (fun q => !Nat.beq p.2 q.2 && !Nat.beq p.1 q.1) && apart t all r)
noncomputable def inD (l : List (Nat × Nat)) (k : Nat) : Bool := match l with
  | [] => false
  | p :: r => match Nat.beq p.1 k with | true => true | false => inD r k
noncomputable def lft : Tr → Tr
  | .nil => .nil
  | .node _ l _ => l
noncomputable def rgt : Tr → Tr
  | .nil => .nil
  | .node _ _ r => r
noncomputable def top : Tr → Option AO
  | .nil => none
  | .node o _ _ => o
noncomputable def oO (n : Nat) (l : List (Nat × Nat)) (g : Nat → Option AV) (x : AO) (y : Option AO) : Bool := match y with
  | some y => oW n l g x y
  | none => false
noncomputable def joinT (n : Nat) (l : List (Nat × Nat)) (g : Nat → Option AV) (t : Tr) : Tr → Nat → Nat → Bool :=
  Tr.rec (motive := fun _ => Tr → Nat → Nat → Bool) (fun _ _ _ => true)
    (fun o _ _ jl jr s a b => Bool.rec (motive := fun _ => Bool) false
      (Bool.rec (motive := fun _ => Bool) false (jr (rgt s) (Nat.add a a) (Nat.add (Nat.add a a) b)) (jl (lft s) (Nat.add a a) (Nat.add a b)))
      (Option.rec (motive := fun _ => Bool) true (fun x => Bool.rec (motive := fun _ => Bool) false (Bool.rec (motive := fun _ => Bool) (oO n l g x (top s)) true (inD l b)) (Nat.blt b n)) o)) t
theorem joinT_node (n : Nat) (l : List (Nat × Nat)) (g : Nat → Option AV) (o : Option AO) (tl tr s : Tr) (a b : Nat) : joinT n l g (.node o tl tr) s a b = ((match o with | none => true | some x => Nat.blt b n && (inD l b || oO n l g x (top s))) && (joinT n l g tl (lft s) (a + a) (a + b) && joinT n l g tr (rgt s) (a + a) (a + a + b))) := by
  show Bool.rec (motive := fun _ => Bool) false (Bool.rec (motive := fun _ => Bool) false (joinT n l g tr (rgt s) (a + a) (a + a + b)) (joinT n l g tl (lft s) (a + a) (a + b))) (Option.rec (motive := fun _ => Bool) true (fun x => Bool.rec (motive := fun _ => Bool) false (Bool.rec (motive := fun _ => Bool) (oO n l g x (top s)) true (inD l b)) (Nat.blt b n)) o) = _
  rw [brec_and, brec_and]
  cases o with
  | none => rfl
  | some x =>
    show (Bool.rec (motive := fun _ => Bool) false (Bool.rec (motive := fun _ => Bool) (oO n l g x (top s)) true (inD l b)) (Nat.blt b n) && _) = _
    rw [brec_and]
    cases inD l b <;> rfl
noncomputable def joinX (l : List (Nat × Nat)) (g : Nat → Option AV) (t σ : St) : List (Nat × Nat) → Bool
  | [] => true
  | p :: r => (match sget t p.1 with
    | none => true
    | some n => oO t.n l g n (sget σ (exF l p.1))) && joinX l g t σ r
noncomputable def joinOk (l : List (Nat × Nat)) (g : Nat → Option AV) (t σ : St) : Bool := apart t l l && (joinX l g t σ l && joinT t.n l g t.t σ.t 1 0)
end Mine
end
noncomputable section
open PySem PySem.W PyProof.Rows PySem.Calls
namespace Mine
noncomputable def ιJ (ι : Nat → Int) (g : Nat → Option AV) (k : Nat) : Int := match g k with
  | some (.ii i) => i
  | some (.sy j) => ι j
  | _ => 0
noncomputable def ρJ (l : List (Nat × Nat)) (ρ : List Addr) (m : Nat) : List Addr := (List.range m).map fun k => (ρ[exF l k]?).getD 0
theorem ρJ_get {l : List (Nat × Nat)} {ρ : List Addr} {m k : Nat} {a : Addr} (hk : k < m) (h : ρ[exF l k]? = some a) : (ρJ l ρ m)[k]? = some a := by
  unfold ρJ
  rw [List.getElem?_map, List.getElem?_range hk]
  simp [h]
section
variable {prog : Program} {w : World} {ι : Nat → Int} {h₀ : Heap} {os₀ : OsState} {ρ : List Addr} {σ t : St} {s : Shared} {m : Nat} {l : List (Nat × Nat)} {g : Nat → Option AV}
theorem aW_sound {n o : AV} {v : Value} (h : aW m l g n o = true) (x : VR ι ρ o v) : VR (ιJ ι g) (ρJ l ρ m) n v := by
  unfold aW at h
  split at h
  · exact x
  · have := beq_iff_eq.mp h; subst this; exact x
  · have := of_decide_eq_true h; subst this; exact x
  · exact x
  · have := of_decide_eq_true h
    obtain ⟨tk, rfl⟩ := x
    exact ⟨_, tk, this, rfl⟩
  · have := seq_true h; subst this; exact x
  · rw [Bool.and_eq_true] at h
    have h1 := Nat.eq_of_beq_eq_true h.1
    have h2 := Nat.le_of_ble_eq_true h.2
    obtain ⟨a, e, rfl⟩ := x
    exact ⟨a, ρJ_get (Nat.lt_of_succ_le h2) (h1 ▸ e), rfl⟩
  · trivial
  · split at h
    · rename_i k j i hg
      have := Nat.eq_of_beq_eq_true h
      subst this
      obtain ⟨tk, rfl⟩ := x
      exact ⟨tk, by unfold ιJ; rw [hg]⟩
    · cases h
  · split at h
    · rename_i k a b hg
      have := of_decide_eq_true h
      subst this
      obtain ⟨tk, rfl⟩ := x
      exact ⟨tk, by unfold ιJ; rw [hg]⟩
    · cases h
  · cases h
theorem lW_sound : ∀ {n o : List AV} {vs : List Value}, lW m l g n o = true → All2 (VR ι ρ) o vs → All2 (VR (ιJ ι g) (ρJ l ρ m)) n vs
  | [], [], [], _, _ => trivial
  | a :: r, b :: s, v :: vs, h, x => by
    rw [lW_cons, Bool.and_eq_true] at h
    exact ⟨aW_sound h.1 x.1, lW_sound h.2 x.2⟩
  | [], [], _ :: _, _, x => x.elim
  | [], _ :: _, _, h, _ => by cases h
  | _ :: _, [], _, h, _ => by cases h
  | _ :: _, _ :: _, [], _, x => x.elim
theorem eW_sound : ∀ {n o : List (Str × AV)} {vs : List (Str × Value)}, eW m l g n o = true → All2 (fun p q => p.1 = q.1 ∧ VR ι ρ p.2 q.2) o vs → All2 (fun p q => p.1 = q.1 ∧ VR (ιJ ι g) (ρJ l ρ m) p.2 q.2) n vs
  | [], [], [], _, _ => trivial
  | a :: r, b :: s, v :: vs, h, x => by
    rw [eW_cons, Bool.and_eq_true, Bool.and_eq_true] at h
    exact ⟨⟨(seq_true h.1).trans x.1.1, aW_sound h.2.1 x.1.2⟩, eW_sound h.2.2 x.2⟩
  | [], [], _ :: _, _, x => x.elim
  | [], _ :: _, _, h, _ => by cases h
  | _ :: _, [], _, h, _ => by cases h
  | _ :: _, _ :: _, [], _, x => x.elim
theorem eW_look : ∀ {n o : List (Str × AV)} {x : Str} {v : AV}, eW m l g n o = true → look n x = some v → ∃ u, look o x = some u ∧ aW m l g v u = true
  | [], [], x, v, _, h => by cases h
  | a :: r, b :: s, x, v, h, e => by
    rw [eW_cons, Bool.and_eq_true, Bool.and_eq_true] at h
    have hn := seq_true h.1
    unfold look at e ⊢
    rw [← hn]
    split at e
    · cases e; exact ⟨_, rfl, h.2.1⟩
    · exact eW_look h.2.2 e
  | [], _ :: _, _, _, h, _ => by cases h
  | _ :: _, [], _, _, h, _ => by cases h
theorem eW_none : ∀ {n o : List (Str × AV)} {x : Str}, eW m l g n o = true → look n x = none → look o x = none
  | [], [], x, _, h => rfl
  | a :: r, b :: s, x, h, e => by
    rw [eW_cons, Bool.and_eq_true, Bool.and_eq_true] at h
    have hn := seq_true h.1
    unfold look at e ⊢
    rw [← hn]
    split at e
    · cases e
    · exact eW_none h.2.2 e
  | [], _ :: _, _, h, _ => by cases h
  | _ :: _, [], _, h, _ => by cases h
theorem nW_look : ∀ {n o : List (Str × AV)} {x : Str} {v : AV}, nW m l g n o = true → look n x = some v → ∃ u, look o x = some u ∧ aW m l g v u = true
  | [], o, x, v, _, h => by cases h
  | a :: r, o, x, v, h, e => by
    unfold nW at h
    rw [Bool.and_eq_true] at h
    unfold look at e
    split at e
    · rename_i q
      cases e
      have q := seq_true q
      subst q
      have h1 := h.1
      split at h1
      · rename_i u hu; exact ⟨u, hu, h1⟩
      · cases h1
    · exact nW_look h.2 e
theorem oW_sound {n o : AO} {h : Heap} {a : Addr} (e : oW m l g n o = true) (x : HR prog w ι ρ h a o) : HR prog w (ιJ ι g) (ρJ l ρ m) h a n := by
  unfold oW at e
  split at e
  · obtain ⟨f, h1, h2⟩ := x
    exact ⟨f, h1, fun y v ey => let ⟨u, q1, q2⟩ := nW_look e ey; let ⟨z, r1, r2⟩ := h2 y u q1; ⟨z, r1, aW_sound q2 r2⟩⟩
  · obtain ⟨f, h1, h2, h3⟩ := x
    exact ⟨f, h1, fun y v ey => let ⟨u, q1, q2⟩ := eW_look e ey; let ⟨z, r1, r2⟩ := h2 y u q1; ⟨z, r1, aW_sound q2 r2⟩, fun y hy => h3 y (eW_none e hy)⟩
  · obtain ⟨kvs, h1, h2⟩ := x
    exact ⟨kvs, h1, eW_sound e h2⟩
  · obtain ⟨kvs, h1, h2⟩ := x
    exact ⟨kvs, h1, fun y v ey => let ⟨u, q1, q2⟩ := nW_look e ey; let ⟨z, r1, r2⟩ := look_val h2 q1; ⟨z, r1, aW_sound q2 r2⟩⟩
  · obtain ⟨kvs, h1, h2⟩ := x
    exact ⟨kvs, h1, fun y v ey => let ⟨u, q1, q2⟩ := nW_look e ey; let ⟨z, r1, r2⟩ := h2 y u q1; ⟨z, r1, aW_sound q2 r2⟩⟩
  · rw [Bool.and_eq_true, Bool.and_eq_true] at e
    have h1 := Nat.eq_of_beq_eq_true e.1
    have h2 := Nat.eq_of_beq_eq_true e.2.1
    have h3 := Nat.lt_of_succ_le (Nat.le_of_ble_eq_true e.2.2)
    subst h1
    obtain ⟨da, q, r⟩ := x
    exact ⟨da, ρJ_get h3 (h2 ▸ q), r⟩
  · obtain ⟨vs, k, q, r⟩ := x
    exact ⟨vs, k, q, lW_sound e r⟩
  · obtain ⟨vs, q, r⟩ := x
    exact ⟨vs, q, lW_sound e r⟩
  · obtain ⟨vs, ns, q, r, z, _⟩ := x
    exact ⟨vs, ns, q, r, z, fun L e => by cases e⟩
  · rw [Bool.and_eq_true] at e
    have h1 := of_decide_eq_true e.1
    have h2 := of_decide_eq_true e.2
    subst h1 h2
    exact x
  · cases e
theorem oO_some {m : Nat} {x : AO} {y : Option AO} (h : oO m l g x y = true) : ∃ o', y = some o' ∧ oW m l g x o' = true := by
  cases y with
  | none => cases h
  | some y => exact ⟨y, rfl, h⟩
theorem inD_ex : ∀ {l : List (Nat × Nat)} {k : Nat}, inD l k = false → exF l k = k
  | [], k, _ => rfl
  | p :: r, k, h => by
    unfold inD at h
    unfold exF
    split at h
    · cases h
    · exact inD_ex h
theorem inD_mem : ∀ {l : List (Nat × Nat)} {k : Nat}, inD l k = true → ∃ p ∈ l, p.1 = k
  | [], k, h => by cases h
  | p :: r, k, h => by
    unfold inD at h
    split at h
    · rename_i q
      exact ⟨p, .head _, Nat.eq_of_beq_eq_true q⟩
    · obtain ⟨p', h1, h2⟩ := inD_mem h
      exact ⟨p', .tail _ h1, h2⟩
theorem joinX_get : ∀ {r : List (Nat × Nat)}, joinX l g t σ r = true → ∀ {k : Nat} {o : AO}, (∃ p ∈ r, p.1 = k) → sget t k = some o → ∃ o', sget σ (exF l k) = some o' ∧ oW t.n l g o o' = true
  | [], _, k, o, ⟨p, hp, _⟩, _ => by cases hp
  | q :: r, h, k, o, ⟨p, hp, e⟩, ho => by
    unfold joinX at h
    rw [Bool.and_eq_true] at h
    cases hp with
    | head =>
      subst e
      have h1 := h.1
      rw [ho] at h1
      exact oO_some h1
    | tail _ hp => exact joinX_get h.2 ⟨p, hp, e⟩ ho
theorem top_z (s : Tr) : top s = tg s 0 := by cases s <;> rfl
theorem lft_z (s : Tr) (j : Nat) : tg (lft s) j = tg s (2 * j + 1) := by
  cases s with
  | nil => rfl
  | node o l r => rw [tg_l]; rfl
theorem rgt_z (s : Tr) (j : Nat) : tg (rgt s) j = tg s (2 * j + 2) := by
  cases s with
  | nil => rfl
  | node o l r => rw [tg_r]; rfl
theorem joinT_get {n : Nat} {t : Tr} : ∀ {s : Tr} {a b k : Nat} {o : AO}, joinT n l g t s a b = true → tg t k = some o → a * k + b < n ∧ (inD l (a * k + b) = true ∨ ∃ o', tg s k = some o' ∧ oW n l g o o' = true) := by
  induction t with
  | nil => intro s a b k o _ e; cases e
  | node p tl tr il ir =>
    intro s a b k o h e
    rw [joinT_node, Bool.and_eq_true, Bool.and_eq_true] at h
    obtain ⟨h1, h2, h3⟩ := h
    rcases three k with rfl | ⟨j, rfl⟩ | ⟨j, rfl⟩
    · rw [tg_zero] at e
      subst e
      dsimp only at h1
      rw [Bool.and_eq_true, Bool.or_eq_true] at h1
      have hb := Nat.lt_of_succ_le (Nat.le_of_ble_eq_true h1.1)
      rw [Nat.mul_zero, Nat.zero_add]
      refine ⟨hb, h1.2.imp id fun q => ?_⟩
      obtain ⟨o', e1, e2⟩ := oO_some q
      exact ⟨o', by rw [← top_z]; exact e1, e2⟩
    · rw [tg_l] at e
      have ih := il h2 e
      have e2 : (a + a) * j + (a + b) = a * (2 * j + 1) + b := by
        rw [Nat.mul_add, ← Nat.mul_assoc, Nat.mul_comm a 2, Nat.two_mul]
        omega
      rw [e2, lft_z] at ih
      exact ih
    · rw [tg_r] at e
      have ih := ir h3 e
      have e2 : (a + a) * j + (a + a + b) = a * (2 * j + 2) + b := by
        rw [Nat.mul_add, ← Nat.mul_assoc, Nat.mul_comm a 2, Nat.two_mul]
        omega
      rw [e2, rgt_z] at ih
      exact ih
theorem exF_mem : ∀ {l : List (Nat × Nat)} {k : Nat}, (∃ p ∈ l, p.1 = k ∧ exF l k = p.2) ∨ exF l k = k
  | [], k => .inr rfl
  | p :: r, k => by
    unfold exF
    cases q : Nat.beq p.1 k with
    | true => exact .inl ⟨p, .head _, Nat.eq_of_beq_eq_true q, rfl⟩
    | false =>
      rcases exF_mem (l := r) (k := k) with ⟨p', h1, h2, h3⟩ | h
      · exact .inl ⟨p', .tail _ h1, h2, h3⟩
      · exact .inr h
theorem apart_one : ∀ {all l : List (Nat × Nat)}, apart t all l = true → ∀ p ∈ l, (∀ o, sget t p.2 = some o → exF all p.2 ≠ p.2 ∨ p.1 = p.2) ∧ ∀ q ∈ l, p ≠ q → p.2 ≠ q.2
  | all, [], _, p, hp => by cases hp
  | all, a :: r, h, p, hp => by
    unfold apart at h
    rw [Bool.and_eq_true, Bool.and_eq_true] at h
    obtain ⟨h1, h2, h3⟩ := h
    have hd : ∀ q ∈ r, a.2 ≠ q.2 := fun q hq e => by
      have := List.all_eq_true.mp h2 q hq
      rw [Bool.and_eq_true] at this
      have h4 := this.1
      rw [e, Nat.beq_refl] at h4
      cases h4
    have one : ∀ o, sget t a.2 = some o → exF all a.2 ≠ a.2 ∨ a.1 = a.2 := fun o e => by
      rw [e] at h1
      dsimp only at h1
      rw [Bool.or_eq_true] at h1
      rcases h1 with z | z
      · left
        intro q
        rw [q, Nat.beq_refl] at z
        cases z
      · exact .inr (Nat.eq_of_beq_eq_true z)
    cases hp with
    | head =>
      refine ⟨one, fun q hq ne => ?_⟩
      cases hq with
      | head => exact (ne rfl).elim
      | tail _ hq => exact hd q hq
    | tail _ hp =>
      obtain ⟨i1, i2⟩ := apart_one h3 p hp
      refine ⟨i1, fun q hq ne => ?_⟩
      cases hq with
      | head => exact fun e => hd p hp e.symm
      | tail _ hq => exact i2 q hq ne
theorem exF_inj (h : apart t l l = true) {j k : Nat} {o o' : AO} (hj : sget t j = some o) (hk : sget t k = some o') (e : exF l j = exF l k) : j = k := by
  rcases exF_mem (l := l) (k := j) with ⟨p, p1, p2, p3⟩ | p <;> rcases exF_mem (l := l) (k := k) with ⟨q, q1, q2, q3⟩ | q
  · by_cases pq : p = q
    · subst pq; rw [← p2, ← q2]
    · exact ((apart_one h p p1).2 q q1 pq (by rw [← p3, ← q3, e])).elim
  · have e1 : p.2 = k := by rw [← p3, e, q]
    rcases (apart_one h p p1).1 o' (by rw [e1]; exact hk) with z | z
    · exact (z (by rw [e1, q])).elim
    · rw [← p2, z, e1]
  · have e1 : q.2 = j := by rw [← q3, ← e, p]
    rcases (apart_one h q q1).1 o (by rw [e1]; exact hj) with z | z
    · exact (z (by rw [e1, p])).elim
    · rw [← q2, z, e1]
  · rw [← p, ← q, e]
theorem join_get (h : joinOk l g t σ = true) {k : Nat} {o : AO} (e : sget t k = some o) : k < t.n ∧ ∃ o', sget σ (exF l k) = some o' ∧ oW t.n l g o o' = true := by
  unfold joinOk at h
  rw [Bool.and_eq_true, Bool.and_eq_true] at h
  obtain ⟨ha, hx, hn⟩ := h
  have z := joinT_get hn (k := k) e
  rw [Nat.one_mul, Nat.add_zero] at z
  refine ⟨z.1, ?_⟩
  cases q : inD l k with
  | true => exact joinX_get hx (inD_mem q) e
  | false =>
    rcases z.2 with w | ⟨o', h1, h2⟩
    · rw [q] at w; cases w
    · exact ⟨o', by rw [inD_ex q]; exact h1, h2⟩
theorem join_sr (R : SR prog w ι h₀ os₀ ρ σ s) (h : joinOk l g t σ = true) : SR prog w (ιJ ι g) h₀ os₀ (ρJ l ρ t.n) t s := by
  have ha : apart t l l = true := by
    unfold joinOk at h
    rw [Bool.and_eq_true] at h
    exact h.1
  have known : ∀ {k : Nat} {o : AO} {a : Addr}, sget t k = some o → (ρJ l ρ t.n)[k]? = some a → k < t.n ∧ ∃ o', sget σ (exF l k) = some o' ∧ oW t.n l g o o' = true ∧ ρ[exF l k]? = some a := by
    intro k o a e ea
    have hk : k < t.n := by
      have := (List.getElem?_eq_some_iff.mp ea).1
      unfold ρJ at this
      simpa using this
    obtain ⟨_, o', h1, h2⟩ := join_get h e
    obtain ⟨b, h3, _⟩ := R.obj _ _ h1
    have := ρJ_get (m := t.n) hk h3
    rw [ea] at this
    cases this
    exact ⟨hk, o', h1, h2, h3⟩
  refine ⟨by unfold ρJ; simp, fun j k o o' a e1 e2 a1 a2 => ?_, fun k o a e ea => ?_, fun k o e => ?_, R.keep, R.gens, R.os⟩
  · obtain ⟨_, o1, g1, _, b1⟩ := known e1 a1
    obtain ⟨_, o2, g2, _, b2⟩ := known e2 a2
    exact exF_inj ha e1 e2 (R.nd _ _ _ _ _ g1 g2 b1 b2)
  · obtain ⟨_, o1, g1, _, b1⟩ := known e ea
    exact R.new _ _ _ g1 b1
  · obtain ⟨hk, o', h1, h2⟩ := join_get h e
    obtain ⟨b, h3, h4⟩ := R.obj _ _ h1
    exact ⟨b, ρJ_get hk h3, oW_sound h2 h4⟩
end
end Mine
end
noncomputable section
open PySem PySem.W PyProof.Rows
set_option maxRecDepth 100000
namespace Mine
noncomputable abbrev pw : Program := PySem.Challenge.pw_xw0017_01
noncomputable abbrev vn : Value := .none
noncomputable abbrev vb (b : Bool) : Value := .bool b
noncomputable abbrev vi (i : Int) (t : Nat) : Value := .int i t
noncomputable abbrev vs (s : Str) (t : Nat) : Value := .str s t
noncomputable abbrev vt (n : String) : Value := .type n
noncomputable abbrev vB (n : String) : Value := .builtin n
noncomputable abbrev vr (a : Nat) : Value := .ref a
noncomputable abbrev de (P : Params) (s : Str) (t : Nat) (v : Value) : DictEntry := ⟨PyData.keyHash P s, .str s t, v⟩
noncomputable abbrev tp (l : List Value) : Obj := ⟨.type "tuple", none, .seq (List.toArray l) 0, #[]⟩
noncomputable def nth : List Stmt → Nat → Stmt
  | [], _ => .Pass ⟨0, 0, 0, 0⟩
  | s :: _, 0 => s
  | _ :: r, n + 1 => nth r n
noncomputable def T (i : Nat) : Stmt := nth pw.main.body i
noncomputable def cB : Stmt → List Stmt
  | .ClassDef _ _ _ b _ _ _ _ _ _ _ => b
  | _ => []
noncomputable def M (i j : Nat) : Stmt := nth (cB (T i)) j
noncomputable def fP : Stmt → Arguments
  | .FunctionDef _ a _ _ _ _ _ _ _ _ => a
  | _ => default
noncomputable def fB : Stmt → List Stmt
  | .FunctionDef _ _ b _ _ _ _ _ _ _ => b
  | _ => []
noncomputable def fS : Stmt → Scope
  | .FunctionDef _ _ _ _ _ _ s _ _ _ => s
  | _ => default
noncomputable def fO (cls : Value) (nm q : Str) (st : Stmt) (g : Addr) (d m c : Value) (b : Addr) : Obj :=
  ⟨cls, none, .func { name := nm, qualname := q, params := fP st, body := .stmts (fB st), scope := fS st, globals := g, closure := [], defaults := d, kwdefaults := .none, doc := .none, pyModule := m, annotations := none, code := c, closureTuple := .none, builtins := b }, #[]⟩
noncomputable def s0 : Str := Str.ofString "type.__subclasses__.Exception.0"
noncomputable def s1 : Str := Str.ofString "type.__subclasses__.Exception.n"
noncomputable def s2 : Str := Str.ofString "__doc__"
noncomputable def s3 : Str := Str.ofString "__package__"
noncomputable def s4 : Str := Str.ofString "__loader__"
noncomputable def s5 : Str := Str.ofString "__spec__"
noncomputable def s6 : Str := Str.ofString "__annotations__"
noncomputable def s7 : Str := Str.ofString "__builtins__"
noncomputable def s8 : Str := Str.ofString "__file__"
noncomputable def s9 : Str := Str.ofString "/claim/cut.py"
noncomputable def s10 : Str := Str.ofString "__cached__"
noncomputable def s11 : Str := Str.ofString "_wall"
noncomputable def s12 : Str := Str.ofString "Act"
noncomputable def s13 : Str := Str.ofString "taken_entries"
noncomputable def s14 : Str := Str.ofString "AdaError"
noncomputable def s15 : Str := Str.ofString "CheckFault"
noncomputable def s16 : Str := Str.ofString "AdaRaise"
noncomputable def s17 : Str := Str.ofString "Unset"
noncomputable def s18 : Str := Str.ofString "Cell"
noncomputable def s19 : Str := Str.ofString "CellMaker"
noncomputable def s20 : Str := Str.ofString "ArrayValue"
noncomputable def s21 : Str := Str.ofString "RecordValue"
noncomputable def s22 : Str := Str.ofString "need_set"
noncomputable def s23 : Str := Str.ofString "copy_value"
noncomputable def s24 : Str := Str.ofString "kept_value"
noncomputable def s25 : Str := Str.ofString "lengths_of"
noncomputable def s26 : Str := Str.ofString "slice_items"
noncomputable def s27 : Str := Str.ofString "fields_with"
noncomputable def s28 : Str := Str.ofString "read_place"
noncomputable def s29 : Str := Str.ofString "write_place"
noncomputable def s30 : Str := Str.ofString "OTHERS"
noncomputable def s31 : Str := Str.ofString "others"
noncomputable def s32 : Str := Str.ofString "raise_constraint"
noncomputable def s33 : Str := Str.ofString "dim_length"
noncomputable def s34 : Str := Str.ofString "item_offset"
noncomputable def s35 : Str := Str.ofString "item_place"
noncomputable def s36 : Str := Str.ofString "check_lengths"
noncomputable def s37 : Str := Str.ofString "slide_array"
noncomputable def s38 : Str := Str.ofString "check_index_ranges"
noncomputable def s39 : Str := Str.ofString "SCALAR_KINDS"
noncomputable def s40 : Str := Str.ofString "Type"
noncomputable def s41 : Str := Str.ofString "Subtype"
noncomputable def s42 : Str := Str.ofString "int_type"
noncomputable def s43 : Str := Str.ofString "array_type"
noncomputable def s44 : Str := Str.ofString "record_type"
noncomputable def s45 : Str := Str.ofString "numbered"
noncomputable def s46 : Str := Str.ofString "same_type"
noncomputable def s47 : Str := Str.ofString "is_scalar"
noncomputable def s48 : Str := Str.ofString "is_numeric"
noncomputable def s49 : Str := Str.ofString "whole_subtype"
noncomputable def s50 : Str := Str.ofString "MOST_PRIVATE"
noncomputable def s51 : Str := Str.ofString "full_subtype"
noncomputable def s52 : Str := Str.ofString "full_type"
noncomputable def s53 : Str := Str.ofString "MOST_LINE"
noncomputable def s54 : Str := Str.ofString "type_line"
noncomputable def s55 : Str := Str.ofString "covers_choice"
noncomputable def s56 : Str := Str.ofString "chosen_alternative"
noncomputable def s57 : Str := Str.ofString "variant_parts"
noncomputable def s58 : Str := Str.ofString "ahead_of_variant"
noncomputable def s59 : Str := Str.ofString "present_parts"
noncomputable def s60 : Str := Str.ofString "variant_names"
noncomputable def s61 : Str := Str.ofString "part_names"
noncomputable def s62 : Str := Str.ofString "discs_in"
noncomputable def s63 : Str := Str.ofString "check_field"
noncomputable def s64 : Str := Str.ofString "field_place"
noncomputable def s65 : Str := Str.ofString "check_discs"
noncomputable def s66 : Str := Str.ofString "same_discs"
noncomputable def s67 : Str := Str.ofString "assign_record"
noncomputable def s68 : Str := Str.ofString "ancestor_view"
noncomputable def s69 : Str := Str.ofString "is_in_line"
noncomputable def s70 : Str := Str.ofString "own_part"
noncomputable def s71 : Str := Str.ofString "assigned_part"
noncomputable def s72 : Str := Str.ofString "refuse"
noncomputable def s73 : Str := Str.ofString "bounds_of"
noncomputable def s74 : Str := Str.ofString "in_bounds"
noncomputable def s75 : Str := Str.ofString "is_member"
noncomputable def s76 : Str := Str.ofString "check_range"
noncomputable def s77 : Str := Str.ofString "check_base"
noncomputable def s78 : Str := Str.ofString "check_inner"
noncomputable def s79 : Str := Str.ofString "rounded_quotient"
noncomputable def s80 : Str := Str.ofString "cut_toward_zero"
noncomputable def s81 : Str := Str.ofString "small_of"
noncomputable def s82 : Str := Str.ofString "converted"
noncomputable def s83 : Str := Str.ofString "convert_to"
noncomputable def s84 : Str := Str.ofString "line_head"
noncomputable def s85 : Str := Str.ofString "check_line"
noncomputable def s86 : Str := Str.ofString "index_ranges"
noncomputable def s87 : Str := Str.ofString "fixed_bounds"
noncomputable def s88 : Str := Str.ofString "array_fitted"
noncomputable def s89 : Str := Str.ofString "record_fitted"
noncomputable def s90 : Str := Str.ofString "fit_value"
noncomputable def s91 : Str := Str.ofString "record_converted"
noncomputable def s92 : Str := Str.ofString "real_converted"
noncomputable def s93 : Str := Str.ofString "check_bases"
noncomputable def s94 : Str := Str.ofString "conv_value"
noncomputable def s95 : Str := Str.ofString "Frame"
noncomputable def s96 : Str := Str.ofString "Run"
noncomputable def s97 : Str := Str.ofString "frame_at"
noncomputable def s98 : Str := Str.ofString "frame_of_type"
noncomputable def s99 : Str := Str.ofString "held_at"
noncomputable def s100 : Str := Str.ofString "told_value"
noncomputable def s101 : Str := Str.ofString "laid_type"
noncomputable def s102 : Str := Str.ofString "laid_subtype"
noncomputable def s103 : Str := Str.ofString "named_subtype"
noncomputable def s104 : Str := Str.ofString "range_elaborated"
noncomputable def s105 : Str := Str.ofString "check_disc_values"
noncomputable def s106 : Str := Str.ofString "elaborated"
noncomputable def s107 : Str := Str.ofString "index_place"
noncomputable def s108 : Str := Str.ofString "field_subtype"
noncomputable def s109 : Str := Str.ofString "placed_subtype"
noncomputable def s110 : Str := Str.ofString "target_subtype"
noncomputable def s111 : Str := Str.ofString "conv_place"
noncomputable def s112 : Str := Str.ofString "is_mutable"
noncomputable def s113 : Str := Str.ofString "store_into"
noncomputable def s114 : Str := Str.ofString "store_checked"
noncomputable def s115 : Str := Str.ofString "row_store"
noncomputable def s116 : Str := Str.ofString "row_layplace"
noncomputable def s117 : Str := Str.ofString "Limits"
noncomputable def s118 : Str := Str.ofString "row_const"
noncomputable def s119 : Str := Str.ofString "row_obj"
noncomputable def s120 : Str := Str.ofString "row_place"
noncomputable def s121 : Str := Str.ofString "row_placecomp"
noncomputable def s122 : Str := Str.ofString "row_placeindex"
noncomputable def s123 : Str := Str.ofString "row_target"
noncomputable def s124 : Str := Str.ofString "Code"
noncomputable def s125 : Str := Str.ofString "FRESH"
noncomputable def s126 : Str := Str.ofString "fresh"
noncomputable def s127 : Str := Str.ofString "TaskThing"
noncomputable def s128 : Str := Str.ofString "_law_kinds"
noncomputable def s129 : Str := Str.ofString "_law_ranges"
noncomputable def s130 : Str := Str.ofString "_law_tap"
noncomputable def s131 : Str := Str.ofString "_law_run"
noncomputable def s132 : Str := Str.ofString "_law_node"
noncomputable def s133 : Str := Str.ofString "_law_target"
noncomputable def s134 : Str := Str.ofString "_law_is_stored"
noncomputable def s135 : Str := Str.ofString "_law_values"
noncomputable def s136 : Str := Str.ofString "law"
noncomputable def s137 : Str := Str.ofString "<module>"
noncomputable def s138 : Str := Str.ofString "__main__"
noncomputable def s139 : Str := Str.ofString "k"
noncomputable def s140 : Str := Str.ofString "__module__"
noncomputable def s141 : Str := Str.ofString "adacore.machine"
noncomputable def s142 : Str := Str.ofString "__qualname__"
noncomputable def s143 : Str := Str.ofString "__firstlineno__"
noncomputable def s144 : Str := Str.ofString "__init__"
noncomputable def s145 : Str := Str.ofString "__static_attributes__"
noncomputable def s146 : Str := Str.ofString "self"
noncomputable def s147 : Str := Str.ofString "code"
noncomputable def s148 : Str := Str.ofString "Act.__init__"
noncomputable def s149 : Str := Str.ofString "at"
noncomputable def s150 : Str := Str.ofString "call"
noncomputable def s151 : Str := Str.ofString "entries"
noncomputable def s152 : Str := Str.ofString "__dict__"
noncomputable def s153 : Str := Str.ofString "__weakref__"
noncomputable def s154 : Str := Str.ofString "act"
noncomputable def s155 : Str := Str.ofString "count"
noncomputable def s156 : Str := Str.ofString "found"
noncomputable def s157 : Str := Str.ofString "adacore.errors"
noncomputable def s158 : Str := Str.ofString "text"
noncomputable def s159 : Str := Str.ofString "AdaError.__init__"
noncomputable def s160 : Str := Str.ofString "line"
noncomputable def s161 : Str := Str.ofString "CheckFault.__init__"
noncomputable def s162 : Str := Str.ofString "name"
noncomputable def s163 : Str := Str.ofString "AdaRaise.__init__"
noncomputable def s164 : Str := Str.ofString "word"
noncomputable def s165 : Str := Str.ofString "adacore.values"
noncomputable def s166 : Str := Str.ofString "Unset.__init__"
noncomputable def s167 : Str := Str.ofString "value"
noncomputable def s168 : Str := Str.ofString "number"
noncomputable def s169 : Str := Str.ofString "Cell.__init__"
noncomputable def s170 : Str := Str.ofString "subtype"
noncomputable def s171 : Str := Str.ofString "make_cell"
noncomputable def s172 : Str := Str.ofString "CellMaker.__init__"
noncomputable def s173 : Str := Str.ofString "CellMaker.make_cell"
noncomputable def s174 : Str := Str.ofString "last"
noncomputable def s175 : Str := Str.ofString "bounds"
noncomputable def s176 : Str := Str.ofString "items"
noncomputable def s177 : Str := Str.ofString "ArrayValue.__init__"
noncomputable def s178 : Str := Str.ofString "t"
noncomputable def s179 : Str := Str.ofString "fields"
noncomputable def s180 : Str := Str.ofString "RecordValue.__init__"
noncomputable def s181 : Str := Str.ofString "type"
noncomputable def s182 : Str := Str.ofString "old"
noncomputable def s183 : Str := Str.ofString "place"
noncomputable def s184 : Str := Str.ofString "low"
noncomputable def s185 : Str := Str.ofString "high"
noncomputable def s186 : Str := Str.ofString "record"
noncomputable def s187 : Str := Str.ofString "adacore.arrays"
noncomputable def s188 : Str := Str.ofString "indexes"
noncomputable def s189 : Str := Str.ofString "offset"
noncomputable def s190 : Str := Str.ofString "ranges"
noncomputable def s191 : Str := Str.ofString "least"
noncomputable def s192 : Str := Str.ofString "most"
noncomputable def s193 : Str := Str.ofString "enum"
noncomputable def s194 : Str := Str.ofString "int"
noncomputable def s195 : Str := Str.ofString "mod"
noncomputable def s196 : Str := Str.ofString "fixed"
noncomputable def s197 : Str := Str.ofString "universal"
noncomputable def s198 : Str := Str.ofString "adacore.types"
noncomputable def s199 : Str := Str.ofString "kind"
noncomputable def s200 : Str := Str.ofString "Type.__init__"
noncomputable def s201 : Str := Str.ofString "component"
noncomputable def s202 : Str := Str.ofString "components"
noncomputable def s203 : Str := Str.ofString "designated"
noncomputable def s204 : Str := Str.ofString "discriminants"
noncomputable def s205 : Str := Str.ofString "index"
noncomputable def s206 : Str := Str.ofString "is_abstract"
noncomputable def s207 : Str := Str.ofString "is_constant"
noncomputable def s208 : Str := Str.ofString "is_constrained"
noncomputable def s209 : Str := Str.ofString "is_late"
noncomputable def s210 : Str := Str.ofString "is_limited"
noncomputable def s211 : Str := Str.ofString "is_private"
noncomputable def s212 : Str := Str.ofString "is_tagged"
noncomputable def s213 : Str := Str.ofString "literals"
noncomputable def s214 : Str := Str.ofString "modulus"
noncomputable def s215 : Str := Str.ofString "operations"
noncomputable def s216 : Str := Str.ofString "parent"
noncomputable def s217 : Str := Str.ofString "small"
noncomputable def s218 : Str := Str.ofString "variant"
noncomputable def s219 : Str := Str.ofString "wide"
noncomputable def s220 : Str := Str.ofString "constraint"
noncomputable def s221 : Str := Str.ofString "Subtype.__init__"
noncomputable def s222 : Str := Str.ofString "made"
noncomputable def s223 : Str := Str.ofString "a"
noncomputable def s224 : Str := Str.ofString "b"
noncomputable def s225 : Str := Str.ofString "turns"
noncomputable def s226 : Str := Str.ofString "behind"
noncomputable def s227 : Str := Str.ofString "adacore.fulltypes"
noncomputable def s228 : Str := Str.ofString "here"
noncomputable def s229 : Str := Str.ofString "adacore.records"
noncomputable def s230 : Str := Str.ofString "choices"
noncomputable def s231 : Str := Str.ofString "discs"
noncomputable def s232 : Str := Str.ofString "alternative"
noncomputable def s233 : Str := Str.ofString "first"
noncomputable def s234 : Str := Str.ofString "default"
noncomputable def s235 : Str := Str.ofString "due"
noncomputable def s236 : Str := Str.ofString "target"
noncomputable def s237 : Str := Str.ofString "source"
noncomputable def s238 : Str := Str.ofString "is_fixed"
noncomputable def s239 : Str := Str.ofString "own"
noncomputable def s240 : Str := Str.ofString "ancestor"
noncomputable def s241 : Str := Str.ofString "adacore.scalars"
noncomputable def s242 : Str := Str.ofString "num"
noncomputable def s243 : Str := Str.ofString "den"
noncomputable def s244 : Str := Str.ofString "q"
noncomputable def s245 : Str := Str.ofString "adacore.nodevalues"
noncomputable def s246 : Str := Str.ofString "ratio"
noncomputable def s247 : Str := Str.ofString "adacore.frames"
noncomputable def s248 : Str := Str.ofString "sub"
noncomputable def s249 : Str := Str.ofString "Frame.__init__"
noncomputable def s250 : Str := Str.ofString "names"
noncomputable def s251 : Str := Str.ofString "types"
noncomputable def s252 : Str := Str.ofString "world"
noncomputable def s253 : Str := Str.ofString "limits"
noncomputable def s254 : Str := Str.ofString "Run.__init__"
noncomputable def s255 : Str := Str.ofString "about"
noncomputable def s256 : Str := Str.ofString "activate"
noncomputable def s257 : Str := Str.ofString "call_function"
noncomputable def s258 : Str := Str.ofString "cells"
noncomputable def s259 : Str := Str.ofString "declarations"
noncomputable def s260 : Str := Str.ofString "dispatch_function"
noncomputable def s261 : Str := Str.ofString "drops"
noncomputable def s262 : Str := Str.ofString "ends"
noncomputable def s263 : Str := Str.ofString "fault"
noncomputable def s264 : Str := Str.ofString "find_sub"
noncomputable def s265 : Str := Str.ofString "function_result"
noncomputable def s266 : Str := Str.ofString "heaped"
noncomputable def s267 : Str := Str.ofString "is_free"
noncomputable def s268 : Str := Str.ofString "lay_operation"
noncomputable def s269 : Str := Str.ofString "make_active"
noncomputable def s270 : Str := Str.ofString "nodes"
noncomputable def s271 : Str := Str.ofString "passed"
noncomputable def s272 : Str := Str.ofString "piled"
noncomputable def s273 : Str := Str.ofString "prot"
noncomputable def s274 : Str := Str.ofString "resumes"
noncomputable def s275 : Str := Str.ofString "run_entry"
noncomputable def s276 : Str := Str.ofString "run_procedure"
noncomputable def s277 : Str := Str.ofString "statements"
noncomputable def s278 : Str := Str.ofString "steps"
noncomputable def s279 : Str := Str.ofString "task"
noncomputable def s280 : Str := Str.ofString "task_attr"
noncomputable def s281 : Str := Str.ofString "tasking"
noncomputable def s282 : Str := Str.ofString "run"
noncomputable def s283 : Str := Str.ofString "ups"
noncomputable def s284 : Str := Str.ofString "frame"
noncomputable def s285 : Str := Str.ofString "turn"
noncomputable def s286 : Str := Str.ofString "part"
noncomputable def s287 : Str := Str.ofString "adacore.subtypes"
noncomputable def s288 : Str := Str.ofString "held"
noncomputable def s289 : Str := Str.ofString "mark"
noncomputable def s290 : Str := Str.ofString "pairs"
noncomputable def s291 : Str := Str.ofString "told"
noncomputable def s292 : Str := Str.ofString "row"
noncomputable def s293 : Str := Str.ofString "base"
noncomputable def s294 : Str := Str.ofString "adacore.runplaces"
noncomputable def s295 : Str := Str.ofString "waiting"
noncomputable def s296 : Str := Str.ofString "rows"
noncomputable def s297 : Str := Str.ofString "inner"
noncomputable def s298 : Str := Str.ofString "deeper"
noncomputable def s299 : Str := Str.ofString "node"
noncomputable def s300 : Str := Str.ofString "is_row"
noncomputable def s301 : Str := Str.ofString "machine"
noncomputable def s302 : Str := Str.ofString "adacore.machinestmts"
noncomputable def s303 : Str := Str.ofString "adacore.limits"
noncomputable def s304 : Str := Str.ofString "width"
noncomputable def s305 : Str := Str.ofString "depth"
noncomputable def s306 : Str := Str.ofString "members"
noncomputable def s307 : Str := Str.ofString "tasks"
noncomputable def s308 : Str := Str.ofString "heap"
noncomputable def s309 : Str := Str.ofString "Limits.__init__"
noncomputable def s310 : Str := Str.ofString "adacore.machinerows"
noncomputable def s311 : Str := Str.ofString "adacore.ops"
noncomputable def s312 : Str := Str.ofString "codes"
noncomputable def s313 : Str := Str.ofString "Code.__init__"
noncomputable def s314 : Str := Str.ofString "barrier"
noncomputable def s315 : Str := Str.ofString "adacore.rendezvous"
noncomputable def s316 : Str := Str.ofString "master"
noncomputable def s317 : Str := Str.ofString "TaskThing.__init__"
noncomputable def s318 : Str := Str.ofString "activator"
noncomputable def s319 : Str := Str.ofString "answer"
noncomputable def s320 : Str := Str.ofString "bases"
noncomputable def s321 : Str := Str.ofString "caught"
noncomputable def s322 : Str := Str.ofString "has_failed"
noncomputable def s323 : Str := Str.ofString "inside"
noncomputable def s324 : Str := Str.ofString "is_abnormal"
noncomputable def s325 : Str := Str.ofString "late"
noncomputable def s326 : Str := Str.ofString "leaving"
noncomputable def s327 : Str := Str.ofString "masters"
noncomputable def s328 : Str := Str.ofString "open"
noncomputable def s329 : Str := Str.ofString "pending"
noncomputable def s330 : Str := Str.ofString "queues"
noncomputable def s331 : Str := Str.ofString "raised"
noncomputable def s332 : Str := Str.ofString "result"
noncomputable def s333 : Str := Str.ofString "resume"
noncomputable def s334 : Str := Str.ofString "serving"
noncomputable def s335 : Str := Str.ofString "stack"
noncomputable def s336 : Str := Str.ofString "state"
noncomputable def s337 : Str := Str.ofString "wake"
noncomputable def s338 : Str := Str.ofString "whole"
noncomputable def s339 : Str := Str.ofString "law_xw0017_01"
noncomputable def s340 : Str := Str.ofString "well"
noncomputable def s341 : Str := Str.ofString "many"
noncomputable def s342 : Str := Str.ofString "kinds"
noncomputable def s343 : Str := Str.ofString "things"
noncomputable def s344 : Str := Str.ofString "cell"
noncomputable def s345 : Str := Str.ofString "which"
noncomputable def s346 : Str := Str.ofString "script"
noncomputable def s347 : Str := Str.ofString "deep"
noncomputable def s348 : Str := Str.ofString "other"
noncomputable def s349 : Str := Str.ofString "is_right"
noncomputable def s350 : Str := Str.ofString "__name__"
noncomputable def o2 (P : Params) : Obj := ⟨vn, none, .dict #[de P s0 265 (vi 66 0), de P s1 266 (vi 1 0)] 2, #[]⟩
noncomputable def nsTail (P : Params) : List DictEntry := [de P s2 166 vn, de P s3 167 vn, de P s4 168 (vB "__main__.__loader__#opaque"), de P s5 169 vn, de P s6 170 (vr 6), de P s7 171 (vr 4), de P s8 173 (vs s9 172), de P s10 174 vn, de P s11 193 (vr 21), de P s12 227 (vr 38), de P s13 237 (vr 49), de P s14 268 (vr 66), de P s15 294 (vr 86), de P s16 323 (vr 105), de P s17 353 (vr 124), de P s18 385 (vr 145), de P s19 421 (vr 173), de P s20 452 (vr 194), de P s21 483 (vr 215), de P s22 490 (vr 226), de P s23 496 (vr 231), de P s24 507 (vr 238), de P s25 513 (vr 243), de P s26 523 (vr 250), de P s27 531 (vr 257), de P s28 537 (vr 262), de P s29 543 (vr 267), de P s30 547 (vs s31 546), de P s32 554 (vr 274), de P s33 562 (vr 281), de P s34 574 (vr 288), de P s35 582 (vr 295), de P s36 588 (vr 300), de P s37 594 (vr 305), de P s38 607 (vr 312), de P s39 615 (vr 313), de P s40 668 (vr 330), de P s41 699 (vr 351), de P s42 709 (vr 362), de P s43 720 (vr 369), de P s44 731 (vr 376), de P s45 739 (vr 383), de P s46 747 (vr 390), de P s47 754 (vr 397), de P s48 761 (vr 404), de P s49 768 (vr 411), de P s50 772 (vi 41 771), de P s51 781 (vr 418), de P s52 788 (vr 425), de P s53 792 (vi 40 791), de P s54 801 (vr 432), de P s55 811 (vr 439), de P s56 821 (vr 446), de P s57 832 (vr 453), de P s58 839 (vr 460), de P s59 848 (vr 467), de P s60 854 (vr 472), de P s61 860 (vr 477), de P s62 871 (vr 484), de P s63 879 (vr 491), de P s64 887 (vr 498), de P s65 897 (vr 505), de P s66 903 (vr 510), de P s67 915 (vr 517), de P s68 928 (vr 524), de P s69 936 (vr 531), de P s70 944 (vr 538), de P s71 953 (vr 545), de P s72 962 (vr 552), de P s73 969 (vr 559), de P s74 978 (vr 566), de P s75 988 (vr 573), de P s76 996 (vr 580), de P s77 1004 (vr 587), de P s78 1013 (vr 594), de P s79 1022 (vr 601), de P s80 1031 (vr 608), de P s81 1038 (vr 615), de P s82 1049 (vr 622), de P s83 1058 (vr 629), de P s84 1067 (vr 636), de P s85 1075 (vr 643), de P s86 1081 (vr 648), de P s87 1088 (vr 655), de P s88 1097 (vr 662), de P s89 1106 (vr 669), de P s90 1115 (vr 676), de P s91 1125 (vr 683), de P s92 1135 (vr 690), de P s93 1146 (vr 697), de P s94 1156 (vr 704), de P s95 1191 (vr 721), de P s96 1251 (vr 742), de P s97 1261 (vr 753), de P s98 1270 (vr 760), de P s99 1280 (vr 767), de P s100 1290 (vr 774), de P s101 1299 (vr 781), de P s102 1305 (vr 786), de P s103 1314 (vr 793), de P s104 1325 (vr 800), de P s105 1338 (vr 807), de P s106 1344 (vr 812), de P s107 1356 (vr 819), de P s108 1371 (vr 826), de P s109 1380 (vr 833), de P s110 1390 (vr 840), de P s111 1400 (vr 847), de P s112 1406 (vr 852), de P s113 1416 (vr 859), de P s114 1427 (vr 866), de P s115 1440 (vr 873), de P s116 1451 (vr 880), de P s117 1509 (vr 898), de P s118 1520 (vr 909), de P s119 1530 (vr 916), de P s120 1540 (vr 923), de P s121 1549 (vr 930), de P s122 1559 (vr 937), de P s123 1569 (vr 944), de P s124 1606 (vr 961), de P s125 1610 (vs s126 1609), de P s127 1666 (vr 982), de P s128 1677 (vr 993), de P s129 1683 (vr 1000), de P s130 1691 (vr 1007), de P s131 1704 (vr 1014), de P s132 1712 (vr 1021), de P s133 1722 (vr 1028), de P s134 1735 (vr 1035), de P s135 1743 (vr 1042), de P s136 1766 (vr 1049)]
noncomputable def o11 : Obj := tp []
noncomputable def tabL : List Value := [(vi 1 0), (vi 0 0), (vr 20), (vi 5 0), (vi 0 0), (vr 27), (vi 12 0), (vi 0 0), (vr 48), (vi 18 0), (vi 0 0), (vr 55), (vi 23 0), (vi 0 0), (vr 75), (vi 28 0), (vi 0 0), (vr 94), (vi 36 0), (vi 0 0), (vr 113), (vi 40 0), (vi 0 0), (vr 134), (vi 46 0), (vi 0 0), (vr 155), (vi 53 0), (vi 0 0), (vr 183), (vi 58 0), (vi 0 0), (vr 204), (vi 63 0), (vi 0 0), (vr 225), (vi 67 0), (vi 0 0), (vr 230), (vi 76 0), (vi 0 0), (vr 237), (vi 89 0), (vi 0 0), (vr 242), (vi 91 0), (vi 0 0), (vr 249), (vi 95 0), (vi 0 0), (vr 256), (vi 99 0), (vi 0 0), (vr 261), (vi 110 0), (vi 0 0), (vr 266), (vi 127 0), (vi 0 0), (vr 273), (vi 129 0), (vi 0 0), (vr 280), (vi 131 0), (vi 0 0), (vr 287), (vi 139 0), (vi 0 0), (vr 294), (vi 141 0), (vi 0 0), (vr 299), (vi 144 0), (vi 0 0), (vr 304), (vi 147 0), (vi 0 0), (vr 311), (vi 155 0), (vi 0 0), (vr 319), (vi 182 0), (vi 0 0), (vr 340), (vi 187 0), (vi 0 0), (vr 361), (vi 192 0), (vi 0 0), (vr 368), (vi 198 0), (vi 0 0), (vr 375), (vi 205 0), (vi 0 0), (vr 382), (vi 208 0), (vi 0 0), (vr 389), (vi 210 0), (vi 0 0), (vr 396), (vi 212 0), (vi 0 0), (vr 403), (vi 214 0), (vi 0 0), (vr 410), (vi 218 0), (vi 0 0), (vr 417), (vi 227 0), (vi 0 0), (vr 424), (vi 233 0), (vi 0 0), (vr 431), (vi 242 0), (vi 0 0), (vr 438), (vi 249 0), (vi 0 0), (vr 445), (vi 255 0), (vi 0 0), (vr 452), (vi 263 0), (vi 0 0), (vr 459), (vi 269 0), (vi 0 0), (vr 466), (vi 274 0), (vi 0 0), (vr 471), (vi 285 0), (vi 0 0), (vr 476), (vi 288 0), (vi 0 0), (vr 483), (vi 293 0), (vi 0 0), (vr 490), (vi 296 0), (vi 0 0), (vr 497), (vi 299 0), (vi 0 0), (vr 504), (vi 303 0), (vi 0 0), (vr 509), (vi 307 0), (vi 0 0), (vr 516), (vi 316 0), (vi 0 0), (vr 523), (vi 324 0), (vi 0 0), (vr 530), (vi 326 0), (vi 0 0), (vr 537), (vi 330 0), (vi 0 0), (vr 544), (vi 335 0), (vi 0 0), (vr 551), (vi 337 0), (vi 0 0), (vr 558), (vi 341 0), (vi 0 0), (vr 565), (vi 343 0), (vi 0 0), (vr 572), (vi 346 0), (vi 0 0), (vr 579), (vi 350 0), (vi 0 0), (vr 586), (vi 354 0), (vi 0 0), (vr 593), (vi 359 0), (vi 0 0), (vr 600), (vi 364 0), (vi 0 0), (vr 607), (vi 369 0), (vi 0 0), (vr 614), (vi 373 0), (vi 0 0), (vr 621), (vi 379 0), (vi 0 0), (vr 628), (vi 382 0), (vi 0 0), (vr 635), (vi 384 0), (vi 0 0), (vr 642), (vi 387 0), (vi 0 0), (vr 647), (vi 389 0), (vi 0 0), (vr 654), (vi 396 0), (vi 0 0), (vr 661), (vi 402 0), (vi 0 0), (vr 668), (vi 409 0), (vi 0 0), (vr 675), (vi 419 0), (vi 0 0), (vr 682), (vi 430 0), (vi 0 0), (vr 689), (vi 437 0), (vi 0 0), (vr 696), (vi 442 0), (vi 0 0), (vr 703), (vi 458 0), (vi 0 0), (vr 710), (vi 465 0), (vi 0 0), (vr 731), (vi 499 0), (vi 0 0), (vr 752), (vi 504 0), (vi 0 0), (vr 759), (vi 509 0), (vi 0 0), (vr 766), (vi 515 0), (vi 0 0), (vr 773), (vi 519 0), (vi 0 0), (vr 780), (vi 526 0), (vi 0 0), (vr 785), (vi 535 0), (vi 0 0), (vr 792), (vi 540 0), (vi 0 0), (vr 799), (vi 548 0), (vi 0 0), (vr 806), (vi 553 0), (vi 0 0), (vr 811), (vi 573 0), (vi 0 0), (vr 818), (vi 580 0), (vi 0 0), (vr 825), (vi 591 0), (vi 0 0), (vr 832), (vi 604 0), (vi 0 0), (vr 839), (vi 612 0), (vi 0 0), (vr 846), (vi 617 0), (vi 0 0), (vr 851), (vi 624 0), (vi 0 0), (vr 858), (vi 628 0), (vi 0 0), (vr 865), (vi 644 0), (vi 0 0), (vr 872), (vi 647 0), (vi 0 0), (vr 879), (vi 655 0), (vi 0 0), (vr 886), (vi 666 0), (vi 0 0), (vr 908), (vi 668 0), (vi 0 0), (vr 915), (vi 671 0), (vi 0 0), (vr 922), (vi 674 0), (vi 0 0), (vr 929), (vi 676 0), (vi 0 0), (vr 936), (vi 679 0), (vi 0 0), (vr 943), (vi 683 0), (vi 0 0), (vr 950), (vi 693 0), (vi 0 0), (vr 971), (vi 723 0), (vi 0 0), (vr 992), (vi 728 0), (vi 0 0), (vr 999), (vi 730 0), (vi 0 0), (vr 1006), (vi 735 0), (vi 0 0), (vr 1013), (vi 745 0), (vi 0 0), (vr 1020), (vi 751 0), (vi 0 0), (vr 1027), (vi 762 0), (vi 0 0), (vr 1034), (vi 774 0), (vi 0 0), (vr 1041), (vi 777 0), (vi 0 0), (vr 1048)]
noncomputable def o13 : Obj := ⟨(vt "code"), none, .fields #[(vs s137 182), (vs s137 183), (vs s9 184), (vi 1 0), (vi 0 0), (vi 0 0), (vi 0 0), (vi 0 0), (vr 11), (vb false), (vi 181 0), (vr 12), vn, vn, vn, vn, (vi 185 0), (vi 1 0), (vs s9 186)], #[]⟩
noncomputable def o14 : Obj := ⟨(vt "frame"), none, .plain, #[(some (vr 13)), (some (vr 3)), (some (vr 3)), none, (some (vs s138 164)), none, (some (vr 0))]⟩
noncomputable def o15 : Obj := tp []
noncomputable def o16 : Obj := ⟨vn, none, .fields #[], #[]⟩
noncomputable def o17 : Obj := tp [(vs s139 190)]
noncomputable def o18 : Obj := tp []
noncomputable def o19 : Obj := fO vn s11 s11 (T 0) 0 vn vn vn 0
noncomputable def o20 : Obj := ⟨(vt "code"), none, .fields #[(vs s11 187), (vs s11 188), (vs s9 189), (vi 1 0), (vi 1 0), (vi 0 0), (vi 0 0), (vi 3 0), (vr 15), (vb true), (vi 181 0), (vr 16), vn, (vr 17), (vr 18), (vr 19), (vi 191 0), (vi 1 0), (vs s9 192)], #[]⟩
noncomputable def o21 : Obj := fO (vt "function") s11 s11 (T 0) 3 vn (vs s138 164) (vr 20) 0
noncomputable def o22 : Obj := tp []
noncomputable def o23 : Obj := ⟨(vt "builtin_function_or_method"), none, .fields #[(vB "type.__prepare__"), (vt "type")], #[]⟩
noncomputable def o24 (P : Params) : Obj := ⟨(vt "dict"), none, .dict #[de P s140 203 (vs s141 194), de P s142 205 (vs s12 204), de P s143 207 (vi 5 206), de P s144 215 (vr 35), de P s145 220 (vr 36)] 5, #[]⟩
noncomputable def o25 : Obj := tp []
noncomputable def o26 : Obj := ⟨vn, none, .fields #[(vi 7 0), (vi 4 0), (vr 34)], #[]⟩
noncomputable def o27 : Obj := ⟨(vt "code"), none, .fields #[(vs s12 198), (vs s12 199), (vs s9 200), (vi 5 0), (vi 0 0), (vi 0 0), (vi 0 0), (vi 0 0), (vr 25), (vb false), (vi 181 0), (vr 26), vn, vn, vn, vn, (vi 201 0), (vi 5 0), (vs s9 202)], #[]⟩
noncomputable def o28 : Obj := ⟨(vt "frame"), none, .plain, #[(some (vr 27)), (some (vr 3)), (some (vr 24)), none, (some (vs s141 194)), none, (some (vr 0))]⟩
noncomputable def o29 : Obj := tp []
noncomputable def o30 : Obj := ⟨vn, none, .fields #[], #[]⟩
noncomputable def o31 : Obj := tp [(vs s146 211), (vs s147 212)]
noncomputable def o32 : Obj := tp []
noncomputable def o33 : Obj := fO vn s144 s148 (M 2 0) 0 vn vn vn 0
noncomputable def o34 : Obj := ⟨(vt "code"), none, .fields #[(vs s144 208), (vs s148 209), (vs s9 210), (vi 7 0), (vi 2 0), (vi 0 0), (vi 0 0), (vi 3 0), (vr 29), (vb true), (vi 181 0), (vr 30), vn, (vr 31), (vr 32), (vr 33), (vi 213 0), (vi 7 0), (vs s9 214)], #[]⟩
noncomputable def o35 : Obj := fO (vt "function") s144 s148 (M 2 0) 3 vn (vs s141 194) (vr 34) 0
noncomputable def o36 : Obj := tp [(vs s149 216), (vs s150 217), (vs s147 218), (vs s151 219)]
noncomputable def o37 (P : Params) : Obj := ⟨(vt "dict"), none, .dict #[de P s140 203 (vs s141 194), de P s143 207 (vi 5 206), de P s144 215 (vr 35), de P s145 220 (vr 36), de P s152 222 (vr 39), de P s153 224 (vr 40), de P s2 225 vn] 4, #[]⟩
noncomputable def o38 : Obj := ⟨(vt "type"), none, .cls ⟨s12, [(vt "object")], [(vr 38), (vt "object")], 37, s12, true, [], [], false, none, false⟩, #[none, none, (some (vs s12 196)), (some (vs s12 204)), (some (vB "object.__new__")), (some (vb true))]⟩
noncomputable def o39 : Obj := ⟨(vt "getset_descriptor"), none, .fields #[(vs s152 221), (vr 38), (vB "function.__dict__"), (vB "function.__dict__#set")], #[]⟩
noncomputable def o40 : Obj := ⟨(vt "getset_descriptor"), none, .fields #[(vs s153 223), (vr 38), (vB "ExceptionGroup.__weakref__"), vn], #[]⟩
noncomputable def o41 : Obj := ⟨(vt "super"), none, .fields #[(vr 38), (vr 38), (vr 38)], #[]⟩
noncomputable def o42 : Obj := ⟨(vt "builtin_function_or_method"), none, .fields #[(vB "object.__init_subclass__"), (vr 38)], #[]⟩
noncomputable def o43 : Obj := tp []
noncomputable def o44 : Obj := ⟨vn, none, .fields #[], #[]⟩
noncomputable def o45 : Obj := tp [(vs s154 231), (vs s155 232), (vs s149 233), (vs s156 234)]
noncomputable def o46 : Obj := tp []
noncomputable def o47 : Obj := fO vn s13 s13 (T 3) 0 vn vn vn 0
noncomputable def o48 : Obj := ⟨(vt "code"), none, .fields #[(vs s13 228), (vs s13 229), (vs s9 230), (vi 12 0), (vi 2 0), (vi 0 0), (vi 0 0), (vi 3 0), (vr 43), (vb true), (vi 181 0), (vr 44), vn, (vr 45), (vr 46), (vr 47), (vi 235 0), (vi 12 0), (vs s9 236)], #[]⟩
noncomputable def o49 : Obj := fO (vt "function") s13 s13 (T 3) 3 vn (vs s141 194) (vr 48) 0
noncomputable def o50 : Obj := tp [(vt "Exception")]
noncomputable def o51 : Obj := ⟨(vt "builtin_function_or_method"), none, .fields #[(vB "type.__prepare__"), (vt "type")], #[]⟩
noncomputable def o52 (P : Params) : Obj := ⟨(vt "dict"), none, .dict #[de P s140 247 (vs s157 238), de P s142 249 (vs s14 248), de P s143 251 (vi 18 250), de P s144 259 (vr 63), de P s145 261 (vr 64)] 5, #[]⟩
noncomputable def o53 : Obj := tp []
noncomputable def o54 : Obj := ⟨vn, none, .fields #[(vi 20 0), (vi 4 0), (vr 62)], #[]⟩
noncomputable def o55 : Obj := ⟨(vt "code"), none, .fields #[(vs s14 242), (vs s14 243), (vs s9 244), (vi 18 0), (vi 0 0), (vi 0 0), (vi 0 0), (vi 0 0), (vr 53), (vb false), (vi 181 0), (vr 54), vn, vn, vn, vn, (vi 245 0), (vi 18 0), (vs s9 246)], #[]⟩
noncomputable def o56 : Obj := ⟨(vt "frame"), none, .plain, #[(some (vr 55)), (some (vr 3)), (some (vr 52)), none, (some (vs s157 238)), none, (some (vr 0))]⟩
noncomputable def o57 : Obj := tp []
noncomputable def o58 : Obj := ⟨vn, none, .fields #[], #[]⟩
noncomputable def o59 : Obj := tp [(vs s146 255), (vs s158 256)]
noncomputable def o60 : Obj := tp []
noncomputable def o61 : Obj := fO vn s144 s159 (M 5 0) 0 vn vn vn 0
noncomputable def o62 : Obj := ⟨(vt "code"), none, .fields #[(vs s144 252), (vs s159 253), (vs s9 254), (vi 20 0), (vi 2 0), (vi 0 0), (vi 0 0), (vi 3 0), (vr 57), (vb true), (vi 181 0), (vr 58), vn, (vr 59), (vr 60), (vr 61), (vi 257 0), (vi 20 0), (vs s9 258)], #[]⟩
noncomputable def o63 : Obj := fO (vt "function") s144 s159 (M 5 0) 3 vn (vs s157 238) (vr 62) 0
noncomputable def o64 : Obj := tp [(vs s158 260)]
noncomputable def o65 (P : Params) : Obj := ⟨(vt "dict"), none, .dict #[de P s140 247 (vs s157 238), de P s143 251 (vi 18 250), de P s144 259 (vr 63), de P s145 261 (vr 64), de P s153 263 (vr 67), de P s2 264 vn] 3, #[]⟩
noncomputable def o66 : Obj := ⟨(vt "type"), none, .cls ⟨s14, [(vt "Exception")], [(vr 66), (vt "Exception"), (vt "BaseException"), (vt "object")], 65, s14, true, [], [(vr 86), (vr 105)], false, none, false⟩, #[(some (vr 50)), none, (some (vs s14 240)), (some (vs s14 248)), (some (vB "Exception.__new__")), (some (vb true))]⟩
noncomputable def o67 : Obj := ⟨(vt "getset_descriptor"), none, .fields #[(vs s153 262), (vr 66), (vB "ExceptionGroup.__weakref__"), vn], #[]⟩
noncomputable def o68 : Obj := ⟨(vt "super"), none, .fields #[(vr 66), (vr 66), (vr 66)], #[]⟩
noncomputable def o69 : Obj := ⟨(vt "builtin_function_or_method"), none, .fields #[(vB "object.__init_subclass__"), (vr 66)], #[]⟩
noncomputable def o70 : Obj := tp [(vr 66)]
noncomputable def o71 : Obj := ⟨(vt "builtin_function_or_method"), none, .fields #[(vB "type.__prepare__"), (vt "type")], #[]⟩
noncomputable def o72 (P : Params) : Obj := ⟨(vt "dict"), none, .dict #[de P s140 276 (vs s157 238), de P s142 278 (vs s15 277), de P s143 280 (vi 23 279), de P s144 289 (vr 83), de P s145 291 (vr 84)] 5, #[]⟩
noncomputable def o73 : Obj := tp []
noncomputable def o74 : Obj := ⟨vn, none, .fields #[(vi 25 0), (vi 4 0), (vr 82)], #[]⟩
noncomputable def o75 : Obj := ⟨(vt "code"), none, .fields #[(vs s15 271), (vs s15 272), (vs s9 273), (vi 23 0), (vi 0 0), (vi 0 0), (vi 0 0), (vi 0 0), (vr 73), (vb false), (vi 181 0), (vr 74), vn, vn, vn, vn, (vi 274 0), (vi 23 0), (vs s9 275)], #[]⟩
noncomputable def o76 : Obj := ⟨(vt "frame"), none, .plain, #[(some (vr 75)), (some (vr 3)), (some (vr 72)), none, (some (vs s157 238)), none, (some (vr 0))]⟩
noncomputable def o77 : Obj := tp []
noncomputable def o78 : Obj := ⟨vn, none, .fields #[], #[]⟩
noncomputable def o79 : Obj := tp [(vs s146 284), (vs s160 285), (vs s158 286)]
noncomputable def o80 : Obj := tp []
noncomputable def o81 : Obj := fO vn s144 s161 (M 6 0) 0 vn vn vn 0
noncomputable def o82 : Obj := ⟨(vt "code"), none, .fields #[(vs s144 281), (vs s161 282), (vs s9 283), (vi 25 0), (vi 3 0), (vi 0 0), (vi 0 0), (vi 3 0), (vr 77), (vb true), (vi 181 0), (vr 78), vn, (vr 79), (vr 80), (vr 81), (vi 287 0), (vi 25 0), (vs s9 288)], #[]⟩
noncomputable def o83 : Obj := fO (vt "function") s144 s161 (M 6 0) 3 vn (vs s157 238) (vr 82) 0
noncomputable def o84 : Obj := tp [(vs s160 290)]
noncomputable def o85 (P : Params) : Obj := ⟨(vt "dict"), none, .dict #[de P s140 276 (vs s157 238), de P s143 280 (vi 23 279), de P s144 289 (vr 83), de P s145 291 (vr 84), de P s2 292 vn] 2, #[]⟩
noncomputable def o86 : Obj := ⟨(vt "type"), none, .cls ⟨s15, [(vr 66)], [(vr 86), (vr 66), (vt "Exception"), (vt "BaseException"), (vt "object")], 85, s15, true, [], [], false, none, false⟩, #[(some (vr 70)), none, (some (vs s15 269)), (some (vs s15 277)), (some (vB "Exception.__new__")), (some (vb true))]⟩
noncomputable def o87 : Obj := ⟨(vt "super"), none, .fields #[(vr 86), (vr 86), (vr 86)], #[]⟩
noncomputable def o88 : Obj := ⟨(vt "builtin_function_or_method"), none, .fields #[(vB "object.__init_subclass__"), (vr 86)], #[]⟩
noncomputable def o89 : Obj := tp [(vr 66)]
noncomputable def o90 : Obj := ⟨(vt "builtin_function_or_method"), none, .fields #[(vB "type.__prepare__"), (vt "type")], #[]⟩
noncomputable def o91 (P : Params) : Obj := ⟨(vt "dict"), none, .dict #[de P s140 302 (vs s157 238), de P s142 304 (vs s16 303), de P s143 306 (vi 28 305), de P s144 316 (vr 102), de P s145 320 (vr 103)] 5, #[]⟩
noncomputable def o92 : Obj := tp []
noncomputable def o93 : Obj := ⟨vn, none, .fields #[(vi 30 0), (vi 4 0), (vr 101)], #[]⟩
noncomputable def o94 : Obj := ⟨(vt "code"), none, .fields #[(vs s16 297), (vs s16 298), (vs s9 299), (vi 28 0), (vi 0 0), (vi 0 0), (vi 0 0), (vi 0 0), (vr 92), (vb false), (vi 181 0), (vr 93), vn, vn, vn, vn, (vi 300 0), (vi 28 0), (vs s9 301)], #[]⟩
noncomputable def o95 : Obj := ⟨(vt "frame"), none, .plain, #[(some (vr 94)), (some (vr 3)), (some (vr 91)), none, (some (vs s157 238)), none, (some (vr 0))]⟩
noncomputable def o96 : Obj := tp []
noncomputable def o97 : Obj := ⟨vn, none, .fields #[], #[]⟩
noncomputable def o98 : Obj := tp [(vs s146 310), (vs s162 311), (vs s160 312), (vs s158 313)]
noncomputable def o99 : Obj := tp []
noncomputable def o100 : Obj := fO vn s144 s163 (M 7 0) 0 vn vn vn 0
noncomputable def o101 : Obj := ⟨(vt "code"), none, .fields #[(vs s144 307), (vs s163 308), (vs s9 309), (vi 30 0), (vi 4 0), (vi 0 0), (vi 0 0), (vi 3 0), (vr 96), (vb true), (vi 181 0), (vr 97), vn, (vr 98), (vr 99), (vr 100), (vi 314 0), (vi 30 0), (vs s9 315)], #[]⟩
noncomputable def o102 : Obj := fO (vt "function") s144 s163 (M 7 0) 3 vn (vs s157 238) (vr 101) 0
noncomputable def o103 : Obj := tp [(vs s160 317), (vs s162 318), (vs s164 319)]
noncomputable def o104 (P : Params) : Obj := ⟨(vt "dict"), none, .dict #[de P s140 302 (vs s157 238), de P s143 306 (vi 28 305), de P s144 316 (vr 102), de P s145 320 (vr 103), de P s2 321 vn] 2, #[]⟩
noncomputable def o105 : Obj := ⟨(vt "type"), none, .cls ⟨s16, [(vr 66)], [(vr 105), (vr 66), (vt "Exception"), (vt "BaseException"), (vt "object")], 104, s16, true, [], [], false, none, false⟩, #[(some (vr 89)), none, (some (vs s16 295)), (some (vs s16 303)), (some (vB "Exception.__new__")), (some (vb true))]⟩
noncomputable def o106 : Obj := ⟨(vt "super"), none, .fields #[(vr 105), (vr 105), (vr 105)], #[]⟩
noncomputable def o107 : Obj := ⟨(vt "builtin_function_or_method"), none, .fields #[(vB "object.__init_subclass__"), (vr 105)], #[]⟩
noncomputable def o108 : Obj := tp []
noncomputable def o109 : Obj := ⟨(vt "builtin_function_or_method"), none, .fields #[(vB "type.__prepare__"), (vt "type")], #[]⟩
noncomputable def o110 (P : Params) : Obj := ⟨(vt "dict"), none, .dict #[de P s140 333 (vs s165 324), de P s142 335 (vs s17 334), de P s143 337 (vi 36 336), de P s144 344 (vr 121), de P s145 346 (vr 122)] 5, #[]⟩
noncomputable def o111 : Obj := tp []
noncomputable def o112 : Obj := ⟨vn, none, .fields #[(vi 38 0), (vi 4 0), (vr 120)], #[]⟩
noncomputable def o113 : Obj := ⟨(vt "code"), none, .fields #[(vs s17 328), (vs s17 329), (vs s9 330), (vi 36 0), (vi 0 0), (vi 0 0), (vi 0 0), (vi 0 0), (vr 111), (vb false), (vi 181 0), (vr 112), vn, vn, vn, vn, (vi 331 0), (vi 36 0), (vs s9 332)], #[]⟩
noncomputable def o114 : Obj := ⟨(vt "frame"), none, .plain, #[(some (vr 113)), (some (vr 3)), (some (vr 110)), none, (some (vs s165 324)), none, (some (vr 0))]⟩
noncomputable def o115 : Obj := tp []
noncomputable def o116 : Obj := ⟨vn, none, .fields #[], #[]⟩
noncomputable def o117 : Obj := tp [(vs s146 341)]
noncomputable def o118 : Obj := tp []
noncomputable def o119 : Obj := fO vn s144 s166 (M 9 0) 0 vn vn vn 0
noncomputable def o120 : Obj := ⟨(vt "code"), none, .fields #[(vs s144 338), (vs s166 339), (vs s9 340), (vi 38 0), (vi 1 0), (vi 0 0), (vi 0 0), (vi 3 0), (vr 115), (vb true), (vi 181 0), (vr 116), vn, (vr 117), (vr 118), (vr 119), (vi 342 0), (vi 38 0), (vs s9 343)], #[]⟩
noncomputable def o121 : Obj := fO (vt "function") s144 s166 (M 9 0) 3 vn (vs s165 324) (vr 120) 0
noncomputable def o122 : Obj := tp [(vs s158 345)]
noncomputable def o123 (P : Params) : Obj := ⟨(vt "dict"), none, .dict #[de P s140 333 (vs s165 324), de P s143 337 (vi 36 336), de P s144 344 (vr 121), de P s145 346 (vr 122), de P s152 348 (vr 125), de P s153 350 (vr 126), de P s2 351 vn] 4, #[]⟩
noncomputable def o124 : Obj := ⟨(vt "type"), none, .cls ⟨s17, [(vt "object")], [(vr 124), (vt "object")], 123, s17, true, [], [], false, none, false⟩, #[none, none, (some (vs s17 326)), (some (vs s17 334)), (some (vB "object.__new__")), (some (vb true))]⟩
noncomputable def o125 : Obj := ⟨(vt "getset_descriptor"), none, .fields #[(vs s152 347), (vr 124), (vB "function.__dict__"), (vB "function.__dict__#set")], #[]⟩
noncomputable def o126 : Obj := ⟨(vt "getset_descriptor"), none, .fields #[(vs s153 349), (vr 124), (vB "ExceptionGroup.__weakref__"), vn], #[]⟩
noncomputable def o127 : Obj := ⟨(vt "super"), none, .fields #[(vr 124), (vr 124), (vr 124)], #[]⟩
noncomputable def o128 : Obj := ⟨(vt "builtin_function_or_method"), none, .fields #[(vB "object.__init_subclass__"), (vr 124)], #[]⟩
noncomputable def o129 : Obj := tp []
noncomputable def o130 : Obj := ⟨(vt "builtin_function_or_method"), none, .fields #[(vB "type.__prepare__"), (vt "type")], #[]⟩
noncomputable def o131 (P : Params) : Obj := ⟨(vt "dict"), none, .dict #[de P s140 361 (vs s165 324), de P s142 363 (vs s18 362), de P s143 365 (vi 40 364), de P s144 374 (vr 142), de P s145 378 (vr 143)] 5, #[]⟩
noncomputable def o132 : Obj := tp []
noncomputable def o133 : Obj := ⟨vn, none, .fields #[(vi 42 0), (vi 4 0), (vr 141)], #[]⟩
noncomputable def o134 : Obj := ⟨(vt "code"), none, .fields #[(vs s18 356), (vs s18 357), (vs s9 358), (vi 40 0), (vi 0 0), (vi 0 0), (vi 0 0), (vi 0 0), (vr 132), (vb false), (vi 181 0), (vr 133), vn, vn, vn, vn, (vi 359 0), (vi 40 0), (vs s9 360)], #[]⟩
noncomputable def o135 : Obj := ⟨(vt "frame"), none, .plain, #[(some (vr 134)), (some (vr 3)), (some (vr 131)), none, (some (vs s165 324)), none, (some (vr 0))]⟩
noncomputable def o136 : Obj := tp []
noncomputable def o137 : Obj := ⟨vn, none, .fields #[], #[]⟩
noncomputable def o138 : Obj := tp [(vs s146 369), (vs s167 370), (vs s168 371)]
noncomputable def o139 : Obj := tp []
noncomputable def o140 : Obj := fO vn s144 s169 (M 10 0) 0 vn vn vn 0
noncomputable def o141 : Obj := ⟨(vt "code"), none, .fields #[(vs s144 366), (vs s169 367), (vs s9 368), (vi 42 0), (vi 3 0), (vi 0 0), (vi 0 0), (vi 3 0), (vr 136), (vb true), (vi 181 0), (vr 137), vn, (vr 138), (vr 139), (vr 140), (vi 372 0), (vi 42 0), (vs s9 373)], #[]⟩
noncomputable def o142 : Obj := fO (vt "function") s144 s169 (M 10 0) 3 vn (vs s165 324) (vr 141) 0
noncomputable def o143 : Obj := tp [(vs s168 375), (vs s170 376), (vs s167 377)]
noncomputable def o144 (P : Params) : Obj := ⟨(vt "dict"), none, .dict #[de P s140 361 (vs s165 324), de P s143 365 (vi 40 364), de P s144 374 (vr 142), de P s145 378 (vr 143), de P s152 380 (vr 146), de P s153 382 (vr 147), de P s2 383 vn] 4, #[]⟩
noncomputable def o145 : Obj := ⟨(vt "type"), none, .cls ⟨s18, [(vt "object")], [(vr 145), (vt "object")], 144, s18, true, [], [], false, none, false⟩, #[none, none, (some (vs s18 354)), (some (vs s18 362)), (some (vB "object.__new__")), (some (vb true))]⟩
noncomputable def o146 : Obj := ⟨(vt "getset_descriptor"), none, .fields #[(vs s152 379), (vr 145), (vB "function.__dict__"), (vB "function.__dict__#set")], #[]⟩
noncomputable def o147 : Obj := ⟨(vt "getset_descriptor"), none, .fields #[(vs s153 381), (vr 145), (vB "ExceptionGroup.__weakref__"), vn], #[]⟩
noncomputable def o148 : Obj := ⟨(vt "super"), none, .fields #[(vr 145), (vr 145), (vr 145)], #[]⟩
noncomputable def o149 : Obj := ⟨(vt "builtin_function_or_method"), none, .fields #[(vB "object.__init_subclass__"), (vr 145)], #[]⟩
noncomputable def o150 : Obj := tp []
noncomputable def o151 : Obj := ⟨(vt "builtin_function_or_method"), none, .fields #[(vB "type.__prepare__"), (vt "type")], #[]⟩
noncomputable def o152 (P : Params) : Obj := ⟨(vt "dict"), none, .dict #[de P s140 393 (vs s165 324), de P s142 395 (vs s19 394), de P s143 397 (vi 46 396), de P s144 404 (vr 163), de P s171 412 (vr 170), de P s145 414 (vr 171)] 6, #[]⟩
noncomputable def o153 : Obj := tp []
noncomputable def o154 : Obj := ⟨vn, none, .fields #[(vi 48 0), (vi 4 0), (vr 162), (vi 51 0), (vi 4 0), (vr 169)], #[]⟩
noncomputable def o155 : Obj := ⟨(vt "code"), none, .fields #[(vs s19 388), (vs s19 389), (vs s9 390), (vi 46 0), (vi 0 0), (vi 0 0), (vi 0 0), (vi 0 0), (vr 153), (vb false), (vi 181 0), (vr 154), vn, vn, vn, vn, (vi 391 0), (vi 46 0), (vs s9 392)], #[]⟩
noncomputable def o156 : Obj := ⟨(vt "frame"), none, .plain, #[(some (vr 155)), (some (vr 3)), (some (vr 152)), none, (some (vs s165 324)), none, (some (vr 0))]⟩
noncomputable def o157 : Obj := tp []
noncomputable def o158 : Obj := ⟨vn, none, .fields #[], #[]⟩
noncomputable def o159 : Obj := tp [(vs s146 401)]
noncomputable def o160 : Obj := tp []
noncomputable def o161 : Obj := fO vn s144 s172 (M 11 0) 0 vn vn vn 0
noncomputable def o162 : Obj := ⟨(vt "code"), none, .fields #[(vs s144 398), (vs s172 399), (vs s9 400), (vi 48 0), (vi 1 0), (vi 0 0), (vi 0 0), (vi 3 0), (vr 157), (vb true), (vi 181 0), (vr 158), vn, (vr 159), (vr 160), (vr 161), (vi 402 0), (vi 48 0), (vs s9 403)], #[]⟩
noncomputable def o163 : Obj := fO (vt "function") s144 s172 (M 11 0) 3 vn (vs s165 324) (vr 162) 0
noncomputable def o164 : Obj := tp []
noncomputable def o165 : Obj := ⟨vn, none, .fields #[], #[]⟩
noncomputable def o166 : Obj := tp [(vs s146 408), (vs s167 409)]
noncomputable def o167 : Obj := tp []
noncomputable def o168 : Obj := fO vn s171 s173 (M 11 1) 0 vn vn vn 0
noncomputable def o169 : Obj := ⟨(vt "code"), none, .fields #[(vs s171 405), (vs s173 406), (vs s9 407), (vi 51 0), (vi 2 0), (vi 0 0), (vi 0 0), (vi 3 0), (vr 164), (vb true), (vi 181 0), (vr 165), vn, (vr 166), (vr 167), (vr 168), (vi 410 0), (vi 51 0), (vs s9 411)], #[]⟩
noncomputable def o170 : Obj := fO (vt "function") s171 s173 (M 11 1) 3 vn (vs s165 324) (vr 169) 0
noncomputable def o171 : Obj := tp [(vs s174 413)]
noncomputable def o172 (P : Params) : Obj := ⟨(vt "dict"), none, .dict #[de P s140 393 (vs s165 324), de P s143 397 (vi 46 396), de P s144 404 (vr 163), de P s171 412 (vr 170), de P s145 414 (vr 171), de P s152 416 (vr 174), de P s153 418 (vr 175), de P s2 419 vn] 4, #[]⟩
noncomputable def o173 : Obj := ⟨(vt "type"), none, .cls ⟨s19, [(vt "object")], [(vr 173), (vt "object")], 172, s19, true, [], [], false, none, false⟩, #[none, none, (some (vs s19 386)), (some (vs s19 394)), (some (vB "object.__new__")), (some (vb true))]⟩
noncomputable def o174 : Obj := ⟨(vt "getset_descriptor"), none, .fields #[(vs s152 415), (vr 173), (vB "function.__dict__"), (vB "function.__dict__#set")], #[]⟩
noncomputable def o175 : Obj := ⟨(vt "getset_descriptor"), none, .fields #[(vs s153 417), (vr 173), (vB "ExceptionGroup.__weakref__"), vn], #[]⟩
noncomputable def o176 : Obj := ⟨(vt "super"), none, .fields #[(vr 173), (vr 173), (vr 173)], #[]⟩
noncomputable def o177 : Obj := ⟨(vt "builtin_function_or_method"), none, .fields #[(vB "object.__init_subclass__"), (vr 173)], #[]⟩
noncomputable def o178 : Obj := tp []
noncomputable def o179 : Obj := ⟨(vt "builtin_function_or_method"), none, .fields #[(vB "type.__prepare__"), (vt "type")], #[]⟩
noncomputable def o180 (P : Params) : Obj := ⟨(vt "dict"), none, .dict #[de P s140 429 (vs s165 324), de P s142 431 (vs s20 430), de P s143 433 (vi 53 432), de P s144 442 (vr 191), de P s145 445 (vr 192)] 5, #[]⟩
noncomputable def o181 : Obj := tp []
noncomputable def o182 : Obj := ⟨vn, none, .fields #[(vi 55 0), (vi 4 0), (vr 190)], #[]⟩
noncomputable def o183 : Obj := ⟨(vt "code"), none, .fields #[(vs s20 424), (vs s20 425), (vs s9 426), (vi 53 0), (vi 0 0), (vi 0 0), (vi 0 0), (vi 0 0), (vr 181), (vb false), (vi 181 0), (vr 182), vn, vn, vn, vn, (vi 427 0), (vi 53 0), (vs s9 428)], #[]⟩
noncomputable def o184 : Obj := ⟨(vt "frame"), none, .plain, #[(some (vr 183)), (some (vr 3)), (some (vr 180)), none, (some (vs s165 324)), none, (some (vr 0))]⟩
noncomputable def o185 : Obj := tp []
noncomputable def o186 : Obj := ⟨vn, none, .fields #[], #[]⟩
noncomputable def o187 : Obj := tp [(vs s146 437), (vs s175 438), (vs s176 439)]
noncomputable def o188 : Obj := tp []
noncomputable def o189 : Obj := fO vn s144 s177 (M 12 0) 0 vn vn vn 0
noncomputable def o190 : Obj := ⟨(vt "code"), none, .fields #[(vs s144 434), (vs s177 435), (vs s9 436), (vi 55 0), (vi 3 0), (vi 0 0), (vi 0 0), (vi 3 0), (vr 185), (vb true), (vi 181 0), (vr 186), vn, (vr 187), (vr 188), (vr 189), (vi 440 0), (vi 55 0), (vs s9 441)], #[]⟩
noncomputable def o191 : Obj := fO (vt "function") s144 s177 (M 12 0) 3 vn (vs s165 324) (vr 190) 0
noncomputable def o192 : Obj := tp [(vs s175 443), (vs s176 444)]
noncomputable def o193 (P : Params) : Obj := ⟨(vt "dict"), none, .dict #[de P s140 429 (vs s165 324), de P s143 433 (vi 53 432), de P s144 442 (vr 191), de P s145 445 (vr 192), de P s152 447 (vr 195), de P s153 449 (vr 196), de P s2 450 vn] 4, #[]⟩
noncomputable def o194 : Obj := ⟨(vt "type"), none, .cls ⟨s20, [(vt "object")], [(vr 194), (vt "object")], 193, s20, true, [], [], false, none, false⟩, #[none, none, (some (vs s20 422)), (some (vs s20 430)), (some (vB "object.__new__")), (some (vb true))]⟩
noncomputable def o195 : Obj := ⟨(vt "getset_descriptor"), none, .fields #[(vs s152 446), (vr 194), (vB "function.__dict__"), (vB "function.__dict__#set")], #[]⟩
noncomputable def o196 : Obj := ⟨(vt "getset_descriptor"), none, .fields #[(vs s153 448), (vr 194), (vB "ExceptionGroup.__weakref__"), vn], #[]⟩
noncomputable def o197 : Obj := ⟨(vt "super"), none, .fields #[(vr 194), (vr 194), (vr 194)], #[]⟩
noncomputable def o198 : Obj := ⟨(vt "builtin_function_or_method"), none, .fields #[(vB "object.__init_subclass__"), (vr 194)], #[]⟩
noncomputable def o199 : Obj := tp []
noncomputable def o200 : Obj := ⟨(vt "builtin_function_or_method"), none, .fields #[(vB "type.__prepare__"), (vt "type")], #[]⟩
noncomputable def o201 (P : Params) : Obj := ⟨(vt "dict"), none, .dict #[de P s140 460 (vs s165 324), de P s142 462 (vs s21 461), de P s143 464 (vi 58 463), de P s144 473 (vr 212), de P s145 476 (vr 213)] 5, #[]⟩
noncomputable def o202 : Obj := tp []
noncomputable def o203 : Obj := ⟨vn, none, .fields #[(vi 60 0), (vi 4 0), (vr 211)], #[]⟩
noncomputable def o204 : Obj := ⟨(vt "code"), none, .fields #[(vs s21 455), (vs s21 456), (vs s9 457), (vi 58 0), (vi 0 0), (vi 0 0), (vi 0 0), (vi 0 0), (vr 202), (vb false), (vi 181 0), (vr 203), vn, vn, vn, vn, (vi 458 0), (vi 58 0), (vs s9 459)], #[]⟩
noncomputable def o205 : Obj := ⟨(vt "frame"), none, .plain, #[(some (vr 204)), (some (vr 3)), (some (vr 201)), none, (some (vs s165 324)), none, (some (vr 0))]⟩
noncomputable def o206 : Obj := tp []
noncomputable def o207 : Obj := ⟨vn, none, .fields #[], #[]⟩
noncomputable def o208 : Obj := tp [(vs s146 468), (vs s178 469), (vs s179 470)]
noncomputable def o209 : Obj := tp []
noncomputable def o210 : Obj := fO vn s144 s180 (M 13 0) 0 vn vn vn 0
noncomputable def o211 : Obj := ⟨(vt "code"), none, .fields #[(vs s144 465), (vs s180 466), (vs s9 467), (vi 60 0), (vi 3 0), (vi 0 0), (vi 0 0), (vi 3 0), (vr 206), (vb true), (vi 181 0), (vr 207), vn, (vr 208), (vr 209), (vr 210), (vi 471 0), (vi 60 0), (vs s9 472)], #[]⟩
noncomputable def o212 : Obj := fO (vt "function") s144 s180 (M 13 0) 3 vn (vs s165 324) (vr 211) 0
noncomputable def o213 : Obj := tp [(vs s179 474), (vs s181 475)]
noncomputable def o214 (P : Params) : Obj := ⟨(vt "dict"), none, .dict #[de P s140 460 (vs s165 324), de P s143 464 (vi 58 463), de P s144 473 (vr 212), de P s145 476 (vr 213), de P s152 478 (vr 216), de P s153 480 (vr 217), de P s2 481 vn] 4, #[]⟩
noncomputable def o215 : Obj := ⟨(vt "type"), none, .cls ⟨s21, [(vt "object")], [(vr 215), (vt "object")], 214, s21, true, [], [], false, none, false⟩, #[none, none, (some (vs s21 453)), (some (vs s21 461)), (some (vB "object.__new__")), (some (vb true))]⟩
noncomputable def o216 : Obj := ⟨(vt "getset_descriptor"), none, .fields #[(vs s152 477), (vr 215), (vB "function.__dict__"), (vB "function.__dict__#set")], #[]⟩
noncomputable def o217 : Obj := ⟨(vt "getset_descriptor"), none, .fields #[(vs s153 479), (vr 215), (vB "ExceptionGroup.__weakref__"), vn], #[]⟩
noncomputable def o218 : Obj := ⟨(vt "super"), none, .fields #[(vr 215), (vr 215), (vr 215)], #[]⟩
noncomputable def o219 : Obj := ⟨(vt "builtin_function_or_method"), none, .fields #[(vB "object.__init_subclass__"), (vr 215)], #[]⟩
noncomputable def o220 : Obj := tp []
noncomputable def o221 : Obj := ⟨vn, none, .fields #[], #[]⟩
noncomputable def o222 : Obj := tp [(vs s167 487)]
noncomputable def o223 : Obj := tp []
noncomputable def o224 : Obj := fO vn s22 s22 (T 14) 0 vn vn vn 0
noncomputable def o225 : Obj := ⟨(vt "code"), none, .fields #[(vs s22 484), (vs s22 485), (vs s9 486), (vi 63 0), (vi 1 0), (vi 0 0), (vi 0 0), (vi 3 0), (vr 220), (vb true), (vi 181 0), (vr 221), vn, (vr 222), (vr 223), (vr 224), (vi 488 0), (vi 63 0), (vs s9 489)], #[]⟩
noncomputable def o226 : Obj := fO (vt "function") s22 s22 (T 14) 3 vn (vs s165 324) (vr 225) 0
noncomputable def o227 : Obj := tp []
noncomputable def o228 : Obj := ⟨vn, none, .fields #[], #[]⟩
noncomputable def o229 : Obj := fO vn s23 s23 (T 15) 0 vn vn vn 0
noncomputable def o230 : Obj := ⟨(vt "code"), none, .fields #[(vs s23 491), (vs s23 492), (vs s9 493), (vi 67 0), (vi 1 0), (vi 0 0), (vi 0 0), (vi 3 0), (vr 227), (vb true), (vi 181 0), (vr 228), vn, vn, vn, (vr 229), (vi 494 0), (vi 67 0), (vs s9 495)], #[]⟩
noncomputable def o231 : Obj := fO (vt "function") s23 s23 (T 15) 3 vn (vs s165 324) (vr 230) 0
noncomputable def o232 : Obj := tp []
noncomputable def o233 : Obj := ⟨vn, none, .fields #[], #[]⟩
noncomputable def o234 : Obj := tp [(vs s182 500), (vs s126 501), (vs s149 502), (vs s179 503), (vs s162 504)]
noncomputable def o235 : Obj := tp []
noncomputable def o236 : Obj := fO vn s24 s24 (T 16) 0 vn vn vn 0
noncomputable def o237 : Obj := ⟨(vt "code"), none, .fields #[(vs s24 497), (vs s24 498), (vs s9 499), (vi 76 0), (vi 2 0), (vi 0 0), (vi 0 0), (vi 3 0), (vr 232), (vb true), (vi 181 0), (vr 233), vn, (vr 234), (vr 235), (vr 236), (vi 505 0), (vi 76 0), (vs s9 506)], #[]⟩
noncomputable def o238 : Obj := fO (vt "function") s24 s24 (T 16) 3 vn (vs s165 324) (vr 237) 0
noncomputable def o239 : Obj := tp []
noncomputable def o240 : Obj := ⟨vn, none, .fields #[], #[]⟩
noncomputable def o241 : Obj := fO vn s25 s25 (T 17) 0 vn vn vn 0
noncomputable def o242 : Obj := ⟨(vt "code"), none, .fields #[(vs s25 508), (vs s25 509), (vs s9 510), (vi 89 0), (vi 1 0), (vi 0 0), (vi 0 0), (vi 3 0), (vr 239), (vb true), (vi 181 0), (vr 240), vn, vn, vn, (vr 241), (vi 511 0), (vi 89 0), (vs s9 512)], #[]⟩
noncomputable def o243 : Obj := fO (vt "function") s25 s25 (T 17) 3 vn (vs s165 324) (vr 242) 0
noncomputable def o244 : Obj := tp []
noncomputable def o245 : Obj := ⟨vn, none, .fields #[], #[]⟩
noncomputable def o246 : Obj := tp [(vs s183 517), (vs s184 518), (vs s185 519), (vs s155 520)]
noncomputable def o247 : Obj := tp []
noncomputable def o248 : Obj := fO vn s26 s26 (T 18) 0 vn vn vn 0
noncomputable def o249 : Obj := ⟨(vt "code"), none, .fields #[(vs s26 514), (vs s26 515), (vs s9 516), (vi 91 0), (vi 1 0), (vi 0 0), (vi 0 0), (vi 3 0), (vr 244), (vb true), (vi 181 0), (vr 245), vn, (vr 246), (vr 247), (vr 248), (vi 521 0), (vi 91 0), (vs s9 522)], #[]⟩
noncomputable def o250 : Obj := fO (vt "function") s26 s26 (T 18) 3 vn (vs s165 324) (vr 249) 0
noncomputable def o251 : Obj := tp []
noncomputable def o252 : Obj := ⟨vn, none, .fields #[], #[]⟩
noncomputable def o253 : Obj := tp [(vs s186 527), (vs s162 528)]
noncomputable def o254 : Obj := tp []
noncomputable def o255 : Obj := fO vn s27 s27 (T 19) 0 vn vn vn 0
noncomputable def o256 : Obj := ⟨(vt "code"), none, .fields #[(vs s27 524), (vs s27 525), (vs s9 526), (vi 95 0), (vi 2 0), (vi 0 0), (vi 0 0), (vi 3 0), (vr 251), (vb true), (vi 181 0), (vr 252), vn, (vr 253), (vr 254), (vr 255), (vi 529 0), (vi 95 0), (vs s9 530)], #[]⟩
noncomputable def o257 : Obj := fO (vt "function") s27 s27 (T 19) 3 vn (vs s165 324) (vr 256) 0
noncomputable def o258 : Obj := tp []
noncomputable def o259 : Obj := ⟨vn, none, .fields #[], #[]⟩
noncomputable def o260 : Obj := fO vn s28 s28 (T 20) 0 vn vn vn 0
noncomputable def o261 : Obj := ⟨(vt "code"), none, .fields #[(vs s28 532), (vs s28 533), (vs s9 534), (vi 99 0), (vi 1 0), (vi 0 0), (vi 0 0), (vi 3 0), (vr 258), (vb true), (vi 181 0), (vr 259), vn, vn, vn, (vr 260), (vi 535 0), (vi 99 0), (vs s9 536)], #[]⟩
noncomputable def o262 : Obj := fO (vt "function") s28 s28 (T 20) 3 vn (vs s165 324) (vr 261) 0
noncomputable def o263 : Obj := tp []
noncomputable def o264 : Obj := ⟨vn, none, .fields #[], #[]⟩
noncomputable def o265 : Obj := fO vn s29 s29 (T 21) 0 vn vn vn 0
noncomputable def o266 : Obj := ⟨(vt "code"), none, .fields #[(vs s29 538), (vs s29 539), (vs s9 540), (vi 110 0), (vi 2 0), (vi 0 0), (vi 0 0), (vi 3 0), (vr 263), (vb true), (vi 181 0), (vr 264), vn, vn, vn, (vr 265), (vi 541 0), (vi 110 0), (vs s9 542)], #[]⟩
noncomputable def o267 : Obj := fO (vt "function") s29 s29 (T 21) 3 vn (vs s165 324) (vr 266) 0
noncomputable def o268 : Obj := tp []
noncomputable def o269 : Obj := ⟨vn, none, .fields #[], #[]⟩
noncomputable def o270 : Obj := tp [(vs s158 551)]
noncomputable def o271 : Obj := tp []
noncomputable def o272 : Obj := fO vn s32 s32 (T 24) 0 vn vn vn 0
noncomputable def o273 : Obj := ⟨(vt "code"), none, .fields #[(vs s32 548), (vs s32 549), (vs s9 550), (vi 127 0), (vi 1 0), (vi 0 0), (vi 0 0), (vi 3 0), (vr 268), (vb true), (vi 181 0), (vr 269), vn, (vr 270), (vr 271), (vr 272), (vi 552 0), (vi 127 0), (vs s9 553)], #[]⟩
noncomputable def o274 : Obj := fO (vt "function") s32 s32 (T 24) 3 vn (vs s187 544) (vr 273) 0
noncomputable def o275 : Obj := tp []
noncomputable def o276 : Obj := ⟨vn, none, .fields #[], #[]⟩
noncomputable def o277 : Obj := tp [(vs s184 558), (vs s185 559)]
noncomputable def o278 : Obj := tp []
noncomputable def o279 : Obj := fO vn s33 s33 (T 25) 0 vn vn vn 0
noncomputable def o280 : Obj := ⟨(vt "code"), none, .fields #[(vs s33 555), (vs s33 556), (vs s9 557), (vi 129 0), (vi 2 0), (vi 0 0), (vi 0 0), (vi 3 0), (vr 275), (vb true), (vi 181 0), (vr 276), vn, (vr 277), (vr 278), (vr 279), (vi 560 0), (vi 129 0), (vs s9 561)], #[]⟩
noncomputable def o281 : Obj := fO (vt "function") s33 s33 (T 25) 3 vn (vs s187 544) (vr 280) 0
noncomputable def o282 : Obj := tp []
noncomputable def o283 : Obj := ⟨vn, none, .fields #[], #[]⟩
noncomputable def o284 : Obj := tp [(vs s167 566), (vs s188 567), (vs s189 568), (vs s183 569), (vs s184 570), (vs s185 571)]
noncomputable def o285 : Obj := tp []
noncomputable def o286 : Obj := fO vn s34 s34 (T 26) 0 vn vn vn 0
noncomputable def o287 : Obj := ⟨(vt "code"), none, .fields #[(vs s34 563), (vs s34 564), (vs s9 565), (vi 131 0), (vi 2 0), (vi 0 0), (vi 0 0), (vi 3 0), (vr 282), (vb true), (vi 181 0), (vr 283), vn, (vr 284), (vr 285), (vr 286), (vi 572 0), (vi 131 0), (vs s9 573)], #[]⟩
noncomputable def o288 : Obj := fO (vt "function") s34 s34 (T 26) 3 vn (vs s187 544) (vr 287) 0
noncomputable def o289 : Obj := tp []
noncomputable def o290 : Obj := ⟨vn, none, .fields #[], #[]⟩
noncomputable def o291 : Obj := tp [(vs s167 578), (vs s188 579)]
noncomputable def o292 : Obj := tp []
noncomputable def o293 : Obj := fO vn s35 s35 (T 27) 0 vn vn vn 0
noncomputable def o294 : Obj := ⟨(vt "code"), none, .fields #[(vs s35 575), (vs s35 576), (vs s9 577), (vi 139 0), (vi 2 0), (vi 0 0), (vi 0 0), (vi 3 0), (vr 289), (vb true), (vi 181 0), (vr 290), vn, (vr 291), (vr 292), (vr 293), (vi 580 0), (vi 139 0), (vs s9 581)], #[]⟩
noncomputable def o295 : Obj := fO (vt "function") s35 s35 (T 27) 3 vn (vs s187 544) (vr 294) 0
noncomputable def o296 : Obj := tp []
noncomputable def o297 : Obj := ⟨vn, none, .fields #[], #[]⟩
noncomputable def o298 : Obj := fO vn s36 s36 (T 28) 0 vn vn vn 0
noncomputable def o299 : Obj := ⟨(vt "code"), none, .fields #[(vs s36 583), (vs s36 584), (vs s9 585), (vi 141 0), (vi 2 0), (vi 0 0), (vi 0 0), (vi 3 0), (vr 296), (vb true), (vi 181 0), (vr 297), vn, vn, vn, (vr 298), (vi 586 0), (vi 141 0), (vs s9 587)], #[]⟩
noncomputable def o300 : Obj := fO (vt "function") s36 s36 (T 28) 3 vn (vs s187 544) (vr 299) 0
noncomputable def o301 : Obj := tp []
noncomputable def o302 : Obj := ⟨vn, none, .fields #[], #[]⟩
noncomputable def o303 : Obj := fO vn s37 s37 (T 29) 0 vn vn vn 0
noncomputable def o304 : Obj := ⟨(vt "code"), none, .fields #[(vs s37 589), (vs s37 590), (vs s9 591), (vi 144 0), (vi 2 0), (vi 0 0), (vi 0 0), (vi 3 0), (vr 301), (vb true), (vi 181 0), (vr 302), vn, vn, vn, (vr 303), (vi 592 0), (vi 144 0), (vs s9 593)], #[]⟩
noncomputable def o305 : Obj := fO (vt "function") s37 s37 (T 29) 3 vn (vs s187 544) (vr 304) 0
noncomputable def o306 : Obj := tp []
noncomputable def o307 : Obj := ⟨vn, none, .fields #[], #[]⟩
noncomputable def o308 : Obj := tp [(vs s175 598), (vs s190 599), (vs s183 600), (vs s184 601), (vs s185 602), (vs s191 603), (vs s192 604)]
noncomputable def o309 : Obj := tp []
noncomputable def o310 : Obj := fO vn s38 s38 (T 30) 0 vn vn vn 0
noncomputable def o311 : Obj := ⟨(vt "code"), none, .fields #[(vs s38 595), (vs s38 596), (vs s9 597), (vi 147 0), (vi 2 0), (vi 0 0), (vi 0 0), (vi 3 0), (vr 306), (vb true), (vi 181 0), (vr 307), vn, (vr 308), (vr 309), (vr 310), (vi 605 0), (vi 147 0), (vs s9 606)], #[]⟩
noncomputable def o312 : Obj := fO (vt "function") s38 s38 (T 30) 3 vn (vs s187 544) (vr 311) 0
noncomputable def o313 : Obj := tp [(vs s193 610), (vs s194 611), (vs s195 612), (vs s196 613), (vs s197 614)]
noncomputable def o314 : Obj := tp []
noncomputable def o315 : Obj := ⟨(vt "builtin_function_or_method"), none, .fields #[(vB "type.__prepare__"), (vt "type")], #[]⟩
noncomputable def o316 (P : Params) : Obj := ⟨(vt "dict"), none, .dict #[de P s140 623 (vs s198 608), de P s142 625 (vs s40 624), de P s143 627 (vi 155 626), de P s144 636 (vr 327), de P s145 661 (vr 328)] 5, #[]⟩
noncomputable def o317 : Obj := tp []
noncomputable def o318 : Obj := ⟨vn, none, .fields #[(vi 157 0), (vi 4 0), (vr 326)], #[]⟩
noncomputable def o319 : Obj := ⟨(vt "code"), none, .fields #[(vs s40 618), (vs s40 619), (vs s9 620), (vi 155 0), (vi 0 0), (vi 0 0), (vi 0 0), (vi 0 0), (vr 317), (vb false), (vi 181 0), (vr 318), vn, vn, vn, vn, (vi 621 0), (vi 155 0), (vs s9 622)], #[]⟩
noncomputable def o320 : Obj := ⟨(vt "frame"), none, .plain, #[(some (vr 319)), (some (vr 3)), (some (vr 316)), none, (some (vs s198 608)), none, (some (vr 0))]⟩
noncomputable def o321 : Obj := tp []
noncomputable def o322 : Obj := ⟨vn, none, .fields #[], #[]⟩
noncomputable def o323 : Obj := tp [(vs s146 631), (vs s199 632), (vs s162 633)]
noncomputable def o324 : Obj := tp []
noncomputable def o325 : Obj := fO vn s144 s200 (M 33 0) 0 vn vn vn 0
noncomputable def o326 : Obj := ⟨(vt "code"), none, .fields #[(vs s144 628), (vs s200 629), (vs s9 630), (vi 157 0), (vi 3 0), (vi 0 0), (vi 0 0), (vi 3 0), (vr 321), (vb true), (vi 181 0), (vr 322), vn, (vr 323), (vr 324), (vr 325), (vi 634 0), (vi 157 0), (vs s9 635)], #[]⟩
noncomputable def o327 : Obj := fO (vt "function") s144 s200 (M 33 0) 3 vn (vs s198 608) (vr 326) 0
noncomputable def o328 : Obj := tp [(vs s201 637), (vs s202 638), (vs s203 639), (vs s204 640), (vs s185 641), (vs s205 642), (vs s206 643), (vs s207 644), (vs s208 645), (vs s209 646), (vs s210 647), (vs s211 648), (vs s212 649), (vs s199 650), (vs s213 651), (vs s184 652), (vs s214 653), (vs s162 654), (vs s168 655), (vs s215 656), (vs s216 657), (vs s217 658), (vs s218 659), (vs s219 660)]
noncomputable def o329 (P : Params) : Obj := ⟨(vt "dict"), none, .dict #[de P s140 623 (vs s198 608), de P s143 627 (vi 155 626), de P s144 636 (vr 327), de P s145 661 (vr 328), de P s152 663 (vr 331), de P s153 665 (vr 332), de P s2 666 vn] 4, #[]⟩
noncomputable def o330 : Obj := ⟨(vt "type"), none, .cls ⟨s40, [(vt "object")], [(vr 330), (vt "object")], 329, s40, true, [], [], false, none, false⟩, #[none, none, (some (vs s40 616)), (some (vs s40 624)), (some (vB "object.__new__")), (some (vb true))]⟩
noncomputable def o331 : Obj := ⟨(vt "getset_descriptor"), none, .fields #[(vs s152 662), (vr 330), (vB "function.__dict__"), (vB "function.__dict__#set")], #[]⟩
noncomputable def o332 : Obj := ⟨(vt "getset_descriptor"), none, .fields #[(vs s153 664), (vr 330), (vB "ExceptionGroup.__weakref__"), vn], #[]⟩
noncomputable def o333 : Obj := ⟨(vt "super"), none, .fields #[(vr 330), (vr 330), (vr 330)], #[]⟩
noncomputable def o334 : Obj := ⟨(vt "builtin_function_or_method"), none, .fields #[(vB "object.__init_subclass__"), (vr 330)], #[]⟩
noncomputable def o335 : Obj := tp []
noncomputable def o336 : Obj := ⟨(vt "builtin_function_or_method"), none, .fields #[(vB "type.__prepare__"), (vt "type")], #[]⟩
noncomputable def o337 (P : Params) : Obj := ⟨(vt "dict"), none, .dict #[de P s140 676 (vs s198 608), de P s142 678 (vs s41 677), de P s143 680 (vi 182 679), de P s144 689 (vr 348), de P s145 692 (vr 349)] 5, #[]⟩
noncomputable def o338 : Obj := tp []
noncomputable def o339 : Obj := ⟨vn, none, .fields #[(vi 184 0), (vi 4 0), (vr 347)], #[]⟩
noncomputable def o340 : Obj := ⟨(vt "code"), none, .fields #[(vs s41 671), (vs s41 672), (vs s9 673), (vi 182 0), (vi 0 0), (vi 0 0), (vi 0 0), (vi 0 0), (vr 338), (vb false), (vi 181 0), (vr 339), vn, vn, vn, vn, (vi 674 0), (vi 182 0), (vs s9 675)], #[]⟩
noncomputable def o341 : Obj := ⟨(vt "frame"), none, .plain, #[(some (vr 340)), (some (vr 3)), (some (vr 337)), none, (some (vs s198 608)), none, (some (vr 0))]⟩
noncomputable def o342 : Obj := tp []
noncomputable def o343 : Obj := ⟨vn, none, .fields #[], #[]⟩
noncomputable def o344 : Obj := tp [(vs s146 684), (vs s178 685), (vs s220 686)]
noncomputable def o345 : Obj := tp []
noncomputable def o346 : Obj := fO vn s144 s221 (M 34 0) 0 vn vn vn 0
noncomputable def o347 : Obj := ⟨(vt "code"), none, .fields #[(vs s144 681), (vs s221 682), (vs s9 683), (vi 184 0), (vi 3 0), (vi 0 0), (vi 0 0), (vi 3 0), (vr 342), (vb true), (vi 181 0), (vr 343), vn, (vr 344), (vr 345), (vr 346), (vi 687 0), (vi 184 0), (vs s9 688)], #[]⟩
noncomputable def o348 : Obj := fO (vt "function") s144 s221 (M 34 0) 3 vn (vs s198 608) (vr 347) 0
noncomputable def o349 : Obj := tp [(vs s220 690), (vs s181 691)]
noncomputable def o350 (P : Params) : Obj := ⟨(vt "dict"), none, .dict #[de P s140 676 (vs s198 608), de P s143 680 (vi 182 679), de P s144 689 (vr 348), de P s145 692 (vr 349), de P s152 694 (vr 352), de P s153 696 (vr 353), de P s2 697 vn] 4, #[]⟩
noncomputable def o351 : Obj := ⟨(vt "type"), none, .cls ⟨s41, [(vt "object")], [(vr 351), (vt "object")], 350, s41, true, [], [], false, none, false⟩, #[none, none, (some (vs s41 669)), (some (vs s41 677)), (some (vB "object.__new__")), (some (vb true))]⟩
noncomputable def o352 : Obj := ⟨(vt "getset_descriptor"), none, .fields #[(vs s152 693), (vr 351), (vB "function.__dict__"), (vB "function.__dict__#set")], #[]⟩
noncomputable def o353 : Obj := ⟨(vt "getset_descriptor"), none, .fields #[(vs s153 695), (vr 351), (vB "ExceptionGroup.__weakref__"), vn], #[]⟩
noncomputable def o354 : Obj := ⟨(vt "super"), none, .fields #[(vr 351), (vr 351), (vr 351)], #[]⟩
noncomputable def o355 : Obj := ⟨(vt "builtin_function_or_method"), none, .fields #[(vB "object.__init_subclass__"), (vr 351)], #[]⟩
noncomputable def o356 : Obj := tp []
noncomputable def o357 : Obj := ⟨vn, none, .fields #[], #[]⟩
noncomputable def o358 : Obj := tp [(vs s162 703), (vs s184 704), (vs s185 705), (vs s222 706)]
noncomputable def o359 : Obj := tp []
noncomputable def o360 : Obj := fO vn s42 s42 (T 35) 0 vn vn vn 0
noncomputable def o361 : Obj := ⟨(vt "code"), none, .fields #[(vs s42 700), (vs s42 701), (vs s9 702), (vi 187 0), (vi 3 0), (vi 0 0), (vi 0 0), (vi 3 0), (vr 356), (vb true), (vi 181 0), (vr 357), vn, (vr 358), (vr 359), (vr 360), (vi 707 0), (vi 187 0), (vs s9 708)], #[]⟩
noncomputable def o362 : Obj := fO (vt "function") s42 s42 (T 35) 3 vn (vs s198 608) (vr 361) 0
noncomputable def o363 : Obj := tp []
noncomputable def o364 : Obj := ⟨vn, none, .fields #[], #[]⟩
noncomputable def o365 : Obj := tp [(vs s162 713), (vs s205 714), (vs s201 715), (vs s208 716), (vs s222 717)]
noncomputable def o366 : Obj := tp []
noncomputable def o367 : Obj := fO vn s43 s43 (T 36) 0 vn vn vn 0
noncomputable def o368 : Obj := ⟨(vt "code"), none, .fields #[(vs s43 710), (vs s43 711), (vs s9 712), (vi 192 0), (vi 4 0), (vi 0 0), (vi 0 0), (vi 3 0), (vr 363), (vb true), (vi 181 0), (vr 364), vn, (vr 365), (vr 366), (vr 367), (vi 718 0), (vi 192 0), (vs s9 719)], #[]⟩
noncomputable def o369 : Obj := fO (vt "function") s43 s43 (T 36) 3 vn (vs s198 608) (vr 368) 0
noncomputable def o370 : Obj := tp []
noncomputable def o371 : Obj := ⟨vn, none, .fields #[], #[]⟩
noncomputable def o372 : Obj := tp [(vs s162 724), (vs s204 725), (vs s202 726), (vs s218 727), (vs s222 728)]
noncomputable def o373 : Obj := tp []
noncomputable def o374 : Obj := fO vn s44 s44 (T 37) 0 vn vn vn 0
noncomputable def o375 : Obj := ⟨(vt "code"), none, .fields #[(vs s44 721), (vs s44 722), (vs s9 723), (vi 198 0), (vi 4 0), (vi 0 0), (vi 0 0), (vi 3 0), (vr 370), (vb true), (vi 181 0), (vr 371), vn, (vr 372), (vr 373), (vr 374), (vi 729 0), (vi 198 0), (vs s9 730)], #[]⟩
noncomputable def o376 : Obj := fO (vt "function") s44 s44 (T 37) 3 vn (vs s198 608) (vr 375) 0
noncomputable def o377 : Obj := tp []
noncomputable def o378 : Obj := ⟨vn, none, .fields #[], #[]⟩
noncomputable def o379 : Obj := tp [(vs s178 735), (vs s168 736)]
noncomputable def o380 : Obj := tp []
noncomputable def o381 : Obj := fO vn s45 s45 (T 38) 0 vn vn vn 0
noncomputable def o382 : Obj := ⟨(vt "code"), none, .fields #[(vs s45 732), (vs s45 733), (vs s9 734), (vi 205 0), (vi 2 0), (vi 0 0), (vi 0 0), (vi 3 0), (vr 377), (vb true), (vi 181 0), (vr 378), vn, (vr 379), (vr 380), (vr 381), (vi 737 0), (vi 205 0), (vs s9 738)], #[]⟩
noncomputable def o383 : Obj := fO (vt "function") s45 s45 (T 38) 3 vn (vs s198 608) (vr 382) 0
noncomputable def o384 : Obj := tp []
noncomputable def o385 : Obj := ⟨vn, none, .fields #[], #[]⟩
noncomputable def o386 : Obj := tp [(vs s223 743), (vs s224 744)]
noncomputable def o387 : Obj := tp []
noncomputable def o388 : Obj := fO vn s46 s46 (T 39) 0 vn vn vn 0
noncomputable def o389 : Obj := ⟨(vt "code"), none, .fields #[(vs s46 740), (vs s46 741), (vs s9 742), (vi 208 0), (vi 2 0), (vi 0 0), (vi 0 0), (vi 3 0), (vr 384), (vb true), (vi 181 0), (vr 385), vn, (vr 386), (vr 387), (vr 388), (vi 745 0), (vi 208 0), (vs s9 746)], #[]⟩
noncomputable def o390 : Obj := fO (vt "function") s46 s46 (T 39) 3 vn (vs s198 608) (vr 389) 0
noncomputable def o391 : Obj := tp []
noncomputable def o392 : Obj := ⟨vn, none, .fields #[], #[]⟩
noncomputable def o393 : Obj := tp [(vs s178 751)]
noncomputable def o394 : Obj := tp []
noncomputable def o395 : Obj := fO vn s47 s47 (T 40) 0 vn vn vn 0
noncomputable def o396 : Obj := ⟨(vt "code"), none, .fields #[(vs s47 748), (vs s47 749), (vs s9 750), (vi 210 0), (vi 1 0), (vi 0 0), (vi 0 0), (vi 3 0), (vr 391), (vb true), (vi 181 0), (vr 392), vn, (vr 393), (vr 394), (vr 395), (vi 752 0), (vi 210 0), (vs s9 753)], #[]⟩
noncomputable def o397 : Obj := fO (vt "function") s47 s47 (T 40) 3 vn (vs s198 608) (vr 396) 0
noncomputable def o398 : Obj := tp []
noncomputable def o399 : Obj := ⟨vn, none, .fields #[], #[]⟩
noncomputable def o400 : Obj := tp [(vs s178 758)]
noncomputable def o401 : Obj := tp []
noncomputable def o402 : Obj := fO vn s48 s48 (T 41) 0 vn vn vn 0
noncomputable def o403 : Obj := ⟨(vt "code"), none, .fields #[(vs s48 755), (vs s48 756), (vs s9 757), (vi 212 0), (vi 1 0), (vi 0 0), (vi 0 0), (vi 3 0), (vr 398), (vb true), (vi 181 0), (vr 399), vn, (vr 400), (vr 401), (vr 402), (vi 759 0), (vi 212 0), (vs s9 760)], #[]⟩
noncomputable def o404 : Obj := fO (vt "function") s48 s48 (T 41) 3 vn (vs s198 608) (vr 403) 0
noncomputable def o405 : Obj := tp []
noncomputable def o406 : Obj := ⟨vn, none, .fields #[], #[]⟩
noncomputable def o407 : Obj := tp [(vs s178 765)]
noncomputable def o408 : Obj := tp []
noncomputable def o409 : Obj := fO vn s49 s49 (T 42) 0 vn vn vn 0
noncomputable def o410 : Obj := ⟨(vt "code"), none, .fields #[(vs s49 762), (vs s49 763), (vs s9 764), (vi 214 0), (vi 1 0), (vi 0 0), (vi 0 0), (vi 3 0), (vr 405), (vb true), (vi 181 0), (vr 406), vn, (vr 407), (vr 408), (vr 409), (vi 766 0), (vi 214 0), (vs s9 767)], #[]⟩
noncomputable def o411 : Obj := fO (vt "function") s49 s49 (T 42) 3 vn (vs s198 608) (vr 410) 0
noncomputable def o412 : Obj := tp []
noncomputable def o413 : Obj := ⟨vn, none, .fields #[], #[]⟩
noncomputable def o414 : Obj := tp [(vs s170 776), (vs s225 777), (vs s226 778)]
noncomputable def o415 : Obj := tp []
noncomputable def o416 : Obj := fO vn s51 s51 (T 45) 0 vn vn vn 0
noncomputable def o417 : Obj := ⟨(vt "code"), none, .fields #[(vs s51 773), (vs s51 774), (vs s9 775), (vi 218 0), (vi 1 0), (vi 0 0), (vi 0 0), (vi 3 0), (vr 412), (vb true), (vi 181 0), (vr 413), vn, (vr 414), (vr 415), (vr 416), (vi 779 0), (vi 218 0), (vs s9 780)], #[]⟩
noncomputable def o418 : Obj := fO (vt "function") s51 s51 (T 45) 3 vn (vs s227 769) (vr 417) 0
noncomputable def o419 : Obj := tp []
noncomputable def o420 : Obj := ⟨vn, none, .fields #[], #[]⟩
noncomputable def o421 : Obj := tp [(vs s178 785)]
noncomputable def o422 : Obj := tp []
noncomputable def o423 : Obj := fO vn s52 s52 (T 46) 0 vn vn vn 0
noncomputable def o424 : Obj := ⟨(vt "code"), none, .fields #[(vs s52 782), (vs s52 783), (vs s9 784), (vi 227 0), (vi 1 0), (vi 0 0), (vi 0 0), (vi 3 0), (vr 419), (vb true), (vi 181 0), (vr 420), vn, (vr 421), (vr 422), (vr 423), (vi 786 0), (vi 227 0), (vs s9 787)], #[]⟩
noncomputable def o425 : Obj := fO (vt "function") s52 s52 (T 46) 3 vn (vs s227 769) (vr 424) 0
noncomputable def o426 : Obj := tp []
noncomputable def o427 : Obj := ⟨vn, none, .fields #[], #[]⟩
noncomputable def o428 : Obj := tp [(vs s178 796), (vs s156 797), (vs s228 798)]
noncomputable def o429 : Obj := tp []
noncomputable def o430 : Obj := fO vn s54 s54 (T 49) 0 vn vn vn 0
noncomputable def o431 : Obj := ⟨(vt "code"), none, .fields #[(vs s54 793), (vs s54 794), (vs s9 795), (vi 233 0), (vi 1 0), (vi 0 0), (vi 0 0), (vi 3 0), (vr 426), (vb true), (vi 181 0), (vr 427), vn, (vr 428), (vr 429), (vr 430), (vi 799 0), (vi 233 0), (vs s9 800)], #[]⟩
noncomputable def o432 : Obj := fO (vt "function") s54 s54 (T 49) 3 vn (vs s229 789) (vr 431) 0
noncomputable def o433 : Obj := tp []
noncomputable def o434 : Obj := ⟨vn, none, .fields #[], #[]⟩
noncomputable def o435 : Obj := tp [(vs s230 805), (vs s167 806), (vs s184 807), (vs s185 808)]
noncomputable def o436 : Obj := tp []
noncomputable def o437 : Obj := fO vn s55 s55 (T 50) 0 vn vn vn 0
noncomputable def o438 : Obj := ⟨(vt "code"), none, .fields #[(vs s55 802), (vs s55 803), (vs s9 804), (vi 242 0), (vi 2 0), (vi 0 0), (vi 0 0), (vi 3 0), (vr 433), (vb true), (vi 181 0), (vr 434), vn, (vr 435), (vr 436), (vr 437), (vi 809 0), (vi 242 0), (vs s9 810)], #[]⟩
noncomputable def o439 : Obj := fO (vt "function") s55 s55 (T 50) 3 vn (vs s229 789) (vr 438) 0
noncomputable def o440 : Obj := tp []
noncomputable def o441 : Obj := ⟨vn, none, .fields #[], #[]⟩
noncomputable def o442 : Obj := tp [(vs s218 815), (vs s231 816), (vs s167 817), (vs s232 818)]
noncomputable def o443 : Obj := tp []
noncomputable def o444 : Obj := fO vn s56 s56 (T 51) 0 vn vn vn 0
noncomputable def o445 : Obj := ⟨(vt "code"), none, .fields #[(vs s56 812), (vs s56 813), (vs s9 814), (vi 249 0), (vi 2 0), (vi 0 0), (vi 0 0), (vi 3 0), (vr 440), (vb true), (vi 181 0), (vr 441), vn, (vr 442), (vr 443), (vr 444), (vi 819 0), (vi 249 0), (vs s9 820)], #[]⟩
noncomputable def o446 : Obj := fO (vt "function") s56 s56 (T 51) 3 vn (vs s229 789) (vr 445) 0
noncomputable def o447 : Obj := tp []
noncomputable def o448 : Obj := ⟨vn, none, .fields #[], #[]⟩
noncomputable def o449 : Obj := tp [(vs s218 825), (vs s231 826), (vs s156 827), (vs s228 828), (vs s232 829)]
noncomputable def o450 : Obj := tp []
noncomputable def o451 : Obj := fO vn s57 s57 (T 52) 0 vn vn vn 0
noncomputable def o452 : Obj := ⟨(vt "code"), none, .fields #[(vs s57 822), (vs s57 823), (vs s9 824), (vi 255 0), (vi 2 0), (vi 0 0), (vi 0 0), (vi 3 0), (vr 447), (vb true), (vi 181 0), (vr 448), vn, (vr 449), (vr 450), (vr 451), (vi 830 0), (vi 255 0), (vs s9 831)], #[]⟩
noncomputable def o453 : Obj := fO (vt "function") s57 s57 (T 52) 3 vn (vs s229 789) (vr 452) 0
noncomputable def o454 : Obj := tp []
noncomputable def o455 : Obj := ⟨vn, none, .fields #[], #[]⟩
noncomputable def o456 : Obj := tp [(vs s178 836)]
noncomputable def o457 : Obj := tp []
noncomputable def o458 : Obj := fO vn s58 s58 (T 53) 0 vn vn vn 0
noncomputable def o459 : Obj := ⟨(vt "code"), none, .fields #[(vs s58 833), (vs s58 834), (vs s9 835), (vi 263 0), (vi 1 0), (vi 0 0), (vi 0 0), (vi 3 0), (vr 454), (vb true), (vi 181 0), (vr 455), vn, (vr 456), (vr 457), (vr 458), (vi 837 0), (vi 263 0), (vs s9 838)], #[]⟩
noncomputable def o460 : Obj := fO (vt "function") s58 s58 (T 53) 3 vn (vs s229 789) (vr 459) 0
noncomputable def o461 : Obj := tp []
noncomputable def o462 : Obj := ⟨vn, none, .fields #[], #[]⟩
noncomputable def o463 : Obj := tp [(vs s178 843), (vs s231 844), (vs s233 845)]
noncomputable def o464 : Obj := tp []
noncomputable def o465 : Obj := fO vn s59 s59 (T 54) 0 vn vn vn 0
noncomputable def o466 : Obj := ⟨(vt "code"), none, .fields #[(vs s59 840), (vs s59 841), (vs s9 842), (vi 269 0), (vi 2 0), (vi 0 0), (vi 0 0), (vi 3 0), (vr 461), (vb true), (vi 181 0), (vr 462), vn, (vr 463), (vr 464), (vr 465), (vi 846 0), (vi 269 0), (vs s9 847)], #[]⟩
noncomputable def o467 : Obj := fO (vt "function") s59 s59 (T 54) 3 vn (vs s229 789) (vr 466) 0
noncomputable def o468 : Obj := tp []
noncomputable def o469 : Obj := ⟨vn, none, .fields #[], #[]⟩
noncomputable def o470 : Obj := fO vn s60 s60 (T 55) 0 vn vn vn 0
noncomputable def o471 : Obj := ⟨(vt "code"), none, .fields #[(vs s60 849), (vs s60 850), (vs s9 851), (vi 274 0), (vi 1 0), (vi 0 0), (vi 0 0), (vi 3 0), (vr 468), (vb true), (vi 181 0), (vr 469), vn, vn, vn, (vr 470), (vi 852 0), (vi 274 0), (vs s9 853)], #[]⟩
noncomputable def o472 : Obj := fO (vt "function") s60 s60 (T 55) 3 vn (vs s229 789) (vr 471) 0
noncomputable def o473 : Obj := tp []
noncomputable def o474 : Obj := ⟨vn, none, .fields #[], #[]⟩
noncomputable def o475 : Obj := fO vn s61 s61 (T 56) 0 vn vn vn 0
noncomputable def o476 : Obj := ⟨(vt "code"), none, .fields #[(vs s61 855), (vs s61 856), (vs s9 857), (vi 285 0), (vi 1 0), (vi 0 0), (vi 0 0), (vi 3 0), (vr 473), (vb true), (vi 181 0), (vr 474), vn, vn, vn, (vr 475), (vi 858 0), (vi 285 0), (vs s9 859)], #[]⟩
noncomputable def o477 : Obj := fO (vt "function") s61 s61 (T 56) 3 vn (vs s229 789) (vr 476) 0
noncomputable def o478 : Obj := tp []
noncomputable def o479 : Obj := ⟨vn, none, .fields #[], #[]⟩
noncomputable def o480 : Obj := tp [(vs s167 864), (vs s156 865), (vs s162 866), (vs s170 867), (vs s234 868)]
noncomputable def o481 : Obj := tp []
noncomputable def o482 : Obj := fO vn s62 s62 (T 57) 0 vn vn vn 0
noncomputable def o483 : Obj := ⟨(vt "code"), none, .fields #[(vs s62 861), (vs s62 862), (vs s9 863), (vi 288 0), (vi 1 0), (vi 0 0), (vi 0 0), (vi 3 0), (vr 478), (vb true), (vi 181 0), (vr 479), vn, (vr 480), (vr 481), (vr 482), (vi 869 0), (vi 288 0), (vs s9 870)], #[]⟩
noncomputable def o484 : Obj := fO (vt "function") s62 s62 (T 57) 3 vn (vs s229 789) (vr 483) 0
noncomputable def o485 : Obj := tp []
noncomputable def o486 : Obj := ⟨vn, none, .fields #[], #[]⟩
noncomputable def o487 : Obj := tp [(vs s167 875), (vs s162 876)]
noncomputable def o488 : Obj := tp []
noncomputable def o489 : Obj := fO vn s63 s63 (T 58) 0 vn vn vn 0
noncomputable def o490 : Obj := ⟨(vt "code"), none, .fields #[(vs s63 872), (vs s63 873), (vs s9 874), (vi 293 0), (vi 2 0), (vi 0 0), (vi 0 0), (vi 3 0), (vr 485), (vb true), (vi 181 0), (vr 486), vn, (vr 487), (vr 488), (vr 489), (vi 877 0), (vi 293 0), (vs s9 878)], #[]⟩
noncomputable def o491 : Obj := fO (vt "function") s63 s63 (T 58) 3 vn (vs s229 789) (vr 490) 0
noncomputable def o492 : Obj := tp []
noncomputable def o493 : Obj := ⟨vn, none, .fields #[], #[]⟩
noncomputable def o494 : Obj := tp [(vs s167 883), (vs s162 884)]
noncomputable def o495 : Obj := tp []
noncomputable def o496 : Obj := fO vn s64 s64 (T 59) 0 vn vn vn 0
noncomputable def o497 : Obj := ⟨(vt "code"), none, .fields #[(vs s64 880), (vs s64 881), (vs s9 882), (vi 296 0), (vi 2 0), (vi 0 0), (vi 0 0), (vi 3 0), (vr 492), (vb true), (vi 181 0), (vr 493), vn, (vr 494), (vr 495), (vr 496), (vi 885 0), (vi 296 0), (vs s9 886)], #[]⟩
noncomputable def o498 : Obj := fO (vt "function") s64 s64 (T 59) 3 vn (vs s229 789) (vr 497) 0
noncomputable def o499 : Obj := tp []
noncomputable def o500 : Obj := ⟨vn, none, .fields #[], #[]⟩
noncomputable def o501 : Obj := tp [(vs s167 891), (vs s220 892), (vs s162 893), (vs s235 894)]
noncomputable def o502 : Obj := tp []
noncomputable def o503 : Obj := fO vn s65 s65 (T 60) 0 vn vn vn 0
noncomputable def o504 : Obj := ⟨(vt "code"), none, .fields #[(vs s65 888), (vs s65 889), (vs s9 890), (vi 299 0), (vi 2 0), (vi 0 0), (vi 0 0), (vi 3 0), (vr 499), (vb true), (vi 181 0), (vr 500), vn, (vr 501), (vr 502), (vr 503), (vi 895 0), (vi 299 0), (vs s9 896)], #[]⟩
noncomputable def o505 : Obj := fO (vt "function") s65 s65 (T 60) 3 vn (vs s229 789) (vr 504) 0
noncomputable def o506 : Obj := tp []
noncomputable def o507 : Obj := ⟨vn, none, .fields #[], #[]⟩
noncomputable def o508 : Obj := fO vn s66 s66 (T 61) 0 vn vn vn 0
noncomputable def o509 : Obj := ⟨(vt "code"), none, .fields #[(vs s66 898), (vs s66 899), (vs s9 900), (vi 303 0), (vi 2 0), (vi 0 0), (vi 0 0), (vi 3 0), (vr 506), (vb true), (vi 181 0), (vr 507), vn, vn, vn, (vr 508), (vi 901 0), (vi 303 0), (vs s9 902)], #[]⟩
noncomputable def o510 : Obj := fO (vt "function") s66 s66 (T 61) 3 vn (vs s229 789) (vr 509) 0
noncomputable def o511 : Obj := tp []
noncomputable def o512 : Obj := ⟨vn, none, .fields #[], #[]⟩
noncomputable def o513 : Obj := tp [(vs s236 907), (vs s237 908), (vs s238 909), (vs s126 910), (vs s239 911), (vs s162 912)]
noncomputable def o514 : Obj := tp []
noncomputable def o515 : Obj := fO vn s67 s67 (T 62) 0 vn vn vn 0
noncomputable def o516 : Obj := ⟨(vt "code"), none, .fields #[(vs s67 904), (vs s67 905), (vs s9 906), (vi 307 0), (vi 3 0), (vi 0 0), (vi 0 0), (vi 3 0), (vr 511), (vb true), (vi 181 0), (vr 512), vn, (vr 513), (vr 514), (vr 515), (vi 913 0), (vi 307 0), (vs s9 914)], #[]⟩
noncomputable def o517 : Obj := fO (vt "function") s67 s67 (T 62) 3 vn (vs s229 789) (vr 516) 0
noncomputable def o518 : Obj := tp []
noncomputable def o519 : Obj := ⟨vn, none, .fields #[], #[]⟩
noncomputable def o520 : Obj := tp [(vs s167 919), (vs s178 920), (vs s231 921), (vs s179 922), (vs s162 923), (vs s170 924), (vs s234 925)]
noncomputable def o521 : Obj := tp []
noncomputable def o522 : Obj := fO vn s68 s68 (T 63) 0 vn vn vn 0
noncomputable def o523 : Obj := ⟨(vt "code"), none, .fields #[(vs s68 916), (vs s68 917), (vs s9 918), (vi 316 0), (vi 2 0), (vi 0 0), (vi 0 0), (vi 3 0), (vr 518), (vb true), (vi 181 0), (vr 519), vn, (vr 520), (vr 521), (vr 522), (vi 926 0), (vi 316 0), (vs s9 927)], #[]⟩
noncomputable def o524 : Obj := fO (vt "function") s68 s68 (T 63) 3 vn (vs s229 789) (vr 523) 0
noncomputable def o525 : Obj := tp []
noncomputable def o526 : Obj := ⟨vn, none, .fields #[], #[]⟩
noncomputable def o527 : Obj := tp [(vs s178 932), (vs s240 933)]
noncomputable def o528 : Obj := tp []
noncomputable def o529 : Obj := fO vn s69 s69 (T 64) 0 vn vn vn 0
noncomputable def o530 : Obj := ⟨(vt "code"), none, .fields #[(vs s69 929), (vs s69 930), (vs s9 931), (vi 324 0), (vi 2 0), (vi 0 0), (vi 0 0), (vi 3 0), (vr 525), (vb true), (vi 181 0), (vr 526), vn, (vr 527), (vr 528), (vr 529), (vi 934 0), (vi 324 0), (vs s9 935)], #[]⟩
noncomputable def o531 : Obj := fO (vt "function") s69 s69 (T 64) 3 vn (vs s229 789) (vr 530) 0
noncomputable def o532 : Obj := tp []
noncomputable def o533 : Obj := ⟨vn, none, .fields #[], #[]⟩
noncomputable def o534 : Obj := tp [(vs s178 940), (vs s167 941)]
noncomputable def o535 : Obj := tp []
noncomputable def o536 : Obj := fO vn s70 s70 (T 65) 0 vn vn vn 0
noncomputable def o537 : Obj := ⟨(vt "code"), none, .fields #[(vs s70 937), (vs s70 938), (vs s9 939), (vi 326 0), (vi 2 0), (vi 0 0), (vi 0 0), (vi 3 0), (vr 532), (vb true), (vi 181 0), (vr 533), vn, (vr 534), (vr 535), (vr 536), (vi 942 0), (vi 326 0), (vs s9 943)], #[]⟩
noncomputable def o538 : Obj := fO (vt "function") s70 s70 (T 65) 3 vn (vs s229 789) (vr 537) 0
noncomputable def o539 : Obj := tp []
noncomputable def o540 : Obj := ⟨vn, none, .fields #[], #[]⟩
noncomputable def o541 : Obj := tp [(vs s178 948), (vs s182 949), (vs s167 950)]
noncomputable def o542 : Obj := tp []
noncomputable def o543 : Obj := fO vn s71 s71 (T 66) 0 vn vn vn 0
noncomputable def o544 : Obj := ⟨(vt "code"), none, .fields #[(vs s71 945), (vs s71 946), (vs s9 947), (vi 330 0), (vi 3 0), (vi 0 0), (vi 0 0), (vi 3 0), (vr 539), (vb true), (vi 181 0), (vr 540), vn, (vr 541), (vr 542), (vr 543), (vi 951 0), (vi 330 0), (vs s9 952)], #[]⟩
noncomputable def o545 : Obj := fO (vt "function") s71 s71 (T 66) 3 vn (vs s229 789) (vr 544) 0
noncomputable def o546 : Obj := tp []
noncomputable def o547 : Obj := ⟨vn, none, .fields #[], #[]⟩
noncomputable def o548 : Obj := tp [(vs s158 959)]
noncomputable def o549 : Obj := tp []
noncomputable def o550 : Obj := fO vn s72 s72 (T 68) 0 vn vn vn 0
noncomputable def o551 : Obj := ⟨(vt "code"), none, .fields #[(vs s72 956), (vs s72 957), (vs s9 958), (vi 335 0), (vi 1 0), (vi 0 0), (vi 0 0), (vi 3 0), (vr 546), (vb true), (vi 181 0), (vr 547), vn, (vr 548), (vr 549), (vr 550), (vi 960 0), (vi 335 0), (vs s9 961)], #[]⟩
noncomputable def o552 : Obj := fO (vt "function") s72 s72 (T 68) 3 vn (vs s241 954) (vr 551) 0
noncomputable def o553 : Obj := tp []
noncomputable def o554 : Obj := ⟨vn, none, .fields #[], #[]⟩
noncomputable def o555 : Obj := tp [(vs s170 966)]
noncomputable def o556 : Obj := tp []
noncomputable def o557 : Obj := fO vn s73 s73 (T 69) 0 vn vn vn 0
noncomputable def o558 : Obj := ⟨(vt "code"), none, .fields #[(vs s73 963), (vs s73 964), (vs s9 965), (vi 337 0), (vi 1 0), (vi 0 0), (vi 0 0), (vi 3 0), (vr 553), (vb true), (vi 181 0), (vr 554), vn, (vr 555), (vr 556), (vr 557), (vi 967 0), (vi 337 0), (vs s9 968)], #[]⟩
noncomputable def o559 : Obj := fO (vt "function") s73 s73 (T 69) 3 vn (vs s241 954) (vr 558) 0
noncomputable def o560 : Obj := tp []
noncomputable def o561 : Obj := ⟨vn, none, .fields #[], #[]⟩
noncomputable def o562 : Obj := tp [(vs s167 973), (vs s184 974), (vs s185 975)]
noncomputable def o563 : Obj := tp []
noncomputable def o564 : Obj := fO vn s74 s74 (T 70) 0 vn vn vn 0
noncomputable def o565 : Obj := ⟨(vt "code"), none, .fields #[(vs s74 970), (vs s74 971), (vs s9 972), (vi 341 0), (vi 3 0), (vi 0 0), (vi 0 0), (vi 3 0), (vr 560), (vb true), (vi 181 0), (vr 561), vn, (vr 562), (vr 563), (vr 564), (vi 976 0), (vi 341 0), (vs s9 977)], #[]⟩
noncomputable def o566 : Obj := fO (vt "function") s74 s74 (T 70) 3 vn (vs s241 954) (vr 565) 0
noncomputable def o567 : Obj := tp []
noncomputable def o568 : Obj := ⟨vn, none, .fields #[], #[]⟩
noncomputable def o569 : Obj := tp [(vs s170 982), (vs s167 983), (vs s184 984), (vs s185 985)]
noncomputable def o570 : Obj := tp []
noncomputable def o571 : Obj := fO vn s75 s75 (T 71) 0 vn vn vn 0
noncomputable def o572 : Obj := ⟨(vt "code"), none, .fields #[(vs s75 979), (vs s75 980), (vs s9 981), (vi 343 0), (vi 2 0), (vi 0 0), (vi 0 0), (vi 3 0), (vr 567), (vb true), (vi 181 0), (vr 568), vn, (vr 569), (vr 570), (vr 571), (vi 986 0), (vi 343 0), (vs s9 987)], #[]⟩
noncomputable def o573 : Obj := fO (vt "function") s75 s75 (T 71) 3 vn (vs s241 954) (vr 572) 0
noncomputable def o574 : Obj := tp []
noncomputable def o575 : Obj := ⟨vn, none, .fields #[], #[]⟩
noncomputable def o576 : Obj := tp [(vs s170 992), (vs s167 993)]
noncomputable def o577 : Obj := tp []
noncomputable def o578 : Obj := fO vn s76 s76 (T 72) 0 vn vn vn 0
noncomputable def o579 : Obj := ⟨(vt "code"), none, .fields #[(vs s76 989), (vs s76 990), (vs s9 991), (vi 346 0), (vi 2 0), (vi 0 0), (vi 0 0), (vi 3 0), (vr 574), (vb true), (vi 181 0), (vr 575), vn, (vr 576), (vr 577), (vr 578), (vi 994 0), (vi 346 0), (vs s9 995)], #[]⟩
noncomputable def o580 : Obj := fO (vt "function") s76 s76 (T 72) 3 vn (vs s241 954) (vr 579) 0
noncomputable def o581 : Obj := tp []
noncomputable def o582 : Obj := ⟨vn, none, .fields #[], #[]⟩
noncomputable def o583 : Obj := tp [(vs s178 1000), (vs s167 1001)]
noncomputable def o584 : Obj := tp []
noncomputable def o585 : Obj := fO vn s77 s77 (T 73) 0 vn vn vn 0
noncomputable def o586 : Obj := ⟨(vt "code"), none, .fields #[(vs s77 997), (vs s77 998), (vs s9 999), (vi 350 0), (vi 2 0), (vi 0 0), (vi 0 0), (vi 3 0), (vr 581), (vb true), (vi 181 0), (vr 582), vn, (vr 583), (vr 584), (vr 585), (vi 1002 0), (vi 350 0), (vs s9 1003)], #[]⟩
noncomputable def o587 : Obj := fO (vt "function") s77 s77 (T 73) 3 vn (vs s241 954) (vr 586) 0
noncomputable def o588 : Obj := tp []
noncomputable def o589 : Obj := ⟨vn, none, .fields #[], #[]⟩
noncomputable def o590 : Obj := tp [(vs s170 1008), (vs s184 1009), (vs s185 1010)]
noncomputable def o591 : Obj := tp []
noncomputable def o592 : Obj := fO vn s78 s78 (T 74) 0 vn vn vn 0
noncomputable def o593 : Obj := ⟨(vt "code"), none, .fields #[(vs s78 1005), (vs s78 1006), (vs s9 1007), (vi 354 0), (vi 3 0), (vi 0 0), (vi 0 0), (vi 3 0), (vr 588), (vb true), (vi 181 0), (vr 589), vn, (vr 590), (vr 591), (vr 592), (vi 1011 0), (vi 354 0), (vs s9 1012)], #[]⟩
noncomputable def o594 : Obj := fO (vt "function") s78 s78 (T 74) 3 vn (vs s241 954) (vr 593) 0
noncomputable def o595 : Obj := tp []
noncomputable def o596 : Obj := ⟨vn, none, .fields #[], #[]⟩
noncomputable def o597 : Obj := tp [(vs s242 1017), (vs s243 1018), (vs s244 1019)]
noncomputable def o598 : Obj := tp []
noncomputable def o599 : Obj := fO vn s79 s79 (T 75) 0 vn vn vn 0
noncomputable def o600 : Obj := ⟨(vt "code"), none, .fields #[(vs s79 1014), (vs s79 1015), (vs s9 1016), (vi 359 0), (vi 2 0), (vi 0 0), (vi 0 0), (vi 3 0), (vr 595), (vb true), (vi 181 0), (vr 596), vn, (vr 597), (vr 598), (vr 599), (vi 1020 0), (vi 359 0), (vs s9 1021)], #[]⟩
noncomputable def o601 : Obj := fO (vt "function") s79 s79 (T 75) 3 vn (vs s241 954) (vr 600) 0
noncomputable def o602 : Obj := tp []
noncomputable def o603 : Obj := ⟨vn, none, .fields #[], #[]⟩
noncomputable def o604 : Obj := tp [(vs s242 1026), (vs s243 1027), (vs s244 1028)]
noncomputable def o605 : Obj := tp []
noncomputable def o606 : Obj := fO vn s80 s80 (T 76) 0 vn vn vn 0
noncomputable def o607 : Obj := ⟨(vt "code"), none, .fields #[(vs s80 1023), (vs s80 1024), (vs s9 1025), (vi 364 0), (vi 2 0), (vi 0 0), (vi 0 0), (vi 3 0), (vr 602), (vb true), (vi 181 0), (vr 603), vn, (vr 604), (vr 605), (vr 606), (vi 1029 0), (vi 364 0), (vs s9 1030)], #[]⟩
noncomputable def o608 : Obj := fO (vt "function") s80 s80 (T 76) 3 vn (vs s241 954) (vr 607) 0
noncomputable def o609 : Obj := tp []
noncomputable def o610 : Obj := ⟨vn, none, .fields #[], #[]⟩
noncomputable def o611 : Obj := tp [(vs s178 1035)]
noncomputable def o612 : Obj := tp []
noncomputable def o613 : Obj := fO vn s81 s81 (T 77) 0 vn vn vn 0
noncomputable def o614 : Obj := ⟨(vt "code"), none, .fields #[(vs s81 1032), (vs s81 1033), (vs s9 1034), (vi 369 0), (vi 1 0), (vi 0 0), (vi 0 0), (vi 3 0), (vr 609), (vb true), (vi 181 0), (vr 610), vn, (vr 611), (vr 612), (vr 613), (vi 1036 0), (vi 369 0), (vs s9 1037)], #[]⟩
noncomputable def o615 : Obj := fO (vt "function") s81 s81 (T 77) 3 vn (vs s241 954) (vr 614) 0
noncomputable def o616 : Obj := tp []
noncomputable def o617 : Obj := ⟨vn, none, .fields #[], #[]⟩
noncomputable def o618 : Obj := tp [(vs s236 1042), (vs s237 1043), (vs s167 1044), (vs s242 1045), (vs s243 1046)]
noncomputable def o619 : Obj := tp []
noncomputable def o620 : Obj := fO vn s82 s82 (T 78) 0 vn vn vn 0
noncomputable def o621 : Obj := ⟨(vt "code"), none, .fields #[(vs s82 1039), (vs s82 1040), (vs s9 1041), (vi 373 0), (vi 3 0), (vi 0 0), (vi 0 0), (vi 3 0), (vr 616), (vb true), (vi 181 0), (vr 617), vn, (vr 618), (vr 619), (vr 620), (vi 1047 0), (vi 373 0), (vs s9 1048)], #[]⟩
noncomputable def o622 : Obj := fO (vt "function") s82 s82 (T 78) 3 vn (vs s241 954) (vr 621) 0
noncomputable def o623 : Obj := tp []
noncomputable def o624 : Obj := ⟨vn, none, .fields #[], #[]⟩
noncomputable def o625 : Obj := tp [(vs s170 1053), (vs s237 1054), (vs s167 1055)]
noncomputable def o626 : Obj := tp []
noncomputable def o627 : Obj := fO vn s83 s83 (T 79) 0 vn vn vn 0
noncomputable def o628 : Obj := ⟨(vt "code"), none, .fields #[(vs s83 1050), (vs s83 1051), (vs s9 1052), (vi 379 0), (vi 3 0), (vi 0 0), (vi 0 0), (vi 3 0), (vr 623), (vb true), (vi 181 0), (vr 624), vn, (vr 625), (vr 626), (vr 627), (vi 1056 0), (vi 379 0), (vs s9 1057)], #[]⟩
noncomputable def o629 : Obj := fO (vt "function") s83 s83 (T 79) 3 vn (vs s241 954) (vr 628) 0
noncomputable def o630 : Obj := tp []
noncomputable def o631 : Obj := ⟨vn, none, .fields #[], #[]⟩
noncomputable def o632 : Obj := tp [(vs s178 1064)]
noncomputable def o633 : Obj := tp []
noncomputable def o634 : Obj := fO vn s84 s84 (T 81) 0 vn vn vn 0
noncomputable def o635 : Obj := ⟨(vt "code"), none, .fields #[(vs s84 1061), (vs s84 1062), (vs s9 1063), (vi 382 0), (vi 1 0), (vi 0 0), (vi 0 0), (vi 3 0), (vr 630), (vb true), (vi 181 0), (vr 631), vn, (vr 632), (vr 633), (vr 634), (vi 1065 0), (vi 382 0), (vs s9 1066)], #[]⟩
noncomputable def o636 : Obj := fO (vt "function") s84 s84 (T 81) 3 vn (vs s245 1059) (vr 635) 0
noncomputable def o637 : Obj := tp []
noncomputable def o638 : Obj := ⟨vn, none, .fields #[], #[]⟩
noncomputable def o639 : Obj := tp [(vs s167 1071), (vs s178 1072)]
noncomputable def o640 : Obj := tp []
noncomputable def o641 : Obj := fO vn s85 s85 (T 82) 0 vn vn vn 0
noncomputable def o642 : Obj := ⟨(vt "code"), none, .fields #[(vs s85 1068), (vs s85 1069), (vs s9 1070), (vi 384 0), (vi 2 0), (vi 0 0), (vi 0 0), (vi 3 0), (vr 637), (vb true), (vi 181 0), (vr 638), vn, (vr 639), (vr 640), (vr 641), (vi 1073 0), (vi 384 0), (vs s9 1074)], #[]⟩
noncomputable def o643 : Obj := fO (vt "function") s85 s85 (T 82) 3 vn (vs s245 1059) (vr 642) 0
noncomputable def o644 : Obj := tp []
noncomputable def o645 : Obj := ⟨vn, none, .fields #[], #[]⟩
noncomputable def o646 : Obj := fO vn s86 s86 (T 83) 0 vn vn vn 0
noncomputable def o647 : Obj := ⟨(vt "code"), none, .fields #[(vs s86 1076), (vs s86 1077), (vs s9 1078), (vi 387 0), (vi 1 0), (vi 0 0), (vi 0 0), (vi 3 0), (vr 644), (vb true), (vi 181 0), (vr 645), vn, vn, vn, (vr 646), (vi 1079 0), (vi 387 0), (vs s9 1080)], #[]⟩
noncomputable def o648 : Obj := fO (vt "function") s86 s86 (T 83) 3 vn (vs s245 1059) (vr 647) 0
noncomputable def o649 : Obj := tp []
noncomputable def o650 : Obj := ⟨vn, none, .fields #[], #[]⟩
noncomputable def o651 : Obj := tp [(vs s170 1085)]
noncomputable def o652 : Obj := tp []
noncomputable def o653 : Obj := fO vn s87 s87 (T 84) 0 vn vn vn 0
noncomputable def o654 : Obj := ⟨(vt "code"), none, .fields #[(vs s87 1082), (vs s87 1083), (vs s9 1084), (vi 389 0), (vi 1 0), (vi 0 0), (vi 0 0), (vi 3 0), (vr 649), (vb true), (vi 181 0), (vr 650), vn, (vr 651), (vr 652), (vr 653), (vi 1086 0), (vi 389 0), (vs s9 1087)], #[]⟩
noncomputable def o655 : Obj := fO (vt "function") s87 s87 (T 84) 3 vn (vs s245 1059) (vr 654) 0
noncomputable def o656 : Obj := tp []
noncomputable def o657 : Obj := ⟨vn, none, .fields #[], #[]⟩
noncomputable def o658 : Obj := tp [(vs s170 1092), (vs s167 1093), (vs s175 1094)]
noncomputable def o659 : Obj := tp []
noncomputable def o660 : Obj := fO vn s88 s88 (T 85) 0 vn vn vn 0
noncomputable def o661 : Obj := ⟨(vt "code"), none, .fields #[(vs s88 1089), (vs s88 1090), (vs s9 1091), (vi 396 0), (vi 2 0), (vi 0 0), (vi 0 0), (vi 3 0), (vr 656), (vb true), (vi 181 0), (vr 657), vn, (vr 658), (vr 659), (vr 660), (vi 1095 0), (vi 396 0), (vs s9 1096)], #[]⟩
noncomputable def o662 : Obj := fO (vt "function") s88 s88 (T 85) 3 vn (vs s245 1059) (vr 661) 0
noncomputable def o663 : Obj := tp []
noncomputable def o664 : Obj := ⟨vn, none, .fields #[], #[]⟩
noncomputable def o665 : Obj := tp [(vs s170 1101), (vs s167 1102), (vs s156 1103)]
noncomputable def o666 : Obj := tp []
noncomputable def o667 : Obj := fO vn s89 s89 (T 86) 0 vn vn vn 0
noncomputable def o668 : Obj := ⟨(vt "code"), none, .fields #[(vs s89 1098), (vs s89 1099), (vs s9 1100), (vi 402 0), (vi 2 0), (vi 0 0), (vi 0 0), (vi 3 0), (vr 663), (vb true), (vi 181 0), (vr 664), vn, (vr 665), (vr 666), (vr 667), (vi 1104 0), (vi 402 0), (vs s9 1105)], #[]⟩
noncomputable def o669 : Obj := fO (vt "function") s89 s89 (T 86) 3 vn (vs s245 1059) (vr 668) 0
noncomputable def o670 : Obj := tp []
noncomputable def o671 : Obj := ⟨vn, none, .fields #[], #[]⟩
noncomputable def o672 : Obj := tp [(vs s170 1110), (vs s167 1111), (vs s178 1112)]
noncomputable def o673 : Obj := tp []
noncomputable def o674 : Obj := fO vn s90 s90 (T 87) 0 vn vn vn 0
noncomputable def o675 : Obj := ⟨(vt "code"), none, .fields #[(vs s90 1107), (vs s90 1108), (vs s9 1109), (vi 409 0), (vi 2 0), (vi 0 0), (vi 0 0), (vi 3 0), (vr 670), (vb true), (vi 181 0), (vr 671), vn, (vr 672), (vr 673), (vr 674), (vi 1113 0), (vi 409 0), (vs s9 1114)], #[]⟩
noncomputable def o676 : Obj := fO (vt "function") s90 s90 (T 87) 3 vn (vs s245 1059) (vr 675) 0
noncomputable def o677 : Obj := tp []
noncomputable def o678 : Obj := ⟨vn, none, .fields #[], #[]⟩
noncomputable def o679 : Obj := tp [(vs s170 1119), (vs s167 1120), (vs s178 1121), (vs s156 1122)]
noncomputable def o680 : Obj := tp []
noncomputable def o681 : Obj := fO vn s91 s91 (T 88) 0 vn vn vn 0
noncomputable def o682 : Obj := ⟨(vt "code"), none, .fields #[(vs s91 1116), (vs s91 1117), (vs s9 1118), (vi 419 0), (vi 2 0), (vi 0 0), (vi 0 0), (vi 3 0), (vr 677), (vb true), (vi 181 0), (vr 678), vn, (vr 679), (vr 680), (vr 681), (vi 1123 0), (vi 419 0), (vs s9 1124)], #[]⟩
noncomputable def o683 : Obj := fO (vt "function") s91 s91 (T 88) 3 vn (vs s245 1059) (vr 682) 0
noncomputable def o684 : Obj := tp []
noncomputable def o685 : Obj := ⟨vn, none, .fields #[], #[]⟩
noncomputable def o686 : Obj := tp [(vs s170 1129), (vs s246 1130), (vs s178 1131), (vs s156 1132)]
noncomputable def o687 : Obj := tp []
noncomputable def o688 : Obj := fO vn s92 s92 (T 89) 0 vn vn vn 0
noncomputable def o689 : Obj := ⟨(vt "code"), none, .fields #[(vs s92 1126), (vs s92 1127), (vs s9 1128), (vi 430 0), (vi 2 0), (vi 0 0), (vi 0 0), (vi 3 0), (vr 684), (vb true), (vi 181 0), (vr 685), vn, (vr 686), (vr 687), (vr 688), (vi 1133 0), (vi 430 0), (vs s9 1134)], #[]⟩
noncomputable def o690 : Obj := fO (vt "function") s92 s92 (T 89) 3 vn (vs s245 1059) (vr 689) 0
noncomputable def o691 : Obj := tp []
noncomputable def o692 : Obj := ⟨vn, none, .fields #[], #[]⟩
noncomputable def o693 : Obj := tp [(vs s178 1139), (vs s167 1140), (vs s183 1141), (vs s184 1142), (vs s185 1143)]
noncomputable def o694 : Obj := tp []
noncomputable def o695 : Obj := fO vn s93 s93 (T 90) 0 vn vn vn 0
noncomputable def o696 : Obj := ⟨(vt "code"), none, .fields #[(vs s93 1136), (vs s93 1137), (vs s9 1138), (vi 437 0), (vi 2 0), (vi 0 0), (vi 0 0), (vi 3 0), (vr 691), (vb true), (vi 181 0), (vr 692), vn, (vr 693), (vr 694), (vr 695), (vi 1144 0), (vi 437 0), (vs s9 1145)], #[]⟩
noncomputable def o697 : Obj := fO (vt "function") s93 s93 (T 90) 3 vn (vs s245 1059) (vr 696) 0
noncomputable def o698 : Obj := tp []
noncomputable def o699 : Obj := ⟨vn, none, .fields #[], #[]⟩
noncomputable def o700 : Obj := tp [(vs s170 1150), (vs s237 1151), (vs s167 1152), (vs s178 1153)]
noncomputable def o701 : Obj := tp []
noncomputable def o702 : Obj := fO vn s94 s94 (T 91) 0 vn vn vn 0
noncomputable def o703 : Obj := ⟨(vt "code"), none, .fields #[(vs s94 1147), (vs s94 1148), (vs s9 1149), (vi 442 0), (vi 3 0), (vi 0 0), (vi 0 0), (vi 3 0), (vr 698), (vb true), (vi 181 0), (vr 699), vn, (vr 700), (vr 701), (vr 702), (vi 1154 0), (vi 442 0), (vs s9 1155)], #[]⟩
noncomputable def o704 : Obj := fO (vt "function") s94 s94 (T 91) 3 vn (vs s245 1059) (vr 703) 0
noncomputable def o705 : Obj := tp []
noncomputable def o706 : Obj := ⟨(vt "builtin_function_or_method"), none, .fields #[(vB "type.__prepare__"), (vt "type")], #[]⟩
noncomputable def o707 (P : Params) : Obj := ⟨(vt "dict"), none, .dict #[de P s140 1166 (vs s247 1157), de P s142 1168 (vs s95 1167), de P s143 1170 (vi 458 1169), de P s144 1179 (vr 718), de P s145 1184 (vr 719)] 5, #[]⟩
noncomputable def o708 : Obj := tp []
noncomputable def o709 : Obj := ⟨vn, none, .fields #[(vi 460 0), (vi 4 0), (vr 717)], #[]⟩
noncomputable def o710 : Obj := ⟨(vt "code"), none, .fields #[(vs s95 1161), (vs s95 1162), (vs s9 1163), (vi 458 0), (vi 0 0), (vi 0 0), (vi 0 0), (vi 0 0), (vr 708), (vb false), (vi 181 0), (vr 709), vn, vn, vn, vn, (vi 1164 0), (vi 458 0), (vs s9 1165)], #[]⟩
noncomputable def o711 : Obj := ⟨(vt "frame"), none, .plain, #[(some (vr 710)), (some (vr 3)), (some (vr 707)), none, (some (vs s247 1157)), none, (some (vr 0))]⟩
noncomputable def o712 : Obj := tp []
noncomputable def o713 : Obj := ⟨vn, none, .fields #[], #[]⟩
noncomputable def o714 : Obj := tp [(vs s146 1174), (vs s216 1175), (vs s248 1176)]
noncomputable def o715 : Obj := tp []
noncomputable def o716 : Obj := fO vn s144 s249 (M 93 0) 0 vn vn vn 0
noncomputable def o717 : Obj := ⟨(vt "code"), none, .fields #[(vs s144 1171), (vs s249 1172), (vs s9 1173), (vi 460 0), (vi 3 0), (vi 0 0), (vi 0 0), (vi 3 0), (vr 712), (vb true), (vi 181 0), (vr 713), vn, (vr 714), (vr 715), (vr 716), (vi 1177 0), (vi 460 0), (vs s9 1178)], #[]⟩
noncomputable def o718 : Obj := fO (vt "function") s144 s249 (M 93 0) 3 vn (vs s247 1157) (vr 717) 0
noncomputable def o719 : Obj := tp [(vs s250 1180), (vs s216 1181), (vs s248 1182), (vs s251 1183)]
noncomputable def o720 (P : Params) : Obj := ⟨(vt "dict"), none, .dict #[de P s140 1166 (vs s247 1157), de P s143 1170 (vi 458 1169), de P s144 1179 (vr 718), de P s145 1184 (vr 719), de P s152 1186 (vr 722), de P s153 1188 (vr 723), de P s2 1189 vn] 4, #[]⟩
noncomputable def o721 : Obj := ⟨(vt "type"), none, .cls ⟨s95, [(vt "object")], [(vr 721), (vt "object")], 720, s95, true, [], [], false, none, false⟩, #[none, none, (some (vs s95 1159)), (some (vs s95 1167)), (some (vB "object.__new__")), (some (vb true))]⟩
noncomputable def o722 : Obj := ⟨(vt "getset_descriptor"), none, .fields #[(vs s152 1185), (vr 721), (vB "function.__dict__"), (vB "function.__dict__#set")], #[]⟩
noncomputable def o723 : Obj := ⟨(vt "getset_descriptor"), none, .fields #[(vs s153 1187), (vr 721), (vB "ExceptionGroup.__weakref__"), vn], #[]⟩
noncomputable def o724 : Obj := ⟨(vt "super"), none, .fields #[(vr 721), (vr 721), (vr 721)], #[]⟩
noncomputable def o725 : Obj := ⟨(vt "builtin_function_or_method"), none, .fields #[(vB "object.__init_subclass__"), (vr 721)], #[]⟩
noncomputable def o726 : Obj := tp []
noncomputable def o727 : Obj := ⟨(vt "builtin_function_or_method"), none, .fields #[(vB "type.__prepare__"), (vt "type")], #[]⟩
noncomputable def o728 (P : Params) : Obj := ⟨(vt "dict"), none, .dict #[de P s140 1199 (vs s247 1157), de P s142 1201 (vs s96 1200), de P s143 1203 (vi 465 1202), de P s144 1212 (vr 739), de P s145 1244 (vr 740)] 5, #[]⟩
noncomputable def o729 : Obj := tp []
noncomputable def o730 : Obj := ⟨vn, none, .fields #[(vi 467 0), (vi 4 0), (vr 738)], #[]⟩
noncomputable def o731 : Obj := ⟨(vt "code"), none, .fields #[(vs s96 1194), (vs s96 1195), (vs s9 1196), (vi 465 0), (vi 0 0), (vi 0 0), (vi 0 0), (vi 0 0), (vr 729), (vb false), (vi 181 0), (vr 730), vn, vn, vn, vn, (vi 1197 0), (vi 465 0), (vs s9 1198)], #[]⟩
noncomputable def o732 : Obj := ⟨(vt "frame"), none, .plain, #[(some (vr 731)), (some (vr 3)), (some (vr 728)), none, (some (vs s247 1157)), none, (some (vr 0))]⟩
noncomputable def o733 : Obj := tp []
noncomputable def o734 : Obj := ⟨vn, none, .fields #[], #[]⟩
noncomputable def o735 : Obj := tp [(vs s146 1207), (vs s252 1208), (vs s253 1209)]
noncomputable def o736 : Obj := tp []
noncomputable def o737 : Obj := fO vn s144 s254 (M 94 0) 0 vn vn vn 0
noncomputable def o738 : Obj := ⟨(vt "code"), none, .fields #[(vs s144 1204), (vs s254 1205), (vs s9 1206), (vi 467 0), (vi 3 0), (vi 0 0), (vi 0 0), (vi 3 0), (vr 733), (vb true), (vi 181 0), (vr 734), vn, (vr 735), (vr 736), (vr 737), (vi 1210 0), (vi 467 0), (vs s9 1211)], #[]⟩
noncomputable def o739 : Obj := fO (vt "function") s144 s254 (M 94 0) 3 vn (vs s247 1157) (vr 738) 0
noncomputable def o740 : Obj := tp [(vs s255 1213), (vs s256 1214), (vs s257 1215), (vs s258 1216), (vs s259 1217), (vs s231 1218), (vs s260 1219), (vs s261 1220), (vs s262 1221), (vs s263 1222), (vs s264 1223), (vs s265 1224), (vs s266 1225), (vs s267 1226), (vs s268 1227), (vs s253 1228), (vs s160 1229), (vs s269 1230), (vs s270 1231), (vs s271 1232), (vs s272 1233), (vs s273 1234), (vs s274 1235), (vs s275 1236), (vs s276 1237), (vs s277 1238), (vs s278 1239), (vs s279 1240), (vs s280 1241), (vs s281 1242), (vs s252 1243)]
noncomputable def o741 (P : Params) : Obj := ⟨(vt "dict"), none, .dict #[de P s140 1199 (vs s247 1157), de P s143 1203 (vi 465 1202), de P s144 1212 (vr 739), de P s145 1244 (vr 740), de P s152 1246 (vr 743), de P s153 1248 (vr 744), de P s2 1249 vn] 4, #[]⟩
noncomputable def o742 : Obj := ⟨(vt "type"), none, .cls ⟨s96, [(vt "object")], [(vr 742), (vt "object")], 741, s96, true, [], [], false, none, false⟩, #[none, none, (some (vs s96 1192)), (some (vs s96 1200)), (some (vB "object.__new__")), (some (vb true))]⟩
noncomputable def o743 : Obj := ⟨(vt "getset_descriptor"), none, .fields #[(vs s152 1245), (vr 742), (vB "function.__dict__"), (vB "function.__dict__#set")], #[]⟩
noncomputable def o744 : Obj := ⟨(vt "getset_descriptor"), none, .fields #[(vs s153 1247), (vr 742), (vB "ExceptionGroup.__weakref__"), vn], #[]⟩
noncomputable def o745 : Obj := ⟨(vt "super"), none, .fields #[(vr 742), (vr 742), (vr 742)], #[]⟩
noncomputable def o746 : Obj := ⟨(vt "builtin_function_or_method"), none, .fields #[(vB "object.__init_subclass__"), (vr 742)], #[]⟩
noncomputable def o747 : Obj := tp []
noncomputable def o748 : Obj := ⟨vn, none, .fields #[], #[]⟩
noncomputable def o749 : Obj := tp [(vs s282 1255), (vs s283 1256), (vs s284 1257), (vs s285 1258)]
noncomputable def o750 : Obj := tp []
noncomputable def o751 : Obj := fO vn s97 s97 (T 95) 0 vn vn vn 0
noncomputable def o752 : Obj := ⟨(vt "code"), none, .fields #[(vs s97 1252), (vs s97 1253), (vs s9 1254), (vi 499 0), (vi 2 0), (vi 0 0), (vi 0 0), (vi 3 0), (vr 747), (vb true), (vi 181 0), (vr 748), vn, (vr 749), (vr 750), (vr 751), (vi 1259 0), (vi 499 0), (vs s9 1260)], #[]⟩
noncomputable def o753 : Obj := fO (vt "function") s97 s97 (T 95) 3 vn (vs s247 1157) (vr 752) 0
noncomputable def o754 : Obj := tp []
noncomputable def o755 : Obj := ⟨vn, none, .fields #[], #[]⟩
noncomputable def o756 : Obj := tp [(vs s282 1265), (vs s168 1266), (vs s284 1267)]
noncomputable def o757 : Obj := tp []
noncomputable def o758 : Obj := fO vn s98 s98 (T 96) 0 vn vn vn 0
noncomputable def o759 : Obj := ⟨(vt "code"), none, .fields #[(vs s98 1262), (vs s98 1263), (vs s9 1264), (vi 504 0), (vi 2 0), (vi 0 0), (vi 0 0), (vi 3 0), (vr 754), (vb true), (vi 181 0), (vr 755), vn, (vr 756), (vr 757), (vr 758), (vi 1268 0), (vi 504 0), (vs s9 1269)], #[]⟩
noncomputable def o760 : Obj := fO (vt "function") s98 s98 (T 96) 3 vn (vs s247 1157) (vr 759) 0
noncomputable def o761 : Obj := tp []
noncomputable def o762 : Obj := ⟨vn, none, .fields #[], #[]⟩
noncomputable def o763 : Obj := tp [(vs s282 1274), (vs s283 1275), (vs s162 1276), (vs s250 1277)]
noncomputable def o764 : Obj := tp []
noncomputable def o765 : Obj := fO vn s99 s99 (T 97) 0 vn vn vn 0
noncomputable def o766 : Obj := ⟨(vt "code"), none, .fields #[(vs s99 1271), (vs s99 1272), (vs s9 1273), (vi 509 0), (vi 3 0), (vi 0 0), (vi 0 0), (vi 3 0), (vr 761), (vb true), (vi 181 0), (vr 762), vn, (vr 763), (vr 764), (vr 765), (vi 1278 0), (vi 509 0), (vs s9 1279)], #[]⟩
noncomputable def o767 : Obj := fO (vt "function") s99 s99 (T 97) 3 vn (vs s247 1157) (vr 766) 0
noncomputable def o768 : Obj := tp []
noncomputable def o769 : Obj := ⟨vn, none, .fields #[], #[]⟩
noncomputable def o770 : Obj := tp [(vs s282 1286), (vs s286 1287)]
noncomputable def o771 : Obj := tp []
noncomputable def o772 : Obj := fO vn s100 s100 (T 99) 0 vn vn vn 0
noncomputable def o773 : Obj := ⟨(vt "code"), none, .fields #[(vs s100 1283), (vs s100 1284), (vs s9 1285), (vi 515 0), (vi 2 0), (vi 0 0), (vi 0 0), (vi 3 0), (vr 768), (vb true), (vi 181 0), (vr 769), vn, (vr 770), (vr 771), (vr 772), (vi 1288 0), (vi 515 0), (vs s9 1289)], #[]⟩
noncomputable def o774 : Obj := fO (vt "function") s100 s100 (T 99) 3 vn (vs s287 1281) (vr 773) 0
noncomputable def o775 : Obj := tp []
noncomputable def o776 : Obj := ⟨vn, none, .fields #[], #[]⟩
noncomputable def o777 : Obj := tp [(vs s282 1294), (vs s178 1295), (vs s284 1296)]
noncomputable def o778 : Obj := tp []
noncomputable def o779 : Obj := fO vn s101 s101 (T 100) 0 vn vn vn 0
noncomputable def o780 : Obj := ⟨(vt "code"), none, .fields #[(vs s101 1291), (vs s101 1292), (vs s9 1293), (vi 519 0), (vi 2 0), (vi 0 0), (vi 0 0), (vi 3 0), (vr 775), (vb true), (vi 181 0), (vr 776), vn, (vr 777), (vr 778), (vr 779), (vi 1297 0), (vi 519 0), (vs s9 1298)], #[]⟩
noncomputable def o781 : Obj := fO (vt "function") s101 s101 (T 100) 3 vn (vs s287 1281) (vr 780) 0
noncomputable def o782 : Obj := tp []
noncomputable def o783 : Obj := ⟨vn, none, .fields #[], #[]⟩
noncomputable def o784 : Obj := fO vn s102 s102 (T 101) 0 vn vn vn 0
noncomputable def o785 : Obj := ⟨(vt "code"), none, .fields #[(vs s102 1300), (vs s102 1301), (vs s9 1302), (vi 526 0), (vi 2 0), (vi 0 0), (vi 0 0), (vi 3 0), (vr 782), (vb true), (vi 181 0), (vr 783), vn, vn, vn, (vr 784), (vi 1303 0), (vi 526 0), (vs s9 1304)], #[]⟩
noncomputable def o786 : Obj := fO (vt "function") s102 s102 (T 101) 3 vn (vs s287 1281) (vr 785) 0
noncomputable def o787 : Obj := tp []
noncomputable def o788 : Obj := ⟨vn, none, .fields #[], #[]⟩
noncomputable def o789 : Obj := tp [(vs s282 1309), (vs s170 1310), (vs s288 1311)]
noncomputable def o790 : Obj := tp []
noncomputable def o791 : Obj := fO vn s103 s103 (T 102) 0 vn vn vn 0
noncomputable def o792 : Obj := ⟨(vt "code"), none, .fields #[(vs s103 1306), (vs s103 1307), (vs s9 1308), (vi 535 0), (vi 2 0), (vi 0 0), (vi 0 0), (vi 3 0), (vr 787), (vb true), (vi 181 0), (vr 788), vn, (vr 789), (vr 790), (vr 791), (vi 1312 0), (vi 535 0), (vs s9 1313)], #[]⟩
noncomputable def o793 : Obj := fO (vt "function") s103 s103 (T 102) 3 vn (vs s287 1281) (vr 792) 0
noncomputable def o794 : Obj := tp []
noncomputable def o795 : Obj := ⟨vn, none, .fields #[], #[]⟩
noncomputable def o796 : Obj := tp [(vs s282 1318), (vs s170 1319), (vs s184 1320), (vs s185 1321), (vs s289 1322)]
noncomputable def o797 : Obj := tp []
noncomputable def o798 : Obj := fO vn s104 s104 (T 103) 0 vn vn vn 0
noncomputable def o799 : Obj := ⟨(vt "code"), none, .fields #[(vs s104 1315), (vs s104 1316), (vs s9 1317), (vi 540 0), (vi 2 0), (vi 0 0), (vi 0 0), (vi 3 0), (vr 794), (vb true), (vi 181 0), (vr 795), vn, (vr 796), (vr 797), (vr 798), (vi 1323 0), (vi 540 0), (vs s9 1324)], #[]⟩
noncomputable def o800 : Obj := fO (vt "function") s104 s104 (T 103) 3 vn (vs s287 1281) (vr 799) 0
noncomputable def o801 : Obj := tp []
noncomputable def o802 : Obj := ⟨vn, none, .fields #[], #[]⟩
noncomputable def o803 : Obj := tp [(vs s282 1329), (vs s178 1330), (vs s290 1331), (vs s291 1332), (vs s162 1333), (vs s292 1334), (vs s234 1335)]
noncomputable def o804 : Obj := tp []
noncomputable def o805 : Obj := fO vn s105 s105 (T 104) 0 vn vn vn 0
noncomputable def o806 : Obj := ⟨(vt "code"), none, .fields #[(vs s105 1326), (vs s105 1327), (vs s9 1328), (vi 548 0), (vi 3 0), (vi 0 0), (vi 0 0), (vi 3 0), (vr 801), (vb true), (vi 181 0), (vr 802), vn, (vr 803), (vr 804), (vr 805), (vi 1336 0), (vi 548 0), (vs s9 1337)], #[]⟩
noncomputable def o807 : Obj := fO (vt "function") s105 s105 (T 104) 3 vn (vs s287 1281) (vr 806) 0
noncomputable def o808 : Obj := tp []
noncomputable def o809 : Obj := ⟨vn, none, .fields #[], #[]⟩
noncomputable def o810 : Obj := fO vn s106 s106 (T 105) 0 vn vn vn 0
noncomputable def o811 : Obj := ⟨(vt "code"), none, .fields #[(vs s106 1339), (vs s106 1340), (vs s9 1341), (vi 553 0), (vi 2 0), (vi 0 0), (vi 0 0), (vi 3 0), (vr 808), (vb true), (vi 181 0), (vr 809), vn, vn, vn, (vr 810), (vi 1342 0), (vi 553 0), (vs s9 1343)], #[]⟩
noncomputable def o812 : Obj := fO (vt "function") s106 s106 (T 105) 3 vn (vs s287 1281) (vr 811) 0
noncomputable def o813 : Obj := tp []
noncomputable def o814 : Obj := ⟨vn, none, .fields #[], #[]⟩
noncomputable def o815 : Obj := tp [(vs s293 1350), (vs s188 1351), (vs s184 1352), (vs s185 1353)]
noncomputable def o816 : Obj := tp []
noncomputable def o817 : Obj := fO vn s107 s107 (T 107) 0 vn vn vn 0
noncomputable def o818 : Obj := ⟨(vt "code"), none, .fields #[(vs s107 1347), (vs s107 1348), (vs s9 1349), (vi 573 0), (vi 2 0), (vi 0 0), (vi 0 0), (vi 3 0), (vr 813), (vb true), (vi 181 0), (vr 814), vn, (vr 815), (vr 816), (vr 817), (vi 1354 0), (vi 573 0), (vs s9 1355)], #[]⟩
noncomputable def o819 : Obj := fO (vt "function") s107 s107 (T 107) 3 vn (vs s294 1345) (vr 818) 0
noncomputable def o820 : Obj := tp []
noncomputable def o821 : Obj := ⟨vn, none, .fields #[], #[]⟩
noncomputable def o822 : Obj := tp [(vs s178 1360), (vs s162 1361), (vs s295 1362), (vs s296 1363), (vs s218 1364), (vs s292 1365), (vs s230 1366), (vs s297 1367), (vs s298 1368)]
noncomputable def o823 : Obj := tp []
noncomputable def o824 : Obj := fO vn s108 s108 (T 108) 0 vn vn vn 0
noncomputable def o825 : Obj := ⟨(vt "code"), none, .fields #[(vs s108 1357), (vs s108 1358), (vs s9 1359), (vi 580 0), (vi 2 0), (vi 0 0), (vi 0 0), (vi 3 0), (vr 820), (vb true), (vi 181 0), (vr 821), vn, (vr 822), (vr 823), (vr 824), (vi 1369 0), (vi 580 0), (vs s9 1370)], #[]⟩
noncomputable def o826 : Obj := fO (vt "function") s108 s108 (T 108) 3 vn (vs s294 1345) (vr 825) 0
noncomputable def o827 : Obj := tp []
noncomputable def o828 : Obj := ⟨vn, none, .fields #[], #[]⟩
noncomputable def o829 : Obj := tp [(vs s299 1375), (vs s183 1376), (vs s164 1377)]
noncomputable def o830 : Obj := tp []
noncomputable def o831 : Obj := fO vn s109 s109 (T 109) 0 vn vn vn 0
noncomputable def o832 : Obj := ⟨(vt "code"), none, .fields #[(vs s109 1372), (vs s109 1373), (vs s9 1374), (vi 591 0), (vi 2 0), (vi 0 0), (vi 0 0), (vi 3 0), (vr 827), (vb true), (vi 181 0), (vr 828), vn, (vr 829), (vr 830), (vr 831), (vi 1378 0), (vi 591 0), (vs s9 1379)], #[]⟩
noncomputable def o833 : Obj := fO (vt "function") s109 s109 (T 109) 3 vn (vs s294 1345) (vr 832) 0
noncomputable def o834 : Obj := tp []
noncomputable def o835 : Obj := ⟨vn, none, .fields #[], #[]⟩
noncomputable def o836 : Obj := tp [(vs s299 1384), (vs s183 1385), (vs s156 1386), (vs s178 1387)]
noncomputable def o837 : Obj := tp []
noncomputable def o838 : Obj := fO vn s110 s110 (T 110) 0 vn vn vn 0
noncomputable def o839 : Obj := ⟨(vt "code"), none, .fields #[(vs s110 1381), (vs s110 1382), (vs s9 1383), (vi 604 0), (vi 2 0), (vi 0 0), (vi 0 0), (vi 3 0), (vr 834), (vb true), (vi 181 0), (vr 835), vn, (vr 836), (vr 837), (vr 838), (vi 1388 0), (vi 604 0), (vs s9 1389)], #[]⟩
noncomputable def o840 : Obj := fO (vt "function") s110 s110 (T 110) 3 vn (vs s294 1345) (vr 839) 0
noncomputable def o841 : Obj := tp []
noncomputable def o842 : Obj := ⟨vn, none, .fields #[], #[]⟩
noncomputable def o843 : Obj := tp [(vs s282 1394), (vs s299 1395), (vs s183 1396), (vs s297 1397)]
noncomputable def o844 : Obj := tp []
noncomputable def o845 : Obj := fO vn s111 s111 (T 111) 0 vn vn vn 0
noncomputable def o846 : Obj := ⟨(vt "code"), none, .fields #[(vs s111 1391), (vs s111 1392), (vs s9 1393), (vi 612 0), (vi 3 0), (vi 0 0), (vi 0 0), (vi 3 0), (vr 841), (vb true), (vi 181 0), (vr 842), vn, (vr 843), (vr 844), (vr 845), (vi 1398 0), (vi 612 0), (vs s9 1399)], #[]⟩
noncomputable def o847 : Obj := fO (vt "function") s111 s111 (T 111) 3 vn (vs s294 1345) (vr 846) 0
noncomputable def o848 : Obj := tp []
noncomputable def o849 : Obj := ⟨vn, none, .fields #[], #[]⟩
noncomputable def o850 : Obj := fO vn s112 s112 (T 112) 0 vn vn vn 0
noncomputable def o851 : Obj := ⟨(vt "code"), none, .fields #[(vs s112 1401), (vs s112 1402), (vs s9 1403), (vi 617 0), (vi 1 0), (vi 0 0), (vi 0 0), (vi 3 0), (vr 848), (vb true), (vi 181 0), (vr 849), vn, vn, vn, (vr 850), (vi 1404 0), (vi 617 0), (vs s9 1405)], #[]⟩
noncomputable def o852 : Obj := fO (vt "function") s112 s112 (T 112) 3 vn (vs s294 1345) (vr 851) 0
noncomputable def o853 : Obj := tp []
noncomputable def o854 : Obj := ⟨vn, none, .fields #[], #[]⟩
noncomputable def o855 : Obj := tp [(vs s282 1410), (vs s183 1411), (vs s170 1412), (vs s167 1413)]
noncomputable def o856 : Obj := tp []
noncomputable def o857 : Obj := fO vn s113 s113 (T 113) 0 vn vn vn 0
noncomputable def o858 : Obj := ⟨(vt "code"), none, .fields #[(vs s113 1407), (vs s113 1408), (vs s9 1409), (vi 624 0), (vi 4 0), (vi 0 0), (vi 0 0), (vi 3 0), (vr 853), (vb true), (vi 181 0), (vr 854), vn, (vr 855), (vr 856), (vr 857), (vi 1414 0), (vi 624 0), (vs s9 1415)], #[]⟩
noncomputable def o859 : Obj := fO (vt "function") s113 s113 (T 113) 3 vn (vs s294 1345) (vr 858) 0
noncomputable def o860 : Obj := tp []
noncomputable def o861 : Obj := ⟨vn, none, .fields #[], #[]⟩
noncomputable def o862 : Obj := tp [(vs s183 1420), (vs s170 1421), (vs s167 1422), (vs s300 1423), (vs s182 1424)]
noncomputable def o863 : Obj := tp []
noncomputable def o864 : Obj := fO vn s114 s114 (T 114) 0 vn vn vn 0
noncomputable def o865 : Obj := ⟨(vt "code"), none, .fields #[(vs s114 1417), (vs s114 1418), (vs s9 1419), (vi 628 0), (vi 3 0), (vi 0 0), (vi 0 0), (vi 3 0), (vr 860), (vb true), (vi 181 0), (vr 861), vn, (vr 862), (vr 863), (vr 864), (vi 1425 0), (vi 628 0), (vs s9 1426)], #[]⟩
noncomputable def o866 : Obj := fO (vt "function") s114 s114 (T 114) 3 vn (vs s294 1345) (vr 865) 0
noncomputable def o867 : Obj := tp []
noncomputable def o868 : Obj := ⟨vn, none, .fields #[], #[]⟩
noncomputable def o869 : Obj := tp [(vs s301 1433), (vs s154 1434), (vs s292 1435), (vs s167 1436), (vs s236 1437)]
noncomputable def o870 : Obj := tp []
noncomputable def o871 : Obj := fO vn s115 s115 (T 116) 0 vn vn vn 0
noncomputable def o872 : Obj := ⟨(vt "code"), none, .fields #[(vs s115 1430), (vs s115 1431), (vs s9 1432), (vi 644 0), (vi 3 0), (vi 0 0), (vi 0 0), (vi 3 0), (vr 867), (vb true), (vi 181 0), (vr 868), vn, (vr 869), (vr 870), (vr 871), (vi 1438 0), (vi 644 0), (vs s9 1439)], #[]⟩
noncomputable def o873 : Obj := fO (vt "function") s115 s115 (T 116) 3 vn (vs s302 1428) (vr 872) 0
noncomputable def o874 : Obj := tp []
noncomputable def o875 : Obj := ⟨vn, none, .fields #[], #[]⟩
noncomputable def o876 : Obj := tp [(vs s301 1444), (vs s154 1445), (vs s292 1446), (vs s183 1447), (vs s170 1448)]
noncomputable def o877 : Obj := tp []
noncomputable def o878 : Obj := fO vn s116 s116 (T 117) 0 vn vn vn 0
noncomputable def o879 : Obj := ⟨(vt "code"), none, .fields #[(vs s116 1441), (vs s116 1442), (vs s9 1443), (vi 647 0), (vi 3 0), (vi 0 0), (vi 0 0), (vi 3 0), (vr 874), (vb true), (vi 181 0), (vr 875), vn, (vr 876), (vr 877), (vr 878), (vi 1449 0), (vi 647 0), (vs s9 1450)], #[]⟩
noncomputable def o880 : Obj := fO (vt "function") s116 s116 (T 117) 3 vn (vs s302 1428) (vr 879) 0
noncomputable def o881 : Obj := tp []
noncomputable def o882 : Obj := ⟨(vt "builtin_function_or_method"), none, .fields #[(vB "type.__prepare__"), (vt "type")], #[]⟩
noncomputable def o883 (P : Params) : Obj := ⟨(vt "dict"), none, .dict #[de P s140 1461 (vs s303 1452), de P s142 1463 (vs s117 1462), de P s143 1465 (vi 655 1464), de P s144 1494 (vr 895), de P s145 1502 (vr 896)] 5, #[]⟩
noncomputable def o884 : Obj := tp []
noncomputable def o885 : Obj := ⟨vn, none, .fields #[(vi 657 0), (vi 4 0), (vr 894)], #[]⟩
noncomputable def o886 : Obj := ⟨(vt "code"), none, .fields #[(vs s117 1456), (vs s117 1457), (vs s9 1458), (vi 655 0), (vi 0 0), (vi 0 0), (vi 0 0), (vi 0 0), (vr 884), (vb false), (vi 181 0), (vr 885), vn, vn, vn, vn, (vi 1459 0), (vi 655 0), (vs s9 1460)], #[]⟩
noncomputable def o887 : Obj := ⟨(vt "frame"), none, .plain, #[(some (vr 886)), (some (vr 3)), (some (vr 883)), none, (some (vs s303 1452)), none, (some (vr 0))]⟩
noncomputable def o888 : Obj := tp [(vi 32 1466), (vi 1000000 1469), (vi 50 1470), (vi 10000 1473), (vi 100000 1476), (vi 50 1477), (vi 1000000 1480)]
noncomputable def o889 : Obj := tp []
noncomputable def o890 : Obj := ⟨vn, none, .fields #[], #[]⟩
noncomputable def o891 : Obj := tp [(vs s146 1484), (vs s304 1485), (vs s278 1486), (vs s305 1487), (vs s306 1488), (vs s158 1489), (vs s307 1490), (vs s308 1491)]
noncomputable def o892 : Obj := tp []
noncomputable def o893 : Obj := fO vn s144 s309 (M 119 0) 0 vn vn vn 0
noncomputable def o894 : Obj := ⟨(vt "code"), none, .fields #[(vs s144 1481), (vs s309 1482), (vs s9 1483), (vi 657 0), (vi 8 0), (vi 0 0), (vi 0 0), (vi 3 0), (vr 889), (vb true), (vi 181 0), (vr 890), vn, (vr 891), (vr 892), (vr 893), (vi 1492 0), (vi 657 0), (vs s9 1493)], #[]⟩
noncomputable def o895 : Obj := fO (vt "function") s144 s309 (M 119 0) 3 (vr 888) (vs s303 1452) (vr 894) 0
noncomputable def o896 : Obj := tp [(vs s305 1495), (vs s308 1496), (vs s306 1497), (vs s278 1498), (vs s307 1499), (vs s158 1500), (vs s304 1501)]
noncomputable def o897 (P : Params) : Obj := ⟨(vt "dict"), none, .dict #[de P s140 1461 (vs s303 1452), de P s143 1465 (vi 655 1464), de P s144 1494 (vr 895), de P s145 1502 (vr 896), de P s152 1504 (vr 899), de P s153 1506 (vr 900), de P s2 1507 vn] 4, #[]⟩
noncomputable def o898 : Obj := ⟨(vt "type"), none, .cls ⟨s117, [(vt "object")], [(vr 898), (vt "object")], 897, s117, true, [], [], false, none, false⟩, #[none, none, (some (vs s117 1454)), (some (vs s117 1462)), (some (vB "object.__new__")), (some (vb true))]⟩
noncomputable def o899 : Obj := ⟨(vt "getset_descriptor"), none, .fields #[(vs s152 1503), (vr 898), (vB "function.__dict__"), (vB "function.__dict__#set")], #[]⟩
noncomputable def o900 : Obj := ⟨(vt "getset_descriptor"), none, .fields #[(vs s153 1505), (vr 898), (vB "ExceptionGroup.__weakref__"), vn], #[]⟩
noncomputable def o901 : Obj := ⟨(vt "super"), none, .fields #[(vr 898), (vr 898), (vr 898)], #[]⟩
noncomputable def o902 : Obj := ⟨(vt "builtin_function_or_method"), none, .fields #[(vB "object.__init_subclass__"), (vr 898)], #[]⟩
noncomputable def o903 : Obj := tp []
noncomputable def o904 : Obj := ⟨vn, none, .fields #[], #[]⟩
noncomputable def o905 : Obj := tp [(vs s301 1515), (vs s154 1516), (vs s292 1517)]
noncomputable def o906 : Obj := tp []
noncomputable def o907 : Obj := fO vn s118 s118 (T 121) 0 vn vn vn 0
noncomputable def o908 : Obj := ⟨(vt "code"), none, .fields #[(vs s118 1512), (vs s118 1513), (vs s9 1514), (vi 666 0), (vi 3 0), (vi 0 0), (vi 0 0), (vi 3 0), (vr 903), (vb true), (vi 181 0), (vr 904), vn, (vr 905), (vr 906), (vr 907), (vi 1518 0), (vi 666 0), (vs s9 1519)], #[]⟩
noncomputable def o909 : Obj := fO (vt "function") s118 s118 (T 121) 3 vn (vs s310 1510) (vr 908) 0
noncomputable def o910 : Obj := tp []
noncomputable def o911 : Obj := ⟨vn, none, .fields #[], #[]⟩
noncomputable def o912 : Obj := tp [(vs s301 1524), (vs s154 1525), (vs s292 1526), (vs s288 1527)]
noncomputable def o913 : Obj := tp []
noncomputable def o914 : Obj := fO vn s119 s119 (T 122) 0 vn vn vn 0
noncomputable def o915 : Obj := ⟨(vt "code"), none, .fields #[(vs s119 1521), (vs s119 1522), (vs s9 1523), (vi 668 0), (vi 3 0), (vi 0 0), (vi 0 0), (vi 3 0), (vr 910), (vb true), (vi 181 0), (vr 911), vn, (vr 912), (vr 913), (vr 914), (vi 1528 0), (vi 668 0), (vs s9 1529)], #[]⟩
noncomputable def o916 : Obj := fO (vt "function") s119 s119 (T 122) 3 vn (vs s310 1510) (vr 915) 0
noncomputable def o917 : Obj := tp []
noncomputable def o918 : Obj := ⟨vn, none, .fields #[], #[]⟩
noncomputable def o919 : Obj := tp [(vs s301 1534), (vs s154 1535), (vs s292 1536), (vs s288 1537)]
noncomputable def o920 : Obj := tp []
noncomputable def o921 : Obj := fO vn s120 s120 (T 123) 0 vn vn vn 0
noncomputable def o922 : Obj := ⟨(vt "code"), none, .fields #[(vs s120 1531), (vs s120 1532), (vs s9 1533), (vi 671 0), (vi 3 0), (vi 0 0), (vi 0 0), (vi 3 0), (vr 917), (vb true), (vi 181 0), (vr 918), vn, (vr 919), (vr 920), (vr 921), (vi 1538 0), (vi 671 0), (vs s9 1539)], #[]⟩
noncomputable def o923 : Obj := fO (vt "function") s120 s120 (T 123) 3 vn (vs s310 1510) (vr 922) 0
noncomputable def o924 : Obj := tp []
noncomputable def o925 : Obj := ⟨vn, none, .fields #[], #[]⟩
noncomputable def o926 : Obj := tp [(vs s301 1544), (vs s154 1545), (vs s292 1546)]
noncomputable def o927 : Obj := tp []
noncomputable def o928 : Obj := fO vn s121 s121 (T 124) 0 vn vn vn 0
noncomputable def o929 : Obj := ⟨(vt "code"), none, .fields #[(vs s121 1541), (vs s121 1542), (vs s9 1543), (vi 674 0), (vi 3 0), (vi 0 0), (vi 0 0), (vi 3 0), (vr 924), (vb true), (vi 181 0), (vr 925), vn, (vr 926), (vr 927), (vr 928), (vi 1547 0), (vi 674 0), (vs s9 1548)], #[]⟩
noncomputable def o930 : Obj := fO (vt "function") s121 s121 (T 124) 3 vn (vs s310 1510) (vr 929) 0
noncomputable def o931 : Obj := tp []
noncomputable def o932 : Obj := ⟨vn, none, .fields #[], #[]⟩
noncomputable def o933 : Obj := tp [(vs s301 1553), (vs s154 1554), (vs s292 1555), (vs s151 1556)]
noncomputable def o934 : Obj := tp []
noncomputable def o935 : Obj := fO vn s122 s122 (T 125) 0 vn vn vn 0
noncomputable def o936 : Obj := ⟨(vt "code"), none, .fields #[(vs s122 1550), (vs s122 1551), (vs s9 1552), (vi 676 0), (vi 3 0), (vi 0 0), (vi 0 0), (vi 3 0), (vr 931), (vb true), (vi 181 0), (vr 932), vn, (vr 933), (vr 934), (vr 935), (vi 1557 0), (vi 676 0), (vs s9 1558)], #[]⟩
noncomputable def o937 : Obj := fO (vt "function") s122 s122 (T 125) 3 vn (vs s310 1510) (vr 936) 0
noncomputable def o938 : Obj := tp []
noncomputable def o939 : Obj := ⟨vn, none, .fields #[], #[]⟩
noncomputable def o940 : Obj := tp [(vs s301 1563), (vs s154 1564), (vs s292 1565), (vs s183 1566)]
noncomputable def o941 : Obj := tp []
noncomputable def o942 : Obj := fO vn s123 s123 (T 126) 0 vn vn vn 0
noncomputable def o943 : Obj := ⟨(vt "code"), none, .fields #[(vs s123 1560), (vs s123 1561), (vs s9 1562), (vi 679 0), (vi 3 0), (vi 0 0), (vi 0 0), (vi 3 0), (vr 938), (vb true), (vi 181 0), (vr 939), vn, (vr 940), (vr 941), (vr 942), (vi 1567 0), (vi 679 0), (vs s9 1568)], #[]⟩
noncomputable def o944 : Obj := fO (vt "function") s123 s123 (T 126) 3 vn (vs s310 1510) (vr 943) 0
noncomputable def o945 : Obj := tp []
noncomputable def o946 : Obj := ⟨(vt "builtin_function_or_method"), none, .fields #[(vB "type.__prepare__"), (vt "type")], #[]⟩
noncomputable def o947 (P : Params) : Obj := ⟨(vt "dict"), none, .dict #[de P s140 1579 (vs s311 1570), de P s142 1581 (vs s124 1580), de P s143 1583 (vi 683 1582), de P s144 1593 (vr 958), de P s145 1599 (vr 959)] 5, #[]⟩
noncomputable def o948 : Obj := tp []
noncomputable def o949 : Obj := ⟨vn, none, .fields #[(vi 685 0), (vi 4 0), (vr 957)], #[]⟩
noncomputable def o950 : Obj := ⟨(vt "code"), none, .fields #[(vs s124 1574), (vs s124 1575), (vs s9 1576), (vi 683 0), (vi 0 0), (vi 0 0), (vi 0 0), (vi 0 0), (vr 948), (vb false), (vi 181 0), (vr 949), vn, vn, vn, vn, (vi 1577 0), (vi 683 0), (vs s9 1578)], #[]⟩
noncomputable def o951 : Obj := ⟨(vt "frame"), none, .plain, #[(some (vr 950)), (some (vr 3)), (some (vr 947)), none, (some (vs s311 1570)), none, (some (vr 0))]⟩
noncomputable def o952 : Obj := tp []
noncomputable def o953 : Obj := ⟨vn, none, .fields #[], #[]⟩
noncomputable def o954 : Obj := tp [(vs s146 1587), (vs s296 1588), (vs s237 1589), (vs s312 1590)]
noncomputable def o955 : Obj := tp []
noncomputable def o956 : Obj := fO vn s144 s313 (M 128 0) 0 vn vn vn 0
noncomputable def o957 : Obj := ⟨(vt "code"), none, .fields #[(vs s144 1584), (vs s313 1585), (vs s9 1586), (vi 685 0), (vi 4 0), (vi 0 0), (vi 0 0), (vi 3 0), (vr 952), (vb true), (vi 181 0), (vr 953), vn, (vr 954), (vr 955), (vr 956), (vi 1591 0), (vi 685 0), (vs s9 1592)], #[]⟩
noncomputable def o958 : Obj := fO (vt "function") s144 s313 (M 128 0) 3 vn (vs s311 1570) (vr 957) 0
noncomputable def o959 : Obj := tp [(vs s314 1594), (vs s312 1595), (vs s215 1596), (vs s296 1597), (vs s237 1598)]
noncomputable def o960 (P : Params) : Obj := ⟨(vt "dict"), none, .dict #[de P s140 1579 (vs s311 1570), de P s143 1583 (vi 683 1582), de P s144 1593 (vr 958), de P s145 1599 (vr 959), de P s152 1601 (vr 962), de P s153 1603 (vr 963), de P s2 1604 vn] 4, #[]⟩
noncomputable def o961 : Obj := ⟨(vt "type"), none, .cls ⟨s124, [(vt "object")], [(vr 961), (vt "object")], 960, s124, true, [], [], false, none, false⟩, #[none, none, (some (vs s124 1572)), (some (vs s124 1580)), (some (vB "object.__new__")), (some (vb true))]⟩
noncomputable def o962 : Obj := ⟨(vt "getset_descriptor"), none, .fields #[(vs s152 1600), (vr 961), (vB "function.__dict__"), (vB "function.__dict__#set")], #[]⟩
noncomputable def o963 : Obj := ⟨(vt "getset_descriptor"), none, .fields #[(vs s153 1602), (vr 961), (vB "ExceptionGroup.__weakref__"), vn], #[]⟩
noncomputable def o964 : Obj := ⟨(vt "super"), none, .fields #[(vr 961), (vr 961), (vr 961)], #[]⟩
noncomputable def o965 : Obj := ⟨(vt "builtin_function_or_method"), none, .fields #[(vB "object.__init_subclass__"), (vr 961)], #[]⟩
noncomputable def o966 : Obj := tp []
noncomputable def o967 : Obj := ⟨(vt "builtin_function_or_method"), none, .fields #[(vB "type.__prepare__"), (vt "type")], #[]⟩
noncomputable def o968 (P : Params) : Obj := ⟨(vt "dict"), none, .dict #[de P s140 1618 (vs s315 1607), de P s142 1620 (vs s127 1619), de P s143 1622 (vi 693 1621), de P s144 1632 (vr 979), de P s145 1659 (vr 980)] 5, #[]⟩
noncomputable def o969 : Obj := tp []
noncomputable def o970 : Obj := ⟨vn, none, .fields #[(vi 695 0), (vi 4 0), (vr 978)], #[]⟩
noncomputable def o971 : Obj := ⟨(vt "code"), none, .fields #[(vs s127 1613), (vs s127 1614), (vs s9 1615), (vi 693 0), (vi 0 0), (vi 0 0), (vi 0 0), (vi 0 0), (vr 969), (vb false), (vi 181 0), (vr 970), vn, vn, vn, vn, (vi 1616 0), (vi 693 0), (vs s9 1617)], #[]⟩
noncomputable def o972 : Obj := ⟨(vt "frame"), none, .plain, #[(some (vr 971)), (some (vr 3)), (some (vr 968)), none, (some (vs s315 1607)), none, (some (vr 0))]⟩
noncomputable def o973 : Obj := tp []
noncomputable def o974 : Obj := ⟨vn, none, .fields #[], #[]⟩
noncomputable def o975 : Obj := tp [(vs s146 1626), (vs s168 1627), (vs s162 1628), (vs s316 1629)]
noncomputable def o976 : Obj := tp []
noncomputable def o977 : Obj := fO vn s144 s317 (M 131 0) 0 vn vn vn 0
noncomputable def o978 : Obj := ⟨(vt "code"), none, .fields #[(vs s144 1623), (vs s317 1624), (vs s9 1625), (vi 695 0), (vi 4 0), (vi 0 0), (vi 0 0), (vi 3 0), (vr 973), (vb true), (vi 181 0), (vr 974), vn, (vr 975), (vr 976), (vr 977), (vi 1630 0), (vi 695 0), (vs s9 1631)], #[]⟩
noncomputable def o979 : Obj := fO (vt "function") s144 s317 (M 131 0) 3 vn (vs s315 1607) (vr 978) 0
noncomputable def o980 : Obj := tp [(vs s318 1633), (vs s319 1634), (vs s320 1635), (vs s150 1636), (vs s321 1637), (vs s284 1638), (vs s322 1639), (vs s323 1640), (vs s324 1641), (vs s325 1642), (vs s326 1643), (vs s160 1644), (vs s316 1645), (vs s327 1646), (vs s162 1647), (vs s168 1648), (vs s328 1649), (vs s329 1650), (vs s330 1651), (vs s331 1652), (vs s332 1653), (vs s333 1654), (vs s334 1655), (vs s335 1656), (vs s336 1657), (vs s337 1658)]
noncomputable def o981 (P : Params) : Obj := ⟨(vt "dict"), none, .dict #[de P s140 1618 (vs s315 1607), de P s143 1622 (vi 693 1621), de P s144 1632 (vr 979), de P s145 1659 (vr 980), de P s152 1661 (vr 983), de P s153 1663 (vr 984), de P s2 1664 vn] 4, #[]⟩
noncomputable def o982 : Obj := ⟨(vt "type"), none, .cls ⟨s127, [(vt "object")], [(vr 982), (vt "object")], 981, s127, true, [], [], false, none, false⟩, #[none, none, (some (vs s127 1611)), (some (vs s127 1619)), (some (vB "object.__new__")), (some (vb true))]⟩
noncomputable def o983 : Obj := ⟨(vt "getset_descriptor"), none, .fields #[(vs s152 1660), (vr 982), (vB "function.__dict__"), (vB "function.__dict__#set")], #[]⟩
noncomputable def o984 : Obj := ⟨(vt "getset_descriptor"), none, .fields #[(vs s153 1662), (vr 982), (vB "ExceptionGroup.__weakref__"), vn], #[]⟩
noncomputable def o985 : Obj := ⟨(vt "super"), none, .fields #[(vr 982), (vr 982), (vr 982)], #[]⟩
noncomputable def o986 : Obj := ⟨(vt "builtin_function_or_method"), none, .fields #[(vB "object.__init_subclass__"), (vr 982)], #[]⟩
noncomputable def o987 : Obj := tp []
noncomputable def o988 : Obj := ⟨vn, none, .fields #[], #[]⟩
noncomputable def o989 : Obj := tp [(vs s338 1672), (vs s31 1673), (vs s292 1674)]
noncomputable def o990 : Obj := tp []
noncomputable def o991 : Obj := fO vn s128 s128 (T 133) 0 vn vn vn 0
noncomputable def o992 : Obj := ⟨(vt "code"), none, .fields #[(vs s128 1669), (vs s128 1670), (vs s9 1671), (vi 723 0), (vi 0 0), (vi 0 0), (vi 0 0), (vi 3 0), (vr 987), (vb true), (vi 181 0), (vr 988), vn, (vr 989), (vr 990), (vr 991), (vi 1675 0), (vi 723 0), (vs s9 1676)], #[]⟩
noncomputable def o993 : Obj := fO (vt "function") s128 s128 (T 133) 3 vn (vs s339 1667) (vr 992) 0
noncomputable def o994 : Obj := tp []
noncomputable def o995 : Obj := ⟨vn, none, .fields #[], #[]⟩
noncomputable def o996 : Obj := tp []
noncomputable def o997 : Obj := tp []
noncomputable def o998 : Obj := fO vn s129 s129 (T 134) 0 vn vn vn 0
noncomputable def o999 : Obj := ⟨(vt "code"), none, .fields #[(vs s129 1678), (vs s129 1679), (vs s9 1680), (vi 728 0), (vi 0 0), (vi 0 0), (vi 0 0), (vi 3 0), (vr 994), (vb true), (vi 181 0), (vr 995), vn, (vr 996), (vr 997), (vr 998), (vi 1681 0), (vi 728 0), (vs s9 1682)], #[]⟩
noncomputable def o1000 : Obj := fO (vt "function") s129 s129 (T 134) 3 vn (vs s339 1667) (vr 999) 0
noncomputable def o1001 : Obj := tp []
noncomputable def o1002 : Obj := ⟨vn, none, .fields #[], #[]⟩
noncomputable def o1003 : Obj := tp [(vs s340 1687), (vs s341 1688)]
noncomputable def o1004 : Obj := tp []
noncomputable def o1005 : Obj := fO vn s130 s130 (T 135) 0 vn vn vn 0
noncomputable def o1006 : Obj := ⟨(vt "code"), none, .fields #[(vs s130 1684), (vs s130 1685), (vs s9 1686), (vi 730 0), (vi 2 0), (vi 0 0), (vi 0 0), (vi 3 0), (vr 1001), (vb true), (vi 181 0), (vr 1002), vn, (vr 1003), (vr 1004), (vr 1005), (vi 1689 0), (vi 730 0), (vs s9 1690)], #[]⟩
noncomputable def o1007 : Obj := fO (vt "function") s130 s130 (T 135) 3 vn (vs s339 1667) (vr 1006) 0
noncomputable def o1008 : Obj := tp []
noncomputable def o1009 : Obj := ⟨vn, none, .fields #[], #[]⟩
noncomputable def o1010 : Obj := tp [(vs s342 1695), (vs s282 1696), (vs s343 1697), (vs s162 1698), (vs s167 1699), (vs s170 1700), (vs s344 1701)]
noncomputable def o1011 : Obj := tp []
noncomputable def o1012 : Obj := fO vn s131 s131 (T 136) 0 vn vn vn 0
noncomputable def o1013 : Obj := ⟨(vt "code"), none, .fields #[(vs s131 1692), (vs s131 1693), (vs s9 1694), (vi 735 0), (vi 1 0), (vi 0 0), (vi 0 0), (vi 3 0), (vr 1008), (vb true), (vi 181 0), (vr 1009), vn, (vr 1010), (vr 1011), (vr 1012), (vi 1702 0), (vi 735 0), (vs s9 1703)], #[]⟩
noncomputable def o1014 : Obj := fO (vt "function") s131 s131 (T 136) 3 vn (vs s339 1667) (vr 1013) 0
noncomputable def o1015 : Obj := tp []
noncomputable def o1016 : Obj := ⟨vn, none, .fields #[], #[]⟩
noncomputable def o1017 : Obj := tp [(vs s345 1708), (vs s342 1709)]
noncomputable def o1018 : Obj := tp []
noncomputable def o1019 : Obj := fO vn s132 s132 (T 137) 0 vn vn vn 0
noncomputable def o1020 : Obj := ⟨(vt "code"), none, .fields #[(vs s132 1705), (vs s132 1706), (vs s9 1707), (vi 745 0), (vi 2 0), (vi 0 0), (vi 0 0), (vi 3 0), (vr 1015), (vb true), (vi 181 0), (vr 1016), vn, (vr 1017), (vr 1018), (vr 1019), (vi 1710 0), (vi 745 0), (vs s9 1711)], #[]⟩
noncomputable def o1021 : Obj := fO (vt "function") s132 s132 (T 137) 3 vn (vs s339 1667) (vr 1020) 0
noncomputable def o1022 : Obj := tp []
noncomputable def o1023 : Obj := ⟨vn, none, .fields #[], #[]⟩
noncomputable def o1024 : Obj := tp [(vs s282 1716), (vs s154 1717), (vs s345 1718), (vs s299 1719)]
noncomputable def o1025 : Obj := tp []
noncomputable def o1026 : Obj := fO vn s133 s133 (T 138) 0 vn vn vn 0
noncomputable def o1027 : Obj := ⟨(vt "code"), none, .fields #[(vs s133 1713), (vs s133 1714), (vs s9 1715), (vi 751 0), (vi 4 0), (vi 0 0), (vi 0 0), (vi 3 0), (vr 1022), (vb true), (vi 181 0), (vr 1023), vn, (vr 1024), (vr 1025), (vr 1026), (vi 1720 0), (vi 751 0), (vs s9 1721)], #[]⟩
noncomputable def o1028 : Obj := fO (vt "function") s133 s133 (T 138) 3 vn (vs s339 1667) (vr 1027) 0
noncomputable def o1029 : Obj := tp []
noncomputable def o1030 : Obj := ⟨vn, none, .fields #[], #[]⟩
noncomputable def o1031 : Obj := tp [(vs s282 1726), (vs s154 1727), (vs s345 1728), (vs s299 1729), (vs s167 1730), (vs s338 1731), (vs s263 1732)]
noncomputable def o1032 : Obj := tp []
noncomputable def o1033 : Obj := fO vn s134 s134 (T 139) 0 vn vn vn 0
noncomputable def o1034 : Obj := ⟨(vt "code"), none, .fields #[(vs s134 1723), (vs s134 1724), (vs s9 1725), (vi 762 0), (vi 6 0), (vi 0 0), (vi 0 0), (vi 3 0), (vr 1029), (vb true), (vi 181 0), (vr 1030), vn, (vr 1031), (vr 1032), (vr 1033), (vi 1733 0), (vi 762 0), (vs s9 1734)], #[]⟩
noncomputable def o1035 : Obj := fO (vt "function") s134 s134 (T 139) 3 vn (vs s339 1667) (vr 1034) 0
noncomputable def o1036 : Obj := tp []
noncomputable def o1037 : Obj := ⟨vn, none, .fields #[], #[]⟩
noncomputable def o1038 : Obj := tp [(vs s282 1739), (vs s250 1740)]
noncomputable def o1039 : Obj := tp []
noncomputable def o1040 : Obj := fO vn s135 s135 (T 140) 0 vn vn vn 0
noncomputable def o1041 : Obj := ⟨(vt "code"), none, .fields #[(vs s135 1736), (vs s135 1737), (vs s9 1738), (vi 774 0), (vi 1 0), (vi 0 0), (vi 0 0), (vi 3 0), (vr 1036), (vb true), (vi 181 0), (vr 1037), vn, (vr 1038), (vr 1039), (vr 1040), (vi 1741 0), (vi 774 0), (vs s9 1742)], #[]⟩
noncomputable def o1042 : Obj := fO (vt "function") s135 s135 (T 140) 3 vn (vs s339 1667) (vr 1041) 0
noncomputable def o1043 : Obj := tp []
noncomputable def o1044 : Obj := ⟨vn, none, .fields #[], #[]⟩
noncomputable def o1045 : Obj := tp [(vs s346 1747), (vs s340 1748), (vs s342 1749), (vs s282 1750), (vs s154 1751), (vs s233 1752), (vs s285 1753), (vs s345 1754), (vs s299 1755), (vs s347 1756), (vs s348 1757), (vs s235 1758), (vs s167 1759), (vs s184 1760), (vs s185 1761), (vs s349 1762), (vs s162 1763)]
noncomputable def o1046 : Obj := tp []
noncomputable def o1047 : Obj := fO vn s136 s136 (T 141) 0 vn vn vn 0
noncomputable def o1048 : Obj := ⟨(vt "code"), none, .fields #[(vs s136 1744), (vs s136 1745), (vs s9 1746), (vi 777 0), (vi 1 0), (vi 0 0), (vi 0 0), (vi 3 0), (vr 1043), (vb true), (vi 181 0), (vr 1044), vn, (vr 1045), (vr 1046), (vr 1047), (vi 1764 0), (vi 777 0), (vs s9 1765)], #[]⟩
noncomputable def o1049 : Obj := fO (vt "function") s136 s136 (T 141) 3 vn (vs s339 1667) (vr 1048) 0
noncomputable def dO : Obj := default
noncomputable abbrev N := BT.node
noncomputable def allT (P : Params) : BT := (N (boot_o_0 P) (N (boot_o_1 P) (N dO (N (boot_o_7 P) (N o15 (N o31 (N o63 (N o127 (N o255 (N o511 (N o1023 BT.nil BT.nil) BT.nil) (N o767 BT.nil BT.nil)) (N o383 (N o639 BT.nil BT.nil) (N o895 BT.nil BT.nil))) (N o191 (N o319 (N o575 BT.nil BT.nil) (N o831 BT.nil BT.nil)) (N o447 (N o703 BT.nil BT.nil) (N o959 BT.nil BT.nil)))) (N o95 (N o159 (N o287 (N o543 BT.nil BT.nil) (N o799 BT.nil BT.nil)) (N o415 (N o671 BT.nil BT.nil) (N o927 BT.nil BT.nil))) (N o223 (N o351 (N o607 BT.nil BT.nil) (N o863 BT.nil BT.nil)) (N o479 (N o735 BT.nil BT.nil) (N o991 BT.nil BT.nil))))) (N o47 (N o79 (N o143 (N o271 (N o527 (N o1039 BT.nil BT.nil) BT.nil) (N o783 BT.nil BT.nil)) (N o399 (N o655 BT.nil BT.nil) (N o911 BT.nil BT.nil))) (N o207 (N o335 (N o591 BT.nil BT.nil) (N o847 BT.nil BT.nil)) (N o463 (N o719 BT.nil BT.nil) (N o975 BT.nil BT.nil)))) (N o111 (N o175 (N o303 (N o559 BT.nil BT.nil) (N o815 BT.nil BT.nil)) (N o431 (N o687 BT.nil BT.nil) (N o943 BT.nil BT.nil))) (N o239 (N o367 (N o623 BT.nil BT.nil) (N o879 BT.nil BT.nil)) (N o495 (N o751 BT.nil BT.nil) (N o1007 BT.nil BT.nil)))))) (N o23 (N o39 (N o71 (N o135 (N o263 (N o519 (N o1031 BT.nil BT.nil) BT.nil) (N o775 BT.nil BT.nil)) (N o391 (N o647 BT.nil BT.nil) (N o903 BT.nil BT.nil))) (N o199 (N o327 (N o583 BT.nil BT.nil) (N o839 BT.nil BT.nil)) (N o455 (N o711 BT.nil BT.nil) (N o967 BT.nil BT.nil)))) (N o103 (N o167 (N o295 (N o551 BT.nil BT.nil) (N o807 BT.nil BT.nil)) (N o423 (N o679 BT.nil BT.nil) (N o935 BT.nil BT.nil))) (N o231 (N o359 (N o615 BT.nil BT.nil) (N o871 BT.nil BT.nil)) (N o487 (N o743 BT.nil BT.nil) (N o999 BT.nil BT.nil))))) (N o55 (N o87 (N o151 (N o279 (N o535 (N o1047 BT.nil BT.nil) BT.nil) (N o791 BT.nil BT.nil)) (N o407 (N o663 BT.nil BT.nil) (N o919 BT.nil BT.nil))) (N o215 (N o343 (N o599 BT.nil BT.nil) (N o855 BT.nil BT.nil)) (N o471 (N o727 BT.nil BT.nil) (N o983 BT.nil BT.nil)))) (N o119 (N o183 (N o311 (N o567 BT.nil BT.nil) (N o823 BT.nil BT.nil)) (N o439 (N o695 BT.nil BT.nil) (N o951 BT.nil BT.nil))) (N o247 (N o375 (N o631 BT.nil BT.nil) (N o887 BT.nil BT.nil)) (N o503 (N o759 BT.nil BT.nil) (N o1015 BT.nil BT.nil))))))) (N o11 (N o19 (N o35 (N o67 (N (o131 P) (N o259 (N o515 (N o1027 BT.nil BT.nil) BT.nil) (N o771 BT.nil BT.nil)) (N o387 (N o643 BT.nil BT.nil) (N o899 BT.nil BT.nil))) (N o195 (N o323 (N o579 BT.nil BT.nil) (N o835 BT.nil BT.nil)) (N o451 (N (o707 P) BT.nil BT.nil) (N o963 BT.nil BT.nil)))) (N o99 (N o163 (N o291 (N o547 BT.nil BT.nil) (N o803 BT.nil BT.nil)) (N o419 (N o675 BT.nil BT.nil) (N o931 BT.nil BT.nil))) (N o227 (N o355 (N o611 BT.nil BT.nil) (N o867 BT.nil BT.nil)) (N o483 (N o739 BT.nil BT.nil) (N o995 BT.nil BT.nil))))) (N o51 (N o83 (N o147 (N o275 (N o531 (N o1043 BT.nil BT.nil) BT.nil) (N o787 BT.nil BT.nil)) (N o403 (N o659 BT.nil BT.nil) (N o915 BT.nil BT.nil))) (N o211 (N o339 (N o595 BT.nil BT.nil) (N o851 BT.nil BT.nil)) (N o467 (N o723 BT.nil BT.nil) (N o979 BT.nil BT.nil)))) (N o115 (N o179 (N o307 (N o563 BT.nil BT.nil) (N o819 BT.nil BT.nil)) (N o435 (N o691 BT.nil BT.nil) (N (o947 P) BT.nil BT.nil))) (N o243 (N o371 (N o627 BT.nil BT.nil) (N (o883 P) BT.nil BT.nil)) (N o499 (N o755 BT.nil BT.nil) (N o1011 BT.nil BT.nil)))))) (N o27 (N o43 (N o75 (N o139 (N o267 (N o523 (N o1035 BT.nil BT.nil) BT.nil) (N o779 BT.nil BT.nil)) (N o395 (N o651 BT.nil BT.nil) (N o907 BT.nil BT.nil))) (N o203 (N o331 (N o587 BT.nil BT.nil) (N o843 BT.nil BT.nil)) (N o459 (N o715 BT.nil BT.nil) (N o971 BT.nil BT.nil)))) (N o107 (N o171 (N o299 (N o555 BT.nil BT.nil) (N o811 BT.nil BT.nil)) (N o427 (N o683 BT.nil BT.nil) (N o939 BT.nil BT.nil))) (N o235 (N o363 (N o619 BT.nil BT.nil) (N o875 BT.nil BT.nil)) (N o491 (N o747 BT.nil BT.nil) (N o1003 BT.nil BT.nil))))) (N o59 (N (o91 P) (N o155 (N o283 (N o539 BT.nil BT.nil) (N o795 BT.nil BT.nil)) (N o411 (N o667 BT.nil BT.nil) (N o923 BT.nil BT.nil))) (N o219 (N o347 (N o603 BT.nil BT.nil) (N o859 BT.nil BT.nil)) (N o475 (N o731 BT.nil BT.nil) (N o987 BT.nil BT.nil)))) (N (o123 P) (N o187 (N o315 (N o571 BT.nil BT.nil) (N o827 BT.nil BT.nil)) (N o443 (N o699 BT.nil BT.nil) (N o955 BT.nil BT.nil))) (N o251 (N o379 (N o635 BT.nil BT.nil) (N o891 BT.nil BT.nil)) (N o507 (N o763 BT.nil BT.nil) (N o1019 BT.nil BT.nil)))))))) (N (boot_o_5 P) (N (boot_o_9 P) (N o17 (N o33 (N (o65 P) (N o129 (N o257 (N o513 (N o1025 BT.nil BT.nil) BT.nil) (N o769 BT.nil BT.nil)) (N o385 (N o641 BT.nil BT.nil) (N (o897 P) BT.nil BT.nil))) (N (o193 P) (N o321 (N o577 BT.nil BT.nil) (N o833 BT.nil BT.nil)) (N o449 (N o705 BT.nil BT.nil) (N o961 BT.nil BT.nil)))) (N o97 (N o161 (N o289 (N o545 BT.nil BT.nil) (N o801 BT.nil BT.nil)) (N o417 (N o673 BT.nil BT.nil) (N o929 BT.nil BT.nil))) (N o225 (N o353 (N o609 BT.nil BT.nil) (N o865 BT.nil BT.nil)) (N o481 (N o737 BT.nil BT.nil) (N o993 BT.nil BT.nil))))) (N o49 (N o81 (N o145 (N o273 (N o529 (N o1041 BT.nil BT.nil) BT.nil) (N o785 BT.nil BT.nil)) (N o401 (N o657 BT.nil BT.nil) (N o913 BT.nil BT.nil))) (N o209 (N (o337 P) (N o593 BT.nil BT.nil) (N o849 BT.nil BT.nil)) (N o465 (N o721 BT.nil BT.nil) (N o977 BT.nil BT.nil)))) (N o113 (N o177 (N o305 (N o561 BT.nil BT.nil) (N o817 BT.nil BT.nil)) (N o433 (N o689 BT.nil BT.nil) (N o945 BT.nil BT.nil))) (N o241 (N o369 (N o625 BT.nil BT.nil) (N o881 BT.nil BT.nil)) (N o497 (N o753 BT.nil BT.nil) (N o1009 BT.nil BT.nil)))))) (N o25 (N o41 (N o73 (N o137 (N o265 (N o521 (N o1033 BT.nil BT.nil) BT.nil) (N o777 BT.nil BT.nil)) (N o393 (N o649 BT.nil BT.nil) (N o905 BT.nil BT.nil))) (N (o201 P) (N (o329 P) (N o585 BT.nil BT.nil) (N o841 BT.nil BT.nil)) (N o457 (N o713 BT.nil BT.nil) (N o969 BT.nil BT.nil)))) (N o105 (N o169 (N o297 (N o553 BT.nil BT.nil) (N o809 BT.nil BT.nil)) (N o425 (N o681 BT.nil BT.nil) (N o937 BT.nil BT.nil))) (N o233 (N o361 (N o617 BT.nil BT.nil) (N o873 BT.nil BT.nil)) (N o489 (N o745 BT.nil BT.nil) (N o1001 BT.nil BT.nil))))) (N o57 (N o89 (N o153 (N o281 (N o537 (N o1049 BT.nil BT.nil) BT.nil) (N o793 BT.nil BT.nil)) (N o409 (N o665 BT.nil BT.nil) (N o921 BT.nil BT.nil))) (N o217 (N o345 (N o601 BT.nil BT.nil) (N o857 BT.nil BT.nil)) (N o473 (N o729 BT.nil BT.nil) (N o985 BT.nil BT.nil)))) (N o121 (N o185 (N o313 (N o569 BT.nil BT.nil) (N o825 BT.nil BT.nil)) (N o441 (N o697 BT.nil BT.nil) (N o953 BT.nil BT.nil))) (N o249 (N o377 (N o633 BT.nil BT.nil) (N o889 BT.nil BT.nil)) (N o505 (N o761 BT.nil BT.nil) (N o1017 BT.nil BT.nil))))))) (N o13 (N o21 (N (o37 P) (N o69 (N o133 (N o261 (N o517 (N o1029 BT.nil BT.nil) BT.nil) (N o773 BT.nil BT.nil)) (N o389 (N o645 BT.nil BT.nil) (N o901 BT.nil BT.nil))) (N o197 (N o325 (N o581 BT.nil BT.nil) (N o837 BT.nil BT.nil)) (N o453 (N o709 BT.nil BT.nil) (N o965 BT.nil BT.nil)))) (N o101 (N o165 (N o293 (N o549 BT.nil BT.nil) (N o805 BT.nil BT.nil)) (N o421 (N o677 BT.nil BT.nil) (N o933 BT.nil BT.nil))) (N o229 (N o357 (N o613 BT.nil BT.nil) (N o869 BT.nil BT.nil)) (N o485 (N (o741 P) BT.nil BT.nil) (N o997 BT.nil BT.nil))))) (N o53 (N (o85 P) (N o149 (N o277 (N o533 (N o1045 BT.nil BT.nil) BT.nil) (N o789 BT.nil BT.nil)) (N o405 (N o661 BT.nil BT.nil) (N o917 BT.nil BT.nil))) (N o213 (N o341 (N o597 BT.nil BT.nil) (N o853 BT.nil BT.nil)) (N o469 (N o725 BT.nil BT.nil) (N (o981 P) BT.nil BT.nil)))) (N o117 (N o181 (N o309 (N o565 BT.nil BT.nil) (N o821 BT.nil BT.nil)) (N o437 (N o693 BT.nil BT.nil) (N o949 BT.nil BT.nil))) (N o245 (N o373 (N o629 BT.nil BT.nil) (N o885 BT.nil BT.nil)) (N o501 (N o757 BT.nil BT.nil) (N o1013 BT.nil BT.nil)))))) (N o29 (N o45 (N o77 (N o141 (N o269 (N o525 (N o1037 BT.nil BT.nil) BT.nil) (N o781 BT.nil BT.nil)) (N o397 (N o653 BT.nil BT.nil) (N o909 BT.nil BT.nil))) (N o205 (N o333 (N o589 BT.nil BT.nil) (N o845 BT.nil BT.nil)) (N o461 (N o717 BT.nil BT.nil) (N o973 BT.nil BT.nil)))) (N o109 (N o173 (N o301 (N o557 BT.nil BT.nil) (N o813 BT.nil BT.nil)) (N o429 (N o685 BT.nil BT.nil) (N o941 BT.nil BT.nil))) (N o237 (N o365 (N o621 BT.nil BT.nil) (N o877 BT.nil BT.nil)) (N o493 (N o749 BT.nil BT.nil) (N o1005 BT.nil BT.nil))))) (N o61 (N o93 (N o157 (N o285 (N o541 BT.nil BT.nil) (N o797 BT.nil BT.nil)) (N o413 (N o669 BT.nil BT.nil) (N o925 BT.nil BT.nil))) (N o221 (N o349 (N o605 BT.nil BT.nil) (N o861 BT.nil BT.nil)) (N o477 (N o733 BT.nil BT.nil) (N o989 BT.nil BT.nil)))) (N o125 (N o189 (N o317 (N o573 BT.nil BT.nil) (N o829 BT.nil BT.nil)) (N o445 (N o701 BT.nil BT.nil) (N o957 BT.nil BT.nil))) (N o253 (N o381 (N o637 BT.nil BT.nil) (N o893 BT.nil BT.nil)) (N o509 (N o765 BT.nil BT.nil) (N o1021 BT.nil BT.nil))))))))) (N (o2 P) (N (boot_o_4 P) (N (boot_o_8 P) (N o16 (N o32 (N o64 (N o128 (N o256 (N o512 (N o1024 BT.nil BT.nil) BT.nil) (N o768 BT.nil BT.nil)) (N o384 (N o640 BT.nil BT.nil) (N o896 BT.nil BT.nil))) (N o192 (N o320 (N o576 BT.nil BT.nil) (N o832 BT.nil BT.nil)) (N o448 (N o704 BT.nil BT.nil) (N (o960 P) BT.nil BT.nil)))) (N o96 (N o160 (N o288 (N o544 BT.nil BT.nil) (N o800 BT.nil BT.nil)) (N o416 (N o672 BT.nil BT.nil) (N o928 BT.nil BT.nil))) (N o224 (N o352 (N o608 BT.nil BT.nil) (N o864 BT.nil BT.nil)) (N o480 (N o736 BT.nil BT.nil) (N o992 BT.nil BT.nil))))) (N o48 (N o80 (N (o144 P) (N o272 (N o528 (N o1040 BT.nil BT.nil) BT.nil) (N o784 BT.nil BT.nil)) (N o400 (N o656 BT.nil BT.nil) (N o912 BT.nil BT.nil))) (N o208 (N o336 (N o592 BT.nil BT.nil) (N o848 BT.nil BT.nil)) (N o464 (N (o720 P) BT.nil BT.nil) (N o976 BT.nil BT.nil)))) (N o112 (N o176 (N o304 (N o560 BT.nil BT.nil) (N o816 BT.nil BT.nil)) (N o432 (N o688 BT.nil BT.nil) (N o944 BT.nil BT.nil))) (N o240 (N o368 (N o624 BT.nil BT.nil) (N o880 BT.nil BT.nil)) (N o496 (N o752 BT.nil BT.nil) (N o1008 BT.nil BT.nil)))))) (N (o24 P) (N o40 (N (o72 P) (N o136 (N o264 (N o520 (N o1032 BT.nil BT.nil) BT.nil) (N o776 BT.nil BT.nil)) (N o392 (N o648 BT.nil BT.nil) (N o904 BT.nil BT.nil))) (N o200 (N o328 (N o584 BT.nil BT.nil) (N o840 BT.nil BT.nil)) (N o456 (N o712 BT.nil BT.nil) (N (o968 P) BT.nil BT.nil)))) (N (o104 P) (N o168 (N o296 (N o552 BT.nil BT.nil) (N o808 BT.nil BT.nil)) (N o424 (N o680 BT.nil BT.nil) (N o936 BT.nil BT.nil))) (N o232 (N o360 (N o616 BT.nil BT.nil) (N o872 BT.nil BT.nil)) (N o488 (N o744 BT.nil BT.nil) (N o1000 BT.nil BT.nil))))) (N o56 (N o88 (N (o152 P) (N o280 (N o536 (N o1048 BT.nil BT.nil) BT.nil) (N o792 BT.nil BT.nil)) (N o408 (N o664 BT.nil BT.nil) (N o920 BT.nil BT.nil))) (N o216 (N o344 (N o600 BT.nil BT.nil) (N o856 BT.nil BT.nil)) (N o472 (N (o728 P) BT.nil BT.nil) (N o984 BT.nil BT.nil)))) (N o120 (N o184 (N o312 (N o568 BT.nil BT.nil) (N o824 BT.nil BT.nil)) (N o440 (N o696 BT.nil BT.nil) (N o952 BT.nil BT.nil))) (N o248 (N o376 (N o632 BT.nil BT.nil) (N o888 BT.nil BT.nil)) (N o504 (N o760 BT.nil BT.nil) (N o1016 BT.nil BT.nil))))))) (N dO (N o20 (N o36 (N o68 (N o132 (N o260 (N o516 (N o1028 BT.nil BT.nil) BT.nil) (N o772 BT.nil BT.nil)) (N o388 (N o644 BT.nil BT.nil) (N o900 BT.nil BT.nil))) (N o196 (N o324 (N o580 BT.nil BT.nil) (N o836 BT.nil BT.nil)) (N o452 (N o708 BT.nil BT.nil) (N o964 BT.nil BT.nil)))) (N o100 (N o164 (N o292 (N o548 BT.nil BT.nil) (N o804 BT.nil BT.nil)) (N o420 (N o676 BT.nil BT.nil) (N o932 BT.nil BT.nil))) (N o228 (N o356 (N o612 BT.nil BT.nil) (N o868 BT.nil BT.nil)) (N o484 (N o740 BT.nil BT.nil) (N o996 BT.nil BT.nil))))) (N (o52 P) (N o84 (N o148 (N o276 (N o532 (N o1044 BT.nil BT.nil) BT.nil) (N o788 BT.nil BT.nil)) (N o404 (N o660 BT.nil BT.nil) (N o916 BT.nil BT.nil))) (N o212 (N o340 (N o596 BT.nil BT.nil) (N o852 BT.nil BT.nil)) (N o468 (N o724 BT.nil BT.nil) (N o980 BT.nil BT.nil)))) (N o116 (N (o180 P) (N o308 (N o564 BT.nil BT.nil) (N o820 BT.nil BT.nil)) (N o436 (N o692 BT.nil BT.nil) (N o948 BT.nil BT.nil))) (N o244 (N o372 (N o628 BT.nil BT.nil) (N o884 BT.nil BT.nil)) (N o500 (N o756 BT.nil BT.nil) (N o1012 BT.nil BT.nil)))))) (N o28 (N o44 (N o76 (N o140 (N o268 (N o524 (N o1036 BT.nil BT.nil) BT.nil) (N o780 BT.nil BT.nil)) (N o396 (N o652 BT.nil BT.nil) (N o908 BT.nil BT.nil))) (N o204 (N o332 (N o588 BT.nil BT.nil) (N o844 BT.nil BT.nil)) (N o460 (N o716 BT.nil BT.nil) (N o972 BT.nil BT.nil)))) (N o108 (N (o172 P) (N o300 (N o556 BT.nil BT.nil) (N o812 BT.nil BT.nil)) (N o428 (N o684 BT.nil BT.nil) (N o940 BT.nil BT.nil))) (N o236 (N o364 (N o620 BT.nil BT.nil) (N o876 BT.nil BT.nil)) (N o492 (N o748 BT.nil BT.nil) (N o1004 BT.nil BT.nil))))) (N o60 (N o92 (N o156 (N o284 (N o540 BT.nil BT.nil) (N o796 BT.nil BT.nil)) (N o412 (N o668 BT.nil BT.nil) (N o924 BT.nil BT.nil))) (N o220 (N o348 (N o604 BT.nil BT.nil) (N o860 BT.nil BT.nil)) (N o476 (N o732 BT.nil BT.nil) (N o988 BT.nil BT.nil)))) (N o124 (N o188 (N (o316 P) (N o572 BT.nil BT.nil) (N o828 BT.nil BT.nil)) (N o444 (N o700 BT.nil BT.nil) (N o956 BT.nil BT.nil))) (N o252 (N o380 (N o636 BT.nil BT.nil) (N o892 BT.nil BT.nil)) (N o508 (N o764 BT.nil BT.nil) (N o1020 BT.nil BT.nil)))))))) (N (boot_o_6 P) (N (boot_o_10 P) (N o18 (N o34 (N o66 (N o130 (N o258 (N o514 (N o1026 BT.nil BT.nil) BT.nil) (N o770 BT.nil BT.nil)) (N o386 (N o642 BT.nil BT.nil) (N o898 BT.nil BT.nil))) (N o194 (N o322 (N o578 BT.nil BT.nil) (N o834 BT.nil BT.nil)) (N o450 (N o706 BT.nil BT.nil) (N o962 BT.nil BT.nil)))) (N o98 (N o162 (N o290 (N o546 BT.nil BT.nil) (N o802 BT.nil BT.nil)) (N o418 (N o674 BT.nil BT.nil) (N o930 BT.nil BT.nil))) (N o226 (N o354 (N o610 BT.nil BT.nil) (N o866 BT.nil BT.nil)) (N o482 (N o738 BT.nil BT.nil) (N o994 BT.nil BT.nil))))) (N o50 (N o82 (N o146 (N o274 (N o530 (N o1042 BT.nil BT.nil) BT.nil) (N o786 BT.nil BT.nil)) (N o402 (N o658 BT.nil BT.nil) (N o914 BT.nil BT.nil))) (N o210 (N o338 (N o594 BT.nil BT.nil) (N o850 BT.nil BT.nil)) (N o466 (N o722 BT.nil BT.nil) (N o978 BT.nil BT.nil)))) (N o114 (N o178 (N o306 (N o562 BT.nil BT.nil) (N o818 BT.nil BT.nil)) (N o434 (N o690 BT.nil BT.nil) (N o946 BT.nil BT.nil))) (N o242 (N o370 (N o626 BT.nil BT.nil) (N o882 BT.nil BT.nil)) (N o498 (N o754 BT.nil BT.nil) (N o1010 BT.nil BT.nil)))))) (N o26 (N o42 (N o74 (N o138 (N o266 (N o522 (N o1034 BT.nil BT.nil) BT.nil) (N o778 BT.nil BT.nil)) (N o394 (N o650 BT.nil BT.nil) (N o906 BT.nil BT.nil))) (N o202 (N o330 (N o586 BT.nil BT.nil) (N o842 BT.nil BT.nil)) (N o458 (N o714 BT.nil BT.nil) (N o970 BT.nil BT.nil)))) (N o106 (N o170 (N o298 (N o554 BT.nil BT.nil) (N o810 BT.nil BT.nil)) (N o426 (N o682 BT.nil BT.nil) (N o938 BT.nil BT.nil))) (N o234 (N o362 (N o618 BT.nil BT.nil) (N o874 BT.nil BT.nil)) (N o490 (N o746 BT.nil BT.nil) (N o1002 BT.nil BT.nil))))) (N o58 (N o90 (N o154 (N o282 (N o538 BT.nil BT.nil) (N o794 BT.nil BT.nil)) (N o410 (N o666 BT.nil BT.nil) (N o922 BT.nil BT.nil))) (N o218 (N o346 (N o602 BT.nil BT.nil) (N o858 BT.nil BT.nil)) (N o474 (N o730 BT.nil BT.nil) (N o986 BT.nil BT.nil)))) (N o122 (N o186 (N o314 (N o570 BT.nil BT.nil) (N o826 BT.nil BT.nil)) (N o442 (N o698 BT.nil BT.nil) (N o954 BT.nil BT.nil))) (N o250 (N o378 (N o634 BT.nil BT.nil) (N o890 BT.nil BT.nil)) (N o506 (N o762 BT.nil BT.nil) (N o1018 BT.nil BT.nil))))))) (N o14 (N o22 (N o38 (N o70 (N o134 (N o262 (N o518 (N o1030 BT.nil BT.nil) BT.nil) (N o774 BT.nil BT.nil)) (N o390 (N o646 BT.nil BT.nil) (N o902 BT.nil BT.nil))) (N o198 (N o326 (N o582 BT.nil BT.nil) (N o838 BT.nil BT.nil)) (N o454 (N o710 BT.nil BT.nil) (N o966 BT.nil BT.nil)))) (N o102 (N o166 (N o294 (N o550 BT.nil BT.nil) (N o806 BT.nil BT.nil)) (N o422 (N o678 BT.nil BT.nil) (N o934 BT.nil BT.nil))) (N o230 (N o358 (N o614 BT.nil BT.nil) (N o870 BT.nil BT.nil)) (N o486 (N o742 BT.nil BT.nil) (N o998 BT.nil BT.nil))))) (N o54 (N o86 (N o150 (N o278 (N o534 (N o1046 BT.nil BT.nil) BT.nil) (N o790 BT.nil BT.nil)) (N o406 (N o662 BT.nil BT.nil) (N o918 BT.nil BT.nil))) (N (o214 P) (N o342 (N o598 BT.nil BT.nil) (N o854 BT.nil BT.nil)) (N o470 (N o726 BT.nil BT.nil) (N o982 BT.nil BT.nil)))) (N o118 (N o182 (N o310 (N o566 BT.nil BT.nil) (N o822 BT.nil BT.nil)) (N o438 (N o694 BT.nil BT.nil) (N o950 BT.nil BT.nil))) (N o246 (N o374 (N o630 BT.nil BT.nil) (N o886 BT.nil BT.nil)) (N o502 (N o758 BT.nil BT.nil) (N o1014 BT.nil BT.nil)))))) (N o30 (N o46 (N o78 (N o142 (N o270 (N o526 (N o1038 BT.nil BT.nil) BT.nil) (N o782 BT.nil BT.nil)) (N o398 (N o654 BT.nil BT.nil) (N o910 BT.nil BT.nil))) (N o206 (N o334 (N o590 BT.nil BT.nil) (N o846 BT.nil BT.nil)) (N o462 (N o718 BT.nil BT.nil) (N o974 BT.nil BT.nil)))) (N (o110 P) (N o174 (N o302 (N o558 BT.nil BT.nil) (N o814 BT.nil BT.nil)) (N o430 (N o686 BT.nil BT.nil) (N o942 BT.nil BT.nil))) (N o238 (N o366 (N o622 BT.nil BT.nil) (N o878 BT.nil BT.nil)) (N o494 (N o750 BT.nil BT.nil) (N o1006 BT.nil BT.nil))))) (N o62 (N o94 (N o158 (N o286 (N o542 BT.nil BT.nil) (N o798 BT.nil BT.nil)) (N o414 (N o670 BT.nil BT.nil) (N o926 BT.nil BT.nil))) (N o222 (N (o350 P) (N o606 BT.nil BT.nil) (N o862 BT.nil BT.nil)) (N o478 (N o734 BT.nil BT.nil) (N o990 BT.nil BT.nil)))) (N o126 (N o190 (N o318 (N o574 BT.nil BT.nil) (N o830 BT.nil BT.nil)) (N o446 (N o702 BT.nil BT.nil) (N o958 BT.nil BT.nil))) (N o254 (N o382 (N o638 BT.nil BT.nil) (N o894 BT.nil BT.nil)) (N o510 (N o766 BT.nil BT.nil) (N o1022 BT.nil BT.nil))))))))))
noncomputable def ob (P : Params) (b : Nat) : Obj := match (allT P).get b with | some o => o | none => dO
noncomputable def bt (f : Nat → Obj) (n : Nat) : Nat → Nat → Nat → BT
  | 0, _, _ => .nil
  | k + 1, a, b => match Nat.blt b n with
    | true => .node (f b) (bt f n k (2 * a) (a + b)) (bt f n k (2 * a) (2 * a + b))
    | false => .nil
noncomputable def f_0 (P : Params) (b : Nat) : Obj := match Nat.beq b 2 with | true => ⟨vn, none, .dict #[] 0, #[]⟩ | false => match Nat.beq b 3 with | true => ⟨vt "dict", none, .dict (List.toArray (de P s350 165 (vs s138 164) :: (nsTail P).take 8)) 9, #[]⟩ | false => match Nat.beq b 12 with | true => ⟨vn, none, .fields (List.toArray (tabL.take 0)), #[]⟩ | false => ob P b
noncomputable def st_0 (w : World) (os : OsState) : SharedT := ⟨bt (f_0 w.params) 15 12 1 0, 15, {}, #[], {}, 187, os⟩
noncomputable def f_1 (P : Params) (b : Nat) : Obj := match Nat.beq b 2 with | true => ⟨vn, none, .dict #[] 0, #[]⟩ | false => match Nat.beq b 3 with | true => ⟨vt "dict", none, .dict (List.toArray (de P s350 165 (vs s138 164) :: (nsTail P).take 8)) 9, #[]⟩ | false => match Nat.beq b 12 with | true => ⟨vn, none, .fields (List.toArray (tabL.take 0)), #[]⟩ | false => ob P b
noncomputable def st_1 (w : World) (os : OsState) : SharedT := ⟨bt (f_1 w.params) 15 12 1 0, 15, {}, #[], {}, 187, os⟩
noncomputable def f_2 (P : Params) (b : Nat) : Obj := match Nat.beq b 2 with | true => ⟨vn, none, .dict #[] 0, #[]⟩ | false => match Nat.beq b 3 with | true => ⟨vt "dict", none, .dict (List.toArray (de P s350 165 (vs s157 238) :: (nsTail P).take 11)) 12, #[]⟩ | false => match Nat.beq b 12 with | true => ⟨vn, none, .fields (List.toArray (tabL.take 9)), #[]⟩ | false => ob P b
noncomputable def st_2 (w : World) (os : OsState) : SharedT := ⟨bt (f_2 w.params) 50 12 1 0, 50, {}, #[], {}, 240, os⟩
noncomputable def f_3 (P : Params) (b : Nat) : Obj := match Nat.beq b 3 with | true => ⟨vt "dict", none, .dict (List.toArray (de P s350 165 (vs s157 238) :: (nsTail P).take 12)) 13, #[]⟩ | false => match Nat.beq b 12 with | true => ⟨vn, none, .fields (List.toArray (tabL.take 12)), #[]⟩ | false => match Nat.beq b 66 with | true => ⟨(vt "type"), none, .cls ⟨s14, [(vt "Exception")], [(vr 66), (vt "Exception"), (vt "BaseException"), (vt "object")], 65, s14, true, [], [], false, none, false⟩, #[(some (vr 50)), none, (some (vs s14 240)), (some (vs s14 248)), (some (vB "Exception.__new__")), (some (vb true))]⟩ | false => ob P b
noncomputable def st_3 (w : World) (os : OsState) : SharedT := ⟨bt (f_3 w.params) 70 12 1 0, 70, {}, #[], {}, 269, os⟩
noncomputable def f_4 (P : Params) (b : Nat) : Obj := match Nat.beq b 3 with | true => ⟨vt "dict", none, .dict (List.toArray (de P s350 165 (vs s157 238) :: (nsTail P).take 13)) 14, #[]⟩ | false => match Nat.beq b 12 with | true => ⟨vn, none, .fields (List.toArray (tabL.take 15)), #[]⟩ | false => match Nat.beq b 66 with | true => ⟨(vt "type"), none, .cls ⟨s14, [(vt "Exception")], [(vr 66), (vt "Exception"), (vt "BaseException"), (vt "object")], 65, s14, true, [], [(vr 86)], false, none, false⟩, #[(some (vr 50)), none, (some (vs s14 240)), (some (vs s14 248)), (some (vB "Exception.__new__")), (some (vb true))]⟩ | false => ob P b
noncomputable def st_4 (w : World) (os : OsState) : SharedT := ⟨bt (f_4 w.params) 89 12 1 0, 89, {}, #[], {}, 295, os⟩
noncomputable def f_5 (P : Params) (b : Nat) : Obj := match Nat.beq b 3 with | true => ⟨vt "dict", none, .dict (List.toArray (de P s350 165 (vs s165 324) :: (nsTail P).take 14)) 15, #[]⟩ | false => match Nat.beq b 12 with | true => ⟨vn, none, .fields (List.toArray (tabL.take 18)), #[]⟩ | false => ob P b
noncomputable def st_5 (w : World) (os : OsState) : SharedT := ⟨bt (f_5 w.params) 108 12 1 0, 108, {}, #[], {}, 326, os⟩
noncomputable def f_6 (P : Params) (b : Nat) : Obj := match Nat.beq b 3 with | true => ⟨vt "dict", none, .dict (List.toArray (de P s350 165 (vs s165 324) :: (nsTail P).take 15)) 16, #[]⟩ | false => match Nat.beq b 12 with | true => ⟨vn, none, .fields (List.toArray (tabL.take 21)), #[]⟩ | false => ob P b
noncomputable def st_6 (w : World) (os : OsState) : SharedT := ⟨bt (f_6 w.params) 129 12 1 0, 129, {}, #[], {}, 354, os⟩
noncomputable def f_7 (P : Params) (b : Nat) : Obj := match Nat.beq b 3 with | true => ⟨vt "dict", none, .dict (List.toArray (de P s350 165 (vs s165 324) :: (nsTail P).take 16)) 17, #[]⟩ | false => match Nat.beq b 12 with | true => ⟨vn, none, .fields (List.toArray (tabL.take 24)), #[]⟩ | false => ob P b
noncomputable def st_7 (w : World) (os : OsState) : SharedT := ⟨bt (f_7 w.params) 150 12 1 0, 150, {}, #[], {}, 386, os⟩
noncomputable def f_8 (P : Params) (b : Nat) : Obj := match Nat.beq b 3 with | true => ⟨vt "dict", none, .dict (List.toArray (de P s350 165 (vs s165 324) :: (nsTail P).take 17)) 18, #[]⟩ | false => match Nat.beq b 12 with | true => ⟨vn, none, .fields (List.toArray (tabL.take 27)), #[]⟩ | false => ob P b
noncomputable def st_8 (w : World) (os : OsState) : SharedT := ⟨bt (f_8 w.params) 178 12 1 0, 178, {}, #[], {}, 422, os⟩
noncomputable def f_9 (P : Params) (b : Nat) : Obj := match Nat.beq b 3 with | true => ⟨vt "dict", none, .dict (List.toArray (de P s350 165 (vs s165 324) :: (nsTail P).take 18)) 19, #[]⟩ | false => match Nat.beq b 12 with | true => ⟨vn, none, .fields (List.toArray (tabL.take 30)), #[]⟩ | false => ob P b
noncomputable def st_9 (w : World) (os : OsState) : SharedT := ⟨bt (f_9 w.params) 199 12 1 0, 199, {}, #[], {}, 453, os⟩
noncomputable def f_10 (P : Params) (b : Nat) : Obj := match Nat.beq b 3 with | true => ⟨vt "dict", none, .dict (List.toArray (de P s350 165 (vs s165 324) :: (nsTail P).take 25)) 26, #[]⟩ | false => match Nat.beq b 12 with | true => ⟨vn, none, .fields (List.toArray (tabL.take 51)), #[]⟩ | false => ob P b
noncomputable def st_10 (w : World) (os : OsState) : SharedT := ⟨bt (f_10 w.params) 258 12 1 0, 258, {}, #[], {}, 532, os⟩
noncomputable def f_11 (P : Params) (b : Nat) : Obj := match Nat.beq b 3 with | true => ⟨vt "dict", none, .dict (List.toArray (de P s350 165 (vs s198 608) :: (nsTail P).take 36)) 37, #[]⟩ | false => match Nat.beq b 12 with | true => ⟨vn, none, .fields (List.toArray (tabL.take 78)), #[]⟩ | false => ob P b
noncomputable def st_11 (w : World) (os : OsState) : SharedT := ⟨bt (f_11 w.params) 314 12 1 0, 314, {}, #[], {}, 616, os⟩
noncomputable def f_12 (P : Params) (b : Nat) : Obj := match Nat.beq b 3 with | true => ⟨vt "dict", none, .dict (List.toArray (de P s350 165 (vs s198 608) :: (nsTail P).take 37)) 38, #[]⟩ | false => match Nat.beq b 12 with | true => ⟨vn, none, .fields (List.toArray (tabL.take 81)), #[]⟩ | false => ob P b
noncomputable def st_12 (w : World) (os : OsState) : SharedT := ⟨bt (f_12 w.params) 335 12 1 0, 335, {}, #[], {}, 669, os⟩
noncomputable def f_13 (P : Params) (b : Nat) : Obj := match Nat.beq b 3 with | true => ⟨vt "dict", none, .dict (List.toArray (de P s350 165 (vs s198 608) :: (nsTail P).take 43)) 44, #[]⟩ | false => match Nat.beq b 12 with | true => ⟨vn, none, .fields (List.toArray (tabL.take 99)), #[]⟩ | false => ob P b
noncomputable def st_13 (w : World) (os : OsState) : SharedT := ⟨bt (f_13 w.params) 391 12 1 0, 391, {}, #[], {}, 748, os⟩
noncomputable def f_14 (P : Params) (b : Nat) : Obj := match Nat.beq b 3 with | true => ⟨vt "dict", none, .dict (List.toArray (de P s350 165 (vs s229 789) :: (nsTail P).take 57)) 58, #[]⟩ | false => match Nat.beq b 12 with | true => ⟨vn, none, .fields (List.toArray (tabL.take 135)), #[]⟩ | false => ob P b
noncomputable def st_14 (w : World) (os : OsState) : SharedT := ⟨bt (f_14 w.params) 473 12 1 0, 473, {}, #[], {}, 855, os⟩
noncomputable def f_15 (P : Params) (b : Nat) : Obj := match Nat.beq b 3 with | true => ⟨vt "dict", none, .dict (List.toArray (de P s350 165 (vs s241 954) :: (nsTail P).take 69)) 70, #[]⟩ | false => match Nat.beq b 12 with | true => ⟨vn, none, .fields (List.toArray (tabL.take 171)), #[]⟩ | false => ob P b
noncomputable def st_15 (w : World) (os : OsState) : SharedT := ⟨bt (f_15 w.params) 553 12 1 0, 553, {}, #[], {}, 963, os⟩
noncomputable def f_16 (P : Params) (b : Nat) : Obj := match Nat.beq b 3 with | true => ⟨vt "dict", none, .dict (List.toArray (de P s350 165 (vs s245 1059) :: (nsTail P).take 81)) 82, #[]⟩ | false => match Nat.beq b 12 with | true => ⟨vn, none, .fields (List.toArray (tabL.take 207)), #[]⟩ | false => ob P b
noncomputable def st_16 (w : World) (os : OsState) : SharedT := ⟨bt (f_16 w.params) 637 12 1 0, 637, {}, #[], {}, 1068, os⟩
noncomputable def f_17 (P : Params) (b : Nat) : Obj := match Nat.beq b 3 with | true => ⟨vt "dict", none, .dict (List.toArray (de P s350 165 (vs s247 1157) :: (nsTail P).take 91)) 92, #[]⟩ | false => match Nat.beq b 12 with | true => ⟨vn, none, .fields (List.toArray (tabL.take 237)), #[]⟩ | false => ob P b
noncomputable def st_17 (w : World) (os : OsState) : SharedT := ⟨bt (f_17 w.params) 705 12 1 0, 705, {}, #[], {}, 1159, os⟩
noncomputable def f_18 (P : Params) (b : Nat) : Obj := match Nat.beq b 3 with | true => ⟨vt "dict", none, .dict (List.toArray (de P s350 165 (vs s247 1157) :: (nsTail P).take 92)) 93, #[]⟩ | false => match Nat.beq b 12 with | true => ⟨vn, none, .fields (List.toArray (tabL.take 240)), #[]⟩ | false => ob P b
noncomputable def st_18 (w : World) (os : OsState) : SharedT := ⟨bt (f_18 w.params) 726 12 1 0, 726, {}, #[], {}, 1192, os⟩
noncomputable def f_19 (P : Params) (b : Nat) : Obj := match Nat.beq b 3 with | true => ⟨vt "dict", none, .dict (List.toArray (de P s350 165 (vs s287 1281) :: (nsTail P).take 97)) 98, #[]⟩ | false => match Nat.beq b 12 with | true => ⟨vn, none, .fields (List.toArray (tabL.take 255)), #[]⟩ | false => ob P b
noncomputable def st_19 (w : World) (os : OsState) : SharedT := ⟨bt (f_19 w.params) 775 12 1 0, 775, {}, #[], {}, 1291, os⟩
noncomputable def f_20 (P : Params) (b : Nat) : Obj := match Nat.beq b 3 with | true => ⟨vt "dict", none, .dict (List.toArray (de P s350 165 (vs s294 1345) :: (nsTail P).take 109)) 110, #[]⟩ | false => match Nat.beq b 12 with | true => ⟨vn, none, .fields (List.toArray (tabL.take 291)), #[]⟩ | false => ob P b
noncomputable def st_20 (w : World) (os : OsState) : SharedT := ⟨bt (f_20 w.params) 853 12 1 0, 853, {}, #[], {}, 1407, os⟩
noncomputable def f_21 (P : Params) (b : Nat) : Obj := match Nat.beq b 3 with | true => ⟨vt "dict", none, .dict (List.toArray (de P s350 165 (vs s303 1452) :: (nsTail P).take 113)) 114, #[]⟩ | false => match Nat.beq b 12 with | true => ⟨vn, none, .fields (List.toArray (tabL.take 303)), #[]⟩ | false => ob P b
noncomputable def st_21 (w : World) (os : OsState) : SharedT := ⟨bt (f_21 w.params) 881 12 1 0, 881, {}, #[], {}, 1454, os⟩
noncomputable def f_22 (P : Params) (b : Nat) : Obj := match Nat.beq b 3 with | true => ⟨vt "dict", none, .dict (List.toArray (de P s350 165 (vs s310 1510) :: (nsTail P).take 117)) 118, #[]⟩ | false => match Nat.beq b 12 with | true => ⟨vn, none, .fields (List.toArray (tabL.take 315)), #[]⟩ | false => ob P b
noncomputable def st_22 (w : World) (os : OsState) : SharedT := ⟨bt (f_22 w.params) 924 12 1 0, 924, {}, #[], {}, 1541, os⟩
noncomputable def f_23 (P : Params) (b : Nat) : Obj := match Nat.beq b 3 with | true => ⟨vt "dict", none, .dict (List.toArray (de P s350 165 (vs s315 1607) :: (nsTail P).take 122)) 123, #[]⟩ | false => match Nat.beq b 12 with | true => ⟨vn, none, .fields (List.toArray (tabL.take 327)), #[]⟩ | false => ob P b
noncomputable def st_23 (w : World) (os : OsState) : SharedT := ⟨bt (f_23 w.params) 966 12 1 0, 966, {}, #[], {}, 1611, os⟩
noncomputable def f_24 (P : Params) (b : Nat) : Obj := match Nat.beq b 3 with | true => ⟨vt "dict", none, .dict (List.toArray (de P s350 165 (vs s339 1667) :: (nsTail P).take 127)) 128, #[]⟩ | false => match Nat.beq b 12 with | true => ⟨vn, none, .fields (List.toArray (tabL.take 342)), #[]⟩ | false => ob P b
noncomputable def st_24 (w : World) (os : OsState) : SharedT := ⟨bt (f_24 w.params) 1015 12 1 0, 1015, {}, #[], {}, 1705, os⟩
noncomputable def f_25 (P : Params) (b : Nat) : Obj := match Nat.beq b 3 with | true => ⟨vt "dict", none, .dict (List.toArray (de P s350 165 (vs s339 1667) :: (nsTail P).take 132)) 133, #[]⟩ | false => match Nat.beq b 12 with | true => ⟨vn, none, .fields (List.toArray (tabL.take 357)), #[]⟩ | false => ob P b
noncomputable def st_25 (w : World) (os : OsState) : SharedT := ⟨bt (f_25 w.params) 1050 12 1 0, 1050, {}, #[], {}, 1767, os⟩
noncomputable def f_26 (P : Params) (b : Nat) : Obj := match Nat.beq b 3 with | true => ⟨vt "dict", none, .dict (List.toArray (de P s350 165 (vs s339 1667) :: (nsTail P).take 132)) 133, #[]⟩ | false => match Nat.beq b 12 with | true => ⟨vn, none, .fields (List.toArray (tabL.take 357)), #[]⟩ | false => ob P b
noncomputable def st_26 (w : World) (os : OsState) : SharedT := ⟨bt (f_26 w.params) 1050 12 1 0, 1050, {}, #[], {}, 1767, os⟩
noncomputable def env0 : Env := { scope := pw.main.scope, locals := mainNs, globals := mainNs, cells := [], code := .ref 13, frame := some 14 }
noncomputable def cE : Code := Code.body (behindTheImports pw) env0
noncomputable abbrev q0 : Pos := ⟨0, 0, 0, 0⟩
noncomputable abbrev xSeg := @PySem.W.Fast.tw10110043849684766642
noncomputable abbrev xTab := @PySem.W.Fast.tw14364793385576792824
noncomputable abbrev xExs := @PySem.W.Fast.tw12563942051412417395
noncomputable def sts (i n : Nat) : List Stmt := (pw.main.body.drop i).take n
noncomputable abbrev xPieces (l : List Stmt) (p : Pos) : Thread := ⟨(xExs l env0).wrap doneF deadEnd id id, cE, p, [topFrame q0]⟩
theorem g_0 (w : World) (os : OsState) : xSeg xTab pw w 11 (some (.ref 6)) 1 305 (st_1 w os) (xPieces (sts 0 5) ⟨0, 0, 0, 0⟩) = some (Flow.next, st_2 w os, cE, ⟨17, 0, 17, 8⟩) := by kernel_rfl
theorem g_1 (w : World) (os : OsState) : xSeg xTab pw w 11 (some (.ref 6)) 1 229 (st_2 w os) (xPieces (sts 5 1) ⟨17, 0, 17, 8⟩) = some (Flow.next, st_3 w os, cE, ⟨18, 0, 22, 24⟩) := by kernel_rfl
theorem g_2 (w : World) (os : OsState) : xSeg xTab pw w 11 (some (.ref 6)) 1 247 (st_3 w os) (xPieces (sts 6 1) ⟨18, 0, 22, 24⟩) = some (Flow.next, st_4 w os, cE, ⟨23, 0, 27, 24⟩) := by kernel_rfl
theorem g_3 (w : World) (os : OsState) : xSeg xTab pw w 11 (some (.ref 6)) 1 259 (st_4 w os) (xPieces (sts 7 2) ⟨23, 0, 27, 24⟩) = some (Flow.next, st_5 w os, cE, ⟨35, 0, 35, 8⟩) := by kernel_rfl
theorem g_4 (w : World) (os : OsState) : xSeg xTab pw w 11 (some (.ref 6)) 1 222 (st_5 w os) (xPieces (sts 9 1) ⟨35, 0, 35, 8⟩) = some (Flow.next, st_6 w os, cE, ⟨36, 0, 39, 27⟩) := by kernel_rfl
theorem g_5 (w : World) (os : OsState) : xSeg xTab pw w 11 (some (.ref 6)) 1 226 (st_6 w os) (xPieces (sts 10 1) ⟨36, 0, 39, 27⟩) = some (Flow.next, st_7 w os, cE, ⟨40, 0, 45, 27⟩) := by kernel_rfl
theorem g_6 (w : World) (os : OsState) : xSeg xTab pw w 11 (some (.ref 6)) 1 254 (st_7 w os) (xPieces (sts 11 1) ⟨40, 0, 45, 27⟩) = some (Flow.next, st_8 w os, cE, ⟨46, 0, 52, 16⟩) := by kernel_rfl
theorem g_7 (w : World) (os : OsState) : xSeg xTab pw w 11 (some (.ref 6)) 1 225 (st_8 w os) (xPieces (sts 12 1) ⟨46, 0, 52, 16⟩) = some (Flow.next, st_9 w os, cE, ⟨53, 0, 57, 26⟩) := by kernel_rfl
theorem g_8 (w : World) (os : OsState) : xSeg xTab pw w 11 (some (.ref 6)) 1 401 (st_9 w os) (xPieces (sts 13 7) ⟨53, 0, 57, 26⟩) = some (Flow.next, st_10 w os, cE, ⟨95, 0, 98, 24⟩) := by kernel_rfl
theorem g_9 (w : World) (os : OsState) : xSeg xTab pw w 11 (some (.ref 6)) 1 305 (st_10 w os) (xPieces (sts 20 13) ⟨95, 0, 98, 24⟩) = some (Flow.next, st_11 w os, cE, ⟨154, 0, 154, 12⟩) := by kernel_rfl
theorem g_10 (w : World) (os : OsState) : xSeg xTab pw w 11 (some (.ref 6)) 1 247 (st_11 w os) (xPieces (sts 33 1) ⟨154, 0, 154, 12⟩) = some (Flow.next, st_12 w os, cE, ⟨155, 0, 181, 28⟩) := by kernel_rfl
theorem g_11 (w : World) (os : OsState) : xSeg xTab pw w 11 (some (.ref 6)) 1 383 (st_12 w os) (xPieces (sts 34 6) ⟨155, 0, 181, 28⟩) = some (Flow.next, st_13 w os, cE, ⟨208, 0, 209, 31⟩) := by kernel_rfl
theorem g_12 (w : World) (os : OsState) : xSeg xTab pw w 11 (some (.ref 6)) 1 398 (st_13 w os) (xPieces (sts 40 16) ⟨208, 0, 209, 31⟩) = some (Flow.next, st_14 w os, cE, ⟨274, 0, 284, 16⟩) := by kernel_rfl
theorem g_13 (w : World) (os : OsState) : xSeg xTab pw w 11 (some (.ref 6)) 1 376 (st_14 w os) (xPieces (sts 56 13) ⟨274, 0, 284, 16⟩) = some (Flow.next, st_15 w os, cE, ⟨335, 0, 336, 47⟩) := by kernel_rfl
theorem g_14 (w : World) (os : OsState) : xSeg xTab pw w 11 (some (.ref 6)) 1 377 (st_15 w os) (xPieces (sts 69 13) ⟨335, 0, 336, 47⟩) = some (Flow.next, st_16 w os, cE, ⟨382, 0, 383, 47⟩) := by kernel_rfl
theorem g_15 (w : World) (os : OsState) : xSeg xTab pw w 11 (some (.ref 6)) 1 317 (st_16 w os) (xPieces (sts 82 11) ⟨382, 0, 383, 47⟩) = some (Flow.next, st_17 w os, cE, ⟨457, 0, 457, 8⟩) := by kernel_rfl
theorem g_16 (w : World) (os : OsState) : xSeg xTab pw w 11 (some (.ref 6)) 1 227 (st_17 w os) (xPieces (sts 93 1) ⟨457, 0, 457, 8⟩) = some (Flow.next, st_18 w os, cE, ⟨458, 0, 464, 23⟩) := by kernel_rfl
theorem g_17 (w : World) (os : OsState) : xSeg xTab pw w 11 (some (.ref 6)) 1 388 (st_18 w os) (xPieces (sts 94 6) ⟨458, 0, 464, 23⟩) = some (Flow.next, st_19 w os, cE, ⟨515, 0, 518, 15⟩) := by kernel_rfl
theorem g_18 (w : World) (os : OsState) : xSeg xTab pw w 11 (some (.ref 6)) 1 382 (st_19 w os) (xPieces (sts 100 13) ⟨515, 0, 518, 15⟩) = some (Flow.next, st_20 w os, cE, ⟨617, 0, 623, 78⟩) := by kernel_rfl
theorem g_19 (w : World) (os : OsState) : xSeg xTab pw w 11 (some (.ref 6)) 1 150 (st_20 w os) (xPieces (sts 113 6) ⟨617, 0, 623, 78⟩) = some (Flow.next, st_21 w os, cE, ⟨654, 0, 654, 8⟩) := by kernel_rfl
theorem g_20 (w : World) (os : OsState) : xSeg xTab pw w 11 (some (.ref 6)) 1 371 (st_21 w os) (xPieces (sts 119 5) ⟨654, 0, 654, 8⟩) = some (Flow.next, st_22 w os, cE, ⟨671, 0, 673, 75⟩) := by kernel_rfl
theorem g_21 (w : World) (os : OsState) : xSeg xTab pw w 11 (some (.ref 6)) 1 351 (st_22 w os) (xPieces (sts 124 7) ⟨671, 0, 673, 75⟩) = some (Flow.next, st_23 w os, cE, ⟨692, 0, 692, 5⟩) := by kernel_rfl
theorem g_22 (w : World) (os : OsState) : xSeg xTab pw w 11 (some (.ref 6)) 1 383 (st_23 w os) (xPieces (sts 131 6) ⟨692, 0, 692, 5⟩) = some (Flow.next, st_24 w os, cE, ⟨735, 0, 744, 14⟩) := by kernel_rfl
theorem g_23 (w : World) (os : OsState) : xSeg xTab pw w 11 (some (.ref 6)) 1 173 (st_24 w os) (xPieces (sts 137 5) ⟨735, 0, 744, 14⟩) = some (Flow.next, st_25 w os, cE, ⟨777, 0, 806, 15⟩) := by kernel_rfl
noncomputable abbrev ann0 : Option Value := some (.ref 6)
noncomputable abbrev B0 : List Frame := [topFrame q0]
theorem tSeg : @segRunT = @xSeg := PySem.W.Fast.te10110043849684766642
theorem tTab : @treeTable = @xTab := PySem.W.Fast.te14364793385576792824
theorem tExs : @execs = @xExs := PySem.W.Fast.te12563942051412417395
theorem grp {w : World} {os : OsState} {n i c : Nat} {p p' : Pos} {a b : SharedT} (h : xSeg xTab pw w 11 ann0 1 n a (xPieces (sts i c) p) = some (Flow.next, b, cE, p')) :
    segRun treeTable pw w 11 ann0 1 n a.abs (piecesOf (sts i c) env0 cE p B0) = some (Flow.next, b.abs, cE, p') := by
  refine segRun_of ?_
  rw [tSeg, tTab]
  show xSeg xTab pw w 11 ann0 1 n a ⟨(execs (sts i c) env0).wrap doneF deadEnd id id, cE, p, B0⟩ = _
  rw [tExs]
  exact h
theorem pre_ (w : World) (os : OsState) : topGo treeTable pw w 11 ann0 12 ⟨boot_heap w.params, Array.mk [], boot_drawn, boot_toks, os⟩ (topStub pw) = some ((st_0 w os).abs, ⟨denote treeTable cE, cE, ⟨0, 0, 0, 0⟩, B0⟩) := by
  rw [show @topGo = _ from PySem.W.Fast.te15667345088766844465, tTab, show @denote = _ from PySem.W.Fast.te11892475500146522536]
  kernel_rfl
theorem block_ (w : World) (os : OsState) : segRun treeTable pw w 11 ann0 1 1 (st_0 w os).abs (blockOf (behindTheImports pw) env0 cE ⟨0, 0, 0, 0⟩ B0) = some (Flow.next, (st_1 w os).abs, cE, ⟨0, 0, 0, 0⟩) := by kernel_rfl
theorem fin_ (w : World) (os : OsState) : topRun treeTable pw w 11 ann0 2 (st_25 w os).abs ⟨doneF .next, cE, ⟨777, 0, 806, 15⟩, B0⟩ = some (st_26 w os).abs := by kernel_rfl
theorem body_ : behindTheImports pw = (sts 0 5 ++ (sts 5 1 ++ (sts 6 1 ++ (sts 7 2 ++ (sts 9 1 ++ (sts 10 1 ++ (sts 11 1 ++ (sts 12 1 ++ (sts 13 7 ++ (sts 20 13 ++ (sts 33 1 ++ (sts 34 6 ++ (sts 40 16 ++ (sts 56 13 ++ (sts 69 13 ++ (sts 82 11 ++ (sts 93 1 ++ (sts 94 6 ++ (sts 100 13 ++ (sts 113 6 ++ (sts 119 5 ++ (sts 124 7 ++ (sts 131 6 ++ (sts 137 5 ++ [])))))))))))))))))))))))) := by kernel_rfl
theorem run_ (w : World) (os : OsState) : topRun treeTable pw w 11 ann0 7211 ⟨boot_heap w.params, Array.mk [], boot_drawn, boot_toks, os⟩ (topStub pw) = some (st_26 w os).abs := by
  have k := (piece_app (l := sts 0 5) (rest := (sts 5 1 ++ (sts 6 1 ++ (sts 7 2 ++ (sts 9 1 ++ (sts 10 1 ++ (sts 11 1 ++ (sts 12 1 ++ (sts 13 7 ++ (sts 20 13 ++ (sts 33 1 ++ (sts 34 6 ++ (sts 40 16 ++ (sts 56 13 ++ (sts 69 13 ++ (sts 82 11 ++ (sts 93 1 ++ (sts 94 6 ++ (sts 100 13 ++ (sts 113 6 ++ (sts 119 5 ++ (sts 124 7 ++ (sts 131 6 ++ (sts 137 5 ++ [])))))))))))))))))))))))) (grp (os := os) (g_0 w os)) (piece_app (l := sts 5 1) (rest := (sts 6 1 ++ (sts 7 2 ++ (sts 9 1 ++ (sts 10 1 ++ (sts 11 1 ++ (sts 12 1 ++ (sts 13 7 ++ (sts 20 13 ++ (sts 33 1 ++ (sts 34 6 ++ (sts 40 16 ++ (sts 56 13 ++ (sts 69 13 ++ (sts 82 11 ++ (sts 93 1 ++ (sts 94 6 ++ (sts 100 13 ++ (sts 113 6 ++ (sts 119 5 ++ (sts 124 7 ++ (sts 131 6 ++ (sts 137 5 ++ []))))))))))))))))))))))) (grp (os := os) (g_1 w os)) (piece_app (l := sts 6 1) (rest := (sts 7 2 ++ (sts 9 1 ++ (sts 10 1 ++ (sts 11 1 ++ (sts 12 1 ++ (sts 13 7 ++ (sts 20 13 ++ (sts 33 1 ++ (sts 34 6 ++ (sts 40 16 ++ (sts 56 13 ++ (sts 69 13 ++ (sts 82 11 ++ (sts 93 1 ++ (sts 94 6 ++ (sts 100 13 ++ (sts 113 6 ++ (sts 119 5 ++ (sts 124 7 ++ (sts 131 6 ++ (sts 137 5 ++ [])))))))))))))))))))))) (grp (os := os) (g_2 w os)) (piece_app (l := sts 7 2) (rest := (sts 9 1 ++ (sts 10 1 ++ (sts 11 1 ++ (sts 12 1 ++ (sts 13 7 ++ (sts 20 13 ++ (sts 33 1 ++ (sts 34 6 ++ (sts 40 16 ++ (sts 56 13 ++ (sts 69 13 ++ (sts 82 11 ++ (sts 93 1 ++ (sts 94 6 ++ (sts 100 13 ++ (sts 113 6 ++ (sts 119 5 ++ (sts 124 7 ++ (sts 131 6 ++ (sts 137 5 ++ []))))))))))))))))))))) (grp (os := os) (g_3 w os)) (piece_app (l := sts 9 1) (rest := (sts 10 1 ++ (sts 11 1 ++ (sts 12 1 ++ (sts 13 7 ++ (sts 20 13 ++ (sts 33 1 ++ (sts 34 6 ++ (sts 40 16 ++ (sts 56 13 ++ (sts 69 13 ++ (sts 82 11 ++ (sts 93 1 ++ (sts 94 6 ++ (sts 100 13 ++ (sts 113 6 ++ (sts 119 5 ++ (sts 124 7 ++ (sts 131 6 ++ (sts 137 5 ++ [])))))))))))))))))))) (grp (os := os) (g_4 w os)) (piece_app (l := sts 10 1) (rest := (sts 11 1 ++ (sts 12 1 ++ (sts 13 7 ++ (sts 20 13 ++ (sts 33 1 ++ (sts 34 6 ++ (sts 40 16 ++ (sts 56 13 ++ (sts 69 13 ++ (sts 82 11 ++ (sts 93 1 ++ (sts 94 6 ++ (sts 100 13 ++ (sts 113 6 ++ (sts 119 5 ++ (sts 124 7 ++ (sts 131 6 ++ (sts 137 5 ++ []))))))))))))))))))) (grp (os := os) (g_5 w os)) (piece_app (l := sts 11 1) (rest := (sts 12 1 ++ (sts 13 7 ++ (sts 20 13 ++ (sts 33 1 ++ (sts 34 6 ++ (sts 40 16 ++ (sts 56 13 ++ (sts 69 13 ++ (sts 82 11 ++ (sts 93 1 ++ (sts 94 6 ++ (sts 100 13 ++ (sts 113 6 ++ (sts 119 5 ++ (sts 124 7 ++ (sts 131 6 ++ (sts 137 5 ++ [])))))))))))))))))) (grp (os := os) (g_6 w os)) (piece_app (l := sts 12 1) (rest := (sts 13 7 ++ (sts 20 13 ++ (sts 33 1 ++ (sts 34 6 ++ (sts 40 16 ++ (sts 56 13 ++ (sts 69 13 ++ (sts 82 11 ++ (sts 93 1 ++ (sts 94 6 ++ (sts 100 13 ++ (sts 113 6 ++ (sts 119 5 ++ (sts 124 7 ++ (sts 131 6 ++ (sts 137 5 ++ []))))))))))))))))) (grp (os := os) (g_7 w os)) (piece_app (l := sts 13 7) (rest := (sts 20 13 ++ (sts 33 1 ++ (sts 34 6 ++ (sts 40 16 ++ (sts 56 13 ++ (sts 69 13 ++ (sts 82 11 ++ (sts 93 1 ++ (sts 94 6 ++ (sts 100 13 ++ (sts 113 6 ++ (sts 119 5 ++ (sts 124 7 ++ (sts 131 6 ++ (sts 137 5 ++ [])))))))))))))))) (grp (os := os) (g_8 w os)) (piece_app (l := sts 20 13) (rest := (sts 33 1 ++ (sts 34 6 ++ (sts 40 16 ++ (sts 56 13 ++ (sts 69 13 ++ (sts 82 11 ++ (sts 93 1 ++ (sts 94 6 ++ (sts 100 13 ++ (sts 113 6 ++ (sts 119 5 ++ (sts 124 7 ++ (sts 131 6 ++ (sts 137 5 ++ []))))))))))))))) (grp (os := os) (g_9 w os)) (piece_app (l := sts 33 1) (rest := (sts 34 6 ++ (sts 40 16 ++ (sts 56 13 ++ (sts 69 13 ++ (sts 82 11 ++ (sts 93 1 ++ (sts 94 6 ++ (sts 100 13 ++ (sts 113 6 ++ (sts 119 5 ++ (sts 124 7 ++ (sts 131 6 ++ (sts 137 5 ++ [])))))))))))))) (grp (os := os) (g_10 w os)) (piece_app (l := sts 34 6) (rest := (sts 40 16 ++ (sts 56 13 ++ (sts 69 13 ++ (sts 82 11 ++ (sts 93 1 ++ (sts 94 6 ++ (sts 100 13 ++ (sts 113 6 ++ (sts 119 5 ++ (sts 124 7 ++ (sts 131 6 ++ (sts 137 5 ++ []))))))))))))) (grp (os := os) (g_11 w os)) (piece_app (l := sts 40 16) (rest := (sts 56 13 ++ (sts 69 13 ++ (sts 82 11 ++ (sts 93 1 ++ (sts 94 6 ++ (sts 100 13 ++ (sts 113 6 ++ (sts 119 5 ++ (sts 124 7 ++ (sts 131 6 ++ (sts 137 5 ++ [])))))))))))) (grp (os := os) (g_12 w os)) (piece_app (l := sts 56 13) (rest := (sts 69 13 ++ (sts 82 11 ++ (sts 93 1 ++ (sts 94 6 ++ (sts 100 13 ++ (sts 113 6 ++ (sts 119 5 ++ (sts 124 7 ++ (sts 131 6 ++ (sts 137 5 ++ []))))))))))) (grp (os := os) (g_13 w os)) (piece_app (l := sts 69 13) (rest := (sts 82 11 ++ (sts 93 1 ++ (sts 94 6 ++ (sts 100 13 ++ (sts 113 6 ++ (sts 119 5 ++ (sts 124 7 ++ (sts 131 6 ++ (sts 137 5 ++ [])))))))))) (grp (os := os) (g_14 w os)) (piece_app (l := sts 82 11) (rest := (sts 93 1 ++ (sts 94 6 ++ (sts 100 13 ++ (sts 113 6 ++ (sts 119 5 ++ (sts 124 7 ++ (sts 131 6 ++ (sts 137 5 ++ []))))))))) (grp (os := os) (g_15 w os)) (piece_app (l := sts 93 1) (rest := (sts 94 6 ++ (sts 100 13 ++ (sts 113 6 ++ (sts 119 5 ++ (sts 124 7 ++ (sts 131 6 ++ (sts 137 5 ++ [])))))))) (grp (os := os) (g_16 w os)) (piece_app (l := sts 94 6) (rest := (sts 100 13 ++ (sts 113 6 ++ (sts 119 5 ++ (sts 124 7 ++ (sts 131 6 ++ (sts 137 5 ++ []))))))) (grp (os := os) (g_17 w os)) (piece_app (l := sts 100 13) (rest := (sts 113 6 ++ (sts 119 5 ++ (sts 124 7 ++ (sts 131 6 ++ (sts 137 5 ++ [])))))) (grp (os := os) (g_18 w os)) (piece_app (l := sts 113 6) (rest := (sts 119 5 ++ (sts 124 7 ++ (sts 131 6 ++ (sts 137 5 ++ []))))) (grp (os := os) (g_19 w os)) (piece_app (l := sts 119 5) (rest := (sts 124 7 ++ (sts 131 6 ++ (sts 137 5 ++ [])))) (grp (os := os) (g_20 w os)) (piece_app (l := sts 124 7) (rest := (sts 131 6 ++ (sts 137 5 ++ []))) (grp (os := os) (g_21 w os)) (piece_app (l := sts 131 6) (rest := (sts 137 5 ++ [])) (grp (os := os) (g_22 w os)) (piece_app (l := sts 137 5) (rest := []) (grp (os := os) (g_23 w os)) (fin_ w os)))))))))))))))))))))))))
  rw [← body_] at k
  exact go_top (pre_ w os) (piece_block (block_ w os) k)
end Mine
end
noncomputable section
open PySem PySem.W PyProof.Rows
set_option maxRecDepth 100000
namespace Mine
noncomputable def qv : Program := { pw with main := { pw.main with body := pw.main.body.drop 141 } }
noncomputable def lo : List Str := pw.boundNames.filter fun n => !(n == ("law" : Str)) && !startupNames.contains n
noncomputable def H1 (P : Params) : Heap := absHeap (bt (f_26 P) 1050 12 1 0) 1050 {}
noncomputable def Xt0 (s : Shared) : Bool := recOk [] s
theorem look1 (w : World) (os : OsState) : (staticsOk (importedModules pw.main.body) (boot_heap w.params) (H1 w.params) && namesBound pw (H1 w.params) && gensDone ⟨H1 w.params, #[], {}, 1767, os⟩ && laidKept (boot_heap w.params) (H1 w.params)) = true := by kernel_rfl
theorem look2 (w : World) (os : OsState) : openSeen qv lo (importedModules pw.main.body) Xt0 true ⟨H1 w.params, #[], {}, 1767, os⟩ = openGood qv lo := by kernel_rfl
end Mine
end
noncomputable section
open PySem PySem.W PyProof.Rows
set_option maxRecDepth 100000
namespace Mine
abbrev Obs : Type := Heap × Array GenState × Nat
def Yf0 (s : Shared) : Obs := (s.heap, s.gens, s.toks)
def Ya0 (w : World) : Obs := (H1 w.params, #[], 1767)
theorem left0 : LeftO pw qv lo Xt0 Yf0 Ya0 8000 := by
  refine LeftO.of_pieces (H₀ := boot_heap) (H₁ := H1) (gs₀ := Array.mk []) (gs₁ := #[]) (d₀ := boot_drawn) (d₁ := {}) (k₀ := boot_toks) (k₁ := 1767) (m₀ := 11) (ann := ann0) (boot_open (by kernel_rfl) (by decide) (fun s => by kernel_rfl)) (fun w => by kernel_rfl) (fun w os => run_ w os) (by decide) (fun w => ?_)
  funext os
  rw [look1 w os, look2 w os]
  rfl
abbrev law0 : OpenLaw := PySem.Challenge.rw_xw0017_01
abbrev stL : Stmt := T 141
def fQ : Stmt → Pos
  | .FunctionDef _ _ _ _ _ _ _ _ _ p => p
  | _ => default
def dL : DefRec := ⟨("law" : Str), fP stL, fB stL, fS stL, fQ stL⟩
theorem hdef0 : defOf qv law0.row.name = some (dL, []) := by kernel_rfl
theorem by_24 {f : List Stmt → Bool} (hf : ∀ s r, f (s :: r) = (f [s] && f r)) (h0 : f [] = true) {l : List Stmt} (hl : l.length ≤ 144) (c0 : f ((l.drop 0).take 24) = true) (c1 : f ((l.drop 24).take 24) = true) (c2 : f ((l.drop 48).take 24) = true) (c3 : f ((l.drop 72).take 24) = true) (c4 : f ((l.drop 96).take 24) = true) (c5 : f ((l.drop 120).take 24) = true) : f l = true := by
  have app : ∀ a b, f a = true → f b = true → f (a ++ b) = true := by
    intro a b ha hb
    induction a with
    | nil => exact hb
    | cons s r ih =>
      rw [hf, Bool.and_eq_true] at ha
      rw [List.cons_append, hf, Bool.and_eq_true]
      exact ⟨ha.1, ih ha.2⟩
  have step : ∀ k, f ((l.drop k).take 24) = true → f (l.drop (k + 24)) = true → f (l.drop k) = true := fun k h1 h2 => by
    rw [← List.drop_drop] at h2
    rw [← List.take_append_drop 24 (l.drop k)]
    exact app _ _ h1 h2
  have e : f (l.drop 144) = true := by rw [List.drop_of_length_le hl]; exact h0
  exact step 0 c0 (step 24 c1 (step 48 c2 (step 72 c3 (step 96 c4 (step 120 c5 e)))))
noncomputable def lk0 : Look := { strict := false, foot := none }
theorem nr_cons (s : Stmt) (r : List Stmt) : noRoadLSs lk0 (s :: r) = (noRoadLSs lk0 [s] && noRoadLSs lk0 r) := by
  show (noRoadLS lk0 s && noRoadLSs lk0 r) = ((noRoadLS lk0 s && true) && noRoadLSs lk0 r)
  rw [Bool.and_true]
theorem nr_0 : Fast.tw8326940854005059898 lk0 ((pw.main.body.drop 0).take 24) = true := by kernel_rfl
theorem nr_1 : Fast.tw8326940854005059898 lk0 ((pw.main.body.drop 24).take 24) = true := by kernel_rfl
theorem nr_2 : Fast.tw8326940854005059898 lk0 ((pw.main.body.drop 48).take 24) = true := by kernel_rfl
theorem nr_3 : Fast.tw8326940854005059898 lk0 ((pw.main.body.drop 72).take 24) = true := by kernel_rfl
theorem nr_4 : Fast.tw8326940854005059898 lk0 ((pw.main.body.drop 96).take 24) = true := by kernel_rfl
theorem nr_5 : Fast.tw8326940854005059898 lk0 ((pw.main.body.drop 120).take 24) = true := by kernel_rfl
theorem pw_len : pw.main.body.length ≤ 144 := by
  have : Nat.ble pw.main.body.length 144 = true := by kernel_rfl
  exact Nat.le_of_ble_eq_true this
theorem sd5 {lk : Look} (h : lk = lk0) : Fast.tw8326940854005059898 lk (Fast.tw2368527892694137696 law0).prog.main.body = true := by
  have e : Fast.tw8326940854005059898 lk0 pw.main.body = true := by
    refine by_24 (f := Fast.tw8326940854005059898 lk0) ?_ ?_ pw_len nr_0 nr_1 nr_2 nr_3 nr_4 nr_5
    · rw [← PySem.W.Fast.te8326940854005059898]; exact nr_cons
    · rw [← PySem.W.Fast.te8326940854005059898]; rfl
  rw [h]
  exact e
theorem rd_v : Fast.tw13343964577679436407 (Fast.tw2368527892694137696 law0).prog (Fast.tw2368527892694137696 law0).prog.main.body (Str.ofString "vars") = false := by kernel_rfl
theorem rd_d : Fast.tw13343964577679436407 (Fast.tw2368527892694137696 law0).prog (Fast.tw2368527892694137696 law0).prog.main.body (Str.ofString "dir") = false := by kernel_rfl
theorem rd_l : Fast.tw13343964577679436407 (Fast.tw2368527892694137696 law0).prog (Fast.tw2368527892694137696 law0).prog.main.body (Str.ofString "locals") = false := by kernel_rfl
theorem lk_of {b : Bool} {F : Str → Bool} (hb : b = false) (h1 : F (Str.ofString "vars") = false) (h2 : F (Str.ofString "dir") = false) (h3 : F (Str.ofString "locals") = false) : ({ strict := b, foot := none, bare := List.filter F [Str.ofString "vars", Str.ofString "dir", Str.ofString "locals"] } : Look) = lk0 := by
  subst hb
  rw [List.filter_cons_of_neg (by rw [h1]; decide), List.filter_cons_of_neg (by rw [h2]; decide), List.filter_cons_of_neg (by rw [h3]; decide)]
  rfl
theorem sd3 : Fast.tw8377067652309620493 (Fast.tw2368527892694137696 law0).prog = true := by kernel_rfl
theorem sd6 : Fast.tw17119622794617984870 (Fast.tw2368527892694137696 law0).prog (Fast.tw2368527892694137696 law0).prog.main.body (fun x n => Fast.tw17868728402115742887 n) = true := by kernel_rfl
set_option maxHeartbeats 0 in
theorem said0 : law0.wellSaid = true := by
  unfold OpenLaw.wellSaid OpenRow.wellSaid OpenRow.partSaid looksOpen
  simp only [PySem.W.Fast.te11788848310118352699, PySem.W.Fast.te2368527892694137696, PySem.W.Fast.te9807087744658564304, PySem.W.Fast.te12862048085361865435, PySem.W.Fast.te8377067652309620493, PySem.W.Fast.te18344453789297297638, PySem.W.Fast.te3471404346716756564, PySem.W.Fast.te14412699480532031325, PySem.W.Fast.te8326940854005059898, PySem.W.Fast.te5923862056798008813, PySem.W.Fast.te17691160309236699985, PySem.W.Fast.te13343964577679436407, PySem.W.Fast.te17119622794617984870, PySem.W.Fast.te17868728402115742887, PySem.W.Fast.te2357444279172408678, PySem.W.Fast.te4857012375875476094, PySem.W.Fast.te13582783067957832011, PySem.W.Fast.te5318747976498570220, PySem.W.Fast.te4274047373036748609, PySem.W.Fast.te12749700546528644094, PySem.W.Fast.te10501279942588096481, PySem.W.Fast.te8179353310426384613, PySem.W.Fast.te797321630700447069, PySem.W.Fast.te9572597257264208301, PySem.W.Fast.te9558739934217749035, PySem.W.Fast.te16286561074155671207, PySem.W.Fast.te6984425678791042302, PySem.W.Fast.te17095254045102204799, PySem.W.Fast.te12879404354523853263, PySem.W.Fast.te482687673346738481, PySem.W.Fast.te10792542408131684335, PySem.W.Fast.te7723801398212525404, PySem.W.Fast.named_eq, Bool.and_eq_true]
  repeat' (with_reducible apply And.intro)
  all_goals (try rw [PySem.W.sDec_eq])
  all_goals first | with_reducible exact sd3 | with_reducible exact sd6 | (with_reducible refine sd5 (lk_of ?_ rd_v rd_d rd_l); kernel_rfl) | kernel_rfl
noncomputable abbrev sc0 : Scope := pw.main.scope
noncomputable def wss (l : List Stmt) : Bool := TablesWhole.wSs TablesWhole.holds sc0 ⟨sc0, [], [], [], none⟩ sc0 l
theorem wss_cons (s : Stmt) (r : List Stmt) : wss (s :: r) = (wss [s] && wss r) := by
  show (TablesWhole.wS TablesWhole.holds sc0 ⟨sc0, [], [], [], none⟩ sc0 s && wss r) = ((TablesWhole.wS TablesWhole.holds sc0 ⟨sc0, [], [], [], none⟩ sc0 s && true) && wss r)
  rw [Bool.and_true]
theorem ws_0 : wss ((pw.main.body.drop 0).take 24) = true := by kernel_rfl
theorem ws_1 : wss ((pw.main.body.drop 24).take 24) = true := by kernel_rfl
theorem ws_2 : wss ((pw.main.body.drop 48).take 24) = true := by kernel_rfl
theorem ws_3 : wss ((pw.main.body.drop 72).take 24) = true := by kernel_rfl
theorem ws_4 : wss ((pw.main.body.drop 96).take 24) = true := by kernel_rfl
theorem ws_5 : wss ((pw.main.body.drop 120).take 24) = true := by kernel_rfl
theorem ws_ : wss pw.main.body = true := by_24 wss_cons rfl pw_len ws_0 ws_1 ws_2 ws_3 ws_4 ws_5
theorem told_ : TablesWhole.wSs TablesWhole.gather sc0 ⟨sc0, [], [], [], none⟩ sc0 pw.main.body = [] := by kernel_rfl
noncomputable def ndC : List Nat → Bool
  | [] => true
  | a :: r => r.all (fun b => !Nat.beq a b) && ndC r
theorem nd_one : ∀ {l : List (Str × NameKind)}, ndC (l.map fun p => cod p.1) = true → ∀ p ∈ l, l.filter (fun q => q.1 == p.1) = [p]
  | a :: r, h, p, hp => by
    rw [List.map_cons] at h
    unfold ndC at h
    rw [Bool.and_eq_true] at h
    have ne : ∀ q ∈ r, a.1 ≠ q.1 := fun q hq e => by
      have := List.all_eq_true.mp h.1 (cod q.1) (List.mem_map.mpr ⟨q, hq, rfl⟩)
      rw [e, Nat.beq_refl] at this
      cases this
    cases hp with
    | head =>
      rw [List.filter_cons_of_pos (by simp)]
      congr 1
      rw [List.filter_eq_nil_iff]
      intro q hq e
      exact ne q hq (beq_iff_eq.mp e).symm
    | tail _ hp =>
      rw [List.filter_cons_of_neg (p := fun q : Str × NameKind => q.1 == p.1) (fun e => ne p hp (beq_iff_eq.mp e))]
      exact nd_one h.2 p hp
theorem twice_of {sc : Scope} (h : ndC (sc.names.map fun p => cod p.1) = true) : TablesWhole.noTwice sc = true := by
  unfold TablesWhole.noTwice
  rw [List.all_eq_true]
  intro p hp
  have e := nd_one h p hp
  obtain ⟨n, k⟩ := p
  dsimp only at e ⊢
  rw [e]
theorem nd_ : ndC (sc0.names.map fun p => cod p.1) = true := by kernel_rfl
theorem twice_ : TablesWhole.noTwice sc0 = true := twice_of nd_
theorem whole_of (p : Program) (h1 : p.modules = []) (h2 : p.parses = []) (h3 : p.harvested = []) (ht : TablesWhole.wSs TablesWhole.gather p.main.scope ⟨p.main.scope, [], [], [], none⟩ p.main.scope p.main.body = []) (hn : TablesWhole.noTwice p.main.scope = true) (hb : TablesWhole.wSs TablesWhole.holds p.main.scope ⟨p.main.scope, [], [], [], none⟩ p.main.scope p.main.body = true) : p.tablesWhole = true := by
  unfold Program.tablesWhole TablesWhole.wProgram TablesWhole.wModule
  rw [h1, h2, h3, ht, hn]
  show ((true && (true && (TablesWhole.wSs TablesWhole.holds p.main.scope ⟨p.main.scope, [], [], [], none⟩ p.main.scope p.main.body && true))) && true) = true
  rw [hb]
  rfl
theorem whole_ : pw.tablesWhole = true := whole_of pw rfl rfl rfl told_ twice_ ws_
theorem top0 (said : law0.row.wellSaid = true) (call : WalkX qv lo (fun _ _ => True) Yf0 Ya0 law0.row.toRowW dL [] fun f vs => PySem.call f vs) : law0.row.Holds := by
  refine holds_openX (q := qv) (loose := lo) (Xt := Xt0) (XP := fun _ _ => True) (Yf := Yf0) (Ya := Ya0) (N := 8000) left0 (fun _ _ => trivial) (fun _ _ _ _ _ => trivial) hdef0 (by kernel_rfl) (by kernel_rfl) (fun s e => recFacts_of e) (by rfl) said (by decide +kernel) ⟨rfl, rfl, rfl, rfl, rfl, whole_⟩ ?hw call
  case hw => w_witness2
theorem holds_of (call : WalkX qv lo (fun _ _ => True) Yf0 Ya0 law0.row.toRowW dL [] fun f vs => PySem.call f vs) : PySem.Challenge.rw_xw0017_01.Holds := holds_law said0 fun said => top0 said call
end Mine
end
noncomputable section
open PySem PySem.W PyProof.Rows PySem.Calls
namespace Mine
noncomputable def assocN {α : Type} : List (Nat × α) → Nat → Option α
  | [], _ => none
  | p :: r, a => match Nat.beq p.1 a with | true => some p.2 | false => assocN r a
noncomputable def assocS {α : Type} : List (Str × α) → Str → Option α
  | [], _ => none
  | p :: r, a => match seq p.1 a with | true => some p.2 | false => assocS r a
structure FX where
  a : Nat
  nm : Str
  q : Str
  st : Stmt
  md : Value
  c : Nat
noncomputable def fnX : List FX := [⟨21, s11, s11, T 0, (vs s138 164), 20⟩,
  ⟨35, s144, s148, M 2 0, (vs s141 194), 34⟩,
  ⟨49, s13, s13, T 3, (vs s141 194), 48⟩,
  ⟨63, s144, s159, M 5 0, (vs s157 238), 62⟩,
  ⟨83, s144, s161, M 6 0, (vs s157 238), 82⟩,
  ⟨102, s144, s163, M 7 0, (vs s157 238), 101⟩,
  ⟨121, s144, s166, M 9 0, (vs s165 324), 120⟩,
  ⟨142, s144, s169, M 10 0, (vs s165 324), 141⟩,
  ⟨163, s144, s172, M 11 0, (vs s165 324), 162⟩,
  ⟨170, s171, s173, M 11 1, (vs s165 324), 169⟩,
  ⟨191, s144, s177, M 12 0, (vs s165 324), 190⟩,
  ⟨212, s144, s180, M 13 0, (vs s165 324), 211⟩,
  ⟨226, s22, s22, T 14, (vs s165 324), 225⟩,
  ⟨231, s23, s23, T 15, (vs s165 324), 230⟩,
  ⟨238, s24, s24, T 16, (vs s165 324), 237⟩,
  ⟨243, s25, s25, T 17, (vs s165 324), 242⟩,
  ⟨250, s26, s26, T 18, (vs s165 324), 249⟩,
  ⟨257, s27, s27, T 19, (vs s165 324), 256⟩,
  ⟨262, s28, s28, T 20, (vs s165 324), 261⟩,
  ⟨267, s29, s29, T 21, (vs s165 324), 266⟩,
  ⟨274, s32, s32, T 24, (vs s187 544), 273⟩,
  ⟨281, s33, s33, T 25, (vs s187 544), 280⟩,
  ⟨288, s34, s34, T 26, (vs s187 544), 287⟩,
  ⟨295, s35, s35, T 27, (vs s187 544), 294⟩,
  ⟨300, s36, s36, T 28, (vs s187 544), 299⟩,
  ⟨305, s37, s37, T 29, (vs s187 544), 304⟩,
  ⟨312, s38, s38, T 30, (vs s187 544), 311⟩,
  ⟨327, s144, s200, M 33 0, (vs s198 608), 326⟩,
  ⟨348, s144, s221, M 34 0, (vs s198 608), 347⟩,
  ⟨362, s42, s42, T 35, (vs s198 608), 361⟩,
  ⟨369, s43, s43, T 36, (vs s198 608), 368⟩,
  ⟨376, s44, s44, T 37, (vs s198 608), 375⟩,
  ⟨383, s45, s45, T 38, (vs s198 608), 382⟩,
  ⟨390, s46, s46, T 39, (vs s198 608), 389⟩,
  ⟨397, s47, s47, T 40, (vs s198 608), 396⟩,
  ⟨404, s48, s48, T 41, (vs s198 608), 403⟩,
  ⟨411, s49, s49, T 42, (vs s198 608), 410⟩,
  ⟨418, s51, s51, T 45, (vs s227 769), 417⟩,
  ⟨425, s52, s52, T 46, (vs s227 769), 424⟩,
  ⟨432, s54, s54, T 49, (vs s229 789), 431⟩,
  ⟨439, s55, s55, T 50, (vs s229 789), 438⟩,
  ⟨446, s56, s56, T 51, (vs s229 789), 445⟩,
  ⟨453, s57, s57, T 52, (vs s229 789), 452⟩,
  ⟨460, s58, s58, T 53, (vs s229 789), 459⟩,
  ⟨467, s59, s59, T 54, (vs s229 789), 466⟩,
  ⟨472, s60, s60, T 55, (vs s229 789), 471⟩,
  ⟨477, s61, s61, T 56, (vs s229 789), 476⟩,
  ⟨484, s62, s62, T 57, (vs s229 789), 483⟩,
  ⟨491, s63, s63, T 58, (vs s229 789), 490⟩,
  ⟨498, s64, s64, T 59, (vs s229 789), 497⟩,
  ⟨505, s65, s65, T 60, (vs s229 789), 504⟩,
  ⟨517, s67, s67, T 62, (vs s229 789), 516⟩,
  ⟨524, s68, s68, T 63, (vs s229 789), 523⟩,
  ⟨531, s69, s69, T 64, (vs s229 789), 530⟩,
  ⟨538, s70, s70, T 65, (vs s229 789), 537⟩,
  ⟨545, s71, s71, T 66, (vs s229 789), 544⟩,
  ⟨552, s72, s72, T 68, (vs s241 954), 551⟩,
  ⟨559, s73, s73, T 69, (vs s241 954), 558⟩,
  ⟨566, s74, s74, T 70, (vs s241 954), 565⟩,
  ⟨573, s75, s75, T 71, (vs s241 954), 572⟩,
  ⟨580, s76, s76, T 72, (vs s241 954), 579⟩,
  ⟨587, s77, s77, T 73, (vs s241 954), 586⟩,
  ⟨594, s78, s78, T 74, (vs s241 954), 593⟩,
  ⟨601, s79, s79, T 75, (vs s241 954), 600⟩,
  ⟨608, s80, s80, T 76, (vs s241 954), 607⟩,
  ⟨615, s81, s81, T 77, (vs s241 954), 614⟩,
  ⟨622, s82, s82, T 78, (vs s241 954), 621⟩,
  ⟨629, s83, s83, T 79, (vs s241 954), 628⟩,
  ⟨636, s84, s84, T 81, (vs s245 1059), 635⟩,
  ⟨643, s85, s85, T 82, (vs s245 1059), 642⟩,
  ⟨648, s86, s86, T 83, (vs s245 1059), 647⟩,
  ⟨655, s87, s87, T 84, (vs s245 1059), 654⟩,
  ⟨662, s88, s88, T 85, (vs s245 1059), 661⟩,
  ⟨669, s89, s89, T 86, (vs s245 1059), 668⟩,
  ⟨676, s90, s90, T 87, (vs s245 1059), 675⟩,
  ⟨683, s91, s91, T 88, (vs s245 1059), 682⟩,
  ⟨690, s92, s92, T 89, (vs s245 1059), 689⟩,
  ⟨697, s93, s93, T 90, (vs s245 1059), 696⟩,
  ⟨704, s94, s94, T 91, (vs s245 1059), 703⟩,
  ⟨718, s144, s249, M 93 0, (vs s247 1157), 717⟩,
  ⟨739, s144, s254, M 94 0, (vs s247 1157), 738⟩,
  ⟨753, s97, s97, T 95, (vs s247 1157), 752⟩,
  ⟨760, s98, s98, T 96, (vs s247 1157), 759⟩,
  ⟨767, s99, s99, T 97, (vs s247 1157), 766⟩,
  ⟨774, s100, s100, T 99, (vs s287 1281), 773⟩,
  ⟨781, s101, s101, T 100, (vs s287 1281), 780⟩,
  ⟨786, s102, s102, T 101, (vs s287 1281), 785⟩,
  ⟨793, s103, s103, T 102, (vs s287 1281), 792⟩,
  ⟨800, s104, s104, T 103, (vs s287 1281), 799⟩,
  ⟨807, s105, s105, T 104, (vs s287 1281), 806⟩,
  ⟨812, s106, s106, T 105, (vs s287 1281), 811⟩,
  ⟨819, s107, s107, T 107, (vs s294 1345), 818⟩,
  ⟨826, s108, s108, T 108, (vs s294 1345), 825⟩,
  ⟨833, s109, s109, T 109, (vs s294 1345), 832⟩,
  ⟨840, s110, s110, T 110, (vs s294 1345), 839⟩,
  ⟨847, s111, s111, T 111, (vs s294 1345), 846⟩,
  ⟨852, s112, s112, T 112, (vs s294 1345), 851⟩,
  ⟨859, s113, s113, T 113, (vs s294 1345), 858⟩,
  ⟨866, s114, s114, T 114, (vs s294 1345), 865⟩,
  ⟨873, s115, s115, T 116, (vs s302 1428), 872⟩,
  ⟨880, s116, s116, T 117, (vs s302 1428), 879⟩,
  ⟨909, s118, s118, T 121, (vs s310 1510), 908⟩,
  ⟨916, s119, s119, T 122, (vs s310 1510), 915⟩,
  ⟨923, s120, s120, T 123, (vs s310 1510), 922⟩,
  ⟨930, s121, s121, T 124, (vs s310 1510), 929⟩,
  ⟨937, s122, s122, T 125, (vs s310 1510), 936⟩,
  ⟨944, s123, s123, T 126, (vs s310 1510), 943⟩,
  ⟨958, s144, s313, M 128 0, (vs s311 1570), 957⟩,
  ⟨979, s144, s317, M 131 0, (vs s315 1607), 978⟩,
  ⟨993, s128, s128, T 133, (vs s339 1667), 992⟩,
  ⟨1000, s129, s129, T 134, (vs s339 1667), 999⟩,
  ⟨1007, s130, s130, T 135, (vs s339 1667), 1006⟩,
  ⟨1014, s131, s131, T 136, (vs s339 1667), 1013⟩,
  ⟨1021, s132, s132, T 137, (vs s339 1667), 1020⟩,
  ⟨1028, s133, s133, T 138, (vs s339 1667), 1027⟩,
  ⟨1035, s134, s134, T 139, (vs s339 1667), 1034⟩,
  ⟨1042, s135, s135, T 140, (vs s339 1667), 1041⟩,
  ⟨1049, s136, s136, T 141, (vs s339 1667), 1048⟩]
noncomputable def fnD : Nat × FnI := (895, ⟨M 119 0, [.ii 32, .ii 1000000, .ii 50, .ii 10000, .ii 100000, .ii 50, .ii 1000000]⟩)
noncomputable def fnL : List (Nat × FnI) := fnX.map (fun x => (x.a, ⟨x.st, []⟩)) ++ [fnD]
noncomputable def clL : List (Nat × ClI) := [(38, ⟨some 35, false⟩),
  (66, ⟨some 63, true⟩),
  (86, ⟨some 83, true⟩),
  (105, ⟨some 102, true⟩),
  (124, ⟨some 121, false⟩),
  (145, ⟨some 142, false⟩),
  (173, ⟨some 163, false⟩),
  (194, ⟨some 191, false⟩),
  (215, ⟨some 212, false⟩),
  (330, ⟨some 327, false⟩),
  (351, ⟨some 348, false⟩),
  (721, ⟨some 718, false⟩),
  (742, ⟨some 739, false⟩),
  (898, ⟨some 895, false⟩),
  (961, ⟨some 958, false⟩),
  (982, ⟨some 979, false⟩)]
noncomputable def glL : List (Str × Value) := [(s350, (vs s339 1667)),
  (s2, vn),
  (s3, vn),
  (s4, (vB "__main__.__loader__#opaque")),
  (s5, vn),
  (s6, (vr 6)),
  (s7, (vr 4)),
  (s8, (vs s9 172)),
  (s10, vn),
  (s11, (vr 21)),
  (s12, (vr 38)),
  (s13, (vr 49)),
  (s14, (vr 66)),
  (s15, (vr 86)),
  (s16, (vr 105)),
  (s17, (vr 124)),
  (s18, (vr 145)),
  (s19, (vr 173)),
  (s20, (vr 194)),
  (s21, (vr 215)),
  (s22, (vr 226)),
  (s23, (vr 231)),
  (s24, (vr 238)),
  (s25, (vr 243)),
  (s26, (vr 250)),
  (s27, (vr 257)),
  (s28, (vr 262)),
  (s29, (vr 267)),
  (s30, (vs s31 546)),
  (s32, (vr 274)),
  (s33, (vr 281)),
  (s34, (vr 288)),
  (s35, (vr 295)),
  (s36, (vr 300)),
  (s37, (vr 305)),
  (s38, (vr 312)),
  (s39, (vr 313)),
  (s40, (vr 330)),
  (s41, (vr 351)),
  (s42, (vr 362)),
  (s43, (vr 369)),
  (s44, (vr 376)),
  (s45, (vr 383)),
  (s46, (vr 390)),
  (s47, (vr 397)),
  (s48, (vr 404)),
  (s49, (vr 411)),
  (s50, (vi 41 771)),
  (s51, (vr 418)),
  (s52, (vr 425)),
  (s53, (vi 40 791)),
  (s54, (vr 432)),
  (s55, (vr 439)),
  (s56, (vr 446)),
  (s57, (vr 453)),
  (s58, (vr 460)),
  (s59, (vr 467)),
  (s60, (vr 472)),
  (s61, (vr 477)),
  (s62, (vr 484)),
  (s63, (vr 491)),
  (s64, (vr 498)),
  (s65, (vr 505)),
  (s66, (vr 510)),
  (s67, (vr 517)),
  (s68, (vr 524)),
  (s69, (vr 531)),
  (s70, (vr 538)),
  (s71, (vr 545)),
  (s72, (vr 552)),
  (s73, (vr 559)),
  (s74, (vr 566)),
  (s75, (vr 573)),
  (s76, (vr 580)),
  (s77, (vr 587)),
  (s78, (vr 594)),
  (s79, (vr 601)),
  (s80, (vr 608)),
  (s81, (vr 615)),
  (s82, (vr 622)),
  (s83, (vr 629)),
  (s84, (vr 636)),
  (s85, (vr 643)),
  (s86, (vr 648)),
  (s87, (vr 655)),
  (s88, (vr 662)),
  (s89, (vr 669)),
  (s90, (vr 676)),
  (s91, (vr 683)),
  (s92, (vr 690)),
  (s93, (vr 697)),
  (s94, (vr 704)),
  (s95, (vr 721)),
  (s96, (vr 742)),
  (s97, (vr 753)),
  (s98, (vr 760)),
  (s99, (vr 767)),
  (s100, (vr 774)),
  (s101, (vr 781)),
  (s102, (vr 786)),
  (s103, (vr 793)),
  (s104, (vr 800)),
  (s105, (vr 807)),
  (s106, (vr 812)),
  (s107, (vr 819)),
  (s108, (vr 826)),
  (s109, (vr 833)),
  (s110, (vr 840)),
  (s111, (vr 847)),
  (s112, (vr 852)),
  (s113, (vr 859)),
  (s114, (vr 866)),
  (s115, (vr 873)),
  (s116, (vr 880)),
  (s117, (vr 898)),
  (s118, (vr 909)),
  (s119, (vr 916)),
  (s120, (vr 923)),
  (s121, (vr 930)),
  (s122, (vr 937)),
  (s123, (vr 944)),
  (s124, (vr 961)),
  (s125, (vs s126 1609)),
  (s127, (vr 982)),
  (s128, (vr 993)),
  (s129, (vr 1000)),
  (s130, (vr 1007)),
  (s131, (vr 1014)),
  (s132, (vr 1021)),
  (s133, (vr 1028)),
  (s134, (vr 1035)),
  (s135, (vr 1042)),
  (s136, (vr 1049))]
noncomputable def tupL : List (Nat × List Str) := [(313, [s193, s194, s195, s196, s197])]
noncomputable def attL : List (Nat × List Str) := [(38, [Str.ofString "code", Str.ofString "at", Str.ofString "entries", Str.ofString "call"]),
  (66, [Str.ofString "text"]),
  (86, [Str.ofString "text", Str.ofString "line"]),
  (105, [Str.ofString "text", Str.ofString "name", Str.ofString "word", Str.ofString "line"]),
  (124, [Str.ofString "text"]),
  (145, [Str.ofString "value", Str.ofString "number", Str.ofString "subtype"]),
  (173, [Str.ofString "last"]),
  (194, [Str.ofString "bounds", Str.ofString "items"]),
  (215, [Str.ofString "type", Str.ofString "fields"]),
  (330, [Str.ofString "kind", Str.ofString "name", Str.ofString "number", Str.ofString "parent", Str.ofString "low", Str.ofString "high", Str.ofString "literals", Str.ofString "modulus", Str.ofString "small", Str.ofString "index", Str.ofString "component", Str.ofString "is_constrained", Str.ofString "discriminants", Str.ofString "components", Str.ofString "variant", Str.ofString "designated", Str.ofString "is_tagged", Str.ofString "wide", Str.ofString "is_limited", Str.ofString "is_private", Str.ofString "is_abstract", Str.ofString "is_constant", Str.ofString "is_late", Str.ofString "operations"]),
  (351, [Str.ofString "type", Str.ofString "constraint"]),
  (721, [Str.ofString "parent", Str.ofString "sub", Str.ofString "names", Str.ofString "types"]),
  (742, [Str.ofString "world", Str.ofString "limits", Str.ofString "nodes", Str.ofString "statements", Str.ofString "declarations", Str.ofString "cells", Str.ofString "task", Str.ofString "steps", Str.ofString "line", Str.ofString "fault", Str.ofString "discs", Str.ofString "piled", Str.ofString "heaped", Str.ofString "about", Str.ofString "ends", Str.ofString "drops", Str.ofString "resumes", Str.ofString "is_free", Str.ofString "activate", Str.ofString "tasking", Str.ofString "find_sub", Str.ofString "call_function", Str.ofString "dispatch_function", Str.ofString "make_active", Str.ofString "task_attr", Str.ofString "run_entry", Str.ofString "run_procedure", Str.ofString "function_result", Str.ofString "lay_operation", Str.ofString "prot", Str.ofString "passed"]),
  (898, [Str.ofString "width", Str.ofString "steps", Str.ofString "depth", Str.ofString "members", Str.ofString "text", Str.ofString "tasks", Str.ofString "heap"]),
  (961, [Str.ofString "rows", Str.ofString "source", Str.ofString "codes", Str.ofString "barrier", Str.ofString "operations"]),
  (982, [Str.ofString "number", Str.ofString "name", Str.ofString "master", Str.ofString "state", Str.ofString "queues", Str.ofString "open", Str.ofString "wake", Str.ofString "late", Str.ofString "call", Str.ofString "serving", Str.ofString "masters", Str.ofString "raised", Str.ofString "answer", Str.ofString "is_abnormal", Str.ofString "inside", Str.ofString "activator", Str.ofString "pending", Str.ofString "has_failed", Str.ofString "stack", Str.ofString "frame", Str.ofString "result", Str.ofString "bases", Str.ofString "caught", Str.ofString "resume", Str.ofString "leaving", Str.ofString "line"])]
noncomputable def attT (C : Addr) (x : Str) : Bool := match assocN attL C with | some l => anyN l x | none => false
noncomputable def tapA : Addr := 1007
end Mine
end
noncomputable section
open PySem PySem.W PyProof.Rows PySem.Calls
namespace Mine
noncomputable def z0 : Str := ⟨⟨[nat_lit 119, nat_lit 101, nat_lit 108, nat_lit 108]⟩⟩
noncomputable def z1 : Str := ⟨⟨[nat_lit 107, nat_lit 105, nat_lit 110, nat_lit 100, nat_lit 115]⟩⟩
noncomputable def z2 : Str := ⟨⟨[nat_lit 114, nat_lit 117, nat_lit 110]⟩⟩
noncomputable def z3 : Str := ⟨⟨[nat_lit 97, nat_lit 99, nat_lit 116]⟩⟩
noncomputable def z4 : Str := ⟨⟨[nat_lit 102, nat_lit 105, nat_lit 114, nat_lit 115, nat_lit 116]⟩⟩
noncomputable def z5 : Str := ⟨⟨[nat_lit 115, nat_lit 99, nat_lit 114, nat_lit 105, nat_lit 112, nat_lit 116]⟩⟩
noncomputable def z6 : Str := ⟨⟨[nat_lit 97, nat_lit 116]⟩⟩
noncomputable def z7 : Str := ⟨⟨[nat_lit 107, nat_lit 105, nat_lit 110, nat_lit 100]⟩⟩
noncomputable def z8 : Str := ⟨⟨[nat_lit 105, nat_lit 110, nat_lit 116]⟩⟩
noncomputable def z9 : Str := ⟨⟨[nat_lit 110, nat_lit 97, nat_lit 109, nat_lit 101]⟩⟩
noncomputable def z10 : Str := ⟨⟨[nat_lit 119, nat_lit 104, nat_lit 111, nat_lit 108, nat_lit 101]⟩⟩
noncomputable def z11 : Str := ⟨⟨[nat_lit 110, nat_lit 117, nat_lit 109, nat_lit 98, nat_lit 101, nat_lit 114]⟩⟩
noncomputable def z12 : Str := ⟨⟨[nat_lit 112, nat_lit 97, nat_lit 114, nat_lit 101, nat_lit 110, nat_lit 116]⟩⟩
noncomputable def z13 : Str := ⟨⟨[nat_lit 108, nat_lit 111, nat_lit 119]⟩⟩
noncomputable def z14 : Str := ⟨⟨[nat_lit 104, nat_lit 105, nat_lit 103, nat_lit 104]⟩⟩
noncomputable def z15 : Str := ⟨⟨[nat_lit 108, nat_lit 105, nat_lit 116, nat_lit 101, nat_lit 114, nat_lit 97, nat_lit 108, nat_lit 115]⟩⟩
noncomputable def z16 : Str := ⟨⟨[nat_lit 109, nat_lit 111, nat_lit 100, nat_lit 117, nat_lit 108, nat_lit 117, nat_lit 115]⟩⟩
noncomputable def z17 : Str := ⟨⟨[nat_lit 115, nat_lit 109, nat_lit 97, nat_lit 108, nat_lit 108]⟩⟩
noncomputable def z18 : Str := ⟨⟨[nat_lit 105, nat_lit 110, nat_lit 100, nat_lit 101, nat_lit 120]⟩⟩
noncomputable def z19 : Str := ⟨⟨[nat_lit 99, nat_lit 111, nat_lit 109, nat_lit 112, nat_lit 111, nat_lit 110, nat_lit 101, nat_lit 110, nat_lit 116]⟩⟩
noncomputable def z20 : Str := ⟨⟨[nat_lit 105, nat_lit 115, nat_lit 95, nat_lit 99, nat_lit 111, nat_lit 110, nat_lit 115, nat_lit 116, nat_lit 114, nat_lit 97, nat_lit 105, nat_lit 110, nat_lit 101, nat_lit 100]⟩⟩
noncomputable def z21 : Str := ⟨⟨[nat_lit 100, nat_lit 105, nat_lit 115, nat_lit 99, nat_lit 114, nat_lit 105, nat_lit 109, nat_lit 105, nat_lit 110, nat_lit 97, nat_lit 110, nat_lit 116, nat_lit 115]⟩⟩
noncomputable def z22 : Str := ⟨⟨[nat_lit 99, nat_lit 111, nat_lit 109, nat_lit 112, nat_lit 111, nat_lit 110, nat_lit 101, nat_lit 110, nat_lit 116, nat_lit 115]⟩⟩
noncomputable def z23 : Str := ⟨⟨[nat_lit 118, nat_lit 97, nat_lit 114, nat_lit 105, nat_lit 97, nat_lit 110, nat_lit 116]⟩⟩
noncomputable def z24 : Str := ⟨⟨[nat_lit 100, nat_lit 101, nat_lit 115, nat_lit 105, nat_lit 103, nat_lit 110, nat_lit 97, nat_lit 116, nat_lit 101, nat_lit 100]⟩⟩
noncomputable def z25 : Str := ⟨⟨[nat_lit 105, nat_lit 115, nat_lit 95, nat_lit 116, nat_lit 97, nat_lit 103, nat_lit 103, nat_lit 101, nat_lit 100]⟩⟩
noncomputable def z26 : Str := ⟨⟨[nat_lit 119, nat_lit 105, nat_lit 100, nat_lit 101]⟩⟩
noncomputable def z27 : Str := ⟨⟨[nat_lit 105, nat_lit 115, nat_lit 95, nat_lit 108, nat_lit 105, nat_lit 109, nat_lit 105, nat_lit 116, nat_lit 101, nat_lit 100]⟩⟩
noncomputable def z28 : Str := ⟨⟨[nat_lit 105, nat_lit 115, nat_lit 95, nat_lit 112, nat_lit 114, nat_lit 105, nat_lit 118, nat_lit 97, nat_lit 116, nat_lit 101]⟩⟩
noncomputable def z29 : Str := ⟨⟨[nat_lit 105, nat_lit 115, nat_lit 95, nat_lit 97, nat_lit 98, nat_lit 115, nat_lit 116, nat_lit 114, nat_lit 97, nat_lit 99, nat_lit 116]⟩⟩
noncomputable def z30 : Str := ⟨⟨[nat_lit 105, nat_lit 115, nat_lit 95, nat_lit 99, nat_lit 111, nat_lit 110, nat_lit 115, nat_lit 116, nat_lit 97, nat_lit 110, nat_lit 116]⟩⟩
noncomputable def z31 : Str := ⟨⟨[nat_lit 105, nat_lit 115, nat_lit 95, nat_lit 108, nat_lit 97, nat_lit 116, nat_lit 101]⟩⟩
noncomputable def z32 : Str := ⟨⟨[nat_lit 111, nat_lit 112, nat_lit 101, nat_lit 114, nat_lit 97, nat_lit 116, nat_lit 105, nat_lit 111, nat_lit 110, nat_lit 115]⟩⟩
noncomputable def z33 : Str := ⟨⟨[nat_lit 102, nat_lit 97, nat_lit 114]⟩⟩
noncomputable def z34 : Str := ⟨⟨[nat_lit 110, nat_lit 101, nat_lit 97, nat_lit 114]⟩⟩
noncomputable def z35 : Str := ⟨⟨[nat_lit 114, nat_lit 97, nat_lit 110, nat_lit 103, nat_lit 101]⟩⟩
noncomputable def z36 : Str := ⟨⟨[nat_lit 116, nat_lit 121, nat_lit 112, nat_lit 101]⟩⟩
noncomputable def z37 : Str := ⟨⟨[nat_lit 99, nat_lit 111, nat_lit 110, nat_lit 115, nat_lit 116, nat_lit 114, nat_lit 97, nat_lit 105, nat_lit 110, nat_lit 116]⟩⟩
noncomputable def z38 : Str := ⟨⟨[nat_lit 97, nat_lit 114, nat_lit 114, nat_lit 97, nat_lit 121]⟩⟩
noncomputable def z39 : Str := ⟨⟨[nat_lit 114, nat_lit 111, nat_lit 119]⟩⟩
noncomputable def z40 : Str := ⟨⟨[nat_lit 120]⟩⟩
noncomputable def z41 : Str := ⟨⟨[nat_lit 114, nat_lit 101, nat_lit 99, nat_lit 111, nat_lit 114, nat_lit 100]⟩⟩
noncomputable def z42 : Str := ⟨⟨[nat_lit 112, nat_lit 97, nat_lit 105, nat_lit 114]⟩⟩
noncomputable def z43 : Str := ⟨⟨[nat_lit 119, nat_lit 105, nat_lit 100, nat_lit 116, nat_lit 104]⟩⟩
noncomputable def z44 : Str := ⟨⟨[nat_lit 115, nat_lit 116, nat_lit 101, nat_lit 112, nat_lit 115]⟩⟩
noncomputable def z45 : Str := ⟨⟨[nat_lit 100, nat_lit 101, nat_lit 112, nat_lit 116, nat_lit 104]⟩⟩
noncomputable def z46 : Str := ⟨⟨[nat_lit 109, nat_lit 101, nat_lit 109, nat_lit 98, nat_lit 101, nat_lit 114, nat_lit 115]⟩⟩
noncomputable def z47 : Str := ⟨⟨[nat_lit 116, nat_lit 101, nat_lit 120, nat_lit 116]⟩⟩
noncomputable def z48 : Str := ⟨⟨[nat_lit 116, nat_lit 97, nat_lit 115, nat_lit 107, nat_lit 115]⟩⟩
noncomputable def z49 : Str := ⟨⟨[nat_lit 104, nat_lit 101, nat_lit 97, nat_lit 112]⟩⟩
noncomputable def z50 : Str := ⟨⟨[nat_lit 119, nat_lit 111, nat_lit 114, nat_lit 108, nat_lit 100]⟩⟩
noncomputable def z51 : Str := ⟨⟨[nat_lit 108, nat_lit 105, nat_lit 109, nat_lit 105, nat_lit 116, nat_lit 115]⟩⟩
noncomputable def z52 : Str := ⟨⟨[nat_lit 110, nat_lit 111, nat_lit 100, nat_lit 101, nat_lit 115]⟩⟩
noncomputable def z53 : Str := ⟨⟨[nat_lit 115, nat_lit 116, nat_lit 97, nat_lit 116, nat_lit 101, nat_lit 109, nat_lit 101, nat_lit 110, nat_lit 116, nat_lit 115]⟩⟩
noncomputable def z54 : Str := ⟨⟨[nat_lit 100, nat_lit 101, nat_lit 99, nat_lit 108, nat_lit 97, nat_lit 114, nat_lit 97, nat_lit 116, nat_lit 105, nat_lit 111, nat_lit 110, nat_lit 115]⟩⟩
noncomputable def z55 : Str := ⟨⟨[nat_lit 99, nat_lit 101, nat_lit 108, nat_lit 108, nat_lit 115]⟩⟩
noncomputable def z56 : Str := ⟨⟨[nat_lit 116, nat_lit 97, nat_lit 115, nat_lit 107]⟩⟩
noncomputable def z57 : Str := ⟨⟨[nat_lit 108, nat_lit 105, nat_lit 110, nat_lit 101]⟩⟩
noncomputable def z58 : Str := ⟨⟨[nat_lit 102, nat_lit 97, nat_lit 117, nat_lit 108, nat_lit 116]⟩⟩
noncomputable def z59 : Str := ⟨⟨[nat_lit 100, nat_lit 105, nat_lit 115, nat_lit 99, nat_lit 115]⟩⟩
noncomputable def z60 : Str := ⟨⟨[nat_lit 112, nat_lit 105, nat_lit 108, nat_lit 101, nat_lit 100]⟩⟩
noncomputable def z61 : Str := ⟨⟨[nat_lit 104, nat_lit 101, nat_lit 97, nat_lit 112, nat_lit 101, nat_lit 100]⟩⟩
noncomputable def z62 : Str := ⟨⟨[nat_lit 97, nat_lit 98, nat_lit 111, nat_lit 117, nat_lit 116]⟩⟩
noncomputable def z63 : Str := ⟨⟨[nat_lit 101, nat_lit 110, nat_lit 100, nat_lit 115]⟩⟩
noncomputable def z64 : Str := ⟨⟨[nat_lit 100, nat_lit 114, nat_lit 111, nat_lit 112, nat_lit 115]⟩⟩
noncomputable def z65 : Str := ⟨⟨[nat_lit 114, nat_lit 101, nat_lit 115, nat_lit 117, nat_lit 109, nat_lit 101, nat_lit 115]⟩⟩
noncomputable def z66 : Str := ⟨⟨[nat_lit 105, nat_lit 115, nat_lit 95, nat_lit 102, nat_lit 114, nat_lit 101, nat_lit 101]⟩⟩
noncomputable def z67 : Str := ⟨⟨[nat_lit 97, nat_lit 99, nat_lit 116, nat_lit 105, nat_lit 118, nat_lit 97, nat_lit 116, nat_lit 101]⟩⟩
noncomputable def z68 : Str := ⟨⟨[nat_lit 116, nat_lit 97, nat_lit 115, nat_lit 107, nat_lit 105, nat_lit 110, nat_lit 103]⟩⟩
noncomputable def z69 : Str := ⟨⟨[nat_lit 102, nat_lit 105, nat_lit 110, nat_lit 100, nat_lit 95, nat_lit 115, nat_lit 117, nat_lit 98]⟩⟩
noncomputable def z70 : Str := ⟨⟨[nat_lit 99, nat_lit 97, nat_lit 108, nat_lit 108, nat_lit 95, nat_lit 102, nat_lit 117, nat_lit 110, nat_lit 99, nat_lit 116, nat_lit 105, nat_lit 111, nat_lit 110]⟩⟩
noncomputable def z71 : Str := ⟨⟨[nat_lit 100, nat_lit 105, nat_lit 115, nat_lit 112, nat_lit 97, nat_lit 116, nat_lit 99, nat_lit 104, nat_lit 95, nat_lit 102, nat_lit 117, nat_lit 110, nat_lit 99, nat_lit 116, nat_lit 105, nat_lit 111, nat_lit 110]⟩⟩
noncomputable def z72 : Str := ⟨⟨[nat_lit 109, nat_lit 97, nat_lit 107, nat_lit 101, nat_lit 95, nat_lit 97, nat_lit 99, nat_lit 116, nat_lit 105, nat_lit 118, nat_lit 101]⟩⟩
noncomputable def z73 : Str := ⟨⟨[nat_lit 116, nat_lit 97, nat_lit 115, nat_lit 107, nat_lit 95, nat_lit 97, nat_lit 116, nat_lit 116, nat_lit 114]⟩⟩
noncomputable def z74 : Str := ⟨⟨[nat_lit 114, nat_lit 117, nat_lit 110, nat_lit 95, nat_lit 101, nat_lit 110, nat_lit 116, nat_lit 114, nat_lit 121]⟩⟩
noncomputable def z75 : Str := ⟨⟨[nat_lit 114, nat_lit 117, nat_lit 110, nat_lit 95, nat_lit 112, nat_lit 114, nat_lit 111, nat_lit 99, nat_lit 101, nat_lit 100, nat_lit 117, nat_lit 114, nat_lit 101]⟩⟩
noncomputable def z76 : Str := ⟨⟨[nat_lit 102, nat_lit 117, nat_lit 110, nat_lit 99, nat_lit 116, nat_lit 105, nat_lit 111, nat_lit 110, nat_lit 95, nat_lit 114, nat_lit 101, nat_lit 115, nat_lit 117, nat_lit 108, nat_lit 116]⟩⟩
noncomputable def z77 : Str := ⟨⟨[nat_lit 108, nat_lit 97, nat_lit 121, nat_lit 95, nat_lit 111, nat_lit 112, nat_lit 101, nat_lit 114, nat_lit 97, nat_lit 116, nat_lit 105, nat_lit 111, nat_lit 110]⟩⟩
noncomputable def z78 : Str := ⟨⟨[nat_lit 112, nat_lit 114, nat_lit 111, nat_lit 116]⟩⟩
noncomputable def z79 : Str := ⟨⟨[nat_lit 112, nat_lit 97, nat_lit 115, nat_lit 115, nat_lit 101, nat_lit 100]⟩⟩
noncomputable def z80 : Str := ⟨⟨[nat_lit 108, nat_lit 97, nat_lit 115, nat_lit 116]⟩⟩
noncomputable def z81 : Str := ⟨⟨[nat_lit 116]⟩⟩
noncomputable def z82 : Str := ⟨⟨[nat_lit 109, nat_lit 97, nat_lit 115, nat_lit 116, nat_lit 101, nat_lit 114]⟩⟩
noncomputable def z83 : Str := ⟨⟨[nat_lit 115, nat_lit 116, nat_lit 97, nat_lit 116, nat_lit 101]⟩⟩
noncomputable def z84 : Str := ⟨⟨[nat_lit 113, nat_lit 117, nat_lit 101, nat_lit 117, nat_lit 101, nat_lit 115]⟩⟩
noncomputable def z85 : Str := ⟨⟨[nat_lit 111, nat_lit 112, nat_lit 101, nat_lit 110]⟩⟩
noncomputable def z86 : Str := ⟨⟨[nat_lit 119, nat_lit 97, nat_lit 107, nat_lit 101]⟩⟩
noncomputable def z87 : Str := ⟨⟨[nat_lit 108, nat_lit 97, nat_lit 116, nat_lit 101]⟩⟩
noncomputable def z88 : Str := ⟨⟨[nat_lit 99, nat_lit 97, nat_lit 108, nat_lit 108]⟩⟩
noncomputable def z89 : Str := ⟨⟨[nat_lit 115, nat_lit 101, nat_lit 114, nat_lit 118, nat_lit 105, nat_lit 110, nat_lit 103]⟩⟩
noncomputable def z90 : Str := ⟨⟨[nat_lit 109, nat_lit 97, nat_lit 115, nat_lit 116, nat_lit 101, nat_lit 114, nat_lit 115]⟩⟩
noncomputable def z91 : Str := ⟨⟨[nat_lit 114, nat_lit 97, nat_lit 105, nat_lit 115, nat_lit 101, nat_lit 100]⟩⟩
noncomputable def z92 : Str := ⟨⟨[nat_lit 97, nat_lit 110, nat_lit 115, nat_lit 119, nat_lit 101, nat_lit 114]⟩⟩
noncomputable def z93 : Str := ⟨⟨[nat_lit 105, nat_lit 115, nat_lit 95, nat_lit 97, nat_lit 98, nat_lit 110, nat_lit 111, nat_lit 114, nat_lit 109, nat_lit 97, nat_lit 108]⟩⟩
noncomputable def z94 : Str := ⟨⟨[nat_lit 105, nat_lit 110, nat_lit 115, nat_lit 105, nat_lit 100, nat_lit 101]⟩⟩
noncomputable def z95 : Str := ⟨⟨[nat_lit 97, nat_lit 99, nat_lit 116, nat_lit 105, nat_lit 118, nat_lit 97, nat_lit 116, nat_lit 111, nat_lit 114]⟩⟩
noncomputable def z96 : Str := ⟨⟨[nat_lit 112, nat_lit 101, nat_lit 110, nat_lit 100, nat_lit 105, nat_lit 110, nat_lit 103]⟩⟩
noncomputable def z97 : Str := ⟨⟨[nat_lit 104, nat_lit 97, nat_lit 115, nat_lit 95, nat_lit 102, nat_lit 97, nat_lit 105, nat_lit 108, nat_lit 101, nat_lit 100]⟩⟩
noncomputable def z98 : Str := ⟨⟨[nat_lit 115, nat_lit 116, nat_lit 97, nat_lit 99, nat_lit 107]⟩⟩
noncomputable def z99 : Str := ⟨⟨[nat_lit 102, nat_lit 114, nat_lit 97, nat_lit 109, nat_lit 101]⟩⟩
noncomputable def z100 : Str := ⟨⟨[nat_lit 114, nat_lit 101, nat_lit 115, nat_lit 117, nat_lit 108, nat_lit 116]⟩⟩
noncomputable def z101 : Str := ⟨⟨[nat_lit 98, nat_lit 97, nat_lit 115, nat_lit 101, nat_lit 115]⟩⟩
noncomputable def z102 : Str := ⟨⟨[nat_lit 99, nat_lit 97, nat_lit 117, nat_lit 103, nat_lit 104, nat_lit 116]⟩⟩
noncomputable def z103 : Str := ⟨⟨[nat_lit 114, nat_lit 101, nat_lit 115, nat_lit 117, nat_lit 109, nat_lit 101]⟩⟩
noncomputable def z104 : Str := ⟨⟨[nat_lit 108, nat_lit 101, nat_lit 97, nat_lit 118, nat_lit 105, nat_lit 110, nat_lit 103]⟩⟩
noncomputable def z105 : Str := ⟨⟨[nat_lit 115, nat_lit 117, nat_lit 98]⟩⟩
noncomputable def z106 : Str := ⟨⟨[nat_lit 110, nat_lit 97, nat_lit 109, nat_lit 101, nat_lit 115]⟩⟩
noncomputable def z107 : Str := ⟨⟨[nat_lit 116, nat_lit 121, nat_lit 112, nat_lit 101, nat_lit 115]⟩⟩
noncomputable def z108 : Str := ⟨⟨[nat_lit 110]⟩⟩
noncomputable def z109 : Str := ⟨⟨[nat_lit 97]⟩⟩
noncomputable def z110 : Str := ⟨⟨[nat_lit 114]⟩⟩
noncomputable def z111 : Str := ⟨⟨[nat_lit 98, nat_lit 111, nat_lit 117, nat_lit 110, nat_lit 100, nat_lit 115]⟩⟩
noncomputable def z112 : Str := ⟨⟨[nat_lit 105, nat_lit 116, nat_lit 101, nat_lit 109, nat_lit 115]⟩⟩
noncomputable def z113 : Str := ⟨⟨[nat_lit 102, nat_lit 105, nat_lit 101, nat_lit 108, nat_lit 100, nat_lit 115]⟩⟩
noncomputable def z114 : Str := ⟨⟨[nat_lit 118, nat_lit 97, nat_lit 108, nat_lit 117, nat_lit 101]⟩⟩
noncomputable def z115 : Str := ⟨⟨[nat_lit 115, nat_lit 117, nat_lit 98, nat_lit 116, nat_lit 121, nat_lit 112, nat_lit 101]⟩⟩
noncomputable def z116 : Str := ⟨⟨[nat_lit 114, nat_lit 111, nat_lit 119, nat_lit 115]⟩⟩
noncomputable def z117 : Str := ⟨⟨[nat_lit 115, nat_lit 111, nat_lit 117, nat_lit 114, nat_lit 99, nat_lit 101]⟩⟩
noncomputable def z118 : Str := ⟨⟨[nat_lit 99, nat_lit 111, nat_lit 100, nat_lit 101, nat_lit 115]⟩⟩
noncomputable def z119 : Str := ⟨⟨[nat_lit 98, nat_lit 97, nat_lit 114, nat_lit 114, nat_lit 105, nat_lit 101, nat_lit 114]⟩⟩
noncomputable def z120 : Str := ⟨⟨[nat_lit 99, nat_lit 111, nat_lit 100, nat_lit 101]⟩⟩
noncomputable def z121 : Str := ⟨⟨[nat_lit 101, nat_lit 110, nat_lit 116, nat_lit 114, nat_lit 105, nat_lit 101, nat_lit 115]⟩⟩
noncomputable def bO : List (Nat × AO) := [(0, .nsp [(z0, .ow 1), (z1, .ow 80), (z2, .ow 86), (z3, .ow 158), (z4, .ii 0)]),
  (1, .dic [(z5, .ow 2), (z6, .an)]),
  (2, .itl none),
  (5, .idc [(z7, .ss z8), (z9, .ss z10), (z11, .ii 51), (z12, .nn), (z13, .ii (-20)), (z14, .ii 20), (z15, .ow 8), (z16, .ii 0), (z17, .ow 9), (z18, .ow 10), (z19, .nn), (z20, .bb true), (z21, .ow 11), (z22, .ow 12), (z23, .nn), (z24, .nn), (z25, .bb false), (z26, .nn), (z27, .bb false), (z28, .bb false), (z29, .bb false), (z30, .bb false), (z31, .bb false), (z32, .ow 13)]),
  (6, .ins 330 5),
  (9, .tup [.ii 1, .ii 1]),
  (11, .lst []),
  (12, .lst []),
  (16, .idc [(z7, .ss z8), (z9, .ss z33), (z11, .ii 52), (z12, .nn), (z13, .ii (-90)), (z14, .ii 90), (z15, .ow 19), (z16, .ii 0), (z17, .ow 20), (z18, .ow 21), (z19, .nn), (z20, .bb true), (z21, .ow 22), (z22, .ow 23), (z23, .nn), (z24, .nn), (z25, .bb false), (z26, .nn), (z27, .bb false), (z28, .bb false), (z29, .bb false), (z30, .bb false), (z31, .bb false), (z32, .ow 24)]),
  (17, .ins 330 16),
  (20, .tup [.ii 1, .ii 1]),
  (22, .lst []),
  (23, .lst []),
  (27, .idc [(z7, .ss z8), (z9, .ss z34), (z11, .ii 53), (z12, .nn), (z13, .ii (-30)), (z14, .ii 30), (z15, .ow 30), (z16, .ii 0), (z17, .ow 31), (z18, .ow 32), (z19, .nn), (z20, .bb true), (z21, .ow 33), (z22, .ow 34), (z23, .nn), (z24, .nn), (z25, .bb false), (z26, .nn), (z27, .bb false), (z28, .bb false), (z29, .bb false), (z30, .bb false), (z31, .bb false), (z32, .ow 35)]),
  (28, .ins 330 27),
  (31, .tup [.ii 1, .ii 1]),
  (33, .lst []),
  (34, .lst []),
  (37, .lst [.ow 17, .ow 28]),
  (38, .tup [.ss z35, .ii 1, .ii 2]),
  (39, .idc [(z36, .ow 6), (z37, .ow 38)]),
  (40, .ins 351 39),
  (43, .tup [.ss z35, .ii 0, .ii 9]),
  (44, .idc [(z36, .ow 6), (z37, .ow 43)]),
  (45, .ins 351 44),
  (48, .idc [(z7, .ss z38), (z9, .ss z39), (z11, .ii 54), (z12, .nn), (z13, .nn), (z14, .nn), (z15, .ow 51), (z16, .ii 0), (z17, .ow 52), (z18, .ow 57), (z19, .ow 45), (z20, .bb true), (z21, .ow 54), (z22, .ow 55), (z23, .nn), (z24, .nn), (z25, .bb false), (z26, .nn), (z27, .bb false), (z28, .bb false), (z29, .bb false), (z30, .bb false), (z31, .bb false), (z32, .ow 56)]),
  (49, .ins 330 48),
  (52, .tup [.ii 1, .ii 1]),
  (54, .lst []),
  (55, .lst []),
  (57, .lst [.ow 40]),
  (60, .tup [.ss z35, .ii 1, .ii 4]),
  (61, .idc [(z36, .ow 6), (z37, .ow 60)]),
  (62, .ins 351 61),
  (64, .tup [.ss z40, .ow 62, .nn]),
  (67, .idc [(z7, .ss z41), (z9, .ss z42), (z11, .ii 55), (z12, .nn), (z13, .nn), (z14, .nn), (z15, .ow 70), (z16, .ii 0), (z17, .ow 71), (z18, .ow 72), (z19, .nn), (z20, .bb true), (z21, .ow 76), (z22, .ow 77), (z23, .nn), (z24, .nn), (z25, .bb false), (z26, .nn), (z27, .bb false), (z28, .bb false), (z29, .bb false), (z30, .bb false), (z31, .bb false), (z32, .ow 75)]),
  (68, .ins 330 67),
  (71, .tup [.ii 1, .ii 1]),
  (76, .lst []),
  (77, .lst [.ow 64]),
  (80, .tup [.ow 6, .ow 49, .ow 68, .ow 37]),
  (82, .idc [(z43, .ii 32), (z44, .ii 1000000), (z45, .ii 50), (z46, .ii 10000), (z47, .ii 100000), (z48, .ii 50), (z49, .ii 1000000)]),
  (83, .ins 898 82),
  (85, .idc [(z50, .nn), (z51, .ow 83), (z52, .ow 88), (z53, .ow 89), (z54, .ow 90), (z55, .ow 92), (z56, .ow 101), (z44, .ii 0), (z57, .ii 0), (z58, .nn), (z59, .ow 94), (z60, .ii 0), (z61, .ii 0), (z62, .nn), (z63, .ow 95), (z64, .ow 96), (z65, .ow 97), (z66, .nn), (z67, .nn), (z68, .nn), (z69, .nn), (z70, .nn), (z71, .nn), (z72, .nn), (z73, .nn), (z74, .nn), (z75, .nn), (z76, .nn), (z77, .nn), (z78, .ow 98), (z79, .ow 99)]),
  (86, .ins 742 85),
  (91, .idc [(z80, .ii 0)]),
  (92, .ins 173 91),
  (100, .idc [(z11, .ii 1), (z9, .ss z81), (z82, .nn), (z83, .tp), (z84, .ow 103), (z85, .ow 104), (z86, .nn), (z87, .nn), (z88, .nn), (z89, .ow 105), (z90, .ow 106), (z91, .nn), (z92, .nn), (z93, .bb false), (z94, .ii 0), (z95, .nn), (z96, .ii 0), (z97, .bb false), (z98, .ow 107), (z99, .ow 111), (z100, .nn), (z101, .ow 108), (z102, .ow 109), (z103, .nn), (z104, .nn), (z57, .ii 0)]),
  (101, .ins 982 100),
  (110, .idc [(z12, .nn), (z105, .nn), (z106, .ow 113), (z107, .ow 114)]),
  (111, .ins 721 110),
  (113, .dic [(z108, .ow 143), (z109, .ow 146), (z110, .ow 149)]),
  (115, .tup [.ss z35, .ii (-2), .ii 6]),
  (116, .idc [(z36, .ow 6), (z37, .ow 115)]),
  (117, .ins 351 116),
  (120, .tup [.ii 1, .ii 2]),
  (121, .lst [.ow 120]),
  (122, .lst [.ii 0, .ii 3]),
  (123, .idc [(z111, .ow 121), (z112, .ow 122)]),
  (124, .ins 194 123),
  (127, .idc [(z36, .ow 49), (z37, .nn)]),
  (128, .ins 351 127),
  (131, .dic [(z40, .ii 3)]),
  (132, .idc [(z36, .ow 68), (z113, .ow 131)]),
  (133, .ins 215 132),
  (136, .idc [(z36, .ow 68), (z37, .nn)]),
  (137, .ins 351 136),
  (142, .idc [(z114, .ii 3), (z11, .ii 1), (z115, .ow 117)]),
  (143, .ins 145 142),
  (145, .idc [(z114, .ow 124), (z11, .ii 1), (z115, .ow 128)]),
  (146, .ins 145 145),
  (148, .idc [(z114, .ow 133), (z11, .ii 1), (z115, .ow 137)]),
  (149, .ins 145 148),
  (153, .idc [(z116, .ow 151), (z117, .nn), (z118, .ow 152), (z119, .nn), (z32, .ow 156)]),
  (154, .ins 961 153),
  (157, .idc [(z120, .ow 154), (z6, .ii 0), (z121, .ow 160), (z88, .nn)]),
  (158, .ins 38 157),
  (160, .lst [])]
noncomputable def mkT (l : List (Nat × AO)) : Tr := l.foldl (fun t p => ts t p.1 (some p.2)) .nil
noncomputable def bT : Tr := mkT bO
noncomputable def zw : Nat → Str
  | 0 => ⟨⟨[nat_lit 119, nat_lit 48]⟩⟩
  | 1 => ⟨⟨[nat_lit 119, nat_lit 49]⟩⟩
  | _ => ⟨⟨[nat_lit 119, nat_lit 50]⟩⟩
noncomputable def plc : Nat → AO
  | 0 => .tup [.ss (Str.ofString "cell"), .ow 143]
  | 1 => .tup [.ss (Str.ofString "item"), .ow 124, .ii 1, .ow 45]
  | _ => .tup [.ss (Str.ofString "field"), .ow 133, .ss z40, .ow 62]
noncomputable def mod3 : Nat → Nat
  | 0 => 0 | 1 => 1 | 2 => 2 | 3 => 0 | 4 => 1 | _ => 2
noncomputable def nm0 : List (Str × AV) := [(z108, .ow 143), (z109, .ow 146), (z110, .ow 149)]
noncomputable def laid (f : Nat) : Nat → List (Str × AV)
  | 0 => nm0
  | t + 1 => laid f t ++ [(zw (mod3 (f + t)), .ow (162 + mod3 (f + t)))]
noncomputable def plcs (f : Nat) : Nat → Tr → Tr
  | 0, t => t
  | n + 1, t => ts (plcs f n t) (162 + mod3 (f + n)) (some (plc (mod3 (f + n))))
noncomputable def frm1 (f : Nat) : List (Str × AV) := [(z0, .ow 1), (z1, .ow 80), (z2, .ow 86), (z3, .ow 158), (z4, .ii (Int.ofNat f))]
noncomputable def stB (f : Nat) : St := ⟨161, ts bT 0 (some (.nsp (frm1 f)))⟩
noncomputable def hd1 (f t : Nat) : St := ⟨165, ts (ts (plcs f t (ts bT 0 (some (.nsp (frm1 f))))) 113 (some (.dic (laid f t)))) 161 (some (.rit (Int.ofNat t) (Int.ofNat (3 - t))))⟩
noncomputable def zdue : Str := ⟨⟨[nat_lit 100, nat_lit 117, nat_lit 101]⟩⟩
noncomputable def zturn : Str := ⟨⟨[nat_lit 116, nat_lit 117, nat_lit 114, nat_lit 110]⟩⟩
noncomputable def zwhich : Str := ⟨⟨[nat_lit 119, nat_lit 104, nat_lit 105, nat_lit 99, nat_lit 104]⟩⟩
noncomputable def zvalue : Str := ⟨⟨[nat_lit 118, nat_lit 97, nat_lit 108, nat_lit 117, nat_lit 101]⟩⟩
noncomputable def frm2 : List (Str × AV) := [(z0, .ow 1), (z1, .ow 80), (z2, .ow 86), (z3, .ow 158), (zdue, .ow 165)]
noncomputable def hdE : St := ⟨167, ts (ts (ts (ts (ts (ts (plcs 0 3 bT) 0 (some (.nsp frm2)))
  113 (some (.dip (laid 0 3)))) 165 (some (.lst [.sy 0, .sy 1, .sy 2]))) 142 (some (.idc [(z114, .sy 0), (z11, .ii 1), (z115, .ow 117)]))) 122 (some (.lst [.ii 0, .sy 1]))) 131 (some (.dic [(z40, .sy 2)]))⟩
noncomputable def hd2 (t : Nat) : St := sset hdE 166 (.rit (Int.ofNat t) (Int.ofNat (6 - t)))
noncomputable def stT : St := sset hdE 0 (.nsp ((zturn, .sy 4) :: frm2))
noncomputable def stM (w : Nat) : St := sset hdE 0 (.nsp ((zvalue, .sy 3) :: (zwhich, .ii (Int.ofNat w)) :: (zturn, .sy 4) :: frm2))
noncomputable def owOf : Option AV → Nat
  | some (.ow k) => k
  | _ => 1000000
noncomputable def atD (σ : St) (k : Nat) (x : Str) : Option AV := match sget σ k with
  | some (.dic es) => look es x
  | some (.idc es) => look es x
  | some (.nsp es) => look es x
  | _ => none
noncomputable def ent (σ : St) : Nat × Nat := (160, owOf (atD σ 157 z121))
noncomputable def ex1 (f t : Nat) (σ : St) : List (Nat × Nat) := [ent σ, (162 + mod3 (f + t), owOf (atD σ 113 (zw (mod3 (f + t)))))]
noncomputable def dueOf (σ : St) (k : Nat) : Option AV := match sget σ 165 with
  | some (.lst xs) => xs[k]?
  | _ => none
noncomputable def noG : Nat → Option AV := fun _ => none
noncomputable def isNx : AFl → Bool
  | .nx => true
  | _ => false
noncomputable def goes (l : St → List (Nat × Nat)) (g : St → Nat → Option AV) (t : St) : List (Out AFl) → Bool
  | [] => true
  | .ok fl σ :: r => isNx fl && (joinOk (l σ) (g σ) t σ && goes l g t r)
  | _ :: _ => false
noncomputable def lawB : List Stmt := gB (T 141)
noncomputable def lawS : Scope := gS (T 141)
noncomputable def cx0 : Cx := ⟨lawS, 0, [], 0, false⟩
noncomputable def nthS (l : List Stmt) (n : Nat) : Stmt := match l[n]? with | some s => s | none => .Pass default
noncomputable def forB : Stmt → List Stmt
  | .For _ _ b _ _ => b
  | _ => []
noncomputable def forT : Stmt → Expr
  | .For t _ _ _ _ => t
  | _ => .Tuple [] 0 default
noncomputable def turnA (T : Tab) (st : Stmt) (k n : Nat) (i : Int) (σ : St) : List (Out AFl) :=
  obind (storeT cx0 (forT st) (.ii i) (sset σ k (.rit (i + 1) (Int.ofNat n)))) fun _ σ => (run T 80).ex cx0 (forB st) σ
noncomputable def turn1A (T : Tab) (f t : Nat) : List (Out AFl) := turnA T (nthS lawB 5) 161 (2 - t) (Int.ofNat t) (hd1 f t)
noncomputable def exLs (T : Tab) (I : IH) (c : Cx) (l2 : List Stmt) (fl : AFl) (σ : St) : List (Out AFl) := match fl with
  | .nx => exL T I c l2 σ
  | fl => okk fl σ
noncomputable def two7 : List Stmt := (forB (nthS lawB 7)).take 2
noncomputable def rest7 : List Stmt := (forB (nthS lawB 7)).drop 2
noncomputable def bndM (w c : Nat) : Int × Int := match w, c with
  | 0, 0 => (-3, -3)
  | 0, 1 => (-2, 6)
  | 0, _ => (7, 8)
  | 1, 0 => (-3, -1)
  | 1, _ => (0, 8)
  | _, 0 => (-3, 0)
  | _, 1 => (1, 4)
  | _, _ => (5, 8)
noncomputable def clsM (w : Nat) (v : Int) : Nat := match decide (v < (bndM w 1).1) with
  | true => 0
  | false => (match decide (v ≤ (bndM w 1).2) with | true => 1 | false => 2)
noncomputable def gT (t : Nat) (k : Nat) : Option AV := match k with
  | 4 => some (.ii (Int.ofNat t))
  | k => some (.sy k)
noncomputable def gM (v : Int) (k : Nat) : Option AV := match k with
  | 3 => some (.ii v)
  | k => some (.sy k)
noncomputable def frS (σ : St) (x : Str) : Option AV := match sget σ 0 with
  | some (.nsp es) => look es x
  | _ => none
noncomputable def isM : Out AFl → Bool
  | .ok fl σ => isNx fl && (match frS σ zwhich, frS σ zvalue with
    | some (.ii (.ofNat w)), some (.ii v) => Nat.blt w 3 && ((Nat.blt (clsM w v) 2 || !Nat.beq w 1) && (decide ((bndM w (clsM w v)).1 ≤ v) && (decide (v ≤ (bndM w (clsM w v)).2) && joinOk [] (gM v) (stM w) σ)))
    | _, _ => false)
  | _ => false
noncomputable def isT (t : Nat) : List (Out Unit) → Bool
  | [.ok _ σ] => joinOk [] (gT t) stT (sdel σ 166)
  | _ => false
noncomputable def store2 (t : Nat) : List (Out Unit) := storeT cx0 (forT (nthS lawB 7)) (.ii (Int.ofNat t)) (sset (hd2 t) 166 (.rit (Int.ofNat t + 1) (Int.ofNat (5 - t))))
noncomputable def first2 (T : Tab) : List (Out AFl) := exL T (run T 79) cx0 two7 stT
noncomputable def chkR (T : Tab) (w : Nat) : Bool := goes (fun σ => [ent σ]) dueOf hdE (exL T (run T 79) cx0 rest7 (stM w))
noncomputable def chk1 (T : Tab) (f t : Nat) : Bool := goes (ex1 f t) (fun _ => noG) (hd1 f (t + 1)) (turn1A T f t)
end Mine
end
noncomputable section
open PySem PySem.W PyProof.Rows PySem.Calls
set_option maxRecDepth 100000
namespace Mine
noncomputable def kA : List Nat := [2, 38, 37, 35, 66, 65, 63, 86, 85, 83, 105, 104, 102, 124, 123, 121, 145, 144, 142, 173, 172, 163, 170, 194, 193, 191, 215, 214, 212, 330, 329, 327, 351, 350, 348, 721, 720, 718, 742, 741, 739, 898, 897, 895, 961, 960, 958, 982, 981, 979]
noncomputable def KF (P : Params) : Frag := kA.map fun a => (a, ob P a)
noncomputable def H1T (P : Params) : BT := bt (f_26 P) 1050 12 1 0
noncomputable def solid (P : Params) (a : Nat) : Bool := Nat.blt a 1050 && (match (H1T P).get a with | some o => !o.isFreed | none => false)
theorem h1_at {P : Params} {a : Nat} {o : Obj} (e : (H1T P).get a = some o) (ha : a < 1050) (hf : o.isFreed = false) : (H1 P).get? a = some o := by
  refine Heap.get?_some_iff.mpr ⟨?_, hf⟩
  unfold H1
  rw [absHeap_at, if_pos ha]
  have e : (bt (f_26 P) 1050 12 1 0).get a = some o := e
  rw [e]; rfl
theorem h1_solid {P : Params} {a : Nat} {o : Obj} (e : (H1T P).get a = some o) (h : solid P a = true) : (H1 P).get? a = some o := by
  unfold solid at h
  rw [Bool.and_eq_true, e] at h
  exact h1_at e (Nat.le_of_ble_eq_true h.1) (by simpa using h.2)
theorem map_mem {α β : Type} {f g : α → β} : ∀ {l : List α}, l.map f = l.map g → ∀ a ∈ l, f a = g a
  | x :: r, h, a, m => by
    simp only [List.map_cons, List.cons.injEq] at h
    cases m with
    | head => exact h.1
    | tail _ m => exact map_mem h.2 a m
theorem look_map {α : Type} {f : Nat → α} : ∀ {l : List Nat} {a : Nat} {o : α}, (l.map fun a => (a, f a)).lookup a = some o → a ∈ l ∧ o = f a
  | [], a, o, h => by cases h
  | x :: r, a, o, h => by
    rw [List.map_cons, List.lookup_cons] at h
    split at h
    · rename_i q
      have := beq_iff_eq.mp q
      subst this
      cases h
      exact ⟨.head _, rfl⟩
    · obtain ⟨h1, h2⟩ := look_map h
      exact ⟨.tail _ h1, h2⟩
theorem kA_get (P : Params) : kA.map (H1T P).get = kA.map fun a => some (ob P a) := by kernel_rfl
theorem kA_solid (P : Params) : kA.all (solid P) = true := by kernel_rfl
theorem kin (P : Params) : (KF P).In (H1 P) := by
  intro a o h
  obtain ⟨h1, rfl⟩ := look_map h
  exact h1_solid (map_mem (kA_get P) a h1) (List.all_eq_true.mp (kA_solid P) a h1)
theorem fx_get (P : Params) : fnX.map (fun x => (H1T P).get x.a) = fnX.map (fun x => some (fO (vt "function") x.nm x.q x.st 3 vn x.md (vr x.c) 0)) := by kernel_rfl
noncomputable def codeOk (P : Params) (x : FX) : Bool := match (H1T P).get x.c with
  | some o => (match o.data with
    | .fields vs => (match vs.toList with | _ :: .str n _ :: _ => seq n x.q | _ => false)
    | _ => false)
  | none => false
theorem fx_ok (P : Params) : fnX.all (fun x => fStat x.st && (solid P x.a && (solid P x.c && codeOk P x))) = true := by kernel_rfl
theorem fP_gP (st : Stmt) : fP st = gP st := by cases st <;> rfl
theorem fB_gB (st : Stmt) : fB st = gB st := by cases st <;> rfl
theorem fS_gS (st : Stmt) : fS st = gS st := by cases st <;> rfl
theorem codeOk_rec {P : Params} {x : FX} (h : codeOk P x = true) (hs : solid P x.c = true) : (H1 P).CodeRec (vr x.c) x.q := by
  unfold codeOk at h
  split at h
  · rename_i o ho
    split at h
    · rename_i vs hd
      split at h
      · rename_i y n t r hl
        refine ⟨x.c, o, vs, t, rfl, h1_solid ho hs, hd, ?_⟩
        rw [← Array.getElem?_toList, hl, ← seq_true h]; rfl
      · cases h
    · cases h
  · cases h
theorem fn_ok {P : Params} {h₀ : Heap} (hk : ∀ b o, (H1 P).get? b = some o → h₀.get? b = some o) {x : FX} (hx : x ∈ fnX) : FnF h₀ x.a ⟨x.st, []⟩ := by
  have e := map_mem (fx_get P) x hx
  have ok := List.all_eq_true.mp (fx_ok P) x hx
  simp only [Bool.and_eq_true] at ok
  obtain ⟨h1, h2, h3, h4⟩ := ok
  have ho := hk _ _ (h1_solid e h2)
  unfold fO at ho
  rw [fP_gP, fB_gB, fS_gS] at ho
  exact fnF_of ho ((codeOk_rec h4 h3).keeps hk) h1
noncomputable def pairOf (e : DictEntry) : Str × Value := ((match e.key with | .str n _ => n | _ => default), e.val)
noncomputable def strKey (e : DictEntry) : Bool := match e.key with | .str _ _ => true | _ => false
theorem ns_find : ∀ {l : List DictEntry}, l.all strKey = true → ∀ x, nsFind l.toArray x = assocS (l.map pairOf) x := by
  intro l h x
  unfold nsFind findBy
  rw [← Array.find?_toList]
  show (l.find? _).map _ = _
  induction l with
  | nil => rfl
  | cons e r ih =>
    rw [List.all_cons, Bool.and_eq_true] at h
    rw [List.find?_cons, List.map_cons]
    unfold assocS
    obtain ⟨k, key, v⟩ := e
    cases key with
    | str n t =>
      show Option.map _ (match (Value.str n t).isStr x with | true => _ | false => _) = match seq n x with | true => some v | false => _
      have : (Value.str n t).isStr x = seq n x := by
        rw [seq_iff]; simp only [Value.isStr]; exact Bool.eq_iff_iff.mpr (by simp)
      rw [this]
      cases seq n x with
      | true => rfl
      | false => exact ih h.2
    | _ => cases h.1
noncomputable def mainL (P : Params) : List DictEntry := de P s350 165 (vs s339 1667) :: (nsTail P).take 132
theorem main_get (P : Params) : (H1T P).get 3 = some ⟨vt "dict", none, .dict (List.toArray (mainL P)) 133, #[]⟩ := by kernel_rfl
theorem main_pairs (P : Params) : (mainL P).map pairOf = glL := by kernel_rfl
theorem main_str (P : Params) : (mainL P).all strKey = true := by kernel_rfl
theorem main_ns (P : Params) : (H1 P).Ns mainGlobals (assocS glL) := by
  refine ⟨_, _, _, h1_at (main_get P) (by decide) rfl, rfl, fun e he => ?_, fun x => ?_⟩
  · have := List.all_eq_true.mp (main_str P) e (by simpa using he)
    unfold strKey at this
    split at this
    · exact ⟨_, _, by assumption⟩
    · cases this
  · rw [ns_find (main_str P), main_pairs]
end Mine
end
noncomputable section
open PySem PySem.W PyProof.Rows PySem.Calls
set_option maxRecDepth 100000
namespace Mine
noncomputable def cN : List (Nat × Nat) := [(38, 35), (124, 121), (145, 142), (173, 163), (194, 191), (215, 212), (330, 327), (351, 348), (721, 718), (742, 739), (898, 895), (961, 958), (982, 979)]
noncomputable def cX : List (Nat × Nat) := [(66, 63), (86, 83), (105, 102)]
theorem f_n1 (P : Params) : cN.map (fun p => findIn (KF P) (.ref p.1) "__getattribute__") = cN.map (fun p => some (some (.builtin "object.__getattribute__"))) := by kernel_rfl
theorem f_n2 (P : Params) : cN.map (fun p => findIn (KF P) (.ref p.1) "__setattr__") = cN.map (fun p => some (some (.builtin "object.__setattr__"))) := by kernel_rfl
theorem f_n3 (P : Params) : cN.map (fun p => findIn (KF P) (.ref p.1) "__class__") = cN.map (fun p => some (some (.builtin "object.__class__"))) := by kernel_rfl
theorem f_n4 (P : Params) : cN.map (fun p => mroIn (KF P) p.1 (.type "object")) = cN.map (fun p => some true) := by kernel_rfl
theorem f_n5 (P : Params) : cN.map (fun p => findIn (KF P) (.ref p.1) "__init__") = cN.map (fun p => some (some (.ref p.2))) := by kernel_rfl
theorem f_n6 (P : Params) : cN.map (fun p => typeIn (KF P) (.ref p.2)) = cN.map (fun p => some (.type "function")) := by kernel_rfl
theorem f_a1 (P : Params) : (cN ++ cX).map (fun p => specialIn (KF P) (.ref p.1) "__call__") = (cN ++ cX).map (fun p => some (some (.builtin "type.__call__"))) := by kernel_rfl
theorem f_x1 (P : Params) : cX.map (fun p => findIn (KF P) (.ref p.1) "__getattribute__") = cX.map (fun p => some (some (.builtin "BaseException.__getattribute__"))) := by kernel_rfl
theorem f_x2 (P : Params) : cX.map (fun p => findIn (KF P) (.ref p.1) "__getattr__") = cX.map (fun p => some none) := by kernel_rfl
theorem f_x3 (P : Params) : cX.map (fun p => findIn (KF P) (.ref p.1) "__setattr__") = cX.map (fun p => some (some (.builtin "object.__setattr__"))) := by kernel_rfl
theorem f_x4 (P : Params) : cX.map (fun p => mroIn (KF P) p.1 (.type "BaseException")) = cX.map (fun p => some true) := by kernel_rfl
theorem f_x5 (P : Params) : cX.map (fun p => mroIn (KF P) p.1 (.type "object")) = cX.map (fun p => some true) := by kernel_rfl
theorem f_x6 (P : Params) : cX.map (fun p => findIn (KF P) (.ref p.1) "__init__") = cX.map (fun p => some (some (.ref p.2))) := by kernel_rfl
theorem f_x7 (P : Params) : cX.map (fun p => typeIn (KF P) (.ref p.2)) = cX.map (fun p => some (.type "function")) := by kernel_rfl
theorem f_x8 (P : Params) : cX.map (fun p => findCls (KF P) (.ref p.1) (.type "type") "__init__") = cX.map (fun p => some (.val (.ref p.2))) := by kernel_rfl
theorem f_x9 (P : Params) : cX.map (fun p => specialIn (KF P) (.ref p.1) "__getattribute__") = cX.map (fun p => some (some (.builtin "type.__getattribute__"))) := by kernel_rfl
theorem f_x10 (P : Params) : cX.map (fun p => (if (subIn (KF P) (.ref p.1) (.type "BaseException") == some true) = true then kitCls (KF P) (.ref p.1) (.ref p.1) else none)) = cX.map (fun p => some true) := by kernel_rfl
theorem f_m1 (P : Params) : cN.all (fun p => isNotIn (KF P) "int" p.1) = true := by kernel_rfl
theorem f_m2 (P : Params) : cN.all (fun p => isIn (KF P) (.ref p.1) p.1) = true := by kernel_rfl
theorem f_m3 (P : Params) : cN.all (fun p => plainGet (KF P) p.1 "__class__") = true := by kernel_rfl
theorem f_m4 (P : Params) : cN.all (fun p => hasDictIn (KF P) p.1) = true := by kernel_rfl
theorem f_m5 (P : Params) : cN.all (fun p => kin_notT (KF P) p.1 "tuple") = true := by kernel_rfl
theorem f_m6 (P : Params) : cN.all (fun p => plainOver (KF P) p.1) = true := by kernel_rfl
theorem f_m7 (P : Params) : cN.all (fun p => (clsIn (KF P) p.1).any (·.hasDict)) = true := by kernel_rfl
theorem f_m8 (P : Params) : cN.all (fun p => makesIn (KF P) p.1) = true := by kernel_rfl
theorem f_m9 (P : Params) : cX.all (fun p => readsIn (KF P) p.1 (.type "type")) = true := by kernel_rfl
theorem f_m10 (P : Params) : cN.all (fun p => cN.all fun q => Nat.beq p.1 q.1 || kin_not (KF P) q.1 p.1) = true := by kernel_rfl
noncomputable def nn2 : Option (Option Value) → Bool
  | some none => true
  | _ => false
theorem f_no (P : Params) : attL.all (fun p => p.2.all fun n => nn2 (findIn (KF P) (.ref p.1) n)) = true := by kernel_rfl
theorem f_ei (P : Params) : findCls (KF P) (.type "Exception") (.type "type") "__init__" = some (.val (.builtin "Exception.__init__")) := by kernel_rfl
theorem f_oc1 (P : Params) : specialIn (KF P) (.builtin "object.__class__") "__get__" = some (some (.builtin "getset_descriptor.__get__")) := by kernel_rfl
theorem f_oc2 (P : Params) : takesIn (KF P) (.builtin "object.__class__") = some true := by kernel_rfl
end Mine
end
noncomputable section
open PySem PySem.W PyProof.Rows PySem.Calls
set_option maxRecDepth 100000
namespace Mine
theorem assocN_mem {α : Type} : ∀ {l : List (Nat × α)} {a : Nat} {v : α}, assocN l a = some v → (a, v) ∈ l
  | p :: r, a, v, h => by
    unfold assocN at h
    split at h
    · rename_i q
      have := Nat.eq_of_beq_eq_true q
      cases h
      obtain ⟨x, y⟩ := p
      simp only at this
      subst this
      exact .head _
    · exact .tail _ (assocN_mem h)
noncomputable def clsOf (p : Nat × Nat) (e : Bool) : Nat × ClI := (p.1, ⟨some p.2, e⟩)
theorem cl_split : ∀ p ∈ clL, (∃ q ∈ cN, p = clsOf q false) ∨ (∃ q ∈ cX, p = clsOf q true) := by
  have h : clL.all (fun p => (cN.any fun q => Nat.beq p.1 q.1 && (p.2.init == some q.2 && !p.2.exc)) || cX.any fun q => Nat.beq p.1 q.1 && (p.2.init == some q.2 && p.2.exc)) = true := by kernel_rfl
  intro p hp
  have := List.all_eq_true.mp h p hp
  rw [Bool.or_eq_true] at this
  obtain ⟨c, i, e⟩ := p
  rcases this with q | q
  · obtain ⟨y, hy, z⟩ := List.any_eq_true.mp q
    simp only [Bool.and_eq_true] at z
    have z1 := Nat.eq_of_beq_eq_true z.1
    have z2 := beq_iff_eq.mp z.2.1
    have z3 : e = false := by simpa using z.2.2
    subst z1 z2 z3
    exact .inl ⟨y, hy, rfl⟩
  · obtain ⟨y, hy, z⟩ := List.any_eq_true.mp q
    simp only [Bool.and_eq_true] at z
    have z1 := Nat.eq_of_beq_eq_true z.1
    have z2 := beq_iff_eq.mp z.2.1
    have z3 : e = true := by simpa using z.2.2
    subst z1 z2 z3
    exact .inr ⟨y, hy, rfl⟩
theorem cl_n {C : Nat} {i : Option Nat} (h : assocN clL C = some ⟨i, false⟩) : ∃ q ∈ cN, C = q.1 ∧ i = some q.2 := by
  rcases cl_split _ (assocN_mem h) with ⟨q, hq, e⟩ | ⟨q, hq, e⟩
  · cases e; exact ⟨q, hq, rfl, rfl⟩
  · cases e
theorem cl_x {C : Nat} {i : Option Nat} (h : assocN clL C = some ⟨i, true⟩) : ∃ q ∈ cX, C = q.1 ∧ i = some q.2 := by
  rcases cl_split _ (assocN_mem h) with ⟨q, hq, e⟩ | ⟨q, hq, e⟩
  · cases e
  · cases e; exact ⟨q, hq, rfl, rfl⟩
theorem att_no (P : Params) {C : Nat} {n : Str} (h : attT C n = true) : findIn (KF P) (.ref C) n = some none := by
  unfold attT at h
  split at h
  · rename_i l hl
    have h1 := List.all_eq_true.mp (f_no P) _ (assocN_mem hl)
    have h2 := List.all_eq_true.mp h1 n (mem_anyN h)
    unfold nn2 at h2
    split at h2
    · assumption
    · cases h2
  · cases h
theorem all_ {α : Type} {l : List α} {f : α → Bool} (h : l.all f = true) {a : α} (m : a ∈ l) : f a = true := List.all_eq_true.mp h a m
theorem refuse_x {self : Value} : ∀ {l : List Value}, (match l with | [.type "Exception", .type "BaseException", .type "object"] => True | _ => False) → refuseLoop self "__setattr__" l = pure () := by
  intro l h
  split at h
  · exact PySem.F.store_Exception.passes self
  · exact h.elim
theorem x_mro (P : Params) : ∀ p ∈ cX, ∃ cd, clsIn (KF P) p.1 = some cd ∧ cd.hasDict = true ∧ ∀ self : Value, refuseLoop self "__setattr__" cd.mro = pure () := by
  intro p hp
  have e : ∀ self, refuseLoop self "__setattr__" [.type "Exception", .type "BaseException", .type "object"] = pure () := fun self => PySem.F.store_Exception.passes self
  have hc : cX = [(66, 63), (86, 83), (105, 102)] := rfl
  rw [hc] at hp
  simp only [List.mem_cons, List.mem_nil_iff, or_false] at hp
  rcases hp with rfl | rfl | rfl
  · exact ⟨_, (by kernel_rfl : clsIn (KF P) 66 = some (match o66 with | ⟨_, _, .cls cd, _⟩ => cd | _ => default)), rfl, fun self => by
      show refuseLoop self "__setattr__" [vr 66, .type "Exception", .type "BaseException", .type "object"] = _
      rw [refuseLoop_ref, e]⟩
  · exact ⟨_, (by kernel_rfl : clsIn (KF P) 86 = some (match o86 with | ⟨_, _, .cls cd, _⟩ => cd | _ => default)), rfl, fun self => by
      show refuseLoop self "__setattr__" [vr 86, vr 66, .type "Exception", .type "BaseException", .type "object"] = _
      rw [refuseLoop_ref, refuseLoop_ref, e]⟩
  · exact ⟨_, (by kernel_rfl : clsIn (KF P) 105 = some (match o105 with | ⟨_, _, .cls cd, _⟩ => cd | _ => default)), rfl, fun self => by
      show refuseLoop self "__setattr__" [vr 105, vr 66, .type "Exception", .type "BaseException", .type "object"] = _
      rw [refuseLoop_ref, refuseLoop_ref, e]⟩
end Mine
end
noncomputable section
open PySem PySem.W PyProof.Rows PySem.Calls
set_option maxRecDepth 100000
namespace Mine
structure TabOf (T : Tab) : Prop where
  fn : T.fn = assocN fnL
  cl : T.cl = assocN clL
  gl : T.gl = assocS glL
  tup : T.tup = assocN tupL
  att : T.attr = attT
theorem isI_att {T : Tab} (O : TabOf T) {C : Nat} {n : Str} (h : isI T C n = true) : (∃ q ∈ cN, C = q.1) ∧ attT C n = true := by
  unfold isI at h
  rw [O.cl] at h
  split at h
  · rename_i ci hc
    rw [O.att, Bool.and_eq_true] at h
    obtain ⟨i, e⟩ := ci
    have he : e = false := by simpa using h.1
    subst he
    obtain ⟨q, hq, e1, _⟩ := cl_n hc
    exact ⟨⟨q, hq, e1⟩, h.2⟩
  · cases h
theorem isX_att {T : Tab} (O : TabOf T) {C : Nat} {n : Str} (h : isX T C n = true) : (∃ q ∈ cX, C = q.1) ∧ attT C n = true := by
  unfold isX at h
  rw [O.cl] at h
  split at h
  · rename_i ci hc
    rw [O.att, Bool.and_eq_true] at h
    obtain ⟨i, e⟩ := ci
    have he : e = true := by simpa using h.1
    subst he
    obtain ⟨q, hq, e1, _⟩ := cl_x hc
    exact ⟨⟨q, hq, e1⟩, h.2⟩
  · cases h
theorem x_obj (P : Params) : ∀ p ∈ cX, ∃ nm q N bs bm hdct sn sub ab col dd k0 k1 k2 k3 k5, (H1T P).get p.1 = some (excClassObj nm q p.1 N bs bm hdct sn sub ab col dd k0 k1 k2 k3 k5 "Exception.__new__") ∧
    bm.contains (.type "Exception") = true ∧ bm.contains (.type "AttributeError") = false ∧ bm.contains (.type "NameError") = false ∧ bm.contains (.type "BaseException") = true := by
  intro p hp
  have hc : cX = [(66, 63), (86, 83), (105, 102)] := rfl
  rw [hc] at hp
  simp only [List.mem_cons, List.mem_nil_iff, or_false] at hp
  rcases hp with rfl | rfl | rfl
  · exact ⟨_, _, _, _, _, _, _, _, _, _, _, _, _, _, _, _, (by kernel_rfl : (H1T P).get 66 = some o66), by decide +kernel, by decide +kernel, by decide +kernel, by decide +kernel⟩
  · exact ⟨_, _, _, _, _, _, _, _, _, _, _, _, _, _, _, _, (by kernel_rfl : (H1T P).get 86 = some o86), by decide +kernel, by decide +kernel, by decide +kernel, by decide +kernel⟩
  · exact ⟨_, _, _, _, _, _, _, _, _, _, _, _, _, _, _, _, (by kernel_rfl : (H1T P).get 105 = some o105), by decide +kernel, by decide +kernel, by decide +kernel, by decide +kernel⟩
theorem cls_solid (P : Params) : (cN ++ cX).all (fun p => solid P p.1) = true := by kernel_rfl
noncomputable def isClsO (P : Params) (a : Nat) : Bool := match (H1T P).get a with
  | some ⟨_, _, .cls _, _⟩ => true
  | _ => false
theorem cls_cls (P : Params) : (cN ++ cX).all (fun p => isClsO P p.1) = true := by kernel_rfl
theorem cls_at {P : Params} {p : Nat × Nat} (h : p ∈ cN ++ cX) : ∃ oc od cd sl, (H1 P).get? p.1 = some ⟨oc, od, .cls cd, sl⟩ := by
  have h1 := all_ (cls_cls P) h
  have h2 := all_ (cls_solid P) h
  unfold isClsO at h1
  split at h1
  · rename_i oc od cd sl e
    exact ⟨oc, od, cd, sl, h1_solid e h2⟩
  · cases h1
theorem ge {T : Tab} (O : TabOf T) (P : Params) {h₀ : Heap} (hk : ∀ b o, (H1 P).get? b = some o → h₀.get? b = some o) : GE (KF P) h₀ T where
  attX := fun C n h => by
    obtain ⟨⟨q, hq, rfl⟩, ha⟩ := isX_att O h
    exact ⟨map_mem (f_x1 P) q hq, map_mem (f_x2 P) q hq, map_mem (f_x3 P) q hq, att_no P ha, map_mem (f_x4 P) q hq, map_mem (f_x5 P) q hq, x_mro P q hq⟩
  mki := fun C fI h => by
    rw [O.cl] at h
    obtain ⟨q, hq, rfl, e⟩ := cl_n h
    cases e
    exact ⟨all_ (f_m8 P) hq, map_mem (f_n5 P) q hq, map_mem (f_n6 P) q hq⟩
  xf := fun C fI h => by
    rw [O.cl] at h
    obtain ⟨q, hq, rfl, e⟩ := cl_x h
    cases e
    refine ⟨?_, map_mem (f_x6 P) q hq, map_mem (f_x7 P) q hq, all_ (f_m9 P) hq, map_mem (f_x8 P) q hq, map_mem (f_x9 P) q hq⟩
    obtain ⟨nm, qq, N, bs, bm, hdct, sn, sub, ab, col, dd, k0, k1, k2, k3, k5, e, r⟩ := x_obj P q hq
    exact ⟨nm, qq, N, bs, bm, hdct, sn, sub, ab, col, dd, k0, k1, k2, k3, k5, hk _ _ (h1_solid e (all_ (cls_solid P) (List.mem_append_right _ hq))), r⟩
  em := fun C fI h => by
    rw [O.cl] at h
    obtain ⟨q, hq, rfl, e⟩ := cl_x h
    exact map_mem (f_x10 P) q hq
  ei := f_ei P
noncomputable def dItems : List Value := [vi 32 1466, vi 1000000 1469, vi 50 1470, vi 10000 1473, vi 100000 1476, vi 50 1477, vi 1000000 1480]
theorem d_get (P : Params) : (H1T P).get 888 = some (tp dItems) := by kernel_rfl
theorem d_fn (P : Params) : (H1T P).get 895 = some (fO (vt "function") s144 s309 (M 119 0) 3 (vr 888) (vs s303 1452) (vr 894) 0) := by kernel_rfl
theorem d_code (P : Params) : codeOk P ⟨895, s144, s309, M 119 0, vs s303 1452, 894⟩ = true := by kernel_rfl
theorem d_solid (P : Params) : (solid P 895 && (solid P 894 && solid P 888)) = true := by kernel_rfl
noncomputable def dNames : List Str := (fPs (M 119 0)).map (·.arg)
theorem d_names : dNames.length = 8 := by kernel_rfl
noncomputable abbrev dFd (md cd : Value) : FuncData := fnOf s144 s309 (gP (M 119 0)) (gB (M 119 0)) (gS (M 119 0)) (vr 888) vn vn md none cd vn
theorem d_bind {s : Shared} {md cd : Value} (v : Value) (ho : s.heap.get? 888 = some (tp dItems)) : BindsTo s (dFd md cd) ⟨[v], []⟩ (dNames.zip (v :: dItems)) := by
  refine BindsTo.of_defaults (T := 888) (o := tp dItems) (items := dItems.toArray) (n := 0) rfl ho rfl (k := ?k) ?h1 ?h2
  case h1 => rfl
  case h2 => kernel_rfl
end Mine
end
noncomputable section
open PySem PySem.W PyProof.Rows PySem.Calls
set_option maxRecDepth 100000
namespace Mine
theorem d_stat : (ndS dNames && ((fPs (M 119 0)).all (fun p => isLoc (gS (M 119 0)) p.arg) && ((gS (M 119 0)).names.all (fun x => !isCellK x.2) && (!(gS (M 119 0)).isCoroutine && (!(gS (M 119 0)).isGenerator && isFun (gS (M 119 0))))))) = true := by kernel_rfl
theorem d_ok {P : Params} {h₀ : Heap} (hk : ∀ b o, (H1 P).get? b = some o → h₀.get? b = some o) : FnF h₀ fnD.1 fnD.2 := by
  have hs := d_stat
  simp only [Bool.and_eq_true, Bool.not_eq_true'] at hs
  obtain ⟨hn, hl, hcl, hco, hg, hkk⟩ := hs
  have sol := d_solid P
  simp only [Bool.and_eq_true] at sol
  obtain ⟨s1, s2, s3⟩ := sol
  have hn' : ((fPs (M 119 0)).map (·.arg)).Nodup := ndS_nodup hn
  have ho := hk _ _ (h1_solid (d_fn P) s1)
  unfold fO at ho
  rw [fP_gP, fB_gB, fS_gS] at ho
  refine ⟨⟨vt "function", none, #[], s144, s309, gP (M 119 0), vr 888, vn, vn, vs s303 1452, vr 894, vn, none, ho, (codeOk_rec (d_code P) s2).keeps hk, fun ι ρ s as vs bs hks hb hv => ?_⟩, hn', fun p hp => ?_, fun x hx => ?_, hco, hg, ?_⟩
  · unfold bindP at hb
    split at hb
    · rename_i hz
      have hz := Nat.eq_of_beq_eq_true hz
      have h8 : (fPs (M 119 0)).length = 8 := by have := d_names; unfold dNames at this; simpa using this
      cases hb
      have hz : as.length + 7 = 8 := by rw [← h8]; exact hz
      match as, vs, hv with
      | [a], [v], hv =>
        refine ⟨dNames.zip (v :: dItems), d_bind v (hks _ _ (hk _ _ (h1_solid (d_get P) s3))), ?_⟩
        have : ∀ {ns : List Str} {as : List AV} {vs : List Value}, All2 (VR ι ρ) as vs → All2 (fun p q => p.1 = q.1 ∧ VR ι ρ p.2 q.2) (ns.zip as) (ns.zip vs) := by
          intro ns
          induction ns with
          | nil => intro as vs hv; exact trivial
          | cons n ns ih =>
            intro as vs hv
            match as, vs, hv with
            | [], [], _ => exact trivial
            | a :: as, v :: vs, hv => exact ⟨⟨rfl, hv.1⟩, ih hv.2⟩
            | [], _ :: _, hv => exact hv.elim
            | _ :: _, [], hv => exact hv.elim
        refine this ⟨hv.1, ?_⟩
        exact ⟨⟨_, rfl⟩, ⟨_, rfl⟩, ⟨_, rfl⟩, ⟨_, rfl⟩, ⟨_, rfl⟩, ⟨_, rfl⟩, ⟨_, rfl⟩, trivial⟩
      | [], _, _ => simp at hz
      | _ :: _ :: _, _, _ => simp at hz
      | [_], [], hv => exact hv.elim
      | [_], _ :: _ :: _, hv => exact hv.2.elim
    · cases hb
  · have := List.all_eq_true.mp hl p hp
    unfold isLoc at this
    rw [kindA_look] at this
    split at this
    · rename_i q; exact q
    · cases this
  · have := List.all_eq_true.mp hcl x hx
    intro e
    rw [e] at this
    cases this
  · show (gS (M 119 0)).kind = .function
    unfold isFun at hkk
    cases q : (gS (M 119 0)).kind <;> rw [q] at hkk <;> first | rfl | cases hkk
theorem fn_all {P : Params} {h₀ : Heap} (hk : ∀ b o, (H1 P).get? b = some o → h₀.get? b = some o) {a : Nat} {fi : FnI} (h : assocN fnL a = some fi) : FnF h₀ a fi := by
  have := assocN_mem h
  unfold fnL at this
  rcases List.mem_append.mp this with m | m
  · obtain ⟨x, hx, e⟩ := List.mem_map.mp m
    cases e
    exact fn_ok hk hx
  · simp only [List.mem_singleton] at m
    have : a = fnD.1 ∧ fi = fnD.2 := by rw [← m]; exact ⟨rfl, rfl⟩
    rw [this.1, this.2]
    exact d_ok hk
theorem t_get (P : Params) : (H1T P).get 313 = some (tp [vs s193 610, vs s194 611, vs s195 612, vs s196 613, vs s197 614]) := by kernel_rfl
theorem t_solid (P : Params) : (solid P 313 && solid P 1) = true := by kernel_rfl
noncomputable def hasO (P : Params) (a : Nat) : Bool := match (H1T P).get a with | some _ => true | none => false
theorem sm_get (P : Params) : hasO P 1 = true := by kernel_rfl
noncomputable def eightL : List Str := [Str.ofString "len", Str.ofString "isinstance", Str.ofString "max", Str.ofString "str", Str.ofString "list", Str.ofString "range", Str.ofString "tuple", Str.ofString "Exception"]
theorem eight_ne : ∀ x ∈ eightL, x ≠ "__name__" := by
  have : eightL.all (fun x => !seq x "__name__") = true := by kernel_rfl
  intro x hx e
  have := all_ this hx
  rw [e, seq_self] at this
  cases this
theorem gf {prog : Program} {w : World} {ι : Nat → Int} {T : Tab} (O : TabOf T) {P : Params} {h₀ : Heap} (hk : ∀ b o, (H1 P).get? b = some o → h₀.get? b = some o) (lim : h₀.NoLimit) {mb : Str → Option Value} (hb : h₀.Ns builtinsNs mb)
    (hbi : ∀ x : Str, x ≠ "__name__" → mb x = bootBuiltins x) (sym : SymOk ι T) (scr : ∀ q, T.scr q = true → ∃ vs ns, h₀.IsList q (List.toArray vs) ∧ IntsAre vs ns ∧ vs.length ≤ 1000000) : GF prog w ι h₀ T (KF P) where
  glob := ⟨assocS glL, mb, (main_ns P).keeps hk, hb, fun x v h => by rw [O.gl] at h; exact h, fun x hx h => ⟨by rw [O.gl] at h; exact h, hbi x (eight_ne x hx)⟩⟩
  tup := fun q l h => by
    rw [O.tup] at h
    have m := assocN_mem h
    unfold tupL at m
    simp only [List.mem_singleton] at m
    have e1 : q = 313 := congrArg Prod.fst m
    have e2 : l = [s193, s194, s195, s196, s197] := congrArg Prod.snd m
    subst e1 e2
    have sol := t_solid P
    rw [Bool.and_eq_true] at sol
    exact ⟨_, ⟨_, hk _ _ (h1_solid (t_get P) sol.1), rfl, _, rfl⟩, .cons _ _ (.cons _ _ (.cons _ _ (.cons _ _ (.cons _ _ .nil))))⟩
  mods := by
    have sol := t_solid P
    rw [Bool.and_eq_true] at sol
    have h := sm_get P
    unfold hasO at h
    split at h
    · rename_i o e
      have := hk _ _ (h1_solid e sol.2)
      intro q
      rw [show sysModules = 1 from rfl, this] at q
      cases q
    · cases h
  lim := lim
  kin := (kin P).keeps hk
  fn := fun a fi h => by rw [O.fn] at h; exact fn_all hk h
  clF := fun C i h => by
    rw [O.cl] at h
    obtain ⟨q, hq, rfl, e⟩ := cl_n h
    exact ⟨all_ (f_m1 P) hq, all_ (f_m2 P) hq, all_ (f_m3 P) hq, all_ (f_m4 P) hq, map_mem (f_n3 P) q hq, map_mem (f_n4 P) q hq, all_ (f_m5 P) hq⟩
  cl2 := fun C D i j h1 h2 ne => by
    rw [O.cl] at h1 h2
    obtain ⟨q, hq, rfl, _⟩ := cl_n h1
    obtain ⟨r, hr, rfl, _⟩ := cl_n h2
    have := all_ (all_ (f_m10 P) hq) hr
    rw [Bool.or_eq_true] at this
    rcases this with z | z
    · exact (ne (Nat.eq_of_beq_eq_true z)).elim
    · exact z
  ck := fun C ci h => by
    rw [O.cl] at h
    obtain ⟨i, e⟩ := ci
    have : ∃ q ∈ cN ++ cX, C = q.1 := by
      cases e with
      | false => obtain ⟨q, hq, e, _⟩ := cl_n h; exact ⟨q, List.mem_append_left _ hq, e⟩
      | true => obtain ⟨q, hq, e, _⟩ := cl_x h; exact ⟨q, List.mem_append_right _ hq, e⟩
    obtain ⟨q, hq, rfl⟩ := this
    obtain ⟨oc, od, cd, sl, e⟩ := cls_at (P := P) hq
    exact ⟨⟨oc, od, cd, sl, hk _ _ e⟩, map_mem (f_a1 P) q hq⟩
  oc1 := f_oc1 P
  oc2 := f_oc2 P
  att := fun C n h => by
    obtain ⟨⟨q, hq, rfl⟩, ha⟩ := isI_att O h
    exact ⟨map_mem (f_n1 P) q hq, map_mem (f_n2 P) q hq, att_no P ha, all_ (f_m6 P) hq, all_ (f_m7 P) hq⟩
  sym := sym
  scr := scr
end Mine
end
noncomputable section
open PySem PySem.W PyProof.Rows PySem.Calls
set_option maxRecDepth 100000
namespace Mine
noncomputable def TS (sb : Nat → Option (Int × Int)) (sm : Nat → Int → Option Int) : Tab := ⟨assocN fnL, assocN clL, assocS glL, some tapA, assocN tupL, attT, fun _ _ => none, fun _ _ => none, fun _ _ => false, fun q => Nat.beq q 1050, sb, sm⟩
noncomputable def T0 : Tab := TS (fun _ => none) (fun _ _ => none)
theorem ts_of (sb : Nat → Option (Int × Int)) (sm : Nat → Int → Option Int) : TabOf (TS sb sm) := ⟨rfl, rfl, rfl, rfl, rfl⟩
noncomputable def sa1 (k : Nat) (n : Int) : Option Nat := match k, n with
  | 0, .ofNat 1 => some 1
  | 1, .negSucc 0 => some 0
  | _, _ => none
noncomputable def sl1 (b : Bool) (x y : Nat) : Option Bool := match x, y with
  | 1, 2 => some b
  | _, _ => none
noncomputable def si1 (b : Bool) (x y : Nat) : Bool := match x, y with
  | 0, 2 => b
  | _, _ => false
noncomputable def T1 (b : Bool) : Tab := ⟨assocN fnL, assocN clL, assocS glL, none, assocN tupL, attT, sa1, sl1 b, si1 b, fun _ => false, fun _ => none, fun _ _ => none⟩
theorem t1_of (b : Bool) : TabOf (T1 b) := ⟨rfl, rfl, rfl, rfl, rfl⟩
noncomputable def tapS : St := ⟨2, ts (ts .nil 0 (some (.dic [(Str.ofString "script", .ow 1), (Str.ofString "at", .sy 0)]))) 1 (some (.itl (some 2)))⟩
noncomputable def tapF : FnI := ⟨T 135, []⟩
noncomputable def tapRun (b : Bool) (m dp : Nat) (hd : Bool) : List (Out AV) := callF (run (T1 b) 12) [100000] dp hd tapF [.ow 0, .ii (Int.ofNat m)] tapS
noncomputable def tapGood (m : Nat) : Out AV → Bool
  | .ok (.ii (.ofNat r)) σ => Nat.blt r m && ((match sget σ 0 with
    | some (.dic [(x, .ow 1), (y, .sy 1)]) => seq x "script" && seq y "at"
    | _ => false) && (match sget σ 1 with | some (.itl _) => true | _ => false))
  | _ => false
theorem tap_fn : assocN fnL tapA = some tapF := by kernel_rfl
theorem tap_2t (dp : Nat) (hd : Bool) : (tapRun true 2 dp hd).all (tapGood 2) = true := by kernel_rfl
theorem tap_2f (dp : Nat) (hd : Bool) : (tapRun false 2 dp hd).all (tapGood 2) = true := by kernel_rfl
theorem tap_3t (dp : Nat) (hd : Bool) : (tapRun true 3 dp hd).all (tapGood 3) = true := by kernel_rfl
theorem tap_3f (dp : Nat) (hd : Bool) : (tapRun false 3 dp hd).all (tapGood 3) = true := by kernel_rfl
theorem tap_4t (dp : Nat) (hd : Bool) : (tapRun true 4 dp hd).all (tapGood 4) = true := by kernel_rfl
theorem tap_4f (dp : Nat) (hd : Bool) : (tapRun false 4 dp hd).all (tapGood 4) = true := by kernel_rfl
theorem tap_12t (dp : Nat) (hd : Bool) : (tapRun true 12 dp hd).all (tapGood 12) = true := by kernel_rfl
theorem tap_12f (dp : Nat) (hd : Bool) : (tapRun false 12 dp hd).all (tapGood 12) = true := by kernel_rfl
theorem tap_all {m : Nat} (hm : (Nat.beq m 2 || (Nat.beq m 3 || (Nat.beq m 4 || Nat.beq m 12))) = true) (b : Bool) (dp : Nat) (hd : Bool) : ∀ o ∈ tapRun b m dp hd, tapGood m o = true := by
  have : (tapRun b m dp hd).all (tapGood m) = true := by
    simp only [Bool.or_eq_true] at hm
    rcases hm with h | h | h | h
    · have h := Nat.eq_of_beq_eq_true h; subst h; exact match b with | true => tap_2t dp hd | false => tap_2f dp hd
    · have h := Nat.eq_of_beq_eq_true h; subst h; exact match b with | true => tap_3t dp hd | false => tap_3f dp hd
    · have h := Nat.eq_of_beq_eq_true h; subst h; exact match b with | true => tap_4t dp hd | false => tap_4f dp hd
    · have h := Nat.eq_of_beq_eq_true h; subst h; exact match b with | true => tap_12t dp hd | false => tap_12f dp hd
  exact fun o ho => all_ this ho
noncomputable def sym1 (i n : Int) (k : Nat) : Int := match k with
  | 0 => i
  | 1 => i + 1
  | 2 => n
  | _ => 0
theorem sym1_ok {i n : Int} (hi : 0 ≤ i) : SymOk (sym1 i n) (T1 (decide (i + 1 ≤ n))) where
  add := fun k m j h => by
    have h : sa1 k m = some j := h
    unfold sa1 at h
    split at h
    · cases h; rfl
    · cases h; show i + 1 + Int.negSucc 0 = i; omega
    · cases h
  le := fun a b r h => by
    have h : sl1 (decide (i + 1 ≤ n)) a b = some r := h
    unfold sl1 at h
    split at h
    · cases h; rfl
    · cases h
  ix := fun k L h => by
    have h : si1 (decide (i + 1 ≤ n)) k L = true := h
    unfold si1 at h
    split at h
    · have := of_decide_eq_true h
      show 0 ≤ i ∧ i < n
      omega
    · cases h
  bnd := fun k lo hi h => by cases h
  mod := fun k y r h => by cases h
theorem get_0 : sget tapS 0 = some (.dic [(Str.ofString "script", .ow 1), (Str.ofString "at", .sy 0)]) := by kernel_rfl
theorem get_1 : sget tapS 1 = some (.itl (some 2)) := by kernel_rfl
theorem tset_only {k : Nat} {o : AO} (h : sget tapS k = some o) : (k = 0 ∧ o = .dic [(Str.ofString "script", .ow 1), (Str.ofString "at", .sy 0)]) ∨ (k = 1 ∧ o = .itl (some 2)) := by
  have h : tg (ts (ts .nil 0 (some (.dic [(Str.ofString "script", .ow 1), (Str.ofString "at", .sy 0)]))) 1 (some (.itl (some 2)))) k = some o := h
  rcases tg_ts h with ⟨h1, h2⟩ | ⟨_, h2⟩
  · exact .inr ⟨h1, (Option.some.inj h2).symm⟩
  · rcases tg_ts h2 with ⟨h1, h2⟩ | ⟨_, h2⟩
    · exact .inl ⟨h1, (Option.some.inj h2).symm⟩
    · rw [tg_nil] at h2; cases h2
theorem two_of {R : (Str × AV) → (Str × Value) → Prop} {a b : Str × AV} {l : List (Str × Value)} (h : All2 R [a, b] l) : ∃ n1 v1 n2 v2, l = [(n1, v1), (n2, v2)] ∧ R a (n1, v1) ∧ R b (n2, v2) := by
  match l, h with
  | [(n1, v1), (n2, v2)], h => exact ⟨n1, v1, n2, v2, rfl, h.1, h.2.1⟩
theorem tap_ok {prog : Program} {w : World} {ι : Nat → Int} {P : Params} {h₀ : Heap} {os₀ : OsState} (hk : ∀ b o, (H1 P).get? b = some o → h₀.get? b = some o) (lim : h₀.NoLimit) {mb : Str → Option Value} (hb : h₀.Ns builtinsNs mb)
    (hbi : ∀ x : Str, x ≠ "__name__" → mb x = bootBuiltins x) : TapOk prog w ι h₀ os₀ T0 := by
  intro fs dp hd a as vs σ ρ s A ht hdp C R hv
  have ha : a = tapA := Nat.eq_of_beq_eq_true ht
  subst ha
  unfold tapR
  split
  · rename_i j m
    obtain ⟨u, v, rfl, hu, ⟨tv, rfl⟩⟩ := arg2 hv rfl
    split
    · rename_i x k y hj
      split
      · rename_i hnm hk2
        split
        · rename_i hm
          rw [Bool.and_eq_true] at hnm
          have hx := seq_true hnm.1
          have hy := seq_true hnm.2
          subst hx hy
          obtain ⟨aw, ew, rfl, kvs, hd0, ra⟩ := R.ref hj hu
          obtain ⟨n1, v1, n2, v2, rfl, ⟨e1, r1⟩, ⟨e2, r2⟩⟩ := two_of ra
          focus
            simp only at e1 e2
            subst e1 e2
            obtain ⟨ak, ek, rfl⟩ := r1
            obtain ⟨i, ti, hi, rfl⟩ := r2
            obtain ⟨ak', ek', vl, ns, la, hn, hz, _⟩ := R.obj _ _ hk2
            rw [ek] at ek'; cases ek'
            have ne : aw ≠ ak := fun q => by
              subst q
              have := R.nd _ _ _ _ _ hj hk2 ew ek
              subst this
              rw [hj] at hk2; cases hk2
            have ho : ∀ b o, h₀.get? b = some o → (hideAll s.heap [aw, ak]).get? b = some o := fun b o e => by
              refine hideAll_get _ (R.keep _ _ e) fun q => ?_
              simp only [List.mem_cons, List.mem_nil_iff, or_false] at q
              rcases q with q | q
              · subst q; rw [R.new _ _ _ hj ew] at e; cases e
              · subst q; rw [R.new _ _ _ hk2 ek] at e; cases e
            have SY : SymOk (sym1 i (vl.length : Int)) (T1 (decide (i + 1 ≤ (vl.length : Int)))) := sym1_ok hi
            have G := gf (prog := prog) (w := w) (t1_of _) (fun b o e => ho _ _ (hk b o e)) (lim.keeps ho) (hb.keeps ho) hbi SY (fun q e => by cases e)
            have GE' := ge (t1_of (decide (i + 1 ≤ (vl.length : Int)))) P (fun b o e => ho _ _ (hk b o e))
            have TO : TapOk prog w (sym1 i (vl.length : Int)) (hideAll s.heap [aw, ak]) os₀ (T1 (decide (i + 1 ≤ (vl.length : Int)))) := fun h => by cases h
            have H := run_snd TO G GE' 12
            have R1 : SR prog w (sym1 i (vl.length : Int)) (hideAll s.heap [aw, ak]) os₀ [aw, ak] tapS s := by
              refine ⟨rfl, ?_, ?_, ?_, fun b o e => of_hideAll _ e, R.gens, R.os⟩
              · intro p q o o' b h1 h2 h3 h4
                rcases tset_only h1 with ⟨rfl, _⟩ | ⟨rfl, _⟩ <;> rcases tset_only h2 with ⟨rfl, _⟩ | ⟨rfl, _⟩
                · rfl
                · cases h3; cases h4; exact (ne rfl).elim
                · cases h3; cases h4; exact (ne rfl).elim
                · rfl
              · intro p o b h1 h3
                rcases tset_only h1 with ⟨rfl, _⟩ | ⟨rfl, _⟩ <;> cases h3
                · exact hideAll_none _ (.head _)
                · exact hideAll_none _ (.tail _ (.head _))
              · intro p o h1
                rcases tset_only h1 with ⟨rfl, rfl⟩ | ⟨rfl, rfl⟩
                · exact ⟨aw, rfl, _, hd0, ⟨rfl, ak, rfl, rfl⟩, ⟨rfl, ti, rfl⟩, trivial⟩
                · exact ⟨ak, rfl, vl, ns, la, hn, hz, fun L e => by cases e; rfl⟩
            have C1 : CC [aw, ak] [100000] dp hd A := ⟨let ⟨l, e, _⟩ := C.fr; ⟨l, e, .inl (.head _)⟩, C.depth, C.units, C.hd, C.dl⟩
            have run := callF_sp lv H G (a := tapA) (fi := tapF) (as := [.ow 0, .ii (Int.ofNat m)]) (vs := [.ref aw, .int (Int.ofNat m) tv]) tap_fn hdp C1 R1 ⟨⟨aw, rfl, rfl⟩, ⟨tv, rfl⟩, trivial⟩
            intro Q E Z
            refine run Q E fun o hoo => ?_
            have good := tap_all hm (decide (i + 1 ≤ (vl.length : Int))) dp hd o hoo
            unfold tapGood at good
            split at good
            · rename_i r σ'
              simp only [Bool.and_eq_true] at good
              obtain ⟨g1, g2, g3⟩ := good
              intro ρ' s' z L R' hz'
              split at g2
              · rename_i x' y' hq
                split at g3
                · rename_i l hq1
                  rw [Bool.and_eq_true] at g2
                  have hx' := seq_true g2.1
                  have hy' := seq_true g2.2
                  subst hx' hy'
                  refine Z (.ok (.ii (Int.ofNat r)) σ) (List.mem_map.mpr ⟨r, List.mem_range.mpr (Nat.le_of_ble_eq_true g1), rfl⟩) ρ s' z (Le.refl _) ?_ hz'
                  obtain ⟨b0, eb0, kv', hd', ra'⟩ := R'.obj _ _ hq
                  rw [L.get (show [aw, ak][0]? = some aw from rfl)] at eb0
                  cases eb0
                  obtain ⟨b1, eb1, vl', ns', la', hn', hz1, _⟩ := R'.obj _ _ hq1
                  rw [L.get (show [aw, ak][1]? = some ak from rfl)] at eb1
                  cases eb1
                  refine ⟨R.len, R.nd, R.new, fun q o e => ?_, fun b o e => R'.keep _ _ (ho _ _ e), R'.gens, R'.os⟩
                  obtain ⟨aq, eq, hrq⟩ := R.obj q o e
                  refine ⟨aq, eq, ?_⟩
                  by_cases q1 : aq = aw
                  · subst q1
                    have := R.nd _ _ _ _ _ e hj eq ew
                    subst this
                    rw [hj] at e; cases e
                    refine ⟨kv', hd', ?_⟩
                    obtain ⟨n1, w1, n2, w2, rfl, ⟨e1, r1⟩, ⟨e2, r2⟩⟩ := two_of ra'
                    focus
                      obtain ⟨z1, z2, z3⟩ := r1
                      rw [L.get (show [aq, ak][1]? = some ak from rfl)] at z2
                      cases z2
                      obtain ⟨t2, z4⟩ := r2
                      exact ⟨⟨e1, ak, ek, z3⟩, ⟨e2, i + 1, t2, by omega, z4⟩, trivial⟩
                  · by_cases q2 : aq = ak
                    · subst q2
                      have := R.nd _ _ _ _ _ e hk2 eq ek
                      subst this
                      rw [hk2] at e; cases e
                      exact ⟨vl', ns', la', hn', hz1, fun L e => by cases e⟩
                    · refine hrq.keeps prog w ι fun ob e' => R'.keep _ _ (hideAll_get _ e' fun q => ?_)
                      simp only [List.mem_cons, List.mem_nil_iff, or_false] at q
                      rcases q with q | q
                      · exact q1 q
                      · exact q2 q
                · cases g3
              · cases g2
            · cases good
        · exact Sc.no
      · exact Sc.no
    · exact Sc.no
  · exact Sc.no
end Mine
end
noncomputable section
open PySem PySem.W PyProof.Rows PySem.Calls
set_option maxRecDepth 100000
namespace Mine
section
variable {prog : Program} {w : World} {h₀ : Heap} {os₀ : OsState} {T : Tab} {K : Frag} {I : IH} {c : Cx} {σ τ : St} {ρ : List Addr} {s : Shared} {env : Env} {A : Around} {ι : Nat → Int}
noncomputable def At (prog : Program) (w : World) (h₀ : Heap) (os₀ : OsState) (τ : St) (its : List (Nat × Addr)) (s : Shared) : Prop :=
  ∃ ι ρ, SR prog w ι h₀ os₀ ρ τ s ∧ ∀ p ∈ its, ρ[p.1]? = some p.2
theorem at_join {its : List (Nat × Addr)} {l : List (Nat × Nat)} {g : Nat → Option AV} {t : St} (R : SR prog w ι h₀ os₀ ρ σ s) (hi : ∀ p ∈ its, ρ[p.1]? = some p.2) (h : joinOk l g t σ = true) (hl : ∀ p ∈ its, exF l p.1 = p.1 ∧ p.1 < t.n) : At prog w h₀ os₀ t its s :=
  ⟨_, _, join_sr R h, fun p hp => ρJ_get (hl p hp).2 (by rw [(hl p hp).1]; exact hi p hp)⟩
theorem goes_out {l : St → List (Nat × Nat)} {g : St → Nat → Option AV} {t : St} : ∀ {outs : List (Out AFl)}, goes l g t outs = true → ∀ o ∈ outs, ∃ fl σ, o = .ok fl σ ∧ isNx fl = true ∧ joinOk (l σ) (g σ) t σ = true
  | .ok fl σ :: r, h, o, ho => by
    unfold goes at h
    rw [Bool.and_eq_true, Bool.and_eq_true] at h
    cases ho with
    | head => exact ⟨fl, σ, rfl, h.1, h.2.1⟩
    | tail _ ho => exact goes_out h.2.2 o ho
  | .ex k σ :: r, h, o, ho => by cases h
  | .no :: r, h, o, ho => by cases h
  | [], h, o, ho => by cases ho
theorem mem_obind {α β : Type} {f : α → St → List (Out β)} {o : Out β} : ∀ {X : List (Out α)}, o ∈ obind X f → (∃ a σ, .ok a σ ∈ X ∧ o ∈ f a σ) ∨ (∃ k σ, .ex k σ ∈ X ∧ o = .ex k σ) ∨ (.no ∈ X ∧ o = .no)
  | .ok a σ :: r, h => by
    rw [obind_okk] at h
    rcases List.mem_append.mp h with q | q
    · exact .inl ⟨a, σ, .head _, q⟩
    · rcases mem_obind q with ⟨b, τ, h1, h2⟩ | ⟨k, τ, h1, h2⟩ | ⟨h1, h2⟩
      · exact .inl ⟨b, τ, .tail _ h1, h2⟩
      · exact .inr (.inl ⟨k, τ, .tail _ h1, h2⟩)
      · exact .inr (.inr ⟨.tail _ h1, h2⟩)
  | .ex k σ :: r, h => by
    have h : o ∈ .ex k σ :: obind r f := h
    cases h with
    | head => exact .inr (.inl ⟨k, σ, .head _, rfl⟩)
    | tail _ q =>
      rcases mem_obind q with ⟨b, τ, h1, h2⟩ | ⟨k, τ, h1, h2⟩ | ⟨h1, h2⟩
      · exact .inl ⟨b, τ, .tail _ h1, h2⟩
      · exact .inr (.inl ⟨k, τ, .tail _ h1, h2⟩)
      · exact .inr (.inr ⟨.tail _ h1, h2⟩)
  | .no :: r, h => by
    have h : o ∈ [.no] := h
    simp only [List.mem_singleton] at h
    exact .inr (.inr ⟨.head _, h⟩)
  | [], h => by cases h
theorem obind_P {α β : Type} {f : α → St → List (Out β)} {P : Out β → Prop} {X : List (Out α)} (h1 : ∀ a σ, .ok a σ ∈ X → ∀ o ∈ f a σ, P o) (h2 : ∀ k σ, .ex k σ ∈ X → P (.ex k σ)) (h3 : .no ∉ X) : ∀ o ∈ obind X f, P o := fun o ho => by
  rcases mem_obind ho with ⟨a, σ, q1, q2⟩ | ⟨k, σ, q1, rfl⟩ | ⟨q1, _⟩
  · exact h1 a σ q1 o q2
  · exact h2 k σ q1
  · exact (h3 q1).elim
theorem obind_in {α β : Type} {f : α → St → List (Out β)} {X : List (Out α)} (h : .no ∉ obind X f) : (∀ a σ, .ok a σ ∈ X → ∀ o ∈ f a σ, o ∈ obind X f) ∧ (∀ k σ, .ex k σ ∈ X → .ex k σ ∈ obind X f) ∧ .no ∉ X := by
  rcases obind_ok (P := fun o => o ∈ obind X f) (l := X) (f := f) (fun o ho => ho) with q | q
  · exact (h q).elim
  · exact q
theorem exL_app {P : Out AFl → Prop} (hno : ¬ P .no) {l2 : List Stmt} : ∀ {l1 : List Stmt} {σ : St}, (∀ o ∈ obind (exL T I c l1 σ) (exLs T I c l2), P o) → ∀ o ∈ exL T I c (l1 ++ l2) σ, P o
  | [], σ, h, o, ho => h o ho
  | st :: l1, σ, h, o, ho => by
    unfold exL at h
    rcases obind_ok h with q | ⟨A, B, C⟩
    · exact (hno q).elim
    · obtain ⟨i1, i2, i3⟩ := obind_in C
      have ho : o ∈ obind (exS T I c st σ) (exLs T I c (l1 ++ l2)) := by
        refine (congrArg (fun g => o ∈ obind (exS T I c st σ) g) (funext fun fl => funext fun σ => ?_)).mp ho
        cases fl <;> rfl
      refine obind_P (P := P) (fun a σ' m => ?_) (fun k σ' m => B k σ' (i2 k σ' m)) i3 o ho
      cases a with
      | nx =>
        refine exL_app hno (l1 := l1) (obind_P (fun b τ mb => A b τ (i1 _ σ' m _ mb)) (fun k τ mk => B k τ (i1 _ σ' m _ mk)) fun mn => C (i1 _ σ' m _ mn))
      | rt v => exact fun o' ho' => A _ σ' (i1 _ σ' m _ (.head _)) o' ho'
      | bk => exact fun o' ho' => A _ σ' (i1 _ σ' m _ (.head _)) o' ho'
      | ct => exact fun o' ho' => A _ σ' (i1 _ σ' m _ (.head _)) o' ho'
theorem seg_sp (hS : ∀ (st : Stmt) {σ : St} {ρ : List Addr} {s : Shared}, CE ρ c env A → SR prog w ι h₀ os₀ ρ σ s → Sp prog w ι h₀ os₀ A (exec st env) (FR ι) (exS T I c st σ) ρ s) {r : List Stmt} {Q : Flow → Shared → Prop} {E : Value → Shared → Prop} :
    ∀ (l : List Stmt) {σ : St} {ρ : List Addr} {s : Shared}, CE ρ c env A → SR prog w ι h₀ os₀ ρ σ s →
      (∀ o ∈ exL T I c l σ, Post prog w ι h₀ os₀ (FR ι) ρ (fun f s' => f = .next ∧ wpAny (model prog w) A (execs r env) Q E s') (fun _ _ => False) o) → wpAny (model prog w) A (execs (l ++ r) env) Q E s
  | [], σ, ρ, s, C, R, Z => (Z _ (.head _) ρ s .next (Le.refl ρ) R rfl).2
  | st :: l, σ, ρ, s, C, R, Z => by
    unfold exL at Z
    refine wpAny_execs_cons (wpAny_mono ((hS st C R).seqQ (Q' := fun f s' => f = .next ∧ wpAny (model prog w) A (execs (l ++ r) env) Q E s') Z fun fl σ' _ ρ' s' f L R' hf Z' => ?_) (fun f s' h => ?_) fun _ _ x => x.elim)
    · cases fl with
      | nx => cases hf; exact ⟨rfl, seg_sp hS l (C.le L) R' Z'⟩
      | rt v => obtain ⟨u, rfl, hu⟩ := hf; exact absurd (Z' _ (.head _) ρ' s' _ (Le.refl _) R' ⟨u, rfl, hu⟩).1 (by simp)
      | bk => cases hf; exact absurd (Z' _ (.head _) ρ' s' _ (Le.refl _) R' rfl).1 (by simp)
      | ct => cases hf; exact absurd (Z' _ (.head _) ρ' s' _ (Le.refl _) R' rfl).1 (by simp)
    · obtain ⟨rfl, h⟩ := h
      exact h
theorem for_open (H : Snd prog w ι h₀ os₀ I) (G : GF prog w ι h₀ T K) (C : CE ρ c env A) (R : SR prog w ι h₀ os₀ ρ σ s) {t e : Expr} {b : List Stmt} {r : Str} {rp cp pos : Pos} (hr : isB T c r "range" = true) (hs : star e = false) (hd : c.hd = false) {n : Nat} (hev : I.ev c e σ = [.ok (.ii (.ofNat n)) σ]) (hn : n < 1000)
    {Q : Flow → Shared → Prop} {E : Value → Shared → Prop} (k : ∀ ρ' s' ita, Le ρ ρ' → SR prog w ι h₀ os₀ ρ' (spush σ (.rit 0 (Int.ofNat n))) s' → ρ'[σ.n]? = some ita →
      codeAny (model prog w) A (.forLoop t (.ref ita) b [] env) (fun r s' => match r with | .ok f => Q f s' | .error e => cameBackBy (model prog w) A env E e s') s') :
    wpAny (model prog w) A (exec (.For t (.Call (.Name r rp) [e] [] cp) b [] pos) env) Q E s := by
  refine wpAny_For ?_ (fun x => rfl)
  rw [arm_eval_Call_Name']
  refine wpAny_bind (isB_load G C R hr (by simp) (v := .type "range") (by kernel_rfl) (by decide +kernel) (callWith_any (k := .machine) ?_))
  have h1 : backTo cp (starEach [e] env) = [(false, eval e env)] := by
    cases e <;> first | rfl | cases hs
  rw [h1]
  have sp := H.ev (e := e) C R
  rw [hev] at sp
  refine evalArgs_plain (spliced_cons (sp _ _ fun o ho => ?_))
  simp only [List.mem_singleton] at ho
  subst ho
  intro ρ' s' x L R' hx
  refine spliced_nil ⟨Looks.of_pure (by rfl), ?_⟩
  obtain ⟨t', rfl⟩ := hx
  have hsz : Builtin.Range.rangeSize 0 (Int.ofNat n) 1 = Int.ofNat n := by
    rw [rangeSize_nat]
    have : (Int.ofNat n - 0) = (n : Int) := by simp
    rw [this]; rfl
  have hfit : ∀ m : Nat, m ≤ 1000 → Builtin.Range.rangeFitsLong (m : Int) = true := fun m hm => by
    unfold Builtin.Range.rangeFitsLong
    rw [Bool.and_eq_true]
    exact ⟨decide_eq_true (by omega), decide_eq_true (by omega)⟩
  refine call_range_1 ?_
  refine wpAny_pyIter_range (a := 0) (b := .ofNat n) (c := 1) (Heap.get?_push_size _ rfl) ?_ ?_
  · unfold Builtin.Range.small
    rw [hsz]
    have h0 := hfit 0 (by omega)
    have h1 := hfit 1 (by omega)
    have h2 := hfit n (by omega)
    simp only [Bool.and_eq_true, Bool.or_eq_true]
    refine ⟨⟨⟨⟨h0, h2⟩, h1⟩, h2⟩, .inr ?_⟩
    rw [if_pos (by decide)]
    have : (Int.ofNat n + (1 - 1)) = (n : Int) := by simp
    rw [this]; exact h2
  rw [hsz]
  have R1 := R'.ext (t := s'.toks + 1 + 1) (h' := s'.heap.push { cls := .type "range", data := .fields #[.int 0 s'.toks, .int (.ofNat n) t', .int 1 (s'.toks + 1)] }) fun b o e => Heap.get?_push_of_some _ e
  have R2 := R1.new1 (t := s'.toks + 1 + 1) (o := .rit 0 (Int.ofNat n)) (fun b o e => Heap.get?_push_of_some { cls := .type "range_iterator", data := .fields #[rawInt 0, rawInt (Int.ofNat n), rawInt 1] } e) (Heap.get?_none_of_le (Nat.le_refl _)) (Heap.get?_push_size _ rfl)
  exact k _ _ _ (L.trans ⟨_, rfl⟩) R2 (at_n R1 _)
theorem loop_inv (HH : ∀ ι, Snd prog w ι h₀ os₀ I) (hd : c.hd = false) (CC : ∀ ρ, ρ[c.fr]? = some L → CE ρ c env A) {t : Expr} {b : List Stmt} {it : Nat} {ita : Addr} (hs : Nat → St) (av : Nat → Int) (n₀ : Nat)
    (hg : ∀ n, n ≤ n₀ → sget (hs n) it = some (.rit (av n) (Int.ofNat n)))
    (l : Nat → St → List (Nat × Nat)) (g : Nat → St → Nat → Option AV) (hfr : c.fr = 0)
    (ht : ∀ n, n < n₀ → ∀ o ∈ obind (storeT c t (.ii (av (n + 1))) (sset (hs (n + 1)) it (.rit (av (n + 1) + 1) (Int.ofNat n)))) (fun _ σ => I.ex c b σ), ∃ fl σ, o = .ok fl σ ∧ isNx fl = true ∧ joinOk (l n σ) (g n σ) (hs n) σ = true)
    (hl : ∀ n, n < n₀ → ∀ σ, exF (l n σ) 0 = 0 ∧ exF (l n σ) it = it) (hn : ∀ n, n ≤ n₀ → 0 < (hs n).n ∧ it < (hs n).n)
    {Q : Flow → Shared → Prop} {E : Value → Shared → Prop} (h : At prog w h₀ os₀ (hs n₀) [(0, L), (it, ita)] s) (hQ : ∀ s', At prog w h₀ os₀ (sdel (hs 0) it) [(0, L)] s' → Q .next s') :
    codeAny (model prog w) A (.forLoop t (.ref ita) b [] env) (fun r s' => match r with | .ok f => Q f s' | .error e => cameBackBy (model prog w) A env E e s') s := by
  refine codeAny_forLoop_any (fun n s' => n ≤ n₀ ∧ At prog w h₀ os₀ (hs n) [(0, L), (it, ita)] s') (fun n s' hI => ?_) n₀ ⟨Nat.le_refl _, h⟩
  obtain ⟨hn0, ι, ρ, R, hi⟩ := hI
  have e0 := hi _ (.head _)
  have e1 := hi _ (.tail _ (.head _))
  have C := CC ρ (by rw [hfr]; exact e0)
  obtain ⟨x, ex, hit⟩ := R.obj _ _ (hg n hn0)
  rw [e1] at ex
  cases ex
  cases n with
  | zero =>
    exact wpAny_pyNext_range_end (C.hd hd) hit (by simp) fun h' hx => wpAny_execs_nil (hQ _ ⟨ι, ρ, R.del (t := s'.toks) (hg 0 hn0) e1 hx, fun p hp => by
      simp only [List.mem_singleton] at hp
      subst hp; exact e0⟩)
  | succ n =>
    refine wpAny_pyNext_range_item hit (Int.natCast_pos.mpr (Nat.succ_pos _)) fun h' hit' hx => ?_
    refine wpAny_of_eq (owned_int t _ _ _) ?_
    have hm' : Int.ofNat (n + 1) - 1 = Int.ofNat n := by exact (by simp : ((n + 1 : Nat) : Int) - 1 = (n : Int))
    rw [hm'] at hit'
    have R1 := R.upd (t := s'.toks + 1) (o' := .rit (av (n + 1) + 1) (Int.ofNat n)) (hg _ hn0) e1 (sb hx) hit'
    have G1 := ht n (by omega)
    have Z : ∀ o ∈ obind (storeT c t (.ii (av (n + 1))) (sset (hs (n + 1)) it (.rit (av (n + 1) + 1) (Int.ofNat n)))) (fun _ σ => I.ex c b σ), Post prog w ι h₀ os₀ (FR ι) ρ (fun f s₃ => (f = .next ∨ f = .cont) ∧ At prog w h₀ os₀ (hs n) [(0, L), (it, ita)] s₃) (fun _ _ => False) o := fun o ho => by
      obtain ⟨fl, σ', rfl, hfl, hj⟩ := G1 o ho
      intro ρ' s3 f L' R' hf
      refine ⟨?_, at_join R' (fun p hp => L'.get (hi p hp)) hj fun p hp => ?_⟩
      · cases fl with
        | nx => exact .inl hf
        | _ => cases hfl
      · simp only [List.mem_cons, List.mem_nil_iff, or_false] at hp
        have h2 := hl n (by omega) σ'
        have := hn n (by omega)
        rcases hp with rfl | rfl
        · exact ⟨h2.1, this.1⟩
        · exact ⟨h2.2, this.2⟩
    refine wpAny_mono ((storeT_sp C R1 t (v := .ii (av (n + 1))) (u := .int (av (n + 1)) s'.toks) ⟨_, rfl⟩).seqQ Z fun q σ'' _ ρ'' s'' u L' R'' _ Z2 => ?_) (fun _ _ x => x) fun _ _ x => x.elim
    refine wpAny_mono ((HH ι).ex (C.le L') R'' _ _ Z2) (fun f s3 h3 => ?_) fun _ _ x => x.elim
    obtain ⟨h3, h4⟩ := h3
    rcases h3 with rfl | rfl <;> exact ⟨n, Nat.lt_succ_self n, by omega, h4⟩
theorem loop_inv2 (hd : c.hd = false) (CC : ∀ ρ, ρ[c.fr]? = some L → CE ρ c env A) {t : Expr} {b : List Stmt} {it : Nat} {ita : Addr} (hs : Nat → St) (av : Nat → Int) (n₀ : Nat)
    (hg : ∀ n, n ≤ n₀ → sget (hs n) it = some (.rit (av n) (Int.ofNat n)))
    (hfr : c.fr = 0) (σT : Nat → St)
    (ht : ∀ n, n < n₀ → storeT c t (.ii (av (n + 1))) (sset (hs (n + 1)) it (.rit (av (n + 1) + 1) (Int.ofNat n))) = [.ok () (σT n)])
    (hB : ∀ n, n < n₀ → ∀ ι ρ s, SR prog w ι h₀ os₀ ρ (σT n) s → ρ[0]? = some L → ρ[it]? = some ita → wpAny (model prog w) A (execs b env) (fun f s3 => (f = .next ∨ f = .cont) ∧ At prog w h₀ os₀ (hs n) [(0, L), (it, ita)] s3) (fun _ _ => False) s)
    {Q : Flow → Shared → Prop} {E : Value → Shared → Prop} (h : At prog w h₀ os₀ (hs n₀) [(0, L), (it, ita)] s) (hQ : ∀ s', At prog w h₀ os₀ (sdel (hs 0) it) [(0, L)] s' → Q .next s') :
    codeAny (model prog w) A (.forLoop t (.ref ita) b [] env) (fun r s' => match r with | .ok f => Q f s' | .error e => cameBackBy (model prog w) A env E e s') s := by
  refine codeAny_forLoop_any (fun n s' => n ≤ n₀ ∧ At prog w h₀ os₀ (hs n) [(0, L), (it, ita)] s') (fun n s' hI => ?_) n₀ ⟨Nat.le_refl _, h⟩
  obtain ⟨hn0, ι, ρ, R, hi⟩ := hI
  have e0 := hi _ (.head _)
  have e1 := hi _ (.tail _ (.head _))
  have C := CC ρ (by rw [hfr]; exact e0)
  obtain ⟨x, ex, hit⟩ := R.obj _ _ (hg n hn0)
  rw [e1] at ex
  cases ex
  cases n with
  | zero =>
    exact wpAny_pyNext_range_end (C.hd hd) hit (by simp) fun h' hx => wpAny_execs_nil (hQ _ ⟨ι, ρ, R.del (t := s'.toks) (hg 0 hn0) e1 hx, fun p hp => by
      simp only [List.mem_singleton] at hp
      subst hp; exact e0⟩)
  | succ n =>
    refine wpAny_pyNext_range_item hit (Int.natCast_pos.mpr (Nat.succ_pos _)) fun h' hit' hx => ?_
    refine wpAny_of_eq (owned_int t _ _ _) ?_
    have hm' : Int.ofNat (n + 1) - 1 = Int.ofNat n := by exact (by simp : ((n + 1 : Nat) : Int) - 1 = (n : Int))
    rw [hm'] at hit'
    have R1 := R.upd (t := s'.toks + 1) (o' := .rit (av (n + 1) + 1) (Int.ofNat n)) (hg _ hn0) e1 (sb hx) hit'
    have st := storeT_sp C R1 t (v := .ii (av (n + 1))) (u := .int (av (n + 1)) s'.toks) ⟨_, rfl⟩
    rw [ht n (by omega)] at st
    refine wpAny_mono (st (fun _ s3 => wpAny (model prog w) A (execs b env) (fun f s4 => (f = .next ∨ f = .cont) ∧ At prog w h₀ os₀ (hs n) [(0, L), (it, ita)] s4) (fun _ _ => False) s3) (fun _ _ => False) fun o ho => ?_) (fun u s3 h3 => ?_) fun _ _ x => x.elim
    · simp only [List.mem_singleton] at ho
      subst ho
      intro ρ' s3 u L' R' _
      exact hB n (by omega) ι ρ' s3 R' (L'.get e0) (L'.get e1)
    · refine wpAny_mono h3 (fun f s4 h4 => ?_) fun _ _ x => x.elim
      obtain ⟨h4, h5⟩ := h4
      rcases h4 with rfl | rfl <;> exact ⟨n, Nat.lt_succ_self n, by omega, h5⟩
theorem hide_one {it : Nat} {ita : Addr} {o : AO} (R : SR prog w ι h₀ os₀ ρ σ s) (hi : sget σ it = some o) (ei : ρ[it]? = some ita) :
    ∃ h₁, (∀ b ob, h₀.get? b = some ob → h₁.get? b = some ob) ∧ h₁.get? ita = s.heap.get? ita ∧ SR prog w ι h₁ os₀ ρ (sdel σ it) s := by
  have old : ∀ {j : Nat} {o1 : AO}, sget (sdel σ it) j = some o1 → j ≠ it ∧ sget σ j = some o1 := fun e => by
    rcases tg_ts e with ⟨_, q⟩ | ⟨q1, q2⟩
    · cases q
    · exact ⟨q1, q2⟩
  let as : List Addr := (List.range σ.n).filterMap fun k => match Nat.beq k it, sget σ k with | false, some _ => ρ[k]? | _, _ => none
  have mem : ∀ {a : Addr}, a ∈ as → ∃ k o, k ≠ it ∧ sget σ k = some o ∧ ρ[k]? = some a := by
    intro a ha
    obtain ⟨k, _, hk⟩ := List.mem_filterMap.mp ha
    split at hk
    · rename_i q1 q2
      exact ⟨k, _, (fun q => by rw [q, Nat.beq_refl] at q1; cases q1), q2, hk⟩
    · cases hk
  have kn : ∀ {k : Nat} {o : AO} {a : Addr}, k ≠ it → sget σ k = some o → ρ[k]? = some a → a ∈ as := by
    intro k o a h1 h2 h3
    refine List.mem_filterMap.mpr ⟨k, List.mem_range.mpr ?_, ?_⟩
    · have := (List.getElem?_eq_some_iff.mp h3).1
      rw [R.len] at this
      exact this
    · have : Nat.beq k it = false := by
        cases q : Nat.beq k it with
        | false => rfl
        | true => exact (h1 (Nat.eq_of_beq_eq_true q)).elim
      rw [this, h2]; exact h3
  have ni : ita ∉ as := fun m => by
    obtain ⟨k, o', h1, h2, h3⟩ := mem m
    exact h1 (R.nd _ _ _ _ _ h2 hi h3 ei)
  have up : ∀ b ob, h₀.get? b = some ob → (hideAll s.heap as).get? b = some ob := fun b ob e => hideAll_get _ (R.keep _ _ e) fun m => by
    obtain ⟨k, o', h1, h2, h3⟩ := mem m
    rw [R.new _ _ _ h2 h3] at e
    cases e
  refine ⟨hideAll s.heap as, up, ?_, R.len, fun i j o1 o2 b e1 e2 h1 h2 => R.nd i j o1 o2 b (old e1).2 (old e2).2 h1 h2, fun i o1 b e1 h1 => hideAll_none _ (kn (old e1).1 (old e1).2 h1), fun j o1 e => ?_, fun b ob e => of_hideAll _ e, R.gens, R.os⟩
  · obtain ⟨b, h1, h2⟩ := R.obj it o hi
    rw [ei] at h1
    cases h1
    obtain ⟨ob, h3⟩ := h2.ex prog w ι
    rw [h3]
    exact hideAll_get _ h3 ni
  · exact R.obj j o1 (old e).2
theorem unhide_one {h₁ : Heap} {it : Nat} {ita : Addr} {o : AO} {ob : Obj} (up : ∀ b ob, h₀.get? b = some ob → h₁.get? b = some ob) (eo : h₁.get? ita = some ob) (n0 : h₀.get? ita = none) (R : SR prog w ι h₁ os₀ ρ σ s) (ei : ρ[it]? = some ita) (hr : HR prog w ι ρ s.heap ita o) :
    SR prog w ι h₀ os₀ ρ (sset σ it o) s := by
  have ne : ∀ {k : Nat} {o' : AO} {a : Addr}, sget σ k = some o' → ρ[k]? = some a → a ≠ ita := fun h1 h2 q => by
    subst q
    rw [R.new _ _ _ h1 h2] at eo
    cases eo
  refine ⟨R.len, fun i j o1 o2 b e1 e2 h1 h2 => ?_, fun i o1 b e1 h1 => ?_, fun j o1 e => ?_, fun b ob e => R.keep _ _ (up _ _ e), R.gens, R.os⟩
  · rcases tg_ts e1 with ⟨q1, _⟩ | ⟨_, q1⟩ <;> rcases tg_ts e2 with ⟨q2, _⟩ | ⟨_, q2⟩
    · rw [q1, q2]
    · subst q1
      rw [ei] at h1; cases h1
      exact (ne q2 h2 rfl).elim
    · subst q2
      rw [ei] at h2; cases h2
      exact (ne q1 h1 rfl).elim
    · exact R.nd i j o1 o2 b q1 q2 h1 h2
  · rcases tg_ts e1 with ⟨q1, _⟩ | ⟨_, q1⟩
    · subst q1
      rw [ei] at h1; cases h1
      exact n0
    · have := R.new _ _ _ q1 h1
      cases q : h₀.get? b with
      | none => rfl
      | some x => rw [up _ _ q] at this; cases this
  · rcases tg_ts e with ⟨q1, q2⟩ | ⟨_, q2⟩
    · subst q1
      cases q2
      exact ⟨ita, ei, hr⟩
    · exact R.obj j o1 q2
end
noncomputable def sbM (b : Int × Int) (k : Nat) : Option (Int × Int) := match Nat.beq k 3 with | true => some b | false => none
noncomputable def smM (p : Int) (k : Nat) (y : Int) : Option Int := match Nat.beq k 4, decide (y = 2) with | true, true => some p | _, _ => none
noncomputable def TB (w c : Nat) (p : Int) : Tab := TS (sbM (bndM w c)) (smM p)
theorem sym_b {ι : Nat → Int} {w c : Nat} {p : Int} (h1 : (bndM w c).1 ≤ ι 3) (h2 : ι 3 ≤ (bndM w c).2) (h3 : Int.fmod (ι 4) 2 = p) : SymOk ι (TB w c p) where
  add := fun k n j h => by cases h
  le := fun a b r h => by cases h
  ix := fun k L h => by cases h
  bnd := fun k lo hi h => by
    have h : sbM (bndM w c) k = some (lo, hi) := h
    unfold sbM at h
    split at h
    · rename_i q
      have q := Nat.eq_of_beq_eq_true q
      subst q
      have e := Option.some.inj h
      rw [e] at h1 h2
      exact ⟨h1, h2⟩
    · cases h
  mod := fun k y r h => by
    have h : smM p k y = some r := h
    unfold smM at h
    split at h
    · rename_i q1 q2
      have q1 := Nat.eq_of_beq_eq_true q1
      have q2 := of_decide_eq_true q2
      subst q1 q2
      rw [h3]
      exact Option.some.inj h
    · cases h
end Mine
end
noncomputable section
open PySem PySem.W PyProof.Rows PySem.Calls
set_option maxRecDepth 100000
namespace Mine
noncomputable def stI : St := spush ⟨0, .nil⟩ (.nsp [(Str.ofString "script", .cv (.ref 1050))])
noncomputable def stA : St := ⟨3, ts (ts (ts .nil 0 (some (.nsp [(z0, .ow 1)]))) 1 (some (.dic [(z5, .ow 2), (z6, .an)]))) 2 (some (.itl none))⟩
noncomputable def segA : List Stmt := [nthS lawB 0]
noncomputable def segB : List Stmt := [nthS lawB 1, nthS lawB 2, nthS lawB 3, nthS lawB 4]
noncomputable def segC : List Stmt := [nthS lawB 6]
noncomputable def segD : List Stmt := [nthS lawB 8]
noncomputable def g3 : Nat → Option AV := fun k => match k with
  | 0 => some (.ii 3)
  | 1 => some (.ii 3)
  | 2 => some (.ii 3)
  | _ => none
noncomputable def gS1 : Nat → Option AV := fun k => some (.sy k)
noncomputable def hdJ : St := ⟨166, ts (hd2 0).t 166 none⟩
noncomputable def anyJ (ts : List St) : List (Out AFl) → Bool
  | [] => true
  | .ok fl σ :: r => isNx fl && (ts.any (fun t => joinOk [] noG t σ) && anyJ ts r)
  | _ :: _ => false
noncomputable def isRt : List (Out AFl) → Bool
  | [.ok (.rt (.bb true)) _] => true
  | _ => false
theorem c_A : goes (fun _ => []) (fun _ => noG) stA (exL T0 (run T0 80) cx0 segA stI) = true := by kernel_rfl
theorem c_B : anyJ [stB 0, stB 1, stB 2] (exL T0 (run T0 80) cx0 segB stA) = true := by kernel_rfl
theorem c_C0 : goes (fun _ => []) (fun _ => g3) hdJ (exL T0 (run T0 80) cx0 segC (sdel (hd1 0 3) 161)) = true := by kernel_rfl
theorem c_C1 : goes (fun _ => []) (fun _ => g3) hdJ (exL T0 (run T0 80) cx0 segC (sdel (hd1 1 3) 161)) = true := by kernel_rfl
theorem c_C2 : goes (fun _ => []) (fun _ => g3) hdJ (exL T0 (run T0 80) cx0 segC (sdel (hd1 2 3) 161)) = true := by kernel_rfl
theorem c_D : isRt (exL T0 (run T0 80) cx0 segD (sdel (hd2 6) 166)) = true := by kernel_rfl
theorem c_J0 : joinOk [] noG (hd1 0 0) (spush (stB 0) (.rit 0 3)) = true := by kernel_rfl
theorem c_J1 : joinOk [] noG (hd1 1 0) (spush (stB 1) (.rit 0 3)) = true := by kernel_rfl
theorem c_J2 : joinOk [] noG (hd1 2 0) (spush (stB 2) (.rit 0 3)) = true := by kernel_rfl
theorem c_JL : joinOk [] gS1 (hd2 0) (spush hdJ (.rit 0 6)) = true := by kernel_rfl
theorem body_eq : lawB = segA ++ (segB ++ (nthS lawB 5 :: (segC ++ (nthS lawB 7 :: segD)))) := by kernel_rfl
end Mine
end
noncomputable section
open PySem PySem.W PyProof.Rows PySem.Calls
set_option maxRecDepth 100000
namespace Mine
theorem k1_00 : chk1 T0 0 0 = true := by kernel_rfl
theorem k1_01 : chk1 T0 0 1 = true := by kernel_rfl
theorem k1_02 : chk1 T0 0 2 = true := by kernel_rfl
theorem k1_10 : chk1 T0 1 0 = true := by kernel_rfl
theorem k1_11 : chk1 T0 1 1 = true := by kernel_rfl
theorem k1_12 : chk1 T0 1 2 = true := by kernel_rfl
theorem k1_20 : chk1 T0 2 0 = true := by kernel_rfl
theorem k1_21 : chk1 T0 2 1 = true := by kernel_rfl
theorem k1_22 : chk1 T0 2 2 = true := by kernel_rfl
end Mine
end
noncomputable section
open PySem PySem.W PyProof.Rows PySem.Calls
set_option maxRecDepth 100000
namespace Mine
theorem kT_0 : isT 0 (store2 0) = true := by kernel_rfl
theorem kT_1 : isT 1 (store2 1) = true := by kernel_rfl
theorem kT_2 : isT 2 (store2 2) = true := by kernel_rfl
theorem kT_3 : isT 3 (store2 3) = true := by kernel_rfl
theorem kT_4 : isT 4 (store2 4) = true := by kernel_rfl
theorem kT_5 : isT 5 (store2 5) = true := by kernel_rfl
theorem kF_0 : (((first2 T0).drop 0).take 12).all isM = true := by kernel_rfl
theorem kF_1 : (((first2 T0).drop 12).take 12).all isM = true := by kernel_rfl
theorem kF_2 : (((first2 T0).drop 24).take 12).all isM = true := by kernel_rfl
theorem kF_n : Nat.ble (first2 T0).length 36 = true := by kernel_rfl
end Mine
end
noncomputable section
open PySem PySem.W PyProof.Rows PySem.Calls
set_option maxRecDepth 100000
namespace Mine
theorem kR_000 : chkR (TB 0 0 0) 0 = true := by kernel_rfl
theorem kR_001 : chkR (TB 0 0 1) 0 = true := by kernel_rfl
theorem kR_010 : chkR (TB 0 1 0) 0 = true := by kernel_rfl
theorem kR_011 : chkR (TB 0 1 1) 0 = true := by kernel_rfl
theorem kR_020 : chkR (TB 0 2 0) 0 = true := by kernel_rfl
theorem kR_021 : chkR (TB 0 2 1) 0 = true := by kernel_rfl
theorem kR_100 : chkR (TB 1 0 0) 1 = true := by kernel_rfl
theorem kR_101 : chkR (TB 1 0 1) 1 = true := by kernel_rfl
theorem kR_110 : chkR (TB 1 1 0) 1 = true := by kernel_rfl
theorem kR_111 : chkR (TB 1 1 1) 1 = true := by kernel_rfl
theorem kR_200 : chkR (TB 2 0 0) 2 = true := by kernel_rfl
theorem kR_201 : chkR (TB 2 0 1) 2 = true := by kernel_rfl
theorem kR_210 : chkR (TB 2 1 0) 2 = true := by kernel_rfl
theorem kR_211 : chkR (TB 2 1 1) 2 = true := by kernel_rfl
theorem kR_220 : chkR (TB 2 2 0) 2 = true := by kernel_rfl
theorem kR_221 : chkR (TB 2 2 1) 2 = true := by kernel_rfl
end Mine
end
noncomputable section
open PySem PySem.W PyProof.Rows PySem.Calls
set_option maxRecDepth 100000
namespace Mine
theorem ints_of : ∀ {xs : List WData}, WShape.hasItems [] xs WShape.int = true → ∀ x ∈ xs, ∃ i, x = .int i
  | [], _, x, h => by cases h
  | y :: r, h, x, m => by
    unfold WShape.hasItems at h
    rw [Bool.and_eq_true] at h
    cases m with
    | head => cases y with
      | int i => exact ⟨i, rfl⟩
      | _ => have h1 := h.1; simp [WShape.has, WShape.arms] at h1
    | tail _ m => exact ints_of h.2 x m
theorem lay_ints {R : WRecords} {cl : Str → Option Addr} {P : Params} {ord : List DictEntry → List DictEntry} : ∀ {xs : List WData} {s s' : Shared} {vs : List Value}, (∀ x ∈ xs, ∃ i, x = .int i) → layAllW R cl P ord xs s = some (vs, s') →
    s'.heap = s.heap ∧ vs.length = xs.length ∧ ∃ ns, IntsAre vs ns
  | [], s, s', vs, _, h => by
    simp only [layAllW, Option.some.injEq, Prod.mk.injEq] at h
    obtain ⟨rfl, rfl⟩ := h
    exact ⟨rfl, rfl, [], .nil⟩
  | x :: xs, s, s', vs, hx, h => by
    obtain ⟨i, rfl⟩ := hx x (.head _)
    simp only [layAllW, layW] at h
    split at h
    · rename_i r hr
      cases h
      obtain ⟨h1, h2, ns, h3⟩ := lay_ints (fun x m => hx x (.tail _ m)) (show layAllW R cl P ord xs { s with toks := s.toks + 1 } = some (r.1, r.2) from hr)
      exact ⟨h1, by simp [h2], i :: ns, .cons _ _ h3⟩
    · cases h
theorem lay_list {R : WRecords} {cl : Str → Option Addr} {P : Params} {ord : List DictEntry → List DictEntry} {xs : List WData} {s s' : Shared} {vs : List Value} (hx : ∀ x ∈ xs, ∃ i, x = .int i) (h : layAllW R cl P ord [.list xs] s = some (vs, s')) :
    vs = [.ref s.heap.objs.size] ∧ ∃ ws ns, s'.heap = s.heap.push { cls := .type "list", data := .seq ws.toArray } ∧ ws.length = xs.length ∧ IntsAre ws ns := by
  simp only [layAllW, layW] at h
  split at h
  · rename_i a ha
    split at ha
    · rename_i r hr
      cases ha
      cases h
      obtain ⟨h1, h2, ns, h3⟩ := lay_ints hx (show layAllW R cl P ord xs s = some (r.1, r.2) from hr)
      exact ⟨by rw [h1], r.1, ns, by rw [h1], h2, h3⟩
    · cases ha
  · cases h
theorem pre_len {args : List WData} (h : law0.row.toRowW.claim.pre args = true) : ∃ xs : List WData, args = [.list xs] ∧ xs.length ≤ 63 ∧ ∀ x ∈ xs, ∃ i, x = .int i := by
  obtain ⟨h1, h2⟩ := pre_splitW h
  have h1 : WShape.hasAll [] args [.list .int] = true := h1
  obtain ⟨d, r, rfl, hd, hr⟩ := hasAllW_cons h1
  have := hasAllW_nil hr
  subst this
  cases d with
  | list xs =>
    refine ⟨xs, rfl, ?_, ?_⟩
    · have h2 : WTm.holds [] law0.pre { args := [.list xs] } = true := h2
      by_cases hz : xs.length ≤ 63
      · exact hz
      · exfalso
        have e : law0.pre = .and (.not (.lt (.lit (.int 63)) (.len (.arg 0)))) (.lit (.bool true)) := by rfl
        rw [e] at h2
        unfold WTm.holds at h2
        have : (63 : Int) < (xs.length : Int) := by omega
        simp [WTm.value] at h2
        have e2 : less? (WData.int 63) (WData.int (xs.length : Int)) = some (decide ((63 : Int) < (xs.length : Int))) := by first | rfl | simp [less?]
        rw [e2, decide_eq_true this] at h2
        simp at h2
    · have hd : WShape.has [] (.list xs) (.list .int) = true := hd
      simp [WShape.has, WShape.arms] at hd
      exact ints_of hd
  | _ => exfalso; revert hd; simp [WShape.has, WShape.arms]
end Mine
end
noncomputable section
open PySem PySem.W PyProof.Rows PySem.Calls
set_option maxRecDepth 100000
namespace Mine
section
variable {prog : Program} {w : World} {ι : Nat → Int} {h₀ : Heap} {os₀ : OsState} {σ : St} {ρ : List Addr} {s : Shared} {A : Around}
theorem enter_fn {a : Addr} {fi : FnI} {as : List AV} {vs : List Value} {bs : List (Str × AV)} {fs : List Nat} {dp : Nat} {hd : Bool} (FF : FnF h₀ a fi) (lim : h₀.NoLimit) (hdp : dp ≤ 40) (hd1 : A.depth + 1 ≤ 305 + 5 * dp) (hu1 : A.units + 3 ≤ 20 + 20 * dp) (C : CC ρ fs dp hd A) (R : SR prog w ι h₀ os₀ ρ σ s) (hv : All2 (VR ι ρ) as vs) (hb : bindP (fPs fi.st) as fi.ds = some bs)
    {Q : Value → Shared → Prop} {E : Value → Shared → Prop}
    (body : ∀ env A', (∀ ρ', ρ'[σ.n]? = some s.heap.objs.size → Le ρ ρ' ∨ fs = [] → CE ρ' ⟨gS fi.st, σ.n, fs, dp, hd⟩ env A') → ∀ s', SR prog w ι h₀ os₀ (ρ ++ [s.heap.objs.size]) (spush σ (.nsp bs)) s' →
      wpAny (model prog w) A' (execs (gB fi.st) env) (fun f s'' => match f with | .ret v => Q v s'' | .next => Q .none s'' | _ => False) (fun _ _ => False) s') :
    wpAny (model prog w) A (call (.ref a) vs) Q E s := by
  obtain ⟨oc, od, osl, name, qual, params, dV, kV, doc, pm, cdv, ct, an, ho, hcr, hbind⟩ := FF.obj
  obtain ⟨binds, hB, hA⟩ := hbind ι ρ s as vs bs R.keep hb hv
  have hnm := bindP_names hb
  have names : ∀ {bs : List (Str × AV)} {binds : List (Str × Value)}, All2 (fun p q => p.1 = q.1 ∧ VR ι ρ p.2 q.2) bs binds → ∀ x ∈ binds, x.1 ∈ bs.map (·.1) := by
    intro r
    induction r with
    | nil => intro m h y hy; cases m with
      | nil => cases hy
      | cons => exact h.elim
    | cons p r ih => intro m h y hy; cases m with
      | nil => exact h.elim
      | cons q m =>
        cases hy with
        | head => rw [← h.1.1]; exact .head _
        | tail _ hy => exact .tail _ (ih h.2 y hy)
  have hdep := C.depth
  have hun := C.units
  obtain ⟨l, hfr, hfl⟩ := C.fr
  refine wpAny_call (codeAny_call_def (fd := fnOf name qual params (gB fi.st) (gS fi.st) dV kV doc pm an cdv ct) (body := gB fi.st) (binds := binds) (by show A.depth < 1000; omega) (R.keep _ _ ho) rfl (lim.keeps R.keep) ?_ rfl hB FF.cell (fun x hx => ?_) (fun h₁ hns hk => ?_) FF.co FF.gen FF.kind)
  · obtain ⟨c', oc', vs', tq, e1, e2, e3, e4⟩ := hcr
    exact ⟨c', oc', vs', tq, e1, R.keep _ _ e2, e3, e4⟩
  · have := names hA x hx
    rw [hnm] at this
    obtain ⟨p, hp, hpe⟩ := List.mem_map.mp this
    rw [← hpe]
    exact FF.loc p hp
  · have R1 := R.new1 (t := s.toks + binds.length) (o := .nsp bs) hk (Heap.get?_none_of_le (Nat.le_refl _)) ⟨_, hns, fun x v e => by
      obtain ⟨u, hu, hr⟩ := look_rev hA (by rw [hnm]; exact FF.nodup) x v e
      exact ⟨u, hu, hr.le ι ⟨_, rfl⟩⟩⟩
    have CI : ∀ ρ', ρ'[σ.n]? = some s.heap.objs.size → Le ρ ρ' ∨ fs = [] → CE ρ' ⟨gS fi.st, σ.n, fs, dp, hd⟩ (envOf qual (gS fi.st) s.heap.objs.size a cdv) (A.deeper (envOf qual (gS fi.st) s.heap.objs.size a cdv)) := by
      intro ρ' h1 h2
      refine ⟨⟨qual, _, a, cdv, rfl, h1⟩, FF.kind, ⟨l, by rw [Around.frames_deeper hfr], ?_⟩, ?_, ?_, C.hd, ?_⟩
      · rcases h2 with h2 | h2
        · exact hfl.le h2
        · subst h2
          rcases hfl with q | q
          · cases q
          · cases l with
            | nil => exact .inr trivial
            | cons => exact q.elim
      · exact hd1
      · exact hu1
      · dsimp only; omega
    refine wpAny_mono (body _ _ CI _ R1) (fun f s'' h => ?_) fun _ _ x => x.elim
    cases f with
    | ret v => exact h
    | next => exact h
    | _ => exact h.elim
end
end Mine
end
noncomputable section
open PySem PySem.W PyProof.Rows PySem.Calls
set_option maxRecDepth 100000
namespace Mine
noncomputable def fN (st : Stmt) : Str := match st with
  | .For _ (.Call (.Name r _) _ _ _) _ _ _ => r
  | _ => default
noncomputable def fNp (st : Stmt) : Pos := match st with
  | .For _ (.Call (.Name _ p) _ _ _) _ _ _ => p
  | _ => default
noncomputable def fE (st : Stmt) : Expr := match st with
  | .For _ (.Call _ [e] _ _) _ _ _ => e
  | _ => .Tuple [] 0 default
noncomputable def fCp (st : Stmt) : Pos := match st with
  | .For _ (.Call _ _ _ p) _ _ _ => p
  | _ => default
noncomputable def fPo (st : Stmt) : Pos := match st with
  | .For _ _ _ _ p => p
  | _ => default
theorem for5 : nthS lawB 5 = .For (forT (nthS lawB 5)) (.Call (.Name (fN (nthS lawB 5)) (fNp (nthS lawB 5))) [fE (nthS lawB 5)] [] (fCp (nthS lawB 5))) (forB (nthS lawB 5)) [] (fPo (nthS lawB 5)) := by kernel_rfl
theorem for7 : nthS lawB 7 = .For (forT (nthS lawB 7)) (.Call (.Name (fN (nthS lawB 7)) (fNp (nthS lawB 7))) [fE (nthS lawB 7)] [] (fCp (nthS lawB 7))) (forB (nthS lawB 7)) [] (fPo (nthS lawB 7)) := by kernel_rfl
theorem r5 : (isB T0 cx0 (fN (nthS lawB 5)) "range" && !star (fE (nthS lawB 5))) = true := by kernel_rfl
theorem r7 : (isB T0 cx0 (fN (nthS lawB 7)) "range" && !star (fE (nthS lawB 7))) = true := by kernel_rfl
theorem e5 (σ : St) : (run T0 80).ev cx0 (fE (nthS lawB 5)) σ = [.ok (.ii (.ofNat 3)) σ] := by kernel_rfl
theorem e7 (σ : St) : (run T0 80).ev cx0 (fE (nthS lawB 7)) σ = [.ok (.ii (.ofNat 6)) σ] := by kernel_rfl
noncomputable def hs1 (f n : Nat) : St := hd1 f (3 - n)
noncomputable def hs2 (n : Nat) : St := hd2 (6 - n)
theorem g1 : ∀ f, f < 3 → ∀ n, n ≤ 3 → sget (hs1 f n) 161 = some (.rit (Int.ofNat (3 - n)) (Int.ofNat n)) := by
  intro f hf n hn
  match f, hf, n, hn with
  | 0, _, 0, _ => kernel_rfl
  | 0, _, 1, _ => kernel_rfl
  | 0, _, 2, _ => kernel_rfl
  | 0, _, 3, _ => kernel_rfl
  | 1, _, 0, _ => kernel_rfl
  | 1, _, 1, _ => kernel_rfl
  | 1, _, 2, _ => kernel_rfl
  | 1, _, 3, _ => kernel_rfl
  | 2, _, 0, _ => kernel_rfl
  | 2, _, 1, _ => kernel_rfl
  | 2, _, 2, _ => kernel_rfl
  | 2, _, 3, _ => kernel_rfl
theorem g2 : ∀ n, n ≤ 6 → sget (hs2 n) 166 = some (.rit (Int.ofNat (6 - n)) (Int.ofNat n)) := by
  intro n hn
  match n, hn with
  | 0, _ => kernel_rfl
  | 1, _ => kernel_rfl
  | 2, _ => kernel_rfl
  | 3, _ => kernel_rfl
  | 4, _ => kernel_rfl
  | 5, _ => kernel_rfl
  | 6, _ => kernel_rfl
theorem t1 : ∀ f, f < 3 → ∀ n, n < 3 → ∀ o ∈ obind (storeT cx0 (forT (nthS lawB 5)) (.ii (Int.ofNat (3 - (n + 1)))) (sset (hs1 f (n + 1)) 161 (.rit (Int.ofNat (3 - (n + 1)) + 1) (Int.ofNat n)))) (fun _ σ => (run T0 80).ex cx0 (forB (nthS lawB 5)) σ), ∃ fl σ, o = .ok fl σ ∧ isNx fl = true ∧ joinOk (ex1 f (2 - n) σ) (noG) (hs1 f n) σ = true := by
  intro f hf n hn
  refine goes_out (l := ex1 f (2 - n)) (g := fun _ => noG) ?_
  match f, hf, n, hn with
  | 0, _, 0, _ => exact k1_02
  | 0, _, 1, _ => exact k1_01
  | 0, _, 2, _ => exact k1_00
  | 1, _, 0, _ => exact k1_12
  | 1, _, 1, _ => exact k1_11
  | 1, _, 2, _ => exact k1_10
  | 2, _, 0, _ => exact k1_22
  | 2, _, 1, _ => exact k1_21
  | 2, _, 2, _ => exact k1_20
theorem split7 : forB (nthS lawB 7) = two7 ++ rest7 := by kernel_rfl
theorem nx_next {ι : Nat → Int} {ρ : List Addr} {fl : AFl} {f : Flow} (h : isNx fl = true) (hf : FR ι ρ fl f) : f = .next := by
  cases fl with
  | nx => exact hf
  | _ => cases h
structure Good (P : Params) (h : Heap) : Prop where
  hk : ∀ b o, (H1 P).get? b = some o → h.get? b = some o
  lim : h.NoLimit
  hb : ∃ mb, h.Ns builtinsNs mb ∧ ∀ x : Str, x ≠ "__name__" → mb x = bootBuiltins x
  scr : ∀ q, T0.scr q = true → ∃ vs ns, h.IsList q (List.toArray vs) ∧ IntsAre vs ns ∧ vs.length ≤ 1000000
theorem sym0 (ι : Nat → Int) : SymOk ι T0 := ⟨fun k n j h => (by cases h), fun a b r h => (by cases h), fun k L h => (by cases h), fun k lo hi h => (by cases h), fun k y r h => (by cases h)⟩
section
variable {prog : Program} {w : World} {P : Params} {h₀ h₁ : Heap} {os₀ : OsState} {ι : Nat → Int} {σ τ : St} {ρ : List Addr} {s : Shared} {A : Around} {env : Env} {L : Addr}
theorem Good.up (G : Good P h₀) (k : ∀ b o, h₀.get? b = some o → h₁.get? b = some o) : Good P h₁ :=
  ⟨fun b o e => k _ _ (G.hk b o e), G.lim.keeps k, let ⟨mb, h1, h2⟩ := G.hb; ⟨mb, h1.keeps k, h2⟩, fun q e => let ⟨vs, ns, ⟨o, h1, r⟩, h2, h3⟩ := G.scr q e; ⟨vs, ns, ⟨o, k _ _ h1, r⟩, h2, h3⟩⟩
theorem Good.gf {sb : Nat → Option (Int × Int)} {sm : Nat → Int → Option Int} (G : Good P h₀) (S : SymOk ι (TS sb sm)) : GF prog w ι h₀ (TS sb sm) (KF P) :=
  let ⟨_, h1, h2⟩ := G.hb; Mine.gf (ts_of _ _) G.hk G.lim h1 h2 S G.scr
theorem Good.ge {sb : Nat → Option (Int × Int)} {sm : Nat → Int → Option Int} (G : Good P h₀) : GE (KF P) h₀ (TS sb sm) := Mine.ge (ts_of _ _) P G.hk
theorem Good.snd {sb : Nat → Option (Int × Int)} {sm : Nat → Int → Option Int} (G : Good P h₀) (S : SymOk ι (TS sb sm)) (n : Nat) : Snd prog w ι h₀ os₀ (run (TS sb sm) n) :=
  let ⟨_, h1, h2⟩ := G.hb
  have TO : TapOk prog w ι h₀ os₀ (TS sb sm) := fun {fs dp hd a as vs σ ρ s A} h => tap_ok (prog := prog) (w := w) (ι := ι) (os₀ := os₀) G.hk G.lim h1 h2 (show isTap T0 a = true from h)
  run_snd TO (G.gf S) G.ge n
theorem thirds {α : Type} {l : List α} {p : α → Bool} (hl : l.length ≤ 36) (h0 : ((l.drop 0).take 12).all p = true) (h1 : ((l.drop 12).take 12).all p = true) (h2 : ((l.drop 24).take 12).all p = true) : ∀ o ∈ l, p o = true := by
  intro o ho
  have e : l = (l.drop 0).take 12 ++ ((l.drop 12).take 12 ++ (l.drop 24).take 12) := by
    have e2 : (l.drop 24).take 12 = l.drop 24 := List.take_of_length_le (by simp; omega)
    have e1 : (l.drop 12).take 12 ++ l.drop 24 = l.drop 12 := by
      have := List.take_append_drop 12 (l.drop 12)
      rw [List.drop_drop] at this
      exact this
    rw [e2, e1, List.drop_zero, List.take_append_drop]
  rw [e] at ho
  rcases List.mem_append.mp ho with m | m
  · exact all_ h0 m
  · rcases List.mem_append.mp m with m | m
    · exact all_ h1 m
    · exact all_ h2 m
theorem fF : ∀ o ∈ first2 T0, isM o = true := thirds (Nat.le_of_ble_eq_true kF_n) kF_0 kF_1 kF_2
theorem isM_out {o : Out AFl} (h : isM o = true) : ∃ fl σ w v, o = .ok fl σ ∧ isNx fl = true ∧ w < 3 ∧ (clsM w v < 2 ∨ w ≠ 1) ∧ (bndM w (clsM w v)).1 ≤ v ∧ v ≤ (bndM w (clsM w v)).2 ∧ joinOk [] (gM v) (stM w) σ = true := by
  unfold isM at h
  split at h
  · rename_i fl σ
    rw [Bool.and_eq_true] at h
    obtain ⟨h1, h2⟩ := h
    split at h2
    · rename_i w v e1 e2
      simp only [Bool.and_eq_true, Bool.or_eq_true] at h2
      obtain ⟨h3, h4, h5, h6, h7⟩ := h2
      refine ⟨fl, σ, w, v, rfl, h1, Nat.le_of_ble_eq_true h3, h4.imp (fun q => Nat.le_of_ble_eq_true q) (fun q z => ?_), of_decide_eq_true h5, of_decide_eq_true h6, h7⟩
      rw [z, Nat.beq_refl] at q
      cases q
    · cases h2
  · cases h
theorem clsM_le (w : Nat) (v : Int) : clsM w v ≤ 2 := by
  unfold clsM
  split
  · decide
  · split <;> decide
theorem kR_all {w c : Nat} (hw : w < 3) (hc : c ≤ 2) (h : c < 2 ∨ w ≠ 1) {p : Int} (hp : p = 0 ∨ p = 1) : chkR (TB w c p) w = true := by
  match w, hw, c, hc with
  | 0, _, 0, _ => rcases hp with rfl | rfl; exact kR_000; exact kR_001
  | 0, _, 1, _ => rcases hp with rfl | rfl; exact kR_010; exact kR_011
  | 0, _, 2, _ => rcases hp with rfl | rfl; exact kR_020; exact kR_021
  | 1, _, 0, _ => rcases hp with rfl | rfl; exact kR_100; exact kR_101
  | 1, _, 1, _ => rcases hp with rfl | rfl; exact kR_110; exact kR_111
  | 1, _, 2, _ => rcases h with h | h; exact absurd h (by decide); exact (h rfl).elim
  | 2, _, 0, _ => rcases hp with rfl | rfl; exact kR_200; exact kR_201
  | 2, _, 1, _ => rcases hp with rfl | rfl; exact kR_210; exact kR_211
  | 2, _, 2, _ => rcases hp with rfl | rfl; exact kR_220; exact kR_221
noncomputable def aftS (t : Nat) : St := match store2 t with
  | [.ok _ σ] => σ
  | _ => hdE
theorem isT_out {t : Nat} (h : isT t (store2 t) = true) : store2 t = [.ok () (aftS t)] ∧ joinOk [] (gT t) stT (sdel (aftS t) 166) = true := by
  unfold aftS
  unfold isT at h
  split at h
  · rename_i u σ e
    rw [e]
    exact ⟨rfl, h⟩
  · cases h
theorem kT_all : ∀ t, t < 6 → isT t (store2 t) = true := by
  intro t ht
  match t, ht with
  | 0, _ => exact kT_0
  | 1, _ => exact kT_1
  | 2, _ => exact kT_2
  | 3, _ => exact kT_3
  | 4, _ => exact kT_4
  | 5, _ => exact kT_5
noncomputable def isRit (t : Nat) : Option AO → Bool
  | some (.rit i n) => decide (i = Int.ofNat t + 1) && decide (n = Int.ofNat (5 - t))
  | _ => false
theorem rT_all : ∀ t, t < 6 → isRit t (sget (aftS t) 166) = true := by
  intro t ht
  match t, ht with
  | 0, _ => kernel_rfl
  | 1, _ => kernel_rfl
  | 2, _ => kernel_rfl
  | 3, _ => kernel_rfl
  | 4, _ => kernel_rfl
  | 5, _ => kernel_rfl
theorem rT_get {t : Nat} (ht : t < 6) : sget (aftS t) 166 = some (.rit (Int.ofNat t + 1) (Int.ofNat (5 - t))) := by
  have h := rT_all t ht
  unfold isRit at h
  split at h
  · rename_i i n e
    rw [Bool.and_eq_true] at h
    rw [e, of_decide_eq_true h.1, of_decide_eq_true h.2]
  · cases h
theorem parity : ∀ t : Nat, t < 6 → Int.fmod (Int.ofNat t) 2 = 0 ∨ Int.fmod (Int.ofNat t) 2 = 1 := by decide
theorem turn2 (G : Good P h₀) (CX : ∀ ρ, ρ[0]? = some L → CE ρ cx0 env A) {t : Nat} (ht : t < 6) {ita : Addr} (R : SR prog w ι h₀ os₀ ρ (aftS t) s) (e0 : ρ[0]? = some L) (e1 : ρ[166]? = some ita) :
    wpAny (model prog w) A (execs (forB (nthS lawB 7)) env) (fun f s3 => (f = .next ∨ f = .cont) ∧ At prog w h₀ os₀ (hd2 (t + 1)) [(0, L), (166, ita)] s3) (fun _ _ => False) s := by
  obtain ⟨x, ex, hx⟩ := R.obj _ _ (rT_get ht)
  rw [e1] at ex; cases ex
  have n0 := R.new _ _ _ (rT_get ht) e1
  obtain ⟨h₁, up, hob, R1⟩ := hide_one R (rT_get ht) e1
  rw [show s.heap.get? ita = _ from hx] at hob
  have G1 := G.up up
  have J1 := join_sr R1 (isT_out (kT_all t ht)).2
  have a0 := ρJ_get (l := []) (m := 167) (k := 0) (by decide) e0
  have a1 := ρJ_get (l := []) (m := 167) (k := 166) (by decide) e1
  rw [split7]
  refine seg_sp (T := T0) (I := run T0 79) (c := cx0) (fun st {σ ρ s} C R => exS_sp (G1.snd (sym0 _) 79) (G1.gf (sym0 _)) G1.ge C R st) two7 (CX _ a0) J1 fun o ho => ?_
  obtain ⟨fl, σ2, wh, v, rfl, hfl, hw, hc, hlo, hhi, hj⟩ := isM_out (fF o ho)
  intro ρ2 s2 f L2 R2 hf
  refine ⟨nx_next hfl hf, ?_⟩
  have J2 := join_sr R2 hj
  have b0 := ρJ_get (l := []) (m := 167) (k := 0) (by decide) (L2.get a0)
  have b1 := ρJ_get (l := []) (m := 167) (k := 166) (by decide) (L2.get a1)
  have hp := parity t ht
  have S : SymOk (ιJ (ιJ ι (gT t)) (gM v)) (TB wh (clsM wh v) (Int.fmod (Int.ofNat t) 2)) := sym_b hlo hhi rfl
  have chk := kR_all hw (clsM_le wh v) hc hp
  refine wpAny_mono (exL_sp (fun st {σ ρ s} C R => exS_sp (G1.snd S 79) (G1.gf S) G1.ge C R st) rest7 (CX _ b0) J2 (fun f s3 => (f = .next ∨ f = .cont) ∧ At prog w h₀ os₀ (hd2 (t + 1)) [(0, L), (166, ita)] s3) (fun _ _ => False) fun o ho => ?_) (fun _ _ h => h) fun _ _ h => h
  obtain ⟨fl3, σ3, rfl, hfl3, hj3⟩ := goes_out chk o ho
  intro ρ3 s3 f3 L3 R3 hf3
  refine ⟨.inl (nx_next hfl3 hf3), ?_⟩
  have J3 := join_sr R3 hj3
  have c0 := ρJ_get (l := [ent σ3]) (m := 167) (k := 0) (by decide) (show ρ3[exF [ent σ3] 0]? = some L from L3.get b0)
  have c1 := ρJ_get (l := [ent σ3]) (m := 167) (k := 166) (by decide) (show ρ3[exF [ent σ3] 166]? = some ita from L3.get b1)
  have hr : HR prog w (ιJ (ιJ (ιJ ι (gT t)) (gM v)) (dueOf σ3)) (ρJ [ent σ3] ρ3 167) s3.heap ita (.rit (Int.ofNat (t + 1)) (Int.ofNat (6 - (t + 1)))) := by
    have := J3.keep _ _ hob
    rw [show Int.ofNat (t + 1) = Int.ofNat t + 1 from rfl, show 6 - (t + 1) = 5 - t by omega]
    exact this
  refine ⟨_, _, unhide_one up hob n0 J3 c1 hr, fun p hp => ?_⟩
  simp only [List.mem_cons, List.mem_nil_iff, or_false] at hp
  rcases hp with rfl | rfl
  · exact c0
  · exact c1
theorem st2 : ∀ n, n < 6 → storeT cx0 (forT (nthS lawB 7)) (.ii (Int.ofNat (6 - (n + 1)))) (sset (hs2 (n + 1)) 166 (.rit (Int.ofNat (6 - (n + 1)) + 1) (Int.ofNat n))) = [.ok () (aftS (5 - n))] := by
  intro n hn
  have h := (isT_out (kT_all (5 - n) (by omega))).1
  unfold store2 at h
  have e : 5 - (5 - n) = n := by omega
  rw [e] at h
  have e2 : 6 - (n + 1) = 5 - n := by omega
  show storeT cx0 _ (.ii (Int.ofNat (6 - (n + 1)))) (sset (hd2 (6 - (n + 1))) 166 _) = _
  rw [e2]
  exact h
theorem body2 (G : Good P h₀) (CX : ∀ ρ, ρ[0]? = some L → CE ρ cx0 env A) {ita : Addr} : ∀ n, n < 6 → ∀ ι ρ s, SR prog w ι h₀ os₀ ρ (aftS (5 - n)) s → ρ[0]? = some L → ρ[166]? = some ita → wpAny (model prog w) A (execs (forB (nthS lawB 7)) env) (fun f s3 => (f = .next ∨ f = .cont) ∧ At prog w h₀ os₀ (hs2 n) [(0, L), (166, ita)] s3) (fun _ _ => False) s := by
  intro n hn ι ρ s R e0 e1
  have := turn2 G CX (t := 5 - n) (by omega) R e0 e1
  rw [show 5 - n + 1 = 6 - n by omega] at this
  exact this
end
end Mine
end
noncomputable section
open PySem PySem.W PyProof.Rows PySem.Calls
set_option maxRecDepth 100000
namespace Mine
section
variable {prog : Program} {w : World} {h₀ : Heap} {os₀ : OsState} {s : Shared} {A : Around} {env : Env} {L : Addr} {P : Params}
theorem anyJ_out {ts : List St} : ∀ {outs : List (Out AFl)}, anyJ ts outs = true → ∀ o ∈ outs, ∃ fl σ, o = .ok fl σ ∧ isNx fl = true ∧ ∃ t ∈ ts, joinOk [] noG t σ = true
  | .ok fl σ :: r, h, o, ho => by
    unfold anyJ at h
    rw [Bool.and_eq_true, Bool.and_eq_true] at h
    cases ho with
    | head => exact ⟨fl, σ, rfl, h.1, List.any_eq_true.mp h.2.1⟩
    | tail _ ho => exact anyJ_out h.2.2 o ho
  | .ex k σ :: r, h, o, ho => by cases h
  | .no :: r, h, o, ho => by cases h
  | [], h, o, ho => by cases ho
theorem one_it {t : St} (h : 0 < t.n) : ∀ p ∈ ([(0, L)] : List (Nat × Addr)), exF [] p.1 = p.1 ∧ p.1 < t.n := by
  intro p hp
  simp only [List.mem_singleton] at hp
  subst hp
  exact ⟨rfl, h⟩
theorem two_it {t : St} {it : Nat} {ita : Addr} (h : 0 < t.n) (h2 : it < t.n) : ∀ p ∈ ([(0, L), (it, ita)] : List (Nat × Addr)), exF [] p.1 = p.1 ∧ p.1 < t.n := by
  intro p hp
  simp only [List.mem_cons, List.mem_nil_iff, or_false] at hp
  rcases hp with rfl | rfl
  · exact ⟨rfl, h⟩
  · exact ⟨rfl, h2⟩
theorem c_C : ∀ f, f < 3 → goes (fun _ => []) (fun _ => g3) hdJ (exL T0 (run T0 80) cx0 segC (sdel (hd1 f 3) 161)) = true
  | 0, _ => c_C0
  | 1, _ => c_C1
  | 2, _ => c_C2
theorem c_J : ∀ f, f < 3 → joinOk [] noG (hd1 f 0) (spush (stB f) (.rit 0 3)) = true
  | 0, _ => c_J0
  | 1, _ => c_J1
  | 2, _ => c_J2
theorem mod3_lt : ∀ k, mod3 k < 3
  | 0 | 1 | 2 | 3 | 4 => by decide
  | _ + 5 => by show 2 < 3; decide
theorem ex_id : ∀ f, f < 3 → ∀ n, n < 3 → ∀ σ, exF (ex1 f (2 - n) σ) 0 = 0 ∧ exF (ex1 f (2 - n) σ) 161 = 161 := by
  intro f _ n _ σ
  have h := mod3_lt (f + (2 - n))
  unfold ex1 ent
  generalize mod3 (f + (2 - n)) = k at h ⊢
  match k, h with
  | 0, _ => exact ⟨rfl, rfl⟩
  | 1, _ => exact ⟨rfl, rfl⟩
  | 2, _ => exact ⟨rfl, rfl⟩
theorem body_sp (GO : Good P h₀) (CX : ∀ ρ, ρ[0]? = some L → CE ρ cx0 env A) {ι : Nat → Int} {ρ : List Addr} (R : SR prog w ι h₀ os₀ ρ stI s) (h0 : ρ[0]? = some L)
    {Q : Flow → Shared → Prop} {E : Value → Shared → Prop} (hQ : ∀ ι ρ τ s', SR prog w ι h₀ os₀ ρ τ s' → Q (.ret (.bool true)) s') : wpAny (model prog w) A (execs lawB env) Q E s := by
  have HH : ∀ ι, Snd prog w ι h₀ os₀ (run T0 80) := fun ι => GO.snd (sym0 ι) 80
  have GG : ∀ ι, GF prog w ι h₀ T0 (KF P) := fun ι => GO.gf (sym0 ι)
  have GE' : GE (KF P) h₀ T0 := GO.ge
  have hS : ∀ ι (st : Stmt) {σ : St} {ρ : List Addr} {s : Shared}, CE ρ cx0 env A → SR prog w ι h₀ os₀ ρ σ s → Sp prog w ι h₀ os₀ A (exec st env) (FR ι) (exS T0 (run T0 80) cx0 st σ) ρ s := fun ι st {σ ρ s} C R => exS_sp (HH ι) (GG ι) GE' C R st
  have it1 : ∀ {ρ ρ' : List Addr}, Le ρ ρ' → ρ[0]? = some L → ∀ p ∈ ([(0, L)] : List (Nat × Addr)), ρ'[p.1]? = some p.2 := by
    intro ρ ρ' l h p hp
    simp only [List.mem_singleton] at hp
    subst hp
    exact l.get h
  have it2 : ∀ {ρ ρ' : List Addr} {it : Nat} {ita : Addr}, Le ρ ρ' → ρ[0]? = some L → ρ'[it]? = some ita → ∀ p ∈ ([(0, L), (it, ita)] : List (Nat × Addr)), ρ'[p.1]? = some p.2 := by
    intro ρ ρ' it ita l h h2 p hp
    simp only [List.mem_cons, List.mem_nil_iff, or_false] at hp
    rcases hp with rfl | rfl
    · exact l.get h
    · exact h2
  have segDs : ∀ s', At prog w h₀ os₀ (sdel (hd2 6) 166) [(0, L)] s' → wpAny (model prog w) A (execs segD env) Q E s' := by
    rintro s' ⟨ι, ρ, R, hi⟩
    have e0 := hi _ (.head _)
    have sp := exL_sp (fun st {σ ρ s} C R => hS ι st C R) segD (CX ρ e0) R
    have hd := c_D
    unfold isRt at hd
    split at hd
    · rename_i σ' e
      rw [e] at sp
      refine sp Q E fun o ho => ?_
      simp only [List.mem_singleton] at ho
      subst ho
      intro ρ' s2 f L' R' hf
      obtain ⟨u, rfl, hu⟩ := hf
      cases hu
      exact hQ _ _ _ _ R'
    · cases hd
  have loop2 : ∀ s', At prog w h₀ os₀ hdJ [(0, L)] s' → wpAny (model prog w) A (execs (nthS lawB 7 :: segD) env) Q E s' := by
    rintro s' ⟨ι, ρ, R, hi⟩
    have e0 := hi _ (.head _)
    refine wpAny_execs_cons ?_
    rw [for7]
    have hr := r7
    rw [Bool.and_eq_true] at hr
    refine for_open (HH ι) (GG ι) (CX ρ e0) R hr.1 (by simpa using hr.2) rfl (e7 hdJ) (by decide) fun ρ' s2 ita l R2 hit => ?_
    refine loop_inv2 (os₀ := os₀) (L := L) rfl (fun ρ h => CX ρ h) (hs2) (fun n => Int.ofNat (6 - n)) 6 g2 rfl (fun n => aftS (5 - n)) st2 (body2 GO CX) (s := s2) (it := 166) (ita := ita) ?_ fun s3 h3 => ?_
    · exact at_join R2 (it2 l e0 hit) c_JL (two_it (by show 0 < 167; decide) (by show 166 < 167; decide))
    · exact segDs s3 h3
  have segCs : ∀ f, f < 3 → ∀ s', At prog w h₀ os₀ (sdel (hd1 f 3) 161) [(0, L)] s' → wpAny (model prog w) A (execs (segC ++ (nthS lawB 7 :: segD)) env) Q E s' := by
    rintro f hf s' ⟨ι, ρ, R, hi⟩
    have e0 := hi _ (.head _)
    have hc := c_C f hf
    refine seg_sp (fun st {σ ρ s} C R => hS ι st C R) segC (CX ρ e0) R fun o ho => ?_
    obtain ⟨fl, σ', rfl, hfl, hj⟩ := goes_out hc o ho
    intro ρ' s2 fw l R2 hfw
    exact ⟨nx_next hfl hfw, loop2 s2 (at_join R2 (it1 l e0) hj (one_it (by show 0 < 166; decide)))⟩
  have loop1 : ∀ f, f < 3 → ∀ s', At prog w h₀ os₀ (stB f) [(0, L)] s' → wpAny (model prog w) A (execs (nthS lawB 5 :: (segC ++ (nthS lawB 7 :: segD))) env) Q E s' := by
    rintro f hf s' ⟨ι, ρ, R, hi⟩
    have e0 := hi _ (.head _)
    refine wpAny_execs_cons ?_
    rw [for5]
    have hr := r5
    rw [Bool.and_eq_true] at hr
    refine for_open (HH ι) (GG ι) (CX ρ e0) R hr.1 (by simpa using hr.2) rfl (e5 (stB f)) (by decide) fun ρ' s2 ita l R2 hit => ?_
    have hj := c_J f hf
    refine loop_inv (L := L) HH rfl (fun ρ h => CX ρ h) (hs1 f) (fun n => Int.ofNat (3 - n)) 3 (g1 f hf) (fun n => ex1 f (2 - n)) (fun _ _ => noG) rfl (t1 f hf) (ex_id f hf) (fun n _ => ⟨by show 0 < 165; decide, by show 161 < 165; decide⟩) (s := s2) (it := 161) (ita := ita) ?_ fun s3 h3 => ?_
    · exact at_join R2 (it2 l e0 hit) hj (two_it (by show 0 < 165; decide) (by show 161 < 165; decide))
    · exact segCs f hf s3 h3
  rw [body_eq]
  refine seg_sp (fun st {σ ρ s} C R => hS ι st C R) segA (CX ρ h0) R fun o ho => ?_
  obtain ⟨fl, σ', rfl, hfl, hj⟩ := goes_out c_A o ho
  intro ρ' s2 fw l R2 hfw
  refine ⟨nx_next hfl hfw, ?_⟩
  obtain ⟨ι2, ρ2, R3, hi⟩ := at_join R2 (it1 l h0) hj (one_it (by show 0 < 3; decide))
  have e0 := hi _ (.head _)
  refine seg_sp (fun st {σ ρ s} C R => hS ι2 st C R) segB (CX ρ2 e0) R3 fun o ho => ?_
  obtain ⟨fl, σ', rfl, hfl, t, ht, hj⟩ := anyJ_out c_B o ho
  intro ρ' s2 fw l R2 hfw
  refine ⟨nx_next hfl hfw, ?_⟩
  simp only [List.mem_cons, List.mem_nil_iff, or_false] at ht
  rcases ht with rfl | rfl | rfl
  · exact loop1 0 (by decide) _ (at_join R2 (it1 l e0) hj (one_it (by show 0 < 161; decide)))
  · exact loop1 1 (by decide) _ (at_join R2 (it1 l e0) hj (one_it (by show 0 < 161; decide)))
  · exact loop1 2 (by decide) _ (at_join R2 (it1 l e0) hj (one_it (by show 0 < 161; decide)))
end
end Mine
end
noncomputable section
open PySem PySem.W PyProof.Rows PySem.Calls
set_option maxRecDepth 100000
namespace Mine
theorem h1_size (P : Params) : (H1 P).objs.size = 1050 := absHeap_size _ _ _
theorem law_at : assocS glL "law" = some (.ref 1049) := by kernel_rfl
theorem law_fn : assocN fnL 1049 = some ⟨T 141, []⟩ := by kernel_rfl
theorem law_bind : bindP (fPs (T 141)) [.cv (.ref 1050)] [] = some [(Str.ofString "script", .cv (.ref 1050))] := by kernel_rfl
theorem ns_fun {h : Heap} {a : Addr} {m m' : Str → Option Value} (x : h.Ns a m) (y : h.Ns a m') (z : Str) : m z = m' z := by
  obtain ⟨o, es, ep, e1, e2, _, e4⟩ := x
  obtain ⟨o', es', ep', f1, f2, _, f4⟩ := y
  rw [e1] at f1; cases f1
  rw [e2] at f2; cases f2
  rw [← e4, ← f4]
theorem walk : WalkX qv lo (fun _ _ => True) Yf0 Ya0 law0.row.toRowW dL [] fun f vs => PySem.call f vs := by
  intro w s₀ s₁ mg mb G Y a o pm cd doc dV kV ho hod hcr hdfl hmg hgens args vals as L hpre hlay hreads hwell hlow
  have Y1 : s₀.heap = H1 w.params := congrArg (·.1) Y
  obtain ⟨xs, rfl, hlen, hints⟩ := pre_len hpre
  obtain ⟨ord, hord, hlaid⟩ := L.laid
  obtain ⟨hv, ws, ns, hheap, hwl, hia⟩ := lay_list hints hlaid
  rw [Y1, h1_size] at hv
  subst hv
  have hk : ∀ b o, (H1 w.params).get? b = some o → s₁.heap.get? b = some o := fun b o e => L.keeps b o (by rw [Y1]; exact e)
  have lim := G.T.nolimit
  have hb := G.T.b
  have hbi := G.T.builtins
  have ha : a = 1049 := by
    have := ns_fun G.T.g ((main_ns w.params).keeps hk) "law"
    rw [show mg "law" = some (.ref a) from hmg, law_at] at this
    cases this; rfl
  subst ha
  have hsz : s₀.heap.objs.size = 1050 := by rw [Y1, h1_size]
  have scr : ∀ q, T0.scr q = true → ∃ vs ns, s₁.heap.IsList q (List.toArray vs) ∧ IntsAre vs ns ∧ vs.length ≤ 1000000 := by
    intro q hq
    have hq : q = 1050 := Nat.eq_of_beq_eq_true hq
    subst hq
    refine ⟨ws, ns, ⟨{ cls := .type "list", data := .seq ws.toArray }, ?_, rfl, 0, rfl⟩, hia, by omega⟩
    rw [hheap, ← hsz]; exact Heap.get?_push_size _ rfl
  have GO : Good w.params s₁.heap := ⟨hk, lim, ⟨mb, hb, hbi⟩, scr⟩
  have R0 : SR law0.row.toRowW.prog w (fun _ => 0) s₁.heap s₁.os [] ⟨0, .nil⟩ s₁ := by
    refine ⟨rfl, fun j k o o' a e => ?_, fun k o a e => ?_, fun k o e => ?_, fun b o e => e, hgens, rfl⟩ <;> (unfold sget at e; rw [tg_nil] at e; cases e)
  have C0 : CC [] [] 0 false callerA := ⟨⟨[], rfl, .inr trivial⟩, by decide, by decide, fun _ => rfl, by decide⟩
  refine enter_fn (fn_all hk law_fn) lim (by decide) (by decide) (by decide) C0 R0 (as := [.cv (.ref 1050)]) (vs := [.ref 1050]) ⟨rfl, trivial⟩ law_bind fun env A' CI s' R1 => ?_
  refine wpAny_mono (body_sp GO (L := s₁.heap.objs.size) (fun ρ h => CI ρ h (.inr rfl)) R1 (at_n R0 _) (Q := fun f s'' => f = .ret (.bool true) ∧ ∃ ι ρ τ, SR law0.row.toRowW.prog w ι s₁.heap s₁.os ρ τ s'') (E := fun _ _ => False) fun ι ρ τ s'' R => ⟨rfl, ι, ρ, τ, R⟩) (fun f s'' h => ?_) fun _ _ x => x
  obtain ⟨rfl, ι, ρ, τ, R⟩ := h
  have hpost : law0.row.toRowW.claim.post [WData.list xs] (.bool true) [WData.list xs] = true := by first | rfl | wrow_post
  exact ⟨.inl ⟨_, _, [], rfl, fun _ => rfl, ReadsW.bool true, hpost, fun _ => ⟨List.nodup_nil, fun _ hm => (nomatch hm)⟩⟩, .of_keep R.keep, R.os, .of_eq R.gens⟩
end Mine
end
open PySem PySem.W PyProof.Rows
theorem PySem.Challenge.cw_xw0017_01_holds : PySem.Challenge.rw_xw0017_01.Holds := by
  exact Mine.holds_of Mine.walk
