import PyProof.Rows.All
import Wide.All
import OpenK.AllK
import Wide.FinOn
import KE.KStateDown
import HandS.ForMost
import HandS.More
import HandS.Exc
import HandS.Defaults
import HandS.Codes
import HandS.Property
import HandS.Head0
import HandS.Head1
import HandS.Head2
import HandS.HeadEnd
import HandS.HeadHook1
import HandS.HeadHook2
import HandS.HeadHook3
import HandS.Style
import HandS.Star
import HandS.IsInst
import HandS.Strs
import HandS.TupAny
import HandS.TupSets
import HandS.Zip
import HandS.FStr
import HandS.DictComp
import HandS.DictTup
import HandS.MakeKwOnly
import HandS.NoneIn
import HandS.WideBits
import HandS.Walk
import HandS.RaiseMore
import HandS.SlotsOwn
import KE.KCallOwn
import KE.GoesMore
import KE.GoesEnum
import KE.KSortTupG
import HandS.Conv
import HandS.Evl
import HandS.Text
import PySem.Challenge.RW_thirdback_k83_whole_scripts_and_formulas
set_option Elab.async false
section
set_option Elab.async false
set_option linter.all false
/-! The plain mathematics: partial rules, closed tables, their models. No program in sight. -/
namespace KM

/-! ### triples, turns -/
abbrev T3 := Nat × Nat × Nat
def nth (t : T3) (p : Nat) : Nat := match p with
  | 0 => t.1
  | 1 => t.2.1
  | _ => t.2.2
/-- a turn as a map of the places -/
def tf (s : T3) (q : _root_.Fin 3) : _root_.Fin 3 := ⟨nth s q.val % 3, Nat.mod_lt _ (by decide)⟩

inductive Lot where
  | plain | sides | front | back | round | all
  deriving DecidableEq
def Lot.turns : Lot → List T3
  | .plain => [(0, 1, 2)]
  | .sides => [(0, 1, 2), (1, 0, 2)]
  | .front => [(0, 1, 2), (2, 1, 0)]
  | .back => [(0, 1, 2), (0, 2, 1)]
  | .round => [(0, 1, 2), (1, 2, 0), (2, 0, 1)]
  | .all => [(0, 1, 2), (0, 2, 1), (1, 0, 2), (1, 2, 0), (2, 0, 1), (2, 1, 0)]

theorem turn_id (L : Lot) : (0, 1, 2) ∈ L.turns := by cases L <;> decide
theorem turn_lt (L : Lot) : ∀ s ∈ L.turns, ∀ q : _root_.Fin 3, nth s q.val < 3 := by cases L <;> decide
theorem turn_inv (L : Lot) : ∀ s ∈ L.turns, ∃ s' ∈ L.turns, ∀ q, tf s (tf s' q) = q ∧ tf s' (tf s q) = q := by cases L <;> decide
theorem turn_comp (L : Lot) : ∀ s ∈ L.turns, ∀ s' ∈ L.turns, ∃ s'' ∈ L.turns, ∀ q, tf s'' q = tf s (tf s' q) := by cases L <;> decide
theorem tf_id (q : _root_.Fin 3) : tf (0, 1, 2) q = q := by revert q; decide
theorem tf_inj {L : Lot} {s : T3} (hs : s ∈ L.turns) {q q' : _root_.Fin 3} (e : tf s q = tf s q') : q = q' := by
  obtain ⟨s', _, h⟩ := turn_inv L s hs
  rw [← (h q).2, ← (h q').2, e]

/-! ### partial rules -/
structure Rl (L : Lot) (calm : Bool) (α : Type) where
  T : (_root_.Fin 3 → α) → Prop
  clash : ∀ τ τ', T τ → T τ' → ∀ p, (∀ q, q ≠ p → τ q = τ' q) → τ p = τ' p
  turn : ∀ s ∈ L.turns, ∀ τ, T τ → T (fun q => τ (tf s q))
  diag : calm = true → ∀ a, T (fun _ => a)

/-! ### formulas and their values -/
inductive Sg where
  | mul | ldv | rdv
  deriving DecidableEq
inductive Fm (ν : Type) where
  | lt (n : ν)
  | op (s : Sg) (l r : Fm ν)
  deriving DecidableEq
/-- the triple of an operation -/
def triA {α : Type} (s : Sg) (a b v : α) : _root_.Fin 3 → α := match s with
  | .mul => fun q => match q with | 0 => a | 1 => b | 2 => v
  | .ldv => fun q => match q with | 0 => v | 1 => b | 2 => a
  | .rdv => fun q => match q with | 0 => a | 1 => v | 2 => b
def triN (s : Sg) (a b v : Nat) : T3 := match s with
  | .mul => (a, b, v)
  | .ldv => (v, b, a)
  | .rdv => (a, v, b)
/-- where the value stands -/
def Sg.place : Sg → _root_.Fin 3
  | .mul => 2
  | .ldv => 0
  | .rdv => 1
theorem triA_place {α : Type} (s : Sg) (a b v : α) : triA s a b v s.place = v := by cases s <;> rfl
theorem triA_ne {α : Type} (s : Sg) (a b v w : α) : ∀ q, q ≠ s.place → triA s a b v q = triA s a b w q := by
  intro q hq
  cases s <;> (match q, hq with
    | 0, hq => first | rfl | exact absurd rfl hq
    | 1, hq => first | rfl | exact absurd rfl hq
    | 2, hq => first | rfl | exact absurd rfl hq)
theorem triA_map {α β : Type} (e : α → β) (s : Sg) (a b v : α) : (fun q => e (triA s a b v q)) = triA s (e a) (e b) (e v) := by
  funext q
  cases s <;> (match q with
    | 0 => rfl
    | 1 => rfl
    | 2 => rfl)
/-- a triple of things, read by f -/
def rd {α : Type} (f : Nat → α) (o : T3) : _root_.Fin 3 → α := fun q => f (nth o q.val)
theorem rd_triN {α : Type} (f : Nat → α) (s : Sg) (a b v : Nat) : rd f (triN s a b v) = triA s (f a) (f b) (f v) := by
  funext q
  cases s <;> (match q with
    | 0 => rfl
    | 1 => rfl
    | 2 => rfl)

section
variable {L : Lot} {calm : Bool} {ν α β : Type}
inductive Val (R : Rl L calm α) (g : ν → α) : Fm ν → α → Prop
  | lt (n : ν) : Val R g (.lt n) (g n)
  | op {s : Sg} {l r : Fm ν} {a b v : α} : Val R g l a → Val R g r b → R.T (triA s a b v) → Val R g (.op s l r) v
theorem Val.fn {R : Rl L calm α} {g : ν → α} : ∀ {F : Fm ν} {a b : α}, Val R g F a → Val R g F b → a = b := by
  intro F
  induction F with
  | lt n =>
    intro a b ha hb
    cases ha
    cases hb
    rfl
  | op s l r il ir =>
    intro v w ha hb
    cases ha with
    | @op _ _ _ a b _ hl hr ht =>
      cases hb with
      | @op _ _ _ a' b' _ hl' hr' ht' =>
        have e1 := il hl hl'
        have e2 := ir hr hr'
        subst e1 e2
        have z := R.clash _ _ ht ht' s.place (triA_ne s a b v w)
        rw [triA_place, triA_place] at z
        exact z
/-- a part of a rule within another -/
structure Emb (R : Rl L calm α) (R' : Rl L calm β) (e : α → β) : Prop where
  inj : ∀ a b, e a = e b → a = b
  hom : ∀ τ, R.T τ → R'.T (fun q => e (τ q))
theorem Val.emb {R : Rl L calm α} {R' : Rl L calm β} {e : α → β} (h : Emb R R' e) {g : ν → α} {F : Fm ν} {a : α} (v : Val R g F a) : Val R' (fun n => e (g n)) F (e a) := by
  induction v with
  | lt n => exact Val.lt n
  | @op s l r a b v hl hr ht il ir =>
    have z := h.hom _ ht
    rw [triA_map] at z
    exact Val.op il ir z

/-! ### one triple more -/
/-- the new thing is none; x stands beside it -/
def sub (p : _root_.Fin 3) (x : _root_.Fin 3 → α) : _root_.Fin 3 → Option α := fun q => if q = p then none else some (x q)
theorem sub_none {p : _root_.Fin 3} {x : _root_.Fin 3 → α} {q : _root_.Fin 3} : sub p x q = none ↔ q = p := by
  unfold sub
  by_cases h : q = p
  · rw [if_pos h]
    exact ⟨fun _ => h, fun _ => rfl⟩
  · rw [if_neg h]
    exact ⟨(fun z => by cases z), fun z => absurd z h⟩
theorem sub_some {p : _root_.Fin 3} {x : _root_.Fin 3 → α} {q : _root_.Fin 3} (h : q ≠ p) : sub p x q = some (x q) := by
  unfold sub
  rw [if_neg h]
/-- three places: a place and two others -/
theorem fin3 : ∀ (p q : _root_.Fin 3), q ≠ p → ∃ r : _root_.Fin 3, r ≠ p ∧ r ≠ q ∧ ∀ z : _root_.Fin 3, z = p ∨ z = q ∨ z = r := by decide
def grow (R : Rl L calm α) (p : _root_.Fin 3) (x : _root_.Fin 3 → α) (hn : ¬ ∃ τ, R.T τ ∧ ∀ q, q ≠ p → τ q = x q) : Rl L calm (Option α) where
  T := fun σ => (∃ τ, R.T τ ∧ σ = fun q => some (τ q)) ∨ (∃ s ∈ L.turns, σ = fun q => sub p x (tf s q)) ∨ (calm = true ∧ σ = fun _ => none)
  turn := by
    intro s hs σ h
    rcases h with ⟨τ, hτ, rfl⟩ | ⟨s', hs', rfl⟩ | ⟨hc, rfl⟩
    · exact .inl ⟨_, R.turn s hs τ hτ, rfl⟩
    · obtain ⟨s'', h1, h2⟩ := turn_comp L s' hs' s hs
      refine .inr (.inl ⟨s'', h1, ?_⟩)
      funext q
      rw [h2]
    · exact .inr (.inr ⟨hc, rfl⟩)
  diag := by
    intro hc a
    cases a with
    | none => exact .inr (.inr ⟨hc, rfl⟩)
    | some a => exact .inl ⟨fun _ => a, R.diag hc a, rfl⟩
  clash := by
    -- a lifted triple never agrees with a new one in two places
    have key : ∀ (τ : _root_.Fin 3 → α) (s : T3), R.T τ → s ∈ L.turns → ∀ r, (∀ q, q ≠ r → some (τ q) = sub p x (tf s q)) → False := by
      intro τ s hτ hs r h
      obtain ⟨s', hs', hi⟩ := turn_inv L s hs
      have hr : tf s r = p := by
        apply Decidable.byContradiction
        intro hr
        have hq : tf s' p ≠ r := fun e => hr (by rw [← e]; exact (hi p).1)
        have z := h _ hq
        rw [(hi p).1, sub_none.mpr rfl] at z
        cases z
      refine hn ⟨fun q => τ (tf s' q), R.turn s' hs' τ hτ, fun q hq => ?_⟩
      have h1 : tf s' q ≠ r := fun e => hq (by rw [← hr, ← e]; exact (hi q).1.symm)
      have z := h _ h1
      rw [(hi q).1, sub_some hq] at z
      exact Option.some.inj z
    -- two new ones
    have key2 : ∀ (s s' : T3), s ∈ L.turns → s' ∈ L.turns → ∀ r, (∀ q, q ≠ r → sub p x (tf s q) = sub p x (tf s' q)) → sub p x (tf s r) = sub p x (tf s' r) := by
      intro s s' hs hs' r h
      obtain ⟨i, _, hi⟩ := turn_inv L s hs
      obtain ⟨i', _, hi'⟩ := turn_inv L s' hs'
      by_cases hr : tf s r = p
      · -- then s' puts p at r, too
        have hr' : tf s' r = p := by
          apply Decidable.byContradiction
          intro hne
          have hq : tf i' p ≠ r := fun e => hne (by rw [← e]; exact (hi' p).1)
          have z := h _ hq
          rw [(hi' p).1, sub_none.mpr rfl] at z
          have z2 : tf s (tf i' p) = p := sub_none.mp z
          exact hq (tf_inj hs (z2.trans hr.symm))
        rw [hr, hr']
      · have hq : tf i p ≠ r := fun e => hr (by rw [← e]; exact (hi p).1)
        have z := h _ hq
        rw [(hi p).1, sub_none.mpr rfl] at z
        have z2 : tf s' (tf i p) = p := sub_none.mp z.symm
        obtain ⟨t, ht1, ht2, ht3⟩ := fin3 r (tf i p) hq
        have ht := h t ht1
        have a1 : tf s t ≠ p := fun e => ht2 (tf_inj hs (e.trans (hi p).1.symm))
        have a2 : tf s' t ≠ p := fun e => ht2 (tf_inj hs' (e.trans z2.symm))
        have a3 : tf s' r ≠ p := fun e => hq (tf_inj hs' (z2.trans e.symm))
        -- the places other than p are tf s r and tf s t; also tf s' r and tf s' t
        have b1 : tf s r ≠ tf s t := fun e => ht1 (tf_inj hs e).symm
        have b2 : tf s' r ≠ tf s' t := fun e => ht1 (tf_inj hs' e).symm
        have d3 : ∀ (a b c d m : _root_.Fin 3), a ≠ m → b ≠ m → c ≠ m → d ≠ m → a ≠ b → c ≠ d → (a = c ∧ b = d) ∨ (a = d ∧ b = c) := by decide
        rcases d3 _ _ _ _ p hr a1 a3 a2 b1 b2 with ⟨c1, _⟩ | ⟨c1, c2⟩
        · rw [c1]
        · rw [c1, ← c2]
          exact ht.symm
    intro σ σ' h h' r hq
    rcases h with ⟨τ, hτ, rfl⟩ | ⟨s, hs, rfl⟩ | ⟨hc, rfl⟩
    · rcases h' with ⟨τ', hτ', rfl⟩ | ⟨s', hs', rfl⟩ | ⟨hc', rfl⟩
      · exact congrArg some (R.clash τ τ' hτ hτ' r fun q h => Option.some.inj (hq q h))
      · exact (key τ s' hτ hs' r hq).elim
      · obtain ⟨q, h1⟩ : ∃ q : _root_.Fin 3, q ≠ r := (by decide : ∀ r : _root_.Fin 3, ∃ q : _root_.Fin 3, q ≠ r) r
        have z := hq q h1
        cases z
    · rcases h' with ⟨τ', hτ', rfl⟩ | ⟨s', hs', rfl⟩ | ⟨hc', rfl⟩
      · exact (key τ' s hτ' hs r fun q h => (hq q h).symm).elim
      · exact key2 s s' hs hs' r hq
      · obtain ⟨q, q', h1, h2, h3⟩ : ∃ q q' : _root_.Fin 3, q ≠ r ∧ q' ≠ r ∧ q ≠ q' := (by decide : ∀ r : _root_.Fin 3, ∃ q q' : _root_.Fin 3, q ≠ r ∧ q' ≠ r ∧ q ≠ q') r
        have z1 := sub_none.mp (hq q h1)
        have z2 := sub_none.mp (hq q' h2)
        exact absurd (tf_inj hs (z1.trans z2.symm)) h3
    · rcases h' with ⟨τ', hτ', rfl⟩ | ⟨s', hs', rfl⟩ | ⟨hc', rfl⟩
      · obtain ⟨q, h1⟩ : ∃ q : _root_.Fin 3, q ≠ r := (by decide : ∀ r : _root_.Fin 3, ∃ q : _root_.Fin 3, q ≠ r) r
        have z := hq q h1
        cases z
      · obtain ⟨q, q', h1, h2, h3⟩ : ∃ q q' : _root_.Fin 3, q ≠ r ∧ q' ≠ r ∧ q ≠ q' := (by decide : ∀ r : _root_.Fin 3, ∃ q q' : _root_.Fin 3, q ≠ r ∧ q' ≠ r ∧ q ≠ q') r
        have z1 := sub_none.mp (hq q h1).symm
        have z2 := sub_none.mp (hq q' h2).symm
        exact absurd (tf_inj hs' (z1.trans z2.symm)) h3
      · rfl
theorem ext_one (R : Rl L calm α) (p : _root_.Fin 3) (x : _root_.Fin 3 → α) : ∃ (β : Type) (R' : Rl L calm β) (e : α → β), Emb R R' e ∧ ∃ τ, R'.T τ ∧ ∀ q, q ≠ p → τ q = e (x q) := by
  by_cases h : ∃ τ, R.T τ ∧ ∀ q, q ≠ p → τ q = x q
  · obtain ⟨τ, h1, h2⟩ := h
    exact ⟨α, R, id, ⟨fun _ _ z => z, fun _ z => z⟩, τ, h1, h2⟩
  · refine ⟨Option α, grow R p x h, some, ⟨fun _ _ z => Option.some.inj z, fun τ z => .inl ⟨τ, z, rfl⟩⟩, sub p x, .inr (.inl ⟨_, turn_id L, ?_⟩), fun q hq => sub_some hq⟩
    funext q
    rw [tf_id]
theorem Emb.trans {γ : Type} {R : Rl L calm α} {R' : Rl L calm β} {R'' : Rl L calm γ} {e : α → β} {d : β → γ} (h : Emb R R' e) (k : Emb R' R'' d) : Emb R R'' (fun a => d (e a)) :=
  ⟨fun a b z => h.inj _ _ (k.inj _ _ z), fun τ z => k.hom _ (h.hom _ z)⟩
/-- a formula has a value in a rule that is grown for it -/
theorem ext_fm (F : Fm ν) : ∀ {α : Type} (R : Rl L calm α) (g : ν → α), ∃ (β : Type) (R' : Rl L calm β) (e : α → β), Emb R R' e ∧ ∃ v, Val R' (fun n => e (g n)) F v := by
  induction F with
  | lt n =>
    intro α R g
    exact ⟨α, R, id, ⟨fun _ _ z => z, fun _ z => z⟩, _, Val.lt n⟩
  | op s l r il ir =>
    intro α R g
    obtain ⟨β, R1, e1, h1, a, va⟩ := il R g
    obtain ⟨γ, R2, e2, h2, b, vb⟩ := ir R1 (fun n => e1 (g n))
    have va2 := va.emb h2
    obtain ⟨δ, R3, e3, h3, τ, hτ, hq⟩ := ext_one R2 s.place (triA s (e2 a) b b)
    refine ⟨δ, R3, _, (h1.trans h2).trans h3, τ s.place, Val.op (va2.emb h3) (vb.emb h3) ?_⟩
    have e : τ = triA s (e3 (e2 a)) (e3 b) (τ s.place) := by
      funext q
      by_cases h : q = s.place
      · rw [h, triA_place]
      · rw [hq q h]
        have z : (fun q => e3 (triA s (e2 a) b b q)) = _ := triA_map e3 s (e2 a) b b
        rw [show e3 (triA s (e2 a) b b q) = triA s (e3 (e2 a)) (e3 b) (e3 b) q from congrFun z q]
        exact triA_ne s _ _ _ _ q h
    rw [← e]
    exact hτ
theorem ext_fms : ∀ (l : List (Fm ν)) {α : Type} (R : Rl L calm α) (g : ν → α), ∃ (β : Type) (R' : Rl L calm β) (e : α → β), Emb R R' e ∧ ∀ F ∈ l, ∃ v, Val R' (fun n => e (g n)) F v
  | [], α, R, g => ⟨α, R, id, ⟨fun _ _ z => z, fun _ z => z⟩, fun _ h => by cases h⟩
  | F :: l, α, R, g => by
    obtain ⟨β, R1, e1, h1, a, va⟩ := ext_fm F R g
    obtain ⟨γ, R2, e2, h2, k⟩ := ext_fms l R1 (fun n => e1 (g n))
    refine ⟨γ, R2, _, h1.trans h2, fun G hG => ?_⟩
    rcases List.mem_cons.mp hG with rfl | hG
    · exact ⟨_, va.emb h2⟩
    · exact k G hG
/-- the same under two contents -/
theorem ext_two (l : List (Fm ν)) {α : Type} (R : Rl L calm α) (g1 g2 : ν → α) : ∃ (β : Type) (R' : Rl L calm β) (e : α → β), Emb R R' e ∧ ∀ F ∈ l, (∃ v, Val R' (fun n => e (g1 n)) F v) ∧ ∃ v, Val R' (fun n => e (g2 n)) F v := by
  obtain ⟨β, R1, e1, h1, k1⟩ := ext_fms l R g1
  obtain ⟨γ, R2, e2, h2, k2⟩ := ext_fms l R1 (fun n => e1 (g2 n))
  refine ⟨γ, R2, _, h1.trans h2, fun F hF => ⟨?_, k2 F hF⟩⟩
  obtain ⟨v, hv⟩ := k1 F hF
  exact ⟨_, hv.emb h2⟩

/-! ### the closed table -/
inductive Eqv (L : Lot) (calm : Bool) (ops : List T3) (ini : List (Nat × Nat)) : Nat → Nat → Prop
  | base {a b : Nat} : (a, b) ∈ ini → Eqv L calm ops ini a b
  | refl (a : Nat) : Eqv L calm ops ini a a
  | symm {a b : Nat} : Eqv L calm ops ini a b → Eqv L calm ops ini b a
  | trans {a b c : Nat} : Eqv L calm ops ini a b → Eqv L calm ops ini b c → Eqv L calm ops ini a c
  | clash {o o' s s' : T3} {p : _root_.Fin 3} : o ∈ ops → o' ∈ ops → s ∈ L.turns → s' ∈ L.turns → (∀ q : _root_.Fin 3, q ≠ p → Eqv L calm ops ini (nth o (nth s q.val)) (nth o' (nth s' q.val))) →
      Eqv L calm ops ini (nth o (nth s p.val)) (nth o' (nth s' p.val))
  | calm {o s : T3} {p q r : _root_.Fin 3} : calm = true → o ∈ ops → s ∈ L.turns → q ≠ p → r ≠ p → q ≠ r → Eqv L calm ops ini (nth o (nth s q.val)) (nth o (nth s r.val)) →
      Eqv L calm ops ini (nth o (nth s p.val)) (nth o (nth s q.val))
variable {ops : List T3} {ini : List (Nat × Nat)}
theorem nth_tf (o : T3) {s : T3} (hs : s ∈ L.turns) (q : _root_.Fin 3) : nth o (nth s q.val) = nth o (tf s q).val := by
  have h := turn_lt L s hs q
  show _ = nth o (nth s q.val % 3)
  rw [Nat.mod_eq_of_lt h]
/-- what is equal in the table has one value -/
theorem Eqv.sound {R : Rl L calm α} {f : Nat → α} (hT : ∀ o ∈ ops, R.T (rd f o)) (hI : ∀ a b, (a, b) ∈ ini → f a = f b) {a b : Nat} (h : Eqv L calm ops ini a b) : f a = f b := by
  induction h with
  | base h => exact hI _ _ h
  | refl a => rfl
  | symm _ ih => exact ih.symm
  | trans _ _ i1 i2 => exact i1.trans i2
  | @clash o o' s s' p ho ho' hs hs' _ ih =>
    have t1 := R.turn s hs _ (hT o ho)
    have t2 := R.turn s' hs' _ (hT o' ho')
    have z := R.clash _ _ t1 t2 p fun q hq => by
      have w := ih q hq
      rw [nth_tf o hs, nth_tf o' hs'] at w
      exact w
    rw [nth_tf o hs, nth_tf o' hs']
    exact z
  | @calm o s p q r hc ho hs hq hr hqr _ ih =>
    have t1 := R.turn s hs _ (hT o ho)
    have t2 := R.diag hc (f (nth o (nth s q.val)))
    have z := R.clash _ _ t1 t2 p fun u hu => by
      have d : u = q ∨ u = r := (by decide : ∀ p q r u : _root_.Fin 3, q ≠ p → r ≠ p → q ≠ r → u ≠ p → u = q ∨ u = r) p q r u hq hr hqr hu
      rcases d with rfl | rfl
      · show f (nth o (tf s u).val) = _
        rw [← nth_tf o hs]
      · show f (nth o (tf s u).val) = _
        rw [← nth_tf o hs]
        exact ih.symm
    rw [nth_tf o hs]
    exact z
def eqS (L : Lot) (calm : Bool) (ops : List T3) (ini : List (Nat × Nat)) : Setoid Nat := ⟨Eqv L calm ops ini, ⟨Eqv.refl, Eqv.symm, Eqv.trans⟩⟩
abbrev Cl (L : Lot) (calm : Bool) (ops : List T3) (ini : List (Nat × Nat)) : Type := Quotient (eqS L calm ops ini)
def cls (L : Lot) (calm : Bool) (ops : List T3) (ini : List (Nat × Nat)) (a : Nat) : Cl L calm ops ini := Quotient.mk (eqS L calm ops ini) a
theorem cls_eq {a b : Nat} : cls L calm ops ini a = cls L calm ops ini b ↔ Eqv L calm ops ini a b := ⟨fun h => Quotient.exact h, fun h => Quotient.sound h⟩
/-- equal things taken as one: the closed table is a partial rule -/
def qR (L : Lot) (calm : Bool) (ops : List T3) (ini : List (Nat × Nat)) : Rl L calm (Cl L calm ops ini) where
  T := fun τ => (∃ o ∈ ops, ∃ s ∈ L.turns, τ = fun q => rd (cls L calm ops ini) o (tf s q)) ∨ (calm = true ∧ ∃ a, τ = fun _ => a)
  turn := by
    intro s hs τ h
    rcases h with ⟨o, ho, s', hs', rfl⟩ | ⟨hc, a, rfl⟩
    · obtain ⟨s'', h1, h2⟩ := turn_comp L s' hs' s hs
      refine .inl ⟨o, ho, s'', h1, ?_⟩
      funext q
      rw [h2]
    · exact .inr ⟨hc, a, rfl⟩
  diag := fun hc a => .inr ⟨hc, a, rfl⟩
  clash := by
    have one : ∀ (o s : T3) (a : Cl L calm ops ini) (p : _root_.Fin 3), calm = true → o ∈ ops → s ∈ L.turns → (∀ q, q ≠ p → rd (cls L calm ops ini) o (tf s q) = a) → rd (cls L calm ops ini) o (tf s p) = a := by
      intro o s a p hc ho hs h
      obtain ⟨q, r, h1, h2, h3⟩ : ∃ q r : _root_.Fin 3, q ≠ p ∧ r ≠ p ∧ q ≠ r := (by decide : ∀ r : _root_.Fin 3, ∃ q q' : _root_.Fin 3, q ≠ r ∧ q' ≠ r ∧ q ≠ q') p
      have z : Eqv L calm ops ini (nth o (nth s q.val)) (nth o (nth s r.val)) := by
        rw [nth_tf o hs, nth_tf o hs]
        exact cls_eq.mp ((h q h1).trans (h r h2).symm)
      have w := cls_eq.mpr (Eqv.calm hc ho hs h1 h2 h3 z)
      rw [nth_tf o hs, nth_tf o hs] at w
      exact w.trans (h q h1)
    intro τ τ' h h' p hq
    rcases h with ⟨o, ho, s, hs, rfl⟩ | ⟨hc, a, rfl⟩
    · rcases h' with ⟨o', ho', s', hs', rfl⟩ | ⟨hc', a', rfl⟩
      · have w := cls_eq.mpr (Eqv.clash (L := L) (calm := calm) (ini := ini) ho ho' hs hs' fun q h => by
          rw [nth_tf o hs, nth_tf o' hs']
          exact cls_eq.mp (hq q h))
        rw [nth_tf o hs, nth_tf o' hs'] at w
        exact w
      · exact one o s a' p hc' ho hs hq
    · rcases h' with ⟨o', ho', s', hs', rfl⟩ | ⟨hc', a', rfl⟩
      · exact (one o' s' a p hc ho' hs' fun q h => (hq q h).symm).symm
      · obtain ⟨q, h1⟩ : ∃ q : _root_.Fin 3, q ≠ p := (by decide : ∀ r : _root_.Fin 3, ∃ q : _root_.Fin 3, q ≠ r) p
        exact hq q h1
theorem qR_op {o : T3} (ho : o ∈ ops) : (qR L calm ops ini).T (rd (cls L calm ops ini) o) := by
  refine .inl ⟨o, ho, _, turn_id L, ?_⟩
  funext q
  rw [tf_id]

/-! ### what is got -/
inductive Got (L : Lot) (calm : Bool) (ops : List T3) (ini : List (Nat × Nat)) (K : Nat → Prop) : Nat → Prop
  | base {a : Nat} : K a → Got L calm ops ini K a
  | step {o : T3} {p : _root_.Fin 3} : o ∈ ops → (∀ q : _root_.Fin 3, q ≠ p → Got L calm ops ini K (nth o q.val)) → Got L calm ops ini K (nth o p.val)
  | eqv {a b : Nat} : Got L calm ops ini K a → Eqv L calm ops ini a b → Got L calm ops ini K b
variable {K : Nat → Prop}
/-- what is got has one value under two readings that agree in what is kept -/
theorem Got.sound {R : Rl L calm α} {f1 f2 : Nat → α} (h1 : ∀ o ∈ ops, R.T (rd f1 o)) (h2 : ∀ o ∈ ops, R.T (rd f2 o)) (i1 : ∀ a b, (a, b) ∈ ini → f1 a = f1 b) (i2 : ∀ a b, (a, b) ∈ ini → f2 a = f2 b)
    (hK : ∀ a, K a → f1 a = f2 a) {a : Nat} (h : Got L calm ops ini K a) : f1 a = f2 a := by
  induction h with
  | base h => exact hK _ h
  | @step o p ho _ ih => exact R.clash _ _ (h1 o ho) (h2 o ho) p fun q hq => ih q hq
  | eqv _ e ih => exact ((e.sound h1 i1).symm.trans ih).trans (e.sound h2 i2)

/-! ### two copies that share some things -/
open Classical in
noncomputable def m2 (S : α → Prop) (c : α) : α ⊕ {c : α // ¬ S c} := if h : S c then .inl c else .inr ⟨c, h⟩
def m1 (S : α → Prop) (c : α) : α ⊕ {c : α // ¬ S c} := .inl c
def prj {S : α → Prop} : α ⊕ {c : α // ¬ S c} → α
  | .inl c => c
  | .inr c => c.1
theorem prj_m2 {S : α → Prop} (c : α) : prj (m2 S c) = c := by
  unfold m2
  by_cases h : S c
  · rw [dif_pos h] <;> rfl
  · rw [dif_neg h] <;> rfl
theorem m_eq {S : α → Prop} {a b : α} (h : m1 S a = m2 S b) : a = b ∧ S a := by
  have e : a = b := by
    have z := congrArg prj h
    rw [prj_m2] at z
    exact z
  subst e
  refine ⟨rfl, ?_⟩
  unfold m2 at h
  by_cases q : S a
  · exact q
  · rw [dif_neg q] at h
    cases h
theorem m_of {S : α → Prop} {a : α} (h : S a) : m1 S a = m2 S a := by
  unfold m2
  rw [dif_pos h] <;> rfl
noncomputable def twoR (R : Rl L calm α) (S : α → Prop) (hS : ∀ τ, R.T τ → ∀ p, (∀ q, q ≠ p → S (τ q)) → S (τ p)) : Rl L calm (α ⊕ {c : α // ¬ S c}) where
  T := fun σ => ∃ τ, R.T τ ∧ ((σ = fun q => m1 S (τ q)) ∨ σ = fun q => m2 S (τ q))
  turn := by
    rintro s hs σ ⟨τ, h, rfl | rfl⟩
    · exact ⟨_, R.turn s hs τ h, .inl rfl⟩
    · exact ⟨_, R.turn s hs τ h, .inr rfl⟩
  diag := by
    intro hc a
    cases a with
    | inl c => exact ⟨_, R.diag hc c, .inl rfl⟩
    | inr c =>
      refine ⟨_, R.diag hc c.1, .inr ?_⟩
      funext q
      show _ = m2 S c.1
      unfold m2
      rw [dif_neg c.2]
  clash := by
    have sw : ∀ τ τ' : _root_.Fin 3 → α, R.T τ → R.T τ' → ∀ p, (∀ q, q ≠ p → m1 S (τ q) = m2 S (τ' q)) → m1 S (τ p) = m2 S (τ' p) := by
      intro τ τ' h h' p hq
      have e := R.clash τ τ' h h' p fun q z => (m_eq (hq q z)).1
      have s := hS τ h p fun q z => (m_eq (hq q z)).2
      rw [← e]
      exact m_of s
    rintro σ σ' ⟨τ, h, rfl | rfl⟩ ⟨τ', h', rfl | rfl⟩ p hq
    · exact congrArg (m1 S) (R.clash τ τ' h h' p fun q z => by
        have w := congrArg prj (hq q z)
        exact w)
    · exact sw τ τ' h h' p hq
    · exact (sw τ' τ h' h p fun q z => (hq q z).symm).symm
    · exact congrArg (m2 S) (R.clash τ τ' h h' p fun q z => by
        have w := congrArg prj (hq q z)
        rw [prj_m2, prj_m2] at w
        exact w)

/-! ### systems: things that stand for formulas -/
/-- the things D stand for formulas φ, the operations ops make them -/
structure Sys {ν : Type} (ops : List T3) (D : List Nat) (φ : Nat → Fm ν) : Prop where
  made : ∀ o ∈ ops, ∃ s a b c, o = triN s a b c ∧ φ c = .op s (φ a) (φ b) ∧ a ∈ D ∧ b ∈ D ∧ c ∈ D
  by_ : ∀ c ∈ D, (∃ m, φ c = .lt m) ∨ ∃ s a b, triN s a b c ∈ ops ∧ φ c = .op s (φ a) (φ b) ∧ a ∈ D ∧ b ∈ D
variable {D : List Nat} {φ : Nat → Fm ν}
def sz : Fm ν → Nat
  | .lt _ => 0
  | .op _ l r => sz l + sz r + 1
theorem Sys.val (S : Sys ops D φ) {R : Rl L calm α} {g : ν → α} {f : Nat → α} (hT : ∀ o ∈ ops, R.T (rd f o)) (hl : ∀ c ∈ D, ∀ m, φ c = .lt m → g m = f c) : ∀ c ∈ D, Val R g (φ c) (f c) := by
  have key : ∀ n, ∀ c ∈ D, sz (φ c) ≤ n → Val R g (φ c) (f c) := by
    intro n
    induction n with
    | zero =>
      intro c hc h
      rcases S.by_ c hc with ⟨m, e⟩ | ⟨s, a, b, _, e, _, _⟩
      · rw [e, ← hl c hc m e]
        exact Val.lt m
      · rw [e] at h
        unfold sz at h
        omega
    | succ n ih =>
      intro c hc h
      rcases S.by_ c hc with ⟨m, e⟩ | ⟨s, a, b, ho, e, ha, hb⟩
      · rw [e, ← hl c hc m e]
        exact Val.lt m
      · rw [e] at h ⊢
        unfold sz at h
        have t := hT _ ho
        rw [rd_triN] at t
        exact Val.op (ih a ha (by omega)) (ih b hb (by omega)) t
  exact fun c hc => key _ c hc (Nat.le_refl _)
theorem Sys.ops_of (S : Sys ops D φ) {R : Rl L calm α} {g : ν → α} {f : Nat → α} (hv : ∀ c ∈ D, Val R g (φ c) (f c)) : ∀ o ∈ ops, R.T (rd f o) := by
  intro o ho
  obtain ⟨s, a, b, c, rfl, e, ha, hb, hc⟩ := S.made o ho
  rw [rd_triN]
  have v := hv c hc
  rw [e] at v
  cases v with
  | op va vb t =>
    rw [va.fn (hv a ha), vb.fn (hv b hb)] at t
    exact t
/-- readings by values -/
theorem ex_read {R : Rl L calm α} {g : ν → α} (a0 : α) (h : ∀ F ∈ D.map φ, ∃ v, Val R g F v) : ∃ f : Nat → α, ∀ c ∈ D, Val R g (φ c) (f c) := by
  have k : ∀ c, ∃ v, c ∈ D → Val R g (φ c) v := fun c => by
    by_cases hc : c ∈ D
    · obtain ⟨v, hv⟩ := h (φ c) (List.mem_map.mpr ⟨c, hc, rfl⟩)
      exact ⟨v, fun _ => hv⟩
    · exact ⟨a0, fun z => absurd z hc⟩
  exact ⟨fun c => Classical.choose (k c), fun c hc => Classical.choose_spec (k c) hc⟩
/-- the letters of a system read by its things (one thing for a letter) -/
theorem ex_let (hD : ∀ c ∈ D, ∀ d ∈ D, ∀ m, φ c = .lt m → φ d = .lt m → c = d) (f : Nat → α) (a0 : α) : ∃ g : ν → α, ∀ c ∈ D, ∀ m, φ c = .lt m → g m = f c := by
  have k : ∀ m : ν, ∃ v : α, ∀ c ∈ D, φ c = .lt m → v = f c := fun m => by
    by_cases h : ∃ c ∈ D, φ c = .lt m
    · obtain ⟨c, hc, e⟩ := h
      exact ⟨f c, fun d hd e' => by rw [hD c hc d hd m e e']⟩
    · exact ⟨a0, fun c hc e => absurd ⟨c, hc, e⟩ h⟩
  exact ⟨fun m => Classical.choose (k m), fun c hc m e => Classical.choose_spec (k m) c hc e⟩
/-- what is equal in one table is so in another that knows both formulas -/
theorem two_sys {ops1 ops2 : List T3} {D1 D2 : List Nat} {φ1 φ2 : Nat → Fm ν} (S1 : Sys ops1 D1 φ1) (S2 : Sys ops2 D2 φ2) (u2 : ∀ c ∈ D2, ∀ d ∈ D2, ∀ m, φ2 c = .lt m → φ2 d = .lt m → c = d)
    {i1 j1 i2 j2 : Nat} (hi1 : i1 ∈ D1) (hj1 : j1 ∈ D1) (hi2 : i2 ∈ D2) (hj2 : j2 ∈ D2) (ei : φ1 i1 = φ2 i2) (ej : φ1 j1 = φ2 j2) (h : Eqv L calm ops1 [] i1 j1) : Eqv L calm ops2 [] i2 j2 := by
  obtain ⟨g, hg⟩ := ex_let u2 (cls L calm ops2 []) (cls L calm ops2 [] 0)
  have v2 := S2.val (R := qR L calm ops2 []) (g := g) (f := cls L calm ops2 []) (fun o ho => qR_op ho) hg
  obtain ⟨β, R', e, he, k⟩ := ext_fms (D1.map φ1) (qR L calm ops2 []) g
  obtain ⟨f, hf⟩ := ex_read (e (cls L calm ops2 [] 0)) k
  have z := h.sound (S1.ops_of hf) (fun _ _ h => by cases h)
  have a1 := hf i1 hi1
  have a2 := hf j1 hj1
  rw [ei] at a1
  rw [ej] at a2
  rw [a1.fn ((v2 i2 hi2).emb he), a2.fn ((v2 j2 hj2).emb he)] at z
  exact cls_eq.mp (he.inj _ _ z)
theorem m2_inj {S : α → Prop} {a b : α} (h : m2 S a = m2 S b) : a = b := by
  have z := congrArg prj h
  rw [prj_m2, prj_m2] at z
  exact z
/-- two copies of a script tell a first content exactly if it is got in the table of the formulas -/
theorem back_told {opsT opsA opsB : List T3} {DT DA DB : List Nat} {φT φA φB : Nat → Fm ν} {pairs : List (Nat × Nat)} {Kt : Nat → Prop}
    (ST : Sys opsT DT φT) (uT : ∀ c ∈ DT, ∀ d ∈ DT, ∀ m, φT c = .lt m → φT d = .lt m → c = d)
    (SA : Sys opsA DA φA) (uA : ∀ c ∈ DA, ∀ d ∈ DA, ∀ m, φA c = .lt m → φA d = .lt m → c = d)
    (SB : Sys opsB DB φB) (uB : ∀ c ∈ DB, ∀ d ∈ DB, ∀ m, φB c = .lt m → φB d = .lt m → c = d)
    (hdis : ∀ c ∈ DA, c ∉ DB)
    (hp : ∀ a b, (a, b) ∈ pairs → a ∈ DA ∧ b ∈ DB ∧ ∃ t ∈ DT, Kt t ∧ φA a = φT t ∧ φB b = φT t)
    (hK : ∀ t, Kt t → t ∈ DT ∧ ∃ a b, (a, b) ∈ pairs ∧ φA a = φT t ∧ φB b = φT t)
    {wA wB wT : Nat} (hA : wA ∈ DA) (hB : wB ∈ DB) (hT : wT ∈ DT) (eA : φA wA = φT wT) (eB : φB wB = φT wT) :
    Eqv L calm (opsA ++ opsB) pairs wA wB ↔ Got L calm opsT [] Kt wT := by
  constructor
  · intro h
    obtain ⟨g, hg⟩ := ex_let uT (cls L calm opsT []) (cls L calm opsT [] 0)
    have vT := ST.val (R := qR L calm opsT []) (g := g) (f := cls L calm opsT []) (fun o ho => qR_op ho) hg
    -- the classes of what is got
    let S : Cl L calm opsT [] → Prop := fun c => ∃ t, cls L calm opsT [] t = c ∧ Got L calm opsT [] Kt t
    have S_of : ∀ t, S (cls L calm opsT [] t) → Got L calm opsT [] Kt t := fun t ⟨u, e, hu⟩ => hu.eqv (cls_eq.mp e)
    have hS : ∀ τ, (qR L calm opsT []).T τ → ∀ p, (∀ q, q ≠ p → S (τ q)) → S (τ p) := by
      intro τ ht p hq
      rcases ht with ⟨o, ho, s, hs, rfl⟩ | ⟨hc, a, rfl⟩
      · obtain ⟨s', hs', hi⟩ := turn_inv L s hs
        refine ⟨nth o (tf s p).val, rfl, Got.step ho fun q h => ?_⟩
        have z := hq (tf s' q) fun e => h (by rw [← e]; exact (hi q).1.symm)
        have z2 : S (cls L calm opsT [] (nth o (tf s (tf s' q)).val)) := z
        rw [(hi q).1] at z2
        exact S_of _ z2
      · obtain ⟨q, h1⟩ : ∃ q : _root_.Fin 3, q ≠ p := (by decide : ∀ r : _root_.Fin 3, ∃ q : _root_.Fin 3, q ≠ r) p
        exact hq q h1
    let R := twoR (qR L calm opsT []) S hS
    have E1 : Emb (qR L calm opsT []) R (m1 S) := ⟨fun a b z => by cases z; rfl, fun τ z => ⟨τ, z, .inl rfl⟩⟩
    have E2 : Emb (qR L calm opsT []) R (m2 S) := ⟨fun a b z => m2_inj z, fun τ z => ⟨τ, z, .inr rfl⟩⟩
    obtain ⟨β, R', e, he, k⟩ := ext_two (DA.map φA ++ DB.map φB) R (fun n => m1 S (g n)) (fun n => m2 S (g n))
    obtain ⟨f1, hf1⟩ := ex_read (D := DA) (φ := φA) (e (m1 S (cls L calm opsT [] 0))) fun F hF => (k F (List.mem_append_left _ hF)).1
    obtain ⟨f2, hf2⟩ := ex_read (D := DB) (φ := φB) (e (m1 S (cls L calm opsT [] 0))) fun F hF => (k F (List.mem_append_right _ hF)).2
    let f : Nat → β := fun c => if c ∈ DA then f1 c else f2 c
    have fA : ∀ c ∈ DA, f c = f1 c := fun c hc => if_pos hc
    have fB : ∀ c ∈ DB, f c = f2 c := fun c hc => if_neg fun z => hdis c z hc
    have vA : ∀ c ∈ DA, Val R' (fun n => e (m1 S (g n))) (φA c) (f c) := fun c hc => by rw [fA c hc]; exact hf1 c hc
    have vB : ∀ c ∈ DB, Val R' (fun n => e (m2 S (g n))) (φB c) (f c) := fun c hc => by rw [fB c hc]; exact hf2 c hc
    have tA := SA.ops_of vA
    have tB := SB.ops_of vB
    -- values of the table's things
    have w1 : ∀ t ∈ DT, Val R' (fun n => e (m1 S (g n))) (φT t) (e (m1 S (cls L calm opsT [] t))) := fun t ht => ((vT t ht).emb E1).emb he
    have w2 : ∀ t ∈ DT, Val R' (fun n => e (m2 S (g n))) (φT t) (e (m2 S (cls L calm opsT [] t))) := fun t ht => ((vT t ht).emb E2).emb he
    have z := h.sound (R := R') (f := f) (fun o ho => by
      rcases List.mem_append.mp ho with q | q
      · exact tA o q
      · exact tB o q) fun a b hab => by
        obtain ⟨ha, hb, t, ht, kt, e1, e2⟩ := hp a b hab
        have x1 := vA a ha
        rw [e1] at x1
        have x2 := vB b hb
        rw [e2] at x2
        rw [x1.fn (w1 t ht), x2.fn (w2 t ht)]
        exact congrArg e (m_of ⟨t, rfl, Got.base kt⟩)
    have x1 := vA wA hA
    rw [eA] at x1
    have x2 := vB wB hB
    rw [eB] at x2
    rw [x1.fn (w1 wT hT), x2.fn (w2 wT hT)] at z
    exact S_of _ (m_eq (he.inj _ _ z)).2
  · intro h
    let ops := opsA ++ opsB
    obtain ⟨gA, hgA⟩ := ex_let uA (cls L calm ops pairs) (cls L calm ops pairs 0)
    obtain ⟨gB, hgB⟩ := ex_let uB (cls L calm ops pairs) (cls L calm ops pairs 0)
    have vA := SA.val (R := qR L calm ops pairs) (g := gA) (f := cls L calm ops pairs) (fun o ho => qR_op (List.mem_append_left _ ho)) hgA
    have vB := SB.val (R := qR L calm ops pairs) (g := gB) (f := cls L calm ops pairs) (fun o ho => qR_op (List.mem_append_right _ ho)) hgB
    obtain ⟨β, R', e, he, k⟩ := ext_two (DT.map φT) (qR L calm ops pairs) gA gB
    obtain ⟨f1, hf1⟩ := ex_read (D := DT) (φ := φT) (e (cls L calm ops pairs 0)) fun F hF => (k F hF).1
    obtain ⟨f2, hf2⟩ := ex_read (D := DT) (φ := φT) (e (cls L calm ops pairs 0)) fun F hF => (k F hF).2
    have z := h.sound (R := R') (ST.ops_of hf1) (ST.ops_of hf2) (fun _ _ h => by cases h) (fun _ _ h => by cases h) fun t kt => by
      obtain ⟨ht, a, b, hab, e1, e2⟩ := hK t kt
      obtain ⟨ha, hb, _⟩ := hp a b hab
      have x1 := (vA a ha).emb he
      have x2 := (vB b hb).emb he
      rw [e1] at x1
      rw [e2] at x2
      rw [(hf1 t ht).fn x1, (hf2 t ht).fn x2, cls_eq.mpr (Eqv.base hab)]
    have x1 := (vA wA hA).emb he
    have x2 := (vB wB hB).emb he
    rw [eA] at x1
    rw [eB] at x2
    rw [(hf1 wT hT).fn x1, (hf2 wT hT).fn x2] at z
    exact cls_eq.mp (he.inj _ _ z)
end
end KM
end

section
set_option Elab.async false
set_option linter.all false
set_option maxRecDepth 100000
set_option maxHeartbeats 4000000
/-! The text by places; what the top has left, one lemma a fact. Printed by gen_head.py. -/
namespace K8
open PySem PySem.Spec PyProof.Rows L2
abbrev prg : Program := PySem.Challenge.pw_thirdback_k83_whole_scripts_and_formulas
def top (i : Nat) : Stmt := prg.main.body.getD i (.Pass ⟨0, 0, 0, 0⟩)
abbrev s_is_integer : Stmt := top 28
abbrev s_is_within : Stmt := top 29
abbrev s_is_name : Stmt := top 30
abbrev s_check_names : Stmt := top 32
abbrev s_letter : Stmt := top 36
abbrev s_operation_of : Stmt := top 37
abbrev s_written_parts : Stmt := top 38
abbrev s_check_operations : Stmt := top 42
abbrev s_check_formula : Stmt := top 43
abbrev s_check_formulas : Stmt := top 44
abbrev s_check_facts : Stmt := top 45
abbrev s_check_kind : Stmt := top 49
abbrev s_turned : Stmt := top 52
abbrev s_triple_of : Stmt := top 54
abbrev s_setting_of : Stmt := top 62
abbrev s_step_of : Stmt := top 63
abbrev s_steps_of : Stmt := top 64
abbrev s_later_indexes : Stmt := top 65
abbrev s_rows_to : Stmt := top 66
abbrev s_triple_with : Stmt := top 67
abbrev s_closed_table : Stmt := top 69
abbrev s_check_boxes : Stmt := top 73
abbrev s_check_script : Stmt := top 74
abbrev s_check_index : Stmt := top 75
abbrev s_check_box : Stmt := top 76
abbrev s_ways_of : Stmt := top 77
abbrev s_surely_same : Stmt := top 78
abbrev s_gives_back : Stmt := top 79
abbrev s_follows : Stmt := top 81
abbrev s_kept_for : Stmt := top 83
abbrev s_tells : Stmt := top 84
abbrev s_law_purse : Stmt := top 86
abbrev s_law_pick : Stmt := top 87
abbrev s_law_kind : Stmt := top 88
abbrev s_law_names : Stmt := top 89
abbrev s_law_made : Stmt := top 90
abbrev s_law_size : Stmt := top 91
abbrev s_law_subsets : Stmt := top 92
abbrev s_law_row : Stmt := top 93
abbrev s_law_right : Stmt := top 94
abbrev s_law : Stmt := top 95
abbrev s_Formula_init : Stmt := inClass (top 35) 0
abbrev s_Formula_parts : Stmt := inClass (top 35) 3
abbrev s_Formula_mul : Stmt := inClass (top 35) 5
abbrev s_Formula_floordiv : Stmt := inClass (top 35) 6
abbrev s_Formula_rshift : Stmt := inClass (top 35) 7
abbrev s_Formula_len : Stmt := inClass (top 35) 10
abbrev s_Formula_str : Stmt := inClass (top 35) 12
abbrev s_Kind_init : Stmt := inClass (top 48) 0
abbrev s_Kind_lot : Stmt := inClass (top 48) 2
abbrev s_Closing_init : Stmt := inClass (top 53) 0
abbrev s_Closing_root : Stmt := inClass (top 53) 1
abbrev s_Closing_same : Stmt := inClass (top 53) 2
abbrev s_Closing_merge : Stmt := inClass (top 53) 3
abbrev s_Closing_close : Stmt := inClass (top 53) 4
abbrev s_Closing_entered : Stmt := inClass (top 53) 5
abbrev s_Closing_got : Stmt := inClass (top 53) 6
abbrev s_Table_init : Stmt := inClass (top 55) 0
abbrev s_Table_number : Stmt := inClass (top 55) 1
abbrev s_Table_same : Stmt := inClass (top 55) 2
abbrev s_Way_init : Stmt := inClass (top 68) 0
abbrev s_Way_take : Stmt := inClass (top 68) 1
abbrev s_Script_init : Stmt := inClass (top 72) 0
abbrev s_Kept_init : Stmt := inClass (top 82) 0
abbrev s_Kept_root : Stmt := inClass (top 82) 1
abbrev s_Kept_has : Stmt := inClass (top 82) 2
/-! ### where things stand -/
/-- the getter of a property object -/
def getterAt (K : PySem.W.Frag) (a : Addr) : Addr := match PySem.W.recIn K a "property" with
  | some (.ref g :: _) => g
  | _ => 0
/-- the tuple of turns of a lot, by its name -/
def lotAt (K : PySem.W.Frag) (x : Str) : Addr := match PySem.W.nsIn K (He.ga K "LOTS") x with
  | some (some (.ref a)) => a
  | _ => 0
abbrev CFormula (K : PySem.W.Frag) : Addr := He.ga K "Formula"
abbrev CKind (K : PySem.W.Frag) : Addr := He.ga K "Kind"
abbrev CClosing (K : PySem.W.Frag) : Addr := He.ga K "Closing"
abbrev CTable (K : PySem.W.Frag) : Addr := He.ga K "Table"
abbrev CWay (K : PySem.W.Frag) : Addr := He.ga K "Way"
abbrev CScript (K : PySem.W.Frag) : Addr := He.ga K "Script"
abbrev CKept (K : PySem.W.Frag) : Addr := He.ga K "Kept"
abbrev a_is_integer (K : PySem.W.Frag) : Addr := He.ga K "is_integer"
abbrev a_is_within (K : PySem.W.Frag) : Addr := He.ga K "is_within"
abbrev a_is_name (K : PySem.W.Frag) : Addr := He.ga K "is_name"
abbrev a_check_names (K : PySem.W.Frag) : Addr := He.ga K "check_names"
abbrev a_letter (K : PySem.W.Frag) : Addr := He.ga K "letter"
abbrev a_operation_of (K : PySem.W.Frag) : Addr := He.ga K "operation_of"
abbrev a_written_parts (K : PySem.W.Frag) : Addr := He.ga K "written_parts"
abbrev a_check_operations (K : PySem.W.Frag) : Addr := He.ga K "check_operations"
abbrev a_check_formula (K : PySem.W.Frag) : Addr := He.ga K "check_formula"
abbrev a_check_formulas (K : PySem.W.Frag) : Addr := He.ga K "check_formulas"
abbrev a_check_facts (K : PySem.W.Frag) : Addr := He.ga K "check_facts"
abbrev a_check_kind (K : PySem.W.Frag) : Addr := He.ga K "check_kind"
abbrev a_turned (K : PySem.W.Frag) : Addr := He.ga K "turned"
abbrev a_triple_of (K : PySem.W.Frag) : Addr := He.ga K "triple_of"
abbrev a_setting_of (K : PySem.W.Frag) : Addr := He.ga K "setting_of"
abbrev a_step_of (K : PySem.W.Frag) : Addr := He.ga K "step_of"
abbrev a_steps_of (K : PySem.W.Frag) : Addr := He.ga K "steps_of"
abbrev a_later_indexes (K : PySem.W.Frag) : Addr := He.ga K "later_indexes"
abbrev a_rows_to (K : PySem.W.Frag) : Addr := He.ga K "rows_to"
abbrev a_triple_with (K : PySem.W.Frag) : Addr := He.ga K "triple_with"
abbrev a_closed_table (K : PySem.W.Frag) : Addr := He.ga K "closed_table"
abbrev a_check_boxes (K : PySem.W.Frag) : Addr := He.ga K "check_boxes"
abbrev a_check_script (K : PySem.W.Frag) : Addr := He.ga K "check_script"
abbrev a_check_index (K : PySem.W.Frag) : Addr := He.ga K "check_index"
abbrev a_check_box (K : PySem.W.Frag) : Addr := He.ga K "check_box"
abbrev a_ways_of (K : PySem.W.Frag) : Addr := He.ga K "ways_of"
abbrev a_surely_same (K : PySem.W.Frag) : Addr := He.ga K "surely_same"
abbrev a_gives_back (K : PySem.W.Frag) : Addr := He.ga K "gives_back"
abbrev a_follows (K : PySem.W.Frag) : Addr := He.ga K "follows"
abbrev a_kept_for (K : PySem.W.Frag) : Addr := He.ga K "kept_for"
abbrev a_tells (K : PySem.W.Frag) : Addr := He.ga K "tells"
abbrev a_law_purse (K : PySem.W.Frag) : Addr := He.ga K "_law_purse"
abbrev a_law_pick (K : PySem.W.Frag) : Addr := He.ga K "_law_pick"
abbrev a_law_kind (K : PySem.W.Frag) : Addr := He.ga K "_law_kind"
abbrev a_law_names (K : PySem.W.Frag) : Addr := He.ga K "_law_names"
abbrev a_law_made (K : PySem.W.Frag) : Addr := He.ga K "_law_made"
abbrev a_law_size (K : PySem.W.Frag) : Addr := He.ga K "_law_size"
abbrev a_law_subsets (K : PySem.W.Frag) : Addr := He.ga K "_law_subsets"
abbrev a_law_row (K : PySem.W.Frag) : Addr := He.ga K "_law_row"
abbrev a_law_right (K : PySem.W.Frag) : Addr := He.ga K "_law_right"
abbrev a_law (K : PySem.W.Frag) : Addr := He.ga K "law"
abbrev a_Formula_init (K : PySem.W.Frag) : Addr := He.ma K (CFormula K) "__init__"
abbrev a_Formula_parts (K : PySem.W.Frag) : Addr := getterAt K (He.ma K (CFormula K) "parts")
abbrev a_Formula_mul (K : PySem.W.Frag) : Addr := He.ma K (CFormula K) "__mul__"
abbrev a_Formula_floordiv (K : PySem.W.Frag) : Addr := He.ma K (CFormula K) "__floordiv__"
abbrev a_Formula_rshift (K : PySem.W.Frag) : Addr := He.ma K (CFormula K) "__rshift__"
abbrev a_Formula_len (K : PySem.W.Frag) : Addr := He.ma K (CFormula K) "__len__"
abbrev a_Formula_str (K : PySem.W.Frag) : Addr := He.ma K (CFormula K) "__str__"
abbrev a_Kind_init (K : PySem.W.Frag) : Addr := He.ma K (CKind K) "__init__"
abbrev a_Kind_lot (K : PySem.W.Frag) : Addr := getterAt K (He.ma K (CKind K) "lot")
abbrev a_Closing_init (K : PySem.W.Frag) : Addr := He.ma K (CClosing K) "__init__"
abbrev a_Closing_root (K : PySem.W.Frag) : Addr := He.ma K (CClosing K) "root"
abbrev a_Closing_same (K : PySem.W.Frag) : Addr := He.ma K (CClosing K) "same"
abbrev a_Closing_merge (K : PySem.W.Frag) : Addr := He.ma K (CClosing K) "merge"
abbrev a_Closing_close (K : PySem.W.Frag) : Addr := He.ma K (CClosing K) "close"
abbrev a_Closing_entered (K : PySem.W.Frag) : Addr := He.ma K (CClosing K) "entered"
abbrev a_Closing_got (K : PySem.W.Frag) : Addr := He.ma K (CClosing K) "got"
abbrev a_Table_init (K : PySem.W.Frag) : Addr := He.ma K (CTable K) "__init__"
abbrev a_Table_number (K : PySem.W.Frag) : Addr := He.ma K (CTable K) "number"
abbrev a_Table_same (K : PySem.W.Frag) : Addr := He.ma K (CTable K) "same"
abbrev a_Way_init (K : PySem.W.Frag) : Addr := He.ma K (CWay K) "__init__"
abbrev a_Way_take (K : PySem.W.Frag) : Addr := He.ma K (CWay K) "take"
abbrev a_Script_init (K : PySem.W.Frag) : Addr := He.ma K (CScript K) "__init__"
abbrev a_Kept_init (K : PySem.W.Frag) : Addr := He.ma K (CKept K) "__init__"
abbrev a_Kept_root (K : PySem.W.Frag) : Addr := He.ma K (CKept K) "root"
abbrev a_Kept_has (K : PySem.W.Frag) : Addr := He.ma K (CKept K) "has"
/-! ### a def of the text, by the address at which it is found -/
structure Df where
  ad : PySem.W.Frag → Addr
  name : Str
  qual : Str
  st : Stmt
  dfl : List He.Dv := []
  kwd : List (Str × He.Dv) := []
def Df.dvs (K : PySem.W.Frag) (d : Df) : List V := d.dfl.map (He.Dv.v K)
def Df.kws (K : PySem.W.Frag) (d : Df) : List (Str × V) := d.kwd.map fun q => (q.1, q.2.v K)
def Df.val (d : Df) : He.FnW := some (d.name, d.qual, defArgs d.st, .stmts (defBody d.st), defScope d.st, mainGlobals, [], builtinsNs)
def fnAt (K : PySem.W.Frag) (a : Addr) : He.FnW := match K.lookup a with
  | some ⟨_, _, .func z, _⟩ => some (z.name, z.qualname, z.params, z.body, z.scope, z.globals, z.closure, z.builtins)
  | _ => none
def Df.ok (K : PySem.W.Frag) (d : Df) : Bool := PySem.W.keepIn K (.ref (d.ad K)) && (match K.lookup (d.ad K) with
  | some ⟨_, _, .func z, _⟩ => PySem.W.codeIn K z.code d.qual && (He.dflB K z.defaults (d.dvs K) && He.kwdB K z.kwdefaults (d.kws K))
  | _ => false)
abbrev FD (K : PySem.W.Frag) (d : Df) (z : FuncData) : Prop := FunD K d.name d.qual (defArgs d.st) (defBody d.st) (defScope d.st) (d.dvs K) (d.kws K) (d.ad K) z
theorem Df.funD {K : PySem.W.Frag} {d : Df} (e : fnAt K (d.ad K) = d.val) (c : d.ok K = true) : ∃ z, FD K d z := by
  obtain ⟨kp, c2⟩ := He.ba c
  unfold fnAt at e
  cases q : K.lookup (d.ad K) with
  | none => rw [q] at c2; cases c2
  | some o =>
    obtain ⟨oc, od, dt, osl⟩ := o
    rw [q] at c2 e
    cases dt with
    | func z =>
      obtain ⟨n1, n2, n3, n4, n5, n6, n7, n8, n9, n10, n11, n12, n13, n14, n15⟩ := z
      have e2 : (some (n1, n2, n3, n4, n5, n6, n7, n15) : He.FnW) = some (d.name, d.qual, defArgs d.st, .stmts (defBody d.st), defScope d.st, mainGlobals, [], builtinsNs) := e
      simp only [Option.some.injEq, Prod.mk.injEq] at e2
      obtain ⟨h1, h2, h3, h4, h5, h6, h7, h8⟩ := e2
      subst h1 h2 h3 h4 h5 h6 h7 h8
      have c3 : (PySem.W.codeIn K n13 d.qual && (He.dflB K n8 (d.dvs K) && He.kwdB K n9 (d.kws K))) = true := c2
      obtain ⟨k1, k2⟩ := He.ba c3
      obtain ⟨k3, k4⟩ := He.ba k2
      exact ⟨_, ⟨oc, od, n8, n9, n10, n11, n12, n13, n14, osl, rfl, q, k1, He.dflB_ok k3, He.kwdB_ok k4⟩, kp⟩
    | _ => cases c2
def d_is_integer : Df := ⟨a_is_integer, "is_integer", "is_integer", s_is_integer, [], []⟩
def d_is_within : Df := ⟨a_is_within, "is_within", "is_within", s_is_within, [], []⟩
def d_is_name : Df := ⟨a_is_name, "is_name", "is_name", s_is_name, [], []⟩
def d_check_names : Df := ⟨a_check_names, "check_names", "check_names", s_check_names, [.non, .adr (He.dflAt ("check_names", none) 1)], []⟩
def d_letter : Df := ⟨a_letter, "letter", "letter", s_letter, [], []⟩
def d_operation_of : Df := ⟨a_operation_of, "operation_of", "operation_of", s_operation_of, [], []⟩
def d_written_parts : Df := ⟨a_written_parts, "written_parts", "written_parts", s_written_parts, [], []⟩
def d_check_operations : Df := ⟨a_check_operations, "check_operations", "check_operations", s_check_operations, [], []⟩
def d_check_formula : Df := ⟨a_check_formula, "check_formula", "check_formula", s_check_formula, [], []⟩
def d_check_formulas : Df := ⟨a_check_formulas, "check_formulas", "check_formulas", s_check_formulas, [.int 0], []⟩
def d_check_facts : Df := ⟨a_check_facts, "check_facts", "check_facts", s_check_facts, [], []⟩
def d_check_kind : Df := ⟨a_check_kind, "check_kind", "check_kind", s_check_kind, [], []⟩
def d_turned : Df := ⟨a_turned, "turned", "turned", s_turned, [], []⟩
def d_triple_of : Df := ⟨a_triple_of, "triple_of", "triple_of", s_triple_of, [], []⟩
def d_setting_of : Df := ⟨a_setting_of, "setting_of", "setting_of", s_setting_of, [], []⟩
def d_step_of : Df := ⟨a_step_of, "step_of", "step_of", s_step_of, [], []⟩
def d_steps_of : Df := ⟨a_steps_of, "steps_of", "steps_of", s_steps_of, [], []⟩
def d_later_indexes : Df := ⟨a_later_indexes, "later_indexes", "later_indexes", s_later_indexes, [], []⟩
def d_rows_to : Df := ⟨a_rows_to, "rows_to", "rows_to", s_rows_to, [], []⟩
def d_triple_with : Df := ⟨a_triple_with, "triple_with", "triple_with", s_triple_with, [], []⟩
def d_closed_table : Df := ⟨a_closed_table, "closed_table", "closed_table", s_closed_table, [.adr (He.dflAt ("closed_table", none) 0)], []⟩
def d_check_boxes : Df := ⟨a_check_boxes, "check_boxes", "check_boxes", s_check_boxes, [], []⟩
def d_check_script : Df := ⟨a_check_script, "check_script", "check_script", s_check_script, [], []⟩
def d_check_index : Df := ⟨a_check_index, "check_index", "check_index", s_check_index, [], []⟩
def d_check_box : Df := ⟨a_check_box, "check_box", "check_box", s_check_box, [], []⟩
def d_ways_of : Df := ⟨a_ways_of, "ways_of", "ways_of", s_ways_of, [], []⟩
def d_surely_same : Df := ⟨a_surely_same, "surely_same", "surely_same", s_surely_same, [], []⟩
def d_gives_back : Df := ⟨a_gives_back, "gives_back", "gives_back", s_gives_back, [], []⟩
def d_follows : Df := ⟨a_follows, "follows", "follows", s_follows, [], []⟩
def d_kept_for : Df := ⟨a_kept_for, "kept_for", "kept_for", s_kept_for, [], []⟩
def d_tells : Df := ⟨a_tells, "tells", "tells", s_tells, [], []⟩
def d_law_purse : Df := ⟨a_law_purse, "_law_purse", "_law_purse", s_law_purse, [], []⟩
def d_law_pick : Df := ⟨a_law_pick, "_law_pick", "_law_pick", s_law_pick, [], []⟩
def d_law_kind : Df := ⟨a_law_kind, "_law_kind", "_law_kind", s_law_kind, [], []⟩
def d_law_names : Df := ⟨a_law_names, "_law_names", "_law_names", s_law_names, [], []⟩
def d_law_made : Df := ⟨a_law_made, "_law_made", "_law_made", s_law_made, [], []⟩
def d_law_size : Df := ⟨a_law_size, "_law_size", "_law_size", s_law_size, [], []⟩
def d_law_subsets : Df := ⟨a_law_subsets, "_law_subsets", "_law_subsets", s_law_subsets, [], []⟩
def d_law_row : Df := ⟨a_law_row, "_law_row", "_law_row", s_law_row, [], []⟩
def d_law_right : Df := ⟨a_law_right, "_law_right", "_law_right", s_law_right, [], []⟩
def d_law : Df := ⟨a_law, "law", "law", s_law, [], []⟩
def d_Formula_init : Df := ⟨a_Formula_init, "__init__", "Formula.__init__", s_Formula_init, [.str "", .non, .non], []⟩
def d_Formula_parts : Df := ⟨a_Formula_parts, "parts", "Formula.parts", s_Formula_parts, [], []⟩
def d_Formula_mul : Df := ⟨a_Formula_mul, "__mul__", "Formula.__mul__", s_Formula_mul, [], []⟩
def d_Formula_floordiv : Df := ⟨a_Formula_floordiv, "__floordiv__", "Formula.__floordiv__", s_Formula_floordiv, [], []⟩
def d_Formula_rshift : Df := ⟨a_Formula_rshift, "__rshift__", "Formula.__rshift__", s_Formula_rshift, [], []⟩
def d_Formula_len : Df := ⟨a_Formula_len, "__len__", "Formula.__len__", s_Formula_len, [], []⟩
def d_Formula_str : Df := ⟨a_Formula_str, "__str__", "Formula.__str__", s_Formula_str, [], []⟩
def d_Kind_init : Df := ⟨a_Kind_init, "__init__", "Kind.__init__", s_Kind_init, [], [("calm", .bl false)]⟩
def d_Kind_lot : Df := ⟨a_Kind_lot, "lot", "Kind.lot", s_Kind_lot, [], []⟩
def d_Closing_init : Df := ⟨a_Closing_init, "__init__", "Closing.__init__", s_Closing_init, [], []⟩
def d_Closing_root : Df := ⟨a_Closing_root, "root", "Closing.root", s_Closing_root, [], []⟩
def d_Closing_same : Df := ⟨a_Closing_same, "same", "Closing.same", s_Closing_same, [], []⟩
def d_Closing_merge : Df := ⟨a_Closing_merge, "merge", "Closing.merge", s_Closing_merge, [], []⟩
def d_Closing_close : Df := ⟨a_Closing_close, "close", "Closing.close", s_Closing_close, [], []⟩
def d_Closing_entered : Df := ⟨a_Closing_entered, "entered", "Closing.entered", s_Closing_entered, [], []⟩
def d_Closing_got : Df := ⟨a_Closing_got, "got", "Closing.got", s_Closing_got, [], []⟩
def d_Table_init : Df := ⟨a_Table_init, "__init__", "Table.__init__", s_Table_init, [], []⟩
def d_Table_number : Df := ⟨a_Table_number, "number", "Table.number", s_Table_number, [], []⟩
def d_Table_same : Df := ⟨a_Table_same, "same", "Table.same", s_Table_same, [], []⟩
def d_Way_init : Df := ⟨a_Way_init, "__init__", "Way.__init__", s_Way_init, [], []⟩
def d_Way_take : Df := ⟨a_Way_take, "take", "Way.take", s_Way_take, [], []⟩
def d_Script_init : Df := ⟨a_Script_init, "__init__", "Script.__init__", s_Script_init, [], []⟩
def d_Kept_init : Df := ⟨a_Kept_init, "__init__", "Kept.__init__", s_Kept_init, [], []⟩
def d_Kept_root : Df := ⟨a_Kept_root, "root", "Kept.root", s_Kept_root, [], []⟩
def d_Kept_has : Df := ⟨a_Kept_has, "has", "Kept.has", s_Kept_has, [], []⟩
def dfs0 : List Df := [d_is_integer, d_is_within, d_is_name, d_check_names, d_letter, d_operation_of, d_written_parts, d_check_operations, d_check_formula, d_check_formulas, d_check_facts, d_check_kind, d_turned, d_triple_of, d_setting_of, d_step_of, d_steps_of, d_later_indexes, d_rows_to, d_triple_with, d_closed_table, d_check_boxes, d_check_script, d_check_index, d_check_box]
def dfs1 : List Df := [d_ways_of, d_surely_same, d_gives_back, d_follows, d_kept_for, d_tells, d_law_purse, d_law_pick, d_law_kind, d_law_names, d_law_made, d_law_size, d_law_subsets, d_law_row, d_law_right, d_law, d_Formula_init, d_Formula_parts, d_Formula_mul, d_Formula_floordiv, d_Formula_rshift, d_Formula_len, d_Formula_str, d_Kind_init, d_Kind_lot]
def dfs2 : List Df := [d_Closing_init, d_Closing_root, d_Closing_same, d_Closing_merge, d_Closing_close, d_Closing_entered, d_Closing_got, d_Table_init, d_Table_number, d_Table_same, d_Way_init, d_Way_take, d_Script_init, d_Kept_init, d_Kept_root, d_Kept_has]
def dfs : List Df := dfs0 ++ dfs1 ++ dfs2
def fas0 : List He.Fa := [.glo "is_integer", .glo "is_within", .glo "is_name", .glo "check_names", .glo "letter", .glo "operation_of", .glo "written_parts", .glo "check_operations", .glo "check_formula", .glo "check_formulas", .glo "check_facts", .glo "check_kind", .glo "turned", .glo "triple_of", .glo "setting_of", .glo "step_of", .glo "steps_of", .glo "later_indexes", .glo "rows_to", .glo "triple_with", .glo "closed_table", .glo "check_boxes", .glo "check_script", .glo "check_index", .glo "check_box"]
def fas1 : List He.Fa := [.glo "ways_of", .glo "surely_same", .glo "gives_back", .glo "follows", .glo "kept_for", .glo "tells", .glo "_law_purse", .glo "_law_pick", .glo "_law_kind", .glo "_law_names", .glo "_law_made", .glo "_law_size", .glo "_law_subsets", .glo "_law_row", .glo "_law_right", .glo "law", .glo "Formula", .glo "Kind", .glo "Closing", .glo "Table", .glo "Way", .glo "Script", .glo "Kept", .glo "MARKS", .glo "PLACES"]
def fas2 : List He.Fa := [.glo "TESTS", .glo "LOTS", .free "len", .free "isinstance", .free "str", .free "int", .free "all", .free "any", .free "range", .free "max", .free "min", .free "list", .free "tuple", .free "sorted", .free "enumerate", .free "zip", .free "abs", .free "divmod", .free "repr", .free "bool", .int "MOST_OPERATIONS" 8, .int "MOST_FORMULAS" 6, .int "MOST_FACTS" 4, .int "MOST_ROWS" 12, .int "MOST_TESTS" 4]
def fas3 : List He.Fa := [.int "LONGEST_NAME" 8, .int "MOST_NAMES" 6, .str "LETTERS" "abcdefghijklmnopqrstuvwxyz", .str "SIGNS" "abcdefghijklmnopqrstuvwxyz0123456789", .str "COPY" "copy", .str "GO" "go", .str "SAME" "same", .cls "Formula", .noat "Formula" "name", .noat "Formula" "sign", .noat "Formula" "left", .noat "Formula" "right", .noat "Formula" "signs", .noat "Formula" "text", .mkr "Formula", .cls "Kind", .noat "Kind" "turns", .noat "Kind" "calm", .mkr "Kind", .cls "Closing", .noat "Closing" "kind", .noat "Closing" "size", .noat "Closing" "operations", .noat "Closing" "above", .noat "Closing" "trail"]
def fas4 : List He.Fa := [.mkr "Closing", .cls "Table", .noat "Table" "numbers", .noat "Table" "letter_names", .noat "Table" "closing", .mkr "Table", .cls "Way", .noat "Way" "rows", .noat "Way" "operations", .noat "Way" "equals", .noat "Way" "unlikes", .noat "Way" "ends", .noat "Way" "size", .mkr "Way", .cls "Script", .noat "Script" "steps", .noat "Script" "kind", .noat "Script" "boxes", .noat "Script" "rows", .mkr "Script", .cls "Kept", .noat "Kept" "table", .noat "Kept" "known", .noat "Kept" "steps", .mkr "Kept"]
def fas5 : List He.Fa := [.meth "Formula" "__mul__", .meth "Formula" "__floordiv__", .meth "Formula" "__rshift__", .meth "Formula" "__len__", .meth "Formula" "__str__", .meth "Closing" "root", .meth "Closing" "same", .meth "Closing" "merge", .meth "Closing" "close", .meth "Closing" "entered", .meth "Closing" "got", .meth "Table" "number", .meth "Table" "same", .meth "Way" "take", .meth "Kept" "root", .meth "Kept" "has"]
def fas : List He.Fa := fas0 ++ fas1 ++ fas2 ++ fas3 ++ fas4 ++ fas5
/-! ### facts besides -/
def insB (K : PySem.W.Frag) (C : Addr) : Bool := He.eqO (PySem.W.findIn K (.ref C) "__class__") (some (some (.builtin "object.__class__"))) && (He.eqO (PySem.W.specialIn K (.builtin "object.__class__") "__get__") (some (some (.builtin "getset_descriptor.__get__"))) &&
  (decide (PySem.W.takesIn K (.builtin "object.__class__") = some true) && (decide (PySem.W.mroIn K C (.type "object") = some true) && decide (PySem.W.kitOne K (.ref C) (.ref C) = some true))))
theorem insB_ok {K : PySem.W.Frag} {C : Addr} (c : Cls K C) (h : insB K C = true) : C8.InsC K C := by
  obtain ⟨h1, h⟩ := He.ba h
  obtain ⟨h2, h⟩ := He.ba h
  obtain ⟨h3, h⟩ := He.ba h
  obtain ⟨h4, h5⟩ := He.ba h
  exact ⟨c, He.eqO_ok h1, He.eqO_ok h2, of_decide_eq_true h3, of_decide_eq_true h4, of_decide_eq_true h5⟩
def propB (K : PySem.W.Frag) (C : Addr) (f : Str) : Bool := He.eqO (PySem.W.findIn K (.ref C) f) (some (some (.ref (He.ma K C f)))) && (He.eqO (PySem.W.specialIn K (.ref (He.ma K C f)) "__get__") (some (some (.builtin "property.__get__"))) &&
  (decide (PySem.W.takesIn K (.ref (He.ma K C f)) = some true) && (match PySem.W.recIn K (He.ma K C f) "property" with
  | some (.ref g :: _) => decide (g = getterAt K (He.ma K C f))
  | _ => false)))
theorem propB_ok {K : PySem.W.Frag} {C : Addr} {f : Str} (h : propB K C f = true) : PropOf K C f (He.ma K C f) (getterAt K (He.ma K C f)) := by
  obtain ⟨h1, h⟩ := He.ba h
  obtain ⟨h2, h⟩ := He.ba h
  obtain ⟨h3, h4⟩ := He.ba h
  refine ⟨He.eqO_ok h1, He.eqO_ok h2, of_decide_eq_true h3, ?_⟩
  split at h4
  · rename_i g r e
    rw [← of_decide_eq_true h4]
    exact ⟨r, e⟩
  · cases h4
/-- at a a written tuple of these -/
def tupAtB (K : PySem.W.Frag) (a : Addr) (vs : List V) : Bool := match K.lookup a with
  | some ⟨.type c, _, .seq its _, _⟩ => decide (c = "tuple") && (decide (its.size ≤ sizeLine) && He.relAll vs its.toList)
  | _ => false
theorem tupAtB_ok {K : PySem.W.Frag} {a : Addr} {vs : List V} (h : tupAtB K a vs = true) : (∀ H : Hp, SqT K H a vs) ∧ ∃ o, K.lookup a = some o ∧ o.cls = .type "tuple" := by
  unfold tupAtB at h
  cases q : K.lookup a with
  | none => rw [q] at h; cases h
  | some o =>
    obtain ⟨oc, od, dt, osl⟩ := o
    rw [q] at h
    cases oc with
    | type c =>
      cases dt with
      | seq its n =>
        obtain ⟨h1, h2⟩ := He.ba (show (decide (c = "tuple") && (decide (its.size ≤ sizeLine) && He.relAll vs its.toList)) = true from h)
        obtain ⟨h3, h4⟩ := He.ba h2
        have hc := of_decide_eq_true h1
        exact ⟨fun H => .inr ⟨_, its, n, q, congrArg Value.type hc, rfl, of_decide_eq_true h3, He.relAll_ok h4⟩, _, rfl, congrArg Value.type hc⟩
      | _ => cases h
    | _ => cases dt <;> cases h
/-- the addresses of a written tuple's items -/
def itemsAt (K : PySem.W.Frag) (a : Addr) : List Addr := match K.lookup a with
  | some ⟨_, _, .seq its _, _⟩ => its.toList.map fun v => match v with
    | .ref b => b
    | _ => 0
  | _ => []
def lots : List (Str × List (List Int)) := [("plain", [[0, 1, 2]]), ("sides", [[0, 1, 2], [1, 0, 2]]), ("front", [[0, 1, 2], [2, 1, 0]]), ("back", [[0, 1, 2], [0, 2, 1]]),
  ("round", [[0, 1, 2], [1, 2, 0], [2, 0, 1]]),
  ("all", [[0, 1, 2], [0, 2, 1], [1, 0, 2], [1, 2, 0], [2, 0, 1], [2, 1, 0]])]
def pairAll (K : PySem.W.Frag) : List Addr → List (List Int) → Bool
  | [], [] => true
  | a :: r, t :: ts => tupAtB K a (t.map V.int) && pairAll K r ts
  | _, _ => false
def lotB (K : PySem.W.Frag) (q : Str × List (List Int)) : Bool := He.eqO (PySem.W.nsIn K (He.ga K "LOTS") q.1) (some (some (.ref (lotAt K q.1)))) && (tupAtB K (lotAt K q.1) ((itemsAt K (lotAt K q.1)).map V.ref) && pairAll K (itemsAt K (lotAt K q.1)) q.2)
def moreB (K : PySem.W.Frag) : Bool := insB K (CKind K) && (insB K (CFormula K) && (insB K (CScript K) && (propB K (CKind K) "lot" && (propB K (CFormula K) "parts" && (tupAtB K (He.ga K "MARKS") [.str "*", .str "//", .str ">>"] && (tupAtB K (He.ga K "PLACES") [.int 0, .int 1, .int 2] &&
  (tupAtB K (He.ga K "TESTS") [.str "same", .str "unlike"] && (tupAtB K (He.dflAt ("check_names", none) 1 K) [] && (tupAtB K (He.dflAt ("closed_table", none) 0 K) [] && (lots.all (lotB K) && (decide (PySem.W.selfFirst K (CFormula K) = true) && true)))))))))))
/-! ### the Hook -/
def lotKeys : List Str := ["plain", "sides", "front", "back", "round", "all"]
abbrev AlK : Type := Bool × List He.FnW × Option (List (Option (Str × Int)))
def obsK (K : PySem.W.Frag) : AlK := ((fas.all fun f => f.ok K) && ((dfs.all fun d => d.ok K) && moreB K), dfs.map (fun d => fnAt K (d.ad K)), He.dicW K (He.ga K "LOTS"))
def valK (w : World) : AlK := (true, dfs.map Df.val, some (He.keysIn w.params lotKeys))
def Says (w : World) (K : PySem.W.Frag) : Prop := obsK K = valK w
/-- what an object names, as far as the facts ask -/
def refsP (o : Obj) : List Addr := match o with
  | ⟨_, _, .seq its _, _⟩ => its.toList.flatMap He.refV
  | ⟨_, _, .dict es _, _⟩ => es.toList.flatMap fun e => He.refV e.val
  | ⟨_, _, .func fd, _⟩ => He.refV fd.code ++ (He.refV fd.defaults ++ He.refV fd.kwdefaults)
  | ⟨_, _, .cls cd, _⟩ => [cd.ns]
  | ⟨.type n, _, .fields vs, _⟩ => (match n == "property" with
    | true => vs.toList.flatMap He.refV
    | false => [])
  | _ => []
def stepP (g : Addr → Option Obj) (as : List Addr) : List Addr := as.flatMap fun a => match g a with
  | some o => refsP o
  | none => []
/-- n steps from these on, each step from the last one's addresses alone -/
def asP (g : Addr → Option Obj) : Nat → List Addr → List Addr
  | 0, as => as
  | n + 1, as => as ++ asP g n (stepP g as)
/-- the same, with every part looked at once, ahead of what is asked -/
def fA {β : Type} : List Addr → (List Addr → β) → β
  | [], k => k []
  | a :: as, k => HandSHeadRun.frNat a fun a => fA as fun as => k (a :: as)
theorem fA_eq {β : Type} : ∀ (as : List Addr) (k : List Addr → β), fA as k = k as
  | [], k => rfl
  | a :: as, k => by
    show HandSHeadRun.frNat a (fun a => fA as fun as => k (a :: as)) = _
    rw [HandSHeadRun.frNat_eq, fA_eq as]
def fV {β : Type} : List Value → (List Value → β) → β
  | [], k => k []
  | .ref a :: r, k => HandSHeadRun.frNat a fun a => fV r fun r => k (.ref a :: r)
  | v :: r, k => fV r fun r => k (v :: r)
theorem fV_eq {β : Type} : ∀ (l : List Value) (k : List Value → β), fV l k = k l
  | [], k => rfl
  | v :: r, k => by
    have ih := fV_eq (β := β) r
    cases v with
    | ref a =>
      show HandSHeadRun.frNat a (fun a => fV r fun r => k (.ref a :: r)) = _
      rw [HandSHeadRun.frNat_eq, ih]
    | _ => exact ih _
def fE {β : Type} : List DictEntry → (List DictEntry → β) → β
  | [], k => k []
  | ⟨h, x, .ref a⟩ :: r, k => HandSHeadRun.frNat a fun a => fE r fun r => k (⟨h, x, .ref a⟩ :: r)
  | ⟨h, x, v⟩ :: r, k => fE r fun r => k (⟨h, x, v⟩ :: r)
theorem fE_eq {β : Type} : ∀ (l : List DictEntry) (k : List DictEntry → β), fE l k = k l
  | [], k => rfl
  | ⟨h, x, v⟩ :: r, k => by
    have ih := fE_eq (β := β) r
    cases v with
    | ref a =>
      show HandSHeadRun.frNat a (fun a => fE r fun r => k (⟨h, x, .ref a⟩ :: r)) = _
      rw [HandSHeadRun.frNat_eq, ih]
    | _ => exact ih _
def fO {β : Type} : Obj → (Obj → β) → β
  | ⟨c, d, .dict es n, sl⟩, k => fE es.toList fun l => k ⟨c, d, .dict l.toArray n, sl⟩
  | ⟨c, d, .seq its n, sl⟩, k => fV its.toList fun l => k ⟨c, d, .seq l.toArray n, sl⟩
  | o, k => k o
theorem fO_eq {β : Type} (o : Obj) (k : Obj → β) : fO o k = k o := by
  obtain ⟨c, d, dt, sl⟩ := o
  cases dt with
  | dict es n =>
    show fE es.toList (fun l => k ⟨c, d, .dict l.toArray n, sl⟩) = _
    rw [fE_eq]
  | seq its n =>
    show fV its.toList (fun l => k ⟨c, d, .seq l.toArray n, sl⟩) = _
    rw [fV_eq]
  | _ => rfl
def fG {β : Type} (g : Addr → Option Obj) : List Addr → (PySem.W.Frag → β) → β
  | [], k => k []
  | a :: as, k => match g a with
    | some o => fO o fun o => fG g as fun K => k ((a, o) :: K)
    | none => fG g as k
theorem fG_eq {β : Type} {g : Addr → Option Obj} : ∀ (as : List Addr) (k : PySem.W.Frag → β), fG g as k = k (He.frG g as)
  | [], k => rfl
  | a :: as, k => by
    show (match g a with
      | some o => fO o fun o => fG g as fun K => k ((a, o) :: K)
      | none => fG g as k) = _
    unfold He.frG
    rw [List.filterMap_cons]
    cases e : g a with
    | none => exact fG_eq as k
    | some o =>
      show fO o (fun o => fG g as fun K => k ((a, o) :: K)) = _
      rw [fO_eq, fG_eq as]
      rfl
def obsKG (n : Nat) (g : Addr → Option Obj) : AlK := fA (asP g n [mainGlobals]) fun as => fG g as obsK
theorem obsKG_is (n : Nat) (g : Addr → Option Obj) : obsKG n g = obsK (He.frG g (asP g n [mainGlobals])) := by
  unfold obsKG
  rw [fA_eq, fG_eq]
def hookK (n : Nat) : PySem.W.Hook where
  α := AlK
  obs := fun s => obsKG n s.heap.get?
  val := fun w => valK w
  says := fun w h => ∃ K : PySem.W.Frag, K.In h ∧ Says w K
  of := fun _ _ e => ⟨_, He.frG_in, (obsKG_is _ _).symm.trans e⟩
  keeps := fun _ _ _ ⟨K, hK, c⟩ k => ⟨K, PySem.W.Frag.In.keeps hK k, c⟩
theorem obsKG_eq {n : Nat} {g : Addr → Option Obj} {s : Shared} (h : ∀ a, g a = s.heap.get? a) : obsKG n g = (hookK n).obs s := by
  have e : g = s.heap.get? := funext h
  rw [e] <;> rfl
/-! ### what a def's proof leans on -/
structure Tx (w : World) (K : PySem.W.Frag) (mg : Str → Option Value) : Prop where
  at_ : ∃ h : Heap, K.In h ∧ h.Ns mainGlobals mg
  c : Says w K
section
variable {w : World} {K : PySem.W.Frag} {mg : Str → Option Value}
theorem Tx.fa (T : Tx w K mg) (i : Nat) {f : He.Fa} (h : fas[i]? = some f := by rfl) : f.ok K = true :=
  List.all_eq_true.mp (He.ba (show ((fas.all fun f => f.ok K) && ((dfs.all fun d => d.ok K) && moreB K)) = true from congrArg (fun z : AlK => z.1) T.c)).1 f (List.mem_of_getElem? h)
theorem Tx.df (T : Tx w K mg) (i : Nat) {d : Df} (h : dfs[i]? = some d := by rfl) : ∃ z, FD K d z := by
  have c2 := (He.ba (He.ba (show ((fas.all fun f => f.ok K) && ((dfs.all fun d => d.ok K) && moreB K)) = true from congrArg (fun z : AlK => z.1) T.c)).2).1
  have e : dfs.map (fun d => fnAt K (d.ad K)) = dfs.map Df.val := congrArg (fun z : AlK => z.2.1) T.c
  have e2 : (dfs.map fun d => fnAt K (d.ad K))[i]? = (dfs.map Df.val)[i]? := by rw [e]
  rw [List.getElem?_map, List.getElem?_map, h] at e2
  exact Df.funD (Option.some.inj e2) (List.all_eq_true.mp c2 d (List.mem_of_getElem? h))
theorem Tx.moreB (T : Tx w K mg) : moreB K = true := (He.ba (He.ba (show ((fas.all fun f => f.ok K) && ((dfs.all fun d => d.ok K) && K8.moreB K)) = true from congrArg (fun z : AlK => z.1) T.c)).2).2
theorem Tx.lotD (T : Tx w K mg) : ∃ es n, KDict K w (He.ga K "LOTS") es n := He.dicW_ok (congrArg (fun z : AlK => z.2.2) T.c)
theorem Tx.g_is_integer (T : Tx w K mg) : mg "is_integer" = some (.ref (He.ga K "is_integer")) := by obtain ⟨h, X, G⟩ := T.at_; exact He.glo_ok X G (T.fa 0 (f := .glo "is_integer"))
theorem Tx.g_is_within (T : Tx w K mg) : mg "is_within" = some (.ref (He.ga K "is_within")) := by obtain ⟨h, X, G⟩ := T.at_; exact He.glo_ok X G (T.fa 1 (f := .glo "is_within"))
theorem Tx.g_is_name (T : Tx w K mg) : mg "is_name" = some (.ref (He.ga K "is_name")) := by obtain ⟨h, X, G⟩ := T.at_; exact He.glo_ok X G (T.fa 2 (f := .glo "is_name"))
theorem Tx.g_check_names (T : Tx w K mg) : mg "check_names" = some (.ref (He.ga K "check_names")) := by obtain ⟨h, X, G⟩ := T.at_; exact He.glo_ok X G (T.fa 3 (f := .glo "check_names"))
theorem Tx.g_letter (T : Tx w K mg) : mg "letter" = some (.ref (He.ga K "letter")) := by obtain ⟨h, X, G⟩ := T.at_; exact He.glo_ok X G (T.fa 4 (f := .glo "letter"))
theorem Tx.g_operation_of (T : Tx w K mg) : mg "operation_of" = some (.ref (He.ga K "operation_of")) := by obtain ⟨h, X, G⟩ := T.at_; exact He.glo_ok X G (T.fa 5 (f := .glo "operation_of"))
theorem Tx.g_written_parts (T : Tx w K mg) : mg "written_parts" = some (.ref (He.ga K "written_parts")) := by obtain ⟨h, X, G⟩ := T.at_; exact He.glo_ok X G (T.fa 6 (f := .glo "written_parts"))
theorem Tx.g_check_operations (T : Tx w K mg) : mg "check_operations" = some (.ref (He.ga K "check_operations")) := by obtain ⟨h, X, G⟩ := T.at_; exact He.glo_ok X G (T.fa 7 (f := .glo "check_operations"))
theorem Tx.g_check_formula (T : Tx w K mg) : mg "check_formula" = some (.ref (He.ga K "check_formula")) := by obtain ⟨h, X, G⟩ := T.at_; exact He.glo_ok X G (T.fa 8 (f := .glo "check_formula"))
theorem Tx.g_check_formulas (T : Tx w K mg) : mg "check_formulas" = some (.ref (He.ga K "check_formulas")) := by obtain ⟨h, X, G⟩ := T.at_; exact He.glo_ok X G (T.fa 9 (f := .glo "check_formulas"))
theorem Tx.g_check_facts (T : Tx w K mg) : mg "check_facts" = some (.ref (He.ga K "check_facts")) := by obtain ⟨h, X, G⟩ := T.at_; exact He.glo_ok X G (T.fa 10 (f := .glo "check_facts"))
theorem Tx.g_check_kind (T : Tx w K mg) : mg "check_kind" = some (.ref (He.ga K "check_kind")) := by obtain ⟨h, X, G⟩ := T.at_; exact He.glo_ok X G (T.fa 11 (f := .glo "check_kind"))
theorem Tx.g_turned (T : Tx w K mg) : mg "turned" = some (.ref (He.ga K "turned")) := by obtain ⟨h, X, G⟩ := T.at_; exact He.glo_ok X G (T.fa 12 (f := .glo "turned"))
theorem Tx.g_triple_of (T : Tx w K mg) : mg "triple_of" = some (.ref (He.ga K "triple_of")) := by obtain ⟨h, X, G⟩ := T.at_; exact He.glo_ok X G (T.fa 13 (f := .glo "triple_of"))
theorem Tx.g_setting_of (T : Tx w K mg) : mg "setting_of" = some (.ref (He.ga K "setting_of")) := by obtain ⟨h, X, G⟩ := T.at_; exact He.glo_ok X G (T.fa 14 (f := .glo "setting_of"))
theorem Tx.g_step_of (T : Tx w K mg) : mg "step_of" = some (.ref (He.ga K "step_of")) := by obtain ⟨h, X, G⟩ := T.at_; exact He.glo_ok X G (T.fa 15 (f := .glo "step_of"))
theorem Tx.g_steps_of (T : Tx w K mg) : mg "steps_of" = some (.ref (He.ga K "steps_of")) := by obtain ⟨h, X, G⟩ := T.at_; exact He.glo_ok X G (T.fa 16 (f := .glo "steps_of"))
theorem Tx.g_later_indexes (T : Tx w K mg) : mg "later_indexes" = some (.ref (He.ga K "later_indexes")) := by obtain ⟨h, X, G⟩ := T.at_; exact He.glo_ok X G (T.fa 17 (f := .glo "later_indexes"))
theorem Tx.g_rows_to (T : Tx w K mg) : mg "rows_to" = some (.ref (He.ga K "rows_to")) := by obtain ⟨h, X, G⟩ := T.at_; exact He.glo_ok X G (T.fa 18 (f := .glo "rows_to"))
theorem Tx.g_triple_with (T : Tx w K mg) : mg "triple_with" = some (.ref (He.ga K "triple_with")) := by obtain ⟨h, X, G⟩ := T.at_; exact He.glo_ok X G (T.fa 19 (f := .glo "triple_with"))
theorem Tx.g_closed_table (T : Tx w K mg) : mg "closed_table" = some (.ref (He.ga K "closed_table")) := by obtain ⟨h, X, G⟩ := T.at_; exact He.glo_ok X G (T.fa 20 (f := .glo "closed_table"))
theorem Tx.g_check_boxes (T : Tx w K mg) : mg "check_boxes" = some (.ref (He.ga K "check_boxes")) := by obtain ⟨h, X, G⟩ := T.at_; exact He.glo_ok X G (T.fa 21 (f := .glo "check_boxes"))
theorem Tx.g_check_script (T : Tx w K mg) : mg "check_script" = some (.ref (He.ga K "check_script")) := by obtain ⟨h, X, G⟩ := T.at_; exact He.glo_ok X G (T.fa 22 (f := .glo "check_script"))
theorem Tx.g_check_index (T : Tx w K mg) : mg "check_index" = some (.ref (He.ga K "check_index")) := by obtain ⟨h, X, G⟩ := T.at_; exact He.glo_ok X G (T.fa 23 (f := .glo "check_index"))
theorem Tx.g_check_box (T : Tx w K mg) : mg "check_box" = some (.ref (He.ga K "check_box")) := by obtain ⟨h, X, G⟩ := T.at_; exact He.glo_ok X G (T.fa 24 (f := .glo "check_box"))
theorem Tx.g_ways_of (T : Tx w K mg) : mg "ways_of" = some (.ref (He.ga K "ways_of")) := by obtain ⟨h, X, G⟩ := T.at_; exact He.glo_ok X G (T.fa 25 (f := .glo "ways_of"))
theorem Tx.g_surely_same (T : Tx w K mg) : mg "surely_same" = some (.ref (He.ga K "surely_same")) := by obtain ⟨h, X, G⟩ := T.at_; exact He.glo_ok X G (T.fa 26 (f := .glo "surely_same"))
theorem Tx.g_gives_back (T : Tx w K mg) : mg "gives_back" = some (.ref (He.ga K "gives_back")) := by obtain ⟨h, X, G⟩ := T.at_; exact He.glo_ok X G (T.fa 27 (f := .glo "gives_back"))
theorem Tx.g_follows (T : Tx w K mg) : mg "follows" = some (.ref (He.ga K "follows")) := by obtain ⟨h, X, G⟩ := T.at_; exact He.glo_ok X G (T.fa 28 (f := .glo "follows"))
theorem Tx.g_kept_for (T : Tx w K mg) : mg "kept_for" = some (.ref (He.ga K "kept_for")) := by obtain ⟨h, X, G⟩ := T.at_; exact He.glo_ok X G (T.fa 29 (f := .glo "kept_for"))
theorem Tx.g_tells (T : Tx w K mg) : mg "tells" = some (.ref (He.ga K "tells")) := by obtain ⟨h, X, G⟩ := T.at_; exact He.glo_ok X G (T.fa 30 (f := .glo "tells"))
theorem Tx.g_law_purse (T : Tx w K mg) : mg "_law_purse" = some (.ref (He.ga K "_law_purse")) := by obtain ⟨h, X, G⟩ := T.at_; exact He.glo_ok X G (T.fa 31 (f := .glo "_law_purse"))
theorem Tx.g_law_pick (T : Tx w K mg) : mg "_law_pick" = some (.ref (He.ga K "_law_pick")) := by obtain ⟨h, X, G⟩ := T.at_; exact He.glo_ok X G (T.fa 32 (f := .glo "_law_pick"))
theorem Tx.g_law_kind (T : Tx w K mg) : mg "_law_kind" = some (.ref (He.ga K "_law_kind")) := by obtain ⟨h, X, G⟩ := T.at_; exact He.glo_ok X G (T.fa 33 (f := .glo "_law_kind"))
theorem Tx.g_law_names (T : Tx w K mg) : mg "_law_names" = some (.ref (He.ga K "_law_names")) := by obtain ⟨h, X, G⟩ := T.at_; exact He.glo_ok X G (T.fa 34 (f := .glo "_law_names"))
theorem Tx.g_law_made (T : Tx w K mg) : mg "_law_made" = some (.ref (He.ga K "_law_made")) := by obtain ⟨h, X, G⟩ := T.at_; exact He.glo_ok X G (T.fa 35 (f := .glo "_law_made"))
theorem Tx.g_law_size (T : Tx w K mg) : mg "_law_size" = some (.ref (He.ga K "_law_size")) := by obtain ⟨h, X, G⟩ := T.at_; exact He.glo_ok X G (T.fa 36 (f := .glo "_law_size"))
theorem Tx.g_law_subsets (T : Tx w K mg) : mg "_law_subsets" = some (.ref (He.ga K "_law_subsets")) := by obtain ⟨h, X, G⟩ := T.at_; exact He.glo_ok X G (T.fa 37 (f := .glo "_law_subsets"))
theorem Tx.g_law_row (T : Tx w K mg) : mg "_law_row" = some (.ref (He.ga K "_law_row")) := by obtain ⟨h, X, G⟩ := T.at_; exact He.glo_ok X G (T.fa 38 (f := .glo "_law_row"))
theorem Tx.g_law_right (T : Tx w K mg) : mg "_law_right" = some (.ref (He.ga K "_law_right")) := by obtain ⟨h, X, G⟩ := T.at_; exact He.glo_ok X G (T.fa 39 (f := .glo "_law_right"))
theorem Tx.g_law (T : Tx w K mg) : mg "law" = some (.ref (He.ga K "law")) := by obtain ⟨h, X, G⟩ := T.at_; exact He.glo_ok X G (T.fa 40 (f := .glo "law"))
theorem Tx.g_Formula (T : Tx w K mg) : mg "Formula" = some (.ref (He.ga K "Formula")) := by obtain ⟨h, X, G⟩ := T.at_; exact He.glo_ok X G (T.fa 41 (f := .glo "Formula"))
theorem Tx.g_Kind (T : Tx w K mg) : mg "Kind" = some (.ref (He.ga K "Kind")) := by obtain ⟨h, X, G⟩ := T.at_; exact He.glo_ok X G (T.fa 42 (f := .glo "Kind"))
theorem Tx.g_Closing (T : Tx w K mg) : mg "Closing" = some (.ref (He.ga K "Closing")) := by obtain ⟨h, X, G⟩ := T.at_; exact He.glo_ok X G (T.fa 43 (f := .glo "Closing"))
theorem Tx.g_Table (T : Tx w K mg) : mg "Table" = some (.ref (He.ga K "Table")) := by obtain ⟨h, X, G⟩ := T.at_; exact He.glo_ok X G (T.fa 44 (f := .glo "Table"))
theorem Tx.g_Way (T : Tx w K mg) : mg "Way" = some (.ref (He.ga K "Way")) := by obtain ⟨h, X, G⟩ := T.at_; exact He.glo_ok X G (T.fa 45 (f := .glo "Way"))
theorem Tx.g_Script (T : Tx w K mg) : mg "Script" = some (.ref (He.ga K "Script")) := by obtain ⟨h, X, G⟩ := T.at_; exact He.glo_ok X G (T.fa 46 (f := .glo "Script"))
theorem Tx.g_Kept (T : Tx w K mg) : mg "Kept" = some (.ref (He.ga K "Kept")) := by obtain ⟨h, X, G⟩ := T.at_; exact He.glo_ok X G (T.fa 47 (f := .glo "Kept"))
theorem Tx.g_MARKS (T : Tx w K mg) : mg "MARKS" = some (.ref (He.ga K "MARKS")) := by obtain ⟨h, X, G⟩ := T.at_; exact He.glo_ok X G (T.fa 48 (f := .glo "MARKS"))
theorem Tx.g_PLACES (T : Tx w K mg) : mg "PLACES" = some (.ref (He.ga K "PLACES")) := by obtain ⟨h, X, G⟩ := T.at_; exact He.glo_ok X G (T.fa 49 (f := .glo "PLACES"))
theorem Tx.g_TESTS (T : Tx w K mg) : mg "TESTS" = some (.ref (He.ga K "TESTS")) := by obtain ⟨h, X, G⟩ := T.at_; exact He.glo_ok X G (T.fa 50 (f := .glo "TESTS"))
theorem Tx.g_LOTS (T : Tx w K mg) : mg "LOTS" = some (.ref (He.ga K "LOTS")) := by obtain ⟨h, X, G⟩ := T.at_; exact He.glo_ok X G (T.fa 51 (f := .glo "LOTS"))
theorem Tx.b_len (T : Tx w K mg) : mg "len" = none := by obtain ⟨h, X, G⟩ := T.at_; exact He.free_ok X G (T.fa 52 (f := .free "len"))
theorem Tx.b_isinstance (T : Tx w K mg) : mg "isinstance" = none := by obtain ⟨h, X, G⟩ := T.at_; exact He.free_ok X G (T.fa 53 (f := .free "isinstance"))
theorem Tx.b_str (T : Tx w K mg) : mg "str" = none := by obtain ⟨h, X, G⟩ := T.at_; exact He.free_ok X G (T.fa 54 (f := .free "str"))
theorem Tx.b_int (T : Tx w K mg) : mg "int" = none := by obtain ⟨h, X, G⟩ := T.at_; exact He.free_ok X G (T.fa 55 (f := .free "int"))
theorem Tx.b_all (T : Tx w K mg) : mg "all" = none := by obtain ⟨h, X, G⟩ := T.at_; exact He.free_ok X G (T.fa 56 (f := .free "all"))
theorem Tx.b_any (T : Tx w K mg) : mg "any" = none := by obtain ⟨h, X, G⟩ := T.at_; exact He.free_ok X G (T.fa 57 (f := .free "any"))
theorem Tx.b_range (T : Tx w K mg) : mg "range" = none := by obtain ⟨h, X, G⟩ := T.at_; exact He.free_ok X G (T.fa 58 (f := .free "range"))
theorem Tx.b_max (T : Tx w K mg) : mg "max" = none := by obtain ⟨h, X, G⟩ := T.at_; exact He.free_ok X G (T.fa 59 (f := .free "max"))
theorem Tx.b_min (T : Tx w K mg) : mg "min" = none := by obtain ⟨h, X, G⟩ := T.at_; exact He.free_ok X G (T.fa 60 (f := .free "min"))
theorem Tx.b_list (T : Tx w K mg) : mg "list" = none := by obtain ⟨h, X, G⟩ := T.at_; exact He.free_ok X G (T.fa 61 (f := .free "list"))
theorem Tx.b_tuple (T : Tx w K mg) : mg "tuple" = none := by obtain ⟨h, X, G⟩ := T.at_; exact He.free_ok X G (T.fa 62 (f := .free "tuple"))
theorem Tx.b_sorted (T : Tx w K mg) : mg "sorted" = none := by obtain ⟨h, X, G⟩ := T.at_; exact He.free_ok X G (T.fa 63 (f := .free "sorted"))
theorem Tx.b_enumerate (T : Tx w K mg) : mg "enumerate" = none := by obtain ⟨h, X, G⟩ := T.at_; exact He.free_ok X G (T.fa 64 (f := .free "enumerate"))
theorem Tx.b_zip (T : Tx w K mg) : mg "zip" = none := by obtain ⟨h, X, G⟩ := T.at_; exact He.free_ok X G (T.fa 65 (f := .free "zip"))
theorem Tx.b_abs (T : Tx w K mg) : mg "abs" = none := by obtain ⟨h, X, G⟩ := T.at_; exact He.free_ok X G (T.fa 66 (f := .free "abs"))
theorem Tx.b_divmod (T : Tx w K mg) : mg "divmod" = none := by obtain ⟨h, X, G⟩ := T.at_; exact He.free_ok X G (T.fa 67 (f := .free "divmod"))
theorem Tx.b_repr (T : Tx w K mg) : mg "repr" = none := by obtain ⟨h, X, G⟩ := T.at_; exact He.free_ok X G (T.fa 68 (f := .free "repr"))
theorem Tx.b_bool (T : Tx w K mg) : mg "bool" = none := by obtain ⟨h, X, G⟩ := T.at_; exact He.free_ok X G (T.fa 69 (f := .free "bool"))
theorem Tx.i_MOST_OPERATIONS (T : Tx w K mg) : ∃ t, mg "MOST_OPERATIONS" = some (.int 8 t) := by obtain ⟨h, X, G⟩ := T.at_; exact He.int_ok X G (T.fa 70 (f := .int "MOST_OPERATIONS" 8))
theorem Tx.i_MOST_FORMULAS (T : Tx w K mg) : ∃ t, mg "MOST_FORMULAS" = some (.int 6 t) := by obtain ⟨h, X, G⟩ := T.at_; exact He.int_ok X G (T.fa 71 (f := .int "MOST_FORMULAS" 6))
theorem Tx.i_MOST_FACTS (T : Tx w K mg) : ∃ t, mg "MOST_FACTS" = some (.int 4 t) := by obtain ⟨h, X, G⟩ := T.at_; exact He.int_ok X G (T.fa 72 (f := .int "MOST_FACTS" 4))
theorem Tx.i_MOST_ROWS (T : Tx w K mg) : ∃ t, mg "MOST_ROWS" = some (.int 12 t) := by obtain ⟨h, X, G⟩ := T.at_; exact He.int_ok X G (T.fa 73 (f := .int "MOST_ROWS" 12))
theorem Tx.i_MOST_TESTS (T : Tx w K mg) : ∃ t, mg "MOST_TESTS" = some (.int 4 t) := by obtain ⟨h, X, G⟩ := T.at_; exact He.int_ok X G (T.fa 74 (f := .int "MOST_TESTS" 4))
theorem Tx.i_LONGEST_NAME (T : Tx w K mg) : ∃ t, mg "LONGEST_NAME" = some (.int 8 t) := by obtain ⟨h, X, G⟩ := T.at_; exact He.int_ok X G (T.fa 75 (f := .int "LONGEST_NAME" 8))
theorem Tx.i_MOST_NAMES (T : Tx w K mg) : ∃ t, mg "MOST_NAMES" = some (.int 6 t) := by obtain ⟨h, X, G⟩ := T.at_; exact He.int_ok X G (T.fa 76 (f := .int "MOST_NAMES" 6))
theorem Tx.t_LETTERS (T : Tx w K mg) : ∃ t, mg "LETTERS" = some (.str "abcdefghijklmnopqrstuvwxyz" t) := by obtain ⟨h, X, G⟩ := T.at_; exact He.str_ok X G (T.fa 77 (f := .str "LETTERS" "abcdefghijklmnopqrstuvwxyz"))
theorem Tx.t_SIGNS (T : Tx w K mg) : ∃ t, mg "SIGNS" = some (.str "abcdefghijklmnopqrstuvwxyz0123456789" t) := by obtain ⟨h, X, G⟩ := T.at_; exact He.str_ok X G (T.fa 78 (f := .str "SIGNS" "abcdefghijklmnopqrstuvwxyz0123456789"))
theorem Tx.t_COPY (T : Tx w K mg) : ∃ t, mg "COPY" = some (.str "copy" t) := by obtain ⟨h, X, G⟩ := T.at_; exact He.str_ok X G (T.fa 79 (f := .str "COPY" "copy"))
theorem Tx.t_GO (T : Tx w K mg) : ∃ t, mg "GO" = some (.str "go" t) := by obtain ⟨h, X, G⟩ := T.at_; exact He.str_ok X G (T.fa 80 (f := .str "GO" "go"))
theorem Tx.t_SAME (T : Tx w K mg) : ∃ t, mg "SAME" = some (.str "same" t) := by obtain ⟨h, X, G⟩ := T.at_; exact He.str_ok X G (T.fa 81 (f := .str "SAME" "same"))
theorem Tx.cl_Formula (T : Tx w K mg) : Cls K (CFormula K) := He.cls_ok (T.fa 82 (f := .cls "Formula"))
theorem Tx.na_Formula_name (T : Tx w K mg) : NoAttr K (CFormula K) "name" := He.noat_ok (T.fa 83 (f := .noat "Formula" "name"))
theorem Tx.na_Formula_sign (T : Tx w K mg) : NoAttr K (CFormula K) "sign" := He.noat_ok (T.fa 84 (f := .noat "Formula" "sign"))
theorem Tx.na_Formula_left (T : Tx w K mg) : NoAttr K (CFormula K) "left" := He.noat_ok (T.fa 85 (f := .noat "Formula" "left"))
theorem Tx.na_Formula_right (T : Tx w K mg) : NoAttr K (CFormula K) "right" := He.noat_ok (T.fa 86 (f := .noat "Formula" "right"))
theorem Tx.na_Formula_signs (T : Tx w K mg) : NoAttr K (CFormula K) "signs" := He.noat_ok (T.fa 87 (f := .noat "Formula" "signs"))
theorem Tx.na_Formula_text (T : Tx w K mg) : NoAttr K (CFormula K) "text" := He.noat_ok (T.fa 88 (f := .noat "Formula" "text"))
theorem Tx.mk_Formula (T : Tx w K mg) : Mk K (CFormula K) (He.ma K (CFormula K) "__init__") := He.mkr_ok (T.fa 89 (f := .mkr "Formula"))
theorem Tx.cl_Kind (T : Tx w K mg) : Cls K (CKind K) := He.cls_ok (T.fa 90 (f := .cls "Kind"))
theorem Tx.na_Kind_turns (T : Tx w K mg) : NoAttr K (CKind K) "turns" := He.noat_ok (T.fa 91 (f := .noat "Kind" "turns"))
theorem Tx.na_Kind_calm (T : Tx w K mg) : NoAttr K (CKind K) "calm" := He.noat_ok (T.fa 92 (f := .noat "Kind" "calm"))
theorem Tx.mk_Kind (T : Tx w K mg) : Mk K (CKind K) (He.ma K (CKind K) "__init__") := He.mkr_ok (T.fa 93 (f := .mkr "Kind"))
theorem Tx.cl_Closing (T : Tx w K mg) : Cls K (CClosing K) := He.cls_ok (T.fa 94 (f := .cls "Closing"))
theorem Tx.na_Closing_kind (T : Tx w K mg) : NoAttr K (CClosing K) "kind" := He.noat_ok (T.fa 95 (f := .noat "Closing" "kind"))
theorem Tx.na_Closing_size (T : Tx w K mg) : NoAttr K (CClosing K) "size" := He.noat_ok (T.fa 96 (f := .noat "Closing" "size"))
theorem Tx.na_Closing_operations (T : Tx w K mg) : NoAttr K (CClosing K) "operations" := He.noat_ok (T.fa 97 (f := .noat "Closing" "operations"))
theorem Tx.na_Closing_above (T : Tx w K mg) : NoAttr K (CClosing K) "above" := He.noat_ok (T.fa 98 (f := .noat "Closing" "above"))
theorem Tx.na_Closing_trail (T : Tx w K mg) : NoAttr K (CClosing K) "trail" := He.noat_ok (T.fa 99 (f := .noat "Closing" "trail"))
theorem Tx.mk_Closing (T : Tx w K mg) : Mk K (CClosing K) (He.ma K (CClosing K) "__init__") := He.mkr_ok (T.fa 100 (f := .mkr "Closing"))
theorem Tx.cl_Table (T : Tx w K mg) : Cls K (CTable K) := He.cls_ok (T.fa 101 (f := .cls "Table"))
theorem Tx.na_Table_numbers (T : Tx w K mg) : NoAttr K (CTable K) "numbers" := He.noat_ok (T.fa 102 (f := .noat "Table" "numbers"))
theorem Tx.na_Table_letter_names (T : Tx w K mg) : NoAttr K (CTable K) "letter_names" := He.noat_ok (T.fa 103 (f := .noat "Table" "letter_names"))
theorem Tx.na_Table_closing (T : Tx w K mg) : NoAttr K (CTable K) "closing" := He.noat_ok (T.fa 104 (f := .noat "Table" "closing"))
theorem Tx.mk_Table (T : Tx w K mg) : Mk K (CTable K) (He.ma K (CTable K) "__init__") := He.mkr_ok (T.fa 105 (f := .mkr "Table"))
theorem Tx.cl_Way (T : Tx w K mg) : Cls K (CWay K) := He.cls_ok (T.fa 106 (f := .cls "Way"))
theorem Tx.na_Way_rows (T : Tx w K mg) : NoAttr K (CWay K) "rows" := He.noat_ok (T.fa 107 (f := .noat "Way" "rows"))
theorem Tx.na_Way_operations (T : Tx w K mg) : NoAttr K (CWay K) "operations" := He.noat_ok (T.fa 108 (f := .noat "Way" "operations"))
theorem Tx.na_Way_equals (T : Tx w K mg) : NoAttr K (CWay K) "equals" := He.noat_ok (T.fa 109 (f := .noat "Way" "equals"))
theorem Tx.na_Way_unlikes (T : Tx w K mg) : NoAttr K (CWay K) "unlikes" := He.noat_ok (T.fa 110 (f := .noat "Way" "unlikes"))
theorem Tx.na_Way_ends (T : Tx w K mg) : NoAttr K (CWay K) "ends" := He.noat_ok (T.fa 111 (f := .noat "Way" "ends"))
theorem Tx.na_Way_size (T : Tx w K mg) : NoAttr K (CWay K) "size" := He.noat_ok (T.fa 112 (f := .noat "Way" "size"))
theorem Tx.mk_Way (T : Tx w K mg) : Mk K (CWay K) (He.ma K (CWay K) "__init__") := He.mkr_ok (T.fa 113 (f := .mkr "Way"))
theorem Tx.cl_Script (T : Tx w K mg) : Cls K (CScript K) := He.cls_ok (T.fa 114 (f := .cls "Script"))
theorem Tx.na_Script_steps (T : Tx w K mg) : NoAttr K (CScript K) "steps" := He.noat_ok (T.fa 115 (f := .noat "Script" "steps"))
theorem Tx.na_Script_kind (T : Tx w K mg) : NoAttr K (CScript K) "kind" := He.noat_ok (T.fa 116 (f := .noat "Script" "kind"))
theorem Tx.na_Script_boxes (T : Tx w K mg) : NoAttr K (CScript K) "boxes" := He.noat_ok (T.fa 117 (f := .noat "Script" "boxes"))
theorem Tx.na_Script_rows (T : Tx w K mg) : NoAttr K (CScript K) "rows" := He.noat_ok (T.fa 118 (f := .noat "Script" "rows"))
theorem Tx.mk_Script (T : Tx w K mg) : Mk K (CScript K) (He.ma K (CScript K) "__init__") := He.mkr_ok (T.fa 119 (f := .mkr "Script"))
theorem Tx.cl_Kept (T : Tx w K mg) : Cls K (CKept K) := He.cls_ok (T.fa 120 (f := .cls "Kept"))
theorem Tx.na_Kept_table (T : Tx w K mg) : NoAttr K (CKept K) "table" := He.noat_ok (T.fa 121 (f := .noat "Kept" "table"))
theorem Tx.na_Kept_known (T : Tx w K mg) : NoAttr K (CKept K) "known" := He.noat_ok (T.fa 122 (f := .noat "Kept" "known"))
theorem Tx.na_Kept_steps (T : Tx w K mg) : NoAttr K (CKept K) "steps" := He.noat_ok (T.fa 123 (f := .noat "Kept" "steps"))
theorem Tx.mk_Kept (T : Tx w K mg) : Mk K (CKept K) (He.ma K (CKept K) "__init__") := He.mkr_ok (T.fa 124 (f := .mkr "Kept"))
theorem Tx.mt_Formula_mul (T : Tx w K mg) : Meth K (CFormula K) "__mul__" (He.ma K (CFormula K) "__mul__") := He.meth_ok (T.fa 125 (f := .meth "Formula" "__mul__"))
theorem Tx.mt_Formula_floordiv (T : Tx w K mg) : Meth K (CFormula K) "__floordiv__" (He.ma K (CFormula K) "__floordiv__") := He.meth_ok (T.fa 126 (f := .meth "Formula" "__floordiv__"))
theorem Tx.mt_Formula_rshift (T : Tx w K mg) : Meth K (CFormula K) "__rshift__" (He.ma K (CFormula K) "__rshift__") := He.meth_ok (T.fa 127 (f := .meth "Formula" "__rshift__"))
theorem Tx.mt_Formula_len (T : Tx w K mg) : Meth K (CFormula K) "__len__" (He.ma K (CFormula K) "__len__") := He.meth_ok (T.fa 128 (f := .meth "Formula" "__len__"))
theorem Tx.mt_Formula_str (T : Tx w K mg) : Meth K (CFormula K) "__str__" (He.ma K (CFormula K) "__str__") := He.meth_ok (T.fa 129 (f := .meth "Formula" "__str__"))
theorem Tx.mt_Closing_root (T : Tx w K mg) : Meth K (CClosing K) "root" (He.ma K (CClosing K) "root") := He.meth_ok (T.fa 130 (f := .meth "Closing" "root"))
theorem Tx.mt_Closing_same (T : Tx w K mg) : Meth K (CClosing K) "same" (He.ma K (CClosing K) "same") := He.meth_ok (T.fa 131 (f := .meth "Closing" "same"))
theorem Tx.mt_Closing_merge (T : Tx w K mg) : Meth K (CClosing K) "merge" (He.ma K (CClosing K) "merge") := He.meth_ok (T.fa 132 (f := .meth "Closing" "merge"))
theorem Tx.mt_Closing_close (T : Tx w K mg) : Meth K (CClosing K) "close" (He.ma K (CClosing K) "close") := He.meth_ok (T.fa 133 (f := .meth "Closing" "close"))
theorem Tx.mt_Closing_entered (T : Tx w K mg) : Meth K (CClosing K) "entered" (He.ma K (CClosing K) "entered") := He.meth_ok (T.fa 134 (f := .meth "Closing" "entered"))
theorem Tx.mt_Closing_got (T : Tx w K mg) : Meth K (CClosing K) "got" (He.ma K (CClosing K) "got") := He.meth_ok (T.fa 135 (f := .meth "Closing" "got"))
theorem Tx.mt_Table_number (T : Tx w K mg) : Meth K (CTable K) "number" (He.ma K (CTable K) "number") := He.meth_ok (T.fa 136 (f := .meth "Table" "number"))
theorem Tx.mt_Table_same (T : Tx w K mg) : Meth K (CTable K) "same" (He.ma K (CTable K) "same") := He.meth_ok (T.fa 137 (f := .meth "Table" "same"))
theorem Tx.mt_Way_take (T : Tx w K mg) : Meth K (CWay K) "take" (He.ma K (CWay K) "take") := He.meth_ok (T.fa 138 (f := .meth "Way" "take"))
theorem Tx.mt_Kept_root (T : Tx w K mg) : Meth K (CKept K) "root" (He.ma K (CKept K) "root") := He.meth_ok (T.fa 139 (f := .meth "Kept" "root"))
theorem Tx.mt_Kept_has (T : Tx w K mg) : Meth K (CKept K) "has" (He.ma K (CKept K) "has") := He.meth_ok (T.fa 140 (f := .meth "Kept" "has"))
theorem Tx.v_MOST_OPERATIONS (T : Tx w K mg) : ∃ u, mg "MOST_OPERATIONS" = some u ∧ RelV (.int 8) u := let ⟨t, h⟩ := T.i_MOST_OPERATIONS; ⟨_, h, t, rfl⟩
theorem Tx.v_MOST_FORMULAS (T : Tx w K mg) : ∃ u, mg "MOST_FORMULAS" = some u ∧ RelV (.int 6) u := let ⟨t, h⟩ := T.i_MOST_FORMULAS; ⟨_, h, t, rfl⟩
theorem Tx.v_MOST_FACTS (T : Tx w K mg) : ∃ u, mg "MOST_FACTS" = some u ∧ RelV (.int 4) u := let ⟨t, h⟩ := T.i_MOST_FACTS; ⟨_, h, t, rfl⟩
theorem Tx.v_MOST_ROWS (T : Tx w K mg) : ∃ u, mg "MOST_ROWS" = some u ∧ RelV (.int 12) u := let ⟨t, h⟩ := T.i_MOST_ROWS; ⟨_, h, t, rfl⟩
theorem Tx.v_MOST_TESTS (T : Tx w K mg) : ∃ u, mg "MOST_TESTS" = some u ∧ RelV (.int 4) u := let ⟨t, h⟩ := T.i_MOST_TESTS; ⟨_, h, t, rfl⟩
theorem Tx.v_LONGEST_NAME (T : Tx w K mg) : ∃ u, mg "LONGEST_NAME" = some u ∧ RelV (.int 8) u := let ⟨t, h⟩ := T.i_LONGEST_NAME; ⟨_, h, t, rfl⟩
theorem Tx.v_MOST_NAMES (T : Tx w K mg) : ∃ u, mg "MOST_NAMES" = some u ∧ RelV (.int 6) u := let ⟨t, h⟩ := T.i_MOST_NAMES; ⟨_, h, t, rfl⟩
theorem Tx.v_LETTERS (T : Tx w K mg) : ∃ u, mg "LETTERS" = some u ∧ RelV (.str "abcdefghijklmnopqrstuvwxyz") u := let ⟨t, h⟩ := T.t_LETTERS; ⟨_, h, t, rfl⟩
theorem Tx.v_SIGNS (T : Tx w K mg) : ∃ u, mg "SIGNS" = some u ∧ RelV (.str "abcdefghijklmnopqrstuvwxyz0123456789") u := let ⟨t, h⟩ := T.t_SIGNS; ⟨_, h, t, rfl⟩
theorem Tx.v_COPY (T : Tx w K mg) : ∃ u, mg "COPY" = some u ∧ RelV (.str "copy") u := let ⟨t, h⟩ := T.t_COPY; ⟨_, h, t, rfl⟩
theorem Tx.v_GO (T : Tx w K mg) : ∃ u, mg "GO" = some u ∧ RelV (.str "go") u := let ⟨t, h⟩ := T.t_GO; ⟨_, h, t, rfl⟩
theorem Tx.v_SAME (T : Tx w K mg) : ∃ u, mg "SAME" = some u ∧ RelV (.str "same") u := let ⟨t, h⟩ := T.t_SAME; ⟨_, h, t, rfl⟩
theorem Tx.v_MARKS (T : Tx w K mg) : ∃ u, mg "MARKS" = some u ∧ RelV (.ref (He.ga K "MARKS")) u := ⟨_, T.g_MARKS, rfl⟩
theorem Tx.v_PLACES (T : Tx w K mg) : ∃ u, mg "PLACES" = some u ∧ RelV (.ref (He.ga K "PLACES")) u := ⟨_, T.g_PLACES, rfl⟩
theorem Tx.v_TESTS (T : Tx w K mg) : ∃ u, mg "TESTS" = some u ∧ RelV (.ref (He.ga K "TESTS")) u := ⟨_, T.g_TESTS, rfl⟩
theorem Tx.v_LOTS (T : Tx w K mg) : ∃ u, mg "LOTS" = some u ∧ RelV (.ref (He.ga K "LOTS")) u := ⟨_, T.g_LOTS, rfl⟩
theorem Tx.v_Kind (T : Tx w K mg) : ∃ u, mg "Kind" = some u ∧ RelV (.ref (He.ga K "Kind")) u := ⟨_, T.g_Kind, rfl⟩
theorem Tx.v_Formula (T : Tx w K mg) : ∃ u, mg "Formula" = some u ∧ RelV (.ref (He.ga K "Formula")) u := ⟨_, T.g_Formula, rfl⟩
theorem Tx.v_Script (T : Tx w K mg) : ∃ u, mg "Script" = some u ∧ RelV (.ref (He.ga K "Script")) u := ⟨_, T.g_Script, rfl⟩
theorem Tx.f_is_integer (T : Tx w K mg) : ∃ z, FD K d_is_integer z := T.df 0
theorem Tx.f_is_within (T : Tx w K mg) : ∃ z, FD K d_is_within z := T.df 1
theorem Tx.f_is_name (T : Tx w K mg) : ∃ z, FD K d_is_name z := T.df 2
theorem Tx.f_check_names (T : Tx w K mg) : ∃ z, FD K d_check_names z := T.df 3
theorem Tx.f_letter (T : Tx w K mg) : ∃ z, FD K d_letter z := T.df 4
theorem Tx.f_operation_of (T : Tx w K mg) : ∃ z, FD K d_operation_of z := T.df 5
theorem Tx.f_written_parts (T : Tx w K mg) : ∃ z, FD K d_written_parts z := T.df 6
theorem Tx.f_check_operations (T : Tx w K mg) : ∃ z, FD K d_check_operations z := T.df 7
theorem Tx.f_check_formula (T : Tx w K mg) : ∃ z, FD K d_check_formula z := T.df 8
theorem Tx.f_check_formulas (T : Tx w K mg) : ∃ z, FD K d_check_formulas z := T.df 9
theorem Tx.f_check_facts (T : Tx w K mg) : ∃ z, FD K d_check_facts z := T.df 10
theorem Tx.f_check_kind (T : Tx w K mg) : ∃ z, FD K d_check_kind z := T.df 11
theorem Tx.f_turned (T : Tx w K mg) : ∃ z, FD K d_turned z := T.df 12
theorem Tx.f_triple_of (T : Tx w K mg) : ∃ z, FD K d_triple_of z := T.df 13
theorem Tx.f_setting_of (T : Tx w K mg) : ∃ z, FD K d_setting_of z := T.df 14
theorem Tx.f_step_of (T : Tx w K mg) : ∃ z, FD K d_step_of z := T.df 15
theorem Tx.f_steps_of (T : Tx w K mg) : ∃ z, FD K d_steps_of z := T.df 16
theorem Tx.f_later_indexes (T : Tx w K mg) : ∃ z, FD K d_later_indexes z := T.df 17
theorem Tx.f_rows_to (T : Tx w K mg) : ∃ z, FD K d_rows_to z := T.df 18
theorem Tx.f_triple_with (T : Tx w K mg) : ∃ z, FD K d_triple_with z := T.df 19
theorem Tx.f_closed_table (T : Tx w K mg) : ∃ z, FD K d_closed_table z := T.df 20
theorem Tx.f_check_boxes (T : Tx w K mg) : ∃ z, FD K d_check_boxes z := T.df 21
theorem Tx.f_check_script (T : Tx w K mg) : ∃ z, FD K d_check_script z := T.df 22
theorem Tx.f_check_index (T : Tx w K mg) : ∃ z, FD K d_check_index z := T.df 23
theorem Tx.f_check_box (T : Tx w K mg) : ∃ z, FD K d_check_box z := T.df 24
theorem Tx.f_ways_of (T : Tx w K mg) : ∃ z, FD K d_ways_of z := T.df 25
theorem Tx.f_surely_same (T : Tx w K mg) : ∃ z, FD K d_surely_same z := T.df 26
theorem Tx.f_gives_back (T : Tx w K mg) : ∃ z, FD K d_gives_back z := T.df 27
theorem Tx.f_follows (T : Tx w K mg) : ∃ z, FD K d_follows z := T.df 28
theorem Tx.f_kept_for (T : Tx w K mg) : ∃ z, FD K d_kept_for z := T.df 29
theorem Tx.f_tells (T : Tx w K mg) : ∃ z, FD K d_tells z := T.df 30
theorem Tx.f_law_purse (T : Tx w K mg) : ∃ z, FD K d_law_purse z := T.df 31
theorem Tx.f_law_pick (T : Tx w K mg) : ∃ z, FD K d_law_pick z := T.df 32
theorem Tx.f_law_kind (T : Tx w K mg) : ∃ z, FD K d_law_kind z := T.df 33
theorem Tx.f_law_names (T : Tx w K mg) : ∃ z, FD K d_law_names z := T.df 34
theorem Tx.f_law_made (T : Tx w K mg) : ∃ z, FD K d_law_made z := T.df 35
theorem Tx.f_law_size (T : Tx w K mg) : ∃ z, FD K d_law_size z := T.df 36
theorem Tx.f_law_subsets (T : Tx w K mg) : ∃ z, FD K d_law_subsets z := T.df 37
theorem Tx.f_law_row (T : Tx w K mg) : ∃ z, FD K d_law_row z := T.df 38
theorem Tx.f_law_right (T : Tx w K mg) : ∃ z, FD K d_law_right z := T.df 39
theorem Tx.f_law (T : Tx w K mg) : ∃ z, FD K d_law z := T.df 40
theorem Tx.f_Formula_init (T : Tx w K mg) : ∃ z, FD K d_Formula_init z := T.df 41
theorem Tx.f_Formula_parts (T : Tx w K mg) : ∃ z, FD K d_Formula_parts z := T.df 42
theorem Tx.f_Formula_mul (T : Tx w K mg) : ∃ z, FD K d_Formula_mul z := T.df 43
theorem Tx.f_Formula_floordiv (T : Tx w K mg) : ∃ z, FD K d_Formula_floordiv z := T.df 44
theorem Tx.f_Formula_rshift (T : Tx w K mg) : ∃ z, FD K d_Formula_rshift z := T.df 45
theorem Tx.f_Formula_len (T : Tx w K mg) : ∃ z, FD K d_Formula_len z := T.df 46
theorem Tx.f_Formula_str (T : Tx w K mg) : ∃ z, FD K d_Formula_str z := T.df 47
theorem Tx.f_Kind_init (T : Tx w K mg) : ∃ z, FD K d_Kind_init z := T.df 48
theorem Tx.f_Kind_lot (T : Tx w K mg) : ∃ z, FD K d_Kind_lot z := T.df 49
theorem Tx.f_Closing_init (T : Tx w K mg) : ∃ z, FD K d_Closing_init z := T.df 50
theorem Tx.f_Closing_root (T : Tx w K mg) : ∃ z, FD K d_Closing_root z := T.df 51
theorem Tx.f_Closing_same (T : Tx w K mg) : ∃ z, FD K d_Closing_same z := T.df 52
theorem Tx.f_Closing_merge (T : Tx w K mg) : ∃ z, FD K d_Closing_merge z := T.df 53
theorem Tx.f_Closing_close (T : Tx w K mg) : ∃ z, FD K d_Closing_close z := T.df 54
theorem Tx.f_Closing_entered (T : Tx w K mg) : ∃ z, FD K d_Closing_entered z := T.df 55
theorem Tx.f_Closing_got (T : Tx w K mg) : ∃ z, FD K d_Closing_got z := T.df 56
theorem Tx.f_Table_init (T : Tx w K mg) : ∃ z, FD K d_Table_init z := T.df 57
theorem Tx.f_Table_number (T : Tx w K mg) : ∃ z, FD K d_Table_number z := T.df 58
theorem Tx.f_Table_same (T : Tx w K mg) : ∃ z, FD K d_Table_same z := T.df 59
theorem Tx.f_Way_init (T : Tx w K mg) : ∃ z, FD K d_Way_init z := T.df 60
theorem Tx.f_Way_take (T : Tx w K mg) : ∃ z, FD K d_Way_take z := T.df 61
theorem Tx.f_Script_init (T : Tx w K mg) : ∃ z, FD K d_Script_init z := T.df 62
theorem Tx.f_Kept_init (T : Tx w K mg) : ∃ z, FD K d_Kept_init z := T.df 63
theorem Tx.f_Kept_root (T : Tx w K mg) : ∃ z, FD K d_Kept_root z := T.df 64
theorem Tx.f_Kept_has (T : Tx w K mg) : ∃ z, FD K d_Kept_has z := T.df 65
theorem Tx.isKind (T : Tx w K mg) : C8.InsC K (CKind K) := insB_ok T.cl_Kind (He.ba T.moreB).1
theorem Tx.isFormula (T : Tx w K mg) : C8.InsC K (CFormula K) := insB_ok T.cl_Formula (He.ba (He.ba T.moreB).2).1
theorem Tx.isScript (T : Tx w K mg) : C8.InsC K (CScript K) := insB_ok T.cl_Script (He.ba (He.ba (He.ba T.moreB).2).2).1
theorem Tx.p_lot (T : Tx w K mg) : PropOf K (CKind K) "lot" (He.ma K (CKind K) "lot") (a_Kind_lot K) := propB_ok (He.ba (He.ba (He.ba (He.ba T.moreB).2).2).2).1
theorem Tx.p_parts (T : Tx w K mg) : PropOf K (CFormula K) "parts" (He.ma K (CFormula K) "parts") (a_Formula_parts K) := propB_ok (He.ba (He.ba (He.ba (He.ba (He.ba T.moreB).2).2).2).2).1
theorem Tx.MARKS (T : Tx w K mg) : (∀ H : Hp, SqT K H (He.ga K "MARKS") [.str "*", .str "//", .str ">>"]) ∧ ∃ o, K.lookup (He.ga K "MARKS") = some o ∧ o.cls = .type "tuple" := tupAtB_ok (He.ba (He.ba (He.ba (He.ba (He.ba (He.ba T.moreB).2).2).2).2).2).1
theorem Tx.PLACES (T : Tx w K mg) : (∀ H : Hp, SqT K H (He.ga K "PLACES") [.int 0, .int 1, .int 2]) ∧ ∃ o, K.lookup (He.ga K "PLACES") = some o ∧ o.cls = .type "tuple" := tupAtB_ok (He.ba (He.ba (He.ba (He.ba (He.ba (He.ba (He.ba T.moreB).2).2).2).2).2).2).1
theorem Tx.TESTS (T : Tx w K mg) : (∀ H : Hp, SqT K H (He.ga K "TESTS") [.str "same", .str "unlike"]) ∧ ∃ o, K.lookup (He.ga K "TESTS") = some o ∧ o.cls = .type "tuple" := tupAtB_ok (He.ba (He.ba (He.ba (He.ba (He.ba (He.ba (He.ba (He.ba T.moreB).2).2).2).2).2).2).2).1
theorem Tx.barred (T : Tx w K mg) : (∀ H : Hp, SqT K H (He.dflAt ("check_names", none) 1 K) []) ∧ ∃ o, K.lookup (He.dflAt ("check_names", none) 1 K) = some o ∧ o.cls = .type "tuple" := tupAtB_ok (He.ba (He.ba (He.ba (He.ba (He.ba (He.ba (He.ba (He.ba (He.ba T.moreB).2).2).2).2).2).2).2).2).1
theorem Tx.nopairs (T : Tx w K mg) : (∀ H : Hp, SqT K H (He.dflAt ("closed_table", none) 0 K) []) ∧ ∃ o, K.lookup (He.dflAt ("closed_table", none) 0 K) = some o ∧ o.cls = .type "tuple" := tupAtB_ok (He.ba (He.ba (He.ba (He.ba (He.ba (He.ba (He.ba (He.ba (He.ba (He.ba T.moreB).2).2).2).2).2).2).2).2).2).1
theorem Tx.lotsB (T : Tx w K mg) : lots.all (lotB K) = true := (He.ba (He.ba (He.ba (He.ba (He.ba (He.ba (He.ba (He.ba (He.ba (He.ba (He.ba T.moreB).2).2).2).2).2).2).2).2).2).2).1
theorem Tx.sfFormula (T : Tx w K mg) : PySem.W.selfFirst K (CFormula K) = true := of_decide_eq_true (He.ba (He.ba (He.ba (He.ba (He.ba (He.ba (He.ba (He.ba (He.ba (He.ba (He.ba (He.ba T.moreB).2).2).2).2).2).2).2).2).2).2).2).1
end
/-! ### the head: what is seen behind the top, and what the Hook sees, apart -/
open PySem.W PySem.Calls in
def Run1 (r : PySem.W.OpenRow) (q : Program) (M : Nat) (lo : List Str) (w : World) : Prop :=
  ∀ os : OsState, (HandSHeadRun.endF (HandSHeadRun.stepQ (HandSHeadRun.denQ HandSHeadRun.tabQ) r.prog w) M r.prog w os).map (fun s => (HandSHeadRun.looksF r.prog (boot_heap w.params) s.abs, HandSHeadRun.seenQ q lo (importedModules r.prog.main.body) (fun s => PySem.W.xlAt q [] s && PySem.W.recOk r.toRowW.records s) s.abs)) = some (true, PySem.W.openGood q lo)
def Run2 (r : PySem.W.OpenRow) (H : PySem.W.Hook) (ob : PySem.W.SharedT → H.α) (M : Nat) (w : World) : Prop :=
  ∀ os : OsState, (HandSHeadRun.endF (HandSHeadRun.stepQ (HandSHeadRun.denQ HandSHeadRun.tabQ) r.prog w) M r.prog w os).map ob = some (H.val w)
theorem run_split {r : PySem.W.OpenRow} {q : Program} {H : PySem.W.Hook} {ob : PySem.W.SharedT → H.α} {M : Nat} {lo : List Str} {w : World} (h1 : Run1 r q M lo w) (h2 : Run2 r H ob M w) : HandSHeadRun.RunEq r q H ob M lo w := by
  intro os
  have e1 := h1 os
  have e2 := h2 os
  generalize HandSHeadRun.endF (HandSHeadRun.stepQ (HandSHeadRun.denQ HandSHeadRun.tabQ) r.prog w) M r.prog w os = E at e1 e2 ⊢
  cases E with
  | none => cases e1
  | some s =>
    have a1 := Option.some.inj e1
    have a2 := Option.some.inj e2
    show some (_, _, _) = some (_, _, _)
    rw [← a2, ← (Prod.mk.inj a1).1, ← (Prod.mk.inj a1).2]
/-! ### the head -/
abbrev R : PySem.W.OpenRow := PySem.W.OpenLaw.row PySem.Challenge.rw_thirdback_k83_whole_scripts_and_formulas
abbrev qv : Program := PySem.W.view R.prog [95]
def loose0 : List Str := ["_wall", "__name__", "WrongValue", "InvalidName", "InvalidText", "InvalidFlag", "InvalidTurns", "InvalidIndex", "NotAKind", "NotAFormula", "NotAScript", "InvalidFacts", "InvalidFormulas", "InvalidNames", "InvalidRows", "WrongName", "UnknownName", "NoAnswer", "TooMany", "MOST_OPERATIONS", "MOST_FACTS", "MOST_FORMULAS", "MOST_ROWS", "MOST_TESTS", "LETTERS", "SIGNS", "LONGEST_NAME", "is_integer", "is_within", "is_name"]
def loose1 : List Str := ["is_row", "check_names", "MARKS", "Formula", "letter", "operation_of", "written_parts", "replaced", "sign_at", "formula_at", "check_operations", "check_formula", "check_formulas", "check_facts", "LOTS", "Kind", "check_kind", "PLACES", "turned", "Closing", "triple_of", "Table", "COPY", "GO", "SAME", "TESTS", "number_of", "setting_of", "step_of", "steps_of"]
def loose2 : List Str := ["later_indexes", "rows_to", "triple_with", "Way", "closed_table", "MOST_NAMES", "Script", "check_boxes", "check_script", "check_index", "check_box", "ways_of", "surely_same", "gives_back", "follows", "Kept", "kept_for", "tells", "_law_purse", "_law_pick", "_law_kind", "_law_names", "_law_made", "_law_size", "_law_subsets", "_law_row", "_law_right"]
def loose : List Str := loose0 ++ loose1 ++ loose2
def ob (s : PySem.W.SharedT) : AlK := obsKG 5 (HandSHeadRun.getT s)
theorem ob_eq (s : PySem.W.SharedT) : ob s = (hookK 5).obs s.abs := obsKG_eq (HandSHeadRun.getT_eq s)
end K8
end

section
set_option Elab.async false
set_option linter.all false
set_option maxRecDepth 100000
set_option maxHeartbeats 0
/-! The head's run: two kernel runs for each answer of the world's row. -/
namespace K8
open PySem PySem.Spec PyProof.Rows L2
abbrev wF (w : World) : World := w.withFollow "special-get-raises" false
abbrev wT (w : World) : World := w.withFollow "special-get-raises" true
theorem run1F (w : World) : Run1 R qv 40000 loose (wF w) := by intro os; kernel_rfl
theorem run1T (w : World) : Run1 R qv 40000 loose (wT w) := by intro os; kernel_rfl
theorem run2F (w : World) : Run2 R (hookK 5) ob 40000 (wF w) := by intro os; kernel_rfl
theorem run2T (w : World) : Run2 R (hookK 5) ob 40000 (wT w) := by intro os; kernel_rfl
theorem run (w : World) : HandSHeadRun.RunEq R qv (hookK 5) ob 40000 loose w :=
  PySem.W.byRow2 "special-get-raises" (P := fun w => HandSHeadRun.RunEq R qv (hookK 5) ob 40000 loose w) (fun w => run_split (run1F w) (run2F w)) (fun w => run_split (run1T w) (run2T w)) w
end K8
end

section
set_option Elab.async false
set_option linter.all false
set_option maxRecDepth 100000
set_option maxHeartbeats 4000000
/-! Rules that the program needs besides the hand layer's; a def's promise with all that a caller hands on. -/
namespace K8
open PySem PySem.Spec PyProof.Rows L2
section
variable {X : Cx}
/-! ### repr of a truth value -/
theorem call_repr_bl : CallR X (.builtin "repr") (fun xs H Q => ∃ b, xs = [.bl b] ∧ Q (.str (if b then "True" else "False")) H) := by
  intro pins s σ H xs us Q I r h
  obtain ⟨b, rfl, q⟩ := h
  obtain ⟨u, rfl, ru⟩ := vals1 r
  cases (show u = Value.bool b from ru)
  exact PySem.P.repr_of_bool ⟨.str _, H, I.tok _, ⟨_, rfl⟩, q⟩
/-! ### a field as one of several targets -/
def gFld (K : PySem.W.Frag) (ta : TE) (f : Str) : TG := fun v σ H Q => ta σ H fun x H1 => ∃ a C dx fs, x = .ref a ∧ H1 a = some (.ins C dx fs) ∧ Cls K C ∧ NoAttr K C f ∧ fs.length < 1000 ∧ Q σ (upd H1 a (.ins C dx (putF f v fs)))
theorem pg_fld {o : Expr} {f : Str} {pos : Pos} {ta : TE} (ha : PE X o ta) (hb : ∀ v, assign (.Attribute o f pos) X.env v = (do
      let ov ← holding [v] (eval o X.env)
      standAt pos.atName
      holding [v, ov] (setAttr ov f v)
      release [v, ov] []) := by intro _; rfl) : PG X (.Attribute o f pos) (gFld X.K ta f) := by
  refine ⟨fun pins s σ H v u Q I r h => ?_⟩
  rw [hb]
  refine wpAny_bind (wpAny_holding (thn (ha.run pins s σ H _ I h) fun ov s1 ⟨x, H1, I1, rx, a, C, dx, fs, ex, ea, c, n, l, q⟩ => ?_))
  subst ex
  obtain rfl : ov = Value.ref a := rx
  refine wpAny_bind (wpAny_standAt (wpAny_bind (wpAny_holding (setattr_ok I1 ea c n l r fun s3 I3 => ?_))))
  exact wpAny_release ⟨σ, _, I3, q⟩
/-! ### operators, len, str by an own class's methods -/
/-- the callee below the running body, at an inner place -/
theorem run_in {A : Around} {pins : List (Addr × Obj)} {σ : L2.St} {H : Hp} {s : Shared} {k : Nat} {g : Addr} {z : FuncData} {ps : List Str} {sp : Sp} {Q : VK} {us : List Value} {vs : List V} (F : FnOk X.prog X.w X.K X.mg X.base CX0 k g z ps sp) (hb : Binds X.K z ps []) (hr : Room k A)
    (e0 : Env0 X.prog X.w X.K X.mg X.base A X.stack s H) (I : Inv X pins σ H s) (r : Vals vs us) (h : sp vs H Q E0) : codeAny (model X.prog X.w) A (.call (.ref g) ⟨us, []⟩) (fun r s' => match r with | .ok (.ret v) => EP X pins σ Q v s' | .ok _ => False | .error e => X.xe e s') s := by
  have hl : us.length = ps.length := r.length.symm.trans (F.len _ _ _ _ h)
  have hb2 := hb s us I.kIn (by rw [List.append_nil]; exact hl)
  rw [List.append_nil] at hb2
  refine codeAny_mono (F.run A X.stack s H ⟨us, []⟩ us vs Q E0 hr e0 hb2 r h) fun r s' hq => ?_
  cases r with
  | error e => exact hq.elim
  | ok fl =>
    cases fl with
    | ret u => exact I.after hq
    | next => exact False.elim hq
    | brk => exact False.elim hq
    | cont => exact False.elim hq
/-- x op y of two instances of the class at C, whose method for op is at g -/
def rOwnB (C : Addr) (sp : Sp) : R2 := fun x y H Q => ∃ a dx fs b dy gs, x = .ref a ∧ y = .ref b ∧ H a = some (.ins C dx fs) ∧ H b = some (.ins C dy gs) ∧ sp [.ref a, .ref b] H Q E0
theorem op_ownB {op : Operator} {C g : Addr} {k : Nat} {z : FuncData} {ps : List Str} {sp : Sp} (F : FnOk X.prog X.w X.K X.mg X.base CX0 k g z ps sp) (hb : Binds X.K z ps []) (hr : Room k X.A)
    (hs : PySem.W.findIn X.K (.ref C) (PySem.dunder op.info.2) = some (some (.ref g))) (hf : PySem.W.isFn X.K (.ref g) = true) (sf : PySem.W.selfFirst X.K C = true) : OpR X (binaryOp op) (rOwnB C sp) := by
  intro pins s σ H x y v u Q I rx ry h
  obtain ⟨a, dx, fs, b, dy, gs, rfl, rfl, ha, hb', q⟩ := h
  cases (show v = Value.ref a from rx)
  cases (show u = Value.ref b from ry)
  obtain ⟨mA, O, _, _, _, _⟩ := ins_get I.hok ha
  obtain ⟨od, J, _⟩ := O.look
  obtain ⟨mB, O2, _, _, _, _⟩ := ins_get I.hok hb'
  obtain ⟨od2, J2, _⟩ := O2.look
  obtain ⟨m, hF⟩ := I.fr
  refine PySem.W.binop_K hF I.ok.mod.kin J J2.type sf hs hf ?_
  refine wpAny_mono (wpAny_call (run_in (us := [.ref a, .ref b]) (vs := [.ref a, .ref b]) F hb hr I.env0 I (.cons rfl (.cons rfl .nil)) q)) (fun w s' z => ?_) fun _ _ x => x
  obtain ⟨z', H', I', rz, qz⟩ := z
  exact SlX.cmpback rz ⟨z', H', I', rz, qz⟩
/-- len(x) by __len__ -/
def rLenO (C : Addr) (sp : Sp) : List V → Hp → VK → Prop := fun xs H Q => ∃ a dx fs, xs = [.ref a] ∧ H a = some (.ins C dx fs) ∧ sp [.ref a] H (fun v H' => ∃ n : Int, v = .int n ∧ (0 ≤ n ∧ n < 2 ^ 63) ∧ Q (.int n) H') E0
theorem call_lenO {C g : Addr} {k : Nat} {z : FuncData} {ps : List Str} {sp : Sp} (F : FnOk X.prog X.w X.K X.mg X.base CX0 k g z ps sp) (hb : Binds X.K z ps []) (hr : Room (k + 1) X.A)
    (hs : PySem.W.findIn X.K (.ref C) "__len__" = some (some (.ref g))) (hf : PySem.W.isFn X.K (.ref g) = true) : CallR X (.builtin "len") (rLenO C sp) := by
  intro pins s σ H xs us Q I r h
  obtain ⟨a, dx, fs, rfl, ha, q⟩ := h
  obtain ⟨u, rfl, ru⟩ := vals1 r
  cases (show u = Value.ref a from ru)
  obtain ⟨mA, O, _, _, _, _⟩ := ins_get I.hok ha
  obtain ⟨od, J, _⟩ := O.look
  obtain ⟨m, hF⟩ := I.fr
  refine PySem.W.len_K hF I.ok.mod.kin J hs hf ?_
  refine wpAny_mono (wpAny_call (run_in (us := [.ref a]) (vs := [.ref a]) F hb hr.in1 I.env0.in1 I (.cons rfl .nil) q)) (fun w s' z => ?_) fun _ _ x => x
  obtain ⟨z', H', I', rz, n, ez, hn, qz⟩ := z
  subst ez
  obtain ⟨t, e⟩ := (show ∃ t, w = Value.int n t from rz)
  cases e
  exact ⟨hn, .int n, H', I'.tok _, ⟨_, rfl⟩, qz⟩
/-- str(x) by __str__ -/
def rStrO (C : Addr) (sp : Sp) : List V → Hp → VK → Prop := fun xs H Q => ∃ a dx fs, xs = [.ref a] ∧ H a = some (.ins C dx fs) ∧ sp [.ref a] H (fun v H' => ∃ y : Str, v = .str y ∧ Q (.str y) H') E0
theorem call_strO {C g : Addr} {k : Nat} {z : FuncData} {ps : List Str} {sp : Sp} (F : FnOk X.prog X.w X.K X.mg X.base CX0 k g z ps sp) (hb : Binds X.K z ps []) (hr : Room (k + 2) X.A)
    (hs : PySem.W.findIn X.K (.ref C) "__str__" = some (some (.ref g))) (hf : PySem.W.isFn X.K (.ref g) = true) : CallR X (.type "str") (rStrO C sp) := by
  intro pins s σ H xs us Q I r h
  obtain ⟨a, dx, fs, rfl, ha, q⟩ := h
  obtain ⟨u, rfl, ru⟩ := vals1 r
  cases (show u = Value.ref a from ru)
  obtain ⟨mA, O, _, _, _, _⟩ := ins_get I.hok ha
  obtain ⟨od, J, _⟩ := O.look
  have hr1 : Room (k + 1) X.A.in1 := Room.in1 hr
  refine PySem.W.kso_call (Room.units0 hr1.in1) I.kIn J hs hf ?_
  refine wpAny_mono (wpAny_call (run_in (us := [.ref a]) (vs := [.ref a]) F hb hr1.in1 I.env0.in1.in1 I (.cons rfl .nil) q)) (fun w s' z => ?_) fun _ _ x => x
  obtain ⟨z', H', I', rz, y, ez, qz⟩ := z
  subst ez
  obtain ⟨t, e⟩ := (show ∃ t, w = Value.str y t from rz)
  cases e
  exact ⟨.str y, H', I', ⟨t, rfl⟩, qz⟩
/-! ### xs[lo:hi:st] of a list -/
def stepI (n : Nat) (lo hi st : Option Int) : List Nat := sliceRange (sliceBounds lo hi st n).1 (sliceBounds lo hi st n).2.1 (sliceBounds lo hi st n).2.2
def stepV (xs : List V) (lo hi st : Option Int) : List V := (stepI xs.length lo hi st).filterMap (xs[·]?)
theorem Vals_pick {xs : List V} {us : List Value} (r : Vals xs us) : ∀ ix : List Nat, Vals (ix.filterMap (xs[·]?)) (ix.filterMap (us[·]?))
  | [] => .nil
  | i :: ix => by
    cases e : xs[i]? with
    | none =>
      rw [List.filterMap_cons_none e, List.filterMap_cons_none (r.none_of e)]
      exact Vals_pick r ix
    | some x =>
      obtain ⟨u, e2, ru⟩ := r.get e
      rw [List.filterMap_cons_some e, List.filterMap_cons_some e2]
      exact .cons ru (Vals_pick r ix)
def tSl3 (K : PySem.W.Frag) (te : TE) (tl th ts : TO) : TE := fun σ H Q => te σ H fun x H1 => tl σ H1 fun l H2 => th σ H2 fun u H3 => ts σ H3 fun st H4 =>
  ∃ a xs, x = .ref a ∧ SqL K H4 a xs ∧ st ≠ some 0 ∧ (stepV xs l u st).length ≤ xs.length ∧ ∀ p, H4 p = none → Q (.ref p) (upd H4 p (.lst (stepV xs l u st)))
theorem pe_slice3 {e st : Expr} {lo hi : Option Expr} {te : TE} {tl th ts : TO} {pos p2 : Pos} (he : PE X e te) (hl : PO X lo tl) (hu : PO X hi th) (hs : PO X (some st) ts) : PE X (.Subscript e (.Slice lo hi (some st) p2) pos) (tSl3 X.K te tl th ts) := by
  refine ⟨fun pins s σ H Q I h => ?_⟩
  refine Subscript_ (thn (he.run pins s σ H _ I h) fun v s1 ⟨x, H1, I1, r1, q1⟩ => ?_)
  refine wpAny_Slice (thn (hl.run pins s1 σ H1 _ I1 q1) fun vl s2 ⟨l, H2, I2, pl, q2⟩ => thn (hu.run pins s2 σ H2 _ I2 q2) fun vu s3 ⟨u, H3, I3, pu, q3⟩ => thn (hs.run pins s3 σ H3 _ I3 q3) fun vs s4 ⟨sp, H4, I4, ps, a, xs, ex, hx, h0, hlen, q4⟩ => ?_)
  subst ex
  cases (show v = Value.ref a from r1)
  have I5 : Inv X pins σ H4 { s4 with heap := s4.heap.push { cls := .type "slice", data := .fields #[vl, vu, vs] } } := I4.kept (t' := s4.toks) fun b ob q => Heap.get?_push_of_some _ q
  obtain ⟨its, r, ht, hz⟩ := I5.list hx
  show wpAny (model X.prog X.w) X.A (subscriptTail e (.Slice lo hi (some st) p2) (.ref a) (.ref s4.heap.objs.size)) (EP X pins σ Q) X.xe { s4 with heap := s4.heap.push { cls := .type "slice", data := .fields #[vl, vu, vs] } }
  refine tail_any (ops := [.ref a, .ref s4.heap.objs.size]) ht.isList.typeIs slot_list_getitem.lookup ?_ (by with_unfolding_all rfl)
  refine wpAny_getItem_list_slice ht.isList (Heap.IsSliceOf.new ..) pl pu ps h0 ?_ (by rw [List.size_toArray, ← r.length]; exact hz)
  have hv : Vals (stepV xs l u sp) ((stepI xs.length l u sp).filterMap (its[·]?)) := Vals_pick r _
  refine ⟨.ref _, _, I5.laid (t' := s4.toks) (o := .lst (stepV xs l u sp)) (fun b ob q => Heap.get?_push_of_some _ q) (Nat.le_refl _) ?_, rfl, q4 _ (I5.hok.fresh (Nat.le_refl _))⟩
  refine ⟨Nat.le_trans hlen hz, _, 0, hv, ?_⟩
  have e1 : slicePick its.toArray l u sp = ((stepI xs.length l u sp).filterMap (its[·]?)).toArray := by
    unfold slicePick stepI
    rw [List.size_toArray, ← r.length]
    simp only [List.getElem?_toArray]
  rw [e1]
  exact Heap.get?_push_size _ rfl
/-! ### sorted of pairs (an int, a text): some arrangement -/
/-- a tuple of an int and a text -/
def PairIS (K : PySem.W.Frag) (H : Hp) (x : V) : Prop := ∃ t n z, x = .ref t ∧ SqT K H t [.int n, .str z]
def rSortIS (K : PySem.W.Frag) : List V → Hp → VK → Prop := fun vs H Q => ∃ (a : Addr) (xs : List V), vs = [V.ref a] ∧ SqL K H a xs ∧ (∀ x ∈ xs, PairIS K H x) ∧ ∀ (ys : List V) (p : Addr), ys.Perm xs → H p = none → Q (.ref p) (upd H p (.lst ys))
theorem cr_sortIS : CallR X (.builtin "sorted") (rSortIS X.K) := by
  intro pins s σ H vs us Q I r h
  obtain ⟨a, xs, rfl, hs, hx, q⟩ := h
  obtain ⟨its, rv, hl, hz⟩ := I.list hs
  rw [Vals.ref1 r]
  obtain ⟨e1, e2⟩ := bkV_refs rv fun x m => by
    obtain ⟨t, n, z, e, _⟩ := hx x m
    exact ⟨t, e⟩
  have key : ∀ v ∈ its, ∃ t n z tk tk' o, v = .ref t ∧ s.heap.get? t = some o ∧ o.cls = .type "tuple" ∧ ∃ m, o.data = .seq #[.int n tk, .str z tk'] m := by
    intro v hv
    obtain ⟨t, rfl⟩ := e2 v hv
    have hm : V.ref t ∈ xs := by
      rw [e1]
      exact List.mem_map.mpr ⟨_, hv, rfl⟩
    obtain ⟨t', n, z, e, ht⟩ := hx _ hm
    cases e
    obtain ⟨jts, rj, ⟨o, ho, hc, m, hd⟩, _⟩ := I.tuple ht
    cases rj with
    | cons r1 r2 =>
      cases r2 with
      | cons r3 r4 =>
        cases r4
        obtain ⟨tk, e3⟩ := (show ∃ t, _ = Value.int n t from r1)
        obtain ⟨tk', e4⟩ := (show ∃ t, _ = Value.str z t from r3)
        subst e3 e4
        exact ⟨t, n, z, tk, tk', o, rfl, ho, hc, m, hd⟩
  have hT : ∀ l : List Value, (∀ v ∈ l, v ∈ its) → ∃ fs, TupsOf s.heap (fun i => i == 1) l fs := by
    intro l
    induction l with
    | nil => exact fun _ => ⟨[], .nil⟩
    | cons v l ih =>
      intro hm
      obtain ⟨fs, hfs⟩ := ih fun u hu => hm u (List.mem_cons_of_mem _ hu)
      obtain ⟨t, n, z, tk, tk', o, e, ho, hc, m, hd⟩ := key v (hm v List.mem_cons_self)
      exact ⟨_, .cons ⟨t, o, _, m, e, ho, hc, hd, rfl, fun _ => ⟨n, tk, rfl⟩, fun z => by cases z⟩ hfs⟩
  obtain ⟨fs, hfs⟩ := hT its fun _ h => h
  refine PyProof.Rows.G.sorted_tups (shape := fun i => i == 1) hl.isList hfs (fun v hv => ?_) (by rw [← rv.length]; exact hz) fun st' hp _ _ => ?_
  · obtain ⟨t, n, z, tk, tk', o, e, ho, hc, m, hd⟩ := key v hv
    subst e
    refine ⟨[Sum.inl n, Sum.inr z.cps.toList], ?_⟩
    unfold PyProof.Rows.G.tupKeyC PyProof.Rows.G.isTupObj tupKey
    simp only [ho, hc, hd]
    rfl
  · obtain ⟨ep, he'⟩ := PyProof.Rows.sortedAll_at s.heap its ((arrOf st').map (·.2))
    have hperm : ((arrOf st').map (·.2)).toList.Perm its := by
      have h1 := (Array.perm_iff_toList_perm.mp hp).map (·.2)
      have h2 : (pairsOf its).toList.map (·.2) = its := by
        rw [pairsOf_toList]
        exact List.map_snd_zip (by omega)
      rw [h2] at h1
      rw [Array.toList_map]
      exact h1
    have h3 : ∀ u ∈ ((arrOf st').map (·.2)).toList, ∃ a, u = Value.ref a := fun u hu => e2 u (hperm.mem_iff.mp hu)
    have hpv : (((arrOf st').map (·.2)).toList.map bkV).Perm xs := by
      rw [e1]
      exact hperm.map bkV
    have hlen : (((arrOf st').map (·.2)).toList.map bkV).length ≤ sizeLine := by
      rw [hpv.length_eq]
      exact hz
    exact ⟨.ref _, upd H (s.heap.objs.size + 1) (.lst (((arrOf st').map (·.2)).toList.map bkV)), I.laid (t' := s.toks) (fun _ _ => PyProof.Rows.sortedAll_old) (Nat.le_succ _) ⟨hlen, _, ep, bkV_vals h3, he'⟩, rfl, q _ _ hpv (I.hok.fresh (Nat.le_succ _))⟩
end
/-! ### enumerate of a tuple -/
theorem meets_enum_new1 {v : Value} {o : Obj} {HB : Heap → Prop} (B : Begins v o HB) :
    Meets (Builtin.«enumerate.__new__» ⟨[.type "enumerate", v], []⟩) (fun _ R s => HB s.heap ∧
      R (.ok (.ret (.ref (s.heap.push o).objs.size)))
        { s with heap := (s.heap.push o).push { cls := .type "enumerate", data := .fields #[.none, .bool false, .ref s.heap.objs.size, rawInt 0, .none, .none] } }) :=
  .of_wp fun prog w A R s h => by
    obtain ⟨hp, g, d, tk, os⟩ := s
    obtain ⟨hb, h⟩ := h
    have hsub := sub_enumerate
    have hit : ∀ {A : Around} {E : Value → Shared → Prop} {Q : Value → Shared → Prop}, Q (.ref hp.objs.size) { (⟨hp, g, d, tk, os⟩ : Shared) with heap := hp.push o } → wpAny (model prog w) A (pyIter v) Q E ⟨hp, g, d, tk, os⟩ := fun {A E Q} q => B.iter prog w A E ⟨hp, g, d, tk, os⟩ Q hb q
    wp_walk
    refine wpAny_stack_any fun st => wpAny_pure ?_
    split
    · rename_i c _ _ _ _ _
      cases (c == Value.type "enumerate")
      · wp_walk using hit
        exact ⟨_, rfl, h⟩
      · wp_walk using hit
        exact ⟨_, rfl, h⟩
    · wp_walk using hit
      exact ⟨_, rfl, h⟩
section
variable {prog : Program} {w : World} {A : Around} {E : Value → Shared → Prop} {s : Shared}
theorem call_enum1 {v : Value} {o : Obj} {HB : Heap → Prop} {Q : Value → Shared → Prop} (B : Begins v o HB) (hb : HB s.heap)
    (h : ∀ h', IsEnum h' (s.heap.objs.size + 1) s.heap.objs.size 0 .none → h'.get? s.heap.objs.size = some o → h'.objs.size = s.heap.objs.size + 2 →
      (∀ b o, s.heap.get? b = some o → h'.get? b = some o) → Q (.ref (s.heap.objs.size + 1)) { s with heap := h' }) :
    wpAny (model prog w) A (call (.type "enumerate") [v]) Q E s := by
  refine callType_new F.called_enumerate (by decide) (F.typeCall_enumerate_1 _) (F.newCall_enumerate_1 _) (fun obj => F.args_object_init_2 obj _) F.entry_enumerate_new (meets_enum_new1 B) ⟨hb, ?_⟩
  have hz : (s.heap.push o).objs.size = s.heap.objs.size + 1 := Heap.size_push ..
  show _ ∧ _
  rw [hz]
  have he : IsEnum ((s.heap.push o).push { cls := .type "enumerate", data := .fields #[.none, .bool false, .ref s.heap.objs.size, rawInt 0, .none, .none] }) (s.heap.objs.size + 1) s.heap.objs.size 0 .none := by
    have q := Heap.get?_push_size (s.heap.push o) (o := { cls := .type "enumerate", data := .fields #[.none, .bool false, .ref s.heap.objs.size, rawInt 0, .none, .none] }) rfl
    rw [hz] at q
    exact q
  exact ⟨⟨_, he, rfl⟩, h _ he (Heap.get?_push_of_some _ (Heap.get?_push_size _ B.free)) (by rw [Heap.size_push, hz]) fun b o x => Heap.get?_push_of_some _ (Heap.get?_push_of_some _ x)⟩
end
def IteT (K : PySem.W.Frag) (a : Addr) : It :=
  ⟨fun i H => ∃ (xs : List V) (x : V), SqT K H a xs ∧ xs[i]? = some x, fun i H v H' => ∃ T x, v = .ref T ∧ H T = none ∧ H' = upd H T (.tup [.int (i : Nat), x]) ∧ ∀ xs, SqT K H a xs → xs[i]? = some x, fun i H => ∃ xs : List V, SqT K H a xs ∧ xs.length ≤ i⟩
theorem turn_enumT {P : Program} {w : World} {K : PySem.W.Frag} {elts : List Expr} {kk : Nat} {tpos : Pos} (a e it : Addr) (hai : a ≠ it) :
    Turn P w K (.Tuple elts kk tpos) (IteT K a) [e, it] e (fun i h => (∃ old, IsEnum h e it ((i : Nat) : Int) old) ∧ h.IsTupleIter it a i ∧ e ≠ it ∧ e ≠ a) where
  mem := by simp
  obj := fun i h st b hb => by
    obtain ⟨⟨old, he⟩, ⟨o, ho, hc, hd⟩, _⟩ := st
    have e' : b = e ∨ b = it := by simpa using hb
    rcases e' with z | z
    · rw [z]; exact ⟨_, he, fun v q => nomatch q⟩
    · rw [z]; exact ⟨o, ho, fun v q => by rw [hd] at q; cases q⟩
  keep := fun i h h' st k => let ⟨⟨old, he⟩, hi, hne⟩ := st; ⟨⟨old, k e (by simp) _ he⟩, hi.at fun o q => k it (by simp) o q, hne⟩
  item := by
    intro X hP hw hK hc i pins s σ H E I hf st hg
    subst hP hw hK
    obtain ⟨⟨old, he⟩, hit, hne, hea⟩ := st
    obtain ⟨xs, x, hq, hx⟩ := hg
    obtain ⟨its, rv, p, hz⟩ := I.tuple hq
    obtain ⟨u, hu, ru⟩ := rv.get hx
    have hel : e < s.heap.objs.size := Heap.lt_size he
    have hil : it < s.heap.objs.size := by obtain ⟨_, q, _⟩ := hit; exact Heap.lt_size q
    have D := Draws.tuple (prog := X.prog) (w := X.w) (A := X.A.in1) (I.ok.hd hc) it a hai its.toArray
    have hlt : i < its.toArray.size := by
      obtain ⟨q, _⟩ := List.getElem?_eq_some_iff.mp hu
      simpa using q
    refine wpAny_pyNext_enum_itemD D he ⟨hit, p⟩ hlt hne (by simp [hne, hea]) fun y h' tk hy ho hst hT hsz hk => ?_
    have eu : y = u := by
      have z : its[i]? = some y := by simpa using hy
      rw [hu] at z
      exact (Option.some.inj z).symm
    subst eu
    refine ⟨_, rfl, wpAny_letOwnedTupleGo_enum (s := { s with heap := h', toks := tk + 1 }) ho fun h'' he' sb => ?_⟩
    have hT2 : h''.get? s.heap.objs.size = some { cls := .type "tuple", data := .seq #[.int i tk, y] } := (sb.2 _ (Nat.ne_of_gt hel)).trans hT
    have new : ObjOk X.prog X.w (upd H s.heap.objs.size (.tup [.int (i : Nat), x])) h'' s.heap.objs.size (.tup [.int (i : Nat), x]) :=
      ⟨by show 2 ≤ sizeLine; decide, [.int i tk, y], .cons ⟨_, rfl⟩ (.cons ru .nil), ⟨_, hT2, rfl, _, rfl⟩⟩
    have I1 : Inv X pins σ (upd H s.heap.objs.size (.tup [.int (i : Nat), x])) { s with heap := h'', toks := tk + 1 } :=
      I.turnedNew (ch := [e, it]) (fun b ob hb q => (sb.2 b (fun z => hb (by simp [z]))).trans (hk b ob (fun z => hb (by simp [z])) (fun z => hb (by simp [z])) q)) hf (Nat.le_refl _) new
    refine ⟨.ref s.heap.objs.size, _, I1, rfl, ⟨_, x, rfl, I.hok.fresh (Nat.le_refl _), rfl, fun ys hy => by rw [I.tuple_inj hy hq]; exact hx⟩, ⟨⟨y, ?_⟩, hst.1.at fun o q => (sb.2 it (Ne.symm hne)).trans q, hne, hea⟩, fun b hb => ?_⟩
    · have e1 : ((i + 1 : Nat) : Int) = (i : Int) + 1 := by omega
      rw [e1]; exact he'
    · have hb' : b < s.heap.objs.size := by
        have e' : b = e ∨ b = it := by simpa using hb
        rcases e' with z | z
        · rw [z]; exact hel
        · rw [z]; exact hil
      rw [upd_ne (Nat.ne_of_lt hb')]
      exact (hf b hb).1
  done := by
    intro X hP hw hK hc i pins s σ H E I hf st hg
    subst hP hw hK
    obtain ⟨⟨old, he⟩, hit, hne, hea⟩ := st
    obtain ⟨xs, hq, hx⟩ := hg
    obtain ⟨its, rv, p, hz⟩ := I.tuple hq
    obtain ⟨f0, f1, f2, f3, f4, f5⟩ := hf it (by simp)
    have hl := rv.length
    have hsz : its.toArray.size ≤ i := by simp; omega
    have hT : s.TypeIs (.ref e) "enumerate" := ⟨_, he, rfl⟩
    have hh : X.A.in1.in1.handled = none := I.ok.hd hc
    unfold pyNext
    refine wpAny_bind (wpAny_attempt (wpAny_callSpecial?_slot (name := Str.ofString "__next__") hT F.slot_enumerate_next
      (wpAny_call_entry F.slot_enumerate_next hT F.entry_enumerate_next ?_ (F.args_enumerate_next_1 _))))
    show wpAny _ _ (field (.ref e) 2 >>= _) _ _ _
    refine wpAny_bind (wpAny_field he rfl (x := .ref it) rfl ?_)
    refine wpAny_bind (wpAny_nextOf_tuple_end hh hit p (by simp; omega) fun h' x he' hx' => ?_)
    obtain ⟨o, ho, hcl⟩ := hx'
    refine wpAny_bind (wpAny_isInstance (T := "StopIteration") (b := true) ⟨o, ho, hcl⟩ isSubtype_stop ?_)
    exact wpAny_pure ⟨rfl, I.turned (t' := s.toks) (fun b o hb q => he' b o hb q) f0 f1 f3 f4 f5⟩
  self := fun A i s Q E st h => let ⟨⟨_, he⟩, _⟩ := st; wpAny_pyIter_enum he h
def iEnumT (K : PySem.W.Frag) (ta : TA) : TI := fun σ H R => ta σ H fun vs H1 => ∃ a xs, vs = [.ref a] ∧ SqT K H1 a xs ∧ R (IteT K a) H1
theorem pi_enumT {X : Cx} {e : Expr} {ta : TA} {p pos tpos : Pos} {elts : List Expr} {kk : Nat} (hg : Gl X "enumerate") (hm : X.mg "enumerate" = none) (ha : PA X [e] ta) (hs : starEach [e] X.env = [(false, eval e X.env)] := by rfl) :
    PI X (.Tuple elts kk tpos) (.Call (.Name "enumerate" p) [e] [] pos) (iEnumT X.K ta) := by
  refine ⟨fun pins s σ H R I h => ?_⟩
  refine Call_ (ld_blt I hg hm boot_enumerate (PyProof.Rows.callWith_type1 (thn (ha.run pos pins s σ H _ I h) fun us s1 ⟨vs, H1, I1, r1, q1⟩ => ?_) hs rfl))
  obtain ⟨a, xs, ex, hq, q⟩ := q1
  subst ex
  cases r1 with
  | cons r rr =>
    cases rr
    cases r
    obtain ⟨its, rv, p', hz⟩ := I1.tuple hq
    have hal : a < s1.heap.objs.size := p'.lt
    refine call_enum1 (begins_tuple a its.toArray) p' fun h' he ho hsz hk => wpAny_pyIter_enum he ?_
    have I2 : Inv X pins σ H1 { s1 with heap := h' } := I1.kept (t' := s1.toks) hk
    refine ⟨s1.heap.objs.size + 1, [s1.heap.objs.size + 1, s1.heap.objs.size], _, _, H1, rfl, I2, turn_enumT a (s1.heap.objs.size + 1) s1.heap.objs.size (Nat.ne_of_lt hal), ⟨⟨.none, he⟩, ⟨_, ho, rfl, rfl⟩, Nat.succ_ne_self _, Nat.ne_of_gt (Nat.lt_succ_of_lt hal)⟩, fun b hb => ?_, q⟩
    have e' : b = s1.heap.objs.size + 1 ∨ b = s1.heap.objs.size := by simpa using hb
    have hle : s1.heap.objs.size ≤ b := by
      rcases e' with z | z
      · rw [z]; exact Nat.le_add_right _ _
      · rw [z]; exact Nat.le_refl _
    exact I1.fpOk hle (I1.hok.fresh hle)
/-- a loop over enumerate of a tuple: each turn a new pair -/
theorem for_enumT {K : PySem.W.Frag} {a : Addr} {xs : List V} {g : TG} {tb : TS} {D : Ends} {σ : L2.St} {H : Hp} (Pv : Nat → L2.St → Hp → Prop) (h0 : Pv 0 σ H) (hl : ∀ i σ H, i ≤ xs.length → Pv i σ H → SqT K H a xs)
    (hs : ∀ i x T σ H, xs[i]? = some x → Pv i σ H → H T = none → g (.ref T) σ (upd H T (.tup [.int (i : Nat), x])) fun σ2 H2 => tb { D with nx := Pv (i + 1), ct := Pv (i + 1), bk := D.nx } σ2 H2) (hd : ∀ σ H, Pv xs.length σ H → D.nx σ H) :
    ∃ W : Nat → Nat → L2.St → Hp → Prop, (∃ m, W 0 m σ H) ∧ ∀ i m σ H, W i m σ H →
      ((IteT K a).stop i H ∧ D.nx σ H) ∨ ((IteT K a).go i H ∧ ∃ Nx : L2.St → Hp → Prop, (∀ σ' H', Nx σ' H' → ∃ m', m' < m ∧ W (i + 1) m' σ' H') ∧ ∀ x H', (IteT K a).yld i H x H' → g x σ H' fun σ2 H2 => tb { D with nx := Nx, ct := Nx, bk := D.nx } σ2 H2) := by
  refine ⟨fun i m σ H => m = xs.length - i ∧ i ≤ xs.length ∧ Pv i σ H, ⟨xs.length, by simp, Nat.zero_le _, h0⟩, ?_⟩
  rintro i m σ H ⟨rfl, hi, p⟩
  have q := hl i σ H hi p
  by_cases hlt : i < xs.length
  · refine .inr ⟨⟨xs, xs[i], q, by simp [hlt]⟩, Pv (i + 1), fun σ' H' p' => ⟨xs.length - (i + 1), by omega, rfl, hlt, p'⟩, fun x H' y => ?_⟩
    obtain ⟨T, y, ex, hT, eH, hy⟩ := y
    subst ex eH
    exact hs i y T σ H (hy xs q) p hT
  · have e : i = xs.length := by omega
    subst e
    exact .inl ⟨⟨xs, q, Nat.le_refl _⟩, hd σ H p⟩
/-- a loop over enumerate of a list -/
theorem for_enumL {K : PySem.W.Frag} {a : Addr} {xs : List V} {g : TG} {tb : TS} {D : Ends} {σ : L2.St} {H : Hp} (Pv : Nat → L2.St → Hp → Prop) (h0 : Pv 0 σ H) (hl : ∀ i σ H, i ≤ xs.length → Pv i σ H → SqL K H a xs)
    (hs : ∀ i x T σ H, xs[i]? = some x → Pv i σ H → H T = none → g (.ref T) σ (upd H T (.tup [.int (i : Nat), x])) fun σ2 H2 => tb { D with nx := Pv (i + 1), ct := Pv (i + 1), bk := D.nx } σ2 H2) (hd : ∀ σ H, Pv xs.length σ H → D.nx σ H) :
    ∃ W : Nat → Nat → L2.St → Hp → Prop, (∃ m, W 0 m σ H) ∧ ∀ i m σ H, W i m σ H →
      ((Ite K a).stop i H ∧ D.nx σ H) ∨ ((Ite K a).go i H ∧ ∃ Nx : L2.St → Hp → Prop, (∀ σ' H', Nx σ' H' → ∃ m', m' < m ∧ W (i + 1) m' σ' H') ∧ ∀ x H', (Ite K a).yld i H x H' → g x σ H' fun σ2 H2 => tb { D with nx := Nx, ct := Nx, bk := D.nx } σ2 H2) := by
  refine ⟨fun i m σ H => m = xs.length - i ∧ i ≤ xs.length ∧ Pv i σ H, ⟨xs.length, by simp, Nat.zero_le _, h0⟩, ?_⟩
  rintro i m σ H ⟨rfl, hi, p⟩
  have q := hl i σ H hi p
  by_cases hlt : i < xs.length
  · refine .inr ⟨⟨xs, xs[i], q, by simp [hlt]⟩, Pv (i + 1), fun σ' H' p' => ⟨xs.length - (i + 1), by omega, rfl, hlt, p'⟩, fun x H' y => ?_⟩
    obtain ⟨T, y, ex, hT, eH, hy⟩ := y
    subst ex eH
    exact hs i y T σ H (hy xs q) p hT
  · have e : i = xs.length := by omega
    subst e
    exact .inl ⟨⟨xs, q, Nat.le_refl _⟩, hd σ H p⟩
end K8
namespace K8
open PySem PySem.Spec PyProof.Rows L2
/-! ### a def with all that a caller hands on -/
section
variable {P : Program} {w : World} {K : PySem.W.Frag} {mg : Str → Option Value} {base : Heap}
/-- the def at f keeps the promise sp by at most level k; dvs: the defaults that fill up behind what is written -/
def Ok (P : Program) (w : World) (K : PySem.W.Frag) (mg : Str → Option Value) (base : Heap) (k : Nat) (f : Addr) (ps : List Str) (dvs : List V) (sp : Sp) : Prop :=
  ∃ (z : FuncData) (ds : List Value), FnOk P w K mg base CX0 k f z ps sp ∧ Binds K z ps ds ∧ Vals dvs ds ∧ PySem.W.keepIn K (.ref f) = true
/-- the rule for a def of the text -/
theorem okBody {d : Df} {z : FuncData} {N ps : List Str} {k : Nat} {sp : Sp} (F : FD K d z) (S : FnScope N ps (defScope d.st)) (len : ∀ vs H Q E, sp vs H Q E → vs.length = ps.length)
    (hbody : ∀ (cdv : Value) (A : Around) (outer : List Env) (s : Shared) (H : Hp) (vs : List V) (Q : VK) (E : XK), Room k (A.deeper (envOfC d.qual (defScope d.st) s.heap.objs.size (d.ad K) cdv)) → sp vs H Q E →
      ∃ t, PSs (cxOf CX0 P w K mg base N d.qual (defScope d.st) (d.ad K) cdv A outer s H E).nox (defBody d.st) t ∧ t { nx := fun _ H' => Q .non H', rt := Q } (start N vs) H) : FnOk P w K mg base CX0 (k + 1) (d.ad K) z ps sp := by
  refine FunD.ok F S len fun cdv A outer s H vs Q E hr h => ?_
  obtain ⟨t, ht, q⟩ := hbody cdv A outer s H vs Q E hr h
  exact ⟨t, ht.nox, q⟩
/-- no defaults -/
theorem Ok.of {d : Df} {ps : List Str} {k : Nat} {sp : Sp} (hF : ∃ z, FD K d z) (h : ∀ z, FD K d z → FnOk P w K mg base CX0 k (d.ad K) z ps sp) (hd : d.dfl = [] := by rfl)
    (hb : ∀ (kV doc pm : Value) (an : Option Addr) (cdv ct : Value) (us : List Value), us.length = ps.length → bindArgs (PySem.W.fnOf d.name d.qual (defArgs d.st) (defBody d.st) (defScope d.st) .none kV doc pm an cdv ct) ⟨us, []⟩ = pure (ps.zip us)) : Ok P w K mg base k (d.ad K) ps [] sp := by
  obtain ⟨z, F⟩ := hF
  have F2 : FunD K d.name d.qual (defArgs d.st) (defBody d.st) (defScope d.st) [] (d.kws K) (d.ad K) z := by
    have e : d.dvs K = [] := by
      unfold Df.dvs
      rw [hd]
      rfl
    have F1 : FunD K d.name d.qual (defArgs d.st) (defBody d.st) (defScope d.st) (d.dvs K) (d.kws K) (d.ad K) z := F
    rw [e] at F1
    exact F1
  exact ⟨z, [], h z F, F2.bindsN hb, .nil, F.kp⟩
/-- defaults behind the first j fill up behind n written values -/
theorem Ok.ofD {d : Df} {ps : List Str} {k : Nat} {sp : Sp} (n j : Nat) (hF : ∃ z, FD K d z) (h : ∀ z, FD K d z → FnOk P w K mg base CX0 k (d.ad K) z ps sp) (hd : d.dfl ≠ []) (hn : n + (d.dfl.length - j) = ps.length)
    (hb : ∀ (T : Addr) (kV doc pm : Value) (an : Option Addr) (cdv ct : Value) (us its : List Value), us.length = n → its.length = d.dfl.length →
      ∃ k, bindArgs (PySem.W.fnOf d.name d.qual (defArgs d.st) (defBody d.st) (defScope d.st) (.ref T) kV doc pm an cdv ct) ⟨us, []⟩ = seqItems? (.ref T) >>= k ∧ k (some its.toArray) = pure (ps.zip (us ++ its.drop j))) : Ok P w K mg base k (d.ad K) ps ((d.dvs K).drop j) sp := by
  obtain ⟨z, F⟩ := hF
  have hl : (d.dvs K).length = d.dfl.length := by
    unfold Df.dvs
    rw [List.length_map]
  obtain ⟨ds, h1, h2⟩ := FunD.binds1 (ps := ps) F n j (by
    intro e
    rw [e] at hl
    exact hd (List.length_eq_zero_iff.mp hl.symm)) (by rw [hl]; exact hn) fun T kV doc pm an cdv ct us its a b => hb T kV doc pm an cdv ct us its a (b.trans hl)
  exact ⟨z, ds, h z F, h2, h1, F.kp⟩
theorem Ok.mono {k k' : Nat} {f : Addr} {ps : List Str} {dvs : List V} {sp : Sp} (O : Ok P w K mg base k f ps dvs sp) (h : k ≤ k') : Ok P w K mg base k' f ps dvs sp :=
  let ⟨z, ds, a, b, c, d⟩ := O; ⟨z, ds, a.mono h, b, c, d⟩
theorem Ok.imp {k : Nat} {f : Addr} {ps : List Str} {dvs : List V} {sp sp' : Sp} (O : Ok P w K mg base k f ps dvs sp) (h : ∀ vs H Q E, sp' vs H Q E → sp vs H Q E) : Ok P w K mg base k f ps dvs sp' :=
  let ⟨z, ds, a, b, c, d⟩ := O; ⟨z, ds, a.imp h, b, c, d⟩
end
/-! ### heaps -/
/-- all but these is as it was -/
def Kp (S : List Addr) (H H' : Hp) : Prop := ∀ b o, H b = some o → b ∉ S → H' b = some o
theorem Kp.refl (S : List Addr) (H : Hp) : Kp S H H := fun _ _ h _ => h
theorem Kp.trans {S : List Addr} {H H1 H2 : Hp} (a : Kp S H H1) (b : Kp S H1 H2) : Kp S H H2 := fun c o h n => b c o (a c o h n) n
theorem Kp.mono {S S' : List Addr} {H H1 : Hp} (a : Kp S H H1) (h : ∀ b ∈ S, b ∈ S') : Kp S' H H1 := fun c o e n => a c o e fun z => n (h c z)
theorem Kp.same {H H' : Hp} (a : Kp [] H H') : Same H H' := fun b o h => a b o h (by simp)
theorem _root_.L2.Same.kp {S : List Addr} {H H' : Hp} (a : Same H H') : Kp S H H' := fun b o h _ => a b o h
theorem same_new {H : Hp} {p : Addr} {o : HO} (h : H p = none) : Same H (upd H p o) := fun a u e => by
  rw [upd_ne (ne_of_none e h)]
  exact e
/-- an object that was not there may change -/
theorem same_upd {H H1 : Hp} {p : Addr} {o : HO} (e : Same H H1) (h : H p = none) : Same H (upd H1 p o) := fun a u q => by
  rw [upd_ne (ne_of_none q h)]
  exact e a u q
theorem kp_upd {S : List Addr} {H H1 : Hp} {p : Addr} {o : HO} (e : Kp S H H1) (h : p ∈ S) : Kp S H (upd H1 p o) := fun a u q n => by
  rw [upd_ne (fun z : a = p => n (by rw [z]; exact h))]
  exact e a u q n
theorem kp_new {S : List Addr} {H H1 : Hp} {p : Addr} {o : HO} (e : Kp S H H1) (h : H p = none) : Kp S H (upd H1 p o) := fun a u q n => by
  rw [upd_ne (ne_of_none q h)]
  exact e a u q n
theorem _root_.L2.Same.tup {K : PySem.W.Frag} {H H' : Hp} {a : Addr} {xs : List V} (e : Same H H') (h : SqT K H a xs) : SqT K H' a xs := by
  rcases h with (h | ⟨o, h⟩) | h
  · exact .inl (.inl (e _ _ h))
  · exact .inl (.inr ⟨o, e _ _ h⟩)
  · exact .inr h
theorem same_none {H H' : Hp} (e : Same H H') {p : Addr} (h : H' p = none) : H p = none := Same.free e h
theorem pl0 : ([] : List (Str × V)).length < 1 := by decide
theorem plS {n : Nat} {f : Str} {v : V} {fs : List (Str × V)} (h : fs.length < n) : (putF f v fs).length < n + 1 := Nat.lt_of_le_of_lt (length_putF f v fs) (Nat.succ_lt_succ h)
theorem plM {n : Nat} {fs : List (Str × V)} (h : fs.length < n) (h2 : n ≤ 1000) : fs.length < 1000 := Nat.lt_of_lt_of_le h h2
theorem sl1 {n : Nat} (h : n ≤ 100000) : n ≤ sizeLine := Nat.le_trans h (by decide)
theorem sl2 {n : Nat} (h : n < 100000) : n < sizeLine := Nat.lt_of_lt_of_le h (by decide)
theorem blT {p : Prop} [Decidable p] (h : p) : V.bl (decide p) = V.bl true := by rw [decide_eq_true h]
theorem blF {p : Prop} [Decidable p] (h : ¬ p) : V.bl (decide p) = V.bl false := by rw [decide_eq_false h]
theorem blNT {p : Prop} [Decidable p] (h : ¬ p) : V.bl (!decide p) = V.bl true := by rw [decide_eq_false h]; rfl
theorem blNF {p : Prop} [Decidable p] (h : p) : V.bl (!decide p) = V.bl false := by rw [decide_eq_true h]; rfl
/-- the answer by an equation -/
theorem ans {Q : VK} {v v' : V} {H : Hp} (e : v = v') (h : Q v' H) : Q v H := by rw [e]; exact h
end K8
end

section
set_option Elab.async false
set_option linter.all false
set_option maxRecDepth 100000
set_option maxHeartbeats 4000000
/-! The small questions about values. -/
namespace K8
open PySem PySem.Spec PyProof.Rows L2
section
variable {P : Program} {w : World} {K : PySem.W.Frag} {mg : Str → Option Value} {base : Heap}
/-! ### is_integer, is_within -/
def spIsInt : Sp := fun vs H Q _ => ∃ i : Int, vs = [.int i] ∧ Q (.bl true) H
abbrev N_is_integer : List Str := ["value"]
theorem sc_is_integer : FnScope N_is_integer ["value"] (defScope s_is_integer) := ⟨rfl, rfl, rfl, by decide +kernel, rfl, by decide +kernel, by decide +kernel⟩
-- slots: 0 value
theorem ok_is_integer (T : Tx w K mg) : Ok P w K mg base 1 (a_is_integer K) ["value"] [] spIsInt := by
  refine Ok.of T.f_is_integer (fun z F => okBody F sc_is_integer (fun vs H Q E h => ?_) fun cdv A outer s H vs Q E hr h => ?_) rfl fun _ _ _ _ _ _ us hl => match us, hl with | [_], _ => rfl
  · obtain ⟨i, rfl, _⟩ := h
    rfl
  · obtain ⟨i, rfl, q⟩ := h
    refine ⟨_, (pss_one (ps_ret (pe_and (pe_callB call_isi (by rfl) T.b_isinstance (by decide +kernel) (pa_cons (pv 0) (pa_cons (pe_bltn (v := .ty "int") (by rfl) T.b_int (by decide +kernel) rfl) pa_nil))) (pe_one (pe_not (pe_callB call_isi (by rfl) T.b_isinstance (by decide +kernel) (pa_cons (pv 0) (pa_cons (pe_bltn (v := .ty "bool") (by rfl) T.b_bool (by decide +kernel) rfl) pa_nil)))))))), ?_⟩
    refine ⟨_, rfl, _, _, _, _, true, rfl, .ty "int", .base (.int i), kit_ty (by decide +kernel), true, rfl, iteT ?_⟩
    exact ⟨_, rfl, _, _, _, _, false, rfl, .ty "bool", .base (.int i), kit_ty (by decide +kernel), false, rfl, q⟩
/-- a whole number between two others -/
def spWithin : Sp := fun vs H Q _ => ∃ i lo hi : Int, vs = [.int i, .int lo, .int hi] ∧ lo ≤ i ∧ i ≤ hi ∧ Q (.bl true) H
abbrev N_is_within : List Str := ["value", "least", "most"]
theorem sc_is_within : FnScope N_is_within ["value", "least", "most"] (defScope s_is_within) := ⟨rfl, rfl, rfl, by decide +kernel, rfl, by decide +kernel, by decide +kernel⟩
-- slots: 0 value, 1 least, 2 most
theorem ok_is_within (T : Tx w K mg) : Ok P w K mg base 2 (a_is_within K) ["value", "least", "most"] [] spWithin := by
  obtain ⟨_, _, F_is_integer, b_is_integer, v_is_integer, k_is_integer⟩ := ok_is_integer (P := P) (base := base) T
  refine Ok.of T.f_is_within (fun z F => okBody F sc_is_within (fun vs H Q E h => ?_) fun cdv A outer s H vs Q E hr h => ?_) rfl fun _ _ _ _ _ _ us hl => match us, hl with | [_, _, _], _ => rfl
  · obtain ⟨i, lo, hi, rfl, _⟩ := h
    rfl
  · obtain ⟨i, lo, hi, rfl, h1, h2, q⟩ := h
    refine ⟨_, (pss_one (ps_ret (pe_and (pe_call F_is_integer (hr.mono (by decide)) rfl T.g_is_integer k_is_integer b_is_integer v_is_integer pass0 (pa_cons (pv 0) pa_nil)) (pe_one (pe_chain op_le op_le (pv 1) (pv 0) (pv 2)))))), ?_⟩
    refine ⟨_, rfl, i, rfl, true, rfl, iteT ?_⟩
    refine ⟨_, rfl, _, rfl, _, _, rfl, rfl, true, blT h1, iteT ?_⟩
    exact ⟨_, rfl, _, _, rfl, rfl, ans (Q := Q) (blT h2) q⟩
/-! ### names -/
abbrev abc : List Nat := ("abcdefghijklmnopqrstuvwxyz" : Str).cps.toList
abbrev abc0 : List Nat := ("abcdefghijklmnopqrstuvwxyz0123456789" : Str).cps.toList
/-- a name, as the program asks it -/
structure Nam (z : Str) : Prop where
  pos : 1 ≤ z.length
  le : z.length ≤ 8
  hd : ∃ c, z.cps[0]? = some c ∧ c ∈ abc
  all_ : ∀ c ∈ z.cps.toList, c ∈ abc0
def spName : Sp := fun vs H Q _ => ∃ z : Str, vs = [.str z] ∧ Nam z ∧ ∀ H', Same H H' → Q (.bl true) H'
theorem all_replicate : ∀ n : Nat, (List.replicate n true).all id = true
  | 0 => rfl
  | n + 1 => by
    rw [List.replicate_succ, List.all_cons, all_replicate n]
    rfl
abbrev N_is_name : List Str := ["value", "sign"]
theorem sc_is_name : FnScope N_is_name ["value"] (defScope s_is_name) := ⟨rfl, rfl, rfl, by decide +kernel, rfl, by decide +kernel, by decide +kernel⟩
-- slots: 0 value, 1 sign
theorem ok_is_name (T : Tx w K mg) : Ok P w K mg base 1 (a_is_name K) ["value"] [] spName := by
  refine Ok.of T.f_is_name (fun z F => okBody F sc_is_name (fun vs H Q E h => ?_) fun cdv A outer s H vs Q E hr h => ?_) rfl fun _ _ _ _ _ _ us hl => match us, hl with | [_], _ => rfl
  · obtain ⟨i, rfl, _⟩ := h
    rfl
  · obtain ⟨z, rfl, n, q⟩ := h
    refine ⟨_, (pss_cons (ps_if (PW.pt (pw_or (pt_not (pt_val (pe_callB call_isi (by rfl) T.b_isinstance (by decide +kernel) (pa_cons (pv 0) (pa_cons (pe_bltn (v := .ty "str") (by rfl) T.b_str (by decide +kernel) rfl) pa_nil))))) (pw_or1 (pt_not (pt_chain op_le op_le pe_int (pe_callB call_len_str (by rfl) T.b_len (by decide +kernel) (pa_cons (pv 0) pa_nil)) (C8.pe_gc rfl T.v_LONGEST_NAME)))))) (pss_one (ps_ret pe_bl)) pss_nil)
 (pss_one (ps_ret (pe_and (pe_cmpR op_in_sign (pe_ix ix_str (pv 0) pe_int (fun _ _ => rfl)) (C8.pe_gc rfl T.v_LETTERS) rfl) (pe_one (pe_callB (cr_all rfl) (by rfl) T.b_all (by decide +kernel) (pa_cons (pe_lc (own := [("sign", 1)]) rfl sc_is_name.nd (pi_str (pv 0)) (blkOk_by (own := [("sign", 1)]) (N := N_is_name) (sc := defScope s_is_name) (by decide +kernel)) (fun _ _ _ _ _ => (pg_name (i := 1) sc_is_name.nd rfl (by first | exact Or.inl rfl | exact Or.inr rfl))) (fun _ _ _ _ _ => pts_nil) (fun _ _ _ _ _ => (pe_cmpR op_in_sign (pv 1) (C8.pe_gc rfl T.v_SIGNS) rfl))) pa_nil))))))), ?_⟩
    have hl : z.length ≤ sizeLine := sl1 (Nat.le_trans n.le (by decide))
    refine ⟨_, rfl, _, _, _, _, true, rfl, .ty "str", .base (.str z), kit_ty (by decide +kernel), true, rfl, iteF ?_⟩
    have h1 : (1 : Int) ≤ (z.length : Int) := by have := n.pos; omega
    have h2 : (z.length : Int) ≤ 8 := by have := n.le; omega
    refine ⟨_, rfl, _, rfl, hl, _, _, rfl, rfl, true, blT h1, iteT ?_⟩
    refine ⟨_, _, rfl, rfl, true, blT h2, iteF ?_⟩
    -- the first sign, then all
    obtain ⟨c, hc, hm⟩ := n.hd
    refine ⟨_, rfl, z, 0, c, rfl, rfl, hl, atI_nat (j := 0) (by simpa using hc), ?_⟩
    refine ⟨c, _, rfl, rfl, true, blT hm, iteT ?_⟩
    refine ⟨_, rfl, z, rfl, fun D hD => ?_⟩
    have W := walk_str (z := z)
    refine lc_it W (fun i H' => H' = upd H D (.lst ((List.replicate i true).map V.bl))) rfl (fun _ _ _ _ => trivial) ?_ ?_
    · rintro i x H1 H2 hi rfl ⟨rfl, d, hd, rfl⟩
      have hdm : d ∈ z.cps.toList := by
        have := Array.mem_of_getElem? hd
        simpa using this
      refine ⟨rfl, _, rfl, d, _, rfl, rfl, _, upd_same, ?_, ?_⟩
      · rw [List.length_map, List.length_replicate]
        exact Nat.lt_of_lt_of_le hi hl
      · rw [upd_upd, decide_eq_true (show d ∈ _ from n.all_ d hdm), List.replicate_succ', List.map_append]
        rfl
    · rintro H1 rfl
      refine ⟨_, List.replicate _ true, rfl, SqL.of upd_same, ans (Q := Q) (congrArg V.bl (all_replicate _)) (q _ (same_new hD))⟩
/-! ### tuples and lists of texts -/
abbrev strV (ys : List Str) : List V := ys.map V.str
theorem inV_strs (z : Str) : ∀ ys : List Str, inV (.str z) (strV ys) = decide (z ∈ ys)
  | [] => by simp [inV, strV]
  | y :: ys => by
    have ih := inV_strs z ys
    unfold inV strV at ih ⊢
    rw [List.map_cons, List.any_cons, ih]
    show ((y == z) || _) = _
    by_cases e : y = z
    · subst e
      simp
    · have e2 : ¬ z = y := fun q => e q.symm
      rw [beq_eq_false_iff_ne.mpr e]
      simp [e2]
theorem flat_strs (ys : List Str) : (strV ys).all flatV = true := by
  rw [List.all_eq_true]
  intro x hx
  obtain ⟨y, _, rfl⟩ := List.mem_map.mp hx
  rfl
theorem abc0_lt : ∀ c ∈ abc0, c < 128 := by decide +kernel
theorem Nam.ok {z : Str} (n : Nam z) : PyData.strOk z = true := by
  unfold PyData.strOk
  rw [Array.all_eq_true_iff_forall_mem]
  intro c hc
  have := abc0_lt c (n.all_ c (by simpa using hc))
  simp only [decide_eq_true_eq]
  omega
/-! ### check_names -/
/-- what is allowed: nothing said, or these -/
def Allow (K : PySem.W.Frag) (H : Hp) (al : V) (ys : List Str) : Prop := al = .non ∨ ∃ b bs, al = .ref b ∧ SqT K H b (strV bs) ∧ ∀ y ∈ ys, y ∈ bs
/-- a tuple, new or known to the object -/
def TupA (H : Hp) (a : Addr) (xs : List V) : Prop := H a = some (.tup xs) ∨ ∃ o, H a = some (.frz o (.tup xs))
theorem TupA.sq {K : PySem.W.Frag} {H : Hp} {a : Addr} {xs : List V} (h : TupA H a xs) : SqT K H a xs := .inl h
theorem TupA.ty {K : PySem.W.Frag} {H : Hp} {a : Addr} {xs : List V} (h : TupA H a xs) : TyX K H (.ref a) (.type "tuple") := by
  rcases h with h | ⟨o, h⟩
  · exact .base (.tup h)
  · exact .fTuple h
theorem TupA.same {H H' : Hp} {a : Addr} {xs : List V} (h : TupA H a xs) (e : Same H H') : TupA H' a xs := by
  rcases h with h | ⟨o, h⟩
  · exact .inl (e _ _ h)
  · exact .inr ⟨o, e _ _ h⟩
def spNames (K : PySem.W.Frag) : Sp := fun vs H Q _ => ∃ (a : Addr) (ys : List Str) (most al : V) (e : Addr), vs = [.ref a, most, al, .ref e] ∧ TupA H a (strV ys) ∧ (∀ y ∈ ys, Nam y) ∧ ys.Nodup ∧ ys.length ≤ 6 ∧
  (most = .non ∨ most = .int 6) ∧ Allow K H al ys ∧ (∀ H, SqT K H e []) ∧ ∀ H', Same H H' → Q .non H'
abbrev N_check_names : List Str := ["names", "most", "allowed", "barred", "index", "name"]
theorem sc_check_names : FnScope N_check_names ["names", "most", "allowed", "barred"] (defScope s_check_names) := ⟨rfl, rfl, rfl, by decide +kernel, rfl, by decide +kernel, by decide +kernel⟩
-- slots: 0 names, 1 most, 2 allowed, 3 barred, 4 index, 5 name
theorem fn_check_names (T : Tx w K mg) (z : FuncData) (F : FD K d_check_names z) : FnOk P w K mg base CX0 2 (a_check_names K) z ["names", "most", "allowed", "barred"] (spNames K) := by
  obtain ⟨_, _, F_is_name, b_is_name, v_is_name, k_is_name⟩ := ok_is_name (P := P) (base := base) T
  refine okBody F sc_check_names (fun vs H Q E h => ?_) fun cdv A outer s H vs Q E hr h => ?_
  · obtain ⟨a, ys, most, al, e, rfl, _⟩ := h
    rfl
  · obtain ⟨a, ys, most, al, e, rfl, ha, hn, nd, h6, hm, hal, he, q⟩ := h
    refine ⟨_, (pss_cons (ps_if (pt_not (pt_val (pe_callB call_isi (by rfl) T.b_isinstance (by decide +kernel) (pa_cons (pv 0) (pa_cons (pe_bltn (v := .ty "tuple") (by rfl) T.b_tuple (by decide +kernel) rfl) pa_nil))))) (pss_one ps_never) pss_nil)
 (pss_one (ps_for PassesOwn.never rfl (pi_enumT (by rfl) T.b_enumerate (pa_cons (pv 0) pa_nil)) (pg_tup rfl (pgs_cons (pg_name (i := 4) sc_check_names.nd rfl (by first | exact Or.inl rfl | exact Or.inr rfl)) (pgs_cons (pg_name (i := 5) sc_check_names.nd rfl (by first | exact Or.inl rfl | exact Or.inr rfl)) pgs_nil))) (pss_cons (ps_if (PW.pt (pw_and (pt_cmpR op_notN (pv 1) pe_non (nomark _)) (pw_and1 (pt_cmpR op_eq (pv 4) (pv 1) (nomark _))))) (pss_one ps_never) pss_nil)
 (pss_cons (ps_if (PW.pt (pw_or (pt_not (pt_val (pe_call F_is_name (hr.mono (by decide)) rfl T.g_is_name k_is_name b_is_name v_is_name pass0 (pa_cons (pv 5) pa_nil)))) (pw_or (pt_cmpR op_in_seq (pv 5) (pe_slice sl_tupA (pv 0) po_none (po_some (pv 4))) rfl) (pw_or1 (pt_cmpR op_in_seq (pv 5) (pv 3) rfl))))) (pss_one ps_never) pss_nil)
 (pss_one (ps_if (PW.pt (pw_and (pt_cmpR op_notN (pv 2) pe_non (nomark _)) (pw_and1 (pt_cmpR op_notIn_seq (pv 5) (pv 2) rfl)))) (pss_one ps_never) pss_nil))))))), ?_⟩
    refine ⟨_, rfl, _, _, _, _, true, rfl, .ty "tuple", ha.ty, kit_ty (by decide +kernel), true, rfl, iteF ?_⟩
    refine ⟨_, rfl, a, _, rfl, ha.sq, for_enumT (xs := strV ys) (fun i σ H' => ∃ v4 v5, σ = [some (.ref a), some most, some al, some (.ref e), v4, v5] ∧ Same H H') ⟨none, none, rfl, Same.refl H⟩
      (fun i σ H' _ ⟨_, _, _, s⟩ => s.tup (ha.sq)) ?_ ?_⟩
    · rintro i x t σ H1 hx ⟨v4, v5, rfl, s1⟩ ht
      have hi : i < ys.length := by
        have := (List.getElem?_eq_some_iff.mp hx).1
        simpa using this
      have ex : x = .str ys[i] := by
        rw [List.getElem?_map, List.getElem?_eq_getElem hi] at hx
        exact (Option.some.inj hx).symm
      subst ex
      have s2 : Same H (upd H1 t (.tup [.int (i : Nat), .str ys[i]])) := same_upd s1 (same_none s1 ht)
      refine ⟨t, _, rfl, SqT.of upd_same, rfl, _, _, rfl, _, _, rfl, rfl, ?_⟩
      -- at most so many
      have hne : ¬ V.int (i : Nat) = V.int 6 := fun z => by
        injection z with z
        omega
      have hlen : i < (strV ys).length := by rw [List.length_map]; exact hi
      have hcut : cutV (strV ys) none (some (i : Nat)) = strV (ys.take i) := by
        unfold cutV
        rw [HT.sIx_none, HT.sIx_nat, List.drop_zero, Nat.sub_zero, Nat.min_eq_left (Nat.le_of_lt hlen)]
        exact List.map_take.symm
      have hnot : ¬ ys[i] ∈ ys.take i := fun m => by
        obtain ⟨j, hj, e⟩ := List.getElem_of_mem m
        rw [List.getElem_take] at e
        have hj2 : j < i := by
          rw [List.length_take] at hj
          omega
        exact Nat.ne_of_lt hj2 ((List.getElem_inj nd).mp e)
      rcases hm with rfl | rfl
      all_goals first
        | refine ⟨_, rfl, rfl, false, blNF rfl, iteF (iteF ?_)⟩
        | refine ⟨_, rfl, rfl, true, blNT (fun z => by cases z), iteT ⟨_, rfl, _, rfl, rfl, false, blF hne, iteF ?_⟩⟩
      all_goals
        refine ⟨_, rfl, ys[i], rfl, hn _ (List.getElem_mem hi), fun H2 s3 => ⟨true, rfl, iteF ?_⟩⟩
        have s4 : Same H H2 := s2.trans s3
        refine ⟨_, rfl, _, rfl, _, rfl, _, rfl, a, _, rfl, s4.tup (ha.sq), fun z => ?_, fun _ p hp => ?_⟩
        · rw [HT.sIx_nat, Nat.min_eq_left (Nat.le_of_lt hlen)] at z
          exact absurd z.2 (Nat.ne_of_lt hlen)
        · have s5 : Same H (upd H2 p (.tup (cutV (strV ys) none (some (i : Nat))))) := same_upd s4 (same_none s4 hp)
          refine ⟨p, _, rfl, .inr (SqT.of upd_same), rfl, by rw [hcut]; exact flat_strs _, false, ?_, iteF ?_⟩
          · rw [hcut, inV_strs]
            exact blF hnot
          · refine ⟨_, rfl, _, rfl, e, [], rfl, .inr (he _), rfl, rfl, false, rfl, iteF ?_⟩
            rcases hal with rfl | ⟨b, bs, rfl, hb, hin⟩
            · exact ⟨_, rfl, rfl, false, blNF rfl, iteF (iteF ⟨_, _, rfl, s5⟩)⟩
            · refine ⟨_, rfl, rfl, true, blNT (fun z => by cases z), iteT ⟨_, rfl, _, rfl, b, _, rfl, .inr (s5.tup hb), rfl, flat_strs bs, false, ?_, iteF ⟨_, _, rfl, s5⟩⟩⟩
              rw [inV_strs]
              exact blNF (hin _ (List.getElem_mem hi))
    · rintro σ H1 ⟨v4, v5, rfl, s1⟩
      exact q _ s1
/-- what is barred if nothing is said -/
abbrev aBar (K : PySem.W.Frag) : Addr := He.dflAt ("check_names", none) 1 K
theorem ok_check_names2 (T : Tx w K mg) : Ok P w K mg base 2 (a_check_names K) ["names", "most", "allowed", "barred"] [.non, .ref (aBar K)] (spNames K) :=
  Ok.ofD (d := d_check_names) 2 0 T.f_check_names (fun z F => fn_check_names T z F) (by intro e; cases e) rfl fun _ _ _ _ _ _ _ us its l1 l2 => match us, its, l1, l2 with | [_, _], [_, _], _, _ => ⟨_, rfl, rfl⟩
theorem ok_check_names3 (T : Tx w K mg) : Ok P w K mg base 2 (a_check_names K) ["names", "most", "allowed", "barred"] [.ref (aBar K)] (spNames K) :=
  Ok.ofD (d := d_check_names) 3 1 T.f_check_names (fun z F => fn_check_names T z F) (by intro e; cases e) rfl fun _ _ _ _ _ _ _ us its l1 l2 => match us, its, l1, l2 with | [_, _, _], [_, _], _, _ => ⟨_, rfl, rfl⟩
/-! ### looks at an object's class -/
def spIs (C : Addr) : Sp := fun vs H Q _ => ∃ a dx fs, vs = [.ref a] ∧ H a = some (.ins C dx fs) ∧ Q .non H
abbrev N_check_kind : List Str := ["value"]
theorem sc_check_kind : FnScope N_check_kind ["value"] (defScope s_check_kind) := ⟨rfl, rfl, rfl, by decide +kernel, rfl, by decide +kernel, by decide +kernel⟩
-- slots: 0 value
theorem ok_check_kind (T : Tx w K mg) : Ok P w K mg base 1 (a_check_kind K) ["value"] [] (spIs (CKind K)) := by
  refine Ok.of T.f_check_kind (fun z F => okBody F sc_check_kind (fun vs H Q E h => ?_) fun cdv A outer s H vs Q E hr h => ?_) rfl fun _ _ _ _ _ _ us hl => match us, hl with | [_], _ => rfl
  · obtain ⟨a, dx, fs, rfl, _⟩ := h
    rfl
  · obtain ⟨a, dx, fs, rfl, ha, q⟩ := h
    refine ⟨_, (pss_one (ps_if (pt_not (pt_val (pe_callB (C8.call_isC T.isKind) (by rfl) T.b_isinstance (by decide +kernel) (pa_cons (pv 0) (pa_cons (C8.pe_gc rfl T.v_Kind) pa_nil))))) (pss_one ps_never) pss_nil)), ?_⟩
    exact ⟨_, rfl, a, dx, fs, rfl, ha, true, rfl, iteF q⟩
abbrev N_check_formula : List Str := ["value"]
theorem sc_check_formula : FnScope N_check_formula ["value"] (defScope s_check_formula) := ⟨rfl, rfl, rfl, by decide +kernel, rfl, by decide +kernel, by decide +kernel⟩
-- slots: 0 value
theorem ok_check_formula (T : Tx w K mg) : Ok P w K mg base 1 (a_check_formula K) ["value"] [] (spIs (CFormula K)) := by
  refine Ok.of T.f_check_formula (fun z F => okBody F sc_check_formula (fun vs H Q E h => ?_) fun cdv A outer s H vs Q E hr h => ?_) rfl fun _ _ _ _ _ _ us hl => match us, hl with | [_], _ => rfl
  · obtain ⟨a, dx, fs, rfl, _⟩ := h
    rfl
  · obtain ⟨a, dx, fs, rfl, ha, q⟩ := h
    refine ⟨_, (pss_one (ps_if (pt_not (pt_val (pe_callB (C8.call_isC T.isFormula) (by rfl) T.b_isinstance (by decide +kernel) (pa_cons (pv 0) (pa_cons (C8.pe_gc rfl T.v_Formula) pa_nil))))) (pss_one ps_never) pss_nil)), ?_⟩
    exact ⟨_, rfl, a, dx, fs, rfl, ha, true, rfl, iteF q⟩
abbrev N_check_script : List Str := ["value"]
theorem sc_check_script : FnScope N_check_script ["value"] (defScope s_check_script) := ⟨rfl, rfl, rfl, by decide +kernel, rfl, by decide +kernel, by decide +kernel⟩
-- slots: 0 value
theorem ok_check_script (T : Tx w K mg) : Ok P w K mg base 1 (a_check_script K) ["value"] [] (spIs (CScript K)) := by
  refine Ok.of T.f_check_script (fun z F => okBody F sc_check_script (fun vs H Q E h => ?_) fun cdv A outer s H vs Q E hr h => ?_) rfl fun _ _ _ _ _ _ us hl => match us, hl with | [_], _ => rfl
  · obtain ⟨a, dx, fs, rfl, _⟩ := h
    rfl
  · obtain ⟨a, dx, fs, rfl, ha, q⟩ := h
    refine ⟨_, (pss_one (ps_if (pt_not (pt_val (pe_callB (C8.call_isC T.isScript) (by rfl) T.b_isinstance (by decide +kernel) (pa_cons (pv 0) (pa_cons (C8.pe_gc rfl T.v_Script) pa_nil))))) (pss_one ps_never) pss_nil)), ?_⟩
    exact ⟨_, rfl, a, dx, fs, rfl, ha, true, rfl, iteF q⟩
/-! ### how many operations -/
def spFew : Sp := fun vs H Q _ => ∃ n : Int, vs = [.int n] ∧ n ≤ 8 ∧ Q .non H
abbrev N_check_operations : List Str := ["number"]
theorem sc_check_operations : FnScope N_check_operations ["number"] (defScope s_check_operations) := ⟨rfl, rfl, rfl, by decide +kernel, rfl, by decide +kernel, by decide +kernel⟩
-- slots: 0 number
theorem ok_check_operations (T : Tx w K mg) : Ok P w K mg base 1 (a_check_operations K) ["number"] [] spFew := by
  refine Ok.of T.f_check_operations (fun z F => okBody F sc_check_operations (fun vs H Q E h => ?_) fun cdv A outer s H vs Q E hr h => ?_) rfl fun _ _ _ _ _ _ us hl => match us, hl with | [_], _ => rfl
  · obtain ⟨a, rfl, _⟩ := h
    rfl
  · obtain ⟨a, rfl, ha, q⟩ := h
    refine ⟨_, (pss_one (ps_if (pt_cmpR op_gt (pv 0) (C8.pe_gc rfl T.v_MOST_OPERATIONS) (nomark _)) (pss_one ps_never) pss_nil)), ?_⟩
    exact ⟨_, rfl, _, _, rfl, rfl, false, blF (by omega), iteF q⟩
/-! ### formulas, facts -/
abbrev refV (as : List Addr) : List V := as.map V.ref
def spForms (K : PySem.W.Frag) : Sp := fun vs H Q _ => ∃ (a : Addr) (as : List Addr), vs = [.ref a, .int 0] ∧ H a = some (.tup (refV as)) ∧ as.length ≤ 6 ∧ (∀ b ∈ as, ∃ dx fs, H b = some (.ins (CFormula K) dx fs)) ∧ ∀ H', Same H H' → Q .non H'
abbrev N_check_formulas : List Str := ["value", "least", "index", "formula"]
theorem sc_check_formulas : FnScope N_check_formulas ["value", "least"] (defScope s_check_formulas) := ⟨rfl, rfl, rfl, by decide +kernel, rfl, by decide +kernel, by decide +kernel⟩
-- slots: 0 value, 1 least, 2 index, 3 formula
theorem ok_check_formulas1 (T : Tx w K mg) : Ok P w K mg base 1 (a_check_formulas K) ["value", "least"] [.int 0] (spForms K) := by
  refine Ok.ofD (d := d_check_formulas) 1 0 T.f_check_formulas (fun z F => okBody F sc_check_formulas (fun vs H Q E h => ?_) fun cdv A outer s H vs Q E hr h => ?_) (by intro e; cases e) rfl fun _ _ _ _ _ _ _ us its l1 l2 => match us, its, l1, l2 with | [_], [_], _, _ => ⟨_, rfl, rfl⟩
  · obtain ⟨a, as, rfl, _⟩ := h
    rfl
  · obtain ⟨a, as, rfl, ha, h6, hf, q⟩ := h
    refine ⟨_, (pss_cons (ps_if (PW.pt (pw_or (pt_not (pt_val (pe_callB call_isi (by rfl) T.b_isinstance (by decide +kernel) (pa_cons (pv 0) (pa_cons (pe_bltn (v := .ty "tuple") (by rfl) T.b_tuple (by decide +kernel) rfl) pa_nil))))) (pw_or1 (pt_cmpR op_lt (pe_callB call_len_seq (by rfl) T.b_len (by decide +kernel) (pa_cons (pv 0) pa_nil)) (pv 1) (nomark _))))) (pss_one ps_never) pss_nil)
 (pss_one (ps_for PassesOwn.never rfl (pi_enumT (by rfl) T.b_enumerate (pa_cons (pv 0) pa_nil)) (pg_tup rfl (pgs_cons (pg_name (i := 2) sc_check_formulas.nd rfl (by first | exact Or.inl rfl | exact Or.inr rfl)) (pgs_cons (pg_name (i := 3) sc_check_formulas.nd rfl (by first | exact Or.inl rfl | exact Or.inr rfl)) pgs_nil))) (pss_one (ps_if (PW.pt (pw_or (pt_cmpR op_eq (pv 2) (C8.pe_gc rfl T.v_MOST_FORMULAS) (nomark _)) (pw_or1 (pt_not (pt_val (pe_callB (C8.call_isC T.isFormula) (by rfl) T.b_isinstance (by decide +kernel) (pa_cons (pv 3) (pa_cons (C8.pe_gc rfl T.v_Formula) pa_nil)))))))) (pss_one ps_never) pss_nil))))), ?_⟩
    refine ⟨_, rfl, _, _, _, _, true, rfl, .ty "tuple", .base (.tup ha), kit_ty (by decide +kernel), true, rfl, iteF ?_⟩
    refine ⟨_, rfl, a, _, rfl, .inr (SqT.of ha), _, rfl, _, _, rfl, rfl, false, blF (by omega), iteF ?_⟩
    refine ⟨_, rfl, a, _, rfl, SqT.of ha, for_enumT (xs := refV as) (fun i σ H' => ∃ v2 v3, σ = [some (.ref a), some (.int 0), v2, v3] ∧ Same H H') ⟨none, none, rfl, Same.refl H⟩
      (fun i σ H' _ ⟨_, _, _, s⟩ => s.tup (SqT.of ha)) ?_ ?_⟩
    · rintro i x t σ H1 hx ⟨v2, v3, rfl, s1⟩ ht
      have hi : i < as.length := by
        have := (List.getElem?_eq_some_iff.mp hx).1
        simpa using this
      have ex : x = .ref as[i] := by
        rw [List.getElem?_map, List.getElem?_eq_getElem hi] at hx
        exact (Option.some.inj hx).symm
      subst ex
      have s2 : Same H (upd H1 t (.tup [.int (i : Nat), .ref as[i]])) := same_upd s1 (same_none s1 ht)
      have hne : ¬ V.int (i : Nat) = V.int 6 := fun z => by
        injection z with z
        omega
      obtain ⟨dx, fs, hb⟩ := hf _ (List.getElem_mem hi)
      refine ⟨t, _, rfl, SqT.of upd_same, rfl, _, _, rfl, _, _, rfl, rfl, ?_⟩
      refine ⟨_, rfl, rfl, false, blF hne, iteF ?_⟩
      exact ⟨_, rfl, _, dx, fs, rfl, s2 _ _ hb, true, rfl, iteF ⟨_, _, rfl, s2⟩⟩
    · rintro σ H1 ⟨v2, v3, rfl, s1⟩
      exact q _ s1
def spFacts : Sp := fun vs H Q _ => ∃ a : Addr, vs = [.ref a] ∧ H a = some (.tup []) ∧ Q .non H
abbrev N_check_facts : List Str := ["value", "index", "pair", "side"]
theorem sc_check_facts : FnScope N_check_facts ["value"] (defScope s_check_facts) := ⟨rfl, rfl, rfl, by decide +kernel, rfl, by decide +kernel, by decide +kernel⟩
-- slots: 0 value, 1 index, 2 pair, 3 side
theorem ok_check_facts (T : Tx w K mg) : Ok P w K mg base 1 (a_check_facts K) ["value"] [] spFacts := by
  refine Ok.of T.f_check_facts (fun z F => okBody F sc_check_facts (fun vs H Q E h => ?_) fun cdv A outer s H vs Q E hr h => ?_) rfl fun _ _ _ _ _ _ us hl => match us, hl with | [_], _ => rfl
  · obtain ⟨a, rfl, _⟩ := h
    rfl
  · obtain ⟨a, rfl, ha, q⟩ := h
    refine ⟨_, (pss_cons (ps_if (pt_not (pt_val (pe_callB call_isi (by rfl) T.b_isinstance (by decide +kernel) (pa_cons (pv 0) (pa_cons (pe_bltn (v := .ty "tuple") (by rfl) T.b_tuple (by decide +kernel) rfl) pa_nil))))) (pss_one ps_never) pss_nil)
 (pss_one (ps_for PassesOwn.never rfl (pi_enumT (by rfl) T.b_enumerate (pa_cons (pv 0) pa_nil)) (pg_tup rfl (pgs_cons (pg_name (i := 1) sc_check_facts.nd rfl (by first | exact Or.inl rfl | exact Or.inr rfl)) (pgs_cons (pg_name (i := 2) sc_check_facts.nd rfl (by first | exact Or.inl rfl | exact Or.inr rfl)) pgs_nil))) (pss_one ps_never)))), ?_⟩
    refine ⟨_, rfl, _, _, _, _, true, rfl, .ty "tuple", .base (.tup ha), kit_ty (by decide +kernel), true, rfl, iteF ?_⟩
    refine ⟨_, rfl, a, _, rfl, SqT.of ha, for_enumT (xs := []) (fun i σ H' => H' = H) rfl (fun i σ H' _ e => by rw [e]; exact SqT.of ha) ?_ ?_⟩
    · rintro i x t σ H1 hx _ _
      cases hx
    · rintro σ H1 rfl
      exact q
/-! ### scripts -/
def fsScr (steps kind boxes rows : Addr) : List (Str × V) := [("steps", .ref steps), ("kind", .ref kind), ("boxes", .ref boxes), ("rows", .ref rows)]
theorem fsScr_steps (a b c d : Addr) : (fsScr a b c d).lookup ("steps" : Str) = some (.ref a) := by kernel_rfl
theorem fsScr_kind (a b c d : Addr) : (fsScr a b c d).lookup ("kind" : Str) = some (.ref b) := by kernel_rfl
theorem fsScr_boxes (a b c d : Addr) : (fsScr a b c d).lookup ("boxes" : Str) = some (.ref c) := by kernel_rfl
theorem fsScr_rows (a b c d : Addr) : (fsScr a b c d).lookup ("rows" : Str) = some (.ref d) := by kernel_rfl
def ScrAt (K : PySem.W.Frag) (H : Hp) (p steps kind boxes rows : Addr) : Prop := ∃ dx, H p = some (.ins (CScript K) dx (fsScr steps kind boxes rows))
def spIndex (K : PySem.W.Frag) : Sp := fun vs H Q _ => ∃ (p a b c d : Addr) (i : Int) (xs : List V), vs = [.ref p, .int i] ∧ ScrAt K H p a b c d ∧ SqT K H d xs ∧ 0 ≤ i ∧ i ≤ xs.length ∧ Q .non H
abbrev N_check_index : List Str := ["script", "row"]
theorem sc_check_index : FnScope N_check_index ["script", "row"] (defScope s_check_index) := ⟨rfl, rfl, rfl, by decide +kernel, rfl, by decide +kernel, by decide +kernel⟩
-- slots: 0 script, 1 row
theorem ok_check_index (T : Tx w K mg) : Ok P w K mg base 3 (a_check_index K) ["script", "row"] [] (spIndex K) := by
  obtain ⟨_, _, F_is_within, b_is_within, v_is_within, k_is_within⟩ := ok_is_within (P := P) (base := base) T
  refine Ok.of T.f_check_index (fun z F => okBody F sc_check_index (fun vs H Q E h => ?_) fun cdv A outer s H vs Q E hr h => ?_) rfl fun _ _ _ _ _ _ us hl => match us, hl with | [_, _], _ => rfl
  · obtain ⟨p, a, b, c, d, i, xs, rfl, _⟩ := h
    rfl
  · obtain ⟨p, a, b, c, d, i, xs, rfl, ⟨dx, hp⟩, hd, h0, h1, q⟩ := h
    refine ⟨_, (pss_one (ps_if (pt_not (pt_val (pe_call F_is_within (hr.mono (by decide)) rfl T.g_is_within k_is_within b_is_within v_is_within pass0 (pa_cons (pv 1) (pa_cons pe_int (pa_cons (pe_callB call_len_seq (by rfl) T.b_len (by decide +kernel) (pa_cons (pe_fld (pv 0) rfl) pa_nil)) pa_nil)))))) (pss_one ps_never) pss_nil)), ?_⟩
    exact ⟨_, rfl, _, rfl, p, _, dx, _, _, rfl, hp, T.cl_Script, T.na_Script_rows, fsScr_rows a b c d, d, _, rfl, .inr hd, i, 0, _, rfl, h0, h1, true, rfl, iteF q⟩
def spBox (K : PySem.W.Frag) : Sp := fun vs H Q _ => ∃ (p a b c d : Addr) (z : Str) (ys : List Str), vs = [.ref p, .str z] ∧ ScrAt K H p a b c d ∧ SqT K H c (strV ys) ∧ z ∈ ys ∧ Q .non H
abbrev N_check_box : List Str := ["script", "name"]
theorem sc_check_box : FnScope N_check_box ["script", "name"] (defScope s_check_box) := ⟨rfl, rfl, rfl, by decide +kernel, rfl, by decide +kernel, by decide +kernel⟩
-- slots: 0 script, 1 name
theorem ok_check_box (T : Tx w K mg) : Ok P w K mg base 1 (a_check_box K) ["script", "name"] [] (spBox K) := by
  refine Ok.of T.f_check_box (fun z F => okBody F sc_check_box (fun vs H Q E h => ?_) fun cdv A outer s H vs Q E hr h => ?_) rfl fun _ _ _ _ _ _ us hl => match us, hl with | [_, _], _ => rfl
  · obtain ⟨p, a, b, c, d, z, ys, rfl, _⟩ := h
    rfl
  · obtain ⟨p, a, b, c, d, z, ys, rfl, ⟨dx, hp⟩, hc, hz, q⟩ := h
    refine ⟨_, (pss_one (ps_if (PW.pt (pw_or (pt_not (pt_val (pe_callB call_isi (by rfl) T.b_isinstance (by decide +kernel) (pa_cons (pv 1) (pa_cons (pe_bltn (v := .ty "str") (by rfl) T.b_str (by decide +kernel) rfl) pa_nil))))) (pw_or1 (pt_cmpR op_notIn_seq (pv 1) (pe_fld (pv 0) rfl) rfl)))) (pss_one ps_never) pss_nil)), ?_⟩
    refine ⟨_, rfl, _, _, _, _, true, rfl, .ty "str", .base (.str z), kit_ty (by decide +kernel), true, rfl, iteF ?_⟩
    refine ⟨_, rfl, _, rfl, p, _, dx, _, _, rfl, hp, T.cl_Script, T.na_Script_boxes, fsScr_boxes a b c d, c, _, rfl, .inr hc, rfl, flat_strs ys, false, ?_, iteF q⟩
    rw [inV_strs]
    exact blNF hz
def spBoxes : Sp := fun vs H Q _ => ∃ (a : Addr) (x y z : Str), vs = [.ref a] ∧ TupA H a (strV [x, y, z]) ∧ (∀ u ∈ [x, y, z], Nam u) ∧ [x, y, z].Nodup ∧ ∀ H', Same H H' → Q .non H'
abbrev N_check_boxes : List Str := ["boxes"]
theorem sc_check_boxes : FnScope N_check_boxes ["boxes"] (defScope s_check_boxes) := ⟨rfl, rfl, rfl, by decide +kernel, rfl, by decide +kernel, by decide +kernel⟩
-- slots: 0 boxes
theorem ok_check_boxes (T : Tx w K mg) : Ok P w K mg base 3 (a_check_boxes K) ["boxes"] [] spBoxes := by
  obtain ⟨_, _, F_check_names2, b_check_names2, v_check_names2, k_check_names2⟩ := ok_check_names2 (P := P) (base := base) T
  refine Ok.of T.f_check_boxes (fun z F => okBody F sc_check_boxes (fun vs H Q E h => ?_) fun cdv A outer s H vs Q E hr h => ?_) rfl fun _ _ _ _ _ _ us hl => match us, hl with | [_], _ => rfl
  · obtain ⟨a, x, y, z, rfl, _⟩ := h
    rfl
  · obtain ⟨a, x, y, z, rfl, ha, hn, nd, q⟩ := h
    refine ⟨_, (pss_cons (ps_if (pt_cmpR (op_eqD hr.units) (pv 0) (pe_tup pa_nil) (nomark _)) (pss_one ps_never) pss_nil)
 (pss_one (ps_expr (pe_call F_check_names2 (hr.mono (by decide)) rfl T.g_check_names k_check_names2 b_check_names2 v_check_names2 pass0 (pa_cons (pv 0) (pa_cons (C8.pe_gc rfl T.v_MOST_NAMES) pa_nil)))))), ?_⟩
    refine ⟨_, rfl, by show 0 ≤ sizeLine; decide, fun p hp => ?_⟩
    have s1 : Same H (upd H p (.tup [])) := same_new hp
    have hsh : SeqAt.shaped (.tuple [.str x, .str y, .str z]) = true := by
      show ((PyData.strOk x && (PyData.strOk y && (PyData.strOk z && true))) && true) = true
      rw [(hn x (by simp)).ok, (hn y (by simp)).ok, (hn z (by simp)).ok]
      rfl
    refine ⟨.tuple [.str x, .str y, .str z], .tuple [], .tup ((ha.same s1).sq) (.cons (.str x) (.cons (.str y) (.cons (.str z) .nil))), .tup (SqT.of upd_same) .nil, hsh, rfl, false, rfl, iteF ?_⟩
    exact ⟨_, rfl, a, [x, y, z], _, _, _, rfl, ha.same s1, hn, nd, by simp, .inr rfl, .inl rfl, T.barred.1, fun H2 s2 => q _ (s1.trans s2)⟩
/-! ### kinds -/
open KM in
def lotN : Lot → Str
  | .plain => "plain"
  | .sides => "sides"
  | .front => "front"
  | .back => "back"
  | .round => "round"
  | .all => "all"
def fsKind (x : Str) (c : Bool) : List (Str × V) := [("turns", .str x), ("calm", .bl c)]
theorem fsKind_turns (x : Str) (c : Bool) : (fsKind x c).lookup ("turns" : Str) = some (.str x) := by kernel_rfl
theorem fsKind_calm (x : Str) (c : Bool) : (fsKind x c).lookup ("calm" : Str) = some (.bl c) := by kernel_rfl
theorem fsKind_put (x : Str) (c : Bool) : putF "calm" (.bl c) (putF "turns" (.str x) []) = fsKind x c := by kernel_rfl
def KindAt (K : PySem.W.Frag) (H : Hp) (a : Addr) (L : KM.Lot) (c : Bool) : Prop := ∃ dx, H a = some (.ins (CKind K) dx (fsKind (lotN L) c))
abbrev t3V (o : KM.T3) : List V := [.int o.1, .int o.2.1, .int o.2.2]
theorem pairAll_ok : ∀ {as : List Addr} {ts : List (List Int)}, pairAll K as ts = true → as.length = ts.length ∧ ∀ (i : Nat) (a : Addr) (t : List Int), as[i]? = some a → ts[i]? = some t → ∀ H, SqT K H a (t.map V.int)
  | [], [], _ => ⟨rfl, fun i a t h => by cases h⟩
  | [], _ :: _, h => by cases h
  | _ :: _, [], h => by cases h
  | a :: as, t :: ts, h => by
    obtain ⟨h1, h2⟩ := He.ba (show (tupAtB K a (t.map V.int) && pairAll K as ts) = true from h)
    obtain ⟨l, ih⟩ := pairAll_ok h2
    refine ⟨congrArg (· + 1) l, fun i b u hb hu H => ?_⟩
    cases i with
    | zero =>
      cases hb
      cases hu
      exact (tupAtB_ok h1).1 H
    | succ i => exact ih i b u hb hu H
def lotI (L : KM.Lot) : List (List Int) := L.turns.map fun o => [(o.1 : Int), (o.2.1 : Int), (o.2.2 : Int)]
theorem lot_mem (L : KM.Lot) : (lotN L, lotI L) ∈ lots := by
  cases L
  · exact List.mem_cons_self
  · exact List.mem_cons_of_mem _ List.mem_cons_self
  · exact List.mem_cons_of_mem _ (List.mem_cons_of_mem _ List.mem_cons_self)
  · exact List.mem_cons_of_mem _ (List.mem_cons_of_mem _ (List.mem_cons_of_mem _ List.mem_cons_self))
  · exact List.mem_cons_of_mem _ (List.mem_cons_of_mem _ (List.mem_cons_of_mem _ (List.mem_cons_of_mem _ List.mem_cons_self)))
  · exact List.mem_cons_of_mem _ (List.mem_cons_of_mem _ (List.mem_cons_of_mem _ (List.mem_cons_of_mem _ (List.mem_cons_of_mem _ List.mem_cons_self))))
/-- a lot's turns stand in the text's table -/
theorem Tx.lot (T : Tx w K mg) (L : KM.Lot) : PySem.W.nsIn K (He.ga K "LOTS") (lotN L) = some (some (.ref (lotAt K (lotN L)))) ∧ ∃ as : List Addr, as.length = L.turns.length ∧ (∀ H, SqT K H (lotAt K (lotN L)) (refV as)) ∧
    ∀ (i : Nat) (a : Addr) (t : KM.T3), as[i]? = some a → L.turns[i]? = some t → ∀ H, SqT K H a (t3V t) := by
  have h := List.all_eq_true.mp T.lotsB _ (lot_mem L)
  obtain ⟨h1, h2⟩ := He.ba h
  obtain ⟨h3, h4⟩ := He.ba h2
  obtain ⟨l, ih⟩ := pairAll_ok h4
  refine ⟨He.eqO_ok h1, _, by rw [l]; exact List.length_map .., (tupAtB_ok h3).1, fun i a t ha ht H => ?_⟩
  have z := ih i a [(t.1 : Int), (t.2.1 : Int), (t.2.2 : Int)] ha (by
    show (L.turns.map _)[i]? = _
    rw [List.getElem?_map, ht]
    rfl) H
  exact z
def spKindInit (K : PySem.W.Frag) : Sp := fun vs H Q _ => ∃ (a dx : Addr) (L : KM.Lot) (c : Bool), vs = [.ref a, .str (lotN L), .bl c] ∧ H a = some (.ins (CKind K) dx []) ∧ ∀ H', KindAt K H' a L c → Kp [a] H H' → Q .non H'
abbrev N_Kind_init : List Str := ["self", "turns", "calm"]
theorem sc_Kind_init : FnScope N_Kind_init ["self", "turns", "calm"] (defScope s_Kind_init) := ⟨rfl, rfl, rfl, by decide +kernel, rfl, by decide +kernel, by decide +kernel⟩
-- slots: 0 self, 1 turns, 2 calm
theorem fn_Kind_init (T : Tx w K mg) (z : FuncData) (F : FD K d_Kind_init z) : FnOk P w K mg base CX0 1 (a_Kind_init K) z ["self", "turns", "calm"] (spKindInit K) := by
  obtain ⟨es, n, kD⟩ := T.lotD
  refine okBody F sc_Kind_init (fun vs H Q E h => ?_) fun cdv A outer s H vs Q E hr h => ?_
  · obtain ⟨a, dx, L, c, rfl, _⟩ := h
    rfl
  · obtain ⟨a, dx, L, c, rfl, ha, q⟩ := h
    refine ⟨_, (pss_cons (ps_if (PW.pt (pw_or (pt_not (pt_val (pe_callB call_isi (by rfl) T.b_isinstance (by decide +kernel) (pa_cons (pv 1) (pa_cons (pe_bltn (v := .ty "str") (by rfl) T.b_str (by decide +kernel) rfl) pa_nil))))) (pw_or1 (pt_cmpR (op_notIn_kd kD) (pv 1) (C8.pe_gc rfl T.v_LOTS) rfl)))) (pss_one ps_never) pss_nil)
 (pss_cons (ps_if (pt_not (pt_val (pe_callB call_isi (by rfl) T.b_isinstance (by decide +kernel) (pa_cons (pv 2) (pa_cons (pe_bltn (v := .ty "bool") (by rfl) T.b_bool (by decide +kernel) rfl) pa_nil))))) (pss_one ps_never) pss_nil)
 (pss_cons (ps_fld (pv 0) (pv 1) rfl)
 (pss_one (ps_fld (pv 0) (pv 2) rfl))))), ?_⟩
    refine ⟨_, rfl, _, _, _, _, true, rfl, .ty "str", .base (.str _), kit_ty (by decide +kernel), true, rfl, iteF ?_⟩
    refine ⟨_, rfl, lotN L, _, rfl, rfl, (T.lot L).1, false, rfl, iteF ?_⟩
    refine ⟨_, rfl, _, _, _, _, true, rfl, .ty "bool", .base (.bl c), kit_ty (by decide +kernel), true, rfl, iteF ?_⟩
    refine ⟨_, rfl, _, rfl, a, _, dx, [], rfl, ha, T.cl_Kind, T.na_Kind_turns, plM pl0 (by decide), ?_⟩
    refine ⟨_, rfl, _, rfl, a, _, dx, _, rfl, upd_same, T.cl_Kind, T.na_Kind_calm, plM (plS pl0) (by decide), ?_⟩
    refine q _ ⟨dx, ?_⟩ (kp_upd (kp_upd (Kp.refl _ _) (by simp)) (by simp))
    rw [upd_same, fsKind_put]
/-- Kind(turns, calm = c) -/
theorem kb_Kind (T : Tx w K mg) : ∃ z, FnOk P w K mg base CX0 1 (a_Kind_init K) z ["self", "turns", "calm"] (spKindInit K) ∧ ∃ (g : List Value → List Value → List Value), KBn K z ["self", "turns", "calm"] 2 ["calm"] g (fun vs zs => vs ++ zs) := by
  obtain ⟨z, F⟩ := T.f_Kind_init
  refine ⟨z, fn_Kind_init T z F, ?_⟩
  obtain ⟨mv, hk⟩ := FunD.kbinds0 (ps := ["self", "turns", "calm"]) (show FunD K _ _ _ _ _ [] (d_Kind_init.kws K) _ z from F) 2 ["calm"] [] (fun us mv ws => us ++ ws) (by intro e; cases e) (fun q h => by cases h) (fun r1 _ r3 => r1.append r3)
    fun D doc pm an cdv ct us mv ws l1 l2 l3 => match us, mv, ws, l1, l2, l3 with | [_, _], [], [_], _, _, _ => rfl
  exact ⟨_, hk⟩
def spLot (K : PySem.W.Frag) : Sp := fun vs H Q _ => ∃ (a : Addr) (L : KM.Lot) (c : Bool), vs = [.ref a] ∧ KindAt K H a L c ∧ Q (.ref (lotAt K (lotN L))) H
abbrev N_Kind_lot : List Str := ["self"]
theorem sc_Kind_lot : FnScope N_Kind_lot ["self"] (defScope s_Kind_lot) := ⟨rfl, rfl, rfl, by decide +kernel, rfl, by decide +kernel, by decide +kernel⟩
-- slots: 0 self
theorem ok_Kind_lot (T : Tx w K mg) : Ok P w K mg base 1 (a_Kind_lot K) ["self"] [] (spLot K) := by
  obtain ⟨es, n, kD⟩ := T.lotD
  refine Ok.of T.f_Kind_lot (fun z F => okBody F sc_Kind_lot (fun vs H Q E h => ?_) fun cdv A outer s H vs Q E hr h => ?_) rfl fun _ _ _ _ _ _ us hl => match us, hl with | [_], _ => rfl
  · obtain ⟨a, L, c, rfl, _⟩ := h
    rfl
  · obtain ⟨a, L, c, rfl, ⟨dx, ha⟩, q⟩ := h
    refine ⟨_, (pss_one (ps_ret (pe_ix ix_kdict (C8.pe_gc rfl T.v_LOTS) (pe_fld (pv 0) rfl) (fun _ _ => rfl)))), ?_⟩
    exact ⟨_, rfl, a, _, dx, _, _, rfl, ha, T.cl_Kind, T.na_Kind_turns, fsKind_turns _ _, _, _, .ref (lotAt K (lotN L)), rfl, rfl, ⟨es, n, _, kD.at_, kD.lit, (T.lot L).1, rfl⟩, q⟩
end
end K8
end

section
set_option Elab.async false
set_option linter.all false
set_option maxRecDepth 100000
set_option maxHeartbeats 4000000
/-! Formulas: their texts, their objects, their parts. -/
namespace K8
open PySem PySem.Spec PyProof.Rows L2
open KM (Fm Sg sz)
/-! ### texts -/
def sgS : Sg → Str
  | .mul => "*"
  | .ldv => "//"
  | .rdv => ">>"
abbrev FmS : Type := Fm Str
def txt : FmS → Str
  | .lt z => z
  | .op s l r => Str.empty ++ "(" ++ txt l ++ " " ++ sgS s ++ " " ++ txt r ++ ")"
def Leafs : FmS → Prop
  | .lt z => Nam z
  | .op _ l r => Leafs l ∧ Leafs r
abbrev cl (F : FmS) : List Nat := (txt F).cps.toList
theorem cl_op (s : Sg) (l r : FmS) : cl (.op s l r) = 40 :: (cl l ++ 32 :: ((sgS s).cps.toList ++ 32 :: (cl r ++ [41]))) := by
  show (Str.empty ++ "(" ++ txt l ++ " " ++ sgS s ++ " " ++ txt r ++ ")").cps.toList = _
  simp only [PySem.Str.cps_append, Array.toList_append]
  have e1 : (("(" : Str)).cps.toList = [40] := by decide +kernel
  have e2 : ((" " : Str)).cps.toList = [32] := by decide +kernel
  have e3 : ((")" : Str)).cps.toList = [41] := by decide +kernel
  have e0 : (Str.empty).cps.toList = [] := by decide +kernel
  rw [e0, e1, e2, e3]
  simp
theorem sg_len (s : Sg) : (sgS s).length ≤ 2 := by cases s <;> decide +kernel
theorem txt_len : ∀ {F : FmS}, Leafs F → (txt F).length ≤ 14 * sz F + 8
  | .lt z, h => by
    have := Nam.le h
    show z.length ≤ _
    omega
  | .op s l r, h => by
    have h1 := txt_len h.1
    have h2 := txt_len h.2
    have h3 := sg_len s
    show (Str.empty ++ "(" ++ txt l ++ " " ++ sgS s ++ " " ++ txt r ++ ")").length ≤ 14 * (sz l + sz r + 1) + 8
    simp only [PySem.Str.length_append]
    have e1 : (("(" : Str)).length = 1 := by decide +kernel
    have e2 : ((" " : Str)).length = 1 := by decide +kernel
    have e3 : ((")" : Str)).length = 1 := by decide +kernel
    have e0 : (Str.empty).length = 0 := by decide +kernel
    omega
theorem abc0_no : (32 : Nat) ∉ abc0 ∧ (40 : Nat) ∉ abc0 ∧ (41 : Nat) ∉ abc0 := by decide +kernel
/-- what no name goes on with -/
def Stop (u : List Nat) : Prop := ∀ c, u.head? = some c → c ∉ abc0
theorem span_eq : ∀ {a b u v : List Nat}, (∀ c ∈ a, c ∈ abc0) → (∀ c ∈ b, c ∈ abc0) → Stop u → Stop v → a ++ u = b ++ v → a = b ∧ u = v
  | [], [], u, v, _, _, _, _, e => ⟨rfl, e⟩
  | [], d :: b, u, v, _, hb, hu, _, e => absurd (hb d List.mem_cons_self) (hu d (by rw [show u = d :: b ++ v from e]; rfl))
  | c :: a, [], u, v, ha, _, _, hv, e => absurd (ha c List.mem_cons_self) (hv c (by rw [show v = c :: a ++ u from e.symm]; rfl))
  | c :: a, d :: b, u, v, ha, hb, hu, hv, e => by
    rw [List.cons_append, List.cons_append] at e
    injection e with e1 e2
    obtain ⟨h1, h2⟩ := span_eq (fun c h => ha c (List.mem_cons_of_mem _ h)) (fun c h => hb c (List.mem_cons_of_mem _ h)) hu hv e2
    rw [e1, h1]
    exact ⟨rfl, h2⟩
theorem Nam.ne {z : Str} (n : Nam z) : ∃ c t, z.cps.toList = c :: t ∧ c ∈ abc0 := by
  obtain ⟨c, hc, _⟩ := n.hd
  cases e : z.cps.toList with
  | nil =>
    rw [← Array.getElem?_toList, e] at hc
    cases hc
  | cons d t => exact ⟨d, t, rfl, n.all_ d (by rw [e]; exact List.mem_cons_self)⟩
theorem sg_sep {s s' : Sg} {u v : List Nat} (e : (sgS s).cps.toList ++ 32 :: u = (sgS s').cps.toList ++ 32 :: v) : s = s' ∧ u = v := by
  have a1 : (sgS .mul).cps.toList = [42] := by decide +kernel
  have a2 : (sgS .ldv).cps.toList = [47, 47] := by decide +kernel
  have a3 : (sgS .rdv).cps.toList = [62, 62] := by decide +kernel
  cases s <;> cases s' <;> simp only [a1, a2, a3, List.cons_append, List.nil_append, List.cons.injEq] at e <;> first
    | exact ⟨rfl, by simpa using e⟩
    | (exfalso; simp at e)
theorem pre_eq : ∀ (F G : FmS), Leafs F → Leafs G → ∀ {u v : List Nat}, Stop u → Stop v → cl F ++ u = cl G ++ v → F = G ∧ u = v
  | .lt z, .lt z', hF, hG, u, v, hu, hv, e => by
    obtain ⟨h1, h2⟩ := span_eq (a := z.cps.toList) (b := z'.cps.toList) (Nam.all_ hF) (Nam.all_ hG) hu hv e
    have e3 : z = z' := by
      cases z
      cases z'
      exact congrArg Str.mk (Array.toList_inj.mp h1)
    rw [e3]
    exact ⟨rfl, h2⟩
  | .lt z, .op s l r, hF, hG, u, v, hu, hv, e => by
    obtain ⟨c, t, h1, h2⟩ := Nam.ne hF
    rw [cl_op] at e
    have e2 : z.cps.toList ++ u = 40 :: (cl l ++ 32 :: ((sgS s).cps.toList ++ 32 :: (cl r ++ [41]))) ++ v := e
    rw [h1, List.cons_append, List.cons_append] at e2
    injection e2 with e3 _
    rw [e3] at h2
    exact absurd h2 abc0_no.2.1
  | .op s l r, .lt z, hF, hG, u, v, hu, hv, e => by
    obtain ⟨c, t, h1, h2⟩ := Nam.ne hG
    rw [cl_op] at e
    have e2 : 40 :: (cl l ++ 32 :: ((sgS s).cps.toList ++ 32 :: (cl r ++ [41]))) ++ u = z.cps.toList ++ v := e
    rw [h1, List.cons_append, List.cons_append] at e2
    injection e2 with e3 _
    rw [← e3] at h2
    exact absurd h2 abc0_no.2.1
  | .op s l r, .op s' l' r', hF, hG, u, v, hu, hv, e => by
    rw [cl_op, cl_op, List.cons_append, List.cons_append] at e
    injection e with _ e
    rw [List.append_assoc, List.append_assoc, List.cons_append, List.cons_append] at e
    obtain ⟨e1, e⟩ := pre_eq l l' hF.1 hG.1 (fun c h => by cases h; exact abc0_no.1) (fun c h => by cases h; exact abc0_no.1) e
    injection e with _ e
    rw [List.append_assoc, List.append_assoc, List.cons_append, List.cons_append] at e
    obtain ⟨e2, e⟩ := sg_sep e
    rw [List.append_assoc, List.append_assoc] at e
    obtain ⟨e3, e⟩ := pre_eq r r' hF.2 hG.2 (fun c h => by cases h; exact abc0_no.2.2) (fun c h => by cases h; exact abc0_no.2.2) e
    injection e with _ e
    rw [e1, e2, e3]
    exact ⟨rfl, e⟩
theorem txt_inj {F G : FmS} (hF : Leafs F) (hG : Leafs G) (e : txt F = txt G) : F = G :=
  (pre_eq F G hF hG (u := []) (v := []) (fun c h => by cases h) (fun c h => by cases h) (by rw [List.append_nil, List.append_nil, cl, cl, e])).1
/-! ### parts -/
def subs : FmS → List FmS
  | .lt z => [.lt z]
  | .op s l r => [.op s l r] ++ subs l ++ subs r
theorem subs_self : ∀ F : FmS, F ∈ subs F
  | .lt z => by simp [subs]
  | .op s l r => by simp [subs]
theorem subs_len : ∀ F : FmS, (subs F).length = 2 * sz F + 1
  | .lt z => rfl
  | .op s l r => by
    have h1 := subs_len l
    have h2 := subs_len r
    show (([.op s l r] ++ subs l ++ subs r : List FmS)).length = 2 * (sz l + sz r + 1) + 1
    simp only [List.length_append, List.length_singleton]
    omega
theorem subs_leafs : ∀ {F : FmS}, Leafs F → ∀ G ∈ subs F, Leafs G
  | .lt z, h, G, hG => by
    have e : G = .lt z := by simpa [subs] using hG
    rw [e]
    exact h
  | .op s l r, h, G, hG => by
    have e : (G = .op s l r ∨ G ∈ subs l) ∨ G ∈ subs r := by simpa [subs, or_assoc] using hG
    rcases e with (rfl | q) | q
    · exact h
    · exact subs_leafs h.1 G q
    · exact subs_leafs h.2 G q
theorem subs_sz : ∀ {F G : FmS}, G ∈ subs F → sz G ≤ sz F
  | .lt z, G, hG => by
    have e : G = .lt z := by simpa [subs] using hG
    rw [e]
    exact Nat.le_refl _
  | .op s l r, G, hG => by
    have e : (G = .op s l r ∨ G ∈ subs l) ∨ G ∈ subs r := by simpa [subs, or_assoc] using hG
    show sz G ≤ sz l + sz r + 1
    rcases e with (rfl | q) | q
    · exact Nat.le_refl _
    · have := subs_sz q
      omega
    · have := subs_sz q
      omega
/-- the sides of a part are parts -/
theorem subs_sides : ∀ {F : FmS} {s : Sg} {l r : FmS}, Fm.op s l r ∈ subs F → l ∈ subs F ∧ r ∈ subs F
  | .lt z, s, l, r, h => by
    have e : Fm.op s l r = .lt z := by simpa [subs] using h
    cases e
  | .op s' l' r', s, l, r, h => by
    have e : (Fm.op s l r = .op s' l' r' ∨ Fm.op s l r ∈ subs l') ∨ Fm.op s l r ∈ subs r' := by simpa [subs, or_assoc] using h
    have m : ∀ G, (G ∈ subs l' ∨ G ∈ subs r') → G ∈ subs (.op s' l' r') := fun G q => by
      have : (G = .op s' l' r' ∨ G ∈ subs l') ∨ G ∈ subs r' := by
        rcases q with q | q
        · exact .inl (.inr q)
        · exact .inr q
      simpa [subs, or_assoc] using this
    rcases e with (e | q) | q
    · injection e with _ e1 e2
      exact ⟨m _ (.inl (by rw [e1]; exact subs_self _)), m _ (.inr (by rw [e2]; exact subs_self _))⟩
    · obtain ⟨a, b⟩ := subs_sides q
      exact ⟨m _ (.inl a), m _ (.inl b)⟩
    · obtain ⟨a, b⟩ := subs_sides q
      exact ⟨m _ (.inr a), m _ (.inr b)⟩
/-! ### a formula's object -/
def fsFm (nm : V) (sg : Str) (l r : V) (s : Addr) (x : Str) : List (Str × V) := [("name", nm), ("sign", .str sg), ("left", l), ("right", r), ("signs", .ref s), ("text", .str x)]
section
variable (nm : V) (sg : Str) (l r : V) (s : Addr) (x : Str)
theorem fsFm_name : (fsFm nm sg l r s x).lookup ("name" : Str) = some nm := by kernel_rfl
theorem fsFm_sign : (fsFm nm sg l r s x).lookup ("sign" : Str) = some (.str sg) := by kernel_rfl
theorem fsFm_left : (fsFm nm sg l r s x).lookup ("left" : Str) = some l := by kernel_rfl
theorem fsFm_right : (fsFm nm sg l r s x).lookup ("right" : Str) = some r := by kernel_rfl
theorem fsFm_signs : (fsFm nm sg l r s x).lookup ("signs" : Str) = some (.ref s) := by kernel_rfl
theorem fsFm_text : (fsFm nm sg l r s x).lookup ("text" : Str) = some (.str x) := by kernel_rfl
theorem fsFm_put : putF "text" (.str x) (putF "signs" (.ref s) (putF "right" r (putF "left" l (putF "sign" (.str sg) (putF "name" nm []))))) = fsFm nm sg l r s x := by kernel_rfl
end
def FmAt (K : PySem.W.Frag) (H : Hp) (a : Addr) : FmS → Prop
  | .lt z => ∃ dx s, H a = some (.ins (CFormula K) dx (fsFm (.str z) "" .non .non s z)) ∧ H s = some (.lst [])
  | .op s l r => ∃ dx b c t xs, H a = some (.ins (CFormula K) dx (fsFm .non (sgS s) (.ref b) (.ref c) t (txt (.op s l r)))) ∧ FmAt K H b l ∧ FmAt K H c r ∧ H t = some (.lst xs) ∧ xs.length = sz l + sz r + 1
theorem FmAt.same {K : PySem.W.Frag} {H H' : Hp} (e : Same H H') : ∀ {F : FmS} {a : Addr}, FmAt K H a F → FmAt K H' a F
  | .lt z, a, ⟨dx, s, h1, h2⟩ => ⟨dx, s, e _ _ h1, e _ _ h2⟩
  | .op s l r, a, ⟨dx, b, c, t, xs, h1, h2, h3, h4, h5⟩ => ⟨dx, b, c, t, xs, e _ _ h1, h2.same e, h3.same e, e _ _ h4, h5⟩
/-- a heap without one address -/
def era (p : Addr) (H : Hp) : Hp := fun c => if c = p then none else H c
theorem era_ne {p c : Addr} {H : Hp} (h : c ≠ p) : era p H c = H c := if_neg h
theorem era_le (p : Addr) (H : Hp) : Same (era p H) H := fun b o h => by
  by_cases e : b = p
  · rw [e] at h
    have z : era p H p = none := if_pos rfl
    rw [z] at h
    cases h
  · rw [era_ne e] at h
    exact h
theorem era_mono {p : Addr} {H H' : Hp} (s : Same H H') : Same (era p H) (era p H') := fun b o h => by
  by_cases e : b = p
  · rw [e] at h
    have z : era p H p = none := if_pos rfl
    rw [z] at h
    cases h
  · rw [era_ne e] at h ⊢
    exact s _ _ h
/-- a new letter: it touches nothing old -/
def FmLt (K : PySem.W.Frag) (H H' : Hp) (a : Addr) (z : Str) : Prop := FmAt K H' a (.lt z) ∧ ∀ p, H p ≠ none → FmAt K (era p H') a (.lt z)
def FmOp (K : PySem.W.Frag) (H H' : Hp) (a b c : Addr) (s : Sg) (l r : FmS) : Prop := FmAt K H' a (.op s l r) ∧ ∀ p, H p ≠ none → FmAt K (era p H') b l → FmAt K (era p H') c r → FmAt K (era p H') a (.op s l r)
theorem old_ne {H : Hp} {a p : Addr} (h : H a = none) (hp : H p ≠ none) : a ≠ p := fun e => hp (e ▸ h)
theorem FmLt.of {K : PySem.W.Frag} {H H' : Hp} {a s dx : Addr} {z : Str} (ha : H a = none) (hs : H s = none) (h1 : H' a = some (.ins (CFormula K) dx (fsFm (.str z) "" .non .non s z))) (h2 : H' s = some (.lst [])) : FmLt K H H' a z :=
  ⟨⟨dx, s, h1, h2⟩, fun p hp => ⟨dx, s, (era_ne (old_ne ha hp)).trans h1, (era_ne (old_ne hs hp)).trans h2⟩⟩
theorem FmLt.back {K : PySem.W.Frag} {H H1 H' : Hp} {a : Addr} {z : Str} (h : FmLt K H1 H' a z) (s : Same H H1) : FmLt K H H' a z :=
  ⟨h.1, fun p hp => h.2 p fun e => hp (same_none s e)⟩
theorem FmOp.of {K : PySem.W.Frag} {H H' : Hp} {a b c t dx : Addr} {s : Sg} {l r : FmS} {xs : List V} (ha : H a = none) (ht : H t = none) (hb : FmAt K H' b l) (hc : FmAt K H' c r)
    (h1 : H' a = some (.ins (CFormula K) dx (fsFm .non (sgS s) (.ref b) (.ref c) t (txt (.op s l r))))) (h2 : H' t = some (.lst xs)) (h3 : xs.length = sz l + sz r + 1) : FmOp K H H' a b c s l r :=
  ⟨⟨dx, b, c, t, xs, h1, hb, hc, h2, h3⟩, fun p hp b1 c1 => ⟨dx, b, c, t, xs, (era_ne (old_ne ha hp)).trans h1, b1, c1, (era_ne (old_ne ht hp)).trans h2, h3⟩⟩
/-- what a look at a formula sees -/
def sgO : FmS → Str
  | .lt _ => ""
  | .op s _ _ => sgS s
theorem FmAt.look {K : PySem.W.Frag} {H : Hp} {a : Addr} : ∀ {F : FmS}, FmAt K H a F → ∃ dx nm l r s xs, H a = some (.ins (CFormula K) dx (fsFm nm (sgO F) l r s (txt F))) ∧ H s = some (.lst xs) ∧ xs.length = sz F
  | .lt z, ⟨dx, s, h1, h2⟩ => ⟨dx, _, _, _, s, [], h1, h2, rfl⟩
  | .op _ l r, ⟨dx, b, c, t, xs, h1, _, _, h4, h5⟩ => ⟨dx, _, _, _, t, xs, h1, h4, h5⟩
/-! ### making -/
section
variable {P : Program} {w : World} {K : PySem.W.Frag} {mg : Str → Option Value} {base : Heap}
def spFmInit (K : PySem.W.Frag) : Sp := fun vs H Q _ => ∃ (a dx : Addr) (H0 : Hp), H0 a = none ∧ Same H0 H ∧ H a = some (.ins (CFormula K) dx []) ∧
  ((∃ z, vs = [.ref a, .str z, .str "", .non, .non] ∧ ∀ H', Same H0 H' → FmLt K H0 H' a z → Q .non H') ∨
   ∃ s l r b c, vs = [.ref a, .non, .str (sgS s), .ref b, .ref c] ∧ FmAt K H0 b l ∧ FmAt K H0 c r ∧ Leafs l ∧ Leafs r ∧ sz l + sz r ≤ 7 ∧ ∀ H', Same H0 H' → FmOp K H0 H' a b c s l r → Q .non H')
theorem sg_ne (s : Sg) : ¬ V.str (sgS s) = V.str "" := by
  intro e
  injection e with e
  revert e
  cases s <;> decide +kernel
abbrev N_Formula_init : List Str := ["self", "name", "sign", "left", "right"]
theorem sc_Formula_init : FnScope N_Formula_init ["self", "name", "sign", "left", "right"] (defScope s_Formula_init) := ⟨rfl, rfl, rfl, by decide +kernel, rfl, by decide +kernel, by decide +kernel⟩
-- slots: 0 self, 1 name, 2 sign, 3 left, 4 right
theorem fn_Formula_init (T : Tx w K mg) (z : FuncData) (F : FD K d_Formula_init z) : FnOk P w K mg base CX0 1 (a_Formula_init K) z ["self", "name", "sign", "left", "right"] (spFmInit K) := by
  refine okBody F sc_Formula_init (fun vs H Q E h => ?_) fun cdv A outer s H vs Q E hr h => ?_
  · obtain ⟨a, dx, H0, _, _, _, h⟩ := h
    rcases h with ⟨z, rfl, _⟩ | ⟨s, l, r, b, c, rfl, _⟩ <;> rfl
  · obtain ⟨a, dx, H0, h0, sm, ha, h⟩ := h
    refine ⟨_, (pss_cons (ps_fld (pv 0) (pv 1) rfl)
 (pss_cons (ps_fld (pv 0) (pv 2) rfl)
 (pss_cons (ps_fld (pv 0) (pv 3) rfl)
 (pss_cons (ps_fld (pv 0) (pv 4) rfl)
 (pss_cons (ps_fld (pv 0) (pe_ifExp (pt_cmpR op_eq (pv 2) pe_str (nomark _)) (pe_lst pa_nil) (pe_op op_cat (pe_op op_cat (pe_lst (pa_cons (pv 2) pa_nil)) (pe_fld (pv 3) rfl)) (pe_fld (pv 4) rfl))) rfl)
 (pss_one (ps_fld (pv 0) (pe_ifExp (pt_cmpR op_eq (pv 2) pe_str (nomark _)) (pv 1) (pe_joined (PJ.cons pe_str (PJ.cons (pe_fmt (pe_fld (pv 3) rfl)) (PJ.cons pe_str (PJ.cons (pe_fmt (pv 2)) (PJ.cons pe_str (PJ.cons (pe_fmt (pe_fld (pv 4) rfl)) (PJ.cons pe_str PJ.nil))))))))) rfl))))))), ?_⟩
    rcases h with ⟨z, rfl, q⟩ | ⟨sg, l, r, b, c, rfl, hb, hc, ll, lr, hs, q⟩
    · refine ⟨_, rfl, _, rfl, a, _, dx, [], rfl, ha, T.cl_Formula, T.na_Formula_name, plM pl0 (by decide), ?_⟩
      refine ⟨_, rfl, _, rfl, a, _, dx, _, rfl, upd_same, T.cl_Formula, T.na_Formula_sign, plM (plS pl0) (by decide), ?_⟩
      refine ⟨_, rfl, _, rfl, a, _, dx, _, rfl, upd_same, T.cl_Formula, T.na_Formula_left, plM (plS (plS pl0)) (by decide), ?_⟩
      refine ⟨_, rfl, _, rfl, a, _, dx, _, rfl, upd_same, T.cl_Formula, T.na_Formula_right, plM (plS (plS (plS pl0))) (by decide), ?_⟩
      refine ⟨_, rfl, rfl, true, blT rfl, iteT ⟨by show 0 ≤ sizeLine; decide, fun p hp => ?_⟩⟩
      have hpa : p ≠ a := fun e => by
        rw [e, upd_same] at hp
        cases hp
      have hp0 : H0 p = none := same_none (same_upd (same_upd (same_upd (same_upd sm h0) h0) h0) h0) hp
      refine ⟨_, rfl, a, _, dx, _, rfl, (upd_ne hpa.symm).trans upd_same, T.cl_Formula, T.na_Formula_signs, plM (plS (plS (plS (plS pl0)))) (by decide), ?_⟩
      refine ⟨_, rfl, rfl, true, blT rfl, iteT ⟨_, rfl, _, rfl, a, _, dx, _, rfl, upd_same, T.cl_Formula, T.na_Formula_text, plM (plS (plS (plS (plS (plS pl0))))) (by decide), ?_⟩⟩
      refine q _ (same_upd (same_upd (same_upd (same_upd (same_upd (same_upd (same_upd sm h0) h0) h0) h0) hp0) h0) h0) (FmLt.of (s := p) (dx := dx) h0 hp0 ?_ ?_)
      · rw [upd_same, fsFm_put]
      · rw [upd_ne hpa, upd_ne hpa, upd_same]
    · refine ⟨_, rfl, _, rfl, a, _, dx, [], rfl, ha, T.cl_Formula, T.na_Formula_name, plM pl0 (by decide), ?_⟩
      refine ⟨_, rfl, _, rfl, a, _, dx, _, rfl, upd_same, T.cl_Formula, T.na_Formula_sign, plM (plS pl0) (by decide), ?_⟩
      refine ⟨_, rfl, _, rfl, a, _, dx, _, rfl, upd_same, T.cl_Formula, T.na_Formula_left, plM (plS (plS pl0)) (by decide), ?_⟩
      refine ⟨_, rfl, _, rfl, a, _, dx, _, rfl, upd_same, T.cl_Formula, T.na_Formula_right, plM (plS (plS (plS pl0))) (by decide), ?_⟩
      generalize hH4 : upd (upd (upd (upd H a _) a _) a _) a _ = H4
      have s4 : Same H0 H4 := by
        rw [← hH4]
        exact same_upd (same_upd (same_upd (same_upd sm h0) h0) h0) h0
      have a4 : H4 a = some (.ins (CFormula K) dx (putF "right" (.ref c) (putF "left" (.ref b) (putF "sign" (.str (sgS sg)) (putF "name" .non []))))) := by
        rw [← hH4]
        exact upd_same
      obtain ⟨dx1, nm1, l1, r1, s1, xs1, b1, b2, b3⟩ := hb.look
      obtain ⟨dx2, nm2, l2, r2, s2, xs2, c1, c2, c3⟩ := hc.look
      refine ⟨_, rfl, rfl, false, blF (sg_ne sg), iteF ?_⟩
      refine ⟨_, rfl, by show 1 ≤ sizeLine; decide, fun p hp => ?_⟩
      have hp0 : H0 p = none := same_none s4 hp
      have s5 : Same H0 (upd H4 p (.lst [.str (sgS sg)])) := same_upd s4 hp0
      refine ⟨_, rfl, b, _, dx1, _, _, rfl, s5 _ _ b1, T.cl_Formula, T.na_Formula_signs, fsFm_signs .., ?_⟩
      refine ⟨p, s1, _, xs1, rfl, rfl, upd_same, s5 _ _ b2, sl1 (by show 1 + xs1.length ≤ 100000; omega), fun p2 hp2 => ?_⟩
      have hp20 : H0 p2 = none := same_none s5 hp2
      generalize hH6 : upd (upd H4 p _) p2 _ = H6
      have s6 : Same H0 H6 := by
        rw [← hH6]
        exact same_upd s5 hp20
      refine ⟨_, rfl, c, _, dx2, _, _, rfl, s6 _ _ c1, T.cl_Formula, T.na_Formula_signs, fsFm_signs .., ?_⟩
      refine ⟨p2, s2, _, xs2, rfl, rfl, (by rw [← hH6]; exact upd_same), s6 _ _ c2, sl1 (by simp only [List.length_append, List.length_cons, List.length_nil]; omega), fun p3 hp3 => ?_⟩
      have hp30 : H0 p3 = none := same_none s6 hp3
      generalize hH7 : upd H6 p3 _ = H7
      have s7 : Same H0 H7 := by
        rw [← hH7]
        exact same_upd s6 hp30
      have ne : ∀ {q : Addr} {G : Hp} {o : HO}, G a = some o → G q = none → q ≠ a := fun {q G o} e n z => by
        rw [z, e] at n
        cases n
      have n1 : p ≠ a := ne a4 hp
      have a5 := (upd_ne (o := HO.lst [V.str (sgS sg)]) (H := H4) n1.symm).trans a4
      have n2 : p2 ≠ a := ne a5 hp2
      have a6 := (congrFun hH6 a).symm.trans ((upd_ne n2.symm).trans a5)
      have n3 : p3 ≠ a := ne a6 hp3
      have a7 := (congrFun hH7 a).symm.trans ((upd_ne n3.symm).trans a6)
      have x7 : H7 p3 = some (.lst ([V.str (sgS sg)] ++ xs1 ++ xs2)) := by
        rw [← hH7]
        exact upd_same
      refine ⟨_, rfl, a, _, dx, _, rfl, a7, T.cl_Formula, T.na_Formula_signs, plM (plS (plS (plS (plS pl0)))) (by decide), ?_⟩
      generalize hH8 : upd H7 a _ = H8
      have s8 : Same H0 H8 := by
        rw [← hH8]
        exact same_upd s7 h0
      refine ⟨_, rfl, rfl, false, blF (sg_ne sg), iteF ?_⟩
      have t1 := txt_len ll
      have t2 := txt_len lr
      have t3 := sg_len sg
      have k1 : (("(" : Str)).length = 1 := by decide +kernel
      have k2 : ((" " : Str)).length = 1 := by decide +kernel
      have k3 : ((")" : Str)).length = 1 := by decide +kernel
      have k0 : (Str.empty).length = 0 := by decide +kernel
      refine ⟨_, rfl, sl1 (by simp only [PySem.Str.length_append]; omega), ?_⟩
      refine ⟨_, rfl, b, _, dx1, _, _, rfl, s8 _ _ b1, T.cl_Formula, T.na_Formula_text, fsFm_text .., .inl ⟨_, rfl, sl1 (by omega), ?_⟩⟩
      refine ⟨_, rfl, sl1 (by simp only [PySem.Str.length_append]; omega), ?_⟩
      refine ⟨_, rfl, sl1 (by simp only [PySem.Str.length_append]; omega), ?_⟩
      refine ⟨_, rfl, .inl ⟨_, rfl, sl1 (by omega), ?_⟩⟩
      refine ⟨_, rfl, sl1 (by simp only [PySem.Str.length_append]; omega), ?_⟩
      refine ⟨_, rfl, sl1 (by simp only [PySem.Str.length_append]; omega), ?_⟩
      refine ⟨_, rfl, c, _, dx2, _, _, rfl, s8 _ _ c1, T.cl_Formula, T.na_Formula_text, fsFm_text .., .inl ⟨_, rfl, sl1 (by omega), ?_⟩⟩
      refine ⟨_, rfl, sl1 (by simp only [PySem.Str.length_append]; omega), ?_⟩
      refine ⟨_, rfl, sl1 (by simp only [PySem.Str.length_append]; omega), ?_⟩
      refine ⟨_, rfl, a, _, dx, _, rfl, (by rw [← hH8]; exact upd_same), T.cl_Formula, T.na_Formula_text, plM (plS (plS (plS (plS (plS pl0))))) (by decide), ?_⟩
      refine q _ (same_upd s8 h0) (FmOp.of (t := p3) (dx := dx) (xs := [V.str (sgS sg)] ++ xs1 ++ xs2) h0 hp30 (hb.same (same_upd s8 h0)) (hc.same (same_upd s8 h0)) ?_ ?_ ?_)
      · rw [upd_same, fsFm_put]
        rfl
      · rw [upd_ne n3, ← hH8, upd_ne n3]
        exact x7
      · simp only [List.length_append, List.length_cons, List.length_nil]
        omega
/-- Formula(name) -/
theorem ok_Formula_init1 (T : Tx w K mg) : Ok P w K mg base 1 (a_Formula_init K) ["self", "name", "sign", "left", "right"] [.str "", .non, .non] (spFmInit K) :=
  Ok.ofD (d := d_Formula_init) 2 0 T.f_Formula_init (fun z F => fn_Formula_init T z F) (by intro e; cases e) rfl fun _ _ _ _ _ _ _ us its l1 l2 => match us, its, l1, l2 with | [_, _], [_, _, _], _, _ => ⟨_, rfl, rfl⟩
/-- Formula(None, sign, left, right) -/
theorem ok_Formula_init4 (T : Tx w K mg) : Ok P w K mg base 1 (a_Formula_init K) ["self", "name", "sign", "left", "right"] [] (spFmInit K) :=
  Ok.ofD (d := d_Formula_init) 5 3 T.f_Formula_init (fun z F => fn_Formula_init T z F) (by intro e; cases e) rfl fun _ _ _ _ _ _ _ us its l1 l2 => match us, its, l1, l2 with | [_, _, _, _, _], [_, _, _], _, _ => ⟨_, rfl, rfl⟩
/-! ### letter, operations -/
def spLetter (K : PySem.W.Frag) : Sp := fun vs H Q _ => ∃ z : Str, vs = [.str z] ∧ Nam z ∧ ∀ a H', Same H H' → H a = none → FmLt K H H' a z → Q (.ref a) H'
abbrev N_letter : List Str := ["name"]
theorem sc_letter : FnScope N_letter ["name"] (defScope s_letter) := ⟨rfl, rfl, rfl, by decide +kernel, rfl, by decide +kernel, by decide +kernel⟩
-- slots: 0 name
theorem ok_letter (T : Tx w K mg) : Ok P w K mg base 3 (a_letter K) ["name"] [] (spLetter K) := by
  obtain ⟨_, _, F_is_name, b_is_name, v_is_name, k_is_name⟩ := ok_is_name (P := P) (base := base) T
  obtain ⟨_, _, F_Formula_init1, b_Formula_init1, v_Formula_init1, k_Formula_init1⟩ := ok_Formula_init1 (P := P) (base := base) T
  refine Ok.of T.f_letter (fun z F => okBody F sc_letter (fun vs H Q E h => ?_) fun cdv A outer s H vs Q E hr h => ?_) rfl fun _ _ _ _ _ _ us hl => match us, hl with | [_], _ => rfl
  · obtain ⟨z, rfl, _⟩ := h
    rfl
  · obtain ⟨z, rfl, n, q⟩ := h
    refine ⟨_, (pss_cons (ps_if (pt_not (pt_val (pe_call F_is_name (hr.mono (by decide)) rfl T.g_is_name k_is_name b_is_name v_is_name pass0 (pa_cons (pv 0) pa_nil)))) (pss_one ps_never) pss_nil)
 (pss_one (ps_ret (pe_make T.mk_Formula F_Formula_init1 (hr.mono (by decide)) rfl T.g_Formula b_Formula_init1 v_Formula_init1 pass0 (pa_cons (pv 0) pa_nil))))), ?_⟩
    refine ⟨_, rfl, z, rfl, n, fun H1 s1 => ⟨true, rfl, iteF ?_⟩⟩
    refine ⟨_, rfl, fun x dx hx hdx hne => ?_⟩
    refine ⟨x, dx, H1, hx, same_upd (same_new hdx) hx, upd_same, .inl ⟨z, rfl, fun H2 s2 f2 => ⟨rfl, q x H2 (s1.trans s2) (same_none s1 hx) (f2.back s1)⟩⟩⟩
def spOpOf (K : PySem.W.Frag) : Sp := fun vs H Q _ => ∃ (s : Sg) (b c : Addr) (l r : FmS), vs = [.ref b, .str (sgS s), .ref c] ∧ FmAt K H b l ∧ FmAt K H c r ∧ Leafs l ∧ Leafs r ∧ sz l + sz r ≤ 7 ∧ ∀ a H', Same H H' → H a = none → FmOp K H H' a b c s l r → Q (.ref a) H'
abbrev N_operation_of : List Str := ["left", "sign", "right"]
theorem sc_operation_of : FnScope N_operation_of ["left", "sign", "right"] (defScope s_operation_of) := ⟨rfl, rfl, rfl, by decide +kernel, rfl, by decide +kernel, by decide +kernel⟩
-- slots: 0 left, 1 sign, 2 right
theorem ok_operation_of (T : Tx w K mg) : Ok P w K mg base 3 (a_operation_of K) ["left", "sign", "right"] [] (spOpOf K) := by
  obtain ⟨_, _, F_check_formula, b_check_formula, v_check_formula, k_check_formula⟩ := ok_check_formula (P := P) (base := base) T
  obtain ⟨_, _, F_check_operations, b_check_operations, v_check_operations, k_check_operations⟩ := ok_check_operations (P := P) (base := base) T
  obtain ⟨_, _, F_Formula_init4, b_Formula_init4, v_Formula_init4, k_Formula_init4⟩ := ok_Formula_init4 (P := P) (base := base) T
  refine Ok.of T.f_operation_of (fun z F => okBody F sc_operation_of (fun vs H Q E h => ?_) fun cdv A outer s H vs Q E hr h => ?_) rfl fun _ _ _ _ _ _ us hl => match us, hl with | [_, _, _], _ => rfl
  · obtain ⟨s, b, c, l, r, rfl, _⟩ := h
    rfl
  · obtain ⟨sg, b, c, l, r, rfl, hb, hc, ll, lr, hs, q⟩ := h
    obtain ⟨dx1, nm1, l1, r1, s1, xs1, b1, b2, b3⟩ := hb.look
    obtain ⟨dx2, nm2, l2, r2, s2, xs2, c1, c2, c3⟩ := hc.look
    refine ⟨_, (pss_cons (ps_expr (pe_call F_check_formula (hr.mono (by decide)) rfl T.g_check_formula k_check_formula b_check_formula v_check_formula pass0 (pa_cons (pv 2) pa_nil)))
 (pss_cons (ps_expr (pe_call F_check_operations (hr.mono (by decide)) rfl T.g_check_operations k_check_operations b_check_operations v_check_operations pass0 (pa_cons (pe_op op_add (pe_op op_add (pe_callB call_len_seq (by rfl) T.b_len (by decide +kernel) (pa_cons (pe_fld (pv 0) rfl) pa_nil)) (pe_callB call_len_seq (by rfl) T.b_len (by decide +kernel) (pa_cons (pe_fld (pv 2) rfl) pa_nil))) pe_int) pa_nil)))
 (pss_one (ps_ret (pe_make T.mk_Formula F_Formula_init4 (hr.mono (by decide)) rfl T.g_Formula b_Formula_init4 v_Formula_init4 pass0 (pa_cons pe_non (pa_cons (pv 1) (pa_cons (pv 0) (pa_cons (pv 2) pa_nil))))))))), ?_⟩
    refine ⟨_, rfl, c, _, _, rfl, c1, ?_⟩
    refine ⟨_, rfl, b, _, dx1, _, _, rfl, b1, T.cl_Formula, T.na_Formula_signs, fsFm_signs .., s1, _, rfl, .inl (SqL.of b2), ?_⟩
    refine ⟨_, rfl, c, _, dx2, _, _, rfl, c1, T.cl_Formula, T.na_Formula_signs, fsFm_signs .., s2, _, rfl, .inl (SqL.of c2), ?_⟩
    refine ⟨_, _, rfl, rfl, _, _, rfl, rfl, _, rfl, by rw [b3, c3]; omega, ?_⟩
    refine ⟨_, rfl, _, rfl, _, rfl, fun x dx hx hdx hne => ?_⟩
    exact ⟨x, dx, H, hx, same_upd (same_new hdx) hx, upd_same, .inr ⟨sg, l, r, b, c, rfl, hb, hc, ll, lr, hs, fun H2 s2 f2 => ⟨rfl, q x H2 s2 hx f2⟩⟩⟩
/-- self * other and its like -/
def spOpFm (K : PySem.W.Frag) (s : Sg) : Sp := fun vs H Q _ => ∃ (b c : Addr) (l r : FmS), vs = [.ref b, .ref c] ∧ FmAt K H b l ∧ FmAt K H c r ∧ Leafs l ∧ Leafs r ∧ sz l + sz r ≤ 7 ∧ ∀ a H', Same H H' → H a = none → FmOp K H H' a b c s l r → Q (.ref a) H'
abbrev N_Formula_mul : List Str := ["self", "other"]
theorem sc_Formula_mul : FnScope N_Formula_mul ["self", "other"] (defScope s_Formula_mul) := ⟨rfl, rfl, rfl, by decide +kernel, rfl, by decide +kernel, by decide +kernel⟩
-- slots: 0 self, 1 other
theorem ok_Formula_mul (T : Tx w K mg) : Ok P w K mg base 4 (a_Formula_mul K) ["self", "other"] [] (spOpFm K .mul) := by
  obtain ⟨_, _, F_operation_of, b_operation_of, v_operation_of, k_operation_of⟩ := ok_operation_of (P := P) (base := base) T
  refine Ok.of T.f_Formula_mul (fun z F => okBody F sc_Formula_mul (fun vs H Q E h => ?_) fun cdv A outer s H vs Q E hr h => ?_) rfl fun _ _ _ _ _ _ us hl => match us, hl with | [_, _], _ => rfl
  · obtain ⟨b, c, l, r, rfl, _⟩ := h
    rfl
  · obtain ⟨b, c, l, r, rfl, hb, hc, ll, lr, hs, q⟩ := h
    refine ⟨_, (pss_one (ps_ret (pe_call F_operation_of (hr.mono (by decide)) rfl T.g_operation_of k_operation_of b_operation_of v_operation_of pass0 (pa_cons (pv 0) (pa_cons pe_str (pa_cons (pv 1) pa_nil)))))), ?_⟩
    exact ⟨_, rfl, _, rfl, .mul, b, c, l, r, rfl, hb, hc, ll, lr, hs, q⟩
abbrev N_Formula_floordiv : List Str := ["self", "other"]
theorem sc_Formula_floordiv : FnScope N_Formula_floordiv ["self", "other"] (defScope s_Formula_floordiv) := ⟨rfl, rfl, rfl, by decide +kernel, rfl, by decide +kernel, by decide +kernel⟩
-- slots: 0 self, 1 other
theorem ok_Formula_floordiv (T : Tx w K mg) : Ok P w K mg base 4 (a_Formula_floordiv K) ["self", "other"] [] (spOpFm K .ldv) := by
  obtain ⟨_, _, F_operation_of, b_operation_of, v_operation_of, k_operation_of⟩ := ok_operation_of (P := P) (base := base) T
  refine Ok.of T.f_Formula_floordiv (fun z F => okBody F sc_Formula_floordiv (fun vs H Q E h => ?_) fun cdv A outer s H vs Q E hr h => ?_) rfl fun _ _ _ _ _ _ us hl => match us, hl with | [_, _], _ => rfl
  · obtain ⟨b, c, l, r, rfl, _⟩ := h
    rfl
  · obtain ⟨b, c, l, r, rfl, hb, hc, ll, lr, hs, q⟩ := h
    refine ⟨_, (pss_one (ps_ret (pe_call F_operation_of (hr.mono (by decide)) rfl T.g_operation_of k_operation_of b_operation_of v_operation_of pass0 (pa_cons (pv 0) (pa_cons pe_str (pa_cons (pv 1) pa_nil)))))), ?_⟩
    exact ⟨_, rfl, _, rfl, .ldv, b, c, l, r, rfl, hb, hc, ll, lr, hs, q⟩
abbrev N_Formula_rshift : List Str := ["self", "other"]
theorem sc_Formula_rshift : FnScope N_Formula_rshift ["self", "other"] (defScope s_Formula_rshift) := ⟨rfl, rfl, rfl, by decide +kernel, rfl, by decide +kernel, by decide +kernel⟩
-- slots: 0 self, 1 other
theorem ok_Formula_rshift (T : Tx w K mg) : Ok P w K mg base 4 (a_Formula_rshift K) ["self", "other"] [] (spOpFm K .rdv) := by
  obtain ⟨_, _, F_operation_of, b_operation_of, v_operation_of, k_operation_of⟩ := ok_operation_of (P := P) (base := base) T
  refine Ok.of T.f_Formula_rshift (fun z F => okBody F sc_Formula_rshift (fun vs H Q E h => ?_) fun cdv A outer s H vs Q E hr h => ?_) rfl fun _ _ _ _ _ _ us hl => match us, hl with | [_, _], _ => rfl
  · obtain ⟨b, c, l, r, rfl, _⟩ := h
    rfl
  · obtain ⟨b, c, l, r, rfl, hb, hc, ll, lr, hs, q⟩ := h
    refine ⟨_, (pss_one (ps_ret (pe_call F_operation_of (hr.mono (by decide)) rfl T.g_operation_of k_operation_of b_operation_of v_operation_of pass0 (pa_cons (pv 0) (pa_cons pe_str (pa_cons (pv 1) pa_nil)))))), ?_⟩
    exact ⟨_, rfl, _, rfl, .rdv, b, c, l, r, rfl, hb, hc, ll, lr, hs, q⟩
def spFmLen (K : PySem.W.Frag) : Sp := fun vs H Q _ => ∃ (a : Addr) (F : FmS), vs = [.ref a] ∧ FmAt K H a F ∧ Q (.int (sz F : Nat)) H
abbrev N_Formula_len : List Str := ["self"]
theorem sc_Formula_len : FnScope N_Formula_len ["self"] (defScope s_Formula_len) := ⟨rfl, rfl, rfl, by decide +kernel, rfl, by decide +kernel, by decide +kernel⟩
-- slots: 0 self
theorem ok_Formula_len (T : Tx w K mg) : Ok P w K mg base 1 (a_Formula_len K) ["self"] [] (spFmLen K) := by
  refine Ok.of T.f_Formula_len (fun z F => okBody F sc_Formula_len (fun vs H Q E h => ?_) fun cdv A outer s H vs Q E hr h => ?_) rfl fun _ _ _ _ _ _ us hl => match us, hl with | [_], _ => rfl
  · obtain ⟨a, F, rfl, _⟩ := h
    rfl
  · obtain ⟨a, F, rfl, ha, q⟩ := h
    obtain ⟨dx1, nm1, l1, r1, s1, xs1, b1, b2, b3⟩ := ha.look
    refine ⟨_, (pss_one (ps_ret (pe_callB call_len_seq (by rfl) T.b_len (by decide +kernel) (pa_cons (pe_fld (pv 0) rfl) pa_nil)))), ?_⟩
    refine ⟨_, rfl, a, _, dx1, _, _, rfl, b1, T.cl_Formula, T.na_Formula_signs, fsFm_signs .., s1, _, rfl, .inl (SqL.of b2), ?_⟩
    rw [b3]
    exact q
def spFmStr (K : PySem.W.Frag) : Sp := fun vs H Q _ => ∃ (a : Addr) (F : FmS), vs = [.ref a] ∧ FmAt K H a F ∧ Leafs F ∧ sz F ≤ 8 ∧ Q (.str (txt F)) H
abbrev N_Formula_str : List Str := ["self"]
theorem sc_Formula_str : FnScope N_Formula_str ["self"] (defScope s_Formula_str) := ⟨rfl, rfl, rfl, by decide +kernel, rfl, by decide +kernel, by decide +kernel⟩
-- slots: 0 self
theorem ok_Formula_str (T : Tx w K mg) : Ok P w K mg base 1 (a_Formula_str K) ["self"] [] (spFmStr K) := by
  refine Ok.of T.f_Formula_str (fun z F => okBody F sc_Formula_str (fun vs H Q E h => ?_) fun cdv A outer s H vs Q E hr h => ?_) rfl fun _ _ _ _ _ _ us hl => match us, hl with | [_], _ => rfl
  · obtain ⟨a, F, rfl, _⟩ := h
    rfl
  · obtain ⟨a, F, rfl, ha, hl, hz, q⟩ := h
    obtain ⟨dx1, nm1, l1, r1, s1, xs1, b1, b2, b3⟩ := ha.look
    have t := txt_len hl
    refine ⟨_, (pss_one (ps_ret (pe_joined1 (pe_fmt (pe_fld (pv 0) rfl))))), ?_⟩
    exact ⟨_, rfl, a, _, dx1, _, _, rfl, b1, T.cl_Formula, T.na_Formula_text, fsFm_text .., .inl ⟨_, rfl, sl1 (by omega), q⟩⟩
end
end K8
end

section
set_option Elab.async false
set_option linter.all false
set_option maxRecDepth 100000
set_option maxHeartbeats 4000000
/-! The parts of a formula. -/
namespace K8
open PySem PySem.Spec PyProof.Rows L2
open KM (Fm Sg sz)
/-! ### dicts by texts of formulas -/
theorem mem_putK {κ : Type} [DecidableEq κ] {kvs : List (κ × V)} {k k' : κ} {v v' : V} (h : (k', v') ∈ putK kvs k v) : (k' = k ∧ v' = v) ∨ (k', v') ∈ kvs := by
  unfold putK at h
  split at h
  · obtain ⟨q, hq, e⟩ := List.mem_map.mp h
    by_cases c : q.1 = k
    · rw [if_pos c] at e
      injection e with e1 e2
      exact .inl ⟨by rw [← e1, c], e2.symm⟩
    · rw [if_neg c] at e
      rw [← e]
      exact .inr hq
  · rcases List.mem_append.mp h with h | h
    · exact .inr h
    · have e : (k', v') = (k, v) := by simpa using h
      injection e with e1 e2
      exact .inl ⟨e1, e2⟩
theorem nodup_putK {κ : Type} [DecidableEq κ] {kvs : List (κ × V)} {k : κ} {v : V} (h : (kvs.map (·.1)).Nodup) : ((putK kvs k v).map (·.1)).Nodup := by
  unfold putK
  split
  · rw [List.map_map]
    have e : ((fun q : κ × V => q.1) ∘ fun kv : κ × V => if kv.1 = k then (kv.1, v) else kv) = fun q => q.1 := by
      funext q
      show (if q.1 = k then (q.1, v) else q).1 = q.1
      split <;> rfl
    rw [e]
    exact h
  · rename_i c
    rw [List.map_append, List.nodup_append]
    refine ⟨h, by simp, fun a ha b hb e => ?_⟩
    have eb : b = k := by simpa using hb
    obtain ⟨q, hq, eq⟩ := List.mem_map.mp ha
    refine c ?_
    rw [List.any_eq_true]
    exact ⟨q, hq, by rw [decide_eq_true_eq]; exact eq.trans (e.trans eb)⟩
/-- a dict of formulas by their texts -/
structure FTab (K : PySem.W.Frag) (H : Hp) (S : FmS → Prop) (kvs : List (Key × V)) : Prop where
  ent : ∀ k v, (k, v) ∈ kvs → ∃ G b, k = .inr (txt G) ∧ v = .ref b ∧ FmAt K H b G ∧ S G
  nd : (kvs.map (·.1)).Nodup
def Has (kvs : List (Key × V)) (G : FmS) : Prop := ∃ b, valV kvs (.inr (txt G)) = some (.ref b)
section
variable {K : PySem.W.Frag} {H : Hp} {S : FmS → Prop} {kvs : List (Key × V)}
theorem FTab.nil : FTab K H S [] := ⟨(fun _ _ h => nomatch h), List.nodup_nil⟩
theorem FTab.put (F : FTab K H S kvs) {b : Addr} {G : FmS} (h : FmAt K H b G) (hs : S G) : FTab K H S (putK kvs (.inr (txt G)) (.ref b)) :=
  ⟨fun k v m => (mem_putK m).elim (fun e => ⟨G, b, e.1, e.2, h, hs⟩) (F.ent k v), nodup_putK F.nd⟩
theorem FTab.same (F : FTab K H S kvs) {H' : Hp} (e : Same H H') : FTab K H' S kvs :=
  ⟨fun k v m => let ⟨G, b, h1, h2, h3, h4⟩ := F.ent k v m; ⟨G, b, h1, h2, h3.same e, h4⟩, F.nd⟩
theorem FTab.imp (F : FTab K H S kvs) {S' : FmS → Prop} (e : ∀ G, S G → S' G) : FTab K H S' kvs :=
  ⟨fun k v m => let ⟨G, b, h1, h2, h3, h4⟩ := F.ent k v m; ⟨G, b, h1, h2, h3, e G h4⟩, F.nd⟩
theorem Has.put {G : FmS} {k : Key} {b : Addr} (h : Has kvs G) : Has (putK kvs k (.ref b)) G := by
  unfold Has
  rw [valV_put]
  split
  · exact ⟨b, rfl⟩
  · exact h
theorem Has.new {G : FmS} {b : Addr} : Has (putK kvs (.inr (txt G)) (.ref b)) G := by
  unfold Has
  rw [valV_put, if_pos rfl]
  exact ⟨b, rfl⟩
theorem valV_mem {κ : Type} [DecidableEq κ] {kvs : List (κ × V)} {k : κ} {v : V} (h : valV kvs k = some v) : (k, v) ∈ kvs := by
  unfold valV at h
  cases e : kvs.find? (fun kv => decide (kv.1 = k)) with
  | none =>
    rw [e] at h
    cases h
  | some q =>
    rw [e] at h
    have h2 : q.2 = v := Option.some.inj h
    have h3 := List.find?_some e
    rw [decide_eq_true_eq] at h3
    rw [← h2, ← h3]
    exact List.mem_of_find?_eq_some e
theorem mem_valV {κ : Type} [DecidableEq κ] {kvs : List (κ × V)} {k : κ} {v : V} (nd : (kvs.map (·.1)).Nodup) (h : (k, v) ∈ kvs) : valV kvs k = some v := by
  induction kvs with
  | nil => cases h
  | cons q r ih =>
    rw [List.map_cons, List.nodup_cons] at nd
    by_cases c : q.1 = k
    · rw [valV_pos c]
      rcases List.mem_cons.mp h with e | m
      · rw [← e]
      · exact absurd (List.mem_map.mpr ⟨_, m, rfl⟩) (by rw [← c]; exact nd.1)
    · rw [valV_neg c]
      rcases List.mem_cons.mp h with e | m
      · exact absurd (by rw [← e]) c
      · exact ih nd.2 m
end
/-! ### comprehensions whose readings name the context's own frame -/
abbrev BK (α : Type _) := Shared → Hp → Addr → List (Str × Addr) → List Addr → α
abbrev at0 {α : Type _} (X : Cx) (f : BK α) : α := f X.s_0 X.H_0 0 [] []
section
variable {X : Cx}
theorem pe_lcB {tg iter : Expr} {ifs : List Expr} {scope : Scope} {own : List (Str × Nat)} {pos : Pos} {wi : TI} {g : BK TG} {tt : BK TT} {elt : Expr} {te : BK TE} (hc : X.calm = true) (hN : X.N.Nodup) (hi : PI X tg iter wi) (ok : BlkOk X.N X.env.scope scope own)
    (hg : ∀ (s : Shared) (H : Hp) (C : Addr) (cl : List (Str × Addr)) (fp : List Addr), PG (X.blk s H scope (compEnvC scope cl C X.env) fp) tg (g s H C cl fp)) (ht : ∀ (s : Shared) (H : Hp) (C : Addr) (cl : List (Str × Addr)) (fp : List Addr), PTs (X.blk s H scope (compEnvC scope cl C X.env) fp) ifs (tt s H C cl fp)) (he : ∀ (s : Shared) (H : Hp) (C : Addr) (cl : List (Str × Addr)) (fp : List Addr), PE (X.blk s H scope (compEnvC scope cl C X.env) fp) elt (te s H C cl fp))
    (qhg : ∀ (s : Shared) (H : Hp) (C : Addr) (cl : List (Str × Addr)) (fp : List Addr), g s H C cl fp = at0 X g := by intros; rfl) (qht : ∀ (s : Shared) (H : Hp) (C : Addr) (cl : List (Str × Addr)) (fp : List Addr), tt s H C cl fp = at0 X tt := by intros; rfl) (qhe : ∀ (s : Shared) (H : Hp) (C : Addr) (cl : List (Str × Addr)) (fp : List Addr), te s H C cl fp = at0 X te := by intros; rfl) (hs : ∀ x, foldedSetIterable iter X.env x = pure x := by intro _; rfl) :
    PE X (.ListComp elt [⟨tg, iter, ifs, 0⟩] scope pos) (tLc wi (at0 X g) (at0 X tt) (at0 X te) (own.map (·.2))) :=
  pe_lc hc hN hi ok (fun s H C cl fp => by rw [← qhg s H C cl fp]; exact hg s H C cl fp) (fun s H C cl fp => by rw [← qht s H C cl fp]; exact ht s H C cl fp) (fun s H C cl fp => by rw [← qhe s H C cl fp]; exact he s H C cl fp) hs
theorem pe_lc2B {tg iter : Expr} {ifs : List Expr} {scope : Scope} {own : List (Str × Nat)} {pos : Pos} {wi : TI} {g : BK TG} {tt : BK TT} {elt : Expr} {te : BK TE} {tg1 iter1 : Expr} {ifs1 : List Expr} {vs1 : List Nat} {wi1 : BK TI} {g1 : BK TG} {tt1 : BK TT} (hc : X.calm = true) (hN : X.N.Nodup) (hi : PI X tg iter wi) (ok : BlkOk X.N X.env.scope scope own) (hv : ∀ i ∈ vs1, i ∈ own.map (·.2))
    (hg : ∀ (s : Shared) (H : Hp) (C : Addr) (cl : List (Str × Addr)) (fp : List Addr), PG (X.blk s H scope (compEnvC scope cl C X.env) fp) tg (g s H C cl fp)) (ht : ∀ (s : Shared) (H : Hp) (C : Addr) (cl : List (Str × Addr)) (fp : List Addr), PTs (X.blk s H scope (compEnvC scope cl C X.env) fp) ifs (tt s H C cl fp)) (hi1 : ∀ (s : Shared) (H : Hp) (C : Addr) (cl : List (Str × Addr)) (fp : List Addr), PI (X.blk s H scope (compEnvC scope cl C X.env) fp) tg1 iter1 (wi1 s H C cl fp)) (hg1 : ∀ (s : Shared) (H : Hp) (C : Addr) (cl : List (Str × Addr)) (fp : List Addr), PG (X.blk s H scope (compEnvC scope cl C X.env) fp) tg1 (g1 s H C cl fp)) (ht1 : ∀ (s : Shared) (H : Hp) (C : Addr) (cl : List (Str × Addr)) (fp : List Addr), PTs (X.blk s H scope (compEnvC scope cl C X.env) fp) ifs1 (tt1 s H C cl fp)) (he : ∀ (s : Shared) (H : Hp) (C : Addr) (cl : List (Str × Addr)) (fp : List Addr), PE (X.blk s H scope (compEnvC scope cl C X.env) fp) elt (te s H C cl fp))
    (qhg : ∀ (s : Shared) (H : Hp) (C : Addr) (cl : List (Str × Addr)) (fp : List Addr), g s H C cl fp = at0 X g := by intros; rfl) (qht : ∀ (s : Shared) (H : Hp) (C : Addr) (cl : List (Str × Addr)) (fp : List Addr), tt s H C cl fp = at0 X tt := by intros; rfl) (qhi1 : ∀ (s : Shared) (H : Hp) (C : Addr) (cl : List (Str × Addr)) (fp : List Addr), wi1 s H C cl fp = at0 X wi1 := by intros; rfl) (qhg1 : ∀ (s : Shared) (H : Hp) (C : Addr) (cl : List (Str × Addr)) (fp : List Addr), g1 s H C cl fp = at0 X g1 := by intros; rfl) (qht1 : ∀ (s : Shared) (H : Hp) (C : Addr) (cl : List (Str × Addr)) (fp : List Addr), tt1 s H C cl fp = at0 X tt1 := by intros; rfl) (qhe : ∀ (s : Shared) (H : Hp) (C : Addr) (cl : List (Str × Addr)) (fp : List Addr), te s H C cl fp = at0 X te := by intros; rfl) (hs : ∀ x, foldedSetIterable iter X.env x = pure x := by intro _; rfl) (hs1 : ∀ env x, foldedSetIterable iter1 env x = pure x := by intro _ _; rfl) :
    PE X (.ListComp elt [⟨tg, iter, ifs, 0⟩, ⟨tg1, iter1, ifs1, 0⟩] scope pos) (tLc2 wi (at0 X g) (at0 X tt) (at0 X wi1) (at0 X g1) (at0 X tt1) (at0 X te) (own.map (·.2)) vs1) :=
  pe_lc2 hc hN hi ok hv (fun s H C cl fp => by rw [← qhg s H C cl fp]; exact hg s H C cl fp) (fun s H C cl fp => by rw [← qht s H C cl fp]; exact ht s H C cl fp) (fun s H C cl fp => by rw [← qhi1 s H C cl fp]; exact hi1 s H C cl fp) (fun s H C cl fp => by rw [← qhg1 s H C cl fp]; exact hg1 s H C cl fp) (fun s H C cl fp => by rw [← qht1 s H C cl fp]; exact ht1 s H C cl fp) (fun s H C cl fp => by rw [← qhe s H C cl fp]; exact he s H C cl fp) hs hs1
theorem ps_setLcB {tg iter : Expr} {ifs : List Expr} {scope : Scope} {own : List (Str × Nat)} {pos : Pos} {wi : TI} {g : BK TG} {tt : BK TT} {elt : Expr} {te : BK TE} {i : Nat} {y : Str} {py spos : Pos} (hc : X.calm = true) (hN : X.N.Nodup) (hy : X.N[i]? = some y) (hyl : X.env.scope.names.lookup y = some .local) (hsw : swapsWith (.ListComp elt [⟨tg, iter, ifs, 0⟩] scope pos) (some (.Name y py)) spos.line X.env = pure true) (hi : PI X tg iter wi) (ok : BlkOk X.N X.env.scope scope own)
    (hg : ∀ (s : Shared) (H : Hp) (C : Addr) (cl : List (Str × Addr)) (fp : List Addr), PG (X.blk s H scope (compEnvC scope cl C X.env) fp) tg (g s H C cl fp)) (ht : ∀ (s : Shared) (H : Hp) (C : Addr) (cl : List (Str × Addr)) (fp : List Addr), PTs (X.blk s H scope (compEnvC scope cl C X.env) fp) ifs (tt s H C cl fp)) (he : ∀ (s : Shared) (H : Hp) (C : Addr) (cl : List (Str × Addr)) (fp : List Addr), PE (X.blk s H scope (compEnvC scope cl C X.env) fp) elt (te s H C cl fp))
    (qhg : ∀ (s : Shared) (H : Hp) (C : Addr) (cl : List (Str × Addr)) (fp : List Addr), g s H C cl fp = at0 X g := by intros; rfl) (qht : ∀ (s : Shared) (H : Hp) (C : Addr) (cl : List (Str × Addr)) (fp : List Addr), tt s H C cl fp = at0 X tt := by intros; rfl) (qhe : ∀ (s : Shared) (H : Hp) (C : Addr) (cl : List (Str × Addr)) (fp : List Addr), te s H C cl fp = at0 X te := by intros; rfl) (hs : ∀ x, foldedSetIterable iter X.env x = pure x := by intro _; rfl) :
    PS X (.Assign [.Name y py] (.ListComp elt [⟨tg, iter, ifs, 0⟩] scope pos) spos) (tAsg (tLc wi (at0 X g) (at0 X tt) (at0 X te) (own.map (·.2))) (gName i)) :=
  ps_setLc hc hN hy hyl hsw hi ok (fun s H C cl fp => by rw [← qhg s H C cl fp]; exact hg s H C cl fp) (fun s H C cl fp => by rw [← qht s H C cl fp]; exact ht s H C cl fp) (fun s H C cl fp => by rw [← qhe s H C cl fp]; exact he s H C cl fp) hs
theorem ps_setLc2B {tg iter : Expr} {ifs : List Expr} {scope : Scope} {own : List (Str × Nat)} {pos : Pos} {wi : TI} {g : BK TG} {tt : BK TT} {elt : Expr} {te : BK TE} {tg1 iter1 : Expr} {ifs1 : List Expr} {vs1 : List Nat} {wi1 : BK TI} {g1 : BK TG} {tt1 : BK TT} {i : Nat} {y : Str} {py spos : Pos} (hc : X.calm = true) (hN : X.N.Nodup) (hy : X.N[i]? = some y) (hyl : X.env.scope.names.lookup y = some .local) (hsw : swapsWith (.ListComp elt [⟨tg, iter, ifs, 0⟩, ⟨tg1, iter1, ifs1, 0⟩] scope pos) (some (.Name y py)) spos.line X.env = pure true) (hi : PI X tg iter wi) (ok : BlkOk X.N X.env.scope scope own) (hv : ∀ i ∈ vs1, i ∈ own.map (·.2))
    (hg : ∀ (s : Shared) (H : Hp) (C : Addr) (cl : List (Str × Addr)) (fp : List Addr), PG (X.blk s H scope (compEnvC scope cl C X.env) fp) tg (g s H C cl fp)) (ht : ∀ (s : Shared) (H : Hp) (C : Addr) (cl : List (Str × Addr)) (fp : List Addr), PTs (X.blk s H scope (compEnvC scope cl C X.env) fp) ifs (tt s H C cl fp)) (hi1 : ∀ (s : Shared) (H : Hp) (C : Addr) (cl : List (Str × Addr)) (fp : List Addr), PI (X.blk s H scope (compEnvC scope cl C X.env) fp) tg1 iter1 (wi1 s H C cl fp)) (hg1 : ∀ (s : Shared) (H : Hp) (C : Addr) (cl : List (Str × Addr)) (fp : List Addr), PG (X.blk s H scope (compEnvC scope cl C X.env) fp) tg1 (g1 s H C cl fp)) (ht1 : ∀ (s : Shared) (H : Hp) (C : Addr) (cl : List (Str × Addr)) (fp : List Addr), PTs (X.blk s H scope (compEnvC scope cl C X.env) fp) ifs1 (tt1 s H C cl fp)) (he : ∀ (s : Shared) (H : Hp) (C : Addr) (cl : List (Str × Addr)) (fp : List Addr), PE (X.blk s H scope (compEnvC scope cl C X.env) fp) elt (te s H C cl fp))
    (qhg : ∀ (s : Shared) (H : Hp) (C : Addr) (cl : List (Str × Addr)) (fp : List Addr), g s H C cl fp = at0 X g := by intros; rfl) (qht : ∀ (s : Shared) (H : Hp) (C : Addr) (cl : List (Str × Addr)) (fp : List Addr), tt s H C cl fp = at0 X tt := by intros; rfl) (qhi1 : ∀ (s : Shared) (H : Hp) (C : Addr) (cl : List (Str × Addr)) (fp : List Addr), wi1 s H C cl fp = at0 X wi1 := by intros; rfl) (qhg1 : ∀ (s : Shared) (H : Hp) (C : Addr) (cl : List (Str × Addr)) (fp : List Addr), g1 s H C cl fp = at0 X g1 := by intros; rfl) (qht1 : ∀ (s : Shared) (H : Hp) (C : Addr) (cl : List (Str × Addr)) (fp : List Addr), tt1 s H C cl fp = at0 X tt1 := by intros; rfl) (qhe : ∀ (s : Shared) (H : Hp) (C : Addr) (cl : List (Str × Addr)) (fp : List Addr), te s H C cl fp = at0 X te := by intros; rfl) (hs : ∀ x, foldedSetIterable iter X.env x = pure x := by intro _; rfl) (hs1 : ∀ env x, foldedSetIterable iter1 env x = pure x := by intro _ _; rfl) :
    PS X (.Assign [.Name y py] (.ListComp elt [⟨tg, iter, ifs, 0⟩, ⟨tg1, iter1, ifs1, 0⟩] scope pos) spos) (tAsg (tLc2 wi (at0 X g) (at0 X tt) (at0 X wi1) (at0 X g1) (at0 X tt1) (at0 X te) (own.map (·.2)) vs1) (gName i)) :=
  ps_setLc2 hc hN hy hyl hsw hi ok hv (fun s H C cl fp => by rw [← qhg s H C cl fp]; exact hg s H C cl fp) (fun s H C cl fp => by rw [← qht s H C cl fp]; exact ht s H C cl fp) (fun s H C cl fp => by rw [← qhi1 s H C cl fp]; exact hi1 s H C cl fp) (fun s H C cl fp => by rw [← qhg1 s H C cl fp]; exact hg1 s H C cl fp) (fun s H C cl fp => by rw [← qht1 s H C cl fp]; exact ht1 s H C cl fp) (fun s H C cl fp => by rw [← qhe s H C cl fp]; exact he s H C cl fp) hs hs1
theorem pe_dcB {tg iter : Expr} {ifs : List Expr} {scope : Scope} {own : List (Str × Nat)} {pos : Pos} {wi : TI} {g : BK TG} {tt : BK TT} {kx vx : Expr} {tk tv : BK TE} (hc : X.calm = true) (hN : X.N.Nodup) (hi : PI X tg iter wi) (ok : BlkOk X.N X.env.scope scope own)
    (hg : ∀ (s : Shared) (H : Hp) (C : Addr) (cl : List (Str × Addr)) (fp : List Addr), PG (X.blk s H scope (compEnvC scope cl C X.env) fp) tg (g s H C cl fp)) (ht : ∀ (s : Shared) (H : Hp) (C : Addr) (cl : List (Str × Addr)) (fp : List Addr), PTs (X.blk s H scope (compEnvC scope cl C X.env) fp) ifs (tt s H C cl fp)) (hk : ∀ (s : Shared) (H : Hp) (C : Addr) (cl : List (Str × Addr)) (fp : List Addr), PE (X.blk s H scope (compEnvC scope cl C X.env) fp) kx (tk s H C cl fp)) (he : ∀ (s : Shared) (H : Hp) (C : Addr) (cl : List (Str × Addr)) (fp : List Addr), PE (X.blk s H scope (compEnvC scope cl C X.env) fp) vx (tv s H C cl fp))
    (qhg : ∀ (s : Shared) (H : Hp) (C : Addr) (cl : List (Str × Addr)) (fp : List Addr), g s H C cl fp = at0 X g := by intros; rfl) (qht : ∀ (s : Shared) (H : Hp) (C : Addr) (cl : List (Str × Addr)) (fp : List Addr), tt s H C cl fp = at0 X tt := by intros; rfl) (qhk : ∀ (s : Shared) (H : Hp) (C : Addr) (cl : List (Str × Addr)) (fp : List Addr), tk s H C cl fp = at0 X tk := by intros; rfl) (qhe : ∀ (s : Shared) (H : Hp) (C : Addr) (cl : List (Str × Addr)) (fp : List Addr), tv s H C cl fp = at0 X tv := by intros; rfl) (hs : ∀ x, foldedSetIterable iter X.env x = pure x := by intro _; rfl) :
    PE X (.DictComp kx vx [⟨tg, iter, ifs, 0⟩] scope pos) (tDc wi (at0 X g) (at0 X tt) (at0 X tk) (at0 X tv) (own.map (·.2))) :=
  pe_dc hc hN hi ok (fun s H C cl fp => by rw [← qhg s H C cl fp]; exact hg s H C cl fp) (fun s H C cl fp => by rw [← qht s H C cl fp]; exact ht s H C cl fp) (fun s H C cl fp => by rw [← qhk s H C cl fp]; exact hk s H C cl fp) (fun s H C cl fp => by rw [← qhe s H C cl fp]; exact he s H C cl fp) hs
end
/-- over any walk, a dict -/
theorem dc_it {J : It} {n : Nat} {G : Hp → Prop} {Y : Nat → Hp → V → Hp → Prop} (w : Walk J n G Y) {g : TG} {tt : TT} {tk tv : TE} {vs : List Nat} {σ : L2.St} {H1 : Hp} {D : Addr} {Qd : Hp → Prop} (Pv : Nat → Hp → Prop) (h0 : Pv 0 (upd H1 D (.dK []))) (hG : ∀ i H, i ≤ n → Pv i H → G H)
    (hs : ∀ i x H H', i < n → Pv i H → Y i H x H' → g x (wipe σ vs) H' fun σ2 H2 => wipe σ2 vs = wipe σ vs ∧ tt σ2 H2 fun b H3 =>
      if b = true then tk σ2 H3 fun y H4 => tv σ2 H4 fun z H5 => ∃ kvs k, y = kV k ∧ H5 D = some (.dK kvs) ∧ kvs.length < sizeLine ∧ Pv (i + 1) (upd H5 D (.dK (putK kvs k z))) else Pv (i + 1) H3) (hd : ∀ H, Pv n H → Qd H) :
    ∃ W : Nat → Nat → Hp → Prop, (∃ m, W 0 m (upd H1 D (.dK []))) ∧ ∀ i m H, W i m H →
      (J.stop i H ∧ Qd H) ∨ (J.go i H ∧ ∃ Nx : Hp → Prop, (∀ H', Nx H' → ∃ m', m' < m ∧ W (i + 1) m' H') ∧ ∀ x H', J.yld i H x H' → g x (wipe σ vs) H' fun σ2 H2 => wipe σ2 vs = wipe σ vs ∧ tt σ2 H2 fun b H3 =>
        if b = true then tk σ2 H3 fun y H4 => tv σ2 H4 fun z H5 => ∃ kvs k, y = kV k ∧ H5 D = some (.dK kvs) ∧ kvs.length < sizeLine ∧ Nx (upd H5 D (.dK (putK kvs k z))) else Nx H3) := by
  refine ⟨fun i m H => m = n - i ∧ i ≤ n ∧ Pv i H, ⟨n, by simp, Nat.zero_le _, h0⟩, ?_⟩
  rintro i m H ⟨rfl, hi, p⟩
  have q := hG i H hi p
  by_cases hlt : i < n
  · exact .inr ⟨w.goes i H hlt q, Pv (i + 1), fun H' p' => ⟨n - (i + 1), by omega, rfl, hlt, p'⟩, fun x H' y => hs i x H H' hlt p (w.yields i H x H' hlt q y)⟩
  · have e : i = n := by omega
    subst e
    exact .inl ⟨w.stops H q, hd H p⟩
/-- after a lock -/
theorem same_unlock {H H' : Hp} {d : Addr} {od : Obj} {u : HO} (h : H d = some u) (e : Same (upd H d (.frz od u)) H') : Same H (upd H' d u) := fun a o ha => by
  by_cases c : a = d
  · subst c
    rw [upd_same, ← h]
    exact ha
  · rw [upd_ne c]
    exact e a o (by rw [upd_ne c]; exact ha)
/-! ### written parts -/
inductive FsAt (K : PySem.W.Frag) (H : Hp) : List Addr → List FmS → Prop
  | nil : FsAt K H [] []
  | cons {a : Addr} {F : FmS} {as : List Addr} {Fs : List FmS} : FmAt K H a F → FsAt K H as Fs → FsAt K H (a :: as) (F :: Fs)
theorem FsAt.app {K : PySem.W.Frag} {H : Hp} {as bs : List Addr} {Fs Gs : List FmS} (h : FsAt K H as Fs) (k : FsAt K H bs Gs) : FsAt K H (as ++ bs) (Fs ++ Gs) := by
  induction h with
  | nil => exact k
  | cons h _ ih => exact .cons h ih
theorem FsAt.len {K : PySem.W.Frag} {H : Hp} {as : List Addr} {Fs : List FmS} (h : FsAt K H as Fs) : as.length = Fs.length := by
  induction h with
  | nil => rfl
  | cons _ _ ih => simp [ih]
theorem FsAt.get {K : PySem.W.Frag} {H : Hp} {as : List Addr} {Fs : List FmS} (h : FsAt K H as Fs) : ∀ {i : Nat} {a : Addr} {F : FmS}, as[i]? = some a → Fs[i]? = some F → FmAt K H a F := by
  induction h with
  | nil => intro i a F h; cases h
  | cons h _ ih =>
    intro i a F ha hF
    cases i with
    | zero =>
      cases ha
      cases hF
      exact h
    | succ i => exact ih ha hF
theorem FsAt.same {K : PySem.W.Frag} {H H' : Hp} (e : Same H H') {as : List Addr} {Fs : List FmS} (h : FsAt K H as Fs) : FsAt K H' as Fs := by
  induction h with
  | nil => exact .nil
  | cons h _ ih => exact .cons (h.same e) ih
section
variable {P : Program} {w : World} {K : PySem.W.Frag} {mg : Str → Option Value} {base : Heap}
def spWritten (K : PySem.W.Frag) (n : Nat) : Sp := fun vs H Q _ => ∃ (a : Addr) (F : FmS), vs = [.ref a] ∧ FmAt K H a F ∧ sz F < n ∧ sz F ≤ 100 ∧
  ∀ p as H', Same H H' → H p = none → H' p = some (.lst (refV as)) → FsAt K H' as (subs F) → Q (.ref p) H'
abbrev N_written_parts : List Str := ["formula"]
theorem sc_written_parts : FnScope N_written_parts ["formula"] (defScope s_written_parts) := ⟨rfl, rfl, rfl, by decide +kernel, rfl, by decide +kernel, by decide +kernel⟩
-- slots: 0 formula
theorem ok_written_parts (T : Tx w K mg) : ∀ n, Ok P w K mg base n (a_written_parts K) ["formula"] [] (spWritten K n)
  | 0 => Ok.of T.f_written_parts (fun z F => ⟨fun vs H Q E ⟨_, _, _, _, h, _⟩ => absurd h (Nat.not_lt_zero _), fun _ _ _ _ _ _ _ _ _ _ _ _ _ ⟨_, _, _, _, h, _⟩ => absurd h (Nat.not_lt_zero _)⟩) rfl fun _ _ _ _ _ _ us hl => match us, hl with | [_], _ => rfl
  | n + 1 => by
    obtain ⟨_, _, F_written_parts, b_written_parts, v_written_parts, k_written_parts⟩ := ok_written_parts T n
    refine Ok.of T.f_written_parts (fun z F => okBody F sc_written_parts (fun vs H Q E h => ?_) fun cdv A outer s H vs Q E hr h => ?_) rfl fun _ _ _ _ _ _ us hl => match us, hl with | [_], _ => rfl
    · obtain ⟨a, F, rfl, _⟩ := h
      rfl
    · obtain ⟨a, F, rfl, ha, hn, h100, q⟩ := h
      refine ⟨_, (pss_cons (ps_if (pt_cmpR op_eq (pe_fld (pv 0) rfl) pe_str (nomark _)) (pss_one (ps_ret (pe_lst (pa_cons (pv 0) pa_nil)))) pss_nil)
 (pss_one (ps_ret (pe_op op_cat (pe_op op_cat (pe_lst (pa_cons (pv 0) pa_nil)) (pe_call F_written_parts (hr.mono (by omega)) rfl T.g_written_parts k_written_parts b_written_parts v_written_parts pass0 (pa_cons (pe_fld (pv 0) rfl) pa_nil))) (pe_call F_written_parts (hr.mono (by omega)) rfl T.g_written_parts k_written_parts b_written_parts v_written_parts pass0 (pa_cons (pe_fld (pv 0) rfl) pa_nil)))))), ?_⟩
      cases F with
      | lt z =>
        obtain ⟨dx, s, h1, h2⟩ := ha
        refine ⟨_, rfl, a, _, dx, _, _, rfl, h1, T.cl_Formula, T.na_Formula_sign, fsFm_sign .., rfl, true, blT rfl, iteT ?_⟩
        exact ⟨_, rfl, by show 1 ≤ sizeLine; decide, fun p hp => q p [a] _ (same_new hp) hp upd_same (.cons (FmAt.same (same_new hp) (F := .lt z) ⟨dx, s, h1, h2⟩) .nil)⟩
      | op sg l r =>
        have ha0 := ha
        obtain ⟨dx, b, c, t, xs, h1, hb, hc, ht, hx⟩ := ha
        have hn2 : sz l + sz r + 1 < n + 1 := hn
        have hn3 : sz l + sz r + 1 ≤ 100 := h100
        refine ⟨_, rfl, a, _, dx, _, _, rfl, h1, T.cl_Formula, T.na_Formula_sign, fsFm_sign .., rfl, false, blF (sg_ne sg), iteF ?_⟩
        refine ⟨_, rfl, by show 1 ≤ sizeLine; decide, fun p hp => ?_⟩
        have s1 := same_new (o := .lst [.ref a]) hp
        refine ⟨_, rfl, a, _, dx, _, _, rfl, s1 _ _ h1, T.cl_Formula, T.na_Formula_left, fsFm_left .., ?_⟩
        refine ⟨b, l, rfl, hb.same s1, by omega, by omega, fun p2 as2 H2 s2 n2 e2 f2 => ?_⟩
        have s3 := s1.trans s2
        have l2 := f2.len
        have l3 := subs_len l
        refine ⟨p, p2, [.ref a], refV as2, rfl, rfl, s2 _ _ upd_same, e2, sl1 (by simp only [refV, List.length_map, List.length_cons, List.length_nil]; omega), fun p3 hp3 => ?_⟩
        have s4 := same_upd (o := .lst ([.ref a] ++ refV as2)) s3 (same_none s3 hp3)
        refine ⟨_, rfl, a, _, dx, _, _, rfl, s4 _ _ h1, T.cl_Formula, T.na_Formula_right, fsFm_right .., ?_⟩
        refine ⟨c, r, rfl, hc.same s4, by omega, by omega, fun p5 as5 H5 s5 n5 e5 f5 => ?_⟩
        have s6 := s4.trans s5
        have l5 := f5.len
        have l6 := subs_len r
        refine ⟨p3, p5, [.ref a] ++ refV as2, refV as5, rfl, rfl, s5 _ _ upd_same, e5, sl1 (by simp only [refV, List.length_map, List.length_append, List.length_cons, List.length_nil]; omega), fun p7 hp7 => ?_⟩
        refine q p7 ([a] ++ as2 ++ as5) _ (same_upd s6 (same_none s6 hp7)) (same_none s6 hp7) ?_ ?_
        · rw [upd_same]
          simp [refV]
        · have s8 := same_upd (o := .lst ([.ref a] ++ refV as2 ++ refV as5)) s6 (same_none s6 hp7)
          exact ((FsAt.cons (ha0.same s8) .nil).app (f2.same ((same_new hp3).trans (s5.trans (same_new hp7))))).app (f5.same (same_new hp7))
def spParts (K : PySem.W.Frag) : Sp := fun vs H Q _ => ∃ (a : Addr) (F : FmS), vs = [.ref a] ∧ FmAt K H a F ∧ Leafs F ∧ sz F ≤ 8 ∧
  ∀ p as H', Same H H' → H p = none → H' p = some (.tup (refV as)) → as.length ≤ 17 → (∀ G ∈ subs F, ∃ b ∈ as, FmAt K H' b G) → (∀ b ∈ as, ∃ G ∈ subs F, FmAt K H' b G) → Q (.ref p) H'
abbrev N_Formula_parts : List Str := ["self", "found", "order", "part", "text", "number"]
theorem sc_Formula_parts : FnScope N_Formula_parts ["self"] (defScope s_Formula_parts) := ⟨rfl, rfl, rfl, by decide +kernel, rfl, by decide +kernel, by decide +kernel⟩
-- slots: 0 self, 1 found, 2 order, 3 part, 4 text, 5 number
theorem ok_Formula_parts (T : Tx w K mg) : Ok P w K mg base 10 (a_Formula_parts K) ["self"] [] (spParts K) := by
  obtain ⟨_, _, F_written_parts, b_written_parts, v_written_parts, k_written_parts⟩ := ok_written_parts (P := P) (base := base) T 9
  refine Ok.of T.f_Formula_parts (fun z F => okBody F sc_Formula_parts (fun vs H Q E h => ?_) fun cdv A outer s H vs Q E hr h => ?_) rfl fun _ _ _ _ _ _ us hl => match us, hl with | [_], _ => rfl
  · obtain ⟨a, F, rfl, _⟩ := h
    rfl
  · obtain ⟨a, F, rfl, ha, hl, h8, q⟩ := h
    refine ⟨_, (pss_cons (ps_set (i := 1) sc_Formula_parts.nd rfl (by first | exact Or.inl rfl | exact Or.inr rfl) (pe_dcB (own := [("part", 3)]) rfl sc_Formula_parts.nd (pi_list (pe_call F_written_parts (hr.mono (by decide)) rfl T.g_written_parts k_written_parts b_written_parts v_written_parts pass0 (pa_cons (pv 0) pa_nil))) (blkOk_by (own := [("part", 3)]) (N := N_Formula_parts) (sc := defScope s_Formula_parts) (by decide +kernel)) (fun _ _ _ _ _ => (pg_name (i := 3) sc_Formula_parts.nd rfl (by first | exact Or.inl rfl | exact Or.inr rfl))) (fun _ _ _ _ _ => pts_nil) (fun _ _ _ _ _ => (pe_fld (pv 3) rfl)) (fun _ _ _ _ _ => (pv 3))))
 (pss_cons (ps_set (i := 2) sc_Formula_parts.nd rfl (by first | exact Or.inl rfl | exact Or.inr rfl) (pe_callB cr_sortIS (by rfl) T.b_sorted (by decide +kernel) (pa_cons (pe_lock (pe_lcB (own := [("text", 4)]) rfl sc_Formula_parts.nd (pi_keys (pv 1)) (blkOk_by (own := [("text", 4)]) (N := N_Formula_parts) (sc := defScope s_Formula_parts) (by decide +kernel)) (fun _ _ _ _ _ => (pg_name (i := 4) sc_Formula_parts.nd rfl (by first | exact Or.inl rfl | exact Or.inr rfl))) (fun _ _ _ _ _ => pts_nil) (fun _ _ _ _ _ => (pe_tup (pa_cons (pe_callB call_len_seq (by rfl) T.b_len (by decide +kernel) (pa_cons (pe_fld (pe_dget (hu_of hr) (pv 1) (pv 4) (fun _ _ => rfl)) rfl) pa_nil)) (pa_cons (pv 4) pa_nil)))))) pa_nil)))
 (pss_one (ps_ret (pe_callTy call_tuple_of (by rfl) T.b_tuple (by decide +kernel) (pa_cons (pe_lcB (own := [("number", 5), ("text", 4)]) rfl sc_Formula_parts.nd (pi_list (pv 2)) (blkOk_by (own := [("number", 5), ("text", 4)]) (N := N_Formula_parts) (sc := defScope s_Formula_parts) (by decide +kernel)) (fun _ _ _ _ _ => (pg_tup rfl (pgs_cons (pg_name (i := 5) sc_Formula_parts.nd rfl (by first | exact Or.inl rfl | exact Or.inr rfl)) (pgs_cons (pg_name (i := 4) sc_Formula_parts.nd rfl (by first | exact Or.inl rfl | exact Or.inr rfl)) pgs_nil)))) (fun _ _ _ _ _ => pts_nil) (fun _ _ _ _ _ => (pe_dget (hu_of hr) (pv 1) (pv 4) (fun _ _ => rfl)))) pa_nil)))))), ?_⟩
    refine ⟨_, rfl, a, F, rfl, ha, by omega, by omega, fun p as H1 s1 n1 e1 f1 => ?_⟩
    have hlen : as.length = 2 * sz F + 1 := f1.len.trans (subs_len F)
    refine ⟨p, rfl, ⟨_, SqL.of e1⟩, fun D hD => ?_⟩
    have hpD : p ≠ D := fun e => by
      rw [e, hD] at e1
      cases e1
    refine dc_it (walk_list (xs := refV as)) (fun i H' => ∃ kvs, H' = upd H1 D (.dK kvs) ∧ FTab K H1 (fun G => G ∈ subs F) kvs ∧ kvs.length ≤ i ∧ ∀ j G, j < i → (subs F)[j]? = some G → Has kvs G) ⟨[], rfl, .nil, Nat.le_refl _, fun j _ h => absurd h (Nat.not_lt_zero _)⟩
      (fun i H' _ ⟨kvs, e, _⟩ => by rw [e]; exact SqL.of ((upd_ne hpD).trans e1)) ?_ ?_
    · rintro i x H' H2 hi ⟨kvs, rfl, ft, hk, hall⟩ ⟨rfl, hx⟩
      have hi2 : i < as.length := by simpa [refV] using hi
      have ex : x = .ref as[i] := by
        rw [List.getElem?_map, List.getElem?_eq_getElem hi2] at hx
        exact (Option.some.inj hx).symm
      subst ex
      have hi3 : i < (subs F).length := by rw [← f1.len]; exact hi2
      have fm := f1.get (List.getElem?_eq_getElem hi2) (List.getElem?_eq_getElem hi3)
      obtain ⟨dx1, nm1, l1, r1, s1', xs1, b1, b2, b3⟩ := fm.look
      have sD : Same H1 (upd H1 D (.dK kvs)) := same_new hD
      refine ⟨rfl, _, rfl, as[i], _, dx1, _, _, rfl, sD _ _ b1, T.cl_Formula, T.na_Formula_text, fsFm_text .., _, rfl, kvs, .inr (txt (subs F)[i]), rfl, upd_same, sl2 (by omega), _, upd_upd, ft.put fm (List.getElem_mem hi3), Nat.le_trans (length_putK _ _ _) (by omega), fun j G hj hG => ?_⟩
      by_cases e : j < i
      · exact (hall j G e hG).put
      · have e2 : j = i := by omega
        subst e2
        rw [List.getElem?_eq_getElem hi3] at hG
        cases hG
        exact Has.new
    · rintro H2 ⟨kvs, rfl, ft, hk, hall⟩
      have hasG : ∀ G ∈ subs F, Has kvs G := fun G hG => by
        obtain ⟨j, hj, e⟩ := List.getElem_of_mem hG
        exact hall j G (by rw [show (refV as).length = as.length from List.length_map .., f1.len]; exact hj) (by rw [List.getElem?_eq_getElem hj, e])
      have hk17 : kvs.length ≤ 17 := by
        have : (refV as).length = as.length := List.length_map ..
        omega
      -- the pairs
      generalize hH3 : upd H1 D (.dK kvs) = H3
      have s3 : Same H1 H3 := by
        rw [← hH3]
        exact same_new hD
      have d3 : H3 D = some (.dK kvs) := by
        rw [← hH3]
        exact upd_same
      refine ⟨D, .dK kvs, d3, trivial, fun od => ?_⟩
      generalize hHL : upd H3 D (.frz od (.dK kvs)) = HL
      have dL : HL D = some (.frz od (.dK kvs)) := by
        rw [← hHL]
        exact upd_same
      have uL : ∀ {H'}, Same HL H' → Same H3 (upd H' D (.dK kvs)) := fun {H'} e => same_unlock d3 (by rw [hHL]; exact e)
      have oL : ∀ {H'} {b o}, Same HL H' → H1 b = some o → H' b = some o := fun {H' b o} e h => by
        refine e _ _ ?_
        rw [← hHL, upd_ne (ne_of_none h hD), ← hH3, upd_ne (ne_of_none h hD)]
        exact h
      refine ⟨_, rfl, D, od, rfl, .inl ⟨kvs, dL, fun D2 hD2 => ?_⟩⟩
      refine lc_it (walk_keys (kvs := kvs)) (fun i H' => Same HL H' ∧ ∃ ts : List Addr, H' D2 = some (.lst (refV ts)) ∧ ts.length = i ∧ ∀ j t, ts[j]? = some t → ∃ n z v, kvs[j]? = some (Sum.inr z, v) ∧ H' t = some (.tup [.int n, .str z]))
        ⟨same_new hD2, [], upd_same, rfl, fun (j : Nat) (t : Addr) h => absurd (show ([] : List Addr)[j]? = some t from h) (by simp)⟩ (fun i H' _ p => p.1 _ _ dL) ?_ ?_
      · rintro i x H' H4 hi ⟨s4, ts, ht, htl, hts⟩ ⟨rfl, k, v, hkv, rfl⟩
        obtain ⟨G, b, rfl, rfl, fm, hG⟩ := ft.ent _ _ (List.mem_of_getElem? hkv)
        obtain ⟨dx1, nm1, l1, r1, s1', xs1, b1, b2, b3⟩ := fm.look
        refine ⟨rfl, _, rfl, _, rfl, D, _, rfl, .inl ⟨kvs, .inr (txt G), .inr ⟨od, s4 _ _ dL⟩, rfl, (mem_valV ft.nd (List.mem_of_getElem? hkv)).symm⟩, ?_⟩
        refine ⟨b, _, dx1, _, _, rfl, oL s4 b1, T.cl_Formula, T.na_Formula_signs, fsFm_signs .., s1', _, rfl, .inl (SqL.of (oL s4 b2)), ?_⟩
        refine ⟨_, rfl, by show 2 ≤ sizeLine; decide, fun t hT => ?_⟩
        have ne1 : D2 ≠ t := fun e => by
          rw [e, hT] at ht
          cases ht
        refine ⟨_, (upd_ne ne1).trans ht, sl2 (by rw [List.length_map]; omega), same_upd (same_upd s4 (same_none s4 hT)) hD2, ts ++ [t], ?_, by simp [htl], fun j t' hj => ?_⟩
        · rw [upd_same]
          simp [refV]
        · by_cases e : j < ts.length
          · rw [List.getElem?_append_left e] at hj
            obtain ⟨n, z, v, h1, h2⟩ := hts j t' hj
            refine ⟨n, z, v, h1, ?_⟩
            have n1 : t' ≠ t := fun e => by
              rw [e, hT] at h2
              cases h2
            have n2 : t' ≠ D2 := fun e => by
              rw [e, ht] at h2
              cases h2
            rw [upd_ne n2, upd_ne n1]
            exact h2
          · rw [List.getElem?_append_right (by omega)] at hj
            have e2 : j = ts.length := by
              rcases Nat.lt_or_ge (j - ts.length) 1 with h | h
              · omega
              · rw [List.getElem?_eq_none (by simpa using h)] at hj
                cases hj
            subst e2
            have e3 : t' = t := by simpa using hj.symm
            subst e3
            refine ⟨(xs1.length : Nat), txt G, .ref b, by rw [htl]; exact hkv, ?_⟩
            rw [upd_ne ne1.symm, upd_same]
            rfl
      · rintro H4 ⟨s4, ts, ht, htl, hts⟩
        refine ⟨s4 _ _ dL, ?_⟩
        have neD : D2 ≠ D := fun e => by
          rw [e, dL] at hD2
          cases hD2
        have s5 := uL s4
        have hL5 : (upd H4 D (.dK kvs)) D2 = some (.lst (refV ts)) := (upd_ne neD).trans ht
        have hT5 : ∀ j t, ts[j]? = some t → ∃ n z v, kvs[j]? = some (Sum.inr z, v) ∧ (upd H4 D (.dK kvs)) t = some (.tup [.int n, .str z]) := fun j t hj => by
          obtain ⟨n, z, v, h1, h2⟩ := hts j t hj
          refine ⟨n, z, v, h1, ?_⟩
          rw [upd_ne]
          · exact h2
          · intro e
            rw [e, s4 _ _ dL] at h2
            cases h2
        have d5 : (upd H4 D (.dK kvs)) D = some (.dK kvs) := upd_same
        generalize upd H4 D (.dK kvs) = H5 at s5 hL5 hT5 d5 ⊢
        refine ⟨D2, refV ts, rfl, SqL.of hL5, fun x hx => ?_, fun ys p2 hperm hp2 => ?_⟩
        · obtain ⟨t, ht', rfl⟩ := List.mem_map.mp hx
          obtain ⟨j, hj, e⟩ := List.getElem_of_mem ht'
          obtain ⟨n, z, v, h1, h2⟩ := hT5 j t (by rw [List.getElem?_eq_getElem hj, e])
          exact ⟨t, n, z, rfl, SqT.of h2⟩
        · have s6 : Same H5 (upd H5 p2 (.lst ys)) := same_new hp2
          generalize hH6 : upd H5 p2 (.lst ys) = H6 at s6 ⊢
          have p6 : H6 p2 = some (.lst ys) := by
            rw [← hH6]
            exact upd_same
          have hyl : ys.length = kvs.length := by
            rw [hperm.length_eq, List.length_map]
            exact htl
          -- what stands in the sorted list
          have hys : ∀ y ∈ ys, ∃ t n z b, y = .ref t ∧ H6 t = some (.tup [.int n, .str z]) ∧ valV kvs (.inr z) = some (.ref b) := fun y hy => by
            obtain ⟨t, ht', rfl⟩ := List.mem_map.mp (hperm.mem_iff.mp hy)
            obtain ⟨j, hj, e⟩ := List.getElem_of_mem ht'
            obtain ⟨n, z, v, h1, h2⟩ := hT5 j t (by rw [List.getElem?_eq_getElem hj, e])
            obtain ⟨G, b, _, e2, _, _⟩ := ft.ent _ _ (List.mem_of_getElem? h1)
            exact ⟨t, n, z, b, rfl, s6 _ _ h2, by rw [← e2]; exact mem_valV ft.nd (List.mem_of_getElem? h1)⟩
          refine ⟨_, rfl, p2, rfl, ⟨_, SqL.of p6⟩, fun D3 hD3 => ?_⟩
          refine lc_list (K := K) (xs := ys) (fun i H' => Same H6 H' ∧ ∃ bs : List Addr, H' D3 = some (.lst (refV bs)) ∧ bs.length = i ∧ ∀ j b, bs[j]? = some b → ∃ t n z, ys[j]? = some (.ref t) ∧ H6 t = some (.tup [.int n, .str z]) ∧ valV kvs (.inr z) = some (.ref b))
            ⟨same_new hD3, [], upd_same, rfl, fun (j : Nat) (t : Addr) h => absurd (show ([] : List Addr)[j]? = some t from h) (by simp)⟩ (fun i H' _ p => SqL.of (p.1 _ _ p6)) ?_ ?_
          · rintro i x H7 hx ⟨s7, bs, hb, hbl, hbs⟩
            obtain ⟨t, n, z, b, rfl, ht6, hv⟩ := hys x (List.mem_of_getElem? hx)
            have hi : i < ys.length := (List.getElem?_eq_some_iff.mp hx).1
            refine ⟨t, _, rfl, SqT.of (s7 _ _ ht6), rfl, _, _, rfl, _, _, rfl, rfl, rfl, _, rfl, _, rfl, D, _, rfl, .inl ⟨kvs, .inr z, .inl (s7 _ _ (s6 _ _ d5)), rfl, hv.symm⟩, ?_⟩
            refine ⟨_, hb, sl2 (by rw [List.length_map]; omega), same_upd s7 hD3, bs ++ [b], ?_, by simp [hbl], fun j b' hj => ?_⟩
            · rw [upd_same]
              simp [refV]
            · by_cases e : j < bs.length
              · rw [List.getElem?_append_left e] at hj
                exact hbs j b' hj
              · rw [List.getElem?_append_right (by omega)] at hj
                have e2 : j = bs.length := by
                  rcases Nat.lt_or_ge (j - bs.length) 1 with h | h
                  · omega
                  · rw [List.getElem?_eq_none (by simpa using h)] at hj
                    cases hj
                subst e2
                have e3 : b' = b := by simpa using hj.symm
                subst e3
                exact ⟨t, n, z, by rw [hbl]; exact hx, ht6, hv⟩
          · rintro H7 ⟨s7, bs, hb, hbl, hbs⟩
            refine ⟨D3, refV bs, rfl, .inl ⟨SqL.of hb, fun l hl' => ?_⟩⟩
            have sF : Same H1 (upd H7 l (.tup (refV bs))) := fun c o h => by
              have h3 : H3 c = some o := s3 _ _ h
              exact same_upd s7 (same_none s7 hl') _ _ (s6 _ _ (s5 _ _ h3))
            have get : ∀ b, b ∈ bs → ∃ G ∈ subs F, FmAt K (upd H7 l (.tup (refV bs))) b G := fun b hb' => by
              obtain ⟨j, hj, e⟩ := List.getElem_of_mem hb'
              obtain ⟨t, n, z, _, _, hv⟩ := hbs j b (by rw [List.getElem?_eq_getElem hj, e])
              obtain ⟨G, b2, e1, e2, fm, hG⟩ := ft.ent _ _ (valV_mem hv)
              injection e2 with e2
              subst e2
              exact ⟨G, hG, fm.same sF⟩
            refine q l bs _ (s1.trans sF) (same_none s1 (same_none ((s3.trans s5).trans (s6.trans s7)) hl')) upd_same (by omega) (fun G hG => ?_) get
            obtain ⟨b, hv⟩ := hasG G hG
            obtain ⟨j, hj, e⟩ := List.getElem_of_mem (valV_mem hv)
            have hj2 : j < ts.length := by omega
            obtain ⟨n, z, v, h1, h2⟩ := hT5 j ts[j] (List.getElem?_eq_getElem hj2)
            rw [List.getElem?_eq_getElem hj, e] at h1
            injection h1 with h1
            injection h1 with h1 _
            injection h1 with h1
            subst h1
            obtain ⟨j2, hj3, e3⟩ := List.getElem_of_mem (hperm.mem_iff.mpr (List.mem_map.mpr ⟨ts[j], List.getElem_mem hj2, rfl⟩))
            have hj4 : j2 < bs.length := by omega
            obtain ⟨t', n', z', h4, h5, h6⟩ := hbs j2 bs[j2] (List.getElem?_eq_getElem hj4)
            rw [List.getElem?_eq_getElem hj3, e3] at h4
            injection h4 with h4
            injection h4 with h4
            subst h4
            rw [s6 _ _ h2] at h5
            injection h5 with h5
            injection h5 with h5
            injection h5 with _ h5
            injection h5 with h5
            injection h5 with h5
            subst h5
            obtain ⟨G', b2, e1, e2, fm, hG'⟩ := ft.ent _ _ (valV_mem h6)
            injection e1 with e1
            have eG := txt_inj (subs_leafs hl G hG) (subs_leafs hl G' hG') e1
            subst eG
            refine ⟨bs[j2], List.getElem_mem hj4, ?_⟩
            injection e2 with e2
            rw [e2]
            exact fm.same sF
end
end K8
end

section
set_option Elab.async false
set_option linter.all false
/-! Roots in a list of things above. No program in sight. -/
namespace KM
def rt (ab : List Nat) (x : Nat) : Nat := if h : ab.getD x x < x then rt ab (ab.getD x x) else x
termination_by x
/-- nothing stands above a greater thing -/
def Dn (ab : List Nat) : Prop := ∀ (i y : Nat), ab[i]? = some y → y ≤ i
theorem getD_of {ab : List Nat} {x y d : Nat} (h : ab[x]? = some y) : ab.getD x d = y := by
  rw [List.getD_eq_getElem?_getD, h]
  rfl
theorem rt_self {ab : List Nat} {x : Nat} (h : ab[x]? = some x) : rt ab x = x := by
  rw [rt, dif_neg]
  rw [getD_of h]
  exact Nat.lt_irrefl _
theorem rt_step {ab : List Nat} (dn : Dn ab) {x y : Nat} (h : ab[x]? = some y) : rt ab x = rt ab y := by
  rcases Nat.lt_or_ge y x with q | q
  · rw [rt, dif_pos (by rw [getD_of h]; exact q), getD_of h]
  · have e : y = x := Nat.le_antisymm (dn _ _ h) q
    rw [e]
theorem rt_root {ab : List Nat} (dn : Dn ab) : ∀ {x : Nat}, x < ab.length → ab[rt ab x]? = some (rt ab x) ∧ rt ab x ≤ x := by
  intro x
  induction x using Nat.strongRecOn with
  | ind x ih =>
    intro hx
    have h := List.getElem?_eq_getElem hx
    rcases Nat.lt_or_ge ab[x] x with q | q
    · rw [rt_step dn h]
      obtain ⟨a, b⟩ := ih _ q (Nat.lt_trans q hx)
      exact ⟨a, Nat.le_trans b (Nat.le_of_lt q)⟩
    · have e : ab[x] = x := Nat.le_antisymm (dn _ _ h) q
      rw [e] at h
      rw [rt_self h]
      exact ⟨h, Nat.le_refl _⟩
theorem rt_lt {ab : List Nat} (dn : Dn ab) {x : Nat} (hx : x < ab.length) : rt ab x < ab.length := Nat.lt_of_le_of_lt (rt_root dn hx).2 hx
theorem rt_rt {ab : List Nat} (dn : Dn ab) {x : Nat} (hx : x < ab.length) : rt ab (rt ab x) = rt ab x := rt_self (rt_root dn hx).1
/-- two roots made one -/
def mrg (ab : List Nat) (r s : Nat) : List Nat := ab.set (max r s) (min r s)
theorem mrg_len (ab : List Nat) (r s : Nat) : (mrg ab r s).length = ab.length := List.length_set ..
theorem mrg_dn {ab : List Nat} (dn : Dn ab) {r s : Nat} : Dn (mrg ab r s) := by
  intro i y h
  unfold mrg at h
  by_cases e : max r s = i
  · subst e
    rw [List.getElem?_set_self'] at h
    cases q : ab[max r s]? with
    | none =>
      rw [q] at h
      cases h
    | some z =>
      rw [q] at h
      have e : min r s = y := Option.some.inj h
      omega
  · rw [List.getElem?_set_ne e] at h
    exact dn i y h
theorem rt_mrg {ab : List Nat} (dn : Dn ab) {r s : Nat} (hr : ab[r]? = some r) (hs : ab[s]? = some s) : ∀ {x : Nat}, x < ab.length → rt (mrg ab r s) x = if rt ab x = max r s then min r s else rt ab x := by
  have hrl : r < ab.length := (List.getElem?_eq_some_iff.mp hr).1
  have hsl : s < ab.length := (List.getElem?_eq_some_iff.mp hs).1
  have hM : ab[max r s]? = some (max r s) := by
    rcases Nat.le_total r s with q | q
    · rw [Nat.max_eq_right q]
      exact hs
    · rw [Nat.max_eq_left q]
      exact hr
  have hm : ab[min r s]? = some (min r s) := by
    rcases Nat.le_total r s with q | q
    · rw [Nat.min_eq_left q]
      exact hr
    · rw [Nat.min_eq_right q]
      exact hs
  have hMl : max r s < ab.length := by omega
  have a1 : (mrg ab r s)[max r s]? = some (min r s) := by
    unfold mrg
    rw [List.getElem?_set_self hMl]
  have a2 : (mrg ab r s)[min r s]? = some (min r s) := by
    by_cases e : max r s = min r s
    · rw [← e] at a1 ⊢
      exact a1
    · unfold mrg
      rw [List.getElem?_set_ne e]
      exact hm
  intro x
  induction x using Nat.strongRecOn with
  | ind x ih =>
    intro hx
    by_cases e : x = max r s
    · subst e
      rw [rt_step (mrg_dn dn) a1, rt_self a2, rt_self hM, if_pos rfl]
    · have h := List.getElem?_eq_getElem hx
      have h' : (mrg ab r s)[x]? = some ab[x] := by
        unfold mrg
        rw [List.getElem?_set_ne (Ne.symm e)]
        exact h
      rw [rt_step (mrg_dn dn) h', rt_step dn h]
      rcases Nat.lt_or_ge ab[x] x with q | q
      · exact ih _ q (Nat.lt_trans q hx)
      · have e2 : ab[x] = x := Nat.le_antisymm (dn _ _ h) q
        rw [e2] at h h' ⊢
        rw [rt_self h, rt_self h', if_neg e]
theorem sum_set : ∀ (l : List Nat) (i v w : Nat), l[i]? = some w → (l.set i v).sum + w = l.sum + v
  | [], i, v, w, h => by cases h
  | x :: l, 0, v, w, h => by
    have e : x = w := Option.some.inj h
    simp only [List.set_cons_zero, List.sum_cons]
    omega
  | x :: l, i + 1, v, w, h => by
    have ih := sum_set l i v w h
    simp only [List.set_cons_succ, List.sum_cons]
    omega
theorem mrg_sum {ab : List Nat} {r s : Nat} (hr : ab[r]? = some r) (hs : ab[s]? = some s) : (mrg ab r s).sum ≤ ab.sum ∧ (r ≠ s → (mrg ab r s).sum < ab.sum) := by
  have hM : ab[max r s]? = some (max r s) := by
    rcases Nat.le_total r s with q | q
    · rw [Nat.max_eq_right q]
      exact hs
    · rw [Nat.max_eq_left q]
      exact hr
  have h := sum_set ab _ (min r s) _ hM
  unfold mrg
  refine ⟨by omega, fun e => by omega⟩
theorem mrg_same {ab : List Nat} {r : Nat} (hr : ab[r]? = some r) : mrg ab r r = ab := by
  unfold mrg
  rw [Nat.max_self, Nat.min_self]
  apply List.ext_getElem?
  intro i
  by_cases e : r = i
  · subst e
    rw [List.getElem?_set_self (List.getElem?_eq_some_iff.mp hr).1, hr]
  · rw [List.getElem?_set_ne e]
/-- whatever stands under one root is so related -/
def Snd (R : Nat → Nat → Prop) (ab : List Nat) : Prop := ∀ x, x < ab.length → R x (rt ab x)
structure Equ (R : Nat → Nat → Prop) : Prop where
  refl : ∀ a, R a a
  symm : ∀ {a b}, R a b → R b a
  trans : ∀ {a b c}, R a b → R b c → R a c
theorem Snd.eq {R : Nat → Nat → Prop} (q : Equ R) {ab : List Nat} (h : Snd R ab) {x y : Nat} (hx : x < ab.length) (hy : y < ab.length) (e : rt ab x = rt ab y) : R x y := by
  have a := h x hx
  rw [e] at a
  exact q.trans a (q.symm (h y hy))
theorem Snd.mrg {R : Nat → Nat → Prop} (q : Equ R) {ab : List Nat} (dn : Dn ab) (h : Snd R ab) {x y : Nat} (hx : x < ab.length) (hy : y < ab.length) (e : R x y) : Snd R (mrg ab (rt ab x) (rt ab y)) := by
  intro z hz
  rw [mrg_len] at hz
  rw [rt_mrg dn (rt_root dn hx).1 (rt_root dn hy).1 hz]
  have e2 : R (rt ab x) (rt ab y) := q.trans (q.symm (h x hx)) (q.trans e (h y hy))
  split
  · rename_i w
    have a := h z hz
    rw [w] at a
    refine q.trans a ?_
    rcases Nat.le_total (rt ab x) (rt ab y) with c | c
    · rw [Nat.max_eq_right c, Nat.min_eq_left c]
      exact q.symm e2
    · rw [Nat.max_eq_left c, Nat.min_eq_right c]
      exact e2
  · exact h z hz
/-- what was equal stays equal; the two are equal -/
theorem mrg_mono {ab : List Nat} (dn : Dn ab) {r s x y : Nat} (hr : ab[r]? = some r) (hs : ab[s]? = some s) (hx : x < ab.length) (hy : y < ab.length) (e : rt ab x = rt ab y) : rt (mrg ab r s) x = rt (mrg ab r s) y := by
  rw [rt_mrg dn hr hs hx, rt_mrg dn hr hs hy, e]
theorem mrg_eq {ab : List Nat} (dn : Dn ab) {x y : Nat} (hx : x < ab.length) (hy : y < ab.length) : rt (mrg ab (rt ab x) (rt ab y)) x = rt (mrg ab (rt ab x) (rt ab y)) y := by
  have a := (rt_root dn hx).1
  have b := (rt_root dn hy).1
  rw [rt_mrg dn a b hx, rt_mrg dn a b hy]
  by_cases c1 : rt ab x = max (rt ab x) (rt ab y)
  · rw [if_pos c1]
    by_cases c2 : rt ab y = max (rt ab x) (rt ab y)
    · rw [if_pos c2]
    · rw [if_neg c2]
      omega
  · rw [if_neg c1, if_pos (by omega)]
    omega
theorem range_dn (n : Nat) : Dn (List.range n) := by
  intro i y h
  obtain ⟨a, b⟩ := List.getElem?_eq_some_iff.mp h
  rw [List.getElem_range] at b
  omega
theorem range_rt (n x : Nat) (hx : x < n) : rt (List.range n) x = x := rt_self (by simp [hx])
theorem range_sum : ∀ n, (List.range n).sum ≤ n * n
  | 0 => Nat.le_refl _
  | n + 1 => by
    have ih := range_sum n
    rw [List.range_succ, List.sum_append]
    simp only [List.sum_cons, List.sum_nil]
    rw [Nat.add_mul, Nat.mul_add]
    omega
theorem eqv_equ {L : Lot} {calm : Bool} {ops : List T3} {ini : List (Nat × Nat)} : Equ (Eqv L calm ops ini) := ⟨.refl, .symm, .trans⟩
end KM
end

section
set_option Elab.async false
set_option linter.all false
set_option maxRecDepth 100000
set_option maxHeartbeats 4000000
/-! Closed tables: made, roots, merging. -/
namespace K8
open PySem PySem.Spec PyProof.Rows L2
open KM (T3 nth rt Dn mrg)
abbrev natV (ab : List Nat) : List V := ab.map fun n : Nat => V.int (n : Int)
theorem natV_at {ab : List Nat} {x y : Nat} (h : ab[x]? = some y) : atI (natV ab) (x : Int) = some (V.int (y : Int)) := atI_nat (by
  rw [List.getElem?_map, h]
  rfl)
theorem ixNn {n j : Nat} (hj : j < n) : ixN n (j : Int) = some j := by
  unfold ixN
  rw [if_pos (by omega), if_pos (by omega)]
  simp
/-- the image of a triple by a turn -/
def tn (o s : T3) : T3 := (nth o s.1, nth o s.2.1, nth o s.2.2)
theorem t3V_at {o : T3} {p : Nat} (hp : p < 3) : atI (t3V o) (p : Int) = some (V.int (nth o p : Nat)) := by
  refine atI_nat ?_
  match p, hp with
  | 0, _ => rfl
  | 1, _ => rfl
  | 2, _ => rfl
/-! ### the object -/
def fsCl (k : Addr) (n : Nat) (o b t : Addr) : List (Str × V) := [("kind", .ref k), ("size", .int n), ("operations", .ref o), ("above", .ref b), ("trail", .ref t)]
section
variable (k : Addr) (n : Nat) (o b t : Addr)
theorem fsCl_kind : (fsCl k n o b t).lookup ("kind" : Str) = some (.ref k) := by kernel_rfl
theorem fsCl_operations : (fsCl k n o b t).lookup ("operations" : Str) = some (.ref o) := by kernel_rfl
theorem fsCl_above : (fsCl k n o b t).lookup ("above" : Str) = some (.ref b) := by kernel_rfl
theorem fsCl_trail : (fsCl k n o b t).lookup ("trail" : Str) = some (.ref t) := by kernel_rfl
theorem fsCl_root : (fsCl k n o b t).lookup ("root" : Str) = none := by kernel_rfl
theorem fsCl_same : (fsCl k n o b t).lookup ("same" : Str) = none := by kernel_rfl
theorem fsCl_merge : (fsCl k n o b t).lookup ("merge" : Str) = none := by kernel_rfl
theorem fsCl_close : (fsCl k n o b t).lookup ("close" : Str) = none := by kernel_rfl
theorem fsCl_entered : (fsCl k n o b t).lookup ("entered" : Str) = none := by kernel_rfl
theorem fsCl_got : (fsCl k n o b t).lookup ("got" : Str) = none := by kernel_rfl
theorem fsCl_put : putF "trail" (.ref t) (putF "above" (.ref b) (putF "operations" (.ref o) (putF "size" (.int n) (putF "kind" (.ref k) [])))) = fsCl k n o b t := by kernel_rfl
end
/-- the things that a closing object has -/
structure CA where
  k : Addr
  n : Nat
  o : Addr
  b : Addr
  t : Addr
/-- tuples of triples -/
def T3s (H : Hp) (os : List Addr) (ops : List T3) : Prop := os.length = ops.length ∧ ∀ (i : Nat) (a : Addr) (o : T3), os[i]? = some a → ops[i]? = some o → H a = some (.tup (t3V o))
structure CloAt (K : PySem.W.Frag) (H : Hp) (a : Addr) (c : CA) (L : KM.Lot) (calm : Bool) (ops : List T3) (ab : List Nat) (tl : Nat) : Prop where
  obj : ∃ dx, H a = some (.ins (CClosing K) dx (fsCl c.k c.n c.o c.b c.t))
  kind : KindAt K H c.k L calm
  ops_ : ∃ os, H c.o = some (.lst (refV os)) ∧ T3s H os ops
  abv : H c.b = some (.lst (natV ab))
  trl : ∃ tr, H c.t = some (.lst tr) ∧ tr.length = tl
  ob : c.o ≠ c.b
  ot : c.o ≠ c.t
  bt : c.b ≠ c.t
section
variable {K : PySem.W.Frag} {H H' : Hp} {a : Addr} {c : CA} {L : KM.Lot} {calm : Bool} {ops : List T3} {ab ab' : List Nat} {tl : Nat}
/-- the same object when nothing but its two lists has changed -/
theorem CloAt.kp (C : CloAt K H a c L calm ops ab tl) (e : Kp [c.b, c.t] H H') (hb : H' c.b = some (.lst (natV ab'))) {tr : List V} (ht : H' c.t = some (.lst tr)) : CloAt K H' a c L calm ops ab' tr.length := by
  have ni : ∀ {x : Addr} {o : HO}, H x = some o → (∀ xs, o ≠ .lst xs) → x ∉ [c.b, c.t] := fun {x o} h n m => by
    rcases List.mem_cons.mp m with q | m
    · rw [q, C.abv] at h
      exact n _ (Option.some.inj h).symm
    · have q : x = c.t := by simpa using m
      obtain ⟨tr, h2, _⟩ := C.trl
      rw [q, h2] at h
      exact n _ (Option.some.inj h).symm
  obtain ⟨dx, h1⟩ := C.obj
  obtain ⟨dk, h2⟩ := C.kind
  obtain ⟨os, h3, h4, h5⟩ := C.ops_
  exact ⟨⟨dx, e _ _ h1 (ni h1 fun xs z => by cases z)⟩, ⟨dk, e _ _ h2 (ni h2 fun xs z => by cases z)⟩, ⟨os, e _ _ h3 (by simp [C.ob, C.ot]), h4, fun i x o ha ho => e _ _ (h5 i x o ha ho) (ni (h5 i x o ha ho) fun xs z => by cases z)⟩, hb, ⟨tr, ht, rfl⟩, C.ob, C.ot, C.bt⟩
theorem CloAt.same (C : CloAt K H a c L calm ops ab tl) (e : Same H H') : CloAt K H' a c L calm ops ab tl := by
  obtain ⟨tr, h, rfl⟩ := C.trl
  exact C.kp e.kp (e _ _ C.abv) (e _ _ h)
end
section
variable {P : Program} {w : World} {K : PySem.W.Frag} {mg : Str → Option Value} {base : Heap}
/-! ### turned -/
def spTurned (K : PySem.W.Frag) : Sp := fun vs H Q _ => ∃ (a b : Addr) (L : KM.Lot) (o s : T3), vs = [.ref a, .ref b] ∧ SqT K H a (t3V o) ∧ SqT K H b (t3V s) ∧ s ∈ L.turns ∧ ∀ p, H p = none → Q (.ref p) (upd H p (.tup (t3V (tn o s))))
abbrev N_turned : List Str := ["triple", "turn"]
theorem sc_turned : FnScope N_turned ["triple", "turn"] (defScope s_turned) := ⟨rfl, rfl, rfl, by decide +kernel, rfl, by decide +kernel, by decide +kernel⟩
-- slots: 0 triple, 1 turn
theorem ok_turned (T : Tx w K mg) : Ok P w K mg base 1 (a_turned K) ["triple", "turn"] [] (spTurned K) := by
  refine Ok.of T.f_turned (fun z F => okBody F sc_turned (fun vs H Q E h => ?_) fun cdv A outer s H vs Q E hr h => ?_) rfl fun _ _ _ _ _ _ us hl => match us, hl with | [_, _], _ => rfl
  · obtain ⟨a, b, L, o, s, rfl, _⟩ := h
    rfl
  · obtain ⟨a, b, L, o, s, rfl, ha, hb, hs, q⟩ := h
    have l0 : s.1 < 3 := KM.turn_lt L s hs 0
    have l1 : s.2.1 < 3 := KM.turn_lt L s hs 1
    have l2 : s.2.2 < 3 := KM.turn_lt L s hs 2
    refine ⟨_, (pss_one (ps_ret (pe_tup (pa_cons (pe_ix ix_tup (pv 0) (pe_ix ix_tup (pv 1) pe_int (fun _ _ => rfl)) (fun _ _ => rfl)) (pa_cons (pe_ix ix_tup (pv 0) (pe_ix ix_tup (pv 1) pe_int (fun _ _ => rfl)) (fun _ _ => rfl)) (pa_cons (pe_ix ix_tup (pv 0) (pe_ix ix_tup (pv 1) pe_int (fun _ _ => rfl)) (fun _ _ => rfl)) pa_nil)))))), ?_⟩
    refine ⟨_, rfl, _, rfl, b, _, _, _, rfl, rfl, hb, t3V_at (p := 0) (by decide), a, _, _, _, rfl, rfl, ha, t3V_at l0, ?_⟩
    refine ⟨_, rfl, _, rfl, b, _, _, _, rfl, rfl, hb, t3V_at (p := 1) (by decide), a, _, _, _, rfl, rfl, ha, t3V_at l1, ?_⟩
    refine ⟨_, rfl, _, rfl, b, _, _, _, rfl, rfl, hb, t3V_at (p := 2) (by decide), a, _, _, _, rfl, rfl, ha, t3V_at l2, ?_⟩
    exact ⟨by show 3 ≤ sizeLine; decide, q⟩
/-! ### made -/
def spClInit (K : PySem.W.Frag) : Sp := fun vs H Q _ => ∃ (a dx k l : Addr) (n : Nat) (os : List Addr) (ops : List T3) (L : KM.Lot) (calm : Bool) (H0 : Hp), vs = [.ref a, .ref k, .int (n : Nat), .ref l] ∧ H0 a = none ∧ Same H0 H ∧ H a = some (.ins (CClosing K) dx []) ∧
  KindAt K H0 k L calm ∧ H0 l = some (.lst (refV os)) ∧ T3s H0 os ops ∧ n ≤ 1000 ∧
  ∀ H' c, Same H0 H' → CloAt K H' a c L calm ops (List.range n) 0 → H0 c.b = none → H0 c.t = none → Q .non H'
abbrev N_Closing_init : List Str := ["self", "kind", "size", "operations"]
theorem sc_Closing_init : FnScope N_Closing_init ["self", "kind", "size", "operations"] (defScope s_Closing_init) := ⟨rfl, rfl, rfl, by decide +kernel, rfl, by decide +kernel, by decide +kernel⟩
-- slots: 0 self, 1 kind, 2 size, 3 operations
theorem ok_Closing_init (T : Tx w K mg) : Ok P w K mg base 1 (a_Closing_init K) ["self", "kind", "size", "operations"] [] (spClInit K) := by
  refine Ok.of T.f_Closing_init (fun z F => okBody F sc_Closing_init (fun vs H Q E h => ?_) fun cdv A outer s H vs Q E hr h => ?_) rfl fun _ _ _ _ _ _ us hl => match us, hl with | [_, _, _, _], _ => rfl
  · obtain ⟨a, dx, k, l, n, os, ops, L, calm, H0, rfl, _⟩ := h
    rfl
  · obtain ⟨a, dx, k, l, n, os, ops, L, calm, H0, rfl, h0, sm, ha, hk, hl, ho, hn, q⟩ := h
    refine ⟨_, (pss_cons (ps_fld (pv 0) (pv 1) rfl)
 (pss_cons (ps_fld (pv 0) (pv 2) rfl)
 (pss_cons (ps_fld (pv 0) (pe_callTy call_list_of (by rfl) T.b_list (by decide +kernel) (pa_cons (pv 3) pa_nil)) rfl)
 (pss_cons (ps_fld (pv 0) (pe_listRg rfl (by rfl) T.b_list (prg_1 (by rfl) T.b_range (pv 2))) rfl)
 (pss_one (ps_fld (pv 0) (pe_lst pa_nil) rfl)))))), ?_⟩
    refine ⟨_, rfl, _, rfl, a, _, dx, [], rfl, ha, T.cl_Closing, T.na_Closing_kind, plM pl0 (by decide), ?_⟩
    refine ⟨_, rfl, _, rfl, a, _, dx, _, rfl, upd_same, T.cl_Closing, T.na_Closing_size, plM (plS pl0) (by decide), ?_⟩
    generalize hH2 : upd (upd H a _) a _ = H2
    have a2 := (congrFun hH2 a).symm.trans upd_same
    have s2 : Same H0 H2 := by
      rw [← hH2]
      exact same_upd (same_upd sm h0) h0
    refine ⟨_, rfl, l, _, rfl, .inl (SqL.of (s2 _ _ hl)), fun po hpo => ?_⟩
    have ne : ∀ {q : Addr} {G : Hp} {o : HO}, G a = some o → G q = none → q ≠ a := fun {q G o} e n z => by
      rw [z, e] at n
      cases n
    have n1 := ne a2 hpo
    have po0 := same_none s2 hpo
    refine ⟨_, rfl, a, _, dx, _, rfl, (upd_ne n1.symm).trans a2, T.cl_Closing, T.na_Closing_operations, plM (plS (plS pl0)) (by decide), ?_⟩
    generalize hH3 : upd (upd H2 po _) a _ = H3
    have a3 := (congrFun hH3 a).symm.trans upd_same
    have s3 : Same H0 H3 := by
      rw [← hH3]
      exact same_upd (same_upd s2 po0) h0
    have o3 : H3 po = some (.lst (refV os)) := by
      rw [← hH3, upd_ne n1, upd_same]
    refine ⟨_, rfl, _, rfl, RgOk.of_le (by omega) (by omega) (by omega) (by omega), fun pb hpb => ?_⟩
    have n2 := ne a3 hpb
    have pb0 := same_none s3 hpb
    refine ⟨_, rfl, a, _, dx, _, rfl, (upd_ne n2.symm).trans a3, T.cl_Closing, T.na_Closing_above, plM (plS (plS (plS pl0))) (by decide), ?_⟩
    generalize hH4 : upd (upd H3 pb _) a _ = H4
    have a4 := (congrFun hH4 a).symm.trans upd_same
    have s4 : Same H0 H4 := by
      rw [← hH4]
      exact same_upd (same_upd s3 pb0) h0
    have npo : po ≠ pb := fun e => by
      rw [← e, o3] at hpb
      cases hpb
    have o4 : H4 po = some (.lst (refV os)) := by
      rw [← hH4, upd_ne n1, upd_ne npo]
      exact o3
    have b4 : H4 pb = some (.lst (natV (List.range n))) := by
      rw [← hH4, upd_ne n2, upd_same]
      unfold rgV natV
      simp
    refine ⟨by show 0 ≤ sizeLine; decide, fun pt hpt => ?_⟩
    have n3 := ne a4 hpt
    have pt0 := same_none s4 hpt
    have not_ : po ≠ pt := fun e => by
      rw [← e, o4] at hpt
      cases hpt
    have nbt : pb ≠ pt := fun e => by
      rw [← e, b4] at hpt
      cases hpt
    refine ⟨_, rfl, a, _, dx, _, rfl, (upd_ne n3.symm).trans a4, T.cl_Closing, T.na_Closing_trail, plM (plS (plS (plS (plS pl0)))) (by decide), ?_⟩
    have s5 : Same H0 (upd (upd H4 pt (.lst [])) a (.ins (CClosing K) dx (fsCl k n po pb pt))) := same_upd (same_upd s4 pt0) h0
    refine q _ ⟨k, n, po, pb, pt⟩ s5 ⟨⟨dx, ?_⟩, ?_, ⟨os, ?_, ?_⟩, ?_, ⟨[], ?_, rfl⟩, npo, not_, nbt⟩ pb0 pt0
    · exact upd_same
    · obtain ⟨dk, h⟩ := hk
      exact ⟨dk, s5 _ _ h⟩
    · show upd (upd H4 pt _) a _ po = _
      rw [upd_ne n1, upd_ne not_]
      exact o4
    · exact ⟨ho.1, fun i x o h1 h2 => s5 _ _ (ho.2 i x o h1 h2)⟩
    · show upd (upd H4 pt _) a _ pb = _
      rw [upd_ne n2, upd_ne nbt]
      exact b4
    · show upd (upd H4 pt _) a _ pt = _
      rw [upd_ne n3, upd_same]
/-! ### root, same, merge -/
def spRoot (K : PySem.W.Frag) : Sp := fun vs H Q _ => ∃ (a : Addr) (c : CA) (L : KM.Lot) (calm : Bool) (ops : List T3) (ab : List Nat) (tl x : Nat), vs = [.ref a, .int (x : Nat)] ∧ CloAt K H a c L calm ops ab tl ∧ Dn ab ∧ x < ab.length ∧ Q (.int (rt ab x : Nat)) H
abbrev N_Closing_root : List Str := ["self", "thing"]
theorem sc_Closing_root : FnScope N_Closing_root ["self", "thing"] (defScope s_Closing_root) := ⟨rfl, rfl, rfl, by decide +kernel, rfl, by decide +kernel, by decide +kernel⟩
-- slots: 0 self, 1 thing
theorem ok_Closing_root (T : Tx w K mg) : Ok P w K mg base 1 (a_Closing_root K) ["self", "thing"] [] (spRoot K) := by
  refine Ok.of T.f_Closing_root (fun z F => okBody F sc_Closing_root (fun vs H Q E h => ?_) fun cdv A outer s H vs Q E hr h => ?_) rfl fun _ _ _ _ _ _ us hl => match us, hl with | [_, _], _ => rfl
  · obtain ⟨a, c, L, calm, ops, ab, tl, x, rfl, _⟩ := h
    rfl
  · obtain ⟨a, c, L, calm, ops, ab, tl, x, rfl, C, dn, hx, q⟩ := h
    obtain ⟨dx, ha⟩ := C.obj
    refine ⟨_, (pss_cons (ps_while PassesOwn.never (pt_cmpR op_ne (pe_ix ix_list (pe_fld (pv 0) rfl) (pv 1) (fun _ _ => rfl)) (pv 1) (nomark _)) (pss_one (ps_set (i := 1) sc_Closing_root.nd rfl (by first | exact Or.inl rfl | exact Or.inr rfl) (pe_ix ix_list (pe_fld (pv 0) rfl) (pv 1) (fun _ _ => rfl)))))
 (pss_one (ps_ret (pv 1)))), ?_⟩
    refine ⟨fun m σ H' => H' = H ∧ ∃ y : Nat, m = y ∧ σ = [some (.ref a), some (.int (y : Nat))] ∧ y < ab.length ∧ rt ab y = rt ab x, ⟨x, rfl, x, rfl, rfl, hx, rfl⟩, ?_⟩
    rintro y σ H' ⟨rfl, _, rfl, rfl, hy, e⟩
    have hy2 := List.getElem?_eq_getElem hy
    refine ⟨_, rfl, a, _, dx, _, _, rfl, ha, T.cl_Closing, T.na_Closing_above, fsCl_above .., _, rfl, c.b, _, _, _, rfl, rfl, SqL.of C.abv, natV_at hy2, _, rfl, rfl, ?_⟩
    by_cases e2 : ab[y] = y
    · refine ⟨false, blNF (by rw [e2]), iteF ?_⟩
      refine ⟨_, rfl, ?_⟩
      rw [e2] at hy2
      rw [KM.rt_self hy2] at e
      rw [e]
      exact q
    · have lt : ab[y] < y := Nat.lt_of_le_of_ne (dn _ _ hy2) e2
      refine ⟨true, blNT (fun z => e2 (by injection z with z; omega)), iteT ⟨fun σ' H'' => H'' = H' ∧ σ' = [some (.ref a), some (.int (ab[y] : Nat))], fun σ' H'' ⟨e3, e4⟩ => ⟨ab[y], lt, e3, ab[y], rfl, e4, Nat.lt_trans lt hy, by rw [← e, KM.rt_step dn hy2]⟩, ?_⟩⟩
      exact ⟨_, rfl, a, _, dx, _, _, rfl, ha, T.cl_Closing, T.na_Closing_above, fsCl_above .., _, rfl, c.b, _, _, _, rfl, rfl, SqL.of C.abv, natV_at hy2, rfl, rfl⟩
def spSame (K : PySem.W.Frag) : Sp := fun vs H Q _ => ∃ (a : Addr) (c : CA) (L : KM.Lot) (calm : Bool) (ops : List T3) (ab : List Nat) (tl x y : Nat), vs = [.ref a, .int (x : Nat), .int (y : Nat)] ∧ CloAt K H a c L calm ops ab tl ∧ Dn ab ∧ x < ab.length ∧ y < ab.length ∧ Q (.bl (decide (rt ab x = rt ab y))) H
abbrev N_Closing_same : List Str := ["self", "one", "other"]
theorem sc_Closing_same : FnScope N_Closing_same ["self", "one", "other"] (defScope s_Closing_same) := ⟨rfl, rfl, rfl, by decide +kernel, rfl, by decide +kernel, by decide +kernel⟩
-- slots: 0 self, 1 one, 2 other
theorem ok_Closing_same (T : Tx w K mg) : Ok P w K mg base 2 (a_Closing_same K) ["self", "one", "other"] [] (spSame K) := by
  obtain ⟨_, _, F_Closing_root, b_Closing_root, v_Closing_root, k_Closing_root⟩ := ok_Closing_root (P := P) (base := base) T
  refine Ok.of T.f_Closing_same (fun z F => okBody F sc_Closing_same (fun vs H Q E h => ?_) fun cdv A outer s H vs Q E hr h => ?_) rfl fun _ _ _ _ _ _ us hl => match us, hl with | [_, _, _], _ => rfl
  · obtain ⟨a, c, L, calm, ops, ab, tl, x, y, rfl, _⟩ := h
    rfl
  · obtain ⟨a, c, L, calm, ops, ab, tl, x, y, rfl, C, dn, hx, hy, q⟩ := h
    obtain ⟨dx, ha⟩ := C.obj
    refine ⟨_, (pss_one (ps_ret (pe_cmpR op_eq (pe_meth (pv 0) T.cl_Closing T.mt_Closing_root F_Closing_root (hr.mono (by decide)) b_Closing_root v_Closing_root pass0 (pa_cons (pv 1) pa_nil)) (pe_meth (pv 0) T.cl_Closing T.mt_Closing_root F_Closing_root (hr.mono (by decide)) b_Closing_root v_Closing_root pass0 (pa_cons (pv 2) pa_nil)) (nomark _)))), ?_⟩
    refine ⟨_, rfl, a, dx, _, rfl, ha, fsCl_root .., _, rfl, a, c, L, calm, ops, ab, tl, x, rfl, C, dn, hx, ?_⟩
    refine ⟨_, rfl, a, dx, _, rfl, ha, fsCl_root .., _, rfl, a, c, L, calm, ops, ab, tl, y, rfl, C, dn, hy, ?_⟩
    refine ⟨rfl, ans (Q := Q) (congrArg V.bl ?_) q⟩
    by_cases e : rt ab x = rt ab y
    · rw [decide_eq_true (by rw [e]), decide_eq_true e]
    · rw [decide_eq_false (fun z => e (by injection z with z; omega)), decide_eq_false e]
def spMerge (K : PySem.W.Frag) : Sp := fun vs H Q _ => ∃ (a : Addr) (c : CA) (L : KM.Lot) (calm : Bool) (ops : List T3) (ab : List Nat) (tl x y : Nat), vs = [.ref a, .int (x : Nat), .int (y : Nat)] ∧ CloAt K H a c L calm ops ab tl ∧ Dn ab ∧ x < ab.length ∧ y < ab.length ∧
  Q (.bl (!decide (rt ab x = rt ab y))) (upd H c.b (.lst (natV (mrg ab (rt ab x) (rt ab y)))))
abbrev N_Closing_merge : List Str := ["self", "one", "other"]
theorem sc_Closing_merge : FnScope N_Closing_merge ["self", "one", "other"] (defScope s_Closing_merge) := ⟨rfl, rfl, rfl, by decide +kernel, rfl, by decide +kernel, by decide +kernel⟩
-- slots: 0 self, 1 one, 2 other
theorem ok_Closing_merge (T : Tx w K mg) : Ok P w K mg base 2 (a_Closing_merge K) ["self", "one", "other"] [] (spMerge K) := by
  obtain ⟨_, _, F_Closing_root, b_Closing_root, v_Closing_root, k_Closing_root⟩ := ok_Closing_root (P := P) (base := base) T
  refine Ok.of T.f_Closing_merge (fun z F => okBody F sc_Closing_merge (fun vs H Q E h => ?_) fun cdv A outer s H vs Q E hr h => ?_) rfl fun _ _ _ _ _ _ us hl => match us, hl with | [_, _, _], _ => rfl
  · obtain ⟨a, c, L, calm, ops, ab, tl, x, y, rfl, _⟩ := h
    rfl
  · obtain ⟨a, c, L, calm, ops, ab, tl, x, y, rfl, C, dn, hx, hy, q⟩ := h
    obtain ⟨dx, ha⟩ := C.obj
    refine ⟨_, (pss_cons (ps_par (i := 1) (j := 2) rfl sc_Closing_merge.nd rfl rfl (by decide) rfl rfl (pa_cons (pe_meth (pv 0) T.cl_Closing T.mt_Closing_root F_Closing_root (hr.mono (by decide)) b_Closing_root v_Closing_root pass0 (pa_cons (pv 1) pa_nil)) (pa_cons (pe_meth (pv 0) T.cl_Closing T.mt_Closing_root F_Closing_root (hr.mono (by decide)) b_Closing_root v_Closing_root pass0 (pa_cons (pv 2) pa_nil)) pa_nil)) (by rfl))
 (pss_cons (ps_asg (pe_callB (call_min2 rfl) (by rfl) T.b_min (by decide +kernel) (pa_cons (pv 1) (pa_cons (pv 2) pa_nil))) (pg_sub (pe_fld (pv 0) rfl) (pe_callB (call_max2 rfl) (by rfl) T.b_max (by decide +kernel) (pa_cons (pv 1) (pa_cons (pv 2) pa_nil))) set_list))
 (pss_one (ps_ret (pe_cmpR op_ne (pv 1) (pv 2) (nomark _)))))), ?_⟩
    refine ⟨_, rfl, a, dx, _, rfl, ha, fsCl_root .., _, rfl, a, c, L, calm, ops, ab, tl, x, rfl, C, dn, hx, ?_⟩
    refine ⟨_, rfl, a, dx, _, rfl, ha, fsCl_root .., _, rfl, a, c, L, calm, ops, ab, tl, y, rfl, C, dn, hy, _, _, rfl, ?_⟩
    have lx := KM.rt_lt dn hx
    have ly := KM.rt_lt dn hy
    generalize rt ab x = r at lx q ⊢
    generalize rt ab y = u at ly q ⊢
    have em : (if (u : Int) < (r : Int) then (u : Int) else (r : Int)) = ((min r u : Nat) : Int) := by
      split <;> omega
    have eM : (if (u : Int) > (r : Int) then (u : Int) else (r : Int)) = ((max r u : Nat) : Int) := by
      split <;> omega
    refine ⟨_, rfl, _, rfl, _, _, rfl, ?_⟩
    refine ⟨_, rfl, a, _, dx, _, _, rfl, ha, T.cl_Closing, T.na_Closing_above, fsCl_above .., ?_⟩
    refine ⟨_, rfl, _, rfl, _, _, rfl, ?_⟩
    rw [em, eM]
    refine ⟨c.b, _, _, max r u, rfl, rfl, C.abv, ixNn (by rw [List.length_map]; omega), ?_⟩
    refine ⟨_, rfl, _, rfl, rfl, ?_⟩
    have e1 : (natV ab).set (max r u) (V.int ((min r u : Nat) : Int)) = natV (mrg ab r u) := by
      unfold natV mrg
      rw [List.map_set]
    rw [e1]
    refine ans (Q := Q) (congrArg V.bl ?_) q
    by_cases e : r = u
    · rw [decide_eq_true (by rw [e]), decide_eq_true e]
    · rw [decide_eq_false (fun z => e (by injection z with z; omega)), decide_eq_false e]
end
end K8
end

section
set_option Elab.async false
set_option linter.all false
set_option maxRecDepth 100000
set_option maxHeartbeats 4000000
/-! Closed tables: one entry, the pass over all. -/
namespace K8
open PySem PySem.Spec PyProof.Rows L2
open KM (T3 nth rt Dn mrg Eqv Snd)
/-! ### plainly: what an entry says -/
def q1 : Nat → Nat
  | 0 => 1
  | _ => 0
def q2 : Nat → Nat
  | 2 => 1
  | _ => 2
theorem q12 : ∀ p : _root_.Fin 3, (q1 p.val < 3 ∧ q2 p.val < 3) ∧ (q1 p.val ≠ p.val ∧ q2 p.val ≠ p.val ∧ q1 p.val ≠ q2 p.val) ∧ ∀ q : _root_.Fin 3, q ≠ p → q.val = q1 p.val ∨ q.val = q2 p.val := by decide
theorem nth_tn {o s : T3} {p : Nat} (h : p < 3) : nth (tn o s) p = nth o (nth s p) := by
  match p, h with
  | 0, _ => rfl
  | 1, _ => rfl
  | 2, _ => rfl
section
variable {L : KM.Lot} {calm : Bool} {ops : List T3} {ini : List (Nat × Nat)}
def Ent (L : KM.Lot) (ops : List T3) (R : Nat → Nat → Prop) (p u v c : Nat) : Prop := ∃ o ∈ ops, ∃ s ∈ L.turns, c = nth (tn o s) p ∧ R (nth (tn o s) (q1 p)) u ∧ R (nth (tn o s) (q2 p)) v
theorem ent_clash {p u v c c' : Nat} (hp : p < 3) (h : Ent L ops (Eqv L calm ops ini) p u v c) (h' : Ent L ops (Eqv L calm ops ini) p u v c') : Eqv L calm ops ini c c' := by
  obtain ⟨o, ho, s, hs, rfl, a1, a2⟩ := h
  obtain ⟨o', ho', s', hs', rfl, b1, b2⟩ := h'
  obtain ⟨⟨l1, l2⟩, _, hq⟩ := q12 ⟨p, hp⟩
  rw [nth_tn hp, nth_tn hp]
  refine Eqv.clash (p := ⟨p, hp⟩) ho ho' hs hs' fun q n => ?_
  rw [nth_tn l1] at a1 b1
  rw [nth_tn l2] at a2 b2
  rcases hq q n with e | e
  · rw [e]
    exact a1.trans b1.symm
  · rw [e]
    exact a2.trans b2.symm
theorem ent_calm {p u c : Nat} (hp : p < 3) (hc : calm = true) (h : Ent L ops (Eqv L calm ops ini) p u u c) : Eqv L calm ops ini c u := by
  obtain ⟨o, ho, s, hs, rfl, a1, a2⟩ := h
  obtain ⟨⟨l1, l2⟩, ⟨n1, n2, n3⟩, _⟩ := q12 ⟨p, hp⟩
  have z := Eqv.calm (L := L) (ini := ini) (p := ⟨p, hp⟩) (q := ⟨q1 p, l1⟩) (r := ⟨q2 p, l2⟩) hc ho hs (fun e => n1 (congrArg Fin.val e)) (fun e => n2 (congrArg Fin.val e)) (fun e => n3 (congrArg Fin.val e)) (by
    show Eqv L calm ops ini (nth o (nth s (q1 p))) (nth o (nth s (q2 p)))
    rw [nth_tn l1] at a1
    rw [nth_tn l2] at a2
    exact a1.trans a2.symm)
  rw [nth_tn l1] at a1
  rw [nth_tn hp]
  exact z.trans a1
end
/-! ### the table in the heap -/
abbrev kk (p u v : Nat) : List Key := [Sum.inl (p : Int), Sum.inl (u : Int), Sum.inl (v : Int)]
theorem kk_inj {p u v p' u' v' : Nat} (e : kk p u v = kk p' u' v') : p = p' ∧ u = u' ∧ v = v' := by
  simp only [kk, List.cons.injEq, Sum.inl.injEq] at e
  omega
abbrev Tbl : Type := List (List Key × V)
/-- what stands at a key -/
def EntAt (H : Hp) (N : Nat) (v : V) (c : Nat) : Prop := ∃ (e : Addr) (i : Int) (sa : Addr), v = .ref e ∧ H e = some (.tup [.int i, .ref sa, .int (c : Nat)]) ∧ c < N
structure St1 (K : PySem.W.Frag) (ini : List (Nat × Nat)) (N : Nat) (H : Hp) (a : Addr) (c : CA) (L : KM.Lot) (calm : Bool) (ops : List T3) (D : Addr) (ab : List Nat) (tl : Nat) (tb : Tbl) : Prop where
  clo : CloAt K H a c L calm ops ab tl
  dn : Dn ab
  len : ab.length = N
  bud : tl + ab.sum ≤ 90000
  snd : Snd (Eqv L calm ops ini) ab
  dct : H D = some (.dT tb)
  tab : ∀ p u v x, valV tb (kk p u v) = some x → ∃ cc, EntAt H N x cc ∧ Ent L ops (Eqv L calm ops ini) p u v cc
/-- the state of a loop against where it began -/
structure LS (K : PySem.W.Frag) (ini : List (Nat × Nat)) (N : Nat) (H0 : Hp) (ab0 : List Nat) (tb0 : Tbl) (H : Hp) (a : Addr) (c : CA) (L : KM.Lot) (calm : Bool) (ops : List T3) (D : Addr) (ab : List Nat) (tl : Nat) (tb : Tbl) (f : Bool) (m : Nat) : Prop where
  st : St1 K ini N H a c L calm ops D ab tl tb
  kp : Kp [c.b, c.t, D] H0 H
  le : ab.sum ≤ ab0.sum
  mono : ∀ x y, x < N → y < N → rt ab0 x = rt ab0 y → rt ab x = rt ab y
  cnt : tb.length ≤ tb0.length + m
  yes : f = true → ab.sum < ab0.sum
  no : f = false → ab = ab0 ∧ ∀ k v, valV tb0 k = some v → valV tb k = some v
section
variable {K : PySem.W.Frag} {ini : List (Nat × Nat)} {N : Nat} {H0 H H' : Hp} {a : Addr} {c : CA} {L : KM.Lot} {calm : Bool} {ops : List T3} {D : Addr} {ab ab0 : List Nat} {tl : Nat} {tb tb0 : Tbl} {f : Bool} {m : Nat}
/-- tuples stay -/
theorem St1.tup (S : St1 K ini N H a c L calm ops D ab tl tb) (e : Kp [c.b, c.t, D] H H') {x : Addr} {xs : List V} (h : H x = some (.tup xs)) : H' x = some (.tup xs) := by
  refine e _ _ h fun m => ?_
  rcases List.mem_cons.mp m with q | m
  · rw [q, S.clo.abv] at h
    cases h
  · rcases List.mem_cons.mp m with q | m
    · obtain ⟨tr, h2, _⟩ := S.clo.trl
      rw [q, h2] at h
      cases h
    · have q : x = D := by simpa using m
      rw [q, S.dct] at h
      cases h
theorem EntAt.tup (S : St1 K ini N H a c L calm ops D ab tl tb) (e : Kp [c.b, c.t, D] H H') {x : V} {cc : Nat} (h : EntAt H N x cc) : EntAt H' N x cc := by
  obtain ⟨ea, i, sa, h1, h2, h3⟩ := h
  exact ⟨ea, i, sa, h1, S.tup e h2, h3⟩
theorem St1.nb (S : St1 K ini N H a c L calm ops D ab tl tb) : D ≠ c.b ∧ D ≠ c.t := by
  refine ⟨fun e => ?_, fun e => ?_⟩
  · have h := S.dct
    rw [e, S.clo.abv] at h
    cases h
  · have h := S.dct
    obtain ⟨tr, h2, _⟩ := S.clo.trl
    rw [e, h2] at h
    cases h
theorem LS.same (S : LS K ini N H0 ab0 tb0 H a c L calm ops D ab tl tb f m) (e : Same H H') : LS K ini N H0 ab0 tb0 H' a c L calm ops D ab tl tb f m :=
  ⟨⟨S.st.clo.same e, S.st.dn, S.st.len, S.st.bud, S.st.snd, e _ _ S.st.dct, fun p u v x h => let ⟨cc, h1, h2⟩ := S.st.tab p u v x h; ⟨cc, h1.tup S.st e.kp, h2⟩⟩,
   S.kp.trans e.kp, S.le, S.mono, S.cnt, S.yes, S.no⟩
theorem LS.more (S : LS K ini N H0 ab0 tb0 H a c L calm ops D ab tl tb f m) {m' : Nat} (e : m ≤ m') : LS K ini N H0 ab0 tb0 H a c L calm ops D ab tl tb f m' :=
  ⟨S.st, S.kp, S.le, S.mono, Nat.le_trans S.cnt (by omega), S.yes, S.no⟩
theorem upd_id {H : Hp} {p : Addr} {o : HO} (h : H p = some o) : upd H p o = H := by
  funext b
  by_cases e : b = p
  · rw [e, upd_same, h]
  · rw [upd_ne e]
/-- two equal things merged: nothing is new -/
theorem LS.merge0 (S : LS K ini N H0 ab0 tb0 H a c L calm ops D ab tl tb f m) {x : Nat} (hx : x < N) : upd H c.b (.lst (natV (mrg ab (rt ab x) (rt ab x)))) = H := by
  rw [KM.mrg_same (KM.rt_root S.st.dn (by rw [S.st.len]; exact hx)).1]
  exact upd_id S.st.clo.abv
/-- two things merged, and one entry more in the trail -/
theorem LS.merge1 (S : LS K ini N H0 ab0 tb0 H a c L calm ops D ab tl tb f m) {x y : Nat} (hx : x < N) (hy : y < N) (r : Eqv L calm ops ini x y) (ne : rt ab x ≠ rt ab y) {tr : List V} (ht : H c.t = some (.lst tr)) {pt : Addr} {xs : List V} {v : V}
    (hpt : (upd H c.b (.lst (natV (mrg ab (rt ab x) (rt ab y))))) pt = none) :
    LS K ini N H0 ab0 tb0 (upd (upd (upd H c.b (.lst (natV (mrg ab (rt ab x) (rt ab y))))) pt (.tup xs)) c.t (.lst (tr ++ [v]))) a c L calm ops D (mrg ab (rt ab x) (rt ab y)) (tl + 1) tb true m := by
  have hx' : x < ab.length := by rw [S.st.len]; exact hx
  have hy' : y < ab.length := by rw [S.st.len]; exact hy
  have a1 := (KM.rt_root S.st.dn hx').1
  have a2 := (KM.rt_root S.st.dn hy').1
  obtain ⟨c1, c2⟩ := KM.mrg_sum a1 a2
  have c2 := c2 ne
  obtain ⟨tr', h2, h3⟩ := S.st.clo.trl
  rw [ht] at h2
  cases h2
  have kp : Kp [c.b, c.t, D] H (upd (upd (upd H c.b (.lst (natV (mrg ab (rt ab x) (rt ab y))))) pt (.tup xs)) c.t (.lst (tr ++ [v]))) := by
    refine kp_upd (fun b o h n => ?_) (by simp)
    have nb : b ≠ c.b := fun e => n (by simp [e])
    have nt : b ≠ pt := fun e => by
      rw [← e, upd_ne nb, h] at hpt
      cases hpt
    rw [upd_ne nt, upd_ne nb]
    exact h
  have nbp : c.b ≠ pt := fun e => by
    rw [← e, upd_same] at hpt
    cases hpt
  have ntp : c.t ≠ pt := fun e => by
    rw [← e, upd_ne (Ne.symm S.st.clo.bt), ht] at hpt
    cases hpt
  have kp2 : Kp [c.b, c.t] H (upd (upd (upd H c.b (.lst (natV (mrg ab (rt ab x) (rt ab y))))) pt (.tup xs)) c.t (.lst (tr ++ [v]))) := by
    refine kp_upd (fun b o h n => ?_) (by simp)
    have nb : b ≠ c.b := fun e => n (by simp [e])
    have nt : b ≠ pt := fun e => by
      rw [← e, upd_ne nb, h] at hpt
      cases hpt
    rw [upd_ne nt, upd_ne nb]
    exact h
  have bd := S.st.bud
  have C := S.st.clo.kp (ab' := mrg ab (rt ab x) (rt ab y)) (tr := tr ++ [v]) kp2 (by rw [upd_ne S.st.clo.bt, upd_ne nbp, upd_same]) upd_same
  rw [List.length_append, List.length_singleton, h3] at C
  exact ⟨⟨C, KM.mrg_dn S.st.dn, (KM.mrg_len ..).trans S.st.len, by omega, Snd.mrg KM.eqv_equ S.st.dn S.st.snd hx' hy' r, kp2 _ _ S.st.dct (by simp [S.st.nb]), fun p u v x h => let ⟨cc, h1, h2⟩ := S.st.tab p u v x h; ⟨cc, h1.tup S.st kp, h2⟩⟩,
    S.kp.trans kp, Nat.le_trans c1 S.le, fun x' y' hx' hy' e => KM.mrg_mono S.st.dn a1 a2 (by rw [S.st.len]; exact hx') (by rw [S.st.len]; exact hy') (S.mono x' y' hx' hy' e), S.cnt, fun _ => Nat.lt_of_lt_of_le c2 S.le, fun e => by cases e⟩
/-- one key more in the table -/
theorem LS.put (S : LS K ini N H0 ab0 tb0 H a c L calm ops D ab tl tb f m) {p u v : Nat} {x : V} {cc : Nat} (hn : valV tb (kk p u v) = none) (hx : EntAt H N x cc) (he : Ent L ops (Eqv L calm ops ini) p u v cc) :
    LS K ini N H0 ab0 tb0 (upd H D (.dT (putK tb (kk p u v) x))) a c L calm ops D ab tl (putK tb (kk p u v) x) f (m + 1) := by
  have kp : Kp [c.b, c.t, D] H (upd H D (.dT (putK tb (kk p u v) x))) := kp_upd (Kp.refl _ _) (by simp)
  obtain ⟨n1, n2⟩ := S.st.nb
  obtain ⟨tr, h2, h3⟩ := S.st.clo.trl
  have C : CloAt K (upd H D (.dT (putK tb (kk p u v) x))) a c L calm ops ab tl := by
    have ni : ∀ {y : Addr} {o : HO}, H y = some o → (∀ z, o ≠ .dT z) → y ≠ D := fun {y o} h n e => by
      rw [e, S.st.dct] at h
      exact n _ (Option.some.inj h).symm
    obtain ⟨dx, k1⟩ := S.st.clo.obj
    obtain ⟨dk, k2⟩ := S.st.clo.kind
    obtain ⟨os, k3, k4, k5⟩ := S.st.clo.ops_
    refine ⟨⟨dx, (upd_ne (ni k1 fun z e => by cases e)).trans k1⟩, ⟨dk, (upd_ne (ni k2 fun z e => by cases e)).trans k2⟩, ⟨os, (upd_ne (ni k3 fun z e => by cases e)).trans k3, k4, fun i y o h1 h2 => (upd_ne (ni (k5 i y o h1 h2) fun z e => by cases e)).trans (k5 i y o h1 h2)⟩,
      (upd_ne (Ne.symm n1)).trans S.st.clo.abv, ⟨tr, (upd_ne (Ne.symm n2)).trans h2, h3⟩, S.st.clo.ob, S.st.clo.ot, S.st.clo.bt⟩
  refine ⟨⟨C, S.st.dn, S.st.len, S.st.bud, S.st.snd, upd_same, fun p' u' v' x' h => ?_⟩, S.kp.trans kp, S.le, S.mono, Nat.le_trans (length_putK _ _ _) (by have := S.cnt; omega), S.yes, fun e => ⟨(S.no e).1, fun k y h => ?_⟩⟩
  · rw [valV_put] at h
    split at h
    · rename_i e
      obtain ⟨e1, e2, e3⟩ := kk_inj e
      subst e1 e2 e3
      cases h
      exact ⟨cc, hx.tup S.st kp, he⟩
    · obtain ⟨c2, h1, h2⟩ := S.st.tab p' u' v' x' h
      exact ⟨c2, h1.tup S.st kp, h2⟩
  · have z := (S.no e).2 k y h
    rw [valV_put, if_neg]
    · exact z
    · intro e2
      rw [e2, hn] at z
      cases z
end
/-- what a pass without news has seen of one place -/
def Done1 (calm : Bool) (ab : List Nat) (N : Nat) (H : Hp) (tb : Tbl) (t : T3) (p : Nat) : Prop :=
  (∃ x cc, valV tb (kk p (rt ab (nth t (q1 p))) (rt ab (nth t (q2 p)))) = some x ∧ EntAt H N x cc ∧ rt ab cc = rt ab (nth t p)) ∧ (calm = true → rt ab (nth t (q1 p)) = rt ab (nth t (q2 p)) → rt ab (nth t p) = rt ab (nth t (q1 p)))
theorem seq_cut {t u : TS} {D : Ends} {σ : L2.St} {H : Hp} (I : L2.St → Hp → Prop) (k : ∀ σ H, I σ H → u D σ H) (h : (∀ σ H, I σ H → u D σ H) → t { D with nx := u D } σ H) : tSeq t u D σ H := h k
end K8
end

section
set_option Elab.async false
set_option linter.all false
set_option maxRecDepth 100000
set_option maxHeartbeats 8000000
/-! Closed tables: the def entered. -/
namespace K8
open PySem PySem.Spec PyProof.Rows L2
open KM (T3 nth rt Dn mrg Eqv Snd)
theorem iteB {c : Bool} {A B : Prop} (h1 : c = true → A) (h2 : c = false → B) : if c = true then A else B := by
  cases c with
  | true => rw [if_pos rfl]; exact h1 rfl
  | false => rw [if_neg Bool.false_ne_true]; exact h2 rfl
theorem ansH {Q : VK} {v : V} {H H' : Hp} (e : H = H') (h : Q v H') : Q v H := by rw [e]; exact h
theorem LS.init {K : PySem.W.Frag} {ini : List (Nat × Nat)} {N : Nat} {H : Hp} {a : Addr} {c : CA} {L : KM.Lot} {calm : Bool} {ops : List T3} {D : Addr} {ab : List Nat} {tl : Nat} {tb : Tbl} (S : St1 K ini N H a c L calm ops D ab tl tb) : LS K ini N H ab tb H a c L calm ops D ab tl tb false 0 :=
  ⟨S, Kp.refl _ _, Nat.le_refl _, fun _ _ _ _ e => e, Nat.le_refl _, fun e => (by cases e), fun _ => ⟨rfl, fun _ _ h => h⟩⟩
theorem oth3 : ∀ p : _root_.Fin 3, (List.range 3).filter (fun q => decide (q ≠ p.val)) = [q1 p.val, q2 p.val] := by decide
theorem Done1.keep {calm : Bool} {ab : List Nat} {N : Nat} {H H' : Hp} {tb tb' : Tbl} {t : T3} {p : Nat} (h : Done1 calm ab N H tb t p) (e : ∀ x cc, EntAt H N x cc → EntAt H' N x cc) (k : ∀ k v, valV tb k = some v → valV tb' k = some v) : Done1 calm ab N H' tb' t p := by
  obtain ⟨⟨x, cc, h1, h2, h3⟩, h4⟩ := h
  exact ⟨⟨x, cc, k _ _ h1, e _ _ h2, h3⟩, h4⟩
section
variable {P : Program} {w : World} {K : PySem.W.Frag} {mg : Str → Option Value} {base : Heap}
def spEntered (K : PySem.W.Frag) : Sp := fun vs H Q _ => ∃ (a D sa : Addr) (i : Nat) (c : CA) (L : KM.Lot) (calm : Bool) (ops : List T3) (ini : List (Nat × Nat)) (ab : List Nat) (tl : Nat) (tb : Tbl) (N : Nat) (o s : T3), vs = [.ref a, .ref D, .int (i : Nat), .ref sa] ∧
  St1 K ini N H a c L calm ops D ab tl tb ∧ ops[i]? = some o ∧ s ∈ L.turns ∧ (∀ H, SqT K H sa (t3V s)) ∧ (∀ o ∈ ops, ∀ p, p < 3 → nth o p < N) ∧ tb.length ≤ 50000 ∧
  ∀ H' ab' tl' tb' f, LS K ini N H ab tb H' a c L calm ops D ab' tl' tb' f 3 → (f = false → ∀ p, p < 3 → Done1 calm ab N H' tb' (tn o s) p) → Q (.bl f) H'
abbrev N_Closing_entered : List Str := ["self", "table", "number", "turn", "triple", "found", "place", "others", "key", "past", "before", "thing", "at"]
theorem sc_Closing_entered : FnScope N_Closing_entered ["self", "table", "number", "turn"] (defScope s_Closing_entered) := ⟨rfl, rfl, rfl, by decide +kernel, rfl, by decide +kernel, by decide +kernel⟩
-- slots: 0 self, 1 table, 2 number, 3 turn, 4 triple, 5 found, 6 place, 7 others, 8 key, 9 past, 10 before, 11 thing, 12 at
theorem ok_Closing_entered (T : Tx w K mg) : Ok P w K mg base 3 (a_Closing_entered K) ["self", "table", "number", "turn"] [] (spEntered K) := by
  obtain ⟨_, _, F_Closing_root, b_Closing_root, v_Closing_root, k_Closing_root⟩ := ok_Closing_root (P := P) (base := base) T
  obtain ⟨_, _, F_Closing_merge, b_Closing_merge, v_Closing_merge, k_Closing_merge⟩ := ok_Closing_merge (P := P) (base := base) T
  obtain ⟨_, _, F_turned, b_turned, v_turned, k_turned⟩ := ok_turned (P := P) (base := base) T
  refine Ok.of T.f_Closing_entered (fun z F => okBody F sc_Closing_entered (fun vs H Q E h => ?_) fun cdv A outer s H vs Q E hr h => ?_) rfl fun _ _ _ _ _ _ us hl => match us, hl with | [_, _, _, _], _ => rfl
  · obtain ⟨a, D, sa, i, c, L, calm, ops, ini, ab, tl, tb, N, o, s, rfl, _⟩ := h
    rfl
  · obtain ⟨a, D, sa, i, c, L, calm, ops, ini, ab, tl, tb, N, o, st, rfl, S, hi, hs, hsa, hN, h5, q⟩ := h
    obtain ⟨dx, ha⟩ := S.clo.obj
    obtain ⟨os, ho1, ho2, ho3⟩ := S.clo.ops_
    have hil : i < ops.length := (List.getElem?_eq_some_iff.mp hi).1
    have hio : i < os.length := by rw [ho2]; exact hil
    have oi := ho3 i _ _ (List.getElem?_eq_getElem hio) hi
    have omem : o ∈ ops := List.mem_of_getElem? hi
    generalize ht : tn o st = t at q
    have tN : ∀ p, p < 3 → nth t p < N := fun p hp => by
      rw [← ht, nth_tn hp]
      refine hN o omem _ ?_
      have := KM.turn_lt L st hs ⟨p, hp⟩
      exact this
    refine ⟨_, (pss_cons (ps_set (i := 4) sc_Closing_entered.nd rfl (by first | exact Or.inl rfl | exact Or.inr rfl) (pe_call F_turned (hr.mono (by decide)) rfl T.g_turned k_turned b_turned v_turned pass0 (pa_cons (pe_ix ix_list (pe_fld (pv 0) rfl) (pv 2) (fun _ _ => rfl)) (pa_cons (pv 3) pa_nil))))
 (pss_cons (ps_set (i := 5) sc_Closing_entered.nd rfl (by first | exact Or.inl rfl | exact Or.inr rfl) pe_bl)
 (pss_cons (ps_for PassesOwn.never rfl (pi_tup (C8.pe_gc rfl T.v_PLACES)) (pg_name (i := 6) sc_Closing_entered.nd rfl (by first | exact Or.inl rfl | exact Or.inr rfl)) (pss_cons (ps_setLcB (i := 7) (own := [("at", 12)]) rfl sc_Closing_entered.nd rfl rfl (sw_true rfl rfl rfl (by decide +kernel)) (pi_tup (C8.pe_gc rfl T.v_PLACES)) (blkOk_by (own := [("at", 12)]) (N := N_Closing_entered) (sc := defScope s_Closing_entered) (by decide +kernel)) (fun _ _ _ _ _ => (pg_name (i := 12) sc_Closing_entered.nd rfl (by first | exact Or.inl rfl | exact Or.inr rfl))) (fun _ _ _ _ _ => (pts_one (pt_cmpR op_ne (pv 12) (pv 6) (nomark _)))) (fun _ _ _ _ _ => (pe_meth (pv 0) T.cl_Closing T.mt_Closing_root F_Closing_root (hr.mono (by decide)) b_Closing_root v_Closing_root pass0 (pa_cons (pe_ix ix_tup (pv 4) (pv 12) (fun _ _ => rfl)) pa_nil))))
 (pss_cons (ps_if (PW.pt (pw_and (pt_val (pe_fld (pe_fld (pv 0) rfl) rfl)) (pw_and (pt_cmpR op_eq (pe_ix ix_list (pv 7) pe_int (fun _ _ => rfl)) (pe_ix ix_list (pv 7) pe_int (fun _ _ => rfl)) (nomark _)) (pw_and1 (pt_val (pe_meth (pv 0) T.cl_Closing T.mt_Closing_merge F_Closing_merge (hr.mono (by decide)) b_Closing_merge v_Closing_merge pass0 (pa_cons (pe_ix ix_tup (pv 4) (pv 6) (fun _ _ => rfl)) (pa_cons (pe_ix ix_list (pv 7) pe_int (fun _ _ => rfl)) pa_nil)))))))) (pss_cons (ps_expr (pe_bm PySem.F.plainAttrs_list PySem.F.slot_list_append PySem.F.type_list_append mt_append (pe_fld (pv 0) rfl) (pa_cons (pe_tup (pa_cons (pv 2) (pa_cons (pv 3) (pa_cons pe_non (pa_cons pe_non (pa_cons (pv 6) pa_nil)))))) pa_nil)))
 (pss_one (ps_set (i := 5) sc_Closing_entered.nd rfl (by first | exact Or.inl rfl | exact Or.inr rfl) pe_bl))) pss_nil)
 (pss_cons (ps_set (i := 8) sc_Closing_entered.nd rfl (by first | exact Or.inl rfl | exact Or.inr rfl) (pe_tup (pa_cons (pv 6) (pa_cons (pe_ix ix_list (pv 7) pe_int (fun _ _ => rfl)) (pa_cons (pe_ix ix_list (pv 7) pe_int (fun _ _ => rfl)) pa_nil)))))
 (pss_cons (ps_if (pt_cmp (pc_dnotin (hu_of hr) (pv 8) (pv 1))) (pss_cons (ps_dput (hu_of hr) (pv 1) (pv 8) (pe_tup (pa_cons (pv 2) (pa_cons (pv 3) (pa_cons (pe_ix ix_tup (pv 4) (pv 6) (fun _ _ => rfl)) pa_nil)))) rfl)
 (pss_one ps_continue)) pss_nil)
 (pss_cons (ps_asg (pe_dget (hu_of hr) (pv 1) (pv 8) (fun _ _ => rfl)) (pg_tup rfl (pgs_cons (pg_name (i := 9) sc_Closing_entered.nd rfl (by first | exact Or.inl rfl | exact Or.inr rfl)) (pgs_cons (pg_name (i := 10) sc_Closing_entered.nd rfl (by first | exact Or.inl rfl | exact Or.inr rfl)) (pgs_cons (pg_name (i := 11) sc_Closing_entered.nd rfl (by first | exact Or.inl rfl | exact Or.inr rfl)) pgs_nil)))))
 (pss_one (ps_if (pt_val (pe_meth (pv 0) T.cl_Closing T.mt_Closing_merge F_Closing_merge (hr.mono (by decide)) b_Closing_merge v_Closing_merge pass0 (pa_cons (pv 11) (pa_cons (pe_ix ix_tup (pv 4) (pv 6) (fun _ _ => rfl)) pa_nil)))) (pss_cons (ps_expr (pe_bm PySem.F.plainAttrs_list PySem.F.slot_list_append PySem.F.type_list_append mt_append (pe_fld (pv 0) rfl) (pa_cons (pe_tup (pa_cons (pv 9) (pa_cons (pv 10) (pa_cons (pv 2) (pa_cons (pv 3) (pa_cons (pv 6) pa_nil)))))) pa_nil)))
 (pss_one (ps_set (i := 5) sc_Closing_entered.nd rfl (by first | exact Or.inl rfl | exact Or.inr rfl) pe_bl))) pss_nil))))))))
 (pss_one (ps_ret (pv 5)))))), ?_⟩
    refine ⟨_, rfl, a, _, dx, _, _, rfl, ha, T.cl_Closing, T.na_Closing_operations, fsCl_operations .., _, rfl, c.o, _, _, _, rfl, rfl, SqL.of ho1, atI_nat (j := i) (by rw [List.getElem?_map, List.getElem?_eq_getElem hio]; rfl), _, rfl, os[i], sa, L, o, st, rfl, SqT.of oi, hsa _, hs, fun tr htr => ?_⟩
    rw [ht]
    refine ⟨_, rfl, ⟨_, T.PLACES.1 _⟩, ?_⟩
    refine for_tup (K := K) (xs := [.int 0, .int 1, .int 2]) (fun j σ H' => ∃ ab' tl' tb' f v6 v7 v8 v9 v10 v11 v12, σ = [some (.ref a), some (.ref D), some (.int (i : Nat)), some (.ref sa), some (.ref tr), some (.bl f), v6, v7, v8, v9, v10, v11, v12] ∧
      LS K ini N H ab tb H' a c L calm ops D ab' tl' tb' f j ∧ H' tr = some (.tup (t3V t)) ∧ (f = false → ∀ q, q < j → Done1 calm ab N H' tb' t q)) ⟨ab, tl, tb, false, _, _, _, _, _, _, _, rfl, (LS.init S).same (same_new htr), upd_same, fun _ q h => absurd h (Nat.not_lt_zero _)⟩
      (fun _ _ _ _ _ => T.PLACES.1 _) ?_ ?_
    · rintro j x σ H' hx ⟨ab', tl', tb', f, v6, v7, v8, v9, v10, v11, v12, rfl, S1, htr1, hdone⟩
      have hj : j < 3 := (List.getElem?_eq_some_iff.mp hx).1
      have ex : x = .int (j : Nat) := by
        match j, hj with
        | 0, _ => exact (Option.some.inj hx).symm
        | 1, _ => exact (Option.some.inj hx).symm
        | 2, _ => exact (Option.some.inj hx).symm
      subst ex
      have lN : ∀ p, p < 3 → nth t p < ab'.length := fun p hp => by rw [S1.st.len]; exact tN p hp
      refine ⟨_, rfl, ⟨_, T.PLACES.1 _⟩, fun l hl => ?_⟩
      refine lc_tup (K := K) (xs := [.int 0, .int 1, .int 2]) (fun i H'' => H'' = upd H' l (.lst (natV (((List.range i).filter (fun q => decide (q ≠ j))).map fun q => rt ab' (nth t q))))) rfl (fun _ _ _ _ => T.PLACES.1 _) ?_ ?_
      · rintro k x H'' hx rfl
        have hk : k < 3 := (List.getElem?_eq_some_iff.mp hx).1
        have ex : x = .int (k : Nat) := by
          match k, hk with
          | 0, _ => exact (Option.some.inj hx).symm
          | 1, _ => exact (Option.some.inj hx).symm
          | 2, _ => exact (Option.some.inj hx).symm
        subst ex
        have S2 := S1.same (same_new (o := .lst (natV (((List.range k).filter (fun q => decide (q ≠ j))).map fun q => rt ab' (nth t q)))) hl)
        obtain ⟨dx2, ha2⟩ := S2.st.clo.obj
        have e0 : decide (V.int (k : Nat) = V.int (j : Nat)) = decide (k = j) := by
          by_cases e : k = j
          · rw [decide_eq_true (by rw [e]), decide_eq_true e]
          · rw [decide_eq_false (fun z => e (by injection z with z; omega)), decide_eq_false e]
        refine ⟨rfl, _, rfl, _, rfl, rfl, !decide (V.int (k : Nat) = V.int (j : Nat)), rfl, ?_⟩
        rw [e0]
        refine iteB (fun e => ?_) (fun e => ?_)
        · have e1 : k ≠ j := fun z => by simp [z] at e
          refine ⟨_, rfl, a, dx2, _, rfl, ha2, fsCl_root .., _, rfl, _, rfl, tr, _, _, _, rfl, rfl, SqT.of ((upd_ne (ne_of_none htr1 hl)).trans htr1), t3V_at hk, a, c, L, calm, ops, ab', tl', nth t k, rfl, S2.st.clo, S1.st.dn, lN k hk, ?_⟩
          refine ⟨_, upd_same, sl2 ?_, ?_⟩
          · have := List.length_filter_le (fun q => decide (q ≠ j)) (List.range k)
            rw [List.length_map, List.length_map]
            rw [List.length_range] at this
            omega
          · rw [upd_upd, List.range_succ, List.filter_append, List.map_append]
            simp [natV, e1]
        · have e1 : k = j := by simpa using e
          rw [List.range_succ, List.filter_append]
          simp [e1]
      · rintro H'' rfl
        have e3 : (List.range 3).filter (fun q => decide (q ≠ j)) = [q1 j, q2 j] := oth3 ⟨j, hj⟩
        obtain ⟨⟨l1, l2⟩, _, _⟩ := q12 ⟨j, hj⟩
        have l1 : q1 j < 3 := l1
        have l2 : q2 j < 3 := l2
        have e4 : (([.int 0, .int 1, .int 2] : List V)).length = 3 := rfl
        rw [e4, e3]
        have S2 := S1.same (same_new (o := .lst (natV ([q1 j, q2 j].map fun q => rt ab' (nth t q)))) hl)
        have hl2 : (upd H' l (.lst (natV ([q1 j, q2 j].map fun q => rt ab' (nth t q))))) l = some (.lst (natV [rt ab' (nth t (q1 j)), rt ab' (nth t (q2 j))])) := upd_same
        have htr2 : (upd H' l (.lst (natV ([q1 j, q2 j].map fun q => rt ab' (nth t q))))) tr = some (.tup (t3V t)) := (upd_ne (ne_of_none htr1 hl)).trans htr1
        have hd2 : f = false → ∀ q, q < j → Done1 calm ab N (upd H' l (.lst (natV ([q1 j, q2 j].map fun q => rt ab' (nth t q))))) tb' t q := fun e q hq => (hdone e q hq).keep (fun x cc h => h.tup S1.st (same_new hl).kp) fun _ _ h => h
        generalize upd H' l (.lst (natV ([q1 j, q2 j].map fun q => rt ab' (nth t q)))) = H2 at S2 hl2 htr2 hd2 ⊢
        -- what the two others are
        have r1 : Eqv L calm ops ini (nth t (q1 j)) (rt ab' (nth t (q1 j))) := S1.st.snd _ (lN _ l1)
        have r2 : Eqv L calm ops ini (nth t (q2 j)) (rt ab' (nth t (q2 j))) := S1.st.snd _ (lN _ l2)
        have hu : rt ab' (nth t (q1 j)) < N := by rw [← S1.st.len]; exact KM.rt_lt S1.st.dn (lN _ l1)
        have hv : rt ab' (nth t (q2 j)) < N := by rw [← S1.st.len]; exact KM.rt_lt S1.st.dn (lN _ l2)
        have hw : f = false → rt ab' (nth t (q1 j)) = rt ab (nth t (q1 j)) ∧ rt ab' (nth t (q2 j)) = rt ab (nth t (q2 j)) := fun e => by
          rw [(S1.no e).1]
          exact ⟨rfl, rfl⟩
        have hent : Ent L ops (Eqv L calm ops ini) j (rt ab' (nth t (q1 j))) (rt ab' (nth t (q2 j))) (nth t j) := ⟨o, omem, st, hs, by rw [ht], by rw [ht]; exact r1, by rw [ht]; exact r2⟩
        have hroot : rt ab' (rt ab' (nth t (q1 j))) = rt ab' (nth t (q1 j)) := KM.rt_rt S1.st.dn (lN _ l1)
        generalize rt ab' (nth t (q1 j)) = u at *
        generalize rt ab' (nth t (q2 j)) = v at *
        dsimp only [gName]
        refine seq_cut (t := tIfS _ _ _) (fun σ H3 => ∃ ab2 tl2 f2 v8 v9 v10 v11 v12, σ = [some (.ref a), some (.ref D), some (.int (i : Nat)), some (.ref sa), some (.ref tr), some (.bl f2), some (.int (j : Nat)), some (.ref l), v8, v9, v10, v11, v12] ∧
          LS K ini N H ab tb H3 a c L calm ops D ab2 tl2 tb' f2 j ∧ H3 tr = some (.tup (t3V t)) ∧ H3 l = some (.lst (natV [u, v])) ∧ (f2 = false → ∀ q, q < j → Done1 calm ab N H3 tb' t q) ∧
          (f2 = false → u = rt ab (nth t (q1 j)) ∧ v = rt ab (nth t (q2 j)) ∧ (calm = true → u = v → rt ab (nth t j) = u))) ?_ (fun key => ?_)
        · rintro σ H3 ⟨ab2, tl2, f2, v8, v9, v10, v11, v12, rfl, S3, htr3, hl3, hd3, hz⟩
          refine ⟨_, rfl, _, rfl, l, _, _, _, rfl, rfl, SqL.of hl3, natV_at (x := 0) rfl, _, rfl, l, _, _, _, rfl, rfl, SqL.of hl3, natV_at (x := 1) rfl, by show 3 ≤ sizeLine; decide, fun kt hkt => ?_⟩
          have S4 := S3.same (same_new (o := .tup [.int (j : Nat), .int (u : Nat), .int (v : Nat)]) hkt)
          have hk4 : (upd H3 kt (.tup [.int (j : Nat), .int (u : Nat), .int (v : Nat)])) kt = some (.tup ((kk j u v).map kV)) := upd_same
          have htr4 : (upd H3 kt (.tup [.int (j : Nat), .int (u : Nat), .int (v : Nat)])) tr = some (.tup (t3V t)) := (upd_ne (ne_of_none htr3 hkt)).trans htr3
          have hd4 : f2 = false → ∀ q, q < j → Done1 calm ab N (upd H3 kt (.tup [.int (j : Nat), .int (u : Nat), .int (v : Nat)])) tb' t q := fun e q hq => (hd3 e q hq).keep (fun x cc h => h.tup S3.st (same_new hkt).kp) fun _ _ h => h
          clear hd3 hd2 hdone
          refine ⟨_, rfl, _, rfl, D, _, rfl, DGet.t S4.st.dct hk4, _, rfl, iteB (fun hn => ?_) (fun hn => ?_)⟩
          · have hn2 : valV tb' (kk j u v) = none := by
              cases e : valV tb' (kk j u v) with
              | none => rfl
              | some x => simp [e] at hn
            refine ⟨_, rfl, _, rfl, _, rfl, _, rfl, tr, _, _, _, rfl, rfl, SqT.of htr4, t3V_at hj, by show 3 ≤ sizeLine; decide, fun e he => ?_⟩
            have S5 := S4.same (same_new (o := .tup [.int (i : Nat), .ref sa, .int (nth t j : Nat)]) he)
            have c5 := S5.cnt
            refine ⟨_, rfl, _, rfl, D, _, rfl, DPut.t S5.st.dct ((upd_ne (ne_of_none hk4 he)).trans hk4) (sl2 (by omega)), ?_⟩
            have E5 : EntAt (upd (upd H3 kt (.tup [.int (j : Nat), .int (u : Nat), .int (v : Nat)])) e (.tup [.int (i : Nat), .ref sa, .int (nth t j : Nat)])) N (.ref e) (nth t j) := ⟨e, _, _, rfl, upd_same, tN j hj⟩
            have S6 := S5.put hn2 E5 hent
            have kp6 : Kp [c.b, c.t, D] (upd H3 kt (.tup [.int (j : Nat), .int (u : Nat), .int (v : Nat)])) (upd (upd (upd H3 kt (.tup [.int (j : Nat), .int (u : Nat), .int (v : Nat)])) e (.tup [.int (i : Nat), .ref sa, .int (nth t j : Nat)])) D (.dT (putK tb' (kk j u v) (.ref e)))) := kp_upd (same_new he).kp (by simp)
            refine ⟨_, _, _, f2, _, _, _, _, _, _, _, rfl, S6, S4.st.tup kp6 htr4, fun ef q hq => ?_⟩
            obtain ⟨z1, z2, z3⟩ := hz ef
            have grow : ∀ k x, valV tb' k = some x → valV (putK tb' (kk j u v) (.ref e)) k = some x := fun k x h => by
              rw [valV_put, if_neg]
              · exact h
              · intro e2
                rw [e2, hn2] at h
                cases h
            by_cases hqj : q < j
            · exact (hd4 ef q hqj).keep (fun x cc h => h.tup S4.st kp6) grow
            · have e3 : q = j := by omega
              subst e3
              refine ⟨⟨.ref e, nth t q, ?_, E5.tup S5.st (kp_upd (Kp.refl _ _) (by simp)), rfl⟩, fun h1 h2 => ?_⟩
              · rw [← z1, ← z2, valV_put, if_pos rfl]
              · rw [← z1]
                rw [← z1, ← z2] at h2
                exact z3 h1 h2
          · obtain ⟨x, hx3⟩ : ∃ x, valV tb' (kk j u v) = some x := by
              cases e : valV tb' (kk j u v) with
              | none => simp [e] at hn
              | some x => exact ⟨x, rfl⟩
            obtain ⟨cc, ⟨e, i2, sa2, rfl, he, hcc⟩, hent2⟩ := S4.st.tab j u v x hx3
            have rcc : Eqv L calm ops ini cc (nth t j) := ent_clash hj hent2 hent
            have lN2 : ∀ p, p < N → p < ab2.length := fun p hp => by rw [S4.st.len]; exact hp
            obtain ⟨dx4, ha4⟩ := S4.st.clo.obj
            refine ⟨_, rfl, _, rfl, D, .ref e, rfl, by rw [← hx3]; exact DGet.t S4.st.dct hk4, e, _, rfl, SqT.of he, rfl, _, _, rfl, _, _, rfl, _, _, rfl, rfl, ?_⟩
            refine ⟨_, rfl, a, dx4, _, rfl, ha4, fsCl_merge .., _, rfl, _, rfl, _, rfl, tr, _, _, _, rfl, rfl, SqT.of htr4, t3V_at hj, a, c, L, calm, ops, ab2, tl2, cc, nth t j, rfl, S4.st.clo, S4.st.dn, lN2 _ hcc, lN2 _ (tN j hj), _, rfl, iteB (fun hm => ?_) (fun hm => ?_)⟩
            · have hne : rt ab2 cc ≠ rt ab2 (nth t j) := fun e => by simp [e] at hm
              obtain ⟨trl, h2, h3⟩ := S4.st.clo.trl
              have kpM : Kp [c.b, c.t] (upd H3 kt (.tup [.int (j : Nat), .int (u : Nat), .int (v : Nat)])) (upd (upd H3 kt (.tup [.int (j : Nat), .int (u : Nat), .int (v : Nat)])) c.b (.lst (natV (mrg ab2 (rt ab2 cc) (rt ab2 (nth t j)))))) := kp_upd (Kp.refl _ _) (by simp)
              have CM := S4.st.clo.kp (ab' := mrg ab2 (rt ab2 cc) (rt ab2 (nth t j))) kpM upd_same ((upd_ne (Ne.symm S4.st.clo.bt)).trans h2)
              obtain ⟨dxM, haM⟩ := CM.obj
              refine ⟨_, rfl, a, _, dxM, _, _, rfl, haM, T.cl_Closing, T.na_Closing_trail, fsCl_trail .., .inl ⟨rfl, _, SqL.of ((upd_ne (Ne.symm S4.st.clo.bt)).trans h2)⟩, _, rfl, _, rfl, _, rfl, _, rfl, _, rfl, by show 5 ≤ sizeLine; decide, fun pt hpt => ?_⟩
              have ntp : c.t ≠ pt := fun e => by
                rw [← e, upd_ne (Ne.symm S4.st.clo.bt), h2] at hpt
                cases hpt
              have bd := S4.st.bud
              refine ⟨c.t, trl, _, rfl, rfl, (upd_ne ntp).trans ((upd_ne (Ne.symm S4.st.clo.bt)).trans h2), sl2 (by omega), ?_⟩
              have S6 := S4.merge1 (v := .ref pt) (xs := [.int i2, .ref sa2, .int (i : Nat), .ref sa, .int (j : Nat)]) hcc (tN j hj) rcc hne h2 hpt
              refine ⟨_, _, _, true, _, _, _, _, _, _, _, rfl, S6.more (Nat.le_succ _), ?_, fun e => (by cases e)⟩
              rw [upd_ne (fun e => by rw [e, h2] at htr4; cases htr4), upd_ne (fun e => by rw [← e, upd_ne (fun e => by rw [e, S4.st.clo.abv] at htr4; cases htr4), htr4] at hpt; cases hpt), upd_ne (fun e => by rw [e, S4.st.clo.abv] at htr4; cases htr4)]
              exact htr4
            · have he2 : rt ab2 cc = rt ab2 (nth t j) := by simpa using hm
              have eM := S4.merge0 hcc
              refine ⟨ab2, tl2, tb', f2, _, _, _, _, _, _, _, rfl, by rw [← he2, eM]; exact S4.more (Nat.le_succ _), by rw [← he2, eM]; exact htr4, fun ef q hq => ?_⟩
              rw [← he2, eM]
              obtain ⟨z1, z2, z3⟩ := hz ef
              by_cases hqj : q < j
              · exact hd4 ef q hqj
              · have e3 : q = j := by omega
                subst e3
                refine ⟨⟨.ref e, cc, ?_, ⟨e, i2, sa2, rfl, he, hcc⟩, ?_⟩, fun h1 h2 => ?_⟩
                · rw [← z1, ← z2]
                  exact hx3
                · rw [← (S4.no ef).1]
                  exact he2
                · rw [← z1]
                  rw [← z1, ← z2] at h2
                  exact z3 h1 h2
        · obtain ⟨dx2, ha2⟩ := S2.st.clo.obj
          obtain ⟨dk, hk2⟩ := S2.st.clo.kind
          have lN2 : ∀ p, p < N → p < ab'.length := fun p hp => by rw [S1.st.len]; exact hp
          refine ⟨_, rfl, a, _, dx2, _, _, rfl, ha2, T.cl_Closing, T.na_Closing_kind, fsCl_kind .., c.k, _, dk, _, _, rfl, hk2, T.cl_Kind, T.na_Kind_calm, fsKind_calm .., calm, rfl, iteB (fun hc => ?_) (fun hc => ?_)⟩
          · refine ⟨_, rfl, l, _, _, _, rfl, rfl, SqL.of hl2, natV_at (x := 0) rfl, _, rfl, l, _, _, _, rfl, rfl, SqL.of hl2, natV_at (x := 1) rfl, rfl, _, rfl, iteB (fun he => ?_) (fun he => ?_)⟩
            · have euv : u = v := by
                have z := of_decide_eq_true he
                injection z with z
                omega
              refine ⟨_, rfl, a, dx2, _, rfl, ha2, fsCl_merge .., _, rfl, _, rfl, tr, _, _, _, rfl, rfl, SqT.of htr2, t3V_at hj, _, rfl, l, _, _, _, rfl, rfl, SqL.of hl2, natV_at (x := 0) rfl, a, c, L, calm, ops, ab', tl', nth t j, u, rfl, S2.st.clo, S2.st.dn, lN j hj, lN2 u hu, _, rfl, iteB (fun hm => ?_) (fun hm => ?_)⟩
              · have hne : rt ab' (nth t j) ≠ rt ab' u := fun e => by simp [e] at hm
                have hr : Eqv L calm ops ini (nth t j) u := ent_calm hj hc (by rw [← euv] at hent; exact hent)
                obtain ⟨trl, h2, h3⟩ := S2.st.clo.trl
                have kpM : Kp [c.b, c.t] H2 (upd H2 c.b (.lst (natV (mrg ab' (rt ab' (nth t j)) (rt ab' u))))) := kp_upd (Kp.refl _ _) (by simp)
                have CM := S2.st.clo.kp (ab' := mrg ab' (rt ab' (nth t j)) (rt ab' u)) kpM upd_same ((upd_ne (Ne.symm S2.st.clo.bt)).trans h2)
                obtain ⟨dxM, haM⟩ := CM.obj
                refine ⟨_, rfl, a, _, dxM, _, _, rfl, haM, T.cl_Closing, T.na_Closing_trail, fsCl_trail .., .inl ⟨rfl, _, SqL.of ((upd_ne (Ne.symm S2.st.clo.bt)).trans h2)⟩, _, rfl, _, rfl, _, rfl, by show 5 ≤ sizeLine; decide, fun pt hpt => ?_⟩
                have ntp : c.t ≠ pt := fun e => by
                  rw [← e, upd_ne (Ne.symm S2.st.clo.bt), h2] at hpt
                  cases hpt
                have bd := S2.st.bud
                refine ⟨c.t, trl, _, rfl, rfl, (upd_ne ntp).trans ((upd_ne (Ne.symm S2.st.clo.bt)).trans h2), sl2 (by omega), ?_⟩
                have S3 := S2.merge1 (v := .ref pt) (xs := [.int (i : Nat), .ref sa, .non, .non, .int (j : Nat)]) (tN j hj) hu hr hne h2 hpt
                refine key _ _ ⟨_, _, true, v8, v9, v10, v11, v12, rfl, S3, ?_, ?_, fun e => (by cases e), fun e => (by cases e)⟩
                · rw [upd_ne (fun e => by rw [e, h2] at htr2; cases htr2), upd_ne (fun e => by rw [← e, upd_ne (fun e => by rw [e, S2.st.clo.abv] at htr2; cases htr2), htr2] at hpt; cases hpt), upd_ne (fun e => by rw [e, S2.st.clo.abv] at htr2; cases htr2)]
                  exact htr2
                · have n1 : l ≠ c.b := (ne_of_none S1.st.clo.abv hl).symm
                  have n2 : l ≠ c.t := by
                    obtain ⟨_, h, _⟩ := S1.st.clo.trl
                    exact (ne_of_none h hl).symm
                  rw [upd_ne n2, upd_ne (fun e => by rw [← e, upd_ne n1, hl2] at hpt; cases hpt), upd_ne n1]
                  exact hl2
              · have he2 : rt ab' (nth t j) = rt ab' u := by simpa using hm
                rw [← he2, S2.merge0 (tN j hj)]
                refine key _ _ ⟨_, _, f, v8, v9, v10, v11, v12, rfl, S2, htr2, hl2, hd2, fun e => ⟨(hw e).1, (hw e).2, fun _ _ => ?_⟩⟩
                rw [← (S1.no e).1, he2]
                exact hroot
            · refine iteF (key _ _ ⟨_, _, f, v8, v9, v10, v11, v12, rfl, S2, htr2, hl2, hd2, fun e => ⟨(hw e).1, (hw e).2, fun _ e2 => ?_⟩⟩)
              have z := of_decide_eq_false he
              exact absurd (by rw [e2]) z
          · refine iteF (key _ _ ⟨_, _, f, v8, v9, v10, v11, v12, rfl, S2, htr2, hl2, hd2, fun e => ⟨(hw e).1, (hw e).2, fun h _ => ?_⟩⟩)
            rw [hc] at h
            cases h
    · rintro σ H' ⟨ab', tl', tb', f, v6, v7, v8, v9, v10, v11, v12, rfl, S1, htr1, hdone⟩
      exact ⟨_, rfl, q H' ab' tl' tb' f S1 fun e p hp => hdone e p hp⟩
end
end K8
end

section
set_option Elab.async false
set_option linter.all false
set_option maxRecDepth 100000
set_option maxHeartbeats 8000000
/-! Closed tables: the def close. -/
namespace K8
open PySem PySem.Spec PyProof.Rows L2
open KM (T3 nth rt Dn mrg Eqv Snd)
theorem LS.trans {K : PySem.W.Frag} {ini : List (Nat × Nat)} {N : Nat} {H0 H1 H2 : Hp} {a : Addr} {c : CA} {L : KM.Lot} {calm : Bool} {ops : List T3} {D : Addr} {ab0 ab1 ab2 : List Nat} {tl1 tl2 : Nat} {tb0 tb1 tb2 : Tbl} {f1 f2 : Bool} {m1 m2 : Nat}
    (A : LS K ini N H0 ab0 tb0 H1 a c L calm ops D ab1 tl1 tb1 f1 m1) (B : LS K ini N H1 ab1 tb1 H2 a c L calm ops D ab2 tl2 tb2 f2 m2) : LS K ini N H0 ab0 tb0 H2 a c L calm ops D ab2 tl2 tb2 (f2 || f1) (m1 + m2) := by
  refine ⟨B.st, A.kp.trans B.kp, Nat.le_trans B.le A.le, fun x y hx hy e => B.mono x y hx hy (A.mono x y hx hy e), ?_, fun e => ?_, fun e => ?_⟩
  · have := A.cnt
    have := B.cnt
    omega
  · cases f2 with
    | true => exact Nat.lt_of_lt_of_le (B.yes rfl) A.le
    | false => exact Nat.lt_of_le_of_lt B.le (A.yes (by simpa using e))
  · have e1 : f1 = false := by
      cases f1 <;> simp_all
    have e2 : f2 = false := by
      cases f2 <;> simp_all
    obtain ⟨x1, x2⟩ := A.no e1
    obtain ⟨y1, y2⟩ := B.no e2
    exact ⟨y1.trans x1, fun k v h => y2 k v (x2 k v h)⟩
theorem EntAt.fn {H : Hp} {N : Nat} {x : V} {c c' : Nat} (h : EntAt H N x c) (h' : EntAt H N x c') : c = c' := by
  obtain ⟨e, i, sa, rfl, h1, _⟩ := h
  obtain ⟨e', i', sa', h2, h3, _⟩ := h'
  cases h2
  rw [h1] at h3
  injection h3 with h3
  injection h3 with h3
  injection h3 with _ h3
  injection h3 with _ h3
  injection h3 with h3 _
  injection h3 with h3
  omega
/-- no news: equal is what the table asks for -/
theorem closed_of {L : KM.Lot} {calm : Bool} {ops : List T3} {ini : List (Nat × Nat)} {ab : List Nat} {N : Nat} {H : Hp} {tb : Tbl} (hini : ∀ x y, (x, y) ∈ ini → rt ab x = rt ab y)
    (hd : ∀ o ∈ ops, ∀ s ∈ L.turns, ∀ p, p < 3 → Done1 calm ab N H tb (tn o s) p) {x y : Nat} (h : Eqv L calm ops ini x y) : rt ab x = rt ab y := by
  induction h with
  | base h => exact hini _ _ h
  | refl => rfl
  | symm _ ih => exact ih.symm
  | trans _ _ i1 i2 => exact i1.trans i2
  | @clash o o' s s' p ho ho' hs hs' _ ih =>
    obtain ⟨⟨l1, l2⟩, ⟨n1, n2, n3⟩, _⟩ := q12 p
    obtain ⟨⟨x1, c1, a1, a2, a3⟩, _⟩ := hd o ho s hs p.val p.isLt
    obtain ⟨⟨x2, c2, b1, b2, b3⟩, _⟩ := hd o' ho' s' hs' p.val p.isLt
    have e1 := ih ⟨q1 p.val, l1⟩ fun e => n1 (congrArg Fin.val e)
    have e2 := ih ⟨q2 p.val, l2⟩ fun e => n2 (congrArg Fin.val e)
    have e1 : rt ab (nth o (nth s (q1 p.val))) = rt ab (nth o' (nth s' (q1 p.val))) := e1
    have e2 : rt ab (nth o (nth s (q2 p.val))) = rt ab (nth o' (nth s' (q2 p.val))) := e2
    rw [← nth_tn l1, ← nth_tn l1] at e1
    rw [← nth_tn l2, ← nth_tn l2] at e2
    rw [e1, e2, b1] at a1
    have ex : x2 = x1 := Option.some.inj a1
    rw [ex] at b2
    have ec := a2.fn b2
    rw [← nth_tn p.isLt, ← nth_tn p.isLt, ← a3, ← b3, ec]
  | @calm o s p q r hc ho hs nq nr nqr _ ih =>
    obtain ⟨⟨l1, l2⟩, ⟨n1, n2, n3⟩, hq⟩ := q12 p
    obtain ⟨_, a4⟩ := hd o ho s hs p.val p.isLt
    have vq := hq q nq
    have vr := hq r nr
    have hqr : q.val ≠ r.val := fun e => nqr (Fin.ext e)
    rw [← nth_tn p.isLt, ← nth_tn q.isLt]
    rw [← nth_tn q.isLt, ← nth_tn r.isLt] at ih
    rcases vq with vq | vq
    · have vr : r.val = q2 p.val := by
        rcases vr with v | v
        · exact absurd (vq.trans v.symm) hqr
        · exact v
      rw [vq] at ih ⊢
      rw [vr] at ih
      exact a4 hc ih
    · have vr : r.val = q1 p.val := by
        rcases vr with v | v
        · exact v
        · exact absurd (vq.trans v.symm) hqr
      rw [vq] at ih ⊢
      rw [vr] at ih
      rw [ih]
      exact a4 hc ih.symm
section
variable {P : Program} {w : World} {K : PySem.W.Frag} {mg : Str → Option Value} {base : Heap}
def spClose (K : PySem.W.Frag) : Sp := fun vs H Q _ => ∃ (a : Addr) (c : CA) (L : KM.Lot) (calm : Bool) (ops : List T3) (ini : List (Nat × Nat)) (ab : List Nat) (tl N : Nat), vs = [.ref a] ∧ CloAt K H a c L calm ops ab tl ∧ Dn ab ∧ ab.length = N ∧ tl + ab.sum ≤ 90000 ∧ Snd (Eqv L calm ops ini) ab ∧
  (∀ x y, (x, y) ∈ ini → x < N ∧ y < N ∧ rt ab x = rt ab y) ∧ (∀ o ∈ ops, ∀ p, p < 3 → nth o p < N) ∧ ops.length ≤ 1000 ∧
  ∀ H' ab' tl', Kp [c.b, c.t] H H' → CloAt K H' a c L calm ops ab' tl' → Dn ab' → ab'.length = N → (∀ x y, x < N → y < N → (rt ab' x = rt ab' y ↔ Eqv L calm ops ini x y)) → Q .non H'
abbrev N_Closing_close : List Str := ["self", "found", "table", "number", "turn"]
theorem sc_Closing_close : FnScope N_Closing_close ["self"] (defScope s_Closing_close) := ⟨rfl, rfl, rfl, by decide +kernel, rfl, by decide +kernel, by decide +kernel⟩
-- slots: 0 self, 1 found, 2 table, 3 number, 4 turn
theorem ok_Closing_close (T : Tx w K mg) : Ok P w K mg base 4 (a_Closing_close K) ["self"] [] (spClose K) := by
  obtain ⟨_, _, F_Closing_entered, b_Closing_entered, v_Closing_entered, k_Closing_entered⟩ := ok_Closing_entered (P := P) (base := base) T
  obtain ⟨_, _, F_Kind_lot, b_Kind_lot, v_Kind_lot, k_Kind_lot⟩ := ok_Kind_lot (P := P) (base := base) T
  refine Ok.of T.f_Closing_close (fun z F => okBody F sc_Closing_close (fun vs H Q E h => ?_) fun cdv A outer s H vs Q E hr h => ?_) rfl fun _ _ _ _ _ _ us hl => match us, hl with | [_], _ => rfl
  · obtain ⟨a, c, L, calm, ops, ini, ab, tl, N, rfl, _⟩ := h
    rfl
  · obtain ⟨a, c, L, calm, ops, ini, ab, tl, N, rfl, C, dn, hlen, bud, snd, hini, hN, h1000, q⟩ := h
    refine ⟨_, (pss_cons (ps_set (i := 1) sc_Closing_close.nd rfl (by first | exact Or.inl rfl | exact Or.inr rfl) pe_bl)
 (pss_one (ps_while PassesOwn.never (pt_val (pv 1)) (pss_cons (ps_set (i := 1) sc_Closing_close.nd rfl (by first | exact Or.inl rfl | exact Or.inr rfl) pe_bl)
 (pss_cons (ps_set (i := 2) sc_Closing_close.nd rfl (by first | exact Or.inl rfl | exact Or.inr rfl) pe_dnewT)
 (pss_one (ps_for PassesOwn.never rfl (pi_range1 (by rfl) T.b_range (pa_cons (pe_callB call_len_seq (by rfl) T.b_len (by decide +kernel) (pa_cons (pe_fld (pv 0) rfl) pa_nil)) pa_nil)) (pg_name (i := 3) sc_Closing_close.nd rfl (by first | exact Or.inl rfl | exact Or.inr rfl)) (pss_one (ps_for PassesOwn.never rfl (pi_tup (pe_prop (pe_fld (pv 0) rfl) T.cl_Kind T.p_lot F_Kind_lot (hr.mono (by decide)) b_Kind_lot v_Kind_lot pass0 rfl)) (pg_name (i := 4) sc_Closing_close.nd rfl (by first | exact Or.inl rfl | exact Or.inr rfl)) (pss_one (ps_set (i := 1) sc_Closing_close.nd rfl (by first | exact Or.inl rfl | exact Or.inr rfl) (pe_or (pe_meth (pv 0) T.cl_Closing T.mt_Closing_entered F_Closing_entered (hr.mono (by decide)) b_Closing_entered v_Closing_entered pass0 (pa_cons (pv 2) (pa_cons (pv 3) (pa_cons (pv 4) pa_nil)))) (pe_one (pv 1)))))))))))))), ?_⟩
    refine ⟨fun m σ H' => ∃ f ab' tl' v2 v3 v4, σ = [some (.ref a), some (.bl f), v2, v3, v4] ∧ m = 2 * ab'.sum + (if f = true then 1 else 0) ∧ Kp [c.b, c.t] H H' ∧ CloAt K H' a c L calm ops ab' tl' ∧ Dn ab' ∧ ab'.length = N ∧ tl' + ab'.sum ≤ 90000 ∧ Snd (Eqv L calm ops ini) ab' ∧
      (∀ x y, x < N → y < N → rt ab x = rt ab y → rt ab' x = rt ab' y) ∧ (f = false → ∀ x y, Eqv L calm ops ini x y → rt ab' x = rt ab' y),
      ⟨_, true, ab, tl, _, _, _, rfl, rfl, Kp.refl _ _, C, dn, hlen, bud, snd, fun _ _ _ _ e => e, fun e => by cases e⟩, ?_⟩
    rintro m σ H1 ⟨f, ab1, tl1, v2, v3, v4, rfl, rfl, kp1, C1, dn1, len1, bud1, snd1, mono1, clo1⟩
    refine ⟨_, rfl, f, rfl, iteB (fun hf => ?_) (fun hf => ?_)⟩
    · refine ⟨fun σ' H' => ∃ f' ab' tl' v2 v3 v4, σ' = [some (.ref a), some (.bl f'), v2, v3, v4] ∧ 2 * ab'.sum + (if f' = true then 1 else 0) < 2 * ab1.sum + (if f = true then 1 else 0) ∧ Kp [c.b, c.t] H H' ∧ CloAt K H' a c L calm ops ab' tl' ∧ Dn ab' ∧ ab'.length = N ∧ tl' + ab'.sum ≤ 90000 ∧ Snd (Eqv L calm ops ini) ab' ∧
        (∀ x y, x < N → y < N → rt ab x = rt ab y → rt ab' x = rt ab' y) ∧ (f' = false → ∀ x y, Eqv L calm ops ini x y → rt ab' x = rt ab' y),
        fun σ' H' ⟨f', ab', tl', v2, v3, v4, e, lt, r⟩ => ⟨_, lt, f', ab', tl', v2, v3, v4, e, rfl, r⟩, ?_⟩
      intro D hD
      have S0 : St1 K ini N (upd H1 D (.dT [])) a c L calm ops D ab1 tl1 [] := ⟨C1.same (same_new hD), dn1, len1, bud1, snd1, upd_same, fun p u v x h => by cases h⟩
      obtain ⟨dx, ha⟩ := S0.clo.obj
      obtain ⟨os, ho1, ho2, ho3⟩ := S0.clo.ops_
      have hol : (refV os).length = ops.length := (List.length_map ..).trans ho2
      refine ⟨_, rfl, a, _, dx, _, _, rfl, ha, T.cl_Closing, T.na_Closing_operations, fsCl_operations .., c.o, _, rfl, .inl (SqL.of ho1), (ops.length : Nat), by rw [hol], by omega, by omega, ?_⟩
      refine for_range (n := ops.length) (fun i σ H' => ∃ f ab' tl' tb v3 v4, σ = [some (.ref a), some (.bl f), some (.ref D), v3, v4] ∧ LS K ini N (upd H1 D (.dT [])) ab1 [] H' a c L calm ops D ab' tl' tb f (18 * i) ∧
        (f = false → ∀ i' o, i' < i → ops[i']? = some o → ∀ s ∈ L.turns, ∀ p, p < 3 → Done1 calm ab1 N H' tb (tn o s) p)) ⟨false, ab1, tl1, [], _, _, rfl, LS.init S0, fun _ i' o h => absurd h (Nat.not_lt_zero _)⟩ ?_ ?_
      · rintro i σ H2 hi ⟨f2, ab2, tl2, tb2, v3, v4, rfl, S2, hd2⟩
        obtain ⟨dx2, ha2⟩ := S2.st.clo.obj
        obtain ⟨e1, as, hasl, has, hat⟩ := T.lot L
        rw [show (0 : Int) + (i : Nat) = (i : Nat) from by omega]
        refine ⟨_, rfl, a, _, dx2, _, _, rfl, ha2, T.cl_Closing, T.na_Closing_kind, fsCl_kind .., ?_⟩
        obtain ⟨dk, hk⟩ := S2.st.clo.kind
        refine ⟨c.k, dk, _, rfl, hk, c.k, L, calm, rfl, ⟨dk, hk⟩, _, rfl, ⟨_, has _⟩, ?_⟩
        refine for_tup (K := K) (xs := refV as) (fun k σ H' => ∃ f ab' tl' tb v4, σ = [some (.ref a), some (.bl f), some (.ref D), some (.int (i : Nat)), v4] ∧ LS K ini N (upd H1 D (.dT [])) ab1 [] H' a c L calm ops D ab' tl' tb f (18 * i + 3 * k) ∧
          (f = false → (∀ i' o, i' < i → ops[i']? = some o → ∀ s ∈ L.turns, ∀ p, p < 3 → Done1 calm ab1 N H' tb (tn o s) p) ∧ ∀ o, ops[i]? = some o → ∀ k' s, k' < k → L.turns[k']? = some s → ∀ p, p < 3 → Done1 calm ab1 N H' tb (tn o s) p)) ⟨f2, ab2, tl2, tb2, _, rfl, S2, fun e => ⟨hd2 e, fun o _ k' s h => absurd h (Nat.not_lt_zero _)⟩⟩
          (fun _ _ _ _ _ => has _) ?_ ?_
        · rintro k x σ H3 hx ⟨f3, ab3, tl3, tb3, v4, rfl, S3, hd3⟩
          have hka : k < as.length := by
            have := (List.getElem?_eq_some_iff.mp hx).1
            simpa [refV] using this
          have hk6 : k < 6 := by
            have : L.turns.length ≤ 6 := by cases L <;> decide
            omega
          have ex : x = .ref as[k] := by
            rw [List.getElem?_map, List.getElem?_eq_getElem hka] at hx
            exact (Option.some.inj hx).symm
          subst ex
          have hkt : k < L.turns.length := by rw [← hasl]; exact hka
          have hsa := hat k _ _ (List.getElem?_eq_getElem hka) (List.getElem?_eq_getElem hkt)
          obtain ⟨dx3, ha3⟩ := S3.st.clo.obj
          have oi := List.getElem?_eq_getElem hi
          have c3 := S3.cnt
          refine ⟨_, rfl, a, dx3, _, rfl, ha3, fsCl_entered .., _, rfl, _, rfl, _, rfl, ?_⟩
          refine ⟨a, D, as[k], i, c, L, calm, ops, ini, ab3, tl3, tb3, N, ops[i], L.turns[k], rfl, S3.st, oi, List.getElem_mem hkt, hsa, hN, by simp only [List.length_nil] at c3; omega, fun H4 ab4 tl4 tb4 f4 S4 hd4 => ⟨f4, rfl, ?_⟩⟩
          have S5 := S3.trans S4
          have fin : ∃ f ab' tl' tb v4, [some (V.ref a), some (.bl (f4 || f3)), some (.ref D), some (.int (i : Nat)), some (.ref as[k])] = [some (.ref a), some (.bl f), some (.ref D), some (.int (i : Nat)), v4] ∧ LS K ini N (upd H1 D (.dT [])) ab1 [] H4 a c L calm ops D ab' tl' tb f (18 * i + 3 * (k + 1)) ∧
            (f = false → (∀ i' o, i' < i → ops[i']? = some o → ∀ s ∈ L.turns, ∀ p, p < 3 → Done1 calm ab1 N H4 tb (tn o s) p) ∧ ∀ o, ops[i]? = some o → ∀ k' s, k' < k + 1 → L.turns[k']? = some s → ∀ p, p < 3 → Done1 calm ab1 N H4 tb (tn o s) p) := by
            refine ⟨_, ab4, tl4, tb4, _, rfl, S5.more (by omega), fun e => ?_⟩
            have e3 : f3 = false := by
              cases f3 <;> simp_all
            have e4 : f4 = false := by
              cases f4 <;> simp_all
            obtain ⟨g1, g2⟩ := hd3 e3
            have kE : ∀ x cc, EntAt H3 N x cc → EntAt H4 N x cc := fun x cc h => h.tup S3.st S4.kp
            have kT := (S4.no e4).2
            have eab := (S3.no e3).1
            refine ⟨fun i' o hi' ho s hs p hp => (g1 i' o hi' ho s hs p hp).keep kE kT, fun o ho k' s hk' hs p hp => ?_⟩
            by_cases hlt : k' < k
            · exact (g2 o ho k' s hlt hs p hp).keep kE kT
            · have ek : k' = k := by omega
              subst ek
              rw [List.getElem?_eq_getElem hi] at ho
              rw [List.getElem?_eq_getElem hkt] at hs
              cases ho
              cases hs
              have z := hd4 e4 p hp
              rw [eab] at z
              exact z
          refine iteB (fun h4 => ?_) (fun h4 => ?_)
          · subst h4
            exact fin
          · subst h4
            refine ⟨_, rfl, ?_⟩
            rw [Bool.false_or] at fin
            exact fin
        · rintro σ H3 ⟨f3, ab3, tl3, tb3, v4, rfl, S3, hd3⟩
          refine ⟨f3, ab3, tl3, tb3, _, _, rfl, S3.more ?_, fun e i' o hi' ho s hs p hp => ?_⟩
          · have h6 : L.turns.length ≤ 6 := by cases L <;> decide
            have : (refV as).length = L.turns.length := (List.length_map ..).trans hasl
            omega
          · obtain ⟨g1, g2⟩ := hd3 e
            by_cases hlt : i' < i
            · exact g1 i' o hlt ho s hs p hp
            · have ei : i' = i := by omega
              subst ei
              obtain ⟨k', hk', es⟩ := List.getElem_of_mem hs
              exact g2 o ho k' s (by rw [List.length_map, hasl]; exact hk') (by rw [List.getElem?_eq_getElem hk', es]) p hp
      · rintro σ H2 ⟨f2, ab2, tl2, tb2, v3, v4, rfl, S2, hd2⟩
        have kp2 : Kp [c.b, c.t] H1 H2 := fun b o h n => by
          have nD : b ≠ D := ne_of_none h hD
          refine S2.kp b o ((upd_ne nD).trans h) ?_
          simp only [List.mem_cons, List.not_mem_nil, or_false, not_or] at n ⊢
          exact ⟨n.1, n.2, nD⟩
        refine ⟨f2, ab2, tl2, _, _, _, rfl, ?_, kp1.trans kp2, S2.st.clo, S2.st.dn, S2.st.len, S2.st.bud, S2.st.snd, fun x y hx hy e => S2.mono x y hx hy (mono1 x y hx hy e), fun e x y h => ?_⟩
        · rw [if_pos hf]
          have le := S2.le
          cases f2 with
          | true =>
            have := S2.yes rfl
            rw [if_pos rfl]
            omega
          | false =>
            rw [if_neg Bool.false_ne_true]
            omega
        · rw [(S2.no e).1]
          refine closed_of (N := N) (H := H2) (tb := tb2) (fun x y hxy => ?_) (fun o ho s hs p hp => ?_) h
          · obtain ⟨a1, a2, a3⟩ := hini x y hxy
            exact mono1 x y a1 a2 a3
          · obtain ⟨i', hi', eo⟩ := List.getElem_of_mem ho
            exact hd2 e i' o hi' (by rw [List.getElem?_eq_getElem hi', eo]) s hs p hp
    · exact q H1 ab1 tl1 kp1 C1 dn1 len1 fun x y hx hy => ⟨fun e => snd1.eq KM.eqv_equ (by rw [len1]; exact hx) (by rw [len1]; exact hy) e, clo1 hf x y⟩
end
end K8
end

section
set_option Elab.async false
set_option linter.all false
set_option maxRecDepth 100000
set_option maxHeartbeats 8000000
/-! Closed tables: the def got. -/
namespace K8
open PySem PySem.Spec PyProof.Rows L2
open KM (T3 nth rt Dn mrg Eqv Snd Got)
theorem filt_le {α : Type} {p p' : α → Bool} : ∀ {l : List α}, (∀ x ∈ l, p' x = true → p x = true) → (l.filter p').length ≤ (l.filter p).length
  | [], _ => Nat.le_refl _
  | x :: l, h => by
    have ih := filt_le (l := l) fun y m => h y (List.mem_cons_of_mem _ m)
    have hx := h x List.mem_cons_self
    rw [List.filter_cons, List.filter_cons]
    by_cases c' : p' x = true
    · rw [if_pos c', if_pos (hx c')]
      simp only [List.length_cons]
      omega
    · rw [if_neg c']
      split
      · simp only [List.length_cons]
        omega
      · exact ih
theorem filt_lt {α : Type} {p p' : α → Bool} : ∀ {l : List α}, (∀ x ∈ l, p' x = true → p x = true) → (∃ x ∈ l, p x = true ∧ p' x = false) → (l.filter p').length < (l.filter p).length
  | [], _, ⟨_, m, _⟩ => by cases m
  | x :: l, h, ⟨y, m, hy1, hy2⟩ => by
    have hx := h x List.mem_cons_self
    have hl := fun z (mz : z ∈ l) => h z (List.mem_cons_of_mem _ mz)
    rw [List.filter_cons, List.filter_cons]
    rcases List.mem_cons.mp m with e | m
    · subst e
      rw [if_pos hy1, if_neg (by rw [hy2]; exact Bool.false_ne_true)]
      have := filt_le hl
      simp only [List.length_cons]
      omega
    · have ih := filt_lt hl ⟨y, m, hy1, hy2⟩
      by_cases c' : p' x = true
      · rw [if_pos c', if_pos (hx c')]
        simp only [List.length_cons]
        omega
      · rw [if_neg c']
        split
        · simp only [List.length_cons]
          omega
        · exact ih
theorem eqv_lt {L : KM.Lot} {calm : Bool} {ops : List T3} {ini : List (Nat × Nat)} {N : Nat} (hini : ∀ x y, (x, y) ∈ ini → x < N ∧ y < N) (hN : ∀ o ∈ ops, ∀ p, p < 3 → nth o p < N) {x y : Nat} (h : Eqv L calm ops ini x y) : x = y ∨ (x < N ∧ y < N) := by
  induction h with
  | base h => exact .inr (hini _ _ h)
  | refl => exact .inl rfl
  | symm _ ih => exact ih.elim (fun e => .inl e.symm) fun e => .inr ⟨e.2, e.1⟩
  | trans _ _ i1 i2 =>
    rcases i1 with rfl | i1
    · exact i2
    · rcases i2 with rfl | i2
      · exact .inr i1
      · exact .inr ⟨i1.1, i2.2⟩
  | @clash o o' s s' p ho ho' hs hs' _ _ => exact .inr ⟨hN o ho _ (KM.turn_lt _ s hs p), hN o' ho' _ (KM.turn_lt _ s' hs' p)⟩
  | @calm o s p q r _ ho hs _ _ _ _ _ => exact .inr ⟨hN o ho _ (KM.turn_lt _ s hs p), hN o ho _ (KM.turn_lt _ s hs q)⟩
/-- the root of x is a key -/
def Kn (ab : List Nat) (kvs : List (Key × V)) (x : Nat) : Prop := (valV kvs (Sum.inl ((rt ab x : Nat) : Int))).isSome = true
theorem Kn.put {ab : List Nat} {kvs : List (Key × V)} {x y : Nat} {v : V} : Kn ab (putK kvs (Sum.inl ((rt ab y : Nat) : Int)) v) x ↔ rt ab x = rt ab y ∨ Kn ab kvs x := by
  unfold Kn
  rw [valV_put]
  by_cases e : rt ab x = rt ab y
  · rw [if_pos (by rw [e])]
    exact ⟨fun _ => .inl e, fun _ => rfl⟩
  · rw [if_neg (fun z => e (by injection z with z; omega))]
    exact ⟨fun h => .inr h, fun h => h.resolve_left e⟩
/-- how many things are not known -/
def cntN (ab : List Nat) (N : Nat) (kvs : List (Key × V)) : Nat := ((List.range N).filter fun x => (valV kvs (Sum.inl ((rt ab x : Nat) : Int))).isNone).length
theorem cnt_le (ab : List Nat) (N : Nat) (kvs : List (Key × V)) : cntN ab N kvs ≤ N := by
  have := List.length_filter_le (fun x => (valV kvs (Sum.inl ((rt ab x : Nat) : Int))).isNone) (List.range N)
  rw [List.length_range] at this
  exact this
theorem cnt_put {ab : List Nat} {N : Nat} {kvs : List (Key × V)} {y : Nat} {v : V} (hy : y < N) (hn : ¬ Kn ab kvs y) : cntN ab N (putK kvs (Sum.inl ((rt ab y : Nat) : Int)) v) < cntN ab N kvs := by
  refine filt_lt (fun x _ h => ?_) ⟨y, List.mem_range.mpr hy, ?_, ?_⟩
  · rw [valV_put] at h
    split at h
    · cases h
    · exact h
  · unfold Kn at hn
    cases e : valV kvs (Sum.inl ((rt ab y : Nat) : Int)) with
    | none => rfl
    | some z => rw [e] at hn; exact absurd rfl hn
  · rw [valV_put, if_pos rfl]
    rfl
abbrev lac (ab : List Nat) (kvs : List (Key × V)) (o : T3) : List Nat := (List.range 3).filter fun q => (valV kvs (Sum.inl ((rt ab (nth o q) : Nat) : Int))).isNone
theorem filt3 (b : Nat → Bool) : (List.range 3).filter b = (if b 0 = true then [0] else []) ++ ((if b 1 = true then [1] else []) ++ (if b 2 = true then [2] else [])) := by
  have e : List.range 3 = [0, 1, 2] := rfl
  rw [e]
  cases h0 : b 0 <;> cases h1 : b 1 <;> cases h2 : b 2 <;> simp [List.filter, h0, h1, h2]
theorem lac_one {b : Nat → Bool} (h : ((List.range 3).filter b).length = 1) : ∃ p, p < 3 ∧ (List.range 3).filter b = [p] ∧ b p = true ∧ ∀ q, q < 3 → q ≠ p → b q = false := by
  obtain ⟨p, e⟩ := List.length_eq_one_iff.mp h
  have m : p ∈ (List.range 3).filter b := by rw [e]; exact List.mem_singleton_self p
  obtain ⟨m1, m2⟩ := List.mem_filter.mp m
  refine ⟨p, List.mem_range.mp m1, e, m2, fun q hq n => ?_⟩
  cases c : b q with
  | false => rfl
  | true =>
    have m3 : q ∈ (List.range 3).filter b := List.mem_filter.mpr ⟨List.mem_range.mpr hq, c⟩
    rw [e] at m3
    exact absurd (List.mem_singleton.mp m3) n
theorem lac_of {b : Nat → Bool} {p : Nat} (hp : p < 3) (h1 : b p = true) (h2 : ∀ q, q < 3 → q ≠ p → b q = false) : ((List.range 3).filter b).length = 1 := by
  rw [filt3]
  match p, hp with
  | 0, _ => rw [h1, h2 1 (by decide) (by decide), h2 2 (by decide) (by decide)]; rfl
  | 1, _ => rw [h1, h2 0 (by decide) (by decide), h2 2 (by decide) (by decide)]; rfl
  | 2, _ => rw [h1, h2 0 (by decide) (by decide), h2 1 (by decide) (by decide)]; rfl
instance (ab : List Nat) (kvs : List (Key × V)) (x : Nat) : Decidable (Kn ab kvs x) := by unfold Kn; infer_instance
/-- closed under one triple -/
def Shut (ab : List Nat) (kvs : List (Key × V)) (o : T3) : Prop := ∀ p, p < 3 → (∀ q, q < 3 → q ≠ p → Kn ab kvs (nth o q)) → Kn ab kvs (nth o p)
theorem shut_of {ab : List Nat} {kvs : List (Key × V)} {o : T3} (h : (lac ab kvs o).length ≠ 1) : Shut ab kvs o := by
  intro p hp hq
  apply Decidable.byContradiction
  intro hn
  refine h (lac_of hp ?_ fun q hq' n => ?_)
  · unfold Kn at hn
    cases e : valV kvs (Sum.inl ((rt ab (nth o p) : Nat) : Int)) with
    | none => rfl
    | some z => rw [e] at hn; exact absurd rfl hn
  · have z := hq q hq' n
    unfold Kn at z
    cases e : valV kvs (Sum.inl ((rt ab (nth o q) : Nat) : Int)) with
    | none => rw [e] at z; cases z
    | some z => rfl
/-- what stands known, when nothing more comes, is what is got -/
theorem got_known {L : KM.Lot} {calm : Bool} {ops : List T3} {ini : List (Nat × Nat)} {N : Nat} {ab : List Nat} {kvs : List (Key × V)} {ths : List Nat} (hini : ∀ x y, (x, y) ∈ ini → x < N ∧ y < N) (hN : ∀ o ∈ ops, ∀ p, p < 3 → nth o p < N)
    (hE : ∀ x y, x < N → y < N → (rt ab x = rt ab y ↔ Eqv L calm ops ini x y)) (hT : ∀ x ∈ ths, x < N ∧ Kn ab kvs x) (hS : ∀ o ∈ ops, Shut ab kvs o) {x : Nat} (h : Got L calm ops ini (· ∈ ths) x) : x < N ∧ Kn ab kvs x := by
  induction h with
  | base h => exact hT _ h
  | @step o p ho _ ih => exact ⟨hN o ho _ p.isLt, hS o ho _ p.isLt fun q hq n => (ih ⟨q, hq⟩ fun e => n (congrArg Fin.val e)).2⟩
  | eqv _ e ih =>
    rcases eqv_lt hini hN e with rfl | ⟨h1, h2⟩
    · exact ih
    · refine ⟨h2, ?_⟩
      have z := ih.2
      unfold Kn at z ⊢
      rw [← (hE _ _ h1 h2).mpr e]
      exact z
section
variable {P : Program} {w : World} {K : PySem.W.Frag} {mg : Str → Option Value} {base : Heap}
def spGot (K : PySem.W.Frag) : Sp := fun vs H Q _ => ∃ (a l : Addr) (c : CA) (L : KM.Lot) (calm : Bool) (ops : List T3) (ini : List (Nat × Nat)) (ab : List Nat) (tl N : Nat) (ths : List Nat), vs = [.ref a, .ref l] ∧ CloAt K H a c L calm ops ab tl ∧ Dn ab ∧ ab.length = N ∧ N ≤ 1000 ∧
  (∀ x y, (x, y) ∈ ini → x < N ∧ y < N) ∧ (∀ o ∈ ops, ∀ p, p < 3 → nth o p < N) ∧ (∀ x y, x < N → y < N → (rt ab x = rt ab y ↔ Eqv L calm ops ini x y)) ∧ H l = some (.lst (natV ths)) ∧ (∀ x ∈ ths, x < N) ∧ ths.length ≤ 100 ∧
  ∀ H' p D S kvs, Same H H' → H' p = some (.tup [.ref D, .ref S]) → H' D = some (.dK kvs) → (∃ st, H' S = some (.lst st)) → (∀ x, x < N → (Kn ab kvs x ↔ Got L calm ops ini (· ∈ ths) x)) → Q (.ref p) H'
abbrev N_Closing_got : List Str := ["self", "things", "known", "steps", "found", "number", "triple", "lacking", "thing", "place"]
theorem sc_Closing_got : FnScope N_Closing_got ["self", "things"] (defScope s_Closing_got) := ⟨rfl, rfl, rfl, by decide +kernel, rfl, by decide +kernel, by decide +kernel⟩
-- slots: 0 self, 1 things, 2 known, 3 steps, 4 found, 5 number, 6 triple, 7 lacking, 8 thing, 9 place
theorem ok_Closing_got (T : Tx w K mg) : Ok P w K mg base 2 (a_Closing_got K) ["self", "things"] [] (spGot K) := by
  obtain ⟨_, _, F_Closing_root, b_Closing_root, v_Closing_root, k_Closing_root⟩ := ok_Closing_root (P := P) (base := base) T
  refine Ok.of T.f_Closing_got (fun z F => okBody F sc_Closing_got (fun vs H Q E h => ?_) fun cdv A outer s H vs Q E hr h => ?_) rfl fun _ _ _ _ _ _ us hl => match us, hl with | [_, _], _ => rfl
  · obtain ⟨a, l, c, L, calm, ops, ini, ab, tl, N, ths, rfl, _⟩ := h
    rfl
  · obtain ⟨a, l, c, L, calm, ops, ini, ab, tl, N, ths, rfl, C, dn, hlen, hN1, hini, hN, hE, hl, hths, h100, q⟩ := h
    have lN : ∀ x, x < N → x < ab.length := fun x hx => by rw [hlen]; exact hx
    refine ⟨_, (pss_cons (ps_set (i := 2) sc_Closing_got.nd rfl (by first | exact Or.inl rfl | exact Or.inr rfl) (pe_dcB (own := [("thing", 8)]) rfl sc_Closing_got.nd (pi_list (pv 1)) (blkOk_by (own := [("thing", 8)]) (N := N_Closing_got) (sc := defScope s_Closing_got) (by decide +kernel)) (fun _ _ _ _ _ => (pg_name (i := 8) sc_Closing_got.nd rfl (by first | exact Or.inl rfl | exact Or.inr rfl))) (fun _ _ _ _ _ => pts_nil) (fun _ _ _ _ _ => (pe_meth (pv 0) T.cl_Closing T.mt_Closing_root F_Closing_root (hr.mono (by decide)) b_Closing_root v_Closing_root pass0 (pa_cons (pv 8) pa_nil))) (fun _ _ _ _ _ => pe_bl)))
 (pss_cons (ps_set (i := 3) sc_Closing_got.nd rfl (by first | exact Or.inl rfl | exact Or.inr rfl) (pe_lst pa_nil))
 (pss_cons (ps_set (i := 4) sc_Closing_got.nd rfl (by first | exact Or.inl rfl | exact Or.inr rfl) pe_bl)
 (pss_cons (ps_while PassesOwn.never (pt_val (pv 4)) (pss_cons (ps_set (i := 4) sc_Closing_got.nd rfl (by first | exact Or.inl rfl | exact Or.inr rfl) pe_bl)
 (pss_one (ps_for PassesOwn.never rfl (pi_enum (by rfl) T.b_enumerate (pa_cons (pe_fld (pv 0) rfl) pa_nil)) (pg_tup rfl (pgs_cons (pg_name (i := 5) sc_Closing_got.nd rfl (by first | exact Or.inl rfl | exact Or.inr rfl)) (pgs_cons (pg_name (i := 6) sc_Closing_got.nd rfl (by first | exact Or.inl rfl | exact Or.inr rfl)) pgs_nil))) (pss_cons (ps_setLcB (i := 7) (own := [("place", 9)]) rfl sc_Closing_got.nd rfl rfl (sw_true rfl rfl rfl (by decide +kernel)) (pi_tup (C8.pe_gc rfl T.v_PLACES)) (blkOk_by (own := [("place", 9)]) (N := N_Closing_got) (sc := defScope s_Closing_got) (by decide +kernel)) (fun _ _ _ _ _ => (pg_name (i := 9) sc_Closing_got.nd rfl (by first | exact Or.inl rfl | exact Or.inr rfl))) (fun _ _ _ _ _ => (pts_one (pt_cmp (pc_dnotin (hu_of hr) (pe_meth (pv 0) T.cl_Closing T.mt_Closing_root F_Closing_root (hr.mono (by decide)) b_Closing_root v_Closing_root pass0 (pa_cons (pe_ix ix_tup (pv 6) (pv 9) (fun _ _ => rfl)) pa_nil)) (pv 2))))) (fun _ _ _ _ _ => (pv 9)))
 (pss_one (ps_if (pt_cmpR op_eq (pe_callB call_len_seq (by rfl) T.b_len (by decide +kernel) (pa_cons (pv 7) pa_nil)) pe_int (nomark _)) (pss_cons (ps_dput (hu_of hr) (pv 2) (pe_meth (pv 0) T.cl_Closing T.mt_Closing_root F_Closing_root (hr.mono (by decide)) b_Closing_root v_Closing_root pass0 (pa_cons (pe_ix ix_tup (pv 6) (pe_ix ix_list (pv 7) pe_int (fun _ _ => rfl)) (fun _ _ => rfl)) pa_nil)) pe_bl rfl)
 (pss_cons (ps_expr (pe_bm PySem.F.plainAttrs_list PySem.F.slot_list_append PySem.F.type_list_append mt_append (pv 3) (pa_cons (pe_tup (pa_cons (pv 5) (pa_cons (pe_ix ix_list (pv 7) pe_int (fun _ _ => rfl)) pa_nil))) pa_nil)))
 (pss_one (ps_set (i := 4) sc_Closing_got.nd rfl (by first | exact Or.inl rfl | exact Or.inr rfl) pe_bl)))) pss_nil)))))))
 (pss_one (ps_ret (pe_tup (pa_cons (pv 2) (pa_cons (pv 3) pa_nil))))))))), ?_⟩
    refine ⟨_, rfl, l, rfl, ⟨_, SqL.of hl⟩, fun D hD => ?_⟩
    have hlD : l ≠ D := ne_of_none hl hD
    refine dc_it (walk_list (xs := natV ths)) (fun i H' => ∃ kvs, H' = upd H D (.dK kvs) ∧ kvs.length ≤ i ∧ (∀ x, x < N → Kn ab kvs x → Got L calm ops ini (· ∈ ths) x) ∧ ∀ (j x : Nat), j < i → ths[j]? = some x → Kn ab kvs x) ⟨[], rfl, Nat.le_refl _, fun x _ h => (by cases h), fun j _ h => absurd h (Nat.not_lt_zero _)⟩
      (fun i H' _ ⟨kvs, e, _⟩ => by rw [e]; exact SqL.of ((upd_ne hlD).trans hl)) ?_ ?_
    · rintro i x H' H2 hi ⟨kvs, rfl, hk, hs, hc⟩ ⟨rfl, hx⟩
      have hi2 : i < ths.length := by simpa [natV] using hi
      have ex : x = .int (ths[i] : Nat) := by
        rw [List.getElem?_map, List.getElem?_eq_getElem hi2] at hx
        exact (Option.some.inj hx).symm
      subst ex
      have hm : ths[i] ∈ ths := List.getElem_mem hi2
      have C1 := C.same (same_new (o := .dK kvs) hD)
      obtain ⟨dx, ha⟩ := C1.obj
      refine ⟨rfl, _, rfl, a, dx, _, rfl, ha, fsCl_root .., _, rfl, a, c, L, calm, ops, ab, tl, ths[i], rfl, C1, dn, lN _ (hths _ hm), kvs, Sum.inl ((rt ab ths[i] : Nat) : Int), rfl, upd_same, sl2 (by omega), _, upd_upd, Nat.le_trans (length_putK _ _ _) (by omega), fun x hx h => ?_, fun j x hj hjx => ?_⟩
      · rcases Kn.put.mp h with e | h
        · exact .eqv (.base hm) ((hE _ _ (hths _ hm) hx).mp e.symm)
        · exact hs x hx h
      · by_cases e : j < i
        · exact Kn.put.mpr (.inr (hc j x e hjx))
        · have e2 : j = i := by omega
          subst e2
          rw [List.getElem?_eq_getElem hi2] at hjx
          cases hjx
          exact Kn.put.mpr (.inl rfl)
    · rintro H2 ⟨kvs, rfl, hk, hs, hc⟩
      have hall : ∀ x ∈ ths, x < N ∧ Kn ab kvs x := fun x hx => by
        obtain ⟨j, hj, e⟩ := List.getElem_of_mem hx
        exact ⟨hths x hx, hc j x (by rw [List.length_map]; exact hj) (by rw [List.getElem?_eq_getElem hj, e])⟩
      have hk1 : kvs.length ≤ 100 := by
        rw [List.length_map] at hk
        omega
      refine ⟨by show 0 ≤ sizeLine; decide, fun S hS => ?_⟩
      have hSD : S ≠ D := fun e => by
        rw [e, upd_same] at hS
        cases hS
      have hS0 : H S = none := same_none (same_new hD) hS
      refine ⟨fun m σ H' => ∃ f kvs st v5 v6 v7 v8 v9, σ = [some (.ref a), some (.ref l), some (.ref D), some (.ref S), some (.bl f), v5, v6, v7, v8, v9] ∧ m = 2 * cntN ab N kvs + (if f = true then 1 else 0) ∧ Same H H' ∧ H' D = some (.dK kvs) ∧ H' S = some (.lst st) ∧
        (∀ x, x < N → Kn ab kvs x → Got L calm ops ini (· ∈ ths) x) ∧ (∀ x ∈ ths, Kn ab kvs x) ∧ kvs.length ≤ 100 + st.length ∧ st.length + cntN ab N kvs ≤ N ∧ (f = false → ∀ o ∈ ops, Shut ab kvs o),
        ⟨_, true, kvs, [], _, _, _, _, _, rfl, rfl, same_upd (same_new hD) hS0, (upd_ne hSD.symm).trans upd_same, upd_same, hs, fun x hx => (hall x hx).2, by simpa using hk1, by simpa using cnt_le ab N kvs, fun e => by cases e⟩, ?_⟩
      clear hs hc hall hk1 hk
      rintro m σ H1 ⟨f, kvs1, st1, v5, v6, v7, v8, v9, rfl, rfl, s1, d1, l1, sd1, ct1, kl1, sc1, sh1⟩
      refine ⟨_, rfl, f, rfl, iteB (fun hf => ?_) (fun hf => ?_)⟩
      · refine ⟨fun σ' H' => ∃ f' kvs st v5 v6 v7 v8 v9, σ' = [some (.ref a), some (.ref l), some (.ref D), some (.ref S), some (.bl f'), v5, v6, v7, v8, v9] ∧ 2 * cntN ab N kvs + (if f' = true then 1 else 0) < 2 * cntN ab N kvs1 + (if f = true then 1 else 0) ∧ Same H H' ∧ H' D = some (.dK kvs) ∧ H' S = some (.lst st) ∧
          (∀ x, x < N → Kn ab kvs x → Got L calm ops ini (· ∈ ths) x) ∧ (∀ x ∈ ths, Kn ab kvs x) ∧ kvs.length ≤ 100 + st.length ∧ st.length + cntN ab N kvs ≤ N ∧ (f' = false → ∀ o ∈ ops, Shut ab kvs o),
          fun σ' H' ⟨f', kvs, st, v5, v6, v7, v8, v9, e, lt, r⟩ => ⟨_, lt, f', kvs, st, v5, v6, v7, v8, v9, e, rfl, r⟩, ?_⟩
        have C1 := C.same s1
        obtain ⟨dx, ha⟩ := C1.obj
        obtain ⟨os, ho1, ho2, ho3⟩ := C.ops_
        refine ⟨_, rfl, a, _, dx, _, _, rfl, ha, T.cl_Closing, T.na_Closing_operations, fsCl_operations .., c.o, _, rfl, SqL.of (s1 _ _ ho1), ?_⟩
        refine for_enumL (xs := refV os) (fun i σ H' => ∃ f kvs st v5 v6 v7 v8 v9, σ = [some (.ref a), some (.ref l), some (.ref D), some (.ref S), some (.bl f), v5, v6, v7, v8, v9] ∧ Same H H' ∧ H' D = some (.dK kvs) ∧ H' S = some (.lst st) ∧
          (∀ x, x < N → Kn ab kvs x → Got L calm ops ini (· ∈ ths) x) ∧ (∀ x ∈ ths, Kn ab kvs x) ∧ kvs.length ≤ 100 + st.length ∧ st.length + cntN ab N kvs ≤ N ∧ cntN ab N kvs ≤ cntN ab N kvs1 ∧ (f = true → cntN ab N kvs < cntN ab N kvs1) ∧ (f = false → kvs = kvs1 ∧ ∀ (i' : Nat) (o : T3), i' < i → ops[i']? = some o → Shut ab kvs1 o))
          ⟨false, kvs1, st1, _, _, _, _, _, rfl, s1, d1, l1, sd1, ct1, kl1, sc1, Nat.le_refl _, fun e => (by cases e), fun _ => ⟨rfl, fun i' o h => absurd h (Nat.not_lt_zero _)⟩⟩ (fun i σ H' _ ⟨_, _, _, _, _, _, _, _, _, s, _⟩ => SqL.of (s _ _ ho1)) ?_ ?_
        · rintro i x tt σ H2 hx ⟨f2, kvs2, st2, v5, v6, v7, v8, v9, rfl, s2, d2, l2, sd2, ct2, kl2, sc2, le2, yes2, no2⟩ htt
          have hio : i < os.length := by
            have := (List.getElem?_eq_some_iff.mp hx).1
            simpa [refV] using this
          have hil : i < ops.length := by rw [← ho2]; exact hio
          have ex : x = .ref os[i] := by
            rw [List.getElem?_map, List.getElem?_eq_getElem hio] at hx
            exact (Option.some.inj hx).symm
          subst ex
          have oi := ho3 i _ _ (List.getElem?_eq_getElem hio) (List.getElem?_eq_getElem hil)
          have omem : ops[i] ∈ ops := List.getElem_mem hil
          have oiE := List.getElem?_eq_getElem hil
          generalize ops[i] = o at oi omem oiE
          -- the pair of enumerate
          generalize hH3 : upd H2 tt (.tup [.int (i : Nat), .ref os[i]]) = H3
          have s23 : Same H2 H3 := by
            rw [← hH3]
            exact same_new htt
          have t3 : H3 tt = some (.tup [.int (i : Nat), .ref os[i]]) := by
            rw [← hH3]
            exact upd_same
          have d3 := s23 _ _ d2
          have l3 := s23 _ _ l2
          have s3 := s2.trans s23
          refine ⟨tt, _, rfl, SqT.of t3, rfl, _, _, rfl, _, _, rfl, rfl, ?_⟩
          refine ⟨_, rfl, ⟨_, T.PLACES.1 _⟩, fun lk hlk => ?_⟩
          refine lc_tup (K := K) (xs := [.int 0, .int 1, .int 2]) (fun k H'' => H'' = upd H3 lk (.lst (natV ((List.range k).filter fun q => (valV kvs2 (Sum.inl ((rt ab (nth o q) : Nat) : Int))).isNone)))) rfl (fun _ _ _ _ => T.PLACES.1 _) ?_ ?_
          · rintro k x H'' hx rfl
            have hk : k < 3 := (List.getElem?_eq_some_iff.mp hx).1
            have ex : x = .int (k : Nat) := by
              match k, hk with
              | 0, _ => exact (Option.some.inj hx).symm
              | 1, _ => exact (Option.some.inj hx).symm
              | 2, _ => exact (Option.some.inj hx).symm
            subst ex
            have s34 : Same H3 (upd H3 lk (.lst (natV ((List.range k).filter fun q => (valV kvs2 (Sum.inl ((rt ab (nth o q) : Nat) : Int))).isNone)))) := same_new hlk
            have s4 := s3.trans s34
            have C4 := C.same s4
            obtain ⟨dx4, ha4⟩ := C4.obj
            refine ⟨rfl, _, rfl, a, dx4, _, rfl, ha4, fsCl_root .., _, rfl, _, rfl, os[i], _, _, _, rfl, rfl, SqT.of (s4 _ _ oi), t3V_at hk, a, c, L, calm, ops, ab, tl, nth o k, rfl, C4, dn, lN _ (hN o omem k hk), _, rfl, D, _, rfl, DGet.k (k := Sum.inl ((rt ab (nth o k) : Nat) : Int)) (s34 _ _ d3), _, rfl, iteB (fun hb => ?_) (fun hb => ?_)⟩
            · refine ⟨_, rfl, _, upd_same, sl2 ?_, ?_⟩
              · have := List.length_filter_le (fun q => (valV kvs2 (Sum.inl ((rt ab (nth o q) : Nat) : Int))).isNone) (List.range k)
                rw [List.length_map]
                rw [List.length_range] at this
                omega
              · have e1 : (valV kvs2 (Sum.inl ((rt ab (nth o k) : Nat) : Int))).isNone = true := by
                  cases e : valV kvs2 (Sum.inl ((rt ab (nth o k) : Nat) : Int)) with
                  | none => rfl
                  | some z => rw [e] at hb; cases hb
                rw [upd_upd, List.range_succ, List.filter_append]
                simp only [List.filter_cons, List.filter_nil, e1, natV, List.map_append, if_true, List.map_cons, List.map_nil]
            · have e1 : (valV kvs2 (Sum.inl ((rt ab (nth o k) : Nat) : Int))).isNone = false := by
                cases e : valV kvs2 (Sum.inl ((rt ab (nth o k) : Nat) : Int)) with
                | none => rw [e] at hb; cases hb
                | some z => rfl
              rw [List.range_succ, List.filter_append]
              simp only [List.filter_cons, List.filter_nil, e1, Bool.false_eq_true, if_false, List.append_nil]
          · rintro H'' rfl
            have e3 : (([.int 0, .int 1, .int 2] : List V)).length = 3 := rfl
            rw [e3]
            have s34 : Same H3 (upd H3 lk (.lst (natV (lac ab kvs2 o)))) := same_new hlk
            have s4 := s3.trans s34
            have d4 := s34 _ _ d3
            have l4 := s34 _ _ l3
            have lk4 : (upd H3 lk (.lst (natV (lac ab kvs2 o)))) lk = some (.lst (natV (lac ab kvs2 o))) := upd_same
            have C4 := C.same s4
            obtain ⟨dx4, ha4⟩ := C4.obj
            have eL : (natV (lac ab kvs2 o)).length = (lac ab kvs2 o).length := List.length_map ..
            refine ⟨_, rfl, lk, _, rfl, .inl (SqL.of lk4), rfl, _, rfl, iteB (fun hb => ?_) (fun hb => ?_)⟩
            · have h1 : (lac ab kvs2 o).length = 1 := by
                have z := of_decide_eq_true hb
                injection z with z
                omega
              obtain ⟨p, hp, ep, bp, bq⟩ := lac_one h1
              have ep : lac ab kvs2 o = [p] := ep
              have at0 : atI (natV (lac ab kvs2 o)) 0 = some (V.int (p : Nat)) := by
                rw [ep]
                exact natV_at (x := 0) rfl
              have nk : ¬ Kn ab kvs2 (nth o p) := fun z => by
                unfold Kn at z
                cases e : valV kvs2 (Sum.inl ((rt ab (nth o p) : Nat) : Int)) with
                | none => rw [e] at z; cases z
                | some y => rw [e] at bp; cases bp
              have yk : ∀ q, q < 3 → q ≠ p → Kn ab kvs2 (nth o q) := fun q hq n => by
                have z := bq q hq n
                unfold Kn
                cases e : valV kvs2 (Sum.inl ((rt ab (nth o q) : Nat) : Int)) with
                | none => rw [e] at z; cases z
                | some y => rfl
              have gp : Got L calm ops ini (· ∈ ths) (nth o p) := Got.step (p := ⟨p, hp⟩) omem fun q n => sd2 _ (hN o omem _ q.isLt) (yk q.val q.isLt fun e => n (Fin.ext e))
              have pN := hN o omem p hp
              refine ⟨_, rfl, _, rfl, a, dx4, _, rfl, ha4, fsCl_root .., _, rfl, _, rfl, lk, _, _, _, rfl, rfl, SqL.of lk4, at0, os[i], _, _, _, rfl, rfl, SqT.of (s4 _ _ oi), t3V_at hp, a, c, L, calm, ops, ab, tl, nth o p, rfl, C4, dn, lN _ pN, D, _, rfl, DPut.k (k := Sum.inl ((rt ab (nth o p) : Nat) : Int)) d4 (sl2 (by omega)), ?_⟩
              have n1 : lk ≠ D := fun e => by
                rw [e, d3] at hlk
                cases hlk
              have n2 : S ≠ D := hSD
              have l5 : (upd (upd H3 lk (.lst (natV (lac ab kvs2 o)))) D (.dK (putK kvs2 (Sum.inl ((rt ab (nth o p) : Nat) : Int)) (.bl true)))) S = some (.lst st2) := (upd_ne n2).trans l4
              have lk5 : (upd (upd H3 lk (.lst (natV (lac ab kvs2 o)))) D (.dK (putK kvs2 (Sum.inl ((rt ab (nth o p) : Nat) : Int)) (.bl true)))) lk = some (.lst (natV (lac ab kvs2 o))) := (upd_ne n1).trans lk4
              have d5 : (upd (upd H3 lk (.lst (natV (lac ab kvs2 o)))) D (.dK (putK kvs2 (Sum.inl ((rt ab (nth o p) : Nat) : Int)) (.bl true)))) D = some (.dK (putK kvs2 (Sum.inl ((rt ab (nth o p) : Nat) : Int)) (.bl true))) := upd_same
              have s5 : Same H (upd (upd H3 lk (.lst (natV (lac ab kvs2 o)))) D (.dK (putK kvs2 (Sum.inl ((rt ab (nth o p) : Nat) : Int)) (.bl true)))) := same_upd s4 hD
              refine ⟨_, rfl, .inl ⟨rfl, _, SqL.of l5⟩, _, rfl, _, rfl, lk, _, _, _, rfl, rfl, SqL.of lk5, at0, by show 2 ≤ sizeLine; decide, fun pt hpt => ?_⟩
              have l6 := (upd_ne (o := .tup [.int (i : Nat), .int (p : Nat)]) (ne_of_none l5 hpt)).trans l5
              have d6 := (upd_ne (o := .tup [.int (i : Nat), .int (p : Nat)]) (ne_of_none d5 hpt)).trans d5
              have c6 := cnt_put (v := .bl true) pN nk
              refine ⟨S, st2, _, rfl, rfl, l6, sl2 (by omega), true, putK kvs2 (Sum.inl ((rt ab (nth o p) : Nat) : Int)) (.bl true), st2 ++ [.ref pt], _, _, _, _, _, rfl, same_upd (same_upd s5 (same_none s5 hpt)) hS0, (upd_ne n2.symm).trans d6, upd_same, fun x hx h => ?_, fun x hx => Kn.put.mpr (.inr (ct2 x hx)), ?_, ?_, by omega, fun _ => by omega, fun e => by cases e⟩
              · rcases Kn.put.mp h with e | h
                · exact .eqv gp ((hE _ _ pN hx).mp e.symm)
                · exact sd2 x hx h
              · have := length_putK kvs2 (Sum.inl ((rt ab (nth o p) : Nat) : Int)) (.bl true)
                simp only [List.length_append, List.length_singleton]
                omega
              · simp only [List.length_append, List.length_singleton]
                omega
            · have h1 : (lac ab kvs2 o).length ≠ 1 := fun z => by
                have y := of_decide_eq_false hb
                refine y ?_
                rw [eL, z]
                rfl
              refine ⟨f2, kvs2, st2, _, _, _, _, _, rfl, s4, d4, l4, sd2, ct2, kl2, sc2, le2, yes2, fun e => ?_⟩
              obtain ⟨z1, z2⟩ := no2 e
              refine ⟨z1, fun i' o' hi' ho' => ?_⟩
              by_cases hlt : i' < i
              · exact z2 i' o' hlt ho'
              · have ei : i' = i := by omega
                subst ei
                rw [oiE] at ho'
                cases ho'
                rw [← z1]
                exact shut_of h1
        · rintro σ H2 ⟨f2, kvs2, st2, v5, v6, v7, v8, v9, rfl, s2, d2, l2, sd2, ct2, kl2, sc2, le2, yes2, no2⟩
          refine ⟨f2, kvs2, st2, _, _, _, _, _, rfl, ?_, s2, d2, l2, sd2, ct2, kl2, sc2, fun e o ho => ?_⟩
          · rw [if_pos hf]
            cases f2 with
            | true =>
              have := yes2 rfl
              rw [if_pos rfl]
              omega
            | false =>
              rw [if_neg Bool.false_ne_true]
              omega
          · obtain ⟨e1, e2⟩ := no2 e
            obtain ⟨i', hi', eo⟩ := List.getElem_of_mem ho
            rw [e1]
            exact e2 i' o (by rw [List.length_map, ho2]; exact hi') (by rw [List.getElem?_eq_getElem hi', eo])
      · refine ⟨_, rfl, _, rfl, by show 2 ≤ sizeLine; decide, fun p hp => ?_⟩
        exact q _ p D S kvs1 (same_upd s1 (same_none s1 hp)) upd_same ((upd_ne (ne_of_none d1 hp)).trans d1) ⟨st1, (upd_ne (ne_of_none l1 hp)).trans l1⟩ fun x hx => ⟨sd1 x hx, fun g => (got_known hini hN hE (fun x hx => ⟨hths x hx, ct1 x hx⟩) (sh1 hf) g).2⟩
end
end K8
end

section
set_option Elab.async false
set_option linter.all false
set_option maxRecDepth 100000
set_option maxHeartbeats 4000000
/-! Tables of formulas: triples, numbers. -/
namespace K8
open PySem PySem.Spec PyProof.Rows L2
open KM (T3 nth rt Dn mrg Eqv Snd Got Fm Sg sz triN)
theorem bind0 {K : PySem.W.Frag} {z : FuncData} {ps : List Str} {ds : List Value} (b : L2.Binds K z ps ds) (v : Vals [] ds) : L2.Binds K z ps [] := by
  cases v
  exact b
theorem DGet.s {H : Hp} {a : Addr} {kvs : List (Key × V)} {z : Str} {v : V} (h : H a = some (.dK kvs)) (e : valV kvs (Sum.inr z) = some v) : DGet H a (.str z) (some v) := .inl ⟨kvs, .inr z, .inl h, rfl, e.symm⟩
theorem sgV {s : Sg} {z : Str} (h : sgS s = z) : V.bl (decide (V.str (sgS s) = V.str z)) = V.bl true := by rw [h, decide_eq_true rfl]
theorem sgV0 {s : Sg} {z : Str} (h : sgS s ≠ z) : V.bl (decide (V.str (sgS s) = V.str z)) = V.bl false := by
  rw [decide_eq_false]
  intro e
  injection e with e
  exact h e
section
variable {P : Program} {w : World} {K : PySem.W.Frag} {mg : Str → Option Value} {base : Heap}
/-- the operation's object and its sides -/
theorem FmAt.opAt {H : Hp} {a : Addr} {s : Sg} {l r : FmS} (h : FmAt K H a (.op s l r)) : ∃ dx b c t, H a = some (.ins (CFormula K) dx (fsFm .non (sgS s) (.ref b) (.ref c) t (txt (.op s l r)))) ∧ FmAt K H b l ∧ FmAt K H c r :=
  let ⟨dx, b, c, t, _, h1, h2, h3, _⟩ := h
  ⟨dx, b, c, t, h1, h2, h3⟩
theorem FmAt.ins {H : Hp} {a : Addr} {F : FmS} (h : FmAt K H a F) : ∃ dx fs, H a = some (.ins (CFormula K) dx fs) := let ⟨dx, _, _, _, _, _, h1, _⟩ := h.look; ⟨dx, _, h1⟩
def spTripleOf (K : PySem.W.Frag) : Sp := fun vs H Q _ => ∃ (a D : Addr) (s : Sg) (l r : FmS) (kvs : List (Key × V)) (i j k : Nat), vs = [.ref a, .ref D] ∧ FmAt K H a (.op s l r) ∧ Leafs (.op s l r) ∧ sz (.op s l r) ≤ 8 ∧ H D = some (.dK kvs) ∧
  valV kvs (Sum.inr (txt l)) = some (.int (i : Nat)) ∧ valV kvs (Sum.inr (txt r)) = some (.int (j : Nat)) ∧ valV kvs (Sum.inr (txt (.op s l r))) = some (.int (k : Nat)) ∧ ∀ p, H p = none → Q (.ref p) (upd H p (.tup (t3V (triN s i j k))))
abbrev N_triple_of : List Str := ["operation", "numbers", "left", "right", "itself"]
theorem sc_triple_of : FnScope N_triple_of ["operation", "numbers"] (defScope s_triple_of) := ⟨rfl, rfl, rfl, by decide +kernel, rfl, by decide +kernel, by decide +kernel⟩
-- slots: 0 operation, 1 numbers, 2 left, 3 right, 4 itself
theorem ok_triple_of (T : Tx w K mg) : Ok P w K mg base 4 (a_triple_of K) ["operation", "numbers"] [] (spTripleOf K) := by
  obtain ⟨_, _, F_Formula_str, b_Formula_str, v_Formula_str, k_Formula_str⟩ := ok_Formula_str (P := P) (base := base) T
  refine Ok.of T.f_triple_of (fun z F => okBody F sc_triple_of (fun vs H Q E h => ?_) fun cdv A outer s H vs Q E hr h => ?_) rfl fun _ _ _ _ _ _ us hl => match us, hl with | [_, _], _ => rfl
  · obtain ⟨a, D, s, l, r, kvs, i, j, k, rfl, _⟩ := h
    rfl
  · obtain ⟨a, D, sg, l, r, kvs, i, j, k, rfl, ha, hl, h8, hD, v1, v2, v3, q⟩ := h
    obtain ⟨dx, b, c, t, h1, hb, hc⟩ := ha.opAt
    obtain ⟨db, fb, ib⟩ := hb.ins
    obtain ⟨dc, fc, ic⟩ := hc.ins
    have h8' : sz l + sz r + 1 ≤ 8 := h8
    refine ⟨_, (pss_cons (ps_par3 (i := 2) (j := 3) (l := 4) rfl sc_triple_of.nd rfl rfl rfl (by decide) (by decide) (by decide) rfl rfl rfl (pa_cons (pe_dget (hu_of hr) (pv 1) (pe_callTy (call_strO F_Formula_str (bind0 b_Formula_str v_Formula_str) (hr.mono (by decide)) T.mt_Formula_str.at_ T.mt_Formula_str.fn) (by rfl) T.b_str (by decide +kernel) (pa_cons (pe_fld (pv 0) rfl) pa_nil)) (fun _ _ => rfl)) (pa_cons (pe_dget (hu_of hr) (pv 1) (pe_callTy (call_strO F_Formula_str (bind0 b_Formula_str v_Formula_str) (hr.mono (by decide)) T.mt_Formula_str.at_ T.mt_Formula_str.fn) (by rfl) T.b_str (by decide +kernel) (pa_cons (pe_fld (pv 0) rfl) pa_nil)) (fun _ _ => rfl)) (pa_cons (pe_dget (hu_of hr) (pv 1) (pe_callTy (call_strO F_Formula_str (bind0 b_Formula_str v_Formula_str) (hr.mono (by decide)) T.mt_Formula_str.at_ T.mt_Formula_str.fn) (by rfl) T.b_str (by decide +kernel) (pa_cons (pv 0) pa_nil)) (fun _ _ => rfl)) pa_nil))) (by rfl))
 (pss_cons (ps_if (pt_cmpR op_eq (pe_fld (pv 0) rfl) pe_str (nomark _)) (pss_one (ps_ret (pe_tup (pa_cons (pv 2) (pa_cons (pv 3) (pa_cons (pv 4) pa_nil)))))) pss_nil)
 (pss_cons (ps_if (pt_cmpR op_eq (pe_fld (pv 0) rfl) pe_str (nomark _)) (pss_one (ps_ret (pe_tup (pa_cons (pv 4) (pa_cons (pv 3) (pa_cons (pv 2) pa_nil)))))) pss_nil)
 (pss_one (ps_ret (pe_tup (pa_cons (pv 2) (pa_cons (pv 4) (pa_cons (pv 3) pa_nil))))))))), ?_⟩
    refine ⟨_, rfl, _, rfl, a, _, dx, _, _, rfl, h1, T.cl_Formula, T.na_Formula_left, fsFm_left .., b, db, fb, rfl, ib, b, l, rfl, hb, hl.1, by omega, _, rfl, D, _, rfl, DGet.s hD v1, ?_⟩
    refine ⟨_, rfl, _, rfl, a, _, dx, _, _, rfl, h1, T.cl_Formula, T.na_Formula_right, fsFm_right .., c, dc, fc, rfl, ic, c, r, rfl, hc, hl.2, by omega, _, rfl, D, _, rfl, DGet.s hD v2, ?_⟩
    refine ⟨_, rfl, _, rfl, a, dx, _, rfl, h1, a, .op sg l r, rfl, ha, hl, h8, _, rfl, D, _, rfl, DGet.s hD v3, _, _, _, rfl, ?_⟩
    have n1 : sgS .ldv ≠ "*" := by decide +kernel
    have n2 : sgS .rdv ≠ "*" := by decide +kernel
    have n3 : sgS .rdv ≠ "//" := by decide +kernel
    cases sg with
    | mul =>
      refine ⟨_, rfl, a, _, dx, _, _, rfl, h1, T.cl_Formula, T.na_Formula_sign, fsFm_sign .., rfl, true, sgV rfl, iteT ?_⟩
      exact ⟨_, rfl, _, rfl, _, rfl, by show 3 ≤ sizeLine; decide, q⟩
    | ldv =>
      refine ⟨_, rfl, a, _, dx, _, _, rfl, h1, T.cl_Formula, T.na_Formula_sign, fsFm_sign .., rfl, false, sgV0 n1, iteF ?_⟩
      refine ⟨_, rfl, a, _, dx, _, _, rfl, h1, T.cl_Formula, T.na_Formula_sign, fsFm_sign .., rfl, true, sgV rfl, iteT ?_⟩
      exact ⟨_, rfl, _, rfl, _, rfl, by show 3 ≤ sizeLine; decide, q⟩
    | rdv =>
      refine ⟨_, rfl, a, _, dx, _, _, rfl, h1, T.cl_Formula, T.na_Formula_sign, fsFm_sign .., rfl, false, sgV0 n2, iteF ?_⟩
      refine ⟨_, rfl, a, _, dx, _, _, rfl, h1, T.cl_Formula, T.na_Formula_sign, fsFm_sign .., rfl, false, sgV0 n3, iteF ?_⟩
      exact ⟨_, rfl, _, rfl, _, rfl, by show 3 ≤ sizeLine; decide, q⟩
/-! ### the table's object -/
def fsTb (D l c : Addr) : List (Str × V) := [("numbers", .ref D), ("letter_names", .ref l), ("closing", .ref c)]
theorem fsTb_numbers (D l c : Addr) : (fsTb D l c).lookup ("numbers" : Str) = some (.ref D) := by kernel_rfl
theorem fsTb_closing (D l c : Addr) : (fsTb D l c).lookup ("closing" : Str) = some (.ref c) := by kernel_rfl
theorem fsTb_number (D l c : Addr) : (fsTb D l c).lookup ("number" : Str) = none := by kernel_rfl
theorem fsTb_same (D l c : Addr) : (fsTb D l c).lookup ("same" : Str) = none := by kernel_rfl
theorem fsTb_put (D l c : Addr) : putF "closing" (.ref c) (putF "letter_names" (.ref l) (putF "numbers" (.ref D) [])) = fsTb D l c := by kernel_rfl
def TbObj (K : PySem.W.Frag) (H : Hp) (a D l c : Addr) (nv : List (Key × V)) : Prop := (∃ dx, H a = some (.ins (CTable K) dx (fsTb D l c))) ∧ H D = some (.dK nv)
theorem TbObj.same {H H' : Hp} {a D l c : Addr} {nv : List (Key × V)} (h : TbObj K H a D l c nv) (e : Same H H') : TbObj K H' a D l c nv := let ⟨⟨dx, h1⟩, h2⟩ := h; ⟨⟨dx, e _ _ h1⟩, e _ _ h2⟩
def spNumber (K : PySem.W.Frag) : Sp := fun vs H Q _ => ∃ (a b D l c : Addr) (nv : List (Key × V)) (G : FmS) (i : Nat), vs = [.ref a, .ref b] ∧ TbObj K H a D l c nv ∧ FmAt K H b G ∧ Leafs G ∧ sz G ≤ 8 ∧ valV nv (Sum.inr (txt G)) = some (.int (i : Nat)) ∧ Q (.int (i : Nat)) H
abbrev N_Table_number : List Str := ["self", "formula"]
theorem sc_Table_number : FnScope N_Table_number ["self", "formula"] (defScope s_Table_number) := ⟨rfl, rfl, rfl, by decide +kernel, rfl, by decide +kernel, by decide +kernel⟩
-- slots: 0 self, 1 formula
theorem ok_Table_number (T : Tx w K mg) : Ok P w K mg base 4 (a_Table_number K) ["self", "formula"] [] (spNumber K) := by
  obtain ⟨_, _, F_Formula_str, b_Formula_str, v_Formula_str, k_Formula_str⟩ := ok_Formula_str (P := P) (base := base) T
  refine Ok.of T.f_Table_number (fun z F => okBody F sc_Table_number (fun vs H Q E h => ?_) fun cdv A outer s H vs Q E hr h => ?_) rfl fun _ _ _ _ _ _ us hl => match us, hl with | [_, _], _ => rfl
  · obtain ⟨a, b, D, l, c, nv, G, i, rfl, _⟩ := h
    rfl
  · obtain ⟨a, b, D, l, c, nv, G, i, rfl, ⟨⟨dx, ha⟩, hD⟩, hb, hl, h8, hv, q⟩ := h
    obtain ⟨db, fb, ib⟩ := hb.ins
    refine ⟨_, (pss_one (ps_ret (pe_dget (hu_of hr) (pe_fld (pv 0) rfl) (pe_callTy (call_strO F_Formula_str (bind0 b_Formula_str v_Formula_str) (hr.mono (by decide)) T.mt_Formula_str.at_ T.mt_Formula_str.fn) (by rfl) T.b_str (by decide +kernel) (pa_cons (pv 1) pa_nil)) (fun _ _ => rfl)))), ?_⟩
    exact ⟨_, rfl, a, _, dx, _, _, rfl, ha, T.cl_Table, T.na_Table_numbers, fsTb_numbers .., _, rfl, b, db, fb, rfl, ib, b, G, rfl, hb, hl, h8, _, rfl, D, _, rfl, DGet.s hD hv, q⟩
def spTbSame (K : PySem.W.Frag) : Sp := fun vs H Q _ => ∃ (a b b' D l cc : Addr) (nv : List (Key × V)) (G G' : FmS) (i i' : Nat) (c : CA) (L : KM.Lot) (calm : Bool) (ops : List T3) (ab : List Nat) (tl : Nat), vs = [.ref a, .ref b, .ref b'] ∧ TbObj K H a D l cc nv ∧ FmAt K H b G ∧ Leafs G ∧ sz G ≤ 8 ∧ valV nv (Sum.inr (txt G)) = some (.int (i : Nat)) ∧
  FmAt K H b' G' ∧ Leafs G' ∧ sz G' ≤ 8 ∧ valV nv (Sum.inr (txt G')) = some (.int (i' : Nat)) ∧ CloAt K H cc c L calm ops ab tl ∧ Dn ab ∧ i < ab.length ∧ i' < ab.length ∧ Q (.bl (decide (rt ab i = rt ab i'))) H
abbrev N_Table_same : List Str := ["self", "one", "other"]
theorem sc_Table_same : FnScope N_Table_same ["self", "one", "other"] (defScope s_Table_same) := ⟨rfl, rfl, rfl, by decide +kernel, rfl, by decide +kernel, by decide +kernel⟩
-- slots: 0 self, 1 one, 2 other
theorem ok_Table_same (T : Tx w K mg) : Ok P w K mg base 5 (a_Table_same K) ["self", "one", "other"] [] (spTbSame K) := by
  obtain ⟨_, _, F_Closing_same, b_Closing_same, v_Closing_same, k_Closing_same⟩ := ok_Closing_same (P := P) (base := base) T
  obtain ⟨_, _, F_Table_number, b_Table_number, v_Table_number, k_Table_number⟩ := ok_Table_number (P := P) (base := base) T
  refine Ok.of T.f_Table_same (fun z F => okBody F sc_Table_same (fun vs H Q E h => ?_) fun cdv A outer s H vs Q E hr h => ?_) rfl fun _ _ _ _ _ _ us hl => match us, hl with | [_, _, _], _ => rfl
  · obtain ⟨a, b, b', D, l, cc, nv, G, G', i, i', c, L, calm, ops, ab, tl, rfl, _⟩ := h
    rfl
  · obtain ⟨a, b, b', D, l, cc, nv, G, G', i, i', c, L, calm, ops, ab, tl, rfl, ht, hb, hl, h8, hv, hb', hl', h8', hv', C, dn, hi, hi', q⟩ := h
    obtain ⟨dx, ha⟩ := ht.1
    obtain ⟨dc, hc⟩ := C.obj
    refine ⟨_, (pss_one (ps_ret (pe_meth (pe_fld (pv 0) rfl) T.cl_Closing T.mt_Closing_same F_Closing_same (hr.mono (by decide)) b_Closing_same v_Closing_same pass0 (pa_cons (pe_meth (pv 0) T.cl_Table T.mt_Table_number F_Table_number (hr.mono (by decide)) b_Table_number v_Table_number pass0 (pa_cons (pv 1) pa_nil)) (pa_cons (pe_meth (pv 0) T.cl_Table T.mt_Table_number F_Table_number (hr.mono (by decide)) b_Table_number v_Table_number pass0 (pa_cons (pv 2) pa_nil)) pa_nil))))), ?_⟩
    refine ⟨_, rfl, a, _, dx, _, _, rfl, ha, T.cl_Table, T.na_Table_closing, fsTb_closing .., cc, dc, _, rfl, hc, fsCl_same .., ?_⟩
    refine ⟨_, rfl, a, dx, _, rfl, ha, fsTb_number .., _, rfl, a, b, D, l, cc, nv, G, i, rfl, ht, hb, hl, h8, hv, ?_⟩
    refine ⟨_, rfl, a, dx, _, rfl, ha, fsTb_number .., _, rfl, a, b', D, l, cc, nv, G', i', rfl, ht, hb', hl', h8', hv', ?_⟩
    exact ⟨cc, c, L, calm, ops, ab, tl, i, i', rfl, C, dn, hi, hi', q⟩
end
end K8
end

section
set_option Elab.async false
set_option linter.all false
set_option maxRecDepth 100000
set_option maxHeartbeats 8000000
/-! Tables of formulas: made. -/
namespace K8
open PySem PySem.Spec PyProof.Rows L2
open KM (T3 nth rt Dn mrg Eqv Snd Got Fm Sg sz triN)
theorem _root_.L2.Same.sql {K : PySem.W.Frag} {H H' : Hp} {a : Addr} {xs : List V} (e : Same H H') (h : SqL K H a xs) : SqL K H' a xs := by
  rcases h with (h | ⟨o, h⟩) | h
  · exact .inl (.inl (e _ _ h))
  · exact .inl (.inr ⟨o, e _ _ h⟩)
  · exact .inr h
/-! ### plainly -/
theorem perm_pull {α β : Type} {f : α → β} {zs ys : List β} (h : zs.Perm ys) : ∀ {l : List α}, l.map f = zs → ∃ l' : List α, l.Perm l' ∧ l'.map f = ys := by
  induction h with
  | nil =>
    intro l e
    exact ⟨l, .refl _, e⟩
  | @cons x l1 l2 _ ih =>
    intro l e
    cases l with
    | nil => cases e
    | cons a l =>
      injection e with e1 e2
      obtain ⟨l', p, q⟩ := ih e2
      exact ⟨a :: l', p.cons a, by rw [List.map_cons, e1, q]⟩
  | swap x y l1 =>
    intro l e
    match l, e with
    | a :: b :: l, e =>
      injection e with e1 e2
      injection e2 with e2 e3
      exact ⟨b :: a :: l, .swap b a l, by rw [List.map_cons, List.map_cons, e1, e2, e3]⟩
  | trans _ _ i1 i2 =>
    intro l e
    obtain ⟨l1, p1, q1⟩ := i1 e
    obtain ⟨l2, p2, q2⟩ := i2 q1
    exact ⟨l2, p1.trans p2, q2⟩
theorem nodup_le {α : Type} [DecidableEq α] : ∀ {l m : List α}, l.Nodup → (∀ x ∈ l, x ∈ m) → l.length ≤ m.length
  | [], m, _, _ => Nat.zero_le _
  | x :: l, m, nd, h => by
    obtain ⟨n1, n2⟩ := List.nodup_cons.mp nd
    have hx := h x List.mem_cons_self
    have ih := nodup_le (l := l) (m := m.erase x) n2 fun y hy => (List.mem_erase_of_ne fun e => n1 (by rw [← e]; exact hy)).mpr (h y (List.mem_cons_of_mem _ hy))
    rw [List.length_erase_of_mem hx] at ih
    have : 0 < m.length := List.length_pos_of_mem hx
    simp only [List.length_cons]
    omega
/-- another object's change leaves formulas -/
theorem FmAt.keepA {K : PySem.W.Frag} {H H' : Hp} {a C dx : Addr} {fs : List (Str × V)} (ha : H a = some (.ins C dx fs)) (hn : fs.lookup ("text" : Str) = none) (e : ∀ b o, H b = some o → b ≠ a → H' b = some o) : ∀ {F : FmS} {b : Addr}, FmAt K H b F → FmAt K H' b F
  | .lt z, b, ⟨dx, s, h1, h2⟩ => ⟨dx, s, e _ _ h1 (fun q => by
      rw [q, ha] at h1
      injection h1 with h1
      injection h1 with _ _ h1
      rw [h1, fsFm_text] at hn
      cases hn), e _ _ h2 (fun q => by rw [q, ha] at h2; cases h2)⟩
  | .op s l r, b, ⟨dx, b1, c, t, xs, h1, h2, h3, h4, h5⟩ => ⟨dx, b1, c, t, xs, e _ _ h1 (fun q => by
      rw [q, ha] at h1
      injection h1 with h1
      injection h1 with _ _ h1
      rw [h1, fsFm_text] at hn
      cases hn), h2.keepA ha hn e, h3.keepA ha hn e, e _ _ h4 (fun q => by rw [q, ha] at h4; cases h4), h5⟩
def fsT1 (D : Addr) : List (Str × V) := [("numbers", .ref D)]
def fsT2 (D l : Addr) : List (Str × V) := [("numbers", .ref D), ("letter_names", .ref l)]
theorem fsT1_put (D : Addr) : putF "numbers" (.ref D) [] = fsT1 D := by kernel_rfl
theorem fsT2_put (D l : Addr) : putF "letter_names" (.ref l) (fsT1 D) = fsT2 D l := by kernel_rfl
theorem fsT3_put (D l c : Addr) : putF "closing" (.ref c) (fsT2 D l) = fsTb D l c := by kernel_rfl
theorem fsT1_text (D : Addr) : (fsT1 D).lookup ("text" : Str) = none := by kernel_rfl
theorem fsT2_text (D l : Addr) : (fsT2 D l).lookup ("text" : Str) = none := by kernel_rfl
theorem fsT2_numbers (D l : Addr) : (fsT2 D l).lookup ("numbers" : Str) = some (.ref D) := by kernel_rfl
/-- a formula's object tells its text -/
theorem FmAt.txt_fn {K : PySem.W.Frag} {H : Hp} {a : Addr} {G G' : FmS} (h : FmAt K H a G) (h' : FmAt K H a G') : txt G = txt G' := by
  obtain ⟨dx, nm, l, r, s, xs, h1, _⟩ := h.look
  obtain ⟨dx', nm', l', r', s', xs', h2, _⟩ := h'.look
  rw [h1] at h2
  injection h2 with h2
  injection h2 with _ _ h2
  have e1 := fsFm_text nm (sgO G) l r s (txt G)
  rw [h2, fsFm_text] at e1
  injection e1 with e1
  injection e1 with e1
  exact e1.symm
theorem Has.eq {kvs : List (Key × V)} {G G' : FmS} (h : Has kvs G) (e : txt G = txt G') : Has kvs G' := by
  obtain ⟨b, h⟩ := h
  exact ⟨b, by rw [← e]; exact h⟩
theorem FmAt.keep {K : PySem.W.Frag} {H H' : Hp} (e : ∀ b o, H b = some o → (∀ kvs, o ≠ .dK kvs) → H' b = some o) : ∀ {F : FmS} {a : Addr}, FmAt K H a F → FmAt K H' a F
  | .lt z, a, ⟨dx, s, h1, h2⟩ => ⟨dx, s, e _ _ h1 (fun _ z => by cases z), e _ _ h2 (fun _ z => by cases z)⟩
  | .op s l r, a, ⟨dx, b, c, t, xs, h1, h2, h3, h4, h5⟩ => ⟨dx, b, c, t, xs, e _ _ h1 (fun _ z => by cases z), h2.keep e, h3.keep e, e _ _ h4 (fun _ z => by cases z), h5⟩
theorem keep_dK {H : Hp} {D : Addr} {kvs kvs' : List (Key × V)} (h : H D = some (.dK kvs)) : ∀ b o, H b = some o → (∀ kvs, o ≠ .dK kvs) → (upd H D (.dK kvs')) b = some o := fun b o hb n => by
  rw [upd_ne]
  · exact hb
  · intro e
    rw [e, h] at hb
    exact n _ (Option.some.inj hb).symm
theorem FTab.keep {K : PySem.W.Frag} {H H' : Hp} {S : FmS → Prop} {kvs : List (Key × V)} (F : FTab K H S kvs) (e : ∀ b o, H b = some o → (∀ kvs, o ≠ .dK kvs) → H' b = some o) : FTab K H' S kvs :=
  ⟨fun k v m => let ⟨G, b, h1, h2, h3, h4⟩ := F.ent k v m; ⟨G, b, h1, h2, h3.keep e, h4⟩, F.nd⟩
abbrev encK (e : FmS × Addr) : Key × V := (Sum.inr (txt e.1), V.ref e.2)
theorem FTab.list {K : PySem.W.Frag} {H : Hp} {S : FmS → Prop} : ∀ {kvs : List (Key × V)}, (∀ k v, (k, v) ∈ kvs → ∃ G b, k = .inr (txt G) ∧ v = .ref b ∧ FmAt K H b G ∧ S G) → ∃ es : List (FmS × Addr), kvs = es.map encK ∧ ∀ e ∈ es, FmAt K H e.2 e.1 ∧ S e.1
  | [], _ => ⟨[], rfl, fun e h => nomatch h⟩
  | (k, v) :: kvs, h => by
    obtain ⟨G, b, rfl, rfl, h3, h4⟩ := h k v List.mem_cons_self
    obtain ⟨es, e1, e2⟩ := FTab.list (kvs := kvs) fun k v m => h k v (List.mem_cons_of_mem _ m)
    refine ⟨(G, b) :: es, by rw [e1]; rfl, fun e he => ?_⟩
    rcases List.mem_cons.mp he with rfl | he
    · exact ⟨h3, h4⟩
    · exact e2 e he
/-- the parts of some formulas -/
def PartOf (Fs : List FmS) (G : FmS) : Prop := ∃ F ∈ Fs, G ∈ subs F
def GoodF (nm : List Str) (Fs : List FmS) : Prop := ∀ F ∈ Fs, Leafs F ∧ sz F ≤ 8 ∧ ∀ z, Fm.lt z ∈ subs F → z ∈ nm
theorem GoodF.leafs {nm : List Str} {Fs : List FmS} (h : GoodF nm Fs) {G : FmS} (hG : PartOf Fs G) : Leafs G ∧ sz G ≤ 8 := by
  obtain ⟨F, hF, hG⟩ := hG
  obtain ⟨a, b, _⟩ := h F hF
  exact ⟨subs_leafs a G hG, Nat.le_trans (subs_sz hG) b⟩
/-- another object's change leaves a closed table -/
theorem CloAt.keepA {K : PySem.W.Frag} {H H' : Hp} {x a C dx : Addr} {fs : List (Str × V)} {c : CA} {L : KM.Lot} {calm : Bool} {ops : List T3} {ab : List Nat} {tl : Nat} (C0 : CloAt K H x c L calm ops ab tl) (ha : H a = some (.ins C dx fs)) (h1 : fs.lookup ("kind" : Str) = none) (h2 : fs.lookup ("turns" : Str) = none)
    (e : ∀ b o, H b = some o → b ≠ a → H' b = some o) : CloAt K H' x c L calm ops ab tl := by
  obtain ⟨dx1, k1⟩ := C0.obj
  obtain ⟨dk, k2⟩ := C0.kind
  obtain ⟨os, k3, k4, k5⟩ := C0.ops_
  obtain ⟨tr, k6, k7⟩ := C0.trl
  have ni : ∀ {y : Addr} {o : HO}, H y = some o → (∀ C dx fs, o ≠ .ins C dx fs) → y ≠ a := fun {y o} h n q => by
    rw [q, ha] at h
    exact n _ _ _ (Option.some.inj h).symm
  refine ⟨⟨dx1, e _ _ k1 fun q => ?_⟩, ⟨dk, e _ _ k2 fun q => ?_⟩, ⟨os, e _ _ k3 (ni k3 fun _ _ _ z => by cases z), k4, fun i y o a1 a2 => e _ _ (k5 i y o a1 a2) (ni (k5 i y o a1 a2) fun _ _ _ z => by cases z)⟩, e _ _ C0.abv (ni C0.abv fun _ _ _ z => by cases z), ⟨tr, e _ _ k6 (ni k6 fun _ _ _ z => by cases z), k7⟩, C0.ob, C0.ot, C0.bt⟩
  · rw [q, ha] at k1
    injection k1 with k1
    injection k1 with _ _ k1
    rw [k1, fsCl_kind] at h1
    cases h1
  · rw [q, ha] at k2
    injection k2 with k2
    injection k2 with _ _ k2
    rw [k2, fsKind_turns] at h2
    cases h2
theorem fsT2_kind (D l : Addr) : (fsT2 D l).lookup ("kind" : Str) = none := by kernel_rfl
theorem fsT2_turns (D l : Addr) : (fsT2 D l).lookup ("turns" : Str) = none := by kernel_rfl
/-- an operation's triple, by the places of formulas in a list -/
def trip (gl : List FmS) : FmS → T3
  | .lt _ => (0, 0, 0)
  | .op s l r => triN s (gl.idxOf l) (gl.idxOf r) (gl.idxOf (.op s l r))
def phi (gl : List FmS) (i : Nat) : FmS := gl.getD i (.lt "")
theorem phi_idx {gl : List FmS} {G : FmS} (h : G ∈ gl) : gl.idxOf G < gl.length ∧ phi gl (gl.idxOf G) = G := by
  have h1 := List.idxOf_lt_length_iff.mpr h
  refine ⟨h1, ?_⟩
  unfold phi
  rw [List.getD_eq_getElem?_getD, List.getElem?_eq_getElem h1]
  exact List.getElem_idxOf h1
theorem phi_at {gl : List FmS} {i : Nat} (h : i < gl.length) : phi gl i = gl[i] := by
  unfold phi
  rw [List.getD_eq_getElem?_getD, List.getElem?_eq_getElem h]
  rfl
theorem nth_triN_lt {s : Sg} {a b c N : Nat} (ha : a < N) (hb : b < N) (hc : c < N) : ∀ p, p < 3 → nth (triN s a b c) p < N := by
  intro p hp
  match p, hp with
  | 0, _ => cases s <;> assumption
  | 1, _ => cases s <;> assumption
  | 2, _ => cases s <;> assumption
/-- the triples of all operations of a closed list of formulas -/
theorem sys_of {gl : List FmS} (nd : gl.Nodup) (hs : ∀ s l r, Fm.op s l r ∈ gl → l ∈ gl ∧ r ∈ gl) {ops : List T3} (ho : ∀ o, o ∈ ops ↔ ∃ G ∈ gl, 0 < sz G ∧ o = trip gl G) :
    KM.Sys ops (List.range gl.length) (phi gl) ∧ ∀ o ∈ ops, ∀ p, p < 3 → nth o p < gl.length := by
  refine ⟨⟨fun o h => ?_, fun c h => ?_⟩, fun o h => ?_⟩
  · obtain ⟨G, hG, hz, rfl⟩ := (ho o).mp h
    cases G with
    | lt z => exact absurd hz (Nat.lt_irrefl _)
    | op s l r =>
      obtain ⟨hl, hr⟩ := hs s l r hG
      obtain ⟨a1, a2⟩ := phi_idx hl
      obtain ⟨b1, b2⟩ := phi_idx hr
      obtain ⟨c1, c2⟩ := phi_idx hG
      exact ⟨s, _, _, _, rfl, by rw [a2, b2, c2], List.mem_range.mpr a1, List.mem_range.mpr b1, List.mem_range.mpr c1⟩
  · have hc := List.mem_range.mp h
    have e := phi_at hc
    have m : gl[c] ∈ gl := List.getElem_mem hc
    have ix : gl.idxOf gl[c] = c := (List.getElem_inj (h₀ := List.idxOf_lt_length_iff.mpr m) (h₁ := hc) nd).mp (List.getElem_idxOf _)
    generalize hG : gl[c] = G at e m ix
    cases G with
    | lt z => exact .inl ⟨z, e⟩
    | op s l r =>
      obtain ⟨hl, hr⟩ := hs s l r m
      obtain ⟨a1, a2⟩ := phi_idx hl
      obtain ⟨b1, b2⟩ := phi_idx hr
      refine .inr ⟨s, _, _, (ho _).mpr ⟨_, m, by show 0 < sz l + sz r + 1; omega, ?_⟩, by rw [e, a2, b2], List.mem_range.mpr a1, List.mem_range.mpr b1⟩
      show _ = triN s (gl.idxOf l) (gl.idxOf r) (gl.idxOf (.op s l r))
      rw [ix]
  · obtain ⟨G, hG, hz, rfl⟩ := (ho o).mp h
    cases G with
    | lt z => exact absurd hz (Nat.lt_irrefl _)
    | op s l r =>
      obtain ⟨hl, hr⟩ := hs s l r hG
      exact nth_triN_lt (phi_idx hl).1 (phi_idx hr).1 (phi_idx hG).1
/-- what a table of formulas promises -/
structure TabOk (L : KM.Lot) (calm : Bool) (ops : List T3) (ab : List Nat) (nv : List (Key × V)) (φ : Nat → FmS) (Fs : List FmS) : Prop where
  num : ∀ G, PartOf Fs G → ∃ i, i < ab.length ∧ valV nv (Sum.inr (txt G)) = some (.int (i : Nat)) ∧ φ i = G
  sys : KM.Sys ops (List.range ab.length) φ
  inj : ∀ i, i < ab.length → ∀ j, j < ab.length → φ i = φ j → i = j
  eqv : ∀ x y, x < ab.length → y < ab.length → (rt ab x = rt ab y ↔ Eqv L calm ops [] x y)
  lt : ∀ o ∈ ops, ∀ p, p < 3 → nth o p < ab.length
  small : ab.length ≤ 100
section
variable {P : Program} {w : World} {K : PySem.W.Frag} {mg : Str → Option Value} {base : Heap}
def spTabInit (K : PySem.W.Frag) : Sp := fun vs H Q _ => ∃ (a dx k fs fc : Addr) (L : KM.Lot) (calm : Bool) (as : List Addr) (Fs : List FmS) (nm : List Str) (H0 : Hp), vs = [.ref a, .ref k, .ref fs, .ref fc] ∧ H0 a = none ∧ Same H0 H ∧ H a = some (.ins (CTable K) dx []) ∧
  KindAt K H0 k L calm ∧ (SqL K H0 fs (refV as) ∨ SqT K H0 fs (refV as)) ∧ FsAt K H0 as Fs ∧ GoodF nm Fs ∧ nm.length ≤ 60 ∧ as.length ≤ 5 ∧ SqT K H0 fc [] ∧
  ∀ H' D ln cl nv c ops ab tl φ, Same H0 H' → TbObj K H' a D ln cl nv → CloAt K H' cl c L calm ops ab tl → Dn ab → TabOk L calm ops ab nv φ Fs → Q .non H'
abbrev N_Table_init : List Str := ["self", "kind", "formulas", "facts", "parts", "sides", "formula", "part", "texts", "operations", "one", "other", "pair", "side", "text", "at"]
theorem sc_Table_init : FnScope N_Table_init ["self", "kind", "formulas", "facts"] (defScope s_Table_init) := ⟨rfl, rfl, rfl, by decide +kernel, rfl, by decide +kernel, by decide +kernel⟩
-- slots: 0 self, 1 kind, 2 formulas, 3 facts, 4 parts, 5 sides, 6 formula, 7 part, 8 texts, 9 operations, 10 one, 11 other, 12 pair, 13 side, 14 text, 15 at
theorem ok_Table_init (T : Tx w K mg) : Ok P w K mg base 12 (a_Table_init K) ["self", "kind", "formulas", "facts"] [] (spTabInit K) := by
  obtain ⟨_, _, F_Formula_parts, b_Formula_parts, v_Formula_parts, k_Formula_parts⟩ := ok_Formula_parts (P := P) (base := base) T
  obtain ⟨_, _, F_Formula_str, b_Formula_str, v_Formula_str, k_Formula_str⟩ := ok_Formula_str (P := P) (base := base) T
  obtain ⟨_, _, F_Formula_len, b_Formula_len, v_Formula_len, k_Formula_len⟩ := ok_Formula_len (P := P) (base := base) T
  obtain ⟨_, _, F_Closing_init, b_Closing_init, v_Closing_init, k_Closing_init⟩ := ok_Closing_init (P := P) (base := base) T
  obtain ⟨_, _, F_triple_of, b_triple_of, v_triple_of, k_triple_of⟩ := ok_triple_of (P := P) (base := base) T
  obtain ⟨_, _, F_Closing_merge, b_Closing_merge, v_Closing_merge, k_Closing_merge⟩ := ok_Closing_merge (P := P) (base := base) T
  obtain ⟨_, _, F_Table_number, b_Table_number, v_Table_number, k_Table_number⟩ := ok_Table_number (P := P) (base := base) T
  obtain ⟨_, _, F_Closing_close, b_Closing_close, v_Closing_close, k_Closing_close⟩ := ok_Closing_close (P := P) (base := base) T
  refine Ok.of T.f_Table_init (fun z F => okBody F sc_Table_init (fun vs H Q E h => ?_) fun cdv A outer s H vs Q E hr h => ?_) rfl fun _ _ _ _ _ _ us hl => match us, hl with | [_, _, _, _], _ => rfl
  · obtain ⟨a, dx, k, fs, fc, L, calm, as, Fs, nm, H0, rfl, _⟩ := h
    rfl
  · obtain ⟨a, dx, k, fs, fc, L, calm, as, Fs, nm, H0, rfl, h0, sm, ha, hk, hfs, hF, gF, hnm, h5, hfc, q⟩ := h
    refine ⟨_, (pss_cons (ps_set (i := 4) sc_Table_init.nd rfl (by first | exact Or.inl rfl | exact Or.inr rfl) pe_dnewK)
 (pss_cons (ps_setLc2B (i := 5) (own := [("pair", 12), ("side", 13)]) (vs1 := [13]) rfl sc_Table_init.nd rfl rfl (sw_true rfl rfl rfl (by decide +kernel)) (pi_tup (pv 3)) (blkOk_by (own := [("pair", 12), ("side", 13)]) (N := N_Table_init) (sc := defScope s_Table_init) (by decide +kernel)) (by decide) (fun _ _ _ _ _ => (pg_name (i := 12) sc_Table_init.nd rfl (by first | exact Or.inl rfl | exact Or.inr rfl))) (fun _ _ _ _ _ => pts_nil) (fun _ _ _ _ _ => (pi_tup (pv 12))) (fun _ _ _ _ _ => (pg_name (i := 13) sc_Table_init.nd rfl (by first | exact Or.inl rfl | exact Or.inr rfl))) (fun _ _ _ _ _ => pts_nil) (fun _ _ _ _ _ => (pv 13)))
 (pss_cons (ps_for PassesOwn.never rfl (pi_list (pe_op op_cat (pe_callTy call_list_of (by rfl) T.b_list (by decide +kernel) (pa_cons (pv 2) pa_nil)) (pv 5))) (pg_name (i := 6) sc_Table_init.nd rfl (by first | exact Or.inl rfl | exact Or.inr rfl)) (pss_one (ps_for PassesOwn.never rfl (pi_tup (pe_prop (pv 6) T.cl_Formula T.p_parts F_Formula_parts (hr.mono (by decide)) b_Formula_parts v_Formula_parts pass0 rfl)) (pg_name (i := 7) sc_Table_init.nd rfl (by first | exact Or.inl rfl | exact Or.inr rfl)) (pss_one (ps_dput (hu_of hr) (pv 4) (pe_callTy (call_strO F_Formula_str (bind0 b_Formula_str v_Formula_str) (hr.mono (by decide)) T.mt_Formula_str.at_ T.mt_Formula_str.fn) (by rfl) T.b_str (by decide +kernel) (pa_cons (pv 7) pa_nil)) (pv 7) rfl)))))
 (pss_cons (ps_set (i := 8) sc_Table_init.nd rfl (by first | exact Or.inl rfl | exact Or.inr rfl) (pe_callB cr_sortIS (by rfl) T.b_sorted (by decide +kernel) (pa_cons (pe_lock (pe_lcB (own := [("text", 14)]) rfl sc_Table_init.nd (pi_keys (pv 4)) (blkOk_by (own := [("text", 14)]) (N := N_Table_init) (sc := defScope s_Table_init) (by decide +kernel)) (fun _ _ _ _ _ => (pg_name (i := 14) sc_Table_init.nd rfl (by first | exact Or.inl rfl | exact Or.inr rfl))) (fun _ _ _ _ _ => pts_nil) (fun _ _ _ _ _ => (pe_tup (pa_cons (pe_callB (call_lenO F_Formula_len (bind0 b_Formula_len v_Formula_len) (hr.mono (by decide)) T.mt_Formula_len.at_ T.mt_Formula_len.fn) (by rfl) T.b_len (by decide +kernel) (pa_cons (pe_dget (hu_of hr) (pv 4) (pv 14) (fun _ _ => rfl)) pa_nil)) (pa_cons (pv 14) pa_nil)))))) pa_nil)))
 (pss_cons (ps_fld (pv 0) (pe_dcB (own := [("at", 15), ("pair", 12)]) rfl sc_Table_init.nd (pi_enum (by rfl) T.b_enumerate (pa_cons (pv 8) pa_nil)) (blkOk_by (own := [("at", 15), ("pair", 12)]) (N := N_Table_init) (sc := defScope s_Table_init) (by decide +kernel)) (fun _ _ _ _ _ => (pg_tup rfl (pgs_cons (pg_name (i := 15) sc_Table_init.nd rfl (by first | exact Or.inl rfl | exact Or.inr rfl)) (pgs_cons (pg_name (i := 12) sc_Table_init.nd rfl (by first | exact Or.inl rfl | exact Or.inr rfl)) pgs_nil)))) (fun _ _ _ _ _ => pts_nil) (fun _ _ _ _ _ => (pe_ix ix_tup (pv 12) pe_int (fun _ _ => rfl))) (fun _ _ _ _ _ => (pv 15))) rfl)
 (pss_cons (ps_fld (pv 0) (pe_callB cr_sortedS (by rfl) T.b_sorted (by decide +kernel) (pa_cons (pe_lock (pe_lcB (own := [("text", 14)]) rfl sc_Table_init.nd (pi_keys (pv 4)) (blkOk_by (own := [("text", 14)]) (N := N_Table_init) (sc := defScope s_Table_init) (by decide +kernel)) (fun _ _ _ _ _ => (pg_name (i := 14) sc_Table_init.nd rfl (by first | exact Or.inl rfl | exact Or.inr rfl))) (fun _ _ _ _ _ => (pts_one (pt_cmpR op_eq (pe_callB (call_lenO F_Formula_len (bind0 b_Formula_len v_Formula_len) (hr.mono (by decide)) T.mt_Formula_len.at_ T.mt_Formula_len.fn) (by rfl) T.b_len (by decide +kernel) (pa_cons (pe_dget (hu_of hr) (pv 4) (pv 14) (fun _ _ => rfl)) pa_nil)) pe_int (nomark _)))) (fun _ _ _ _ _ => (pv 14)))) pa_nil)) rfl)
 (pss_cons (ps_setLcB (i := 9) (own := [("pair", 12)]) rfl sc_Table_init.nd rfl rfl (sw_true rfl rfl rfl (by decide +kernel)) (pi_list (pv 8)) (blkOk_by (own := [("pair", 12)]) (N := N_Table_init) (sc := defScope s_Table_init) (by decide +kernel)) (fun _ _ _ _ _ => (pg_name (i := 12) sc_Table_init.nd rfl (by first | exact Or.inl rfl | exact Or.inr rfl))) (fun _ _ _ _ _ => (pts_one (pt_cmpR op_gt (pe_ix ix_tup (pv 12) pe_int (fun _ _ => rfl)) pe_int (nomark _)))) (fun _ _ _ _ _ => (pe_dget (hu_of hr) (pv 4) (pe_ix ix_tup (pv 12) pe_int (fun _ _ => rfl)) (fun _ _ => rfl))))
 (pss_cons (ps_fld (pv 0) (pe_make T.mk_Closing F_Closing_init (hr.mono (by decide)) rfl T.g_Closing b_Closing_init v_Closing_init pass0 (pa_cons (pv 1) (pa_cons (pe_callB call_len_seq (by rfl) T.b_len (by decide +kernel) (pa_cons (pv 8) pa_nil)) (pa_cons (pe_lcB (own := [("one", 10)]) rfl sc_Table_init.nd (pi_list (pv 9)) (blkOk_by (own := [("one", 10)]) (N := N_Table_init) (sc := defScope s_Table_init) (by decide +kernel)) (fun _ _ _ _ _ => (pg_name (i := 10) sc_Table_init.nd rfl (by first | exact Or.inl rfl | exact Or.inr rfl))) (fun _ _ _ _ _ => pts_nil) (fun _ _ _ _ _ => (pe_call F_triple_of (hr.mono (by decide)) rfl T.g_triple_of k_triple_of b_triple_of v_triple_of pass0 (pa_cons (pv 10) (pa_cons (pe_fld (pv 0) rfl) pa_nil))))) pa_nil)))) rfl)
 (pss_cons (ps_for PassesOwn.never rfl (pi_tup (pv 3)) (pg_tup rfl (pgs_cons (pg_name (i := 10) sc_Table_init.nd rfl (by first | exact Or.inl rfl | exact Or.inr rfl)) (pgs_cons (pg_name (i := 11) sc_Table_init.nd rfl (by first | exact Or.inl rfl | exact Or.inr rfl)) pgs_nil))) (pss_one (ps_expr (pe_meth (pe_fld (pv 0) rfl) T.cl_Closing T.mt_Closing_merge F_Closing_merge (hr.mono (by decide)) b_Closing_merge v_Closing_merge pass0 (pa_cons (pe_meth (pv 0) T.cl_Table T.mt_Table_number F_Table_number (hr.mono (by decide)) b_Table_number v_Table_number pass0 (pa_cons (pv 10) pa_nil)) (pa_cons (pe_meth (pv 0) T.cl_Table T.mt_Table_number F_Table_number (hr.mono (by decide)) b_Table_number v_Table_number pass0 (pa_cons (pv 11) pa_nil)) pa_nil))))))
 (pss_one (ps_expr (pe_meth0 (pe_fld (pv 0) rfl) T.cl_Closing T.mt_Closing_close F_Closing_close (hr.mono (by decide)) b_Closing_close v_Closing_close pass0)))))))))))), ?_⟩
    intro Dp hDp
    have nDp := same_none sm hDp
    have s1 : Same H (upd H Dp (.dK [])) := same_new hDp
    have d1 : (upd H Dp (.dK [])) Dp = some (.dK []) := upd_same
    generalize upd H Dp (.dK []) = H1 at s1 d1 ⊢
    -- no sides
    refine ⟨_, rfl, fc, rfl, ⟨[], (sm.trans s1).tup hfc⟩, fun Ds hDs => ?_⟩
    refine ⟨fun i m H' => m = 0 ∧ i = 0 ∧ H' = upd H1 Ds (.lst []), ⟨0, rfl, rfl, rfl⟩, ?_⟩
    rintro i m H' ⟨rfl, rfl, rfl⟩
    have s2 : Same H1 (upd H1 Ds (.lst [])) := same_new hDs
    have e2 : (upd H1 Ds (.lst [])) Ds = some (.lst []) := upd_same
    refine .inl ⟨⟨[], (sm.trans (s1.trans s2)).tup hfc, Nat.le_refl _⟩, ?_⟩
    have d2 := s2 _ _ d1
    have s02 := s1.trans s2
    generalize upd H1 Ds (.lst []) = H2 at s2 e2 d2 s02 ⊢
    -- all parts
    refine ⟨_, rfl, fs, refV as, rfl, ?_, fun Dl hDl => ?_⟩
    · rcases hfs with h | h
      · exact .inl ((sm.trans s02).sql h)
      · exact .inr ((sm.trans s02).tup h)
    have al : (refV as).length = as.length := List.length_map ..
    refine ⟨_, rfl, Dl, Ds, refV as, [], rfl, rfl, upd_same, (upd_ne (ne_of_none e2 hDl)).trans e2, sl1 (by simp only [al, List.length_nil]; omega), fun Dc hDc => ?_⟩
    rw [List.append_nil]
    have s3 : Same H2 (upd (upd H2 Dl (.lst (refV as))) Dc (.lst (refV as))) := same_upd (same_new hDl) (same_none (same_new hDl) hDc)
    have c3 : (upd (upd H2 Dl (.lst (refV as))) Dc (.lst (refV as))) Dc = some (.lst (refV as)) := upd_same
    have d3 := s3 _ _ d2
    have s03 := s02.trans s3
    generalize upd (upd H2 Dl (.lst (refV as))) Dc (.lst (refV as)) = H3 at s3 c3 d3 s03 ⊢
    refine ⟨Dc, rfl, ⟨_, SqL.of c3⟩, ?_⟩
    refine for_list (K := K) (xs := refV as) (fun i σ H' => ∃ kvs v6 v7 v8 v9 v10 v11 v12 v13 v14 v15, σ = [some (.ref a), some (.ref k), some (.ref fs), some (.ref fc), some (.ref Dp), some (.ref Ds), v6, v7, v8, v9, v10, v11, v12, v13, v14, v15] ∧ Same H H' ∧ H' Dc = some (.lst (refV as)) ∧ H' Dp = some (.dK kvs) ∧
      FTab K H' (PartOf Fs) kvs ∧ (∀ (j : Nat) (F : FmS), j < i → Fs[j]? = some F → ∀ G ∈ subs F, Has kvs G) ∧ kvs.length ≤ 17 * i)
      ⟨[], _, _, _, _, _, _, _, _, _, _, rfl, s03, c3, d3, .nil, fun j F h => absurd h (Nat.not_lt_zero _), Nat.le_refl _⟩ (fun i σ H' _ ⟨_, _, _, _, _, _, _, _, _, _, _, _, _, h, _⟩ => SqL.of h) ?_ ?_
    · rintro i x σ H4 hx ⟨kvs, v6, v7, v8, v9, v10, v11, v12, v13, v14, v15, rfl, s4, c4, d4, ft4, has4, len4⟩
      have hi : i < as.length := by
        have := (List.getElem?_eq_some_iff.mp hx).1
        simpa [refV] using this
      have ex : x = .ref as[i] := by
        rw [List.getElem?_map, List.getElem?_eq_getElem hi] at hx
        exact (Option.some.inj hx).symm
      subst ex
      have hiF : i < Fs.length := by rw [← hF.len]; exact hi
      have fmi := (hF.get (List.getElem?_eq_getElem hi) (List.getElem?_eq_getElem hiF)).same (sm.trans s4)
      have Fmem : Fs[i] ∈ Fs := List.getElem_mem hiF
      have Fat : Fs[i]? = some Fs[i] := List.getElem?_eq_getElem hiF
      generalize Fs[i] = F at fmi Fmem Fat
      obtain ⟨g1, g2, g3⟩ := gF F Fmem
      obtain ⟨dxf, ff, hff⟩ := fmi.ins
      refine ⟨_, rfl, as[i], dxf, ff, rfl, hff, as[i], F, rfl, fmi, g1, g2, fun pp ps H5 s5 n5 e5 l5 all5 own5 => ?_⟩
      have d5 := s5 _ _ d4
      have c5 := s5 _ _ c4
      refine ⟨pp, rfl, ⟨_, SqT.of e5⟩, ?_⟩
      refine for_tup (K := K) (xs := refV ps) (fun j σ H' => ∃ kvs' v7, σ = [some (.ref a), some (.ref k), some (.ref fs), some (.ref fc), some (.ref Dp), some (.ref Ds), some (.ref as[i]), v7, v8, v9, v10, v11, v12, v13, v14, v15] ∧ H' = upd H5 Dp (.dK kvs') ∧
        FTab K H5 (PartOf Fs) kvs' ∧ (∀ G, Has kvs G → Has kvs' G) ∧ (∀ (j' : Nat) (b : Addr), j' < j → ps[j']? = some b → ∀ G, FmAt K H5 b G → Has kvs' G) ∧ kvs'.length ≤ kvs.length + j)
        ⟨kvs, _, rfl, (upd_id d5).symm, ft4.same s5, fun _ h => h, fun j' b h => absurd h (Nat.not_lt_zero _), Nat.le_refl _⟩ (fun j σ H' _ ⟨_, _, _, e, _⟩ => by rw [e]; exact SqT.of ((upd_ne (fun z => by rw [z, d5] at e5; cases e5)).trans e5)) ?_ ?_
      · rintro j x σ H6 hx ⟨kvs', v7', rfl, rfl, ft6, keep6, has6, len6⟩
        have hj : j < ps.length := by
          have := (List.getElem?_eq_some_iff.mp hx).1
          simpa [refV] using this
        have ex : x = .ref ps[j] := by
          rw [List.getElem?_map, List.getElem?_eq_getElem hj] at hx
          exact (Option.some.inj hx).symm
        subst ex
        obtain ⟨G, hG, fmG⟩ := own5 _ (List.getElem_mem hj)
        have pG : PartOf Fs G := ⟨F, Fmem, hG⟩
        obtain ⟨lG, zG⟩ := gF.leafs pG
        have s6 : ∀ {b : Addr} {F : FmS}, FmAt K H5 b F → FmAt K (upd H5 Dp (.dK kvs')) b F := fun {b F} h => h.keep (keep_dK d5)
        have fmG6 := s6 fmG
        obtain ⟨dg, fg, ig⟩ := fmG6.ins
        refine ⟨_, rfl, _, rfl, _, rfl, ps[j], dg, fg, rfl, ig, ps[j], G, rfl, fmG6, lG, zG, _, rfl, Dp, _, rfl, DPut.k (k := Sum.inr (txt G)) upd_same (sl2 (by omega)), ?_⟩
        refine ⟨putK kvs' (.inr (txt G)) (.ref ps[j]), _, rfl, upd_upd, ft6.put fmG pG, fun G' h => (keep6 G' h).put, fun j' b hj' hb G' fm' => ?_, Nat.le_trans (length_putK _ _ _) (by omega)⟩
        by_cases e : j' < j
        · exact (has6 j' b e hb G' fm').put
        · have e2 : j' = j := by omega
          subst e2
          rw [List.getElem?_eq_getElem hj] at hb
          cases hb
          exact Has.new.eq (fmG.txt_fn fm')
      · rintro σ H6 ⟨kvs', v7', rfl, rfl, ft6, keep6, has6, len6⟩
        have s6 : Same H (upd H5 Dp (.dK kvs')) := same_upd (s4.trans s5) hDp
        refine ⟨kvs', _, _, _, _, _, _, _, _, _, _, rfl, s6, (upd_ne (fun z => by rw [z, d5] at c5; cases c5)).trans c5, upd_same, ?_, fun j F' hj hF' G hG => ?_, ?_⟩
        · exact ft6.keep (keep_dK d5)
        · by_cases e : j < i
          · exact keep6 G (has4 j F' e hF' G hG)
          · have e2 : j = i := by omega
            subst e2
            rw [Fat] at hF'
            cases hF'
            obtain ⟨b, hb, fmb⟩ := all5 G hG
            obtain ⟨j', hj', eb⟩ := List.getElem_of_mem hb
            exact has6 j' b (by rw [List.length_map]; exact hj') (by rw [List.getElem?_eq_getElem hj', eb]) G fmb
        · have : (refV ps).length = ps.length := List.length_map ..
          omega
    · rintro σ H4 ⟨kvs, v6, v7, v8, v9, v10, v11, v12, v13, v14, v15, rfl, s4, c4, d4, ft4, has4, len4⟩
      have allG : ∀ G, PartOf Fs G → Has kvs G := fun G ⟨F, hF', hG⟩ => by
        obtain ⟨j, hj, e⟩ := List.getElem_of_mem hF'
        exact has4 j F (by rw [al, hF.len]; exact hj) (by rw [List.getElem?_eq_getElem hj, e]) G hG
      have k85 : kvs.length ≤ 85 := by omega
      obtain ⟨es, ees, hes⟩ := FTab.list ft4.ent
      have esl : es.length = kvs.length := by rw [ees, List.length_map]
      have esG : ∀ e ∈ es, Leafs e.1 ∧ sz e.1 ≤ 8 := fun e he => gF.leafs (hes e he).2
      have esnd : (es.map (·.1)).Nodup := by
        have nd := ft4.nd
        rw [ees, List.map_map] at nd
        have e1 : es.map ((fun q : Key × V => q.1) ∘ encK) = (es.map (·.1)).map fun G => (Sum.inr (txt G) : Key) := by
          rw [List.map_map]
          rfl
        rw [e1] at nd
        exact List.Pairwise.of_map _ (fun a b h e => h (by rw [e])) nd
      -- the pairs
      refine ⟨Dp, .dK kvs, d4, trivial, fun od => ?_⟩
      generalize hHL : upd H4 Dp (.frz od (.dK kvs)) = HL
      have dL : HL Dp = some (.frz od (.dK kvs)) := by
        rw [← hHL]
        exact upd_same
      have kL : ∀ b o, H4 b = some o → (∀ kvs, o ≠ .dK kvs) → HL b = some o := fun b o hb n => by
        rw [← hHL, upd_ne]
        · exact hb
        · intro e
          rw [e, d4] at hb
          exact n _ (Option.some.inj hb).symm
      have uL : ∀ {H'}, Same HL H' → Same H4 (upd H' Dp (.dK kvs)) := fun {H'} e => same_unlock d4 (by rw [hHL]; exact e)
      refine ⟨_, rfl, Dp, od, rfl, .inl ⟨kvs, dL, fun D2 hD2 => ?_⟩⟩
      refine lc_it (walk_keys (kvs := kvs)) (fun i H' => Same HL H' ∧ ∃ ts : List Addr, H' D2 = some (.lst (refV ts)) ∧ ts.length = i ∧ ∀ (j : Nat) (t : Addr), ts[j]? = some t → ∃ e, es[j]? = some e ∧ H' t = some (.tup [.int (sz e.1 : Nat), .str (txt e.1)]))
        ⟨same_new hD2, [], upd_same, rfl, fun (j : Nat) (t : Addr) h => absurd (show ([] : List Addr)[j]? = some t from h) (by simp)⟩ (fun i H' _ p => p.1 _ _ dL) ?_ ?_
      · rintro i x H' H5 hi ⟨s5, ts, ht, htl, hts⟩ ⟨rfl, k', v', hkv, rfl⟩
        have hie : i < es.length := by omega
        have hee := List.getElem?_eq_getElem hie
        rw [ees, List.getElem?_map, hee] at hkv
        obtain ⟨fme, pe⟩ := hes _ (List.getElem_mem hie)
        generalize es[i] = e at hee hkv fme pe
        cases hkv
        have fm5 := (fme.keep kL).same s5
        obtain ⟨dg, fg, ig⟩ := fm5.ins
        have hmem : (Sum.inr (txt e.1), V.ref e.2) ∈ kvs := by
          rw [ees]
          exact List.mem_map.mpr ⟨e, List.mem_of_getElem? hee, rfl⟩
        refine ⟨rfl, _, rfl, _, rfl, Dp, _, rfl, .inl ⟨kvs, .inr (txt e.1), .inr ⟨od, s5 _ _ dL⟩, rfl, (mem_valV ft4.nd hmem).symm⟩, ?_⟩
        refine ⟨e.2, dg, fg, rfl, ig, e.2, e.1, rfl, fm5, (sz e.1 : Nat), rfl, ⟨by omega, by have := (gF.leafs pe).2; omega⟩, ?_⟩
        refine ⟨_, rfl, by show 2 ≤ sizeLine; decide, fun t hT => ?_⟩
        have ne1 : D2 ≠ t := fun e => by
          rw [e, hT] at ht
          cases ht
        refine ⟨_, (upd_ne ne1).trans ht, sl2 (by rw [List.length_map]; omega), same_upd (same_upd s5 (same_none s5 hT)) hD2, ts ++ [t], ?_, by simp [htl], fun j t' hj => ?_⟩
        · rw [upd_same]
          simp [refV]
        · by_cases e' : j < ts.length
          · rw [List.getElem?_append_left e'] at hj
            obtain ⟨e2, h1, h2⟩ := hts j t' hj
            refine ⟨e2, h1, ?_⟩
            have n1 : t' ≠ t := fun e => by
              rw [e, hT] at h2
              cases h2
            have n2 : t' ≠ D2 := fun e => by
              rw [e, ht] at h2
              cases h2
            rw [upd_ne n2, upd_ne n1]
            exact h2
          · rw [List.getElem?_append_right (by omega)] at hj
            have e2 : j = ts.length := by
              rcases Nat.lt_or_ge (j - ts.length) 1 with h | h
              · omega
              · rw [List.getElem?_eq_none (by simpa using h)] at hj
                cases hj
            subst e2
            have e3 : t' = t := by simpa using hj.symm
            subst e3
            refine ⟨e, by rw [htl]; exact hee, ?_⟩
            rw [upd_ne ne1.symm, upd_same]
            rfl
      · rintro H5 ⟨s5, ts, ht, htl, hts⟩
        refine ⟨s5 _ _ dL, ?_⟩
        have neD : D2 ≠ Dp := fun e => by
          rw [e, dL] at hD2
          cases hD2
        have s46 := uL s5
        have l6 : (upd H5 Dp (.dK kvs)) D2 = some (.lst (refV ts)) := (upd_ne neD).trans ht
        have t6 : ∀ (j : Nat) (t : Addr), ts[j]? = some t → ∃ e, es[j]? = some e ∧ (upd H5 Dp (.dK kvs)) t = some (.tup [.int (sz e.1 : Nat), .str (txt e.1)]) := fun j t hj => by
          obtain ⟨e, h1, h2⟩ := hts j t hj
          refine ⟨e, h1, ?_⟩
          rw [upd_ne]
          · exact h2
          · intro e
            rw [e, s5 _ _ dL] at h2
            cases h2
        have d6 : (upd H5 Dp (.dK kvs)) Dp = some (.dK kvs) := upd_same
        generalize upd H5 Dp (.dK kvs) = H6 at s46 l6 t6 d6 ⊢
        refine ⟨D2, refV ts, rfl, SqL.of l6, fun x hx => ?_, fun ys TX hperm hTX => ?_⟩
        · obtain ⟨t, ht', rfl⟩ := List.mem_map.mp hx
          obtain ⟨j, hj, e⟩ := List.getElem_of_mem ht'
          obtain ⟨e, h1, h2⟩ := t6 j t (by rw [List.getElem?_eq_getElem hj, e])
          exact ⟨t, _, _, rfl, SqT.of h2⟩
        -- the list in its order
        have tsl : ts.length = es.length := by omega
        obtain ⟨zs, pz, ez⟩ := perm_pull (f := fun z : (FmS × Addr) × Addr => V.ref z.2) hperm.symm (l := es.zip ts) (by
          have e1 : (es.zip ts).map (fun z : (FmS × Addr) × Addr => V.ref z.2) = ((es.zip ts).map Prod.snd).map V.ref := by rw [List.map_map]; rfl
          rw [e1, List.map_snd_zip (by omega)])
        subst ez
        have hz : ∀ z ∈ zs, z.1 ∈ es ∧ H6 z.2 = some (.tup [.int (sz z.1.1 : Nat), .str (txt z.1.1)]) := fun z hz => by
          obtain ⟨j, hj, e⟩ := List.getElem_of_mem (pz.mem_iff.mpr hz)
          rw [List.length_zip] at hj
          rw [List.getElem_zip] at e
          have j1 : j < es.length := by omega
          have j2 : j < ts.length := by omega
          obtain ⟨e', h1, h2⟩ := t6 j ts[j] (List.getElem?_eq_getElem j2)
          rw [List.getElem?_eq_getElem j1] at h1
          cases h1
          rw [← e]
          exact ⟨List.getElem_mem j1, h2⟩
        have zl : zs.length = es.length := by rw [← pz.length_eq, List.length_zip]; omega
        have gnd : (zs.map fun z => z.1.1).Nodup := by
          refine ((pz.map fun z : (FmS × Addr) × Addr => z.1.1).nodup_iff).mp ?_
          have e1 : (es.zip ts).map (fun z : (FmS × Addr) × Addr => z.1.1) = ((es.zip ts).map Prod.fst).map (·.1) := by rw [List.map_map]; rfl
          rw [e1, List.map_fst_zip (by omega)]
          exact esnd
        have gmem : ∀ G, PartOf Fs G → G ∈ zs.map fun z => z.1.1 := fun G hG => by
          obtain ⟨b, hb⟩ := allG G hG
          have m := valV_mem hb
          rw [ees] at m
          obtain ⟨e, he, e1⟩ := List.mem_map.mp m
          injection e1 with e1 _
          injection e1 with e1
          have e2 := txt_inj (esG e he).1 (gF.leafs hG).1 e1
          obtain ⟨j, hj, ej⟩ := List.getElem_of_mem he
          have hj2 : j < (es.zip ts).length := by rw [List.length_zip]; omega
          have m2 := pz.mem_iff.mp (List.getElem_mem hj2)
          rw [List.getElem_zip] at m2
          exact List.mem_map.mpr ⟨_, m2, by rw [ej, e2]⟩
        have zG : ∀ z ∈ zs, PartOf Fs z.1.1 ∧ FmAt K H6 z.1.2 z.1.1 := fun z hz' => ⟨(hes _ (hz z hz').1).2, (hes _ (hz z hz').1).1.same s46⟩
        have zLf : ∀ z ∈ zs, Leafs z.1.1 ∧ sz z.1.1 ≤ 8 := fun z hz' => gF.leafs (zG z hz').1
        have s67 : Same H6 (upd H6 TX (.lst (zs.map fun z => V.ref z.2))) := same_new hTX
        have x7 : (upd H6 TX (.lst (zs.map fun z => V.ref z.2))) TX = some (.lst (zs.map fun z => V.ref z.2)) := upd_same
        have d7 := s67 _ _ d6
        have s07 := s4.trans (s46.trans s67)
        have z7 : ∀ z ∈ zs, (upd H6 TX (.lst (zs.map fun z => V.ref z.2))) z.2 = some (.tup [.int (sz z.1.1 : Nat), .str (txt z.1.1)]) := fun z hz' => s67 _ _ (hz z hz').2
        have f7 : ∀ z ∈ zs, FmAt K (upd H6 TX (.lst (zs.map fun z => V.ref z.2))) z.1.2 z.1.1 := fun z hz' => (zG z hz').2.same s67
        generalize upd H6 TX (.lst (zs.map fun z => V.ref z.2)) = H7 at s67 x7 d7 s07 z7 f7 ⊢
        clear hts t6 l6 ht hperm hD2 s5 dL kL uL hHL
        -- numbers
        refine ⟨_, rfl, TX, _, rfl, SqL.of x7, fun Dn hDn => ?_⟩
        refine dc_it (walk_enum (xs := zs.map fun z => V.ref z.2)) (fun i H' => ∃ nv, Same H7 H' ∧ H' Dn = some (.dK nv) ∧ nv.length ≤ i ∧ ∀ (j : Nat) (z : (FmS × Addr) × Addr), j < i → zs[j]? = some z → valV nv (Sum.inr (txt z.1.1)) = some (.int (j : Nat)))
          ⟨[], same_new hDn, upd_same, Nat.le_refl _, fun j z h => absurd h (Nat.not_lt_zero _)⟩ (fun i H' _ ⟨_, s, _⟩ => SqL.of (s _ _ x7)) ?_ ?_
        · rintro i x H' H'' hi ⟨nv, s8, d8, l8, v8'⟩ ⟨tp, x1, y1, rfl, htp, rfl, hx1, hy1⟩
          have hiz : i < zs.length := by simpa using hi
          have hiz2 := List.getElem?_eq_getElem hiz
          have hy1 : (zs.map fun z => V.ref z.2)[i]? = some y1 := hy1
          rw [List.getElem?_map, hiz2] at hy1
          have zm : zs[i] ∈ zs := List.getElem_mem hiz
          generalize hzz : zs[i] = z at hy1 hiz2 zm
          cases hx1
          cases hy1
          have s9 := s8.trans (same_new (o := .tup [.int (i : Nat), .ref z.2]) htp)
          refine ⟨tp, _, rfl, SqT.of upd_same, rfl, _, _, rfl, _, _, rfl, rfl, rfl, _, rfl, z.2, _, _, _, rfl, rfl, SqT.of (s9 _ _ (z7 z zm)), atI_nat (j := 1) rfl, _, rfl, nv, Sum.inr (txt z.1.1), rfl, (upd_ne (ne_of_none d8 htp)).trans d8, sl2 (by omega), ?_⟩
          refine ⟨_, same_upd s9 hDn, upd_same, Nat.le_trans (length_putK _ _ _) (by omega), fun j z' hj hz' => ?_⟩
          rw [valV_put]
          by_cases e : j < i
          · rw [if_neg]
            · exact v8' j z' e hz'
            · intro e2
              injection e2 with e2
              have e3 := txt_inj (zLf z' (List.mem_of_getElem? hz')).1 (zLf z zm).1 e2
              have j1 : j < zs.length := by omega
              have g1 : (zs.map fun z => z.1.1)[j]? = some z'.1.1 := by rw [List.getElem?_map, hz']; rfl
              have g2 : (zs.map fun z => z.1.1)[i]? = some z.1.1 := by rw [List.getElem?_map, hiz2]; rfl
              obtain ⟨p1, p2⟩ := List.getElem?_eq_some_iff.mp g1
              obtain ⟨p3, p4⟩ := List.getElem?_eq_some_iff.mp g2
              exact Nat.ne_of_lt e ((List.getElem_inj gnd).mp (p2.trans (e3.trans p4.symm)))
          · have e2 : j = i := by omega
            subst e2
            rw [hiz2] at hz'
            cases hz'
            rw [if_pos rfl]
        · rintro H8 ⟨nv, s8, d8, l8, v8'⟩
          have num8 : ∀ G ∈ zs.map (fun z => z.1.1), valV nv (Sum.inr (txt G)) = some (.int ((zs.map fun z => z.1.1).idxOf G : Nat)) := fun G hG => by
            have hj := List.idxOf_lt_length_iff.mpr hG
            have hj2 : (zs.map fun z => z.1.1).idxOf G < zs.length := by simpa using hj
            have e1 := v8' _ zs[(zs.map fun z => z.1.1).idxOf G] (by rw [List.length_map]; exact hj2) (List.getElem?_eq_getElem hj2)
            have e2 : zs[(zs.map fun z => z.1.1).idxOf G].1.1 = G := by
              have e3 := List.getElem_idxOf hj
              rw [List.getElem_map] at e3
              exact e3
            rw [e2] at e1
            exact e1
          have a8 := (s07.trans s8) _ _ ha
          refine ⟨_, rfl, a, _, dx, [], rfl, a8, T.cl_Table, T.na_Table_numbers, plM pl0 (by decide), ?_⟩
          rw [fsT1_put]
          have x8 := s8 _ _ x7
          have p8 := s8 _ _ d7
          have z8 : ∀ z ∈ zs, H8 z.2 = some (.tup [.int (sz z.1.1 : Nat), .str (txt z.1.1)]) := fun z hz' => s8 _ _ (z7 z hz')
          have f8 : ∀ z ∈ zs, FmAt K H8 z.1.2 z.1.1 := fun z hz' => (f7 z hz').same s8
          have k9 : ∀ b o, H8 b = some o → b ≠ a → (upd H8 a (.ins (CTable K) dx (fsT1 Dn))) b = some o := fun b o hb n => (upd_ne n).trans hb
          have na : ∀ {b o}, H8 b = some o → (∀ C dx fs, o ≠ .ins C dx fs) → b ≠ a := fun {b o} hb n e => by
            rw [e, a8] at hb
            exact n _ _ _ (Option.some.inj hb).symm
          have a9 : (upd H8 a (.ins (CTable K) dx (fsT1 Dn))) a = some (.ins (CTable K) dx (fsT1 Dn)) := upd_same
          have x9 := k9 _ _ x8 (na x8 fun _ _ _ e => by cases e)
          have p9 := k9 _ _ p8 (na p8 fun _ _ _ e => by cases e)
          have n9 := k9 _ _ d8 (na d8 fun _ _ _ e => by cases e)
          have z9 : ∀ z ∈ zs, (upd H8 a (.ins (CTable K) dx (fsT1 Dn))) z.2 = some (.tup [.int (sz z.1.1 : Nat), .str (txt z.1.1)]) := fun z hz' => k9 _ _ (z8 z hz') (na (z8 z hz') fun _ _ _ e => by cases e)
          have f9 : ∀ z ∈ zs, FmAt K (upd H8 a (.ins (CTable K) dx (fsT1 Dn))) z.1.2 z.1.1 := fun z hz' => (f8 z hz').keepA a8 rfl k9
          have s09 : Same H0 (upd H8 a (.ins (CTable K) dx (fsT1 Dn))) := same_upd (sm.trans (s07.trans s8)) h0
          generalize upd H8 a (.ins (CTable K) dx (fsT1 Dn)) = H9 at a9 x9 p9 n9 z9 f9 s09 ⊢
          clear k9 na f8 z8 p8 x8 f7 z7 x7 d7 v8' s8 d8
          -- the names of the letters
          have esz : ∀ e ∈ es, ∃ z ∈ zs, z.1 = e := fun e he => by
            obtain ⟨j, hj, ej⟩ := List.getElem_of_mem he
            have hj2 : j < (es.zip ts).length := by rw [List.length_zip]; omega
            have m2 := pz.mem_iff.mp (List.getElem_mem hj2)
            rw [List.getElem_zip] at m2
            exact ⟨_, m2, ej⟩
          refine ⟨Dp, .dK kvs, p9, trivial, fun od2 => ?_⟩
          generalize hHM : upd H9 Dp (.frz od2 (.dK kvs)) = HM
          have dM : HM Dp = some (.frz od2 (.dK kvs)) := by
            rw [← hHM]
            exact upd_same
          have kM : ∀ b o, H9 b = some o → (∀ kvs, o ≠ .dK kvs) → HM b = some o := fun b o hb n => by
            rw [← hHM, upd_ne]
            · exact hb
            · intro e
              rw [e, p9] at hb
              exact n _ (Option.some.inj hb).symm
          have uM : ∀ {H'}, Same HM H' → Same H9 (upd H' Dp (.dK kvs)) := fun {H'} e => same_unlock p9 (by rw [hHM]; exact e)
          refine ⟨_, rfl, Dp, od2, rfl, .inl ⟨kvs, dM, fun D3 hD3 => ?_⟩⟩
          refine lc_it (walk_keys (kvs := kvs)) (fun i H' => H' = upd HM D3 (.lst (strV (((es.take i).filter fun e => decide (sz e.1 = 0)).map fun e => txt e.1)))) rfl (fun i H' _ p => by rw [p]; exact (upd_ne (ne_of_none dM hD3)).trans dM) ?_ ?_
          · rintro i x H' H'' hi rfl ⟨rfl, k', v', hkv, rfl⟩
            have hie : i < es.length := by omega
            have hee := List.getElem?_eq_getElem hie
            rw [ees, List.getElem?_map, hee] at hkv
            have hem : es[i] ∈ es := List.getElem_mem hie
            have tk : es.take (i + 1) = es.take i ++ [es[i]] := by rw [List.take_add_one, hee]; rfl
            generalize es[i] = e at hee hkv hem tk
            cases hkv
            obtain ⟨z, hz1, hz2⟩ := esz e hem
            have fm1 := f9 z hz1
            rw [hz2] at fm1
            have sM := same_new (o := .lst (strV (((es.take i).filter fun e => decide (sz e.1 = 0)).map fun e => txt e.1))) hD3
            have fm5 := (fm1.keep kM).same sM
            obtain ⟨dg, fg, ig⟩ := fm5.ins
            have hmem : (Sum.inr (txt e.1), V.ref e.2) ∈ kvs := by
              rw [ees]
              exact List.mem_map.mpr ⟨e, hem, rfl⟩
            have e8 := (esG e hem).2
            refine ⟨rfl, _, rfl, _, rfl, Dp, _, rfl, .inl ⟨kvs, .inr (txt e.1), .inr ⟨od2, sM _ _ dM⟩, rfl, (mem_valV ft4.nd hmem).symm⟩, e.2, dg, fg, rfl, ig, e.2, e.1, rfl, fm5, (sz e.1 : Nat), rfl, ⟨by omega, by omega⟩, rfl, decide (sz e.1 = 0), ?_, ?_⟩
            · by_cases c : sz e.1 = 0
              · rw [decide_eq_true c, c]
                rfl
              · rw [decide_eq_false c, decide_eq_false (fun z => c (by injection z with z; omega))]
            · rw [tk, List.filter_append]
              refine iteB (fun c => ?_) (fun c => ?_)
              · refine ⟨_, rfl, _, upd_same, sl2 ?_, ?_⟩
                · have := List.length_filter_le (fun e : FmS × Addr => decide (sz e.1 = 0)) (es.take i)
                  rw [List.length_map, List.length_map]
                  rw [List.length_take] at this
                  omega
                · rw [upd_upd]
                  simp only [List.filter_cons, List.filter_nil, c, if_true, strV, List.map_append, List.map_cons, List.map_nil]
                  rfl
              · simp only [List.filter_cons, List.filter_nil, c, Bool.false_eq_true, if_false, List.append_nil]
          · rintro H' rfl
            refine ⟨(upd_ne (ne_of_none dM hD3)).trans dM, ?_⟩
            have n3 : D3 ≠ Dp := (ne_of_none dM hD3).symm
            have sA := uM (same_new (o := .lst (strV (((es.take kvs.length).filter fun e => decide (sz e.1 = 0)).map fun e => txt e.1))) hD3)
            have lA : (upd (upd HM D3 (.lst (strV (((es.take kvs.length).filter fun e => decide (sz e.1 = 0)).map fun e => txt e.1)))) Dp (.dK kvs)) D3 = some (.lst (strV (((es.take kvs.length).filter fun e => decide (sz e.1 = 0)).map fun e => txt e.1))) := (upd_ne n3).trans upd_same
            generalize upd (upd HM D3 (.lst (strV (((es.take kvs.length).filter fun e => decide (sz e.1 = 0)).map fun e => txt e.1)))) Dp (.dK kvs) = HA at sA lA ⊢
            refine ⟨D3, _, rfl, SqL.of lA, ?_, fun ys ln _ _ hln => ?_⟩
            · have nl : (((es.take kvs.length).filter fun e => decide (sz e.1 = 0)).map (·.1)).Nodup := esnd.sublist ((List.filter_sublist.trans (List.take_sublist _ _)).map _)
              have hle := nodup_le (m := nm.map Fm.lt) nl fun G hG => by
                obtain ⟨e, he, rfl⟩ := List.mem_map.mp hG
                obtain ⟨h1, h2⟩ := List.mem_filter.mp he
                have h1 := List.mem_of_mem_take h1
                have h2 : sz e.1 = 0 := of_decide_eq_true h2
                obtain ⟨F, hF', hGF⟩ := (hes e h1).2
                cases e3 : e.1 with
                | lt z =>
                  rw [e3] at hGF
                  exact List.mem_map.mpr ⟨z, (gF F hF').2.2 z hGF, rfl⟩
                | op sg l r =>
                  rw [e3] at h2
                  exact absurd h2 (by show ¬ sz l + sz r + 1 = 0; omega)
              rw [List.length_map, List.length_map] at hle
              rw [List.length_map]
              omega
            have sB := sA.trans (same_new (o := .lst (ys.map V.str)) hln)
            refine ⟨_, rfl, a, _, dx, _, rfl, sB _ _ a9, T.cl_Table, T.na_Table_letter_names, by show 1 < 1000; decide, ?_⟩
            rw [fsT2_put]
            have aB := sB _ _ a9
            have xB := sB _ _ x9
            have pB := sB _ _ p9
            have nB := sB _ _ n9
            have zB : ∀ z ∈ zs, (upd HA ln (.lst (ys.map V.str))) z.2 = some (.tup [.int (sz z.1.1 : Nat), .str (txt z.1.1)]) := fun z hz' => sB _ _ (z9 z hz')
            have fB : ∀ z ∈ zs, FmAt K (upd HA ln (.lst (ys.map V.str))) z.1.2 z.1.1 := fun z hz' => (f9 z hz').same sB
            have s0B := s09.trans sB
            generalize upd HA ln (.lst (ys.map V.str)) = HB at aB xB pB nB zB fB s0B ⊢
            have k2 : ∀ b o, HB b = some o → b ≠ a → (upd HB a (.ins (CTable K) dx (fsT2 Dn ln))) b = some o := fun b o hb n => (upd_ne n).trans hb
            have na : ∀ {b o}, HB b = some o → (∀ C dx fs, o ≠ .ins C dx fs) → b ≠ a := fun {b o} hb n e => by
              rw [e, aB] at hb
              exact n _ _ _ (Option.some.inj hb).symm
            have a2 : (upd HB a (.ins (CTable K) dx (fsT2 Dn ln))) a = some (.ins (CTable K) dx (fsT2 Dn ln)) := upd_same
            have x2 := k2 _ _ xB (na xB fun _ _ _ e => by cases e)
            have p2 := k2 _ _ pB (na pB fun _ _ _ e => by cases e)
            have n2 := k2 _ _ nB (na nB fun _ _ _ e => by cases e)
            have z2 : ∀ z ∈ zs, (upd HB a (.ins (CTable K) dx (fsT2 Dn ln))) z.2 = some (.tup [.int (sz z.1.1 : Nat), .str (txt z.1.1)]) := fun z hz' => k2 _ _ (zB z hz') (na (zB z hz') fun _ _ _ e => by cases e)
            have f2 : ∀ z ∈ zs, FmAt K (upd HB a (.ins (CTable K) dx (fsT2 Dn ln))) z.1.2 z.1.1 := fun z hz' => (fB z hz').keepA aB (fsT1_text _) k2
            have s02' : Same H0 (upd HB a (.ins (CTable K) dx (fsT2 Dn ln))) := same_upd s0B h0
            generalize upd HB a (.ins (CTable K) dx (fsT2 Dn ln)) = HC at a2 x2 p2 n2 z2 f2 s02' ⊢
            clear k2 na fB zB xB pB nB aB sB lA sA uM kM dM hHM hD3 a9 x9 p9 n9 z9 f9
            -- the operations
            refine ⟨_, rfl, TX, rfl, ⟨_, SqL.of x2⟩, fun Do hDo => ?_⟩
            refine lc_list (K := K) (xs := zs.map fun z => V.ref z.2) (fun i H' => H' = upd HC Do (.lst (((zs.take i).filter fun z => decide (0 < sz z.1.1)).map fun z => V.ref z.1.2))) rfl (fun i H' _ p => by rw [p]; exact SqL.of ((upd_ne (ne_of_none x2 hDo)).trans x2)) ?_ ?_
            · rintro i x H' hx rfl
              have hiz : i < zs.length := by
                have := (List.getElem?_eq_some_iff.mp hx).1
                simpa using this
              have hiz2 := List.getElem?_eq_getElem hiz
              rw [List.getElem?_map, hiz2] at hx
              have zm : zs[i] ∈ zs := List.getElem_mem hiz
              have tk : zs.take (i + 1) = zs.take i ++ [zs[i]] := by rw [List.take_add_one, hiz2]; rfl
              generalize hzz : zs[i] = z at hx hiz2 zm tk
              cases hx
              have sO := same_new (o := .lst (((zs.take i).filter fun z => decide (0 < sz z.1.1)).map fun z => V.ref z.1.2)) hDo
              have hmem : (Sum.inr (txt z.1.1), V.ref z.1.2) ∈ kvs := by
                rw [ees]
                exact List.mem_map.mpr ⟨z.1, (hz z zm).1, rfl⟩
              refine ⟨rfl, _, rfl, z.2, _, _, _, rfl, rfl, SqT.of (sO _ _ (z2 z zm)), atI_nat (j := 0) rfl, _, _, rfl, rfl, decide (0 < sz z.1.1), ?_, ?_⟩
              · by_cases c : 0 < sz z.1.1
                · rw [decide_eq_true c]
                  exact blT (by omega)
                · rw [decide_eq_false c]
                  exact blF (by omega)
              · rw [tk, List.filter_append]
                refine iteB (fun c => ?_) (fun c => ?_)
                · refine ⟨_, rfl, _, rfl, z.2, _, _, _, rfl, rfl, SqT.of (sO _ _ (z2 z zm)), atI_nat (j := 1) rfl, Dp, _, rfl, DGet.s (sO _ _ p2) (mem_valV ft4.nd hmem), _, upd_same, sl2 ?_, ?_⟩
                  · have := List.length_filter_le (fun z : (FmS × Addr) × Addr => decide (0 < sz z.1.1)) (zs.take i)
                    rw [List.length_map]
                    rw [List.length_take] at this
                    omega
                  · rw [upd_upd]
                    simp only [List.filter_cons, List.filter_nil, c, if_true, List.map_append, List.map_cons, List.map_nil]
                · simp only [List.filter_cons, List.filter_nil, c, Bool.false_eq_true, if_false, List.append_nil]
            · rintro H' rfl
              rw [show (zs.map fun z : (FmS × Addr) × Addr => V.ref z.2).length = zs.length from List.length_map .., List.take_length]
              have sD : Same HC (upd HC Do (.lst ((zs.filter fun z => decide (0 < sz z.1.1)).map fun z => V.ref z.1.2))) := same_new hDo
              have o4 : (upd HC Do (.lst ((zs.filter fun z => decide (0 < sz z.1.1)).map fun z => V.ref z.1.2))) Do = some (.lst ((zs.filter fun z => decide (0 < sz z.1.1)).map fun z => V.ref z.1.2)) := upd_same
              generalize upd HC Do (.lst ((zs.filter fun z => decide (0 < sz z.1.1)).map fun z => V.ref z.1.2)) = HD at sD o4 ⊢
              have gsides : ∀ s l r, Fm.op s l r ∈ zs.map (fun z => z.1.1) → l ∈ zs.map (fun z => z.1.1) ∧ r ∈ zs.map (fun z => z.1.1) := fun sg l r hG => by
                obtain ⟨z, hz1, hz2⟩ := List.mem_map.mp hG
                obtain ⟨F, hF', hGF⟩ := (zG z hz1).1
                rw [hz2] at hGF
                obtain ⟨m1, m2⟩ := subs_sides hGF
                exact ⟨gmem _ ⟨F, hF', m1⟩, gmem _ ⟨F, hF', m2⟩⟩
              generalize hfl : zs.filter (fun z => decide (0 < sz z.1.1)) = fl at o4 ⊢
              have flm : ∀ z ∈ fl, z ∈ zs ∧ 0 < sz z.1.1 := fun z hz' => by
                rw [← hfl] at hz'
                obtain ⟨m1, m2⟩ := List.mem_filter.mp hz'
                exact ⟨m1, of_decide_eq_true m2⟩
              have fll : fl.length ≤ zs.length := by
                rw [← hfl]
                exact List.length_filter_le _ _
              have aD := sD _ _ a2
              have nD := sD _ _ n2
              refine ⟨_, rfl, _, rfl, TX, _, rfl, .inl (SqL.of (sD _ _ x2)), ?_⟩
              refine ⟨_, rfl, Do, rfl, ⟨_, SqL.of o4⟩, fun D4 hD4 => ?_⟩
              refine lc_list (K := K) (xs := fl.map fun z => V.ref z.1.2) (fun i H' => Same HD H' ∧ ∃ t3 : List Addr, H' D4 = some (.lst (refV t3)) ∧ t3.length = i ∧ ∀ (j : Nat) (t : Addr), t3[j]? = some t → ∃ z, fl[j]? = some z ∧ H' t = some (.tup (t3V (trip (zs.map fun z => z.1.1) z.1.1))))
                ⟨same_new hD4, [], upd_same, rfl, fun (j : Nat) (t : Addr) h => absurd (show ([] : List Addr)[j]? = some t from h) (by simp)⟩ (fun i H' _ p => SqL.of (p.1 _ _ o4)) ?_ ?_
              · rintro i x H' hx ⟨sE, t3, ht3, ht3l, ht3s⟩
                have hiz : i < fl.length := by
                  have := (List.getElem?_eq_some_iff.mp hx).1
                  simpa using this
                have hiz2 := List.getElem?_eq_getElem hiz
                rw [List.getElem?_map, hiz2] at hx
                obtain ⟨zm, zp⟩ := flm _ (List.getElem_mem hiz)
                generalize fl[i] = z at hx hiz2 zm zp
                cases hx
                have fz := (f2 z zm).same (sD.trans sE)
                have gz : z.1.1 ∈ zs.map fun z => z.1.1 := List.mem_map.mpr ⟨z, zm, rfl⟩
                have lz := zLf z zm
                have key : ∀ G : FmS, z.1.1 = G → 0 < sz G → ∃ s l r, G = .op s l r := fun G _ h => by
                  cases G with
                  | lt _ => exact absurd h (Nat.lt_irrefl _)
                  | op s l r => exact ⟨s, l, r, rfl⟩
                obtain ⟨sg, l, r, eG⟩ := key _ rfl zp
                rw [eG] at fz gz lz
                obtain ⟨gl1, gl2⟩ := gsides sg l r gz
                refine ⟨rfl, _, rfl, _, rfl, a, _, dx, _, _, rfl, sE _ _ aD, T.cl_Table, T.na_Table_numbers, fsT2_numbers .., ?_⟩
                refine ⟨z.1.2, Dn, sg, l, r, nv, _, _, _, rfl, fz, lz.1, lz.2, sE _ _ nD, num8 l gl1, num8 r gl2, num8 _ gz, fun t hT => ?_⟩
                have ne1 : D4 ≠ t := fun e => by
                  rw [e, hT] at ht3
                  cases ht3
                refine ⟨_, (upd_ne ne1).trans ht3, sl2 (by rw [List.length_map]; omega), same_upd (same_upd sE (same_none sE hT)) hD4, t3 ++ [t], ?_, by simp [ht3l], fun j t' hj => ?_⟩
                · rw [upd_same]
                  simp [refV]
                · by_cases e' : j < t3.length
                  · rw [List.getElem?_append_left e'] at hj
                    obtain ⟨z', h1, h2⟩ := ht3s j t' hj
                    refine ⟨z', h1, ?_⟩
                    have n1 : t' ≠ t := fun e => by
                      rw [e, hT] at h2
                      cases h2
                    have n2 : t' ≠ D4 := fun e => by
                      rw [e, ht3] at h2
                      cases h2
                    rw [upd_ne n2, upd_ne n1]
                    exact h2
                  · rw [List.getElem?_append_right (by omega)] at hj
                    have e2 : j = t3.length := by
                      rcases Nat.lt_or_ge (j - t3.length) 1 with h | h
                      · omega
                      · rw [List.getElem?_eq_none (by simpa using h)] at hj
                        cases hj
                    subst e2
                    have e3 : t' = t := by simpa using hj.symm
                    subst e3
                    refine ⟨z, by rw [ht3l]; exact hiz2, ?_⟩
                    rw [upd_ne ne1.symm, upd_same, eG]
                    rfl
              · rintro HE ⟨sE, t3, ht3, ht3l, ht3s⟩
                have hNl : (zs.map fun z : (FmS × Addr) × Addr => V.ref z.2).length = (zs.map fun z : (FmS × Addr) × Addr => z.1.1).length := by rw [List.length_map, List.length_map]
                have hglN : (zs.map fun z : (FmS × Addr) × Addr => z.1.1).length ≤ 85 := by
                  rw [List.length_map]
                  omega
                have hopm : ∀ o, o ∈ fl.map (fun z => trip (zs.map fun z => z.1.1) z.1.1) ↔ ∃ G ∈ zs.map (fun z => z.1.1), 0 < sz G ∧ o = trip (zs.map fun z => z.1.1) G := fun o => by
                  constructor
                  · intro h
                    obtain ⟨z, h1, rfl⟩ := List.mem_map.mp h
                    obtain ⟨m1, m2⟩ := flm z h1
                    exact ⟨_, List.mem_map.mpr ⟨z, m1, rfl⟩, m2, rfl⟩
                  · rintro ⟨G, h1, h2, rfl⟩
                    obtain ⟨z, m1, rfl⟩ := List.mem_map.mp h1
                    refine List.mem_map.mpr ⟨z, ?_, rfl⟩
                    rw [← hfl]
                    exact List.mem_filter.mpr ⟨m1, decide_eq_true h2⟩
                obtain ⟨sys, opl⟩ := sys_of gnd gsides hopm
                have T3E : T3s HE t3 (fl.map fun z => trip (zs.map fun z => z.1.1) z.1.1) := by
                  refine ⟨by rw [ht3l, List.length_map, List.length_map], fun i y o h1 h2 => ?_⟩
                  obtain ⟨z, e1, e2⟩ := ht3s i y h1
                  rw [List.getElem?_map, e1] at h2
                  cases h2
                  exact e2
                intro x dxc hx hdx hne
                have aE := sE _ _ aD
                obtain ⟨dk, hk0⟩ := hk
                have hkE : KindAt K HE k L calm := ⟨dk, (s02'.trans (sD.trans sE)) _ _ hk0⟩
                rw [hNl]
                generalize hgl : zs.map (fun z => z.1.1) = gl at *
                refine ⟨x, dxc, k, D4, gl.length, t3, fl.map (fun z => trip gl z.1.1), L, calm, HE, rfl, hx, same_upd (same_new hdx) hx, upd_same, hkE, ht3, T3E, by omega, fun HF c sF CF hcb hct => ⟨rfl, ?_⟩⟩
                have aF := sF _ _ aE
                refine ⟨_, rfl, a, _, dx, _, rfl, aF, T.cl_Table, T.na_Table_closing, by show 2 < 1000; decide, ?_⟩
                rw [fsT3_put]
                have k4 : ∀ b o, HF b = some o → b ≠ a → (upd HF a (.ins (CTable K) dx (fsTb Dn ln x))) b = some o := fun b o hb n => (upd_ne n).trans hb
                have CG := CF.keepA aF (fsT2_kind _ _) (fsT2_turns _ _) k4
                have aG : (upd HF a (.ins (CTable K) dx (fsTb Dn ln x))) a = some (.ins (CTable K) dx (fsTb Dn ln x)) := upd_same
                have nF := sF _ _ (sE _ _ nD)
                have nG := k4 _ _ nF (fun e => by rw [e, aF] at nF; cases nF)
                have s0E := s02'.trans (sD.trans sE)
                have s0G : Same H0 (upd HF a (.ins (CTable K) dx (fsTb Dn ln x))) := same_upd (s0E.trans sF) h0
                generalize upd HF a (.ins (CTable K) dx (fsTb Dn ln x)) = HG at CG aG nG s0G ⊢
                refine ⟨_, rfl, fc, rfl, ⟨[], s0G.tup hfc⟩, ?_⟩
                refine for_tup (K := K) (xs := []) (fun i σ H' => H' = HG ∧ σ = [some (.ref a), some (.ref k), some (.ref fs), some (.ref fc), some (.ref Dp), some (.ref Ds), v6, v7, some (.ref TX), some (.ref Do), v10, v11, v12, v13, v14, v15]) ⟨rfl, rfl⟩ (fun _ _ _ _ p => by rw [p.1]; exact s0G.tup hfc) (fun i x σ H' h => by cases h) ?_
                rintro σ H' ⟨rfl, rfl⟩
                obtain ⟨dxo, hxo⟩ := CG.obj
                refine ⟨_, rfl, a, _, dx, _, _, rfl, aG, T.cl_Table, T.na_Table_closing, fsTb_closing .., x, dxo, _, rfl, hxo, fsCl_close .., ?_⟩
                have nn : gl.length * gl.length ≤ 85 * 85 := Nat.mul_le_mul hglN hglN
                have rs := KM.range_sum gl.length
                refine ⟨x, c, L, calm, fl.map (fun z => trip gl z.1.1), [], List.range gl.length, 0, gl.length, rfl, CG, KM.range_dn _, List.length_range, by omega, fun y hy => ?_, fun _ _ h => (by cases h), opl, by rw [List.length_map]; omega, fun HH ab tl kp CH dnH lenH eqvH => ?_⟩
                · rw [KM.range_rt _ _ (by rw [List.length_range] at hy; exact hy)]
                  exact .refl _
                · have ni : ∀ {y : Addr} {o : HO}, H' y = some o → (∀ xs, o ≠ .lst xs) → HH y = some o := fun {y o} h n => by
                    refine kp _ _ h fun m => ?_
                    rcases List.mem_cons.mp m with e | m
                    · rw [e, CG.abv] at h
                      exact n _ (Option.some.inj h).symm
                    · have e : y = c.t := by simpa using m
                      obtain ⟨tr, h2, _⟩ := CG.trl
                      rw [e, h2] at h
                      exact n _ (Option.some.inj h).symm
                  refine q HH Dn ln x nv c _ ab tl (phi gl) (fun b o hb => ?_) ⟨⟨dx, ni aG fun _ z => by cases z⟩, ni nG fun _ z => by cases z⟩ CH dnH ⟨fun G hG => ?_, ?_, fun i hi j hj e => ?_, fun u v hu hv => ?_, ?_, ?_⟩
                  · refine kp _ _ (s0G _ _ hb) fun m => ?_
                    rcases List.mem_cons.mp m with e | m
                    · rw [e, same_none s0E hcb] at hb
                      cases hb
                    · have e : b = c.t := by simpa using m
                      rw [e, same_none s0E hct] at hb
                      cases hb
                  · obtain ⟨i1, i2⟩ := phi_idx (gmem G hG)
                    exact ⟨gl.idxOf G, by rw [lenH]; exact i1, num8 G (gmem G hG), i2⟩
                  · rw [lenH]
                    exact sys
                  · rw [lenH] at hi hj
                    rw [phi_at hi, phi_at hj] at e
                    exact (List.getElem_inj gnd).mp e
                  · rw [lenH] at hu hv
                    exact eqvH u v hu hv
                  · rw [lenH]
                    exact opl
                  · omega
end
end K8
end

section
set_option Elab.async false
set_option linter.all false
set_option maxRecDepth 100000
set_option maxHeartbeats 8000000
/-! follows, tells. -/
namespace K8
open PySem PySem.Spec PyProof.Rows L2
open KM (T3 nth rt Dn mrg Eqv Snd Got Fm Sg sz triN)
section
variable {P : Program} {w : World} {K : PySem.W.Frag} {mg : Str → Option Value} {base : Heap}
theorem KindAt.same {H H' : Hp} {a : Addr} {L : KM.Lot} {c : Bool} (h : KindAt K H a L c) (e : Same H H') : KindAt K H' a L c := let ⟨dx, h⟩ := h; ⟨dx, e _ _ h⟩
def spFollows (K : PySem.W.Frag) : Sp := fun vs H Q _ => ∃ (k fc b b' : Addr) (L : KM.Lot) (calm : Bool) (F F' : FmS) (nm : List Str), vs = [.ref k, .ref fc, .ref b, .ref b'] ∧ KindAt K H k L calm ∧ H fc = some (.tup []) ∧ FmAt K H b F ∧ FmAt K H b' F' ∧ GoodF nm [F, F'] ∧ nm.length ≤ 60 ∧
  ∀ H' r ops N φ i i', Same H H' → KM.Sys ops (List.range N) φ → (∀ i, i < N → ∀ j, j < N → φ i = φ j → i = j) → i < N → i' < N → φ i = F → φ i' = F' → (r = true ↔ Eqv L calm ops [] i i') → Q (.bl r) H'
abbrev N_follows : List Str := ["kind", "facts", "one", "other"]
theorem sc_follows : FnScope N_follows ["kind", "facts", "one", "other"] (defScope s_follows) := ⟨rfl, rfl, rfl, by decide +kernel, rfl, by decide +kernel, by decide +kernel⟩
-- slots: 0 kind, 1 facts, 2 one, 3 other
theorem ok_follows (T : Tx w K mg) : Ok P w K mg base 14 (a_follows K) ["kind", "facts", "one", "other"] [] (spFollows K) := by
  obtain ⟨_, _, F_check_kind, b_check_kind, v_check_kind, k_check_kind⟩ := ok_check_kind (P := P) (base := base) T
  obtain ⟨_, _, F_check_facts, b_check_facts, v_check_facts, k_check_facts⟩ := ok_check_facts (P := P) (base := base) T
  obtain ⟨_, _, F_check_formula, b_check_formula, v_check_formula, k_check_formula⟩ := ok_check_formula (P := P) (base := base) T
  obtain ⟨_, _, F_Table_init, b_Table_init, v_Table_init, k_Table_init⟩ := ok_Table_init (P := P) (base := base) T
  obtain ⟨_, _, F_Table_same, b_Table_same, v_Table_same, k_Table_same⟩ := ok_Table_same (P := P) (base := base) T
  refine Ok.of T.f_follows (fun z F => okBody F sc_follows (fun vs H Q E h => ?_) fun cdv A outer s H vs Q E hr h => ?_) rfl fun _ _ _ _ _ _ us hl => match us, hl with | [_, _, _, _], _ => rfl
  · obtain ⟨k, fc, b, b', L, calm, F, F', nm, rfl, _⟩ := h
    rfl
  · obtain ⟨k, fc, b, b', L, calm, F, F', nm, rfl, hk, hfc, hb, hb', gF, hnm, q⟩ := h
    obtain ⟨dk, hkI⟩ := hk
    obtain ⟨db, fb, ib⟩ := hb.ins
    obtain ⟨db', fb', ib'⟩ := hb'.ins
    refine ⟨_, (pss_cons (ps_expr (pe_call F_check_kind (hr.mono (by decide)) rfl T.g_check_kind k_check_kind b_check_kind v_check_kind pass0 (pa_cons (pv 0) pa_nil)))
 (pss_cons (ps_expr (pe_call F_check_facts (hr.mono (by decide)) rfl T.g_check_facts k_check_facts b_check_facts v_check_facts pass0 (pa_cons (pv 1) pa_nil)))
 (pss_cons (ps_expr (pe_call F_check_formula (hr.mono (by decide)) rfl T.g_check_formula k_check_formula b_check_formula v_check_formula pass0 (pa_cons (pv 2) pa_nil)))
 (pss_cons (ps_expr (pe_call F_check_formula (hr.mono (by decide)) rfl T.g_check_formula k_check_formula b_check_formula v_check_formula pass0 (pa_cons (pv 3) pa_nil)))
 (pss_one (ps_ret (pe_meth (pe_make T.mk_Table F_Table_init (hr.mono (by decide)) rfl T.g_Table b_Table_init v_Table_init pass0 (pa_cons (pv 0) (pa_cons (pe_tup (pa_cons (pv 2) (pa_cons (pv 3) pa_nil))) (pa_cons (pv 1) pa_nil)))) T.cl_Table T.mt_Table_same F_Table_same (hr.mono (by decide)) b_Table_same v_Table_same pass0 (pa_cons (pv 2) (pa_cons (pv 3) pa_nil))))))))), ?_⟩
    refine ⟨_, rfl, k, dk, _, rfl, hkI, ?_⟩
    refine ⟨_, rfl, fc, rfl, hfc, ?_⟩
    refine ⟨_, rfl, b, db, fb, rfl, ib, ?_⟩
    refine ⟨_, rfl, b', db', fb', rfl, ib', ?_⟩
    refine ⟨_, rfl, _, rfl, _, rfl, by show 2 ≤ sizeLine; decide, fun p hp => ⟨_, rfl, fun x dx hx hdx hne => ?_⟩⟩
    have s1 : Same H (upd H p (.tup [.ref b, .ref b'])) := same_new hp
    refine ⟨x, dx, k, p, fc, L, calm, [b, b'], [F, F'], nm, _, rfl, hx, same_upd (same_new hdx) hx, upd_same, KindAt.same ⟨dk, hkI⟩ s1, .inr (SqT.of upd_same), .cons (hb.same s1) (.cons (hb'.same s1) .nil), gF, hnm, by show 2 ≤ 5; decide, SqT.of (s1 _ _ hfc), fun H2 D ln cl nv c ops ab tl φ s2 tb C dn ok => ⟨rfl, ?_⟩⟩
    obtain ⟨dx2, hx2⟩ := tb.1
    have s12 := s1.trans s2
    have p1 : PartOf [F, F'] F := ⟨F, by simp, subs_self F⟩
    have p2 : PartOf [F, F'] F' := ⟨F', by simp, subs_self F'⟩
    obtain ⟨i, i1, i2, i3⟩ := ok.num F p1
    obtain ⟨i', j1, j2, j3⟩ := ok.num F' p2
    obtain ⟨l1, l2⟩ := gF.leafs p1
    obtain ⟨m1, m2⟩ := gF.leafs p2
    refine ⟨x, dx2, _, rfl, hx2, fsTb_same .., _, rfl, _, rfl, x, b, b', D, ln, cl, nv, F, F', i, i', c, L, calm, ops, ab, tl, rfl, tb, hb.same s12, l1, l2, i2, hb'.same s12, m1, m2, j2, C, dn, i1, j1, ?_⟩
    exact q H2 _ ops ab.length φ i i' s12 ok.sys ok.inj i1 j1 i3 j3 (by rw [decide_eq_true_iff]; exact ok.eqv i i' i1 j1)
/-! ### Kept -/
def fsKp (t k s : Addr) : List (Str × V) := [("table", .ref t), ("known", .ref k), ("steps", .ref s)]
def fsK1 (t : Addr) : List (Str × V) := [("table", .ref t)]
theorem fsK1_put (t : Addr) : putF "table" (.ref t) [] = fsK1 t := by kernel_rfl
theorem fsKp_put (t k s : Addr) : putF "steps" (.ref s) (putF "known" (.ref k) (fsK1 t)) = fsKp t k s := by kernel_rfl
theorem fsK1_table (t : Addr) : (fsK1 t).lookup ("table" : Str) = some (.ref t) := by kernel_rfl
theorem fsK1_kind (t : Addr) : (fsK1 t).lookup ("kind" : Str) = none := by kernel_rfl
theorem fsK1_turns (t : Addr) : (fsK1 t).lookup ("turns" : Str) = none := by kernel_rfl
theorem fsK1_numbers (t : Addr) : (fsK1 t).lookup ("numbers" : Str) = none := by kernel_rfl
theorem fsK1_text (t : Addr) : (fsK1 t).lookup ("text" : Str) = none := by kernel_rfl
theorem fsKp_table (t k s : Addr) : (fsKp t k s).lookup ("table" : Str) = some (.ref t) := by kernel_rfl
theorem fsKp_known (t k s : Addr) : (fsKp t k s).lookup ("known" : Str) = some (.ref k) := by kernel_rfl
theorem fsKp_root (t k s : Addr) : (fsKp t k s).lookup ("root" : Str) = none := by kernel_rfl
theorem fsKp_has (t k s : Addr) : (fsKp t k s).lookup ("has" : Str) = none := by kernel_rfl
theorem TbObj.keepA {H H' : Hp} {x D l cl a C dx : Addr} {fs : List (Str × V)} {nv : List (Key × V)} (h : TbObj K H x D l cl nv) (ha : H a = some (.ins C dx fs)) (hn : fs.lookup ("numbers" : Str) = none) (e : ∀ b o, H b = some o → b ≠ a → H' b = some o) : TbObj K H' x D l cl nv := by
  obtain ⟨⟨dxt, h1⟩, h2⟩ := h
  refine ⟨⟨dxt, e _ _ h1 fun q => ?_⟩, e _ _ h2 fun q => by rw [q, ha] at h2; cases h2⟩
  rw [q, ha] at h1
  injection h1 with h1
  injection h1 with _ _ h1
  rw [h1, fsTb_numbers] at hn
  cases hn
theorem nums_of {L : KM.Lot} {calm : Bool} {ops : List T3} {ab : List Nat} {nv : List (Key × V)} {φ : Nat → FmS} {Gs : List FmS} (ok : TabOk L calm ops ab nv φ Gs) : ∀ {Fs : List FmS}, (∀ F ∈ Fs, F ∈ Gs) → ∃ ns : List Nat, ns.length = Fs.length ∧ ∀ (j : Nat) (F : FmS) (n : Nat), Fs[j]? = some F → ns[j]? = some n → n < ab.length ∧ valV nv (Sum.inr (txt F)) = some (.int (n : Nat)) ∧ φ n = F
  | [], _ => ⟨[], rfl, fun j F n h => by cases h⟩
  | F :: Fs, h => by
    obtain ⟨i, h1, h2, h3⟩ := ok.num F ⟨F, h F List.mem_cons_self, subs_self F⟩
    obtain ⟨ns, l, hn⟩ := nums_of ok (Fs := Fs) fun G hG => h G (List.mem_cons_of_mem _ hG)
    refine ⟨i :: ns, congrArg (· + 1) l, fun j G n hG hn' => ?_⟩
    cases j with
    | zero =>
      cases hG
      cases hn'
      exact ⟨h1, h2, h3⟩
    | succ j => exact hn j G n hG hn'
structure KeptOk (K : PySem.W.Frag) (H : Hp) (a : Addr) (L : KM.Lot) (calm : Bool) (ops : List T3) (ab : List Nat) (nv : List (Key × V)) (φ : Nat → FmS) (Gs : List FmS) (Fs : List FmS) (ths : List Nat) : Prop where
  obj : ∃ dx tb kn st D ln cl c tl kvs, H a = some (.ins (CKept K) dx (fsKp tb kn st)) ∧ TbObj K H tb D ln cl nv ∧ CloAt K H cl c L calm ops ab tl ∧ H kn = some (.dK kvs) ∧ ∀ x, x < ab.length → (Kn ab kvs x ↔ Got L calm ops [] (· ∈ ths) x)
  dn : Dn ab
  tab : TabOk L calm ops ab nv φ Gs
  ths_ : ∀ t, t ∈ ths ↔ t < ab.length ∧ ∃ F ∈ Fs, φ t = F
def spKeptInit (K : PySem.W.Frag) : Sp := fun vs H Q _ => ∃ (a dx k fc kt at_ b : Addr) (L : KM.Lot) (calm : Bool) (as : List Addr) (Fs : List FmS) (G : FmS) (nm : List Str) (H0 : Hp), vs = [.ref a, .ref k, .ref fc, .ref kt, .ref at_] ∧ H0 a = none ∧ Same H0 H ∧ H a = some (.ins (CKept K) dx []) ∧
  KindAt K H0 k L calm ∧ H0 fc = some (.tup []) ∧ H0 kt = some (.tup (refV as)) ∧ FsAt K H0 as Fs ∧ H0 at_ = some (.tup [.ref b]) ∧ FmAt K H0 b G ∧ GoodF nm (Fs ++ [G]) ∧ nm.length ≤ 60 ∧ as.length ≤ 4 ∧
  ∀ H' ops ab nv φ ths, Same H0 H' → KeptOk K H' a L calm ops ab nv φ (Fs ++ [G]) Fs ths → Q .non H'
abbrev N_Kept_init : List Str := ["self", "kind", "facts", "kept", "asked", "formula"]
theorem sc_Kept_init : FnScope N_Kept_init ["self", "kind", "facts", "kept", "asked"] (defScope s_Kept_init) := ⟨rfl, rfl, rfl, by decide +kernel, rfl, by decide +kernel, by decide +kernel⟩
-- slots: 0 self, 1 kind, 2 facts, 3 kept, 4 asked, 5 formula
theorem ok_Kept_init (T : Tx w K mg) : Ok P w K mg base 14 (a_Kept_init K) ["self", "kind", "facts", "kept", "asked"] [] (spKeptInit K) := by
  obtain ⟨_, _, F_Table_init, b_Table_init, v_Table_init, k_Table_init⟩ := ok_Table_init (P := P) (base := base) T
  obtain ⟨_, _, F_Closing_got, b_Closing_got, v_Closing_got, k_Closing_got⟩ := ok_Closing_got (P := P) (base := base) T
  obtain ⟨_, _, F_Table_number, b_Table_number, v_Table_number, k_Table_number⟩ := ok_Table_number (P := P) (base := base) T
  refine Ok.of T.f_Kept_init (fun z F => okBody F sc_Kept_init (fun vs H Q E h => ?_) fun cdv A outer s H vs Q E hr h => ?_) rfl fun _ _ _ _ _ _ us hl => match us, hl with | [_, _, _, _, _], _ => rfl
  · obtain ⟨a, dx, k, fc, kt, at_, b, L, calm, as, Fs, G, nm, H0, rfl, _⟩ := h
    rfl
  · obtain ⟨a, dx, k, fc, kt, at_, b, L, calm, as, Fs, G, nm, H0, rfl, h0, sm, ha, hk, hfc, hkt, hFs, hat, hb, gF, hnm, h4, q⟩ := h
    refine ⟨_, (pss_cons (ps_fld (pv 0) (pe_make T.mk_Table F_Table_init (hr.mono (by decide)) rfl T.g_Table b_Table_init v_Table_init pass0 (pa_cons (pv 1) (pa_cons (pe_op op_cat (pe_callTy call_list_of (by rfl) T.b_list (by decide +kernel) (pa_cons (pv 3) pa_nil)) (pe_callTy call_list_of (by rfl) T.b_list (by decide +kernel) (pa_cons (pv 4) pa_nil))) (pa_cons (pv 2) pa_nil)))) rfl)
 (pss_one (ps_asg (pe_meth (pe_fld (pe_fld (pv 0) rfl) rfl) T.cl_Closing T.mt_Closing_got F_Closing_got (hr.mono (by decide)) b_Closing_got v_Closing_got pass0 (pa_cons (pe_lcB (own := [("formula", 5)]) rfl sc_Kept_init.nd (pi_tup (pv 3)) (blkOk_by (own := [("formula", 5)]) (N := N_Kept_init) (sc := defScope s_Kept_init) (by decide +kernel)) (fun _ _ _ _ _ => (pg_name (i := 5) sc_Kept_init.nd rfl (by first | exact Or.inl rfl | exact Or.inr rfl))) (fun _ _ _ _ _ => pts_nil) (fun _ _ _ _ _ => (pe_meth (pe_fld (pv 0) rfl) T.cl_Table T.mt_Table_number F_Table_number (hr.mono (by decide)) b_Table_number v_Table_number pass0 (pa_cons (pv 5) pa_nil)))) pa_nil)) (pg_tup rfl (pgs_cons (pg_fld (pv 0)) (pgs_cons (pg_fld (pv 0)) pgs_nil)))))), ?_⟩
    have al : (refV as).length = as.length := List.length_map ..
    refine ⟨_, rfl, _, rfl, kt, _, rfl, .inr (SqT.of (sm _ _ hkt)), fun l1 hl1 => ?_⟩
    have s1 : Same H (upd H l1 (.lst (refV as))) := same_new hl1
    refine ⟨_, rfl, at_, _, rfl, .inr (SqT.of (s1 _ _ (sm _ _ hat))), fun l2 hl2 => ?_⟩
    have s2 := s1.trans (same_new (o := .lst [.ref b]) hl2)
    refine ⟨l1, l2, refV as, [.ref b], rfl, rfl, (upd_ne (ne_of_none (upd_same (H := H)) hl2)).trans upd_same, upd_same, sl1 (by simp only [al, List.length_cons, List.length_nil]; omega), fun l3 hl3 => ?_⟩
    have s3 := s2.trans (same_new (o := .lst (refV as ++ [.ref b])) hl3)
    have s03 := sm.trans s3
    have a3 := s3 _ _ ha
    have e3 : (upd (upd (upd H l1 (.lst (refV as))) l2 (.lst [.ref b])) l3 (.lst (refV as ++ [.ref b]))) l3 = some (.lst (refV (as ++ [b]))) := by
      rw [upd_same]
      simp [refV]
    refine ⟨_, rfl, fun x dxt hx hdx hne => ?_⟩
    generalize upd (upd (upd H l1 (.lst (refV as))) l2 (.lst [.ref b])) l3 (.lst (refV as ++ [.ref b])) = H3 at s3 s03 a3 e3 hx hdx ⊢
    refine ⟨x, dxt, k, l3, fc, L, calm, as ++ [b], Fs ++ [G], nm, H3, rfl, hx, same_upd (same_new hdx) hx, upd_same, hk.same s03, .inl (SqL.of e3), (hFs.same s03).app (.cons (hb.same s03) .nil), gF, hnm, by simp only [List.length_append, List.length_singleton]; omega, SqT.of (s03 _ _ hfc), fun H4 D ln cl nv c ops ab tl φ s4 tb4 C4 dn ok => ⟨rfl, ?_⟩⟩
    have a4 := s4 _ _ a3
    have s04 := s03.trans s4
    refine ⟨_, rfl, a, _, dx, [], rfl, a4, T.cl_Kept, T.na_Kept_table, plM pl0 (by decide), ?_⟩
    rw [fsK1_put]
    have k5 : ∀ b o, H4 b = some o → b ≠ a → (upd H4 a (.ins (CKept K) dx (fsK1 x))) b = some o := fun b o hb n => (upd_ne n).trans hb
    have a5 : (upd H4 a (.ins (CKept K) dx (fsK1 x))) a = some (.ins (CKept K) dx (fsK1 x)) := upd_same
    have tb5 := tb4.keepA a4 rfl k5
    have C5 := C4.keepA a4 rfl rfl k5
    have s05 : Same H0 (upd H4 a (.ins (CKept K) dx (fsK1 x))) := same_upd s04 h0
    generalize upd H4 a (.ins (CKept K) dx (fsK1 x)) = H5 at a5 tb5 C5 s05 ⊢
    obtain ⟨⟨dx5, hx5⟩, hD5⟩ := tb5
    obtain ⟨dxc, hcl⟩ := C5.obj
    obtain ⟨ns, nl, hns⟩ := nums_of ok (Fs := Fs) fun F hF => List.mem_append_left _ hF
    refine ⟨_, rfl, a, _, dx, _, _, rfl, a5, T.cl_Kept, T.na_Kept_table, fsK1_table .., x, _, dx5, _, _, rfl, hx5, T.cl_Table, T.na_Table_closing, fsTb_closing .., cl, dxc, _, rfl, hcl, fsCl_got .., ?_⟩
    refine ⟨_, rfl, kt, rfl, ⟨_, SqT.of (s05 _ _ hkt)⟩, fun D2 hD2 => ?_⟩
    refine lc_tup (K := K) (xs := refV as) (fun i H' => H' = upd H5 D2 (.lst (natV (ns.take i)))) rfl (fun i H' _ p => by rw [p]; exact SqT.of ((upd_ne (ne_of_none (s05 _ _ hkt) hD2)).trans (s05 _ _ hkt))) ?_ ?_
    · rintro i y H' hy rfl
      have hi : i < as.length := by
        have := (List.getElem?_eq_some_iff.mp hy).1
        omega
      have ey : y = .ref as[i] := by
        rw [List.getElem?_map, List.getElem?_eq_getElem hi] at hy
        exact (Option.some.inj hy).symm
      subst ey
      have hiF : i < Fs.length := by rw [← hFs.len]; exact hi
      have hin : i < ns.length := by rw [nl]; exact hiF
      have e1 := List.getElem?_eq_getElem hiF
      have e2 := List.getElem?_eq_getElem hin
      obtain ⟨n1, n2, n3⟩ := hns i _ _ e1 e2
      have sI : Same H5 (upd H5 D2 (.lst (natV (ns.take i)))) := same_new hD2
      have fmi := (hFs.get (List.getElem?_eq_getElem hi) e1).same (s05.trans sI)
      have tk : ns.take (i + 1) = ns.take i ++ [ns[i]] := by rw [List.take_add_one, e2]; rfl
      obtain ⟨g1, g2⟩ := gF.leafs (G := Fs[i]) ⟨Fs[i], List.mem_append_left _ (List.getElem_mem hiF), subs_self _⟩
      refine ⟨rfl, _, rfl, a, _, dx, _, _, rfl, sI _ _ a5, T.cl_Kept, T.na_Kept_table, fsK1_table .., x, dx5, _, rfl, sI _ _ hx5, fsTb_number .., _, rfl, x, as[i], D, ln, cl, nv, Fs[i], ns[i], rfl, ⟨⟨dx5, sI _ _ hx5⟩, sI _ _ hD5⟩, fmi, g1, g2, n2, _, upd_same, sl2 (by rw [List.length_map, List.length_take]; omega), ?_⟩
      rw [upd_upd, tk]
      simp only [natV, List.map_append, List.map_cons, List.map_nil]
    · rintro H' rfl
      rw [al, List.take_of_length_le (by rw [nl, ← hFs.len]; exact Nat.le_refl _)]
      have sI : Same H5 (upd H5 D2 (.lst (natV ns))) := same_new hD2
      have C6 := C5.same sI
      have hmem : ∀ t, t ∈ ns ↔ t < ab.length ∧ ∃ F ∈ Fs, φ t = F := fun t => by
        constructor
        · intro h
          obtain ⟨j, hj, e⟩ := List.getElem_of_mem h
          have hjF : j < Fs.length := by rw [← nl]; exact hj
          obtain ⟨n1, n2, n3⟩ := hns j _ _ (List.getElem?_eq_getElem hjF) (List.getElem?_eq_getElem hj)
          rw [e] at n1 n3
          exact ⟨n1, _, List.getElem_mem hjF, n3⟩
        · rintro ⟨h1, F, hF, hφ⟩
          obtain ⟨j, hj, e⟩ := List.getElem_of_mem hF
          have hjn : j < ns.length := by rw [nl]; exact hj
          obtain ⟨n1, n2, n3⟩ := hns j _ _ (List.getElem?_eq_getElem hj) (List.getElem?_eq_getElem hjn)
          have := ok.inj t h1 _ n1 (by rw [hφ, n3, e])
          rw [this]
          exact List.getElem_mem hjn
      refine ⟨cl, D2, c, L, calm, ops, [], ab, tl, ab.length, ns, rfl, C6, dn, rfl, Nat.le_trans ok.small (by decide), fun _ _ h => (by cases h), ok.lt, ok.eqv, upd_same, fun t h => ((hmem t).mp h).1, by rw [nl, ← hFs.len]; omega, fun H6 p kn st kvs s6 hp hkn ⟨stl, hst⟩ hgot => ?_⟩
      have s56 := sI.trans s6
      have a6 := s56 _ _ a5
      refine ⟨p, _, rfl, SqT.of hp, rfl, _, _, rfl, _, rfl, a, _, dx, _, rfl, a6, T.cl_Kept, T.na_Kept_known, by show 1 < 1000; decide, ?_⟩
      refine ⟨_, _, rfl, _, rfl, a, _, dx, _, rfl, upd_same, T.cl_Kept, T.na_Kept_steps, plM (plS (show (fsK1 x).length < 2 from Nat.lt_succ_self 1)) (by decide), rfl, ?_⟩
      rw [upd_upd, fsKp_put]
      have k7 : ∀ b o, H6 b = some o → b ≠ a → (upd H6 a (.ins (CKept K) dx (fsKp x kn st))) b = some o := fun b o hb n => (upd_ne n).trans hb
      have tb6 : TbObj K H6 x D ln cl nv := ⟨⟨dx5, s56 _ _ hx5⟩, s56 _ _ hD5⟩
      have tb7 := tb6.keepA a6 (fsK1_numbers x) k7
      have C7 := (C6.same s6).keepA a6 (fsK1_kind x) (fsK1_turns x) k7
      exact q _ ops ab nv φ ns (same_upd (s05.trans s56) h0) ⟨⟨dx, x, kn, st, D, ln, cl, c, tl, kvs, upd_same, tb7, C7, k7 _ _ hkn (fun e => by rw [e, a6] at hkn; cases hkn), hgot⟩, dn, ok, hmem⟩
def spKeptRoot (K : PySem.W.Frag) : Sp := fun vs H Q _ => ∃ (a b : Addr) (L : KM.Lot) (calm : Bool) (ops : List T3) (ab : List Nat) (nv : List (Key × V)) (φ : Nat → FmS) (Gs Fs : List FmS) (ths : List Nat) (nm : List Str) (G : FmS) (i : Nat), vs = [.ref a, .ref b] ∧ KeptOk K H a L calm ops ab nv φ Gs Fs ths ∧ GoodF nm Gs ∧ G ∈ Gs ∧ FmAt K H b G ∧ i < ab.length ∧ φ i = G ∧ Q (.int (rt ab i : Nat)) H
abbrev N_Kept_root : List Str := ["self", "formula"]
theorem sc_Kept_root : FnScope N_Kept_root ["self", "formula"] (defScope s_Kept_root) := ⟨rfl, rfl, rfl, by decide +kernel, rfl, by decide +kernel, by decide +kernel⟩
-- slots: 0 self, 1 formula
theorem ok_Kept_root (T : Tx w K mg) : Ok P w K mg base 5 (a_Kept_root K) ["self", "formula"] [] (spKeptRoot K) := by
  obtain ⟨_, _, F_Closing_root, b_Closing_root, v_Closing_root, k_Closing_root⟩ := ok_Closing_root (P := P) (base := base) T
  obtain ⟨_, _, F_Table_number, b_Table_number, v_Table_number, k_Table_number⟩ := ok_Table_number (P := P) (base := base) T
  refine Ok.of T.f_Kept_root (fun z F => okBody F sc_Kept_root (fun vs H Q E h => ?_) fun cdv A outer s H vs Q E hr h => ?_) rfl fun _ _ _ _ _ _ us hl => match us, hl with | [_, _], _ => rfl
  · obtain ⟨a, b, L, calm, ops, ab, nv, φ, Gs, Fs, ths, nm, G, i, rfl, _⟩ := h
    rfl
  · obtain ⟨a, b, L, calm, ops, ab, nv, φ, Gs, Fs, ths, nm, G, i, rfl, kp, gG, hG, hb, hi, hφ, q⟩ := h
    obtain ⟨dx, tb, kn, st, D, ln, cl, c, tl, kvs, ha, ht, C, hkn, hgot⟩ := kp.obj
    obtain ⟨dxt, hx⟩ := ht.1
    obtain ⟨dxc, hcl⟩ := C.obj
    have pG : PartOf Gs G := ⟨G, hG, subs_self G⟩
    obtain ⟨j, j1, j2, j3⟩ := kp.tab.num G pG
    have ej := kp.tab.inj j j1 i hi (j3.trans hφ.symm)
    subst ej
    obtain ⟨g1, g2⟩ := gG.leafs pG
    refine ⟨_, (pss_one (ps_ret (pe_meth (pe_fld (pe_fld (pv 0) rfl) rfl) T.cl_Closing T.mt_Closing_root F_Closing_root (hr.mono (by decide)) b_Closing_root v_Closing_root pass0 (pa_cons (pe_meth (pe_fld (pv 0) rfl) T.cl_Table T.mt_Table_number F_Table_number (hr.mono (by decide)) b_Table_number v_Table_number pass0 (pa_cons (pv 1) pa_nil)) pa_nil)))), ?_⟩
    refine ⟨_, rfl, a, _, dx, _, _, rfl, ha, T.cl_Kept, T.na_Kept_table, fsKp_table .., tb, _, dxt, _, _, rfl, hx, T.cl_Table, T.na_Table_closing, fsTb_closing .., cl, dxc, _, rfl, hcl, fsCl_root .., ?_⟩
    refine ⟨_, rfl, a, _, dx, _, _, rfl, ha, T.cl_Kept, T.na_Kept_table, fsKp_table .., tb, dxt, _, rfl, hx, fsTb_number .., _, rfl, tb, b, D, ln, cl, nv, G, j, rfl, ht, hb, g1, g2, j2, ?_⟩
    exact ⟨cl, c, L, calm, ops, ab, tl, j, rfl, C, kp.dn, j1, q⟩
def spKeptHas (K : PySem.W.Frag) : Sp := fun vs H Q _ => ∃ (a b : Addr) (L : KM.Lot) (calm : Bool) (ops : List T3) (ab : List Nat) (nv : List (Key × V)) (φ : Nat → FmS) (Gs Fs : List FmS) (ths : List Nat) (nm : List Str) (G : FmS) (i : Nat), vs = [.ref a, .ref b] ∧ KeptOk K H a L calm ops ab nv φ Gs Fs ths ∧ GoodF nm Gs ∧ G ∈ Gs ∧ FmAt K H b G ∧ i < ab.length ∧ φ i = G ∧
  ∀ r, (r = true ↔ Got L calm ops [] (· ∈ ths) i) → Q (.bl r) H
abbrev N_Kept_has : List Str := ["self", "formula"]
theorem sc_Kept_has : FnScope N_Kept_has ["self", "formula"] (defScope s_Kept_has) := ⟨rfl, rfl, rfl, by decide +kernel, rfl, by decide +kernel, by decide +kernel⟩
-- slots: 0 self, 1 formula
theorem ok_Kept_has (T : Tx w K mg) : Ok P w K mg base 6 (a_Kept_has K) ["self", "formula"] [] (spKeptHas K) := by
  obtain ⟨_, _, F_Kept_root, b_Kept_root, v_Kept_root, k_Kept_root⟩ := ok_Kept_root (P := P) (base := base) T
  refine Ok.of T.f_Kept_has (fun z F => okBody F sc_Kept_has (fun vs H Q E h => ?_) fun cdv A outer s H vs Q E hr h => ?_) rfl fun _ _ _ _ _ _ us hl => match us, hl with | [_, _], _ => rfl
  · obtain ⟨a, b, L, calm, ops, ab, nv, φ, Gs, Fs, ths, nm, G, i, rfl, _⟩ := h
    rfl
  · obtain ⟨a, b, L, calm, ops, ab, nv, φ, Gs, Fs, ths, nm, G, i, rfl, kp, gG, hG, hb, hi, hφ, q⟩ := h
    obtain ⟨dx, tb, kn, st, D, ln, cl, c, tl, kvs, ha, ht, C, hkn, hgot⟩ := kp.obj
    refine ⟨_, (pss_one (ps_ret (pe_cmp (pc_din (hu_of hr) (pe_meth (pv 0) T.cl_Kept T.mt_Kept_root F_Kept_root (hr.mono (by decide)) b_Kept_root v_Kept_root pass0 (pa_cons (pv 1) pa_nil)) (pe_fld (pv 0) rfl))))), ?_⟩
    refine ⟨_, rfl, a, dx, _, rfl, ha, fsKp_root .., _, rfl, a, b, L, calm, ops, ab, nv, φ, Gs, Fs, ths, nm, G, i, rfl, kp, gG, hG, hb, hi, hφ, ?_⟩
    refine ⟨_, rfl, a, _, dx, _, _, rfl, ha, T.cl_Kept, T.na_Kept_known, fsKp_known .., kn, _, rfl, DGet.k (k := Sum.inl ((rt ab i : Nat) : Int)) hkn, ?_⟩
    exact q _ (hgot i hi)
def spKeptFor (K : PySem.W.Frag) : Sp := fun vs H Q _ => ∃ (k fc kt b : Addr) (L : KM.Lot) (calm : Bool) (as : List Addr) (Fs : List FmS) (G : FmS) (nm : List Str), vs = [.ref k, .ref fc, .ref kt, .ref b] ∧ KindAt K H k L calm ∧ H fc = some (.tup []) ∧ H kt = some (.tup (refV as)) ∧ FsAt K H as Fs ∧ FmAt K H b G ∧ GoodF nm (Fs ++ [G]) ∧ nm.length ≤ 60 ∧ as.length ≤ 4 ∧
  ∀ H' a ops ab nv φ ths, Same H H' → KeptOk K H' a L calm ops ab nv φ (Fs ++ [G]) Fs ths → Q (.ref a) H'
theorem FsAt.all {H : Hp} {as : List Addr} {Fs : List FmS} (h : FsAt K H as Fs) : ∀ b ∈ as, ∃ dx fs, H b = some (.ins (CFormula K) dx fs) := by
  induction h with
  | nil => exact fun _ h => nomatch h
  | cons h _ ih =>
    intro b hb
    rcases List.mem_cons.mp hb with rfl | hb
    · exact h.ins
    · exact ih b hb
abbrev N_kept_for : List Str := ["kind", "facts", "kept", "wanted"]
theorem sc_kept_for : FnScope N_kept_for ["kind", "facts", "kept", "wanted"] (defScope s_kept_for) := ⟨rfl, rfl, rfl, by decide +kernel, rfl, by decide +kernel, by decide +kernel⟩
-- slots: 0 kind, 1 facts, 2 kept, 3 wanted
theorem ok_kept_for (T : Tx w K mg) : Ok P w K mg base 16 (a_kept_for K) ["kind", "facts", "kept", "wanted"] [] (spKeptFor K) := by
  obtain ⟨_, _, F_check_kind, b_check_kind, v_check_kind, k_check_kind⟩ := ok_check_kind (P := P) (base := base) T
  obtain ⟨_, _, F_check_facts, b_check_facts, v_check_facts, k_check_facts⟩ := ok_check_facts (P := P) (base := base) T
  obtain ⟨_, _, F_check_formula, b_check_formula, v_check_formula, k_check_formula⟩ := ok_check_formula (P := P) (base := base) T
  obtain ⟨_, _, F_check_formulas1, b_check_formulas1, v_check_formulas1, k_check_formulas1⟩ := ok_check_formulas1 (P := P) (base := base) T
  obtain ⟨_, _, F_Kept_init, b_Kept_init, v_Kept_init, k_Kept_init⟩ := ok_Kept_init (P := P) (base := base) T
  refine Ok.of T.f_kept_for (fun z F => okBody F sc_kept_for (fun vs H Q E h => ?_) fun cdv A outer s H vs Q E hr h => ?_) rfl fun _ _ _ _ _ _ us hl => match us, hl with | [_, _, _, _], _ => rfl
  · obtain ⟨k, fc, kt, b, L, calm, as, Fs, G, nm, rfl, _⟩ := h
    rfl
  · obtain ⟨k, fc, kt, b, L, calm, as, Fs, G, nm, rfl, hk, hfc, hkt, hFs, hb, gF, hnm, h4, q⟩ := h
    obtain ⟨dk, hkI⟩ := hk
    refine ⟨_, (pss_cons (ps_expr (pe_call F_check_kind (hr.mono (by decide)) rfl T.g_check_kind k_check_kind b_check_kind v_check_kind pass0 (pa_cons (pv 0) pa_nil)))
 (pss_cons (ps_expr (pe_call F_check_facts (hr.mono (by decide)) rfl T.g_check_facts k_check_facts b_check_facts v_check_facts pass0 (pa_cons (pv 1) pa_nil)))
 (pss_cons (ps_expr (pe_call F_check_formulas1 (hr.mono (by decide)) rfl T.g_check_formulas k_check_formulas1 b_check_formulas1 v_check_formulas1 pass0 (pa_cons (pv 2) pa_nil)))
 (pss_cons (ps_expr (pe_call F_check_formula (hr.mono (by decide)) rfl T.g_check_formula k_check_formula b_check_formula v_check_formula pass0 (pa_cons (pv 3) pa_nil)))
 (pss_one (ps_ret (pe_make T.mk_Kept F_Kept_init (hr.mono (by decide)) rfl T.g_Kept b_Kept_init v_Kept_init pass0 (pa_cons (pv 0) (pa_cons (pv 1) (pa_cons (pv 2) (pa_cons (pe_tup (pa_cons (pv 3) pa_nil)) pa_nil))))))))))), ?_⟩
    refine ⟨_, rfl, k, dk, _, rfl, hkI, ?_⟩
    refine ⟨_, rfl, fc, rfl, hfc, ?_⟩
    refine ⟨_, rfl, kt, as, rfl, hkt, by omega, hFs.all, fun H1 s1 => ?_⟩
    obtain ⟨db, fb, ib⟩ := (hb.same s1).ins
    refine ⟨_, rfl, b, db, fb, rfl, ib, ?_⟩
    refine ⟨_, rfl, _, rfl, _, rfl, _, rfl, by show 1 ≤ sizeLine; decide, fun p hp x dx hx hdx hne => ?_⟩
    have s2 := s1.trans (same_new (o := .tup [.ref b]) hp)
    refine ⟨x, dx, k, fc, kt, p, b, L, calm, as, Fs, G, nm, _, rfl, hx, same_upd (same_new hdx) hx, upd_same, KindAt.same ⟨dk, hkI⟩ s2, s2 _ _ hfc, s2 _ _ hkt, hFs.same s2, upd_same, hb.same s2, gF, hnm, h4, fun H3 ops ab nv φ ths s3 ok => ⟨rfl, q H3 x ops ab nv φ ths (s2.trans s3) ok⟩⟩
def spTells (K : PySem.W.Frag) : Sp := fun vs H Q _ => ∃ (k fc kt b : Addr) (L : KM.Lot) (calm : Bool) (as : List Addr) (Fs : List FmS) (G : FmS) (nm : List Str), vs = [.ref k, .ref fc, .ref kt, .ref b] ∧ KindAt K H k L calm ∧ H fc = some (.tup []) ∧ H kt = some (.tup (refV as)) ∧ FsAt K H as Fs ∧ FmAt K H b G ∧ GoodF nm (Fs ++ [G]) ∧ nm.length ≤ 60 ∧ as.length ≤ 4 ∧
  ∀ H' (r : Bool) (ops : List T3) (N : Nat) (φ : Nat → FmS) (ths : List Nat) (i : Nat), Same H H' → KM.Sys ops (List.range N) φ → (∀ i, i < N → ∀ j, j < N → φ i = φ j → i = j) → (∀ t, t ∈ ths ↔ t < N ∧ ∃ F ∈ Fs, φ t = F) → (∀ F ∈ Fs, ∃ t, t < N ∧ φ t = F) → i < N → φ i = G → (r = true ↔ Got L calm ops [] (· ∈ ths) i) → Q (.bl r) H'
abbrev N_tells : List Str := ["kind", "facts", "kept", "wanted"]
theorem sc_tells : FnScope N_tells ["kind", "facts", "kept", "wanted"] (defScope s_tells) := ⟨rfl, rfl, rfl, by decide +kernel, rfl, by decide +kernel, by decide +kernel⟩
-- slots: 0 kind, 1 facts, 2 kept, 3 wanted
theorem ok_tells (T : Tx w K mg) : Ok P w K mg base 17 (a_tells K) ["kind", "facts", "kept", "wanted"] [] (spTells K) := by
  obtain ⟨_, _, F_kept_for, b_kept_for, v_kept_for, k_kept_for⟩ := ok_kept_for (P := P) (base := base) T
  obtain ⟨_, _, F_Kept_has, b_Kept_has, v_Kept_has, k_Kept_has⟩ := ok_Kept_has (P := P) (base := base) T
  refine Ok.of T.f_tells (fun z F => okBody F sc_tells (fun vs H Q E h => ?_) fun cdv A outer s H vs Q E hr h => ?_) rfl fun _ _ _ _ _ _ us hl => match us, hl with | [_, _, _, _], _ => rfl
  · obtain ⟨k, fc, kt, b, L, calm, as, Fs, G, nm, rfl, _⟩ := h
    rfl
  · obtain ⟨k, fc, kt, b, L, calm, as, Fs, G, nm, rfl, hk, hfc, hkt, hFs, hb, gF, hnm, h4, q⟩ := h
    refine ⟨_, (pss_one (ps_ret (pe_meth (pe_call F_kept_for (hr.mono (by decide)) rfl T.g_kept_for k_kept_for b_kept_for v_kept_for pass0 (pa_cons (pv 0) (pa_cons (pv 1) (pa_cons (pv 2) (pa_cons (pv 3) pa_nil))))) T.cl_Kept T.mt_Kept_has F_Kept_has (hr.mono (by decide)) b_Kept_has v_Kept_has pass0 (pa_cons (pv 3) pa_nil)))), ?_⟩
    refine ⟨_, rfl, _, rfl, _, rfl, _, rfl, k, fc, kt, b, L, calm, as, Fs, G, nm, rfl, hk, hfc, hkt, hFs, hb, gF, hnm, h4, fun H1 a ops ab nv φ ths s1 ok => ?_⟩
    have pG : PartOf (Fs ++ [G]) G := ⟨G, by simp, subs_self G⟩
    obtain ⟨i, i1, i2, i3⟩ := ok.tab.num G pG
    obtain ⟨dx, tb, kn, st, D, ln, cl, c, tl, kvs, ha, _⟩ := ok.obj
    refine ⟨a, dx, _, rfl, ha, fsKp_has .., _, rfl, a, b, L, calm, ops, ab, nv, φ, _, Fs, ths, nm, G, i, rfl, ok, gF, by simp, hb.same s1, i1, i3, fun r hr => ?_⟩
    exact q H1 r ops ab.length φ ths i s1 ok.tab.sys ok.tab.inj ok.ths_ (fun F hF => let ⟨t, t1, _, t3⟩ := ok.tab.num F ⟨F, List.mem_append_left _ hF, subs_self F⟩; ⟨t, t1, t3⟩) i1 i3 hr
end
end K8
end

section
set_option Elab.async false
set_option linter.all false
set_option maxRecDepth 100000
set_option maxHeartbeats 8000000
/-! Rows of scripts and their steps. -/
namespace K8
open PySem PySem.Spec PyProof.Rows L2
open KM (T3 nth rt Dn mrg Eqv Snd Got Fm Sg sz triN)
/-! ### tuples that are known to the object -/
/-- a tuple without a dict of its own -/
def BoxT (H : Hp) (a : Addr) (xs : List V) : Prop := ∃ ob : Obj, ob.dict = none ∧ H a = some (.frz ob (.tup xs))
theorem BoxT.tup {H : Hp} {a : Addr} {xs : List V} (h : BoxT H a xs) : TupA H a xs := let ⟨ob, _, h⟩ := h; .inr ⟨ob, h⟩
theorem BoxT.sq {K : PySem.W.Frag} {H : Hp} {a : Addr} {xs : List V} (h : BoxT H a xs) : SqT K H a xs := h.tup.sq
theorem BoxT.same {H H' : Hp} {a : Addr} {xs : List V} (h : BoxT H a xs) (e : Same H H') : BoxT H' a xs := let ⟨ob, h1, h2⟩ := h; ⟨ob, h1, e _ _ h2⟩
section
variable {X : Cx} {o e : Expr} {es : List Expr} {to : TE} {t : TA} {name : Str} {apos cpos : Pos} {T id : String} {r : V → List V → Hp → VK → Prop}
def tBMF (r : V → List V → Hp → VK → Prop) (to : TE) (t : TA) : TE := fun σ H Q => to σ H fun x H1 => (∃ a xs, x = .ref a ∧ BoxT H1 a xs) ∧ t σ H1 fun xs H2 => r x xs H2 Q
theorem pe_bmF (pa : PlainAttrs "tuple") (slot : Slot "tuple" name id) (hty : typeOf (.builtin id) = pure (.type "method_descriptor")) (hm : MtR X id r) (ho : PE X o to) (ha : PA X (e :: es) t)
    (hbase : attributeBase o name X.env (eval o X.env) = eval o X.env := by rfl)
    (hfew : ((backTo cpos (starEach (e :: es) X.env)).all (fun x => !x.1) && (backToKw cpos (keywordEach [] X.env)).all (fun x => x.1.isSome)
      && decide ((e :: es).length + ([] : List Keyword).length + (if ([] : List Keyword).isEmpty then 0 else 1) < 30)) = true := by rfl)
    (hline : (apos.endLine == cpos.line) = true := by rfl) (hs : starEach (e :: es) X.env = (false, eval e X.env) :: starEach es X.env := by rfl) (hplain : (backTo cpos (starEach es X.env)).any (·.1) = false := by rfl) :
    PE X (.Call (.Attribute o name apos) (e :: es) [] cpos) (tBMF r to t) := by
  refine ⟨fun pins s σ H Q I h => ?_⟩
  refine wpAny_Call_method_late hbase hfew hline rfl (thn (ho.run pins s σ H _ I h) fun v s1 ⟨x, H1, I1, r1, ty, q1⟩ => ?_)
  obtain ⟨a, xs, rfl, ob, hd, hb⟩ := ty
  obtain rfl : v = Value.ref a := r1
  obtain ⟨g1, _, its, _, tp⟩ := (show ObjOk X.prog X.w H1 s1.heap a (.frz ob (.tup xs)) from I1.hok a _ hb)
  refine ⟨"tuple", id, pa, slot, hty, tp.typeIs, fun b e => ?_, ?_⟩
  · cases e
    exact ⟨ob, g1, hd⟩
  have hA := ha.run cpos pins s1 σ H1 _ I1 q1
  rw [hs] at hA ⊢
  refine Calls.callWith_builtin (by show (false || (backTo cpos (starEach es X.env)).any (·.1)) = false; rw [hplain] <;> rfl) (Calls.evalArgs_plain ?_)
  exact thn hA fun us s2 ⟨vs, H2, I2, r2, q2⟩ => hm pins s2 σ H2 (.ref a) vs (.ref a) us Q I2 rfl r2 q2
/-- tuple(list): the new tuple as the object that it is -/
theorem call_tuple_frz : CallR X (.type "tuple") (fun xs H Q => ∃ p ys, xs = [.ref p] ∧ SqL X.K H p ys ∧ ∀ l ob, H l = none → ob.dict = none → Q (.ref l) (upd H l (.frz ob (.tup ys)))) := by
  intro pins s σ H xs us Q I r h
  obtain ⟨p, ys, rfl, hq, q⟩ := h
  obtain ⟨u, rfl, rx⟩ := vals1 r
  cases rx
  obtain ⟨its, r', pl, hz⟩ := I.list hq
  have hlen := r'.length
  refine call_tuple_list pl.isList (fun h' kp => ?_) (by simp only [List.size_toArray] <;> omega)
  have I1 : Inv X pins σ H { s with heap := h' } := I.kept (t' := s.toks) kp
  have I2 : Inv X pins σ (upd H h'.objs.size (.frz { cls := .type "tuple", data := .seq its.toArray } (.tup ys))) { s with heap := h'.push { cls := .type "tuple", data := .seq its.toArray } } :=
    I1.laid (t' := s.toks) (fun b o e => Heap.get?_push_of_some _ e) (Nat.le_refl _) (show ObjOk X.prog X.w _ _ _ (.frz _ (.tup ys)) from ⟨Heap.get?_push_size _ rfl, hz, its, r', IsTup.new _ _⟩)
  exact ⟨.ref h'.objs.size, _, I2, rfl, q _ _ (I1.hok.fresh (Nat.le_refl _)) rfl⟩
end
/-! ### steps -/
inductive Stp where
  | cp (d s : Nat)
  | op (g : Sg) (d l r : Nat)
def Stp.ok : Stp → Prop
  | .cp d s => d < 3 ∧ s < 3
  | .op _ d l r => d < 3 ∧ l < 3 ∧ r < 3
def Stp.wordS : Stp → Str
  | .cp _ _ => "copy"
  | .op g _ _ _ => sgS g
def Stp.ix : Stp → List Nat
  | .cp d s => [d, s]
  | .op _ d l r => [d, l, r]
abbrev stV (s : Stp) : List V := .str s.wordS :: natV s.ix
def bxN (bx : List Str) (i : Nat) : Str := bx.getD i ""
/-- the words of a row -/
def wd (bx : List Str) : Stp → List Str
  | .cp d s => [bxN bx d, "=", bxN bx s]
  | .op g d l r => [bxN bx d, "=", bxN bx l, sgS g, bxN bx r]
def rowT (bx : List Str) (s : Stp) : Str := Txt.join " " (wd bx s)
structure BoxN (bx : List Str) : Prop where
  len : bx.length = 3
  nam : ∀ z ∈ bx, Nam z
  nd : bx.Nodup
theorem BoxN.mem {bx : List Str} (b : BoxN bx) {i : Nat} (h : i < 3) : bxN bx i ∈ bx ∧ bx[i]? = some (bxN bx i) := by
  have hi : i < bx.length := by rw [b.len]; exact h
  have e : bx[i]? = some (bxN bx i) := by
    unfold bxN
    rw [List.getD_eq_getElem?_getD, List.getElem?_eq_getElem hi]
    rfl
  exact ⟨List.mem_of_getElem? e, e⟩
theorem BoxN.first {bx : List Str} (b : BoxN bx) {i m : Nat} (h : i < 3) (hm : m < i) : bx[m]? ≠ some (bxN bx i) := fun e => by
  obtain ⟨h1, e1⟩ := List.getElem?_eq_some_iff.mp e
  obtain ⟨h2, e2⟩ := List.getElem?_eq_some_iff.mp (b.mem h).2
  exact Nat.ne_of_lt hm ((List.getElem_inj b.nd).mp (e1.trans e2.symm))
theorem rowT_cp (bx : List Str) (d s : Nat) : rowT bx (.cp d s) = bxN bx d ++ " " ++ ("=" ++ " " ++ bxN bx s) := TL.join_eq _ _
theorem rowT_op (bx : List Str) (g : Sg) (d l r : Nat) : rowT bx (.op g d l r) = bxN bx d ++ " " ++ ("=" ++ " " ++ (bxN bx l ++ " " ++ (sgS g ++ " " ++ bxN bx r))) := TL.join_eq _ _
theorem wd_no {bx : List Str} (b : BoxN bx) {s : Stp} (h : s.ok) : ∀ p ∈ wd bx s, (32 : Nat) ∉ p.cps.toList := by
  have hn : ∀ i, i < 3 → (32 : Nat) ∉ (bxN bx i).cps.toList := fun i hi m => abc0_no.1 ((b.nam _ (b.mem hi).1).all_ _ m)
  have he : (32 : Nat) ∉ ("=" : Str).cps.toList := by decide +kernel
  have hg : ∀ g : Sg, (32 : Nat) ∉ (sgS g).cps.toList := fun g => by cases g <;> decide +kernel
  intro p hp
  cases s with
  | cp d s =>
    obtain ⟨h1, h2⟩ := h
    have : p = bxN bx d ∨ p = "=" ∨ p = bxN bx s := by simpa [wd] using hp
    rcases this with rfl | rfl | rfl
    · exact hn _ h1
    · exact he
    · exact hn _ h2
  | op g d l r =>
    obtain ⟨h1, h2, h3⟩ := h
    have : p = bxN bx d ∨ p = "=" ∨ p = bxN bx l ∨ p = sgS g ∨ p = bxN bx r := by simpa [wd] using hp
    rcases this with rfl | rfl | rfl | rfl | rfl
    · exact hn _ h1
    · exact he
    · exact hn _ h2
    · exact hg g
    · exact hn _ h3
theorem row_split {bx : List Str} (b : BoxN bx) {s : Stp} (h : s.ok) : Txt.split (rowT bx s) " " = wd bx s :=
  TL.split_join (y := " ") (s := 32) (S := []) (by decide +kernel) (by decide +kernel) (by cases s <;> simp [wd]) (wd_no b h)
theorem row_len {bx : List Str} (b : BoxN bx) {s : Stp} (h : s.ok) : (rowT bx s).length ≤ 40 := by
  have hn : ∀ i, i < 3 → (bxN bx i).length ≤ 8 := fun i hi => (b.nam _ (b.mem hi).1).le
  have e1 : ((" " : Str)).length = 1 := by decide +kernel
  have e2 : (("=" : Str)).length = 1 := by decide +kernel
  cases s with
  | cp d s =>
    obtain ⟨h1, h2⟩ := h
    have := hn d h1
    have := hn s h2
    rw [rowT_cp]
    simp only [PySem.Str.length_append]
    omega
  | op g d l r =>
    obtain ⟨h1, h2, h3⟩ := h
    have := hn d h1
    have := hn l h2
    have := hn r h3
    have := sg_len g
    rw [rowT_op]
    simp only [PySem.Str.length_append]
    omega
def nmS (bx : List Str) : Stp → List Str
  | .cp d s => [bxN bx d, bxN bx s]
  | .op _ d l r => [bxN bx d, bxN bx l, bxN bx r]
theorem nm_ix {bx : List Str} (s : Stp) : nmS bx s = s.ix.map (bxN bx) := by cases s <;> rfl
theorem ix_lt {s : Stp} (h : s.ok) : ∀ i ∈ s.ix, i < 3 := by
  cases s with
  | cp d s =>
    obtain ⟨h1, h2⟩ := h
    intro i hi
    have : i = d ∨ i = s := by simpa [Stp.ix] using hi
    omega
  | op g d l r =>
    obtain ⟨h1, h2, h3⟩ := h
    intro i hi
    have : i = d ∨ i = l ∨ i = r := by simpa [Stp.ix] using hi
    omega
theorem ix_len (s : Stp) : s.ix.length ≤ 3 := by cases s <;> simp [Stp.ix]
theorem stepI3 : stepI 3 (some 2) none (some 2) = [2] := by decide +kernel
theorem stepI5 : stepI 5 (some 2) none (some 2) = [2, 4] := by decide +kernel
theorem cut2 (bx : List Str) (s : Stp) : [V.str (bxN bx (s.ix.headD 0))] ++ stepV (strV (wd bx s)) (some 2) none (some 2) = strV (nmS bx s) := by
  cases s with
  | cp d s =>
    show [V.str (bxN bx d)] ++ (stepI 3 (some 2) none (some 2)).filterMap ((strV (wd bx (.cp d s)))[·]?) = _
    rw [stepI3]
    rfl
  | op g d l r =>
    show [V.str (bxN bx d)] ++ (stepI 5 (some 2) none (some 2)).filterMap ((strV (wd bx (.op g d l r)))[·]?) = _
    rw [stepI5]
    rfl
theorem cut2_len (bx : List Str) (s : Stp) : (stepV (strV (wd bx s)) (some 2) none (some 2)).length ≤ 3 ∧ (stepV (strV (wd bx s)) (some 2) none (some 2)).length ≤ (strV (wd bx s)).length := by
  have h := congrArg List.length (cut2 bx s)
  rw [List.length_append, List.length_singleton] at h
  cases s <;> simp [wd, nmS, strV] at h ⊢ <;> omega
theorem wd0 (bx : List Str) (s : Stp) : (strV (wd bx s))[0]? = some (V.str (bxN bx (s.ix.headD 0))) := by cases s <;> rfl
theorem tif_cut {t : TT} {ta tb : TE} {σ : L2.St} {H : Hp} {Q : VK} (v : V) (H' : Hp) (k : Q v H') (h : Q v H' → tIf t ta tb σ H Q) : tIf t ta tb σ H Q := h k
section
variable {P : Program} {w : World} {K : PySem.W.Frag} {mg : Str → Option Value} {base : Heap}
def spSetting : Sp := fun vs H Q _ => ∃ (wl bt : Addr) (bx : List Str) (st : Stp), vs = [.ref wl, .ref bt] ∧ H wl = some (.lst (strV (wd bx st))) ∧ BoxT H bt (strV bx) ∧ BoxN bx ∧ st.ok ∧ ∀ p H', Same H H' → H p = none → H' p = some (.tup (stV st)) → Q (.ref p) H'
abbrev N_setting_of : List Str := ["words", "boxes", "names", "name"]
theorem sc_setting_of : FnScope N_setting_of ["words", "boxes"] (defScope s_setting_of) := ⟨rfl, rfl, rfl, by decide +kernel, rfl, by decide +kernel, by decide +kernel⟩
-- slots: 0 words, 1 boxes, 2 names, 3 name
theorem ok_setting_of (T : Tx w K mg) : Ok P w K mg base 1 (a_setting_of K) ["words", "boxes"] [] spSetting := by
  refine Ok.of T.f_setting_of (fun z F => okBody F sc_setting_of (fun vs H Q E h => ?_) fun cdv A outer s H vs Q E hr h => ?_) rfl fun _ _ _ _ _ _ us hl => match us, hl with | [_, _], _ => rfl
  · obtain ⟨wl, bt, bx, st, rfl, _⟩ := h
    rfl
  · obtain ⟨wl, bt, bx, st, rfl, hw, hb, bn, ok, q⟩ := h
    have wl5 : (strV (wd bx st)).length ≤ 5 := by cases st <;> simp [wd, strV]
    refine ⟨_, (pss_cons (ps_set (i := 2) sc_setting_of.nd rfl (by first | exact Or.inl rfl | exact Or.inr rfl) (pe_op op_cat (pe_lst (pa_cons (pe_ix ix_list (pv 0) pe_int (fun _ _ => rfl)) pa_nil)) (pe_slice3 (pv 0) (po_some pe_int) po_none (po_some pe_int))))
 (pss_cons (ps_if (PW.pt (pw_or (pt_cmpR op_notIn_seq (pe_callB call_len_seq (by rfl) T.b_len (by decide +kernel) (pa_cons (pv 0) pa_nil)) (pe_tup (pa_cons pe_int (pa_cons pe_int pa_nil))) rfl) (pw_or1 (pt_not (pt_val (pe_callB (cr_all rfl) (by rfl) T.b_all (by decide +kernel) (pa_cons (pe_lcB (own := [("name", 3)]) rfl sc_setting_of.nd (pi_list (pv 2)) (blkOk_by (own := [("name", 3)]) (N := N_setting_of) (sc := defScope s_setting_of) (by decide +kernel)) (fun _ _ _ _ _ => (pg_name (i := 3) sc_setting_of.nd rfl (by first | exact Or.inl rfl | exact Or.inr rfl))) (fun _ _ _ _ _ => pts_nil) (fun _ _ _ _ _ => (pe_cmpR op_in_seq (pv 3) (pv 1) rfl))) pa_nil))))))) (pss_one (ps_ret pe_non)) pss_nil)
 (pss_cons (ps_if (PW.pt (pw_and (pt_cmpR op_eq (pe_callB call_len_seq (by rfl) T.b_len (by decide +kernel) (pa_cons (pv 0) pa_nil)) pe_int (nomark _)) (pw_and1 (pt_cmpR op_notIn_seq (pe_ix ix_list (pv 0) pe_int (fun _ _ => rfl)) (C8.pe_gc rfl T.v_MARKS) rfl)))) (pss_one (ps_ret pe_non)) pss_nil)
 (pss_one (ps_ret (pe_tup (pa_cons (pe_ifExp (pt_cmpR op_eq (pe_callB call_len_seq (by rfl) T.b_len (by decide +kernel) (pa_cons (pv 0) pa_nil)) pe_int (nomark _)) (C8.pe_gc rfl T.v_COPY) (pe_ix ix_list (pv 0) pe_int (fun _ _ => rfl))) (StX.pa_star (pe_lcB (own := [("name", 3)]) rfl sc_setting_of.nd (pi_list (pv 2)) (blkOk_by (own := [("name", 3)]) (N := N_setting_of) (sc := defScope s_setting_of) (by decide +kernel)) (fun _ _ _ _ _ => (pg_name (i := 3) sc_setting_of.nd rfl (by first | exact Or.inl rfl | exact Or.inr rfl))) (fun _ _ _ _ _ => pts_nil) (fun _ _ _ _ _ => (pe_bmF PySem.F.plainAttrs_tuple PySem.F.slot_tuple_index PySem.F.type_tuple_index mt_tup_index (pv 1) (pa_cons (pv 3) pa_nil)))) pa_nil)))))))), ?_⟩
    refine ⟨_, rfl, wl, _, _, _, rfl, rfl, SqL.of hw, atI_nat (j := 0) (wd0 bx st), by show 1 ≤ sizeLine; decide, fun p1 hp1 => ?_⟩
    have s1 : Same H (upd H p1 (.lst [.str (bxN bx (st.ix.headD 0))])) := same_new hp1
    have e1 : (upd H p1 (.lst [.str (bxN bx (st.ix.headD 0))])) p1 = _ := upd_same
    generalize upd H p1 (.lst [.str (bxN bx (st.ix.headD 0))]) = H1 at s1 e1 ⊢
    refine ⟨_, rfl, _, rfl, _, rfl, wl, _, rfl, SqL.of (s1 _ _ hw), by decide, ?_, fun p2 hp2 => ?_⟩
    · exact (cut2_len bx st).2
    have s2 := s1.trans (same_new (o := .lst (stepV (strV (wd bx st)) (some 2) none (some 2))) hp2)
    have l2 := (cut2_len bx st).1
    refine ⟨p1, p2, _, _, rfl, rfl, (upd_ne (ne_of_none e1 hp2)).trans e1, upd_same, sl1 (by simp only [List.length_cons, List.length_nil]; omega), fun p3 hp3 => ?_⟩
    rw [cut2]
    have s3 := s2.trans (same_new (o := .lst (strV (nmS bx st))) hp3)
    have e3 : (upd (upd H1 p2 (.lst (stepV (strV (wd bx st)) (some 2) none (some 2)))) p3 (.lst (strV (nmS bx st)))) p3 = some (.lst (strV (nmS bx st))) := upd_same
    generalize upd (upd H1 p2 (.lst (stepV (strV (wd bx st)) (some 2) none (some 2)))) p3 (.lst (strV (nmS bx st))) = H3 at s3 e3 ⊢
    clear s2 s1 e1 hp1 hp2 hp3 l2
    have nml : (nmS bx st).length ≤ 3 := by cases st <;> simp [nmS]
    have nmm : ∀ z ∈ nmS bx st, z ∈ bx := fun z hz => by
      rw [nm_ix] at hz
      obtain ⟨i, hi, rfl⟩ := List.mem_map.mp hz
      exact (bn.mem (ix_lt ok i hi)).1
    -- how many words
    refine ⟨_, rfl, wl, _, rfl, .inl (SqL.of (s3 _ _ hw)), by show 2 ≤ sizeLine; decide, fun p4 hp4 => ?_⟩
    have s4 := s3.trans (same_new (o := .tup [.int 3, .int 5]) hp4)
    have e4 := (upd_ne (o := .tup [.int 3, .int 5]) (ne_of_none e3 hp4)).trans e3
    have t4 : (upd H3 p4 (.tup [.int 3, .int 5])) p4 = _ := upd_same
    generalize upd H3 p4 (.tup [.int 3, .int 5]) = H4 at s4 e4 t4 ⊢
    refine ⟨p4, _, rfl, .inr (SqT.of t4), rfl, rfl, false, by cases st <;> rfl, iteF ?_⟩
    -- all names are boxes
    refine ⟨_, rfl, p3, rfl, ⟨_, SqL.of e4⟩, fun D hD => ?_⟩
    refine lc_list (K := K) (xs := strV (nmS bx st)) (fun i H' => H' = upd H4 D (.lst ((List.replicate i true).map V.bl))) rfl (fun i H' _ p => by rw [p]; exact SqL.of ((upd_ne (ne_of_none e4 hD)).trans e4)) ?_ ?_
    · rintro i x H' hx rfl
      rw [List.getElem?_map] at hx
      obtain ⟨z, hz, rfl⟩ := Option.map_eq_some_iff.mp hx
      have hi : i < (nmS bx st).length := (List.getElem?_eq_some_iff.mp hz).1
      refine ⟨rfl, _, rfl, _, rfl, bt, _, rfl, .inr ((hb.same (s4.trans (same_new hD))).sq), rfl, flat_strs bx, _, upd_same, sl2 (by rw [List.length_map, List.length_replicate]; omega), ?_⟩
      rw [upd_upd, inV_strs, decide_eq_true (nmm z (List.mem_of_getElem? hz)), List.replicate_succ', List.map_append]
      rfl
    rintro H' rfl
    refine ⟨D, List.replicate _ true, rfl, SqL.of upd_same, true, congrArg V.bl (all_replicate _), iteF ?_⟩
    have s5 := s4.trans (same_new (o := .lst ((List.replicate (strV (nmS bx st)).length true).map V.bl)) hD)
    have e5 := (upd_ne (o := .lst ((List.replicate (strV (nmS bx st)).length true).map V.bl)) (ne_of_none e4 hD)).trans e4
    generalize upd H4 D (.lst ((List.replicate (strV (nmS bx st)).length true).map V.bl)) = H5 at s5 e5 ⊢
    have w5 := s5 _ _ hw
    dsimp only [tNext]
    refine seq_cut (t := tIfS _ _ _) (fun σ H' => σ = [some (.ref wl), some (.ref bt), some (.ref p3), none] ∧ H' = H5) ?_ (fun key => ?_)
    · rintro σ H' ⟨rfl, rfl⟩
      refine tif_cut (V.str st.wordS) H' ?_ (fun k => ?_)
      · refine ⟨_, rfl, p3, rfl, ⟨_, SqL.of e5⟩, fun D2 hD2 => ?_⟩
        refine lc_list (K := K) (xs := strV (nmS bx st)) (fun i H'' => H'' = upd H' D2 (.lst (natV (st.ix.take i)))) rfl (fun i H'' _ p => by rw [p]; exact SqL.of ((upd_ne (ne_of_none e5 hD2)).trans e5)) ?_ ?_
        · rintro i x H'' hx rfl
          rw [nm_ix, List.getElem?_map, List.getElem?_map] at hx
          obtain ⟨z, hz, rfl⟩ := Option.map_eq_some_iff.mp hx
          obtain ⟨n, hn, rfl⟩ := Option.map_eq_some_iff.mp hz
          have n3 := ix_lt ok n (List.mem_of_getElem? hn)
          have tk : st.ix.take (i + 1) = st.ix.take i ++ [n] := by rw [List.take_add_one, hn]; rfl
          have hb2 := (hb.same (s5.trans (same_new (o := .lst (natV (st.ix.take i))) hD2)))
          refine ⟨rfl, _, rfl, ⟨bt, _, rfl, hb2⟩, _, rfl, bt, bx, bxN bx n, n, rfl, rfl, hb2.sq, (bn.mem n3).2, fun m hm => bn.first n3 hm, _, upd_same, sl2 ?_, ?_⟩
          · have := ix_len st
            rw [List.length_map, List.length_take]
            omega
          · rw [upd_upd, tk]
            simp only [natV, List.map_append, List.map_cons, List.map_nil]
        · rintro H'' rfl
          have e6 : st.ix.take (strV (nmS bx st)).length = st.ix := by
            rw [List.take_of_length_le]
            rw [nm_ix, List.length_map, List.length_map]
            exact Nat.le_refl _
          rw [e6]
          have l6 := ix_len st
          refine ⟨D2, natV st.ix, rfl, .inr (SqL.of upd_same), sl1 (by simp only [natV, List.length_cons, List.length_append, List.length_map, List.length_nil]; omega), fun p hp => ?_⟩
          rw [List.append_nil]
          exact q p _ ((s5.trans (same_new hD2)).trans (same_new hp)) (same_none (s5.trans (same_new hD2)) hp) upd_same
      · refine ⟨_, rfl, wl, _, rfl, .inl (SqL.of w5), rfl, ?_⟩
        cases st with
        | cp d s => exact ⟨true, blT rfl, iteT k⟩
        | op g d l r => exact ⟨false, blF (fun z => by injection z with z; exact absurd (show ((5 : Nat) : Int) = 3 from z) (by decide)), iteF ⟨_, rfl, wl, _, _, _, rfl, rfl, SqL.of w5, atI_nat (j := 3) rfl, k⟩⟩
    · refine ⟨_, rfl, wl, _, rfl, .inl (SqL.of w5), rfl, ?_⟩
      cases st with
      | cp d s => exact ⟨false, blF (fun z => by injection z with z; exact absurd (show ((3 : Nat) : Int) = 5 from z) (by decide)), iteF (iteF (key _ _ ⟨rfl, rfl⟩))⟩
      | op g d l r =>
        refine ⟨true, blT rfl, iteT ⟨_, rfl, wl, _, _, _, rfl, rfl, SqL.of w5, atI_nat (j := 3) rfl, He.ga K "MARKS", _, rfl, .inr (T.MARKS.1 _), rfl, rfl, false, ?_, iteF (key _ _ ⟨rfl, rfl⟩)⟩⟩
        cases g <;> rfl
end
end K8
end

section
set_option Elab.async false
set_option linter.all false
set_option maxRecDepth 100000
set_option maxHeartbeats 8000000
/-! Scripts made. -/
namespace K8
open PySem PySem.Spec PyProof.Rows L2
open KM (T3 nth rt Dn mrg Eqv Snd Got Fm Sg sz triN)
def StsAt (H : Hp) (sa : List Addr) (sts : List Stp) : Prop := sa.length = sts.length ∧ ∀ (i : Nat) (a : Addr) (s : Stp), sa[i]? = some a → sts[i]? = some s → H a = some (.tup (stV s))
theorem StsAt.same {H H' : Hp} {sa : List Addr} {sts : List Stp} (h : StsAt H sa sts) (e : Same H H') : StsAt H' sa sts := ⟨h.1, fun i a s h1 h2 => e _ _ (h.2 i a s h1 h2)⟩
theorem word_no (s : Stp) : inV (.str s.wordS) [.str "same", .str "unlike"] = false := by
  cases s with
  | cp _ _ => rfl
  | op g _ _ _ => cases g <;> rfl
theorem cut12 (bx : List Str) (s : Stp) : cutV (strV (wd bx s)) (some 1) (some 2) = [.str "="] := by cases s <;> rfl
section
variable {P : Program} {w : World} {K : PySem.W.Frag} {mg : Str → Option Value} {base : Heap}
def spStepOf : Sp := fun vs H Q _ => ∃ (bt : Addr) (bx : List Str) (st : Stp) (i n : Int), vs = [.str (rowT bx st), .ref bt, .int i, .int n] ∧ BoxT H bt (strV bx) ∧ BoxN bx ∧ st.ok ∧ ∀ p H', Same H H' → H p = none → H' p = some (.tup (stV st)) → Q (.ref p) H'
abbrev N_step_of : List Str := ["row", "boxes", "index", "number", "words", "later"]
theorem sc_step_of : FnScope N_step_of ["row", "boxes", "index", "number"] (defScope s_step_of) := ⟨rfl, rfl, rfl, by decide +kernel, rfl, by decide +kernel, by decide +kernel⟩
-- slots: 0 row, 1 boxes, 2 index, 3 number, 4 words, 5 later
theorem ok_step_of (T : Tx w K mg) : Ok P w K mg base 2 (a_step_of K) ["row", "boxes", "index", "number"] [] spStepOf := by
  obtain ⟨_, _, F_setting_of, b_setting_of, v_setting_of, k_setting_of⟩ := ok_setting_of (P := P) (base := base) T
  refine Ok.of T.f_step_of (fun z F => okBody F sc_step_of (fun vs H Q E h => ?_) fun cdv A outer s H vs Q E hr h => ?_) rfl fun _ _ _ _ _ _ us hl => match us, hl with | [_, _, _, _], _ => rfl
  · obtain ⟨bt, bx, st, i, n, rfl, _⟩ := h
    rfl
  · obtain ⟨bt, bx, st, i, n, rfl, hb, bn, ok, q⟩ := h
    have rl := row_len bn ok
    refine ⟨_, (pss_cons (ps_if (pt_not (pt_val (pe_callB call_isi (by rfl) T.b_isinstance (by decide +kernel) (pa_cons (pv 0) (pa_cons (pe_bltn (v := .ty "str") (by rfl) T.b_str (by decide +kernel) rfl) pa_nil))))) (pss_one (ps_ret pe_non)) pss_nil)
 (pss_cons (ps_set (i := 4) sc_step_of.nd rfl (by first | exact Or.inl rfl | exact Or.inr rfl) (pe_split (pv 0) pe_str))
 (pss_cons (ps_if (pt_cmpR (op_eqD hr.units) (pe_slice sl_list (pv 4) (po_some pe_int) (po_some pe_int)) (pe_lst (pa_cons pe_str pa_nil)) (nomark _)) (pss_one (ps_ret (pe_call F_setting_of (hr.mono (by decide)) rfl T.g_setting_of k_setting_of b_setting_of v_setting_of pass0 (pa_cons (pv 4) (pa_cons (pv 1) pa_nil))))) pss_nil)
 (pss_cons ps_never
 (pss_cons ps_never
 (pss_cons ps_never
 (pss_one ps_never))))))), ?_⟩
    refine ⟨_, rfl, _, _, _, _, true, rfl, .ty "str", .base (.str _), kit_ty (by decide +kernel), true, rfl, iteF ?_⟩
    refine ⟨_, rfl, ⟨_, rfl⟩, _, _, rfl, rfl, by decide +kernel, sl1 (by omega), fun p hp => ?_⟩
    rw [row_split bn ok]
    have s1 : Same H (upd H p (.lst ((wd bx st).map V.str))) := same_new hp
    have e1 : (upd H p (.lst ((wd bx st).map V.str))) p = some (.lst (strV (wd bx st))) := upd_same
    generalize upd H p (.lst ((wd bx st).map V.str)) = H1 at s1 e1 ⊢
    refine ⟨_, rfl, _, rfl, _, rfl, p, _, rfl, SqL.of e1, fun p2 hp2 => ?_⟩
    rw [cut12]
    have s2 := s1.trans (same_new (o := .lst [.str "="]) hp2)
    have e2 := (upd_ne (o := .lst [.str "="]) (ne_of_none e1 hp2)).trans e1
    have x2 : (upd H1 p2 (.lst [.str "="])) p2 = some (.lst [.str "="]) := upd_same
    generalize upd H1 p2 (.lst [.str "="]) = H2 at s2 e2 x2 ⊢
    refine ⟨by show 1 ≤ sizeLine; decide, fun p3 hp3 => ?_⟩
    have s3 := s2.trans (same_new (o := .lst [.str "="]) hp3)
    have e3 := (upd_ne (o := .lst [.str "="]) (ne_of_none e2 hp3)).trans e2
    have x3 := (upd_ne (o := .lst [.str "="]) (ne_of_none x2 hp3)).trans x2
    refine ⟨.list [.str "="], .list [.str "="], .lst (SqL.of x3) (.cons (.str _) .nil), .lst (SqL.of upd_same) (.cons (.str _) .nil), by decide +kernel, by decide +kernel, true, by decide +kernel, iteT ?_⟩
    exact ⟨_, rfl, _, rfl, p, bt, bx, st, rfl, e3, hb.same s3, bn, ok, fun p4 H' s4 n4 e4 => q p4 H' (s3.trans s4) (same_none s3 n4) e4⟩
def spStepsOf : Sp := fun vs H Q _ => ∃ (rt bt : Addr) (bx : List Str) (sts : List Stp), vs = [.ref rt, .ref bt] ∧ H rt = some (.tup (strV (sts.map (rowT bx)))) ∧ BoxT H bt (strV bx) ∧ BoxN bx ∧ (∀ s ∈ sts, s.ok) ∧ 1 ≤ sts.length ∧ sts.length ≤ 6 ∧
  ∀ p sa H', Same H H' → H p = none → H' p = some (.lst (refV sa)) → StsAt H' sa sts → Q (.ref p) H'
abbrev N_steps_of : List Str := ["rows", "boxes", "steps", "index", "row", "step", "past", "word"]
theorem sc_steps_of : FnScope N_steps_of ["rows", "boxes"] (defScope s_steps_of) := ⟨rfl, rfl, rfl, by decide +kernel, rfl, by decide +kernel, by decide +kernel⟩
-- slots: 0 rows, 1 boxes, 2 steps, 3 index, 4 row, 5 step, 6 past, 7 word
theorem ok_steps_of (T : Tx w K mg) : Ok P w K mg base 3 (a_steps_of K) ["rows", "boxes"] [] spStepsOf := by
  obtain ⟨_, _, F_step_of, b_step_of, v_step_of, k_step_of⟩ := ok_step_of (P := P) (base := base) T
  refine Ok.of T.f_steps_of (fun z F => okBody F sc_steps_of (fun vs H Q E h => ?_) fun cdv A outer s H vs Q E hr h => ?_) rfl fun _ _ _ _ _ _ us hl => match us, hl with | [_, _], _ => rfl
  · obtain ⟨rt, bt, bx, sts, rfl, _⟩ := h
    rfl
  · obtain ⟨rt, bt, bx, sts, rfl, hrt, hb, bn, ok, h1, h6, q⟩ := h
    refine ⟨_, (pss_cons (ps_if (PW.pt (pw_or (pt_not (pt_val (pe_callB call_isi (by rfl) T.b_isinstance (by decide +kernel) (pa_cons (pv 0) (pa_cons (pe_bltn (v := .ty "tuple") (by rfl) T.b_tuple (by decide +kernel) rfl) pa_nil))))) (pw_or1 (pt_cmpR op_eq (pe_callB call_len_seq (by rfl) T.b_len (by decide +kernel) (pa_cons (pv 0) pa_nil)) pe_int (nomark _))))) (pss_one ps_never) pss_nil)
 (pss_cons (ps_set (i := 2) sc_steps_of.nd rfl (by first | exact Or.inl rfl | exact Or.inr rfl) (pe_lst pa_nil))
 (pss_cons (ps_for PassesOwn.never rfl (pi_enumT (by rfl) T.b_enumerate (pa_cons (pv 0) pa_nil)) (pg_tup rfl (pgs_cons (pg_name (i := 3) sc_steps_of.nd rfl (by first | exact Or.inl rfl | exact Or.inr rfl)) (pgs_cons (pg_name (i := 4) sc_steps_of.nd rfl (by first | exact Or.inl rfl | exact Or.inr rfl)) pgs_nil))) (pss_cons (ps_set (i := 5) sc_steps_of.nd rfl (by first | exact Or.inl rfl | exact Or.inr rfl) (pe_ifExp (pt_cmpR op_eq (pv 3) (C8.pe_gc rfl T.v_MOST_ROWS) (nomark _)) pe_non (pe_call F_step_of (hr.mono (by decide)) rfl T.g_step_of k_step_of b_step_of v_step_of pass0 (pa_cons (pv 4) (pa_cons (pv 1) (pa_cons (pv 3) (pa_cons (pe_callB call_len_seq (by rfl) T.b_len (by decide +kernel) (pa_cons (pv 0) pa_nil)) pa_nil)))))))
 (pss_cons (ps_if (PW.pt (pw_or (pt_cmpR op_isN (pv 5) pe_non (nomark _)) (pw_or1 (pt_cmpR op_gt (pe_callB call_len_seq (by rfl) T.b_len (by decide +kernel) (pa_cons (pe_lcB (own := [("word", 7)]) rfl sc_steps_of.nd (pi_list (pe_lcB (own := [("past", 6)]) rfl sc_steps_of.nd (pi_list (pe_op op_cat (pv 2) (pe_lst (pa_cons (pv 5) pa_nil)))) (blkOk_by (own := [("past", 6)]) (N := N_steps_of) (sc := defScope s_steps_of) (by decide +kernel)) (fun _ _ _ _ _ => (pg_name (i := 6) sc_steps_of.nd rfl (by first | exact Or.inl rfl | exact Or.inr rfl))) (fun _ _ _ _ _ => pts_nil) (fun _ _ _ _ _ => (pe_ix ix_tup (pv 6) pe_int (fun _ _ => rfl))))) (blkOk_by (own := [("word", 7)]) (N := N_steps_of) (sc := defScope s_steps_of) (by decide +kernel)) (fun _ _ _ _ _ => (pg_name (i := 7) sc_steps_of.nd rfl (by first | exact Or.inl rfl | exact Or.inr rfl))) (fun _ _ _ _ _ => (pts_one (pt_cmpR op_in_seq (pv 7) (C8.pe_gc rfl T.v_TESTS) rfl))) (fun _ _ _ _ _ => (pv 7))) pa_nil)) (C8.pe_gc rfl T.v_MOST_TESTS) (nomark _))))) (pss_one ps_never) pss_nil)
 (pss_one (ps_expr (pe_bm PySem.F.plainAttrs_list PySem.F.slot_list_append PySem.F.type_list_append mt_append (pv 2) (pa_cons (pv 5) pa_nil)))))))
 (pss_one (ps_ret (pv 2)))))), ?_⟩
    have rl : (strV (sts.map (rowT bx))).length = sts.length := by rw [List.length_map, List.length_map]
    refine ⟨_, rfl, _, _, _, _, true, rfl, .ty "tuple", .base (.tup hrt), kit_ty (by decide +kernel), true, rfl, iteF ?_⟩
    refine ⟨_, rfl, rt, _, rfl, .inr (SqT.of hrt), rfl, false, blF (fun z => by injection z with z; omega), iteF ?_⟩
    refine ⟨by show 0 ≤ sizeLine; decide, fun p hp => ?_⟩
    have s1 : Same H (upd H p (.lst [])) := same_new hp
    refine ⟨_, rfl, rt, _, rfl, SqT.of (s1 _ _ hrt), for_enumT (xs := strV (sts.map (rowT bx))) (fun i σ H' => ∃ sa v3 v4 v5 v6 v7, σ = [some (.ref rt), some (.ref bt), some (.ref p), v3, v4, v5, v6, v7] ∧ Same H H' ∧ H' p = some (.lst (refV sa)) ∧ sa.length = i ∧
      ∀ (j : Nat) (a : Addr) (s : Stp), sa[j]? = some a → sts[j]? = some s → H' a = some (.tup (stV s))) ⟨[], _, _, _, _, _, rfl, s1, upd_same, rfl, fun j a s h => absurd (show ([] : List Addr)[j]? = some a from h) (by simp)⟩
      (fun i σ H' _ ⟨_, _, _, _, _, _, _, s, _⟩ => SqT.of (s _ _ hrt)) ?_ ?_⟩
    · rintro i x tt σ H1 hx ⟨sa, v3, v4, v5, v6, v7, rfl, sH, hpl, hsl, hat⟩ htt
      rw [List.getElem?_map, List.getElem?_map] at hx
      obtain ⟨z, hz, rfl⟩ := Option.map_eq_some_iff.mp hx
      obtain ⟨st, hst, rfl⟩ := Option.map_eq_some_iff.mp hz
      have hi : i < sts.length := (List.getElem?_eq_some_iff.mp hst).1
      have okst := ok st (List.mem_of_getElem? hst)
      have sN : Same H1 (upd H1 tt (.tup [.int (i : Nat), .str (rowT bx st)])) := same_new htt
      refine ⟨tt, _, rfl, SqT.of upd_same, rfl, _, _, rfl, _, _, rfl, rfl, ?_⟩
      have s2 := sH.trans sN
      refine ⟨_, rfl, rfl, false, blF (fun z => by injection z with z; omega), iteF ?_⟩
      refine ⟨_, rfl, _, rfl, _, rfl, _, rfl, rt, _, rfl, .inr (SqT.of (s2 _ _ hrt)), bt, bx, st, _, _, rfl, hb.same s2, bn, okst, fun ps H2 s3 n3 e3 => ?_⟩
      have s23 := sN.trans s3
      have hp2 := s23 _ _ hpl
      have sH2 := sH.trans s23
      have hat2 : ∀ (j : Nat) (a : Addr) (s : Stp), (sa ++ [ps])[j]? = some a → sts[j]? = some s → H2 a = some (.tup (stV s)) := fun j a s hj hs => by
        by_cases e : j < sa.length
        · rw [List.getElem?_append_left e] at hj
          exact s23 _ _ (hat j a s hj hs)
        · rw [List.getElem?_append_right (by omega)] at hj
          have e2 : j = sa.length := by
            rcases Nat.lt_or_ge (j - sa.length) 1 with h | h
            · omega
            · rw [List.getElem?_eq_none (by simpa using h)] at hj
              cases hj
          subst e2
          have e4 : a = ps := by simpa using hj.symm
          subst e4
          rw [hsl, hst] at hs
          cases hs
          exact e3
      clear hat hpl
      -- no test among the words
      refine ⟨_, rfl, rfl, false, rfl, iteF ?_⟩
      refine ⟨_, rfl, _, rfl, by show 1 ≤ sizeLine; decide, fun p1 hp1 => ?_⟩
      have sA : Same H2 (upd H2 p1 (.lst [.ref ps])) := same_new hp1
      have xA : (upd H2 p1 (.lst [.ref ps])) p1 = _ := upd_same
      generalize upd H2 p1 (.lst [.ref ps]) = HA at sA xA ⊢
      refine ⟨p, p1, refV sa, [.ref ps], rfl, rfl, sA _ _ hp2, xA, sl1 (by simp only [refV, List.length_map, List.length_cons, List.length_nil]; omega), fun p2 hpp2 => ?_⟩
      have sB := sA.trans (same_new (o := .lst (refV sa ++ [.ref ps])) hpp2)
      have xB : (upd HA p2 (.lst (refV sa ++ [.ref ps]))) p2 = some (.lst (refV (sa ++ [ps]))) := by
        rw [upd_same]
        simp [refV]
      generalize upd HA p2 (.lst (refV sa ++ [.ref ps])) = HB at sB xB ⊢
      refine ⟨p2, rfl, ⟨_, SqL.of xB⟩, fun D1 hD1 => ?_⟩
      have saL : (sa ++ [ps]).length ≤ sts.length := by
        rw [List.length_append, List.length_singleton]
        omega
      refine lc_list (K := K) (xs := refV (sa ++ [ps])) (fun k H' => H' = upd HB D1 (.lst (strV ((sts.take k).map Stp.wordS)))) rfl (fun k H' _ e => by rw [e]; exact SqL.of ((upd_ne (ne_of_none xB hD1)).trans xB)) ?_ ?_
      · rintro k x H' hx rfl
        rw [List.getElem?_map] at hx
        obtain ⟨a, ha, rfl⟩ := Option.map_eq_some_iff.mp hx
        have hk : k < (sa ++ [ps]).length := (List.getElem?_eq_some_iff.mp ha).1
        have hks := List.getElem?_eq_getElem (show k < sts.length by omega)
        have tk : sts.take (k + 1) = sts.take k ++ [sts[k]] := by rw [List.take_add_one, hks]; rfl
        have at2 := hat2 k a _ ha hks
        generalize sts[k] = s' at hks tk at2
        refine ⟨rfl, _, rfl, a, _, _, _, rfl, rfl, SqT.of ((sB.trans (same_new hD1)) _ _ at2), atI_nat (j := 0) rfl, _, upd_same, sl2 (by rw [List.length_map, List.length_map, List.length_take]; omega), ?_⟩
        rw [upd_upd, tk]
        simp only [strV, List.map_append, List.map_cons, List.map_nil]
      rintro H' rfl
      have sC := sB.trans (same_new (o := .lst (strV ((sts.take (refV (sa ++ [ps])).length).map Stp.wordS))) hD1)
      have xC : (upd HB D1 (.lst (strV ((sts.take (refV (sa ++ [ps])).length).map Stp.wordS)))) D1 = _ := upd_same
      generalize (refV (sa ++ [ps])).length = nn at sC xC ⊢
      generalize upd HB D1 (.lst (strV ((sts.take nn).map Stp.wordS))) = HC at sC xC ⊢
      refine ⟨D1, rfl, ⟨_, SqL.of xC⟩, fun D2 hD2 => ?_⟩
      refine lc_list (K := K) (xs := strV ((sts.take nn).map Stp.wordS)) (fun k H' => H' = upd HC D2 (.lst [])) rfl (fun k H' _ e => by rw [e]; exact SqL.of ((upd_ne (ne_of_none xC hD2)).trans xC)) ?_ ?_
      · rintro k x H' hx rfl
        rw [List.getElem?_map, List.getElem?_map] at hx
        obtain ⟨z, hz, rfl⟩ := Option.map_eq_some_iff.mp hx
        obtain ⟨s', hs', rfl⟩ := Option.map_eq_some_iff.mp hz
        exact ⟨rfl, _, rfl, He.ga K "TESTS", _, rfl, .inr (T.TESTS.1 _), rfl, rfl, false, by rw [word_no]; rfl, iteF rfl⟩
      rintro H' rfl
      have sD := sC.trans (same_new (o := .lst []) hD2)
      refine ⟨D2, _, rfl, .inl (SqL.of upd_same), _, _, rfl, rfl, false, rfl, iteF ?_⟩
      refine ⟨_, rfl, .inl ⟨rfl, _, SqL.of (sD _ _ hp2)⟩, _, rfl, p, refV sa, _, rfl, rfl, sD _ _ hp2, sl2 (by rw [List.length_map]; omega), ?_⟩
      refine ⟨sa ++ [ps], _, _, _, _, _, rfl, same_upd (sH2.trans sD) hp, ?_, by simp [hsl], fun j a s hj hs => ?_⟩
      · rw [upd_same]
        simp [refV]
      · have z := sD _ _ (hat2 j a s hj hs)
        rw [upd_ne]
        · exact z
        · intro e
          rw [e, sD _ _ hp2] at z
          cases z
    · rintro σ H1 ⟨sa, v3, v4, v5, v6, v7, rfl, sH, hpl, hsl, hat⟩
      exact ⟨_, rfl, q p sa H1 sH hp hpl ⟨hsl.trans rl, hat⟩⟩
/-- a script made of steps -/
def ScrOk (K : PySem.W.Frag) (H : Hp) (p : Addr) (L : KM.Lot) (calm : Bool) (bx : List Str) (sts : List Stp) : Prop :=
  ∃ (sa : List Addr) (steps kind boxes rows : Addr), ScrAt K H p steps kind boxes rows ∧ H steps = some (.lst (refV sa)) ∧ StsAt H sa sts ∧ KindAt K H kind L calm ∧ BoxT H boxes (strV bx) ∧ H rows = some (.tup (strV (sts.map (rowT bx))))
theorem ScrOk.same {H H' : Hp} {p : Addr} {L : KM.Lot} {calm : Bool} {bx : List Str} {sts : List Stp} (h : ScrOk K H p L calm bx sts) (e : Same H H') : ScrOk K H' p L calm bx sts := by
  obtain ⟨sa, a, b, c, d, ⟨dx, h1⟩, h2, h3, h4, h5, h6⟩ := h
  exact ⟨sa, a, b, c, d, ⟨dx, e _ _ h1⟩, e _ _ h2, h3.same e, h4.same e, h5.same e, e _ _ h6⟩
def spScrInit (K : PySem.W.Frag) : Sp := fun vs H Q _ => ∃ (a dx k bt rt : Addr) (L : KM.Lot) (calm : Bool) (bx : List Str) (sts : List Stp) (H0 : Hp), vs = [.ref a, .ref k, .ref bt, .ref rt] ∧ H0 a = none ∧ Same H0 H ∧ H a = some (.ins (CScript K) dx []) ∧ KindAt K H0 k L calm ∧ BoxT H0 bt (strV bx) ∧ BoxN bx ∧
  H0 rt = some (.tup (strV (sts.map (rowT bx)))) ∧ (∀ s ∈ sts, s.ok) ∧ 1 ≤ sts.length ∧ sts.length ≤ 6 ∧ ∀ H', Same H0 H' → ScrOk K H' a L calm bx sts → Q .non H'
theorem fsScr_put (a b c d : Addr) : putF "rows" (.ref d) (putF "boxes" (.ref c) (putF "kind" (.ref b) (putF "steps" (.ref a) []))) = fsScr a b c d := by kernel_rfl
abbrev N_Script_init : List Str := ["self", "kind", "boxes", "rows"]
theorem sc_Script_init : FnScope N_Script_init ["self", "kind", "boxes", "rows"] (defScope s_Script_init) := ⟨rfl, rfl, rfl, by decide +kernel, rfl, by decide +kernel, by decide +kernel⟩
-- slots: 0 self, 1 kind, 2 boxes, 3 rows
theorem ok_Script_init (T : Tx w K mg) : Ok P w K mg base 4 (a_Script_init K) ["self", "kind", "boxes", "rows"] [] (spScrInit K) := by
  obtain ⟨_, _, F_check_kind, b_check_kind, v_check_kind, k_check_kind⟩ := ok_check_kind (P := P) (base := base) T
  obtain ⟨_, _, F_check_boxes, b_check_boxes, v_check_boxes, k_check_boxes⟩ := ok_check_boxes (P := P) (base := base) T
  obtain ⟨_, _, F_steps_of, b_steps_of, v_steps_of, k_steps_of⟩ := ok_steps_of (P := P) (base := base) T
  refine Ok.of T.f_Script_init (fun z F => okBody F sc_Script_init (fun vs H Q E h => ?_) fun cdv A outer s H vs Q E hr h => ?_) rfl fun _ _ _ _ _ _ us hl => match us, hl with | [_, _, _, _], _ => rfl
  · obtain ⟨a, dx, k, bt, rt, L, calm, bx, sts, H0, rfl, _⟩ := h
    rfl
  · obtain ⟨a, dx, k, bt, rt, L, calm, bx, sts, H0, rfl, h0, sm, ha, hk, hb, bn, hrt, ok, h1, h6, q⟩ := h
    obtain ⟨dk, hkI⟩ := hk
    refine ⟨_, (pss_cons (ps_expr (pe_call F_check_kind (hr.mono (by decide)) rfl T.g_check_kind k_check_kind b_check_kind v_check_kind pass0 (pa_cons (pv 1) pa_nil)))
 (pss_cons (ps_expr (pe_call F_check_boxes (hr.mono (by decide)) rfl T.g_check_boxes k_check_boxes b_check_boxes v_check_boxes pass0 (pa_cons (pv 2) pa_nil)))
 (pss_cons (ps_fld (pv 0) (pe_call F_steps_of (hr.mono (by decide)) rfl T.g_steps_of k_steps_of b_steps_of v_steps_of pass0 (pa_cons (pv 3) (pa_cons (pv 2) pa_nil))) rfl)
 (pss_cons (ps_fld (pv 0) (pv 1) rfl)
 (pss_cons (ps_fld (pv 0) (pv 2) rfl)
 (pss_one (ps_fld (pv 0) (pv 3) rfl))))))), ?_⟩
    refine ⟨_, rfl, k, dk, _, rfl, sm _ _ hkI, ?_⟩
    have key : ∃ x y z, bx = [x, y, z] := by
      have l := bn.len
      match bx, l with
      | [x, y, z], _ => exact ⟨x, y, z, rfl⟩
    obtain ⟨x, y, z, ebx⟩ := key
    refine ⟨_, rfl, bt, x, y, z, rfl, by rw [← ebx]; exact (hb.same sm).tup, by rw [← ebx]; exact bn.nam, by rw [← ebx]; exact bn.nd, fun H1 s1 => ?_⟩
    have s01 := sm.trans s1
    refine ⟨_, rfl, _, rfl, rt, bt, bx, sts, rfl, s01 _ _ hrt, hb.same s01, bn, ok, h1, h6, fun p sa H2 s2 n2 e2 at2 => ?_⟩
    have s02 := s01.trans s2
    have a2 := s2 _ _ (s1 _ _ ha)
    refine ⟨_, rfl, a, _, dx, [], rfl, a2, T.cl_Script, T.na_Script_steps, plM pl0 (by decide), ?_⟩
    refine ⟨_, rfl, _, rfl, a, _, dx, _, rfl, upd_same, T.cl_Script, T.na_Script_kind, plM (plS pl0) (by decide), ?_⟩
    refine ⟨_, rfl, _, rfl, a, _, dx, _, rfl, upd_same, T.cl_Script, T.na_Script_boxes, plM (plS (plS pl0)) (by decide), ?_⟩
    refine ⟨_, rfl, _, rfl, a, _, dx, _, rfl, upd_same, T.cl_Script, T.na_Script_rows, plM (plS (plS (plS pl0))) (by decide), ?_⟩
    rw [upd_upd, upd_upd, upd_upd, fsScr_put]
    have s03 : Same H0 (upd H2 a (.ins (CScript K) dx (fsScr p k bt rt))) := same_upd s02 h0
    have na : ∀ {y : Addr} {o : HO}, H2 y = some o → (∀ C dx fs, o ≠ .ins C dx fs) → (upd H2 a (.ins (CScript K) dx (fsScr p k bt rt))) y = some o := fun {y o} h n => by
      rw [upd_ne]
      · exact h
      · intro e
        rw [e, a2] at h
        exact n _ _ _ (Option.some.inj h).symm
    exact q _ s03 ⟨sa, p, k, bt, rt, ⟨dx, upd_same⟩, na e2 (fun _ _ _ z => by cases z), ⟨at2.1, fun i y s h h' => na (at2.2 i y s h h') (fun _ _ _ z => by cases z)⟩, KindAt.same ⟨dk, hkI⟩ s03, hb.same s03, s03 _ _ hrt⟩
end
end K8
end

section
set_option Elab.async false
set_option linter.all false
set_option maxRecDepth 100000
set_option maxHeartbeats 8000000
/-! Ways of scripts. -/
namespace K8
open PySem PySem.Spec PyProof.Rows L2
open KM (T3 nth rt Dn mrg Eqv Snd Got Fm Sg sz triN)
theorem word_go (s : Stp) : V.bl (decide (V.str s.wordS = V.str "go")) = V.bl false := by
  refine blF fun e => ?_
  injection e with e
  cases s with
  | cp _ _ => exact (by decide +kernel : ¬ ("copy" : Str) = "go") e
  | op g _ _ _ =>
    cases g with
    | mul => exact (by decide +kernel : ¬ ("*" : Str) = "go") e
    | ldv => exact (by decide +kernel : ¬ ("//" : Str) = "go") e
    | rdv => exact (by decide +kernel : ¬ (">>" : Str) = "go") e
abbrev upto (n : Nat) : List V := natV (List.range n)
theorem upto_succ (n : Nat) : upto (n + 1) = upto n ++ [.int (n : Nat)] := by
  unfold upto natV
  rw [List.range_succ, List.map_append]
  rfl
section
variable {P : Program} {w : World} {K : PySem.W.Frag} {mg : Str → Option Value} {base : Heap}
def spLater : Sp := fun vs H Q _ => ∃ (a : Addr) (st : Stp) (t : Nat), vs = [.ref a, .int (t : Nat)] ∧ H a = some (.tup (stV st)) ∧ ∀ p, H p = none → Q (.ref p) (upd H p (.lst [.int ((t : Nat) + 1)]))
abbrev N_later_indexes : List Str := ["step", "index"]
theorem sc_later_indexes : FnScope N_later_indexes ["step", "index"] (defScope s_later_indexes) := ⟨rfl, rfl, rfl, by decide +kernel, rfl, by decide +kernel, by decide +kernel⟩
-- slots: 0 step, 1 index
theorem ok_later_indexes (T : Tx w K mg) : Ok P w K mg base 1 (a_later_indexes K) ["step", "index"] [] spLater := by
  refine Ok.of T.f_later_indexes (fun z F => okBody F sc_later_indexes (fun vs H Q E h => ?_) fun cdv A outer s H vs Q E hr h => ?_) rfl fun _ _ _ _ _ _ us hl => match us, hl with | [_, _], _ => rfl
  · obtain ⟨a, st, t, rfl, _⟩ := h
    rfl
  · obtain ⟨a, st, t, rfl, ha, q⟩ := h
    refine ⟨_, (pss_cons (ps_if (pt_cmpR op_eq (pe_ix ix_tup (pv 0) pe_int (fun _ _ => rfl)) (C8.pe_gc rfl T.v_GO) (nomark _)) (pss_one (ps_ret (pe_lst (pa_cons (pe_ix ix_tup (pv 0) pe_int (fun _ _ => rfl)) pa_nil)))) pss_nil)
 (pss_one (ps_ret (pe_ifExp (pt_cmpR op_in_seq (pe_ix ix_tup (pv 0) pe_int (fun _ _ => rfl)) (C8.pe_gc rfl T.v_TESTS) rfl) (pe_lst (pa_cons (pe_op op_add (pv 1) pe_int) (pa_cons (pe_ix ix_tup (pv 0) pe_int (fun _ _ => rfl)) pa_nil))) (pe_lst (pa_cons (pe_op op_add (pv 1) pe_int) pa_nil)))))), ?_⟩
    refine ⟨_, rfl, a, _, _, _, rfl, rfl, SqT.of ha, atI_nat (j := 0) rfl, rfl, false, word_go st, iteF ?_⟩
    refine ⟨_, rfl, a, _, _, _, rfl, rfl, SqT.of ha, atI_nat (j := 0) rfl, He.ga K "TESTS", _, rfl, .inr (T.TESTS.1 _), rfl, rfl, false, by rw [word_no]; rfl, iteF ?_⟩
    exact ⟨_, rfl, _, _, rfl, rfl, by show 1 ≤ sizeLine; decide, q⟩
def spTripleWith : Sp := fun vs H Q _ => ∃ (g : Sg) (a b c : Nat), vs = [.str (sgS g), .int (a : Nat), .int (b : Nat), .int (c : Nat)] ∧ ∀ p, H p = none → Q (.ref p) (upd H p (.tup (t3V (triN g a b c))))
abbrev N_triple_with : List Str := ["sign", "left", "right", "thing"]
theorem sc_triple_with : FnScope N_triple_with ["sign", "left", "right", "thing"] (defScope s_triple_with) := ⟨rfl, rfl, rfl, by decide +kernel, rfl, by decide +kernel, by decide +kernel⟩
-- slots: 0 sign, 1 left, 2 right, 3 thing
theorem ok_triple_with (T : Tx w K mg) : Ok P w K mg base 1 (a_triple_with K) ["sign", "left", "right", "thing"] [] spTripleWith := by
  refine Ok.of T.f_triple_with (fun z F => okBody F sc_triple_with (fun vs H Q E h => ?_) fun cdv A outer s H vs Q E hr h => ?_) rfl fun _ _ _ _ _ _ us hl => match us, hl with | [_, _, _, _], _ => rfl
  · obtain ⟨g, a, b, c, rfl, _⟩ := h
    rfl
  · obtain ⟨g, a, b, c, rfl, q⟩ := h
    have n1 : sgS .ldv ≠ "*" := by decide +kernel
    have n2 : sgS .rdv ≠ "*" := by decide +kernel
    have n3 : sgS .rdv ≠ "//" := by decide +kernel
    refine ⟨_, (pss_cons (ps_if (pt_cmpR op_eq (pv 0) pe_str (nomark _)) (pss_one (ps_ret (pe_tup (pa_cons (pv 1) (pa_cons (pv 2) (pa_cons (pv 3) pa_nil)))))) pss_nil)
 (pss_one (ps_ret (pe_ifExp (pt_cmpR op_eq (pv 0) pe_str (nomark _)) (pe_tup (pa_cons (pv 3) (pa_cons (pv 2) (pa_cons (pv 1) pa_nil)))) (pe_tup (pa_cons (pv 1) (pa_cons (pv 3) (pa_cons (pv 2) pa_nil)))))))), ?_⟩
    cases g with
    | mul => exact ⟨_, rfl, rfl, true, sgV rfl, iteT ⟨_, rfl, _, rfl, _, rfl, by show 3 ≤ sizeLine; decide, q⟩⟩
    | ldv => exact ⟨_, rfl, rfl, false, sgV0 n1, iteF ⟨_, rfl, rfl, true, sgV rfl, iteT ⟨_, rfl, _, rfl, _, rfl, by show 3 ≤ sizeLine; decide, q⟩⟩⟩
    | rdv => exact ⟨_, rfl, rfl, false, sgV0 n2, iteF ⟨_, rfl, rfl, false, sgV0 n3, iteF ⟨_, rfl, _, rfl, _, rfl, by show 3 ≤ sizeLine; decide, q⟩⟩⟩
def spRowsTo : Sp := fun vs H Q _ => ∃ (sl : Addr) (sa : List Addr) (sts : List Stp) (n : Nat), vs = [.ref sl, .int (n : Nat)] ∧ H sl = some (.lst (refV sa)) ∧ StsAt H sa sts ∧ n = sts.length ∧ 1 ≤ n ∧ n ≤ 6 ∧
  ∀ p rr H', Same H H' → H p = none → H' p = some (.lst [.ref rr]) → H' rr = some (.tup (upto n)) → Q (.ref p) H'
abbrev N_rows_to : List Str := ["steps", "row", "found", "waiting", "rows", "index", "later"]
theorem sc_rows_to : FnScope N_rows_to ["steps", "row"] (defScope s_rows_to) := ⟨rfl, rfl, rfl, by decide +kernel, rfl, by decide +kernel, by decide +kernel⟩
-- slots: 0 steps, 1 row, 2 found, 3 waiting, 4 rows, 5 index, 6 later
theorem ok_rows_to (T : Tx w K mg) : Ok P w K mg base 2 (a_rows_to K) ["steps", "row"] [] spRowsTo := by
  obtain ⟨_, _, F_later_indexes, b_later_indexes, v_later_indexes, k_later_indexes⟩ := ok_later_indexes (P := P) (base := base) T
  refine Ok.of T.f_rows_to (fun z F => okBody F sc_rows_to (fun vs H Q E h => ?_) fun cdv A outer s H vs Q E hr h => ?_) rfl fun _ _ _ _ _ _ us hl => match us, hl with | [_, _], _ => rfl
  · obtain ⟨sl, sa, sts, n, rfl, _⟩ := h
    rfl
  · obtain ⟨sl, sa, sts, n, rfl, hsl, hat, hn, hd, h6, q⟩ := h
    refine ⟨_, (pss_cons (ps_par (i := 2) (j := 3) rfl sc_rows_to.nd rfl rfl (by decide) rfl rfl (pa_cons (pe_lst pa_nil) (pa_cons (pe_lst (pa_cons (pe_tup (pa_cons (pe_tup pa_nil) (pa_cons pe_int pa_nil))) pa_nil)) pa_nil)) (by rfl))
 (pss_cons (ps_while PassesOwn.never (pt_truth (pv 3) (by intro _; rfl)) (pss_cons (ps_asg (pe_bm0 PySem.F.plainAttrs_list PySem.F.slot_list_pop PySem.F.type_list_pop mt_pop (pv 3)) (pg_tup rfl (pgs_cons (pg_name (i := 4) sc_rows_to.nd rfl (by first | exact Or.inl rfl | exact Or.inr rfl)) (pgs_cons (pg_name (i := 5) sc_rows_to.nd rfl (by first | exact Or.inl rfl | exact Or.inr rfl)) pgs_nil))))
 (pss_one (ps_if (pt_cmpR op_eq (pv 5) (pv 1) (nomark _)) (pss_one (ps_expr (pe_bm PySem.F.plainAttrs_list PySem.F.slot_list_append PySem.F.type_list_append mt_append (pv 2) (pa_cons (pv 4) pa_nil)))) (pss_one (ps_if (pt_cmpR op_lt (pv 5) (pv 1) (nomark _)) (pss_one (ps_expr (pe_bm PySem.F.plainAttrs_list PySem.F.slot_list_extend PySem.F.type_list_extend mt_extend (pv 3) (pa_cons (pe_lcB (own := [("later", 6)]) rfl sc_rows_to.nd (pi_list (pe_call F_later_indexes (hr.mono (by decide)) rfl T.g_later_indexes k_later_indexes b_later_indexes v_later_indexes pass0 (pa_cons (pe_ix ix_list (pv 0) (pv 5) (fun _ _ => rfl)) (pa_cons (pv 5) pa_nil)))) (blkOk_by (own := [("later", 6)]) (N := N_rows_to) (sc := defScope s_rows_to) (by decide +kernel)) (fun _ _ _ _ _ => (pg_name (i := 6) sc_rows_to.nd rfl (by first | exact Or.inl rfl | exact Or.inr rfl))) (fun _ _ _ _ _ => pts_nil) (fun _ _ _ _ _ => (pe_tup (pa_cons (pe_op op_catA (pv 4) (pe_tup (pa_cons (pv 5) pa_nil))) (pa_cons (pv 6) pa_nil))))) pa_nil)))) pss_nil))))))
 (pss_one (ps_ret (pe_callB (cr_sortT (d := n) (B := 100) hd) (by rfl) T.b_sorted (by decide +kernel) (pa_cons (pv 2) pa_nil)))))), ?_⟩
    refine ⟨by show 0 ≤ sizeLine; decide, fun F hF => ?_⟩
    have sF : Same H (upd H F (.lst [])) := same_new hF
    have xF : (upd H F (.lst [])) F = some (.lst []) := upd_same
    generalize upd H F (.lst []) = H1 at sF xF ⊢
    refine ⟨by show 0 ≤ sizeLine; decide, fun r0 hr0 => ?_⟩
    have s2 := sF.trans (same_new (o := .tup []) hr0)
    have xF2 := (upd_ne (o := .tup []) (ne_of_none xF hr0)).trans xF
    have e2 : (upd H1 r0 (.tup [])) r0 = some (.tup []) := upd_same
    generalize upd H1 r0 (.tup []) = H2 at s2 xF2 e2 ⊢
    refine ⟨by show 2 ≤ sizeLine; decide, fun pt hpt => ?_⟩
    have s3 := s2.trans (same_new (o := .tup [.ref r0, .int 0]) hpt)
    have xF3 := (upd_ne (o := .tup [.ref r0, .int 0]) (ne_of_none xF2 hpt)).trans xF2
    have e3 := (upd_ne (o := .tup [.ref r0, .int 0]) (ne_of_none e2 hpt)).trans e2
    have p3 : (upd H2 pt (.tup [.ref r0, .int 0])) pt = some (.tup [.ref r0, .int 0]) := upd_same
    generalize upd H2 pt (.tup [.ref r0, .int 0]) = H3 at s3 xF3 e3 p3 ⊢
    refine ⟨by show 1 ≤ sizeLine; decide, fun Wt hWt => ?_⟩
    have s4 := s3.trans (same_new (o := .lst [.ref pt]) hWt)
    have xF4 := (upd_ne (o := .lst [.ref pt]) (ne_of_none xF3 hWt)).trans xF3
    have e4 := (upd_ne (o := .lst [.ref pt]) (ne_of_none e3 hWt)).trans e3
    have p4 := (upd_ne (o := .lst [.ref pt]) (ne_of_none p3 hWt)).trans p3
    have w4 : (upd H3 Wt (.lst [.ref pt])) Wt = some (.lst [.ref pt]) := upd_same
    have nFW : F ≠ Wt := ne_of_none xF3 hWt
    have W0 := same_none s3 hWt
    generalize upd H3 Wt (.lst [.ref pt]) = H4 at s4 xF4 e4 p4 w4 ⊢
    refine ⟨_, _, rfl, ?_⟩
    refine ⟨fun m σ H' => (∃ t pt rr v4 v5 v6, t ≤ n ∧ m = n - t + 1 ∧ σ = [some (.ref sl), some (.int (n : Nat)), some (.ref F), some (.ref Wt), v4, v5, v6] ∧ Same H H' ∧ H' F = some (.lst []) ∧ H' Wt = some (.lst [.ref pt]) ∧ H' pt = some (.tup [.ref rr, .int (t : Nat)]) ∧ H' rr = some (.tup (upto t))) ∨
      (∃ rr v4 v5 v6, m = 0 ∧ σ = [some (.ref sl), some (.int (n : Nat)), some (.ref F), some (.ref Wt), v4, v5, v6] ∧ Same H H' ∧ H' F = some (.lst [.ref rr]) ∧ H' Wt = some (.lst []) ∧ H' rr = some (.tup (upto n))),
      ⟨n - 0 + 1, .inl ⟨0, pt, r0, _, _, _, Nat.zero_le _, rfl, rfl, s4, xF4, w4, p4, e4⟩⟩, ?_⟩
    clear s4 xF4 w4 p4 e4 s3 xF3 e3 p3 s2 xF2 e2 sF xF
    rintro m σ H5 (⟨t, pt, rr, v4, v5, v6, ht, rfl, rfl, s5, f5, w5, p5, r5⟩ | ⟨rr, v4, v5, v6, rfl, rfl, s5, f5, w5, r5⟩)
    · refine ⟨_, rfl, true, .inl ⟨_, SqL.of w5, rfl⟩, iteT ⟨fun σ' H' => ∃ m', m' < n - t + 1 ∧ ((∃ t pt rr v4 v5 v6, t ≤ n ∧ m' = n - t + 1 ∧ σ' = [some (.ref sl), some (.int (n : Nat)), some (.ref F), some (.ref Wt), v4, v5, v6] ∧ Same H H' ∧ H' F = some (.lst []) ∧ H' Wt = some (.lst [.ref pt]) ∧ H' pt = some (.tup [.ref rr, .int (t : Nat)]) ∧ H' rr = some (.tup (upto t))) ∨
        (∃ rr v4 v5 v6, m' = 0 ∧ σ' = [some (.ref sl), some (.int (n : Nat)), some (.ref F), some (.ref Wt), v4, v5, v6] ∧ Same H H' ∧ H' F = some (.lst [.ref rr]) ∧ H' Wt = some (.lst []) ∧ H' rr = some (.tup (upto n)))), fun σ' H' h => h, ?_⟩⟩
      refine ⟨_, rfl, .inl ⟨rfl, _, SqL.of w5⟩, Wt, _, _, rfl, rfl, w5, rfl, ?_⟩
      rw [show ([V.ref pt] : List V).dropLast = [] from rfl]
      have s6 : Same H (upd H5 Wt (.lst [])) := same_upd s5 W0
      have f6 := (upd_ne (o := .lst []) nFW).trans f5
      have w6 : (upd H5 Wt (.lst [])) Wt = some (.lst []) := upd_same
      have p6 : (upd H5 Wt (.lst [])) pt = some (.tup [.ref rr, .int (t : Nat)]) := (upd_ne (fun e => by rw [e, w5] at p5; cases p5)).trans p5
      have r6 : (upd H5 Wt (.lst [])) rr = some (.tup (upto t)) := (upd_ne (fun e => by rw [e, w5] at r5; cases r5)).trans r5
      refine ⟨pt, _, rfl, SqT.of p6, rfl, _, _, rfl, _, _, rfl, rfl, ?_⟩
      refine ⟨_, rfl, _, rfl, rfl, _, rfl, iteB (fun he => ?_) (fun he => ?_)⟩
      · have et : t = n := by
          have z := of_decide_eq_true he
          injection z with z
          omega
        subst et
        refine ⟨_, rfl, .inl ⟨rfl, _, SqL.of f6⟩, _, rfl, F, [], _, rfl, rfl, f6, by show 0 < sizeLine; decide, 0, by omega, .inr ⟨rr, _, _, _, rfl, rfl, same_upd s6 hF, upd_same, (upd_ne nFW.symm).trans w6, (upd_ne (fun e => by rw [e, f6] at r6; cases r6)).trans r6⟩⟩
      · have et : t < n := by
          have z := of_decide_eq_false he
          have : t ≠ n := fun e => z (by rw [e])
          omega
        refine ⟨_, rfl, _, rfl, _, _, rfl, rfl, true, blT (by omega), iteT ?_⟩
        refine ⟨_, rfl, .inl ⟨rfl, _, SqL.of w6⟩, ?_⟩
        have hts : t < sts.length := by omega
        have hta : t < sa.length := by rw [hat.1]; exact hts
        have e1 := List.getElem?_eq_getElem hta
        have e2 := List.getElem?_eq_getElem hts
        have at6 := s6 _ _ (hat.2 t _ _ e1 e2)
        refine ⟨_, rfl, _, rfl, sl, _, _, _, rfl, rfl, SqL.of (s6 _ _ hsl), atI_nat (j := t) (by rw [List.getElem?_map, e1]; rfl), _, rfl, sa[t], sts[t], t, rfl, at6, fun lp hlp => ?_⟩
        have s7 := s6.trans (same_new (o := .lst [.int ((t : Nat) + 1)]) hlp)
        have f7 := (upd_ne (o := .lst [.int ((t : Nat) + 1)]) (ne_of_none f6 hlp)).trans f6
        have w7 := (upd_ne (o := .lst [.int ((t : Nat) + 1)]) (ne_of_none w6 hlp)).trans w6
        have r7 := (upd_ne (o := .lst [.int ((t : Nat) + 1)]) (ne_of_none r6 hlp)).trans r6
        have l7 : (upd (upd H5 Wt (.lst [])) lp (.lst [.int ((t : Nat) + 1)])) lp = some (.lst [.int ((t : Nat) + 1)]) := upd_same
        generalize upd (upd H5 Wt (.lst [])) lp (.lst [.int ((t : Nat) + 1)]) = H7 at s7 f7 w7 r7 l7 ⊢
        refine ⟨lp, rfl, ⟨_, SqL.of l7⟩, fun D hD => ?_⟩
        have mkP : ∀ (rr' : Addr) (H8 : Hp) (pt2 : Addr), Same H7 H8 → H8 rr' = some (.tup (upto (t + 1))) → H8 D = some (.lst []) → H8 pt2 = none → Same H7 (upd (upd H8 pt2 (.tup [.ref rr', .int ((t : Nat) + 1)])) D (.lst ([] ++ [.ref pt2]))) ∧
            ∃ r2 p2, (upd (upd H8 pt2 (.tup [.ref rr', .int ((t : Nat) + 1)])) D (.lst ([] ++ [.ref pt2]))) D = some (.lst [.ref p2]) ∧ (upd (upd H8 pt2 (.tup [.ref rr', .int ((t : Nat) + 1)])) D (.lst ([] ++ [.ref pt2]))) p2 = some (.tup [.ref r2, .int ((t + 1 : Nat) : Int)]) ∧ (upd (upd H8 pt2 (.tup [.ref rr', .int ((t : Nat) + 1)])) D (.lst ([] ++ [.ref pt2]))) r2 = some (.tup (upto (t + 1))) := fun rr' H8 pt2 s8 hr hD8 hpt => by
          have n1 : rr' ≠ D := fun e => by
            rw [e, hD8] at hr
            cases hr
          have n2 : rr' ≠ pt2 := ne_of_none hr hpt
          have n3 : D ≠ pt2 := ne_of_none hD8 hpt
          refine ⟨same_upd (same_upd s8 (same_none s8 hpt)) hD, rr', pt2, upd_same, ?_, ?_⟩
          · rw [upd_ne n3.symm, upd_same]
            rfl
          · rw [upd_ne n1, upd_ne n2]
            exact hr
        refine lc_list (K := K) (xs := [.int ((t : Nat) + 1)]) (fun k H' => Same H7 H' ∧ (k = 0 → H' D = some (.lst [])) ∧ (k = 1 → ∃ rr' pt', H' D = some (.lst [.ref pt']) ∧ H' pt' = some (.tup [.ref rr', .int ((t + 1 : Nat) : Int)]) ∧ H' rr' = some (.tup (upto (t + 1))))) ⟨same_new hD, fun _ => upd_same, fun e => by cases e⟩ (fun k H' _ p => SqL.of (p.1 _ _ l7)) ?_ ?_
        · rintro k x H' hx ⟨s8, d8, _⟩
          have hk : k = 0 := by
            have := (List.getElem?_eq_some_iff.mp hx).1
            simp only [List.length_singleton] at this
            omega
          subst hk
          have ex : x = .int ((t : Nat) + 1) := (Option.some.inj hx).symm
          subst ex
          have d8 := d8 rfl
          refine ⟨rfl, _, rfl, _, rfl, by show 1 ≤ sizeLine; decide, fun q1 hq1 => ?_⟩
          have s9 := s8.trans (same_new (o := .tup [.int (t : Nat)]) hq1)
          have d9 := (upd_ne (o := .tup [.int (t : Nat)]) (ne_of_none d8 hq1)).trans d8
          have ul : (upto t).length = t := by simp
          refine ⟨rr, q1, upto t, [.int (t : Nat)], rfl, rfl, SqT.of (s9 _ _ r7), SqT.of upd_same, sl1 (by rw [ul]; show t + 1 ≤ 100000; omega), fun h => ?_, fun _ h => absurd h (by simp), fun h _ p hp => ?_⟩
          · have t0 : t = 0 := by
              rw [h] at ul
              exact ul.symm
            refine ⟨_, rfl, by show 2 ≤ sizeLine; decide, fun pt2 hpt2 => ⟨[], (upd_ne (ne_of_none d9 hpt2)).trans d9, by show 0 < sizeLine; decide, ?_⟩⟩
            obtain ⟨a1, a2⟩ := mkP q1 _ pt2 s9 (by rw [upd_same, t0]; rfl) d9 hpt2
            exact ⟨a1, fun e => (by cases e), fun _ => a2⟩
          · have s10 := s9.trans (same_new (o := .tup (upto t ++ [.int (t : Nat)])) hp)
            have d10 := (upd_ne (o := .tup (upto t ++ [.int (t : Nat)])) (ne_of_none d9 hp)).trans d9
            refine ⟨_, rfl, by show 2 ≤ sizeLine; decide, fun pt2 hpt2 => ⟨[], (upd_ne (ne_of_none d10 hpt2)).trans d10, by show 0 < sizeLine; decide, ?_⟩⟩
            obtain ⟨a1, a2⟩ := mkP p _ pt2 s10 (by rw [upd_same, upto_succ]) d10 hpt2
            exact ⟨a1, fun e => (by cases e), fun _ => a2⟩
        · rintro H8 ⟨s8, _, h8⟩
          obtain ⟨rr', pt', a1, a2, a3⟩ := h8 rfl
          have w8 := s8 _ _ w7
          have nWD : Wt ≠ D := ne_of_none w7 hD
          refine ⟨Wt, D, [], [.ref pt'], rfl, rfl, w8, a1, by show 0 + 1 ≤ sizeLine; decide, n - (t + 1) + 1, by omega, .inl ⟨t + 1, pt', rr', _, _, _, et, rfl, rfl, same_upd (s7.trans s8) W0, (upd_ne nFW).trans (s8 _ _ f7), upd_same, (upd_ne (fun e => by rw [e, w8] at a2; cases a2)).trans a2, (upd_ne (fun e => by rw [e, w8] at a3; cases a3)).trans a3⟩⟩
    · refine ⟨_, rfl, false, .inl ⟨_, SqL.of w5, rfl⟩, iteF ?_⟩
      refine ⟨_, rfl, F, _, rfl, SqL.of f5, by show 1 < 64; decide, fun x hx => ?_, fun ys p hperm _ hp => ?_⟩
      · have ex : x = .ref rr := by simpa using hx
        subst ex
        refine ⟨(List.range n).map fun i : Nat => (i : Int), ⟨rr, rfl, ?_⟩, by simp, ?_⟩
        · rw [List.map_map]
          exact SqT.of r5
        · intro m hm
          obtain ⟨i, hi, rfl⟩ := List.mem_map.mp hm
          have := List.mem_range.mp hi
          omega
      · have ey : ys = [.ref rr] := List.perm_singleton.mp hperm
        subst ey
        exact q p rr _ (same_upd s5 (same_none s5 hp)) (same_none s5 hp) upd_same ((upd_ne (ne_of_none r5 hp)).trans r5)
end
end K8
end

section
set_option Elab.async false
set_option linter.all false
set_option maxRecDepth 100000
set_option maxHeartbeats 8000000
/-! Ways: taken step by step. -/
namespace K8
open PySem PySem.Spec PyProof.Rows L2
open KM (T3 nth rt Dn mrg Eqv Snd Got Fm Sg sz triN)
/-- operations, ends, size -/
abbrev WS : Type := List T3 × List Nat × Nat
def takeW (w : WS) : Stp → WS
  | .cp d s => (w.1, w.2.1.set d (w.2.1.getD s 0), w.2.2)
  | .op g d l r => (w.1 ++ [triN g (w.2.1.getD l 0) (w.2.1.getD r 0) w.2.2], w.2.1.set d w.2.2, w.2.2 + 1)
def runW (w : WS) (sts : List Stp) : WS := sts.foldl takeW w
theorem takeW_len (w : WS) (s : Stp) : (takeW w s).2.1.length = w.2.1.length ∧ (takeW w s).1.length ≤ w.1.length + 1 ∧ w.2.2 ≤ (takeW w s).2.2 ∧ (takeW w s).2.2 ≤ w.2.2 + 1 := by
  cases s with
  | cp d s => exact ⟨List.length_set .., Nat.le_succ _, Nat.le_refl _, Nat.le_succ _⟩
  | op g d l r => exact ⟨List.length_set .., by show (w.1 ++ [_]).length ≤ _; simp, Nat.le_succ _, Nat.le_refl _⟩
def fsWy (r o e u n : Addr) (k : Nat) : List (Str × V) := [("rows", .ref r), ("operations", .ref o), ("equals", .ref e), ("unlikes", .ref u), ("ends", .ref n), ("size", .int (k : Nat))]
section
variable (r o e u n : Addr) (k : Nat)
theorem fsWy_rows : (fsWy r o e u n k).lookup ("rows" : Str) = some (.ref r) := by kernel_rfl
theorem fsWy_operations : (fsWy r o e u n k).lookup ("operations" : Str) = some (.ref o) := by kernel_rfl
theorem fsWy_equals : (fsWy r o e u n k).lookup ("equals" : Str) = some (.ref e) := by kernel_rfl
theorem fsWy_unlikes : (fsWy r o e u n k).lookup ("unlikes" : Str) = some (.ref u) := by kernel_rfl
theorem fsWy_ends : (fsWy r o e u n k).lookup ("ends" : Str) = some (.ref n) := by kernel_rfl
theorem fsWy_size : (fsWy r o e u n k).lookup ("size" : Str) = some (.int (k : Nat)) := by kernel_rfl
theorem fsWy_take : (fsWy r o e u n k).lookup ("take" : Str) = none := by kernel_rfl
theorem fsWy_put : putF "size" (.int (k : Nat)) (putF "ends" (.ref n) (putF "unlikes" (.ref u) (putF "equals" (.ref e) (putF "operations" (.ref o) (putF "rows" (.ref r) []))))) = fsWy r o e u n k := by kernel_rfl
theorem fsWy_more : putF "size" (.int ((k : Nat) + 1)) (fsWy r o e u n k) = fsWy r o e u n (k + 1) := by kernel_rfl
end
structure WA where
  r : Addr
  o : Addr
  e : Addr
  u : Addr
  n : Addr
structure WayAt (K : PySem.W.Frag) (H : Hp) (a : Addr) (c : WA) (w : WS) : Prop where
  obj : ∃ dx, H a = some (.ins (CWay K) dx (fsWy c.r c.o c.e c.u c.n w.2.2))
  ops_ : ∃ os, H c.o = some (.lst (refV os)) ∧ T3s H os w.1
  eq_ : H c.e = some (.lst [])
  un_ : H c.u = some (.lst [])
  end_ : H c.n = some (.lst (natV w.2.1))
  oe : c.o ≠ c.e
  ou : c.o ≠ c.u
  on : c.o ≠ c.n
  ne : c.n ≠ c.e
  nu : c.n ≠ c.u
theorem WayAt.same {K : PySem.W.Frag} {H H' : Hp} {a : Addr} {c : WA} {w : WS} (W : WayAt K H a c w) (e : Same H H') : WayAt K H' a c w := by
  obtain ⟨dx, h1⟩ := W.obj
  obtain ⟨os, h2, h3, h4⟩ := W.ops_
  exact ⟨⟨dx, e _ _ h1⟩, ⟨os, e _ _ h2, h3, fun i x o a1 a2 => e _ _ (h4 i x o a1 a2)⟩, e _ _ W.eq_, e _ _ W.un_, e _ _ W.end_, W.oe, W.ou, W.on, W.ne, W.nu⟩
/-- another list changes -/
theorem WayAt.upd_lst {K : PySem.W.Frag} {H : Hp} {a D : Addr} {c : WA} {w : WS} {xs : List V} {o : HO} (W : WayAt K H a c w) (hD : H D = some (.lst xs)) (n1 : c.o ≠ D) (n2 : c.e ≠ D) (n3 : c.u ≠ D) (n4 : c.n ≠ D) : WayAt K (upd H D o) a c w := by
  obtain ⟨dx, h1⟩ := W.obj
  obtain ⟨os, h2, h3, h4⟩ := W.ops_
  exact ⟨⟨dx, (upd_ne (fun e => by rw [e, hD] at h1; cases h1)).trans h1⟩, ⟨os, (upd_ne n1).trans h2, h3, fun i x o a1 a2 => (upd_ne (fun e => by have z := h4 i x o a1 a2; rw [e, hD] at z; cases z)).trans (h4 i x o a1 a2)⟩, (upd_ne n2).trans W.eq_, (upd_ne n3).trans W.un_, (upd_ne n4).trans W.end_, W.oe, W.ou, W.on, W.ne, W.nu⟩
theorem natV_getD {l : List Nat} {i : Nat} (h : i < l.length) : atI (natV l) (i : Int) = some (V.int (l.getD i 0 : Nat)) := natV_at (by rw [List.getD_eq_getElem?_getD, List.getElem?_eq_getElem h]; rfl)
section
variable {P : Program} {w : World} {K : PySem.W.Frag} {mg : Str → Option Value} {base : Heap}
def spTake (K : PySem.W.Frag) : Sp := fun vs H Q _ => ∃ (a b : Addr) (x : V) (c : WA) (s : WS) (st : Stp), vs = [.ref a, .ref b, x] ∧ WayAt K H a c s ∧ H b = some (.tup (stV st)) ∧ st.ok ∧ 3 ≤ s.2.1.length ∧ s.1.length ≤ 1000 ∧
  ∀ H', Kp [a, c.o, c.n] H H' → WayAt K H' a c (takeW s st) → Q .non H'
abbrev N_Way_take : List Str := ["self", "step", "later", "word", "pair"]
theorem sc_Way_take : FnScope N_Way_take ["self", "step", "later"] (defScope s_Way_take) := ⟨rfl, rfl, rfl, by decide +kernel, rfl, by decide +kernel, by decide +kernel⟩
-- slots: 0 self, 1 step, 2 later, 3 word, 4 pair
theorem ok_Way_take (T : Tx w K mg) : Ok P w K mg base 2 (a_Way_take K) ["self", "step", "later"] [] (spTake K) := by
  obtain ⟨_, _, F_triple_with, b_triple_with, v_triple_with, k_triple_with⟩ := ok_triple_with (P := P) (base := base) T
  refine Ok.of T.f_Way_take (fun z F => okBody F sc_Way_take (fun vs H Q E h => ?_) fun cdv A outer s H vs Q E hr h => ?_) rfl fun _ _ _ _ _ _ us hl => match us, hl with | [_, _, _], _ => rfl
  · obtain ⟨a, b, x, c, s, st, rfl, _⟩ := h
    rfl
  · obtain ⟨a, b, x, c, ⟨wo, we, wn⟩, st, rfl, W, hb, ok, h3, h1000, q⟩ := h
    obtain ⟨dx, ha⟩ := W.obj
    have ha : H a = some (.ins (CWay K) dx (fsWy c.r c.o c.e c.u c.n wn)) := ha
    have h3 : 3 ≤ we.length := h3
    have h1000 : wo.length ≤ 1000 := h1000
    have wen : H c.n = some (.lst (natV we)) := W.end_
    obtain ⟨os, ho1, ho2, ho3⟩ := W.ops_
    have ho2 : os.length = wo.length := ho2
    refine ⟨_, (pss_cons (ps_set (i := 3) sc_Way_take.nd rfl (by first | exact Or.inl rfl | exact Or.inr rfl) (pe_ix ix_tup (pv 1) pe_int (fun _ _ => rfl)))
 (pss_one (ps_if (pt_cmpR op_eq (pv 3) (C8.pe_gc rfl T.v_COPY) (nomark _)) (pss_one (ps_asg (pe_ix ix_list (pe_fld (pv 0) rfl) (pe_ix ix_tup (pv 1) pe_int (fun _ _ => rfl)) (fun _ _ => rfl)) (pg_sub (pe_fld (pv 0) rfl) (pe_ix ix_tup (pv 1) pe_int (fun _ _ => rfl)) set_list))) (pss_one (ps_if (pt_cmpR op_in_seq (pv 3) (C8.pe_gc rfl T.v_TESTS) rfl) (pss_cons (ps_set (i := 4) sc_Way_take.nd rfl (by first | exact Or.inl rfl | exact Or.inr rfl) (pe_tup (pa_cons (pe_ix ix_list (pe_fld (pv 0) rfl) (pe_ix ix_tup (pv 1) pe_int (fun _ _ => rfl)) (fun _ _ => rfl)) (pa_cons (pe_ix ix_list (pe_fld (pv 0) rfl) (pe_ix ix_tup (pv 1) pe_int (fun _ _ => rfl)) (fun _ _ => rfl)) pa_nil))))
 (pss_one (ps_if (pt_cmpR op_eq (pe_cmpR op_eq (pv 3) (C8.pe_gc rfl T.v_SAME) (nomark _)) (pe_cmpR op_eq (pv 2) (pe_ix ix_tup (pv 1) pe_int (fun _ _ => rfl)) (nomark _)) (nomark _)) (pss_one (ps_expr (pe_bm PySem.F.plainAttrs_list PySem.F.slot_list_append PySem.F.type_list_append mt_append (pe_fld (pv 0) rfl) (pa_cons (pv 4) pa_nil)))) (pss_one (ps_expr (pe_bm PySem.F.plainAttrs_list PySem.F.slot_list_append PySem.F.type_list_append mt_append (pe_fld (pv 0) rfl) (pa_cons (pv 4) pa_nil))))))) (pss_one (ps_if (pt_cmpR op_in_seq (pv 3) (C8.pe_gc rfl T.v_MARKS) rfl) (pss_cons (ps_expr (pe_bm PySem.F.plainAttrs_list PySem.F.slot_list_append PySem.F.type_list_append mt_append (pe_fld (pv 0) rfl) (pa_cons (pe_call F_triple_with (hr.mono (by decide)) rfl T.g_triple_with k_triple_with b_triple_with v_triple_with pass0 (pa_cons (pv 3) (pa_cons (pe_ix ix_list (pe_fld (pv 0) rfl) (pe_ix ix_tup (pv 1) pe_int (fun _ _ => rfl)) (fun _ _ => rfl)) (pa_cons (pe_ix ix_list (pe_fld (pv 0) rfl) (pe_ix ix_tup (pv 1) pe_int (fun _ _ => rfl)) (fun _ _ => rfl)) (pa_cons (pe_fld (pv 0) rfl) pa_nil))))) pa_nil)))
 (pss_cons (ps_asg (pe_fld (pv 0) rfl) (pg_sub (pe_fld (pv 0) rfl) (pe_ix ix_tup (pv 1) pe_int (fun _ _ => rfl)) set_list))
 (pss_one (ps_fldaug (pv 0) pe_int in_add)))) pss_nil))))))), ?_⟩
    refine ⟨_, rfl, b, _, _, _, rfl, rfl, SqT.of hb, atI_nat (j := 0) rfl, ?_⟩
    cases st with
    | cp d s' =>
      obtain ⟨k1, k2⟩ := ok
      refine ⟨_, rfl, rfl, true, blT rfl, iteT ?_⟩
      refine ⟨_, rfl, a, _, dx, _, _, rfl, ha, T.cl_Way, T.na_Way_ends, fsWy_ends .., _, rfl, b, _, _, _, rfl, rfl, SqT.of hb, atI_nat (j := 2) rfl, c.n, _, _, _, rfl, rfl, SqL.of wen, natV_getD (by omega), ?_⟩
      refine ⟨_, rfl, a, _, dx, _, _, rfl, ha, T.cl_Way, T.na_Way_ends, fsWy_ends .., _, rfl, b, _, _, _, rfl, rfl, SqT.of hb, atI_nat (j := 1) rfl, c.n, _, _, d, rfl, rfl, wen, ixNn (by rw [List.length_map]; omega), ?_⟩
      have e1 : (natV we).set d (V.int (we.getD s' 0 : Nat)) = natV (we.set d (we.getD s' 0)) := by
        unfold natV
        rw [List.map_set]
      rw [e1]
      have na : ∀ {y : Addr} {o : HO}, H y = some o → y ≠ c.n → (upd H c.n (.lst (natV (we.set d (we.getD s' 0))))) y = some o := fun {y o} h n => (upd_ne n).trans h
      exact q _ (kp_upd (Kp.refl _ _) (by simp)) ⟨⟨dx, na ha (fun e => by rw [e, wen] at ha; cases ha)⟩, ⟨os, na ho1 W.on, ho2, fun i y o a1 a2 => na (ho3 i y o a1 a2) (fun e => by have z := ho3 i y o a1 a2; rw [e, wen] at z; cases z)⟩, na W.eq_ W.ne.symm, na W.un_ W.nu.symm, upd_same, W.oe, W.ou, W.on, W.ne, W.nu⟩
    | op g d l r =>
      obtain ⟨k1, k2, k3⟩ := ok
      have nc : ¬ V.str (sgS g) = V.str "copy" := fun e => by
        injection e with e
        cases g with
        | mul => exact (by decide +kernel : ¬ ("*" : Str) = "copy") e
        | ldv => exact (by decide +kernel : ¬ ("//" : Str) = "copy") e
        | rdv => exact (by decide +kernel : ¬ (">>" : Str) = "copy") e
      refine ⟨_, rfl, rfl, false, blF nc, iteF ?_⟩
      refine ⟨_, rfl, He.ga K "TESTS", _, rfl, .inr (T.TESTS.1 _), rfl, rfl, false, by cases g <;> rfl, iteF ?_⟩
      refine ⟨_, rfl, He.ga K "MARKS", _, rfl, .inr (T.MARKS.1 _), rfl, rfl, true, by cases g <;> rfl, iteT ?_⟩
      refine ⟨_, rfl, a, _, dx, _, _, rfl, ha, T.cl_Way, T.na_Way_operations, fsWy_operations .., .inl ⟨rfl, _, SqL.of ho1⟩, ?_⟩
      refine ⟨_, rfl, ?_⟩
      refine ⟨_, rfl, a, _, dx, _, _, rfl, ha, T.cl_Way, T.na_Way_ends, fsWy_ends .., _, rfl, b, _, _, _, rfl, rfl, SqT.of hb, atI_nat (j := 2) rfl, c.n, _, _, _, rfl, rfl, SqL.of wen, natV_getD (by omega), ?_⟩
      refine ⟨_, rfl, a, _, dx, _, _, rfl, ha, T.cl_Way, T.na_Way_ends, fsWy_ends .., _, rfl, b, _, _, _, rfl, rfl, SqT.of hb, atI_nat (j := 3) rfl, c.n, _, _, _, rfl, rfl, SqL.of wen, natV_getD (by omega), ?_⟩
      refine ⟨_, rfl, a, _, dx, _, _, rfl, ha, T.cl_Way, T.na_Way_size, fsWy_size .., g, we.getD l 0, we.getD r 0, wn, rfl, fun tp htp => ?_⟩
      have s1 : Same H (upd H tp (.tup (t3V (triN g (we.getD l 0) (we.getD r 0) wn)))) := same_new htp
      have t1 : (upd H tp (.tup (t3V (triN g (we.getD l 0) (we.getD r 0) wn)))) tp = some (.tup (t3V (triN g (we.getD l 0) (we.getD r 0) wn))) := upd_same
      generalize upd H tp (.tup (t3V (triN g (we.getD l 0) (we.getD r 0) wn))) = H1 at s1 t1 ⊢
      have ho11 := s1 _ _ ho1
      refine ⟨c.o, refV os, _, rfl, rfl, ho11, sl2 (by rw [List.length_map]; omega), ?_⟩
      have nao : ∀ {y : Addr} {o : HO}, H1 y = some o → y ≠ c.o → (upd H1 c.o (.lst (refV os ++ [.ref tp]))) y = some o := fun {y o} h n => (upd_ne n).trans h
      have a1 := s1 _ _ ha
      have a2 := nao a1 (fun e => by rw [e, ho11] at a1; cases a1)
      have b1 := s1 _ _ hb
      have b2 := nao b1 (fun e => by rw [e, ho11] at b1; cases b1)
      have n2 := nao (s1 _ _ wen) W.on.symm
      have e2 := nao (s1 _ _ W.eq_) W.oe.symm
      have u2 := nao (s1 _ _ W.un_) W.ou.symm
      have o2 : (upd H1 c.o (.lst (refV os ++ [.ref tp]))) c.o = some (.lst (refV (os ++ [tp]))) := by
        rw [upd_same]
        simp [refV]
      have T2 : T3s (upd H1 c.o (.lst (refV os ++ [.ref tp]))) (os ++ [tp]) (wo ++ [triN g (we.getD l 0) (we.getD r 0) wn]) := by
        refine ⟨by rw [List.length_append, List.length_append, ho2]; rfl, fun i y o h1 h2 => ?_⟩
        have z : H1 y = some (.tup (t3V o)) := by
          by_cases e : i < os.length
          · rw [List.getElem?_append_left e] at h1
            rw [List.getElem?_append_left (by omega)] at h2
            exact s1 _ _ (ho3 i y o h1 h2)
          · rw [List.getElem?_append_right (by omega)] at h1 h2
            have e3 : i = os.length := by
              rcases Nat.lt_or_ge (i - os.length) 1 with h | h
              · omega
              · rw [List.getElem?_eq_none (by simpa using h)] at h1
                cases h1
            subst e3
            have e4 : y = tp := by simpa using h1.symm
            have e5 : o = triN g (we.getD l 0) (we.getD r 0) wn := by
              rw [ho2, Nat.sub_self] at h2
              simpa using h2.symm
            rw [e4, e5]
            exact t1
        exact nao z (fun e => by rw [e, ho11] at z; cases z)
      have kp2 : Kp [a, c.o, c.n] H (upd H1 c.o (.lst (refV os ++ [.ref tp]))) := kp_upd s1.kp (by simp)
      generalize upd H1 c.o (.lst (refV os ++ [.ref tp])) = H2 at a2 b2 n2 e2 u2 o2 T2 kp2 ⊢
      refine ⟨_, rfl, a, _, dx, _, _, rfl, a2, T.cl_Way, T.na_Way_size, fsWy_size .., ?_⟩
      refine ⟨_, rfl, a, _, dx, _, _, rfl, a2, T.cl_Way, T.na_Way_ends, fsWy_ends .., _, rfl, b, _, _, _, rfl, rfl, SqT.of b2, atI_nat (j := 1) rfl, c.n, _, _, d, rfl, rfl, n2, ixNn (by rw [List.length_map]; omega), ?_⟩
      have e1 : (natV we).set d (V.int (wn : Nat)) = natV (we.set d wn) := by
        unfold natV
        rw [List.map_set]
      rw [e1]
      have na : ∀ {y : Addr} {o : HO}, H2 y = some o → y ≠ c.n → (upd H2 c.n (.lst (natV (we.set d wn)))) y = some o := fun {y o} h n => (upd_ne n).trans h
      have a3 := na a2 (fun e => by rw [e, n2] at a2; cases a2)
      have o3 := na o2 W.on
      have e3 := na e2 W.ne.symm
      have u3 := na u2 W.nu.symm
      have T3' : T3s (upd H2 c.n (.lst (natV (we.set d wn)))) (os ++ [tp]) (wo ++ [triN g (we.getD l 0) (we.getD r 0) wn]) := ⟨T2.1, fun i y o h1 h2 => na (T2.2 i y o h1 h2) (fun e => by have z := T2.2 i y o h1 h2; rw [e, n2] at z; cases z)⟩
      have n3 : (upd H2 c.n (.lst (natV (we.set d wn)))) c.n = some (.lst (natV (we.set d wn))) := upd_same
      have kp3 : Kp [a, c.o, c.n] H (upd H2 c.n (.lst (natV (we.set d wn)))) := kp_upd kp2 (by simp)
      generalize upd H2 c.n (.lst (natV (we.set d wn))) = H3 at a3 o3 e3 u3 T3' n3 kp3 ⊢
      refine ⟨_, rfl, a, _, dx, _, _, rfl, a3, T.cl_Way, T.na_Way_size, fsWy_size .., _, _, rfl, rfl, dx, _, a3, by show 6 < 1000; decide, ?_⟩
      rw [fsWy_more]
      have nb : ∀ {y : Addr} {o : HO}, H3 y = some o → (∀ C dx fs, o ≠ .ins C dx fs) → (upd H3 a (.ins (CWay K) dx (fsWy c.r c.o c.e c.u c.n (wn + 1)))) y = some o := fun {y o} h n => by
        rw [upd_ne]
        · exact h
        · intro e
          rw [e, a3] at h
          exact n _ _ _ (Option.some.inj h).symm
      exact q _ (kp_upd kp3 (by simp)) ⟨⟨dx, upd_same⟩, ⟨os ++ [tp], nb o3 (fun _ _ _ z => by cases z), T3'.1, fun i y o h1 h2 => nb (T3'.2 i y o h1 h2) (fun _ _ _ z => by cases z)⟩, nb e3 (fun _ _ _ z => by cases z), nb u3 (fun _ _ _ z => by cases z), nb n3 (fun _ _ _ z => by cases z), W.oe, W.ou, W.on, W.ne, W.nu⟩
theorem top_cut {r : R2} {ta tb : TE} {σ : L2.St} {H : Hp} {Q : VK} (Pv : V → Hp → Prop) (k : ∀ v H', Pv v H' → Q v H') (h : (∀ v H', Pv v H' → Q v H') → tOp r ta tb σ H Q) : tOp r ta tb σ H Q := h k
theorem runW_take (w : WS) (sts : List Stp) {i : Nat} {st : Stp} (h : sts[i]? = some st) : runW w (sts.take (i + 1)) = takeW (runW w (sts.take i)) st := by
  rw [List.take_add_one, h]
  unfold runW
  rw [List.foldl_append]
  rfl
theorem runW_len (w : WS) (sts : List Stp) : (runW w sts).2.1.length = w.2.1.length ∧ (runW w sts).1.length ≤ w.1.length + sts.length ∧ w.2.2 ≤ (runW w sts).2.2 ∧ (runW w sts).2.2 ≤ w.2.2 + sts.length := by
  induction sts generalizing w with
  | nil => exact ⟨rfl, Nat.le_refl _, Nat.le_refl _, Nat.le_refl _⟩
  | cons s r ih =>
    obtain ⟨a1, a2, a3, a4⟩ := ih (takeW w s)
    obtain ⟨b1, b2, b3, b4⟩ := takeW_len w s
    show (runW (takeW w s) r).2.1.length = _ ∧ (runW (takeW w s) r).1.length ≤ _ ∧ _ ≤ (runW (takeW w s) r).2.2 ∧ (runW (takeW w s) r).2.2 ≤ _
    simp only [List.length_cons]
    exact ⟨a1.trans b1, by omega, by omega, by omega⟩
def spWayInit (K : PySem.W.Frag) : Sp := fun vs H Q _ => ∃ (a dx sl rr tl : Addr) (row : Int) (k : Nat) (sa : List Addr) (sts : List Stp) (ths : List Nat) (H0 : Hp), vs = [.ref a, .ref sl, .ref rr, .int row, .ref tl, .int (k : Nat)] ∧ H0 a = none ∧ Same H0 H ∧ H a = some (.ins (CWay K) dx []) ∧
  H0 sl = some (.lst (refV sa)) ∧ StsAt H0 sa sts ∧ (∀ s ∈ sts, s.ok) ∧ H0 rr = some (.tup (upto sts.length)) ∧ 1 ≤ sts.length ∧ sts.length ≤ 6 ∧ SqL K H0 tl (natV ths) ∧ 3 ≤ ths.length ∧ ths.length ≤ 100 ∧ ∀ H' c, Same H0 H' → H0 c.o = none → H0 c.e = none → H0 c.u = none → H0 c.n = none → WayAt K H' a c (runW ([], ths, k) sts) → Q .non H'
abbrev N_Way_init : List Str := ["self", "steps", "rows", "row", "things", "size", "index", "later"]
theorem sc_Way_init : FnScope N_Way_init ["self", "steps", "rows", "row", "things", "size"] (defScope s_Way_init) := ⟨rfl, rfl, rfl, by decide +kernel, rfl, by decide +kernel, by decide +kernel⟩
-- slots: 0 self, 1 steps, 2 rows, 3 row, 4 things, 5 size, 6 index, 7 later
theorem ok_Way_init (T : Tx w K mg) : Ok P w K mg base 3 (a_Way_init K) ["self", "steps", "rows", "row", "things", "size"] [] (spWayInit K) := by
  obtain ⟨_, _, F_Way_take, b_Way_take, v_Way_take, k_Way_take⟩ := ok_Way_take (P := P) (base := base) T
  refine Ok.of T.f_Way_init (fun z F => okBody F sc_Way_init (fun vs H Q E h => ?_) fun cdv A outer s H vs Q E hr h => ?_) rfl fun _ _ _ _ _ _ us hl => match us, hl with | [_, _, _, _, _, _], _ => rfl
  · obtain ⟨a, dx, sl, rr, tl, row, k, sa, sts, ths, H0, rfl, _⟩ := h
    rfl
  · obtain ⟨a, dx, sl, rr, tl, row, k, sa, sts, ths, H0, rfl, h0, sm, ha, hsl, hat, hok, hrr, h1, h6, htl, t3, t100, q⟩ := h
    refine ⟨_, (pss_cons (ps_fld (pv 0) (pv 2) rfl)
 (pss_cons (ps_fld (pv 0) (pe_lst pa_nil) rfl)
 (pss_cons (ps_fld (pv 0) (pe_lst pa_nil) rfl)
 (pss_cons (ps_fld (pv 0) (pe_lst pa_nil) rfl)
 (pss_cons (ps_fld (pv 0) (pe_callTy call_list_of (by rfl) T.b_list (by decide +kernel) (pa_cons (pv 4) pa_nil)) rfl)
 (pss_cons (ps_fld (pv 0) (pv 5) rfl)
 (pss_one (ps_for PassesOwn.never rfl (RZ.pi_zipA (by rfl) T.b_zip (pa_cons (pv 2) (pa_cons (pe_op op_catA (pe_slice sl_tupA (pv 2) (po_some pe_int) po_none) (pe_tup (pa_cons (pv 3) pa_nil))) pa_nil))) (pg_tup rfl (pgs_cons (pg_name (i := 6) sc_Way_init.nd rfl (by first | exact Or.inl rfl | exact Or.inr rfl)) (pgs_cons (pg_name (i := 7) sc_Way_init.nd rfl (by first | exact Or.inl rfl | exact Or.inr rfl)) pgs_nil))) (pss_one (ps_expr (pe_meth (pv 0) T.cl_Way T.mt_Way_take F_Way_take (hr.mono (by decide)) b_Way_take v_Way_take pass0 (pa_cons (pe_ix ix_list (pv 1) (pv 6) (fun _ _ => rfl)) (pa_cons (pv 7) pa_nil))))))))))))), ?_⟩
    have ne : ∀ {q : Addr} {G : Hp} {o : HO}, G a = some o → G q = none → q ≠ a := fun {q G o} e n z => by
      rw [z, e] at n
      cases n
    refine ⟨_, rfl, _, rfl, a, _, dx, [], rfl, ha, T.cl_Way, T.na_Way_rows, plM pl0 (by decide), ?_⟩
    generalize hH1 : upd H a _ = H1
    have a1 := (congrFun hH1 a).symm.trans upd_same
    have s1 : Same H0 H1 := by
      rw [← hH1]
      exact same_upd sm h0
    refine ⟨by show 0 ≤ sizeLine; decide, fun po hpo => ?_⟩
    have n1 := ne a1 hpo
    have po0 := same_none s1 hpo
    refine ⟨_, rfl, a, _, dx, _, rfl, (upd_ne n1.symm).trans a1, T.cl_Way, T.na_Way_operations, plM (plS pl0) (by decide), ?_⟩
    generalize hH2 : upd (upd H1 po _) a _ = H2
    have a2 := (congrFun hH2 a).symm.trans upd_same
    have s2 : Same H0 H2 := by
      rw [← hH2]
      exact same_upd (same_upd s1 po0) h0
    have o2 : H2 po = some (.lst []) := by
      rw [← hH2, upd_ne n1, upd_same]
    refine ⟨by show 0 ≤ sizeLine; decide, fun pe hpe => ?_⟩
    have n2 := ne a2 hpe
    have pe0 := same_none s2 hpe
    have npe : po ≠ pe := ne_of_none o2 hpe
    refine ⟨_, rfl, a, _, dx, _, rfl, (upd_ne n2.symm).trans a2, T.cl_Way, T.na_Way_equals, plM (plS (plS pl0)) (by decide), ?_⟩
    generalize hH3 : upd (upd H2 pe _) a _ = H3
    have a3 := (congrFun hH3 a).symm.trans upd_same
    have s3 : Same H0 H3 := by
      rw [← hH3]
      exact same_upd (same_upd s2 pe0) h0
    have o3 : H3 po = some (.lst []) := by
      rw [← hH3, upd_ne n1, upd_ne npe]
      exact o2
    have e3 : H3 pe = some (.lst []) := by
      rw [← hH3, upd_ne n2, upd_same]
    refine ⟨by show 0 ≤ sizeLine; decide, fun pu hpu => ?_⟩
    have n3 := ne a3 hpu
    have pu0 := same_none s3 hpu
    have npu : po ≠ pu := ne_of_none o3 hpu
    have npu2 : pe ≠ pu := ne_of_none e3 hpu
    refine ⟨_, rfl, a, _, dx, _, rfl, (upd_ne n3.symm).trans a3, T.cl_Way, T.na_Way_unlikes, plM (plS (plS (plS pl0))) (by decide), ?_⟩
    generalize hH4 : upd (upd H3 pu _) a _ = H4
    have a4 := (congrFun hH4 a).symm.trans upd_same
    have s4 : Same H0 H4 := by
      rw [← hH4]
      exact same_upd (same_upd s3 pu0) h0
    have o4 : H4 po = some (.lst []) := by
      rw [← hH4, upd_ne n1, upd_ne npu]
      exact o3
    have e4 : H4 pe = some (.lst []) := by
      rw [← hH4, upd_ne n2, upd_ne npu2]
      exact e3
    have u4 : H4 pu = some (.lst []) := by
      rw [← hH4, upd_ne n3, upd_same]
    refine ⟨_, rfl, tl, _, rfl, .inl (s4.sql htl), fun pn hpn => ?_⟩
    have n4 := ne a4 hpn
    have pn0 := same_none s4 hpn
    have npn : po ≠ pn := ne_of_none o4 hpn
    have npn2 : pe ≠ pn := ne_of_none e4 hpn
    have npn3 : pu ≠ pn := ne_of_none u4 hpn
    refine ⟨_, rfl, a, _, dx, _, rfl, (upd_ne n4.symm).trans a4, T.cl_Way, T.na_Way_ends, plM (plS (plS (plS (plS pl0)))) (by decide), ?_⟩
    refine ⟨_, rfl, _, rfl, a, _, dx, _, rfl, upd_same, T.cl_Way, T.na_Way_size, plM (plS (plS (plS (plS (plS pl0))))) (by decide), ?_⟩
    rw [upd_upd, fsWy_put]
    have s5 : Same H0 (upd (upd H4 pn (.lst (natV ths))) a (.ins (CWay K) dx (fsWy rr po pe pu pn k))) := same_upd (same_upd s4 pn0) h0
    have W5 : WayAt K (upd (upd H4 pn (.lst (natV ths))) a (.ins (CWay K) dx (fsWy rr po pe pu pn k))) a ⟨rr, po, pe, pu, pn⟩ ([], ths, k) := by
      refine ⟨⟨dx, upd_same⟩, ⟨[], ?_, rfl, fun i x o h => by cases h⟩, ?_, ?_, ?_, npe, npu, npn, npn2.symm, npn3.symm⟩
      · show upd (upd H4 pn _) a _ po = _
        rw [upd_ne n1, upd_ne npn]
        exact o4
      · show upd (upd H4 pn _) a _ pe = _
        rw [upd_ne n2, upd_ne npn2]
        exact e4
      · show upd (upd H4 pn _) a _ pu = _
        rw [upd_ne n3, upd_ne npn3]
        exact u4
      · show upd (upd H4 pn _) a _ pn = _
        rw [upd_ne n4, upd_same]
    generalize upd (upd H4 pn (.lst (natV ths))) a (.ins (CWay K) dx (fsWy rr po pe pu pn k)) = H5 at s5 W5 ⊢
    -- the steps in their order
    refine ⟨_, rfl, ?_⟩
    have ul : (upto sts.length).length = sts.length := by simp
    refine top_cut (fun v H' => ∃ z ys, v = .ref z ∧ Same H5 H' ∧ H' z = some (.tup ys) ∧ ys.length = sts.length) ?_ (fun key => ?_)
    · rintro v H6 ⟨z, ys, rfl, s6, hz, hyl⟩
      refine ⟨rr, z, upto sts.length, ys, rfl, .inr ⟨SqT.of (s6 _ _ (s5 _ _ hrr)), SqT.of hz, ?_⟩⟩
      have s06 := s5.trans s6
      refine RZ.for_zipT (K := K) (xs := upto sts.length) (ys := ys) (ul.trans hyl.symm) (fun i σ H' => ∃ v6 v7, σ = [some (.ref a), some (.ref sl), some (.ref rr), some (.int row), some (.ref tl), some (.int (k : Nat)), v6, v7] ∧ Same H0 H' ∧ H' z = some (.tup ys) ∧ WayAt K H' a ⟨rr, po, pe, pu, pn⟩ (runW ([], ths, k) (sts.take i)))
        ⟨_, _, rfl, s06, hz, W5.same s6⟩ (fun i σ H' ⟨_, _, _, s, h, _⟩ => ⟨SqT.of (s _ _ hrr), SqT.of h⟩) ?_ ?_
      · rintro i x y tt σ H7 hx hy ⟨v6, v7, rfl, s7, hz7, W7⟩ htt
        have hi : i < sts.length := by
          have := (List.getElem?_eq_some_iff.mp hx).1
          omega
        have ex : x = .int (i : Nat) := by
          rw [List.getElem?_map, List.getElem?_range hi] at hx
          exact (Option.some.inj hx).symm
        subst ex
        have s8 : Same H7 (upd H7 tt (.tup [.int (i : Nat), y])) := same_new htt
        have hst := List.getElem?_eq_getElem hi
        have hsta : i < sa.length := by rw [hat.1]; exact hi
        have hsa := List.getElem?_eq_getElem hsta
        refine ⟨tt, _, rfl, SqT.of upd_same, rfl, _, _, rfl, _, _, rfl, rfl, ?_⟩
        have W8 := W7.same s8
        have s08 := s7.trans s8
        have hz8 := s8 _ _ hz7
        have at8 := s08 _ _ (hat.2 i _ _ hsa hst)
        generalize upd H7 tt (.tup [.int (i : Nat), y]) = H8 at s8 W8 s08 hz8 at8 ⊢
        obtain ⟨dx8, ha8⟩ := W8.obj
        obtain ⟨r1, r2, r3, r4⟩ := runW_len ([], ths, k) (sts.take i)
        refine ⟨_, rfl, a, dx8, _, rfl, ha8, fsWy_take .., _, rfl, _, rfl, sl, _, _, _, rfl, rfl, SqL.of (s08 _ _ hsl), atI_nat (j := i) (by rw [List.getElem?_map, hsa]; rfl), _, rfl, a, sa[i], y, ⟨rr, po, pe, pu, pn⟩, runW ([], ths, k) (sts.take i), sts[i], rfl, W8, at8, hok _ (List.getElem_mem hi), by rw [r1]; exact t3, ?_, fun H9 kp9 W9 => ?_⟩
        · rw [List.length_take] at r2
          simp only [List.length_nil] at r2
          omega
        · have ni : ∀ {b : Addr} {o : HO}, H8 b = some o → b ≠ a → b ≠ po → b ≠ pn → H9 b = some o := fun {b o} h m1 m2 m3 => kp9 b o h (by simp [m1, m2, m3])
          obtain ⟨os8, ho8, _⟩ := W8.ops_
          refine ⟨_, _, rfl, fun b o h => ?_, ?_, by rw [runW_take _ _ hst]; exact W9⟩
          · exact ni (s08 _ _ h) (fun e => by rw [e, h0] at h; cases h) (fun e => by rw [e, po0] at h; cases h) (fun e => by rw [e, pn0] at h; cases h)
          · refine ni hz8 (fun e => by rw [e, ha8] at hz8; cases hz8) (fun e => by rw [e, ho8] at hz8; cases hz8) (fun e => ?_)
            have z := W8.end_
            rw [← e, hz8] at z
            cases z
      · rintro σ H7 ⟨v6, v7, rfl, s7, hz7, W7⟩
        rw [ul, List.take_length] at W7
        exact q H7 _ s7 po0 pe0 pu0 pn0 W7
    · have lt1 : ¬ (HT.sIx (upto sts.length).length 0 (some 1) = 0 ∧ HT.sIx (upto sts.length).length (upto sts.length).length none = (upto sts.length).length) := fun h => by
        have e := h.1
        rw [ul, show (1 : Int) = ((1 : Nat) : Int) from rfl, HT.sIx_nat] at e
        omega
      refine ⟨_, rfl, _, rfl, rr, upto sts.length, rfl, SqT.of (s5 _ _ hrr), fun h => absurd h lt1, fun _ p hp => ?_⟩
      have cl : (cutV (upto sts.length) (some 1) none).length = sts.length - 1 := by
        unfold cutV
        rw [HT.sIx_none, show (1 : Int) = ((1 : Nat) : Int) from rfl, HT.sIx_nat, List.length_take, List.length_drop, ul]
        omega
      have s6 : Same H5 (upd H5 p (.tup (cutV (upto sts.length) (some 1) none))) := same_new hp
      have p6 : (upd H5 p (.tup (cutV (upto sts.length) (some 1) none))) p = some (.tup (cutV (upto sts.length) (some 1) none)) := upd_same
      generalize upd H5 p (.tup (cutV (upto sts.length) (some 1) none)) = H6 at s6 p6 ⊢
      refine ⟨_, rfl, by show 1 ≤ sizeLine; decide, fun p2 hp2 => ?_⟩
      have s7 := s6.trans (same_new (o := .tup [.int row]) hp2)
      have p7 := (upd_ne (o := .tup [.int row]) (ne_of_none p6 hp2)).trans p6
      refine ⟨p, p2, _, [.int row], rfl, rfl, SqT.of p7, SqT.of upd_same, sl1 (by rw [cl]; show _ + 1 ≤ 100000; omega), fun h => ?_, fun _ h => absurd h (by simp), fun h _ p3 hp3 => ?_⟩
      · have c0 := congrArg List.length h
        rw [cl] at c0
        simp only [List.length_nil] at c0
        exact key _ _ ⟨p2, _, rfl, s7, upd_same, by show 1 = _; omega⟩
      · exact key _ _ ⟨p3, _, rfl, s7.trans (same_new hp3), upd_same, by rw [List.length_append, cl, List.length_singleton]; omega⟩
end
end K8
end

section
set_option Elab.async false
set_option linter.all false
set_option maxRecDepth 100000
set_option maxHeartbeats 8000000
/-! Closed tables of ways. -/
namespace K8
open PySem PySem.Spec PyProof.Rows L2
open KM (T3 nth rt Dn mrg Eqv Snd Got Fm Sg sz triN)
/-- two walks, one within the other -/
theorem lc2_it {J : It} {n : Nat} {G : Hp → Prop} {Y : Nat → Hp → V → Hp → Prop} (w : Walk J n G Y) {g g1 : TG} {tt tt1 : TT} {wi1 : TI} {te : TE} {vs vs1 : List Nat} {σ : L2.St} {H1 : Hp} {D : Addr} {Qd : Hp → Prop} (Pv : Nat → Hp → Prop) (h0 : Pv 0 (upd H1 D (.lst []))) (hG : ∀ i H, i ≤ n → Pv i H → G H)
    (hs : ∀ i x H H', i < n → Pv i H → Y i H x H' → g x (wipe σ vs) H' fun σ2 H2 => wipe σ2 vs = wipe σ vs ∧ tt σ2 H2 fun b H3 =>
      if b = true then wi1 σ2 H3 fun J1 H4 => ∃ W1 : Nat → Nat → Hp → Prop, (∃ m, W1 0 m H4) ∧ ∀ j k H, W1 j k H →
        (J1.stop j H ∧ Pv (i + 1) H) ∨ (J1.go j H ∧ ∃ Nx1 : Hp → Prop, (∀ H', Nx1 H' → ∃ k', k' < k ∧ W1 (j + 1) k' H') ∧ ∀ x H', J1.yld j H x H' → g1 x (wipe σ2 vs1) H' fun σ3 H5 => wipe σ3 vs1 = wipe σ2 vs1 ∧ tt1 σ3 H5 fun b H6 =>
          if b = true then te σ3 H6 fun y H7 => ∃ acc, H7 D = some (.lst acc) ∧ acc.length < sizeLine ∧ Nx1 (upd H7 D (.lst (acc ++ [y]))) else Nx1 H6)
      else Pv (i + 1) H3) (hd : ∀ H, Pv n H → Qd H) :
    ∃ W : Nat → Nat → Hp → Prop, (∃ m, W 0 m (upd H1 D (.lst []))) ∧ ∀ i m H, W i m H →
      (J.stop i H ∧ Qd H) ∨ (J.go i H ∧ ∃ Nx : Hp → Prop, (∀ H', Nx H' → ∃ m', m' < m ∧ W (i + 1) m' H') ∧ ∀ x H', J.yld i H x H' → g x (wipe σ vs) H' fun σ2 H2 => wipe σ2 vs = wipe σ vs ∧ tt σ2 H2 fun b H3 =>
        if b = true then wi1 σ2 H3 fun J1 H4 => ∃ W1 : Nat → Nat → Hp → Prop, (∃ m, W1 0 m H4) ∧ ∀ j k H, W1 j k H →
          (J1.stop j H ∧ Nx H) ∨ (J1.go j H ∧ ∃ Nx1 : Hp → Prop, (∀ H', Nx1 H' → ∃ k', k' < k ∧ W1 (j + 1) k' H') ∧ ∀ x H', J1.yld j H x H' → g1 x (wipe σ2 vs1) H' fun σ3 H5 => wipe σ3 vs1 = wipe σ2 vs1 ∧ tt1 σ3 H5 fun b H6 =>
            if b = true then te σ3 H6 fun y H7 => ∃ acc, H7 D = some (.lst acc) ∧ acc.length < sizeLine ∧ Nx1 (upd H7 D (.lst (acc ++ [y]))) else Nx1 H6)
        else Nx H3) := by
  refine ⟨fun i m H => m = n - i ∧ i ≤ n ∧ Pv i H, ⟨n, by simp, Nat.zero_le _, h0⟩, ?_⟩
  rintro i m H ⟨rfl, hi, p⟩
  have q := hG i H hi p
  by_cases hlt : i < n
  · exact .inr ⟨w.goes i H hlt q, Pv (i + 1), fun H' p' => ⟨n - (i + 1), by omega, rfl, hlt, p'⟩, fun x H' y => hs i x H H' hlt p (w.yields i H x H' hlt q y)⟩
  · have e : i = n := by omega
    subst e
    exact .inl ⟨w.stops H q, hd H p⟩
/-- the inner walk -/
theorem lc_in {J : It} {n : Nat} {G : Hp → Prop} {Y : Nat → Hp → V → Hp → Prop} (w : Walk J n G Y) {g : TG} {tt : TT} {te : TE} {vs : List Nat} {σ : L2.St} {H4 : Hp} {D : Addr} {Nx : Hp → Prop} (Pv : Nat → Hp → Prop) (h0 : Pv 0 H4) (hG : ∀ i H, i ≤ n → Pv i H → G H)
    (hs : ∀ i x H H', i < n → Pv i H → Y i H x H' → g x (wipe σ vs) H' fun σ2 H2 => wipe σ2 vs = wipe σ vs ∧ tt σ2 H2 fun b H3 =>
      if b = true then te σ2 H3 fun y H4 => ∃ acc, H4 D = some (.lst acc) ∧ acc.length < sizeLine ∧ Pv (i + 1) (upd H4 D (.lst (acc ++ [y]))) else Pv (i + 1) H3) (hd : ∀ H, Pv n H → Nx H) :
    ∃ W : Nat → Nat → Hp → Prop, (∃ m, W 0 m H4) ∧ ∀ i m H, W i m H →
      (J.stop i H ∧ Nx H) ∨ (J.go i H ∧ ∃ N1 : Hp → Prop, (∀ H', N1 H' → ∃ m', m' < m ∧ W (i + 1) m' H') ∧ ∀ x H', J.yld i H x H' → g x (wipe σ vs) H' fun σ2 H2 => wipe σ2 vs = wipe σ vs ∧ tt σ2 H2 fun b H3 =>
        if b = true then te σ2 H3 fun y H4 => ∃ acc, H4 D = some (.lst acc) ∧ acc.length < sizeLine ∧ N1 (upd H4 D (.lst (acc ++ [y]))) else N1 H3) := by
  refine ⟨fun i m H => m = n - i ∧ i ≤ n ∧ Pv i H, ⟨n, by simp, Nat.zero_le _, h0⟩, ?_⟩
  rintro i m H ⟨rfl, hi, p⟩
  have q := hG i H hi p
  by_cases hlt : i < n
  · exact .inr ⟨w.goes i H hlt q, Pv (i + 1), fun H' p' => ⟨n - (i + 1), by omega, rfl, hlt, p'⟩, fun x H' y => hs i x H H' hlt p (w.yields i H x H' hlt q y)⟩
  · have e : i = n := by omega
    subst e
    exact .inl ⟨w.stops H q, hd H p⟩
/-- a list of ways -/
def WaysAt (K : PySem.W.Frag) (H : Hp) (ws : List (Addr × WA × WS)) : Prop := ∀ w ∈ ws, WayAt K H w.1 w.2.1 w.2.2
theorem WaysAt.same {K : PySem.W.Frag} {H H' : Hp} {ws : List (Addr × WA × WS)} (h : WaysAt K H ws) (e : Same H H') : WaysAt K H' ws := fun w hw => (h w hw).same e
abbrev opsW (ws : List (Addr × WA × WS)) : List T3 := ws.flatMap fun w => w.2.2.1
abbrev refW (ws : List (Addr × WA × WS)) : List V := ws.map fun w => V.ref w.1
theorem T3s.app {H : Hp} {os os' : List Addr} {ops ops' : List T3} (h : T3s H os ops) (h' : T3s H os' ops') : T3s H (os ++ os') (ops ++ ops') := by
  refine ⟨by rw [List.length_append, List.length_append, h.1, h'.1], fun i a o h1 h2 => ?_⟩
  by_cases e : i < os.length
  · rw [List.getElem?_append_left e] at h1
    rw [List.getElem?_append_left (by rw [← h.1]; exact e)] at h2
    exact h.2 i a o h1 h2
  · rw [List.getElem?_append_right (by omega)] at h1
    rw [List.getElem?_append_right (by rw [← h.1]; omega), ← h.1] at h2
    exact h'.2 _ a o h1 h2
theorem T3s.take {H : Hp} {os : List Addr} {ops : List T3} (h : T3s H os ops) (k : Nat) : T3s H (os.take k) (ops.take k) := by
  refine ⟨by rw [List.length_take, List.length_take, h.1], fun i a o h1 h2 => ?_⟩
  rw [List.getElem?_take] at h1 h2
  by_cases e : i < k
  · rw [if_pos e] at h1 h2
    exact h.2 i a o h1 h2
  · rw [if_neg e] at h1
    cases h1
theorem T3s.same {H H' : Hp} {os : List Addr} {ops : List T3} (h : T3s H os ops) (e : Same H H') : T3s H' os ops := ⟨h.1, fun i a o h1 h2 => e _ _ (h.2 i a o h1 h2)⟩
/-- pairs of things as tuples -/
def PairsAt (H : Hp) (ps : List Addr) (pairs : List (Nat × Nat)) : Prop := ps.length = pairs.length ∧ ∀ (i : Nat) (a : Addr) (p : Nat × Nat), ps[i]? = some a → pairs[i]? = some p → H a = some (.tup [.int (p.1 : Nat), .int (p.2 : Nat)])
theorem PairsAt.same {H H' : Hp} {ps : List Addr} {pairs : List (Nat × Nat)} (h : PairsAt H ps pairs) (e : Same H H') : PairsAt H' ps pairs := ⟨h.1, fun i a p h1 h2 => e _ _ (h.2 i a p h1 h2)⟩
section
variable {P : Program} {w : World} {K : PySem.W.Frag} {mg : Str → Option Value} {base : Heap}
def spClosed (K : PySem.W.Frag) : Sp := fun vs H Q _ => ∃ (k wl pl : Addr) (L : KM.Lot) (calm : Bool) (ws : List (Addr × WA × WS)) (ps : List Addr) (pairs : List (Nat × Nat)), vs = [.ref k, .ref wl, .ref pl] ∧ KindAt K H k L calm ∧ H wl = some (.lst (refW ws)) ∧ WaysAt K H ws ∧ 1 ≤ ws.length ∧ ws.length ≤ 3 ∧
  (SqL K H pl (refV ps) ∨ SqT K H pl (refV ps)) ∧ PairsAt H ps pairs ∧ ps.length ≤ 100 ∧ (∀ w ∈ ws, w.2.2.1.length ≤ 100 ∧ w.2.2.2.2 ≤ 100 ∧ ∀ o ∈ w.2.2.1, ∀ p, p < 3 → nth o p < w.2.2.2.2) ∧ (∀ a b, (a, b) ∈ pairs → (∃ w ∈ ws, a < w.2.2.2.2) ∧ ∃ w ∈ ws, b < w.2.2.2.2) ∧
  ∀ H' x c ab tl, Same H H' → CloAt K H' x c L calm (opsW ws) ab tl → Dn ab → (∀ w ∈ ws, w.2.2.2.2 ≤ ab.length) → (∀ a b, a < ab.length → b < ab.length → (rt ab a = rt ab b ↔ Eqv L calm (opsW ws) pairs a b)) → Q (.ref x) H'
abbrev N_closed_table : List Str := ["kind", "ways", "pairs", "operations", "closing", "one", "other", "way", "triple", "pair"]
theorem sc_closed_table : FnScope N_closed_table ["kind", "ways", "pairs"] (defScope s_closed_table) := ⟨rfl, rfl, rfl, by decide +kernel, rfl, by decide +kernel, by decide +kernel⟩
-- slots: 0 kind, 1 ways, 2 pairs, 3 operations, 4 closing, 5 one, 6 other, 7 way, 8 triple, 9 pair
theorem fn_closed_table (T : Tx w K mg) (z : FuncData) (F : FD K d_closed_table z) : FnOk P w K mg base CX0 5 (a_closed_table K) z ["kind", "ways", "pairs"] (spClosed K) := by
  obtain ⟨_, _, F_Closing_init, b_Closing_init, v_Closing_init, k_Closing_init⟩ := ok_Closing_init (P := P) (base := base) T
  obtain ⟨_, _, F_Closing_merge, b_Closing_merge, v_Closing_merge, k_Closing_merge⟩ := ok_Closing_merge (P := P) (base := base) T
  obtain ⟨_, _, F_Closing_close, b_Closing_close, v_Closing_close, k_Closing_close⟩ := ok_Closing_close (P := P) (base := base) T
  obtain ⟨_, _, F_Closing_same, b_Closing_same, v_Closing_same, k_Closing_same⟩ := ok_Closing_same (P := P) (base := base) T
  refine okBody F sc_closed_table (fun vs H Q E h => ?_) fun cdv A outer s H vs Q E hr h => ?_
  · obtain ⟨k, wl, pl, L, calm, ws, ps, pairs, rfl, _⟩ := h
    rfl
  · obtain ⟨k, wl, pl, L, calm, ws, ps, pairs, rfl, hk, hwl, hws, w1, w3, hpl, hps, p100, hop, hpr, q⟩ := h
    refine ⟨_, (pss_cons (ps_setLc2B (i := 3) (own := [("way", 7), ("triple", 8)]) (vs1 := [8]) rfl sc_closed_table.nd rfl rfl (sw_true rfl rfl rfl (by decide +kernel)) (pi_list (pv 1)) (blkOk_by (own := [("way", 7), ("triple", 8)]) (N := N_closed_table) (sc := defScope s_closed_table) (by decide +kernel)) (by decide) (fun _ _ _ _ _ => (pg_name (i := 7) sc_closed_table.nd rfl (by first | exact Or.inl rfl | exact Or.inr rfl))) (fun _ _ _ _ _ => pts_nil) (fun _ _ _ _ _ => (pi_list (pe_fld (pv 7) rfl))) (fun _ _ _ _ _ => (pg_name (i := 8) sc_closed_table.nd rfl (by first | exact Or.inl rfl | exact Or.inr rfl))) (fun _ _ _ _ _ => pts_nil) (fun _ _ _ _ _ => (pv 8)))
 (pss_cons (ps_set (i := 4) sc_closed_table.nd rfl (by first | exact Or.inl rfl | exact Or.inr rfl) (pe_make T.mk_Closing F_Closing_init (hr.mono (by decide)) rfl T.g_Closing b_Closing_init v_Closing_init pass0 (pa_cons (pv 0) (pa_cons (pe_callB (cr_max rfl) (by rfl) T.b_max (by decide +kernel) (pa_cons (pe_lcB (own := [("way", 7)]) rfl sc_closed_table.nd (pi_list (pv 1)) (blkOk_by (own := [("way", 7)]) (N := N_closed_table) (sc := defScope s_closed_table) (by decide +kernel)) (fun _ _ _ _ _ => (pg_name (i := 7) sc_closed_table.nd rfl (by first | exact Or.inl rfl | exact Or.inr rfl))) (fun _ _ _ _ _ => pts_nil) (fun _ _ _ _ _ => (pe_fld (pv 7) rfl))) pa_nil)) (pa_cons (pv 3) pa_nil)))))
 (pss_cons (ps_for PassesOwn.never rfl (pi_list (pe_op op_cat (pe_lc2B (own := [("way", 7), ("pair", 9)]) (vs1 := [9]) rfl sc_closed_table.nd (pi_list (pv 1)) (blkOk_by (own := [("way", 7), ("pair", 9)]) (N := N_closed_table) (sc := defScope s_closed_table) (by decide +kernel)) (by decide) (fun _ _ _ _ _ => (pg_name (i := 7) sc_closed_table.nd rfl (by first | exact Or.inl rfl | exact Or.inr rfl))) (fun _ _ _ _ _ => pts_nil) (fun _ _ _ _ _ => (pi_list (pe_fld (pv 7) rfl))) (fun _ _ _ _ _ => (pg_name (i := 9) sc_closed_table.nd rfl (by first | exact Or.inl rfl | exact Or.inr rfl))) (fun _ _ _ _ _ => pts_nil) (fun _ _ _ _ _ => (pv 9))) (pe_callTy call_list_of (by rfl) T.b_list (by decide +kernel) (pa_cons (pv 2) pa_nil)))) (pg_tup rfl (pgs_cons (pg_name (i := 5) sc_closed_table.nd rfl (by first | exact Or.inl rfl | exact Or.inr rfl)) (pgs_cons (pg_name (i := 6) sc_closed_table.nd rfl (by first | exact Or.inl rfl | exact Or.inr rfl)) pgs_nil))) (pss_one (ps_expr (pe_meth (pv 4) T.cl_Closing T.mt_Closing_merge F_Closing_merge (hr.mono (by decide)) b_Closing_merge v_Closing_merge pass0 (pa_cons (pv 5) (pa_cons (pv 6) pa_nil))))))
 (pss_cons (ps_expr (pe_meth0 (pv 4) T.cl_Closing T.mt_Closing_close F_Closing_close (hr.mono (by decide)) b_Closing_close v_Closing_close pass0))
 (pss_cons (ps_if (pt_val (pe_callB (cr_any rfl) (by rfl) T.b_any (by decide +kernel) (pa_cons (pe_lc2B (own := [("way", 7), ("one", 5), ("other", 6)]) (vs1 := [5, 6]) rfl sc_closed_table.nd (pi_list (pv 1)) (blkOk_by (own := [("way", 7), ("one", 5), ("other", 6)]) (N := N_closed_table) (sc := defScope s_closed_table) (by decide +kernel)) (by decide) (fun _ _ _ _ _ => (pg_name (i := 7) sc_closed_table.nd rfl (by first | exact Or.inl rfl | exact Or.inr rfl))) (fun _ _ _ _ _ => pts_nil) (fun _ _ _ _ _ => (pi_list (pe_fld (pv 7) rfl))) (fun _ _ _ _ _ => (pg_tup rfl (pgs_cons (pg_name (i := 5) sc_closed_table.nd rfl (by first | exact Or.inl rfl | exact Or.inr rfl)) (pgs_cons (pg_name (i := 6) sc_closed_table.nd rfl (by first | exact Or.inl rfl | exact Or.inr rfl)) pgs_nil)))) (fun _ _ _ _ _ => pts_nil) (fun _ _ _ _ _ => (pe_meth (pv 4) T.cl_Closing T.mt_Closing_same F_Closing_same (hr.mono (by decide)) b_Closing_same v_Closing_same pass0 (pa_cons (pv 5) (pa_cons (pv 6) pa_nil))))) pa_nil))) (pss_one (ps_ret pe_non)) pss_nil)
 (pss_one (ps_ret (pv 4)))))))), ?_⟩
    have opl : ∀ i, (opsW (ws.take i)).length ≤ 100 * i := fun i => by
      induction i with
      | zero => exact Nat.le_refl _
      | succ i ih =>
        rw [List.take_add_one]
        unfold opsW
        rw [List.flatMap_append, List.length_append]
        have : (List.flatMap (fun w : Addr × WA × WS => w.2.2.1) (ws[i]?.toList)).length ≤ 100 := by
          cases e : ws[i]? with
          | none => exact Nat.zero_le _
          | some v =>
            show (v.2.2.1 ++ []).length ≤ 100
            rw [List.append_nil]
            exact (hop v (List.mem_of_getElem? e)).1
        unfold opsW at ih
        omega
    -- all operations
    refine ⟨_, rfl, wl, rfl, ⟨_, SqL.of hwl⟩, fun D hD => ?_⟩
    refine lc2_it (walk_list (xs := refW ws)) (fun i H' => ∃ os, H' = upd H D (.lst (refV os)) ∧ T3s H os (opsW (ws.take i))) ⟨[], rfl, rfl, fun i a o h => by cases h⟩ (fun i H' _ ⟨_, e, _⟩ => by rw [e]; exact SqL.of ((upd_ne (ne_of_none hwl hD)).trans hwl)) ?_ ?_
    · rintro i x H' H'' hi ⟨os, rfl, ho⟩ ⟨rfl, hx⟩
      rw [List.getElem?_map] at hx
      obtain ⟨v, hv, rfl⟩ := Option.map_eq_some_iff.mp hx
      have hvm := List.mem_of_getElem? hv
      have W := hws v hvm
      have tk : opsW (ws.take (i + 1)) = opsW (ws.take i) ++ v.2.2.1 := by
        unfold opsW
        rw [List.take_add_one, hv, List.flatMap_append]
        show _ ++ (v.2.2.1 ++ []) = _
        rw [List.append_nil]
      obtain ⟨vo, g1, g2⟩ := W.ops_
      have sD := same_new (o := .lst (refV os)) hD
      obtain ⟨dxv, hvo⟩ := W.obj
      have hi3 : i < 3 := by
        have : i < ws.length := (List.getElem?_eq_some_iff.mp hv).1
        omega
      have l1 := opl i
      have l2 := (hop v hvm).1
      refine ⟨rfl, _, rfl, v.1, _, dxv, _, _, rfl, sD _ _ hvo, T.cl_Way, T.na_Way_operations, fsWy_operations .., v.2.1.o, rfl, ⟨_, SqL.of (sD _ _ g1)⟩, ?_⟩
      refine lc_in (walk_list (xs := refV vo)) (fun j H' => H' = upd H D (.lst (refV (os ++ vo.take j)))) (by simp) (fun j H' _ e => by rw [e]; exact SqL.of ((upd_ne (ne_of_none g1 hD)).trans g1)) ?_ ?_
      · rintro j y H' H'' hj rfl ⟨rfl, hy⟩
        rw [List.getElem?_map] at hy
        obtain ⟨b, hb, rfl⟩ := Option.map_eq_some_iff.mp hy
        refine ⟨rfl, _, rfl, _, upd_same, sl2 ?_, ?_⟩
        · have e1 := ho.1
          have e2 := g2.1
          rw [List.length_map, List.length_append, List.length_take]
          omega
        · rw [upd_upd, List.take_add_one, hb]
          simp [refV]
      · rintro H' rfl
        refine ⟨os ++ vo, ?_, by rw [tk]; exact ho.app g2⟩
        rw [show (refV vo).length = vo.length from List.length_map .., List.take_length]
    rintro H1' ⟨os, rfl, ho⟩
    rw [show (refW ws).length = ws.length from List.length_map .., List.take_length] at ho
    have oll : (opsW ws).length ≤ 300 := by
      have := opl ws.length
      rw [List.take_length] at this
      omega
    have s1 := same_new (o := .lst (refV os)) hD
    have o1 : (upd H D (.lst (refV os))) D = some (.lst (refV os)) := upd_same
    have ho1 := ho.same s1
    generalize upd H D (.lst (refV os)) = H1 at s1 o1 ho1 ⊢
    -- the greatest size
    refine ⟨_, rfl, ?_⟩
    refine ⟨_, rfl, wl, rfl, ⟨_, SqL.of (s1 _ _ hwl)⟩, fun D2 hD2 => ?_⟩
    refine lc_list (K := K) (xs := refW ws) (fun i H' => H' = upd H1 D2 (.lst (natV ((ws.take i).map fun w => w.2.2.2.2)))) rfl (fun i H' _ e => by rw [e]; exact SqL.of ((upd_ne (ne_of_none (s1 _ _ hwl) hD2)).trans (s1 _ _ hwl))) ?_ ?_
    · rintro i x H' hx rfl
      rw [List.getElem?_map] at hx
      obtain ⟨v, hv, rfl⟩ := Option.map_eq_some_iff.mp hx
      have W := (hws v (List.mem_of_getElem? hv)).same (s1.trans (same_new (o := .lst (natV ((ws.take i).map fun w => w.2.2.2.2))) hD2))
      obtain ⟨dxv, hvo⟩ := W.obj
      refine ⟨rfl, _, rfl, v.1, _, dxv, _, _, rfl, hvo, T.cl_Way, T.na_Way_size, fsWy_size .., _, upd_same, sl2 (by rw [List.length_map, List.length_map, List.length_take]; omega), ?_⟩
      rw [upd_upd, List.take_add_one, hv]
      simp only [natV, List.map_append, Option.toList_some, List.map_cons, List.map_nil]
    rintro H2' rfl
    rw [show (refW ws).length = ws.length from List.length_map .., List.take_length]
    have s2 := s1.trans (same_new (o := .lst (natV (ws.map fun w => w.2.2.2.2))) hD2)
    have o2 := (upd_ne (o := .lst (natV (ws.map fun w => w.2.2.2.2))) (ne_of_none o1 hD2)).trans o1
    have ho2 := ho1.same (same_new (o := .lst (natV (ws.map fun w => w.2.2.2.2))) hD2)
    have m2 : (upd H1 D2 (.lst (natV (ws.map fun w => w.2.2.2.2)))) D2 = some (.lst (natV (ws.map fun w => w.2.2.2.2))) := upd_same
    generalize upd H1 D2 (.lst (natV (ws.map fun w => w.2.2.2.2))) = H2 at s2 o2 ho2 m2 ⊢
    refine ⟨D2, (ws.map fun w => w.2.2.2.2).map fun n : Nat => (n : Int), rfl, by rw [List.map_map]; exact SqL.of m2, by rw [List.length_map, List.length_map]; omega, fun m hm hmax => ?_⟩
    obtain ⟨N, hN, rfl⟩ := List.mem_map.mp hm
    have hmaxN : ∀ v ∈ ws, v.2.2.2.2 ≤ N := fun v hv => by
      have := hmax _ (List.mem_map.mpr ⟨_, List.mem_map.mpr ⟨v, hv, rfl⟩, rfl⟩)
      omega
    have N100 : N ≤ 100 := by
      obtain ⟨v, hv, rfl⟩ := List.mem_map.mp hN
      exact (hop v hv).2.1
    have opN : ∀ o ∈ opsW ws, ∀ p, p < 3 → nth o p < N := fun o ho p hp => by
      obtain ⟨v, hv, hov⟩ := List.mem_flatMap.mp ho
      exact Nat.lt_of_lt_of_le ((hop v hv).2.2 o hov p hp) (hmaxN v hv)
    have prN : ∀ a b, (a, b) ∈ pairs → a < N ∧ b < N := fun a b h => by
      obtain ⟨⟨v, hv, h1⟩, u, hu, h2⟩ := hpr a b h
      exact ⟨Nat.lt_of_lt_of_le h1 (hmaxN v hv), Nat.lt_of_lt_of_le h2 (hmaxN u hu)⟩
    refine ⟨_, rfl, fun x dx hx hdx hne => ?_⟩
    refine ⟨x, dx, k, D, N, os, opsW ws, L, calm, H2, rfl, hx, same_upd (same_new hdx) hx, upd_same, hk.same s2, o2, ho2, by omega, fun H3 c s3 C3 cb ct => ⟨rfl, ?_⟩⟩
    have s03 := s2.trans s3
    have cb0 := same_none s2 cb
    have ct0 := same_none s2 ct
    -- the pairs
    refine ⟨_, rfl, wl, rfl, ⟨_, SqL.of (s03 _ _ hwl)⟩, fun D3 hD3 => ?_⟩
    refine lc2_it (walk_list (xs := refW ws)) (fun i H' => H' = upd H3 D3 (.lst [])) rfl (fun i H' _ e => by rw [e]; exact SqL.of ((upd_ne (ne_of_none (s03 _ _ hwl) hD3)).trans (s03 _ _ hwl))) ?_ ?_
    · rintro i x H' H'' hi rfl ⟨rfl, hx⟩
      rw [List.getElem?_map] at hx
      obtain ⟨v, hv, rfl⟩ := Option.map_eq_some_iff.mp hx
      have W := (hws v (List.mem_of_getElem? hv)).same (s03.trans (same_new (o := .lst []) hD3))
      obtain ⟨dxv, hvo⟩ := W.obj
      refine ⟨rfl, _, rfl, v.1, _, dxv, _, _, rfl, hvo, T.cl_Way, T.na_Way_equals, fsWy_equals .., v.2.1.e, rfl, ⟨_, SqL.of W.eq_⟩, ?_⟩
      exact lc_in (walk_list (xs := [])) (fun j H' => H' = upd H3 D3 (.lst [])) rfl (fun j H' _ e => by rw [e]; exact SqL.of W.eq_) (fun j y H' H'' hj _ _ => absurd hj (Nat.not_lt_zero _)) fun H' e => e
    rintro H4' rfl
    have s4 := same_new (o := .lst []) hD3
    have e4 : (upd H3 D3 (.lst [])) D3 = some (.lst []) := upd_same
    have C4 := C3.same s4
    have s04 := s03.trans s4
    generalize upd H3 D3 (.lst []) = H4 at s4 e4 C4 s04 ⊢
    refine ⟨_, rfl, pl, refV ps, rfl, ?_, fun D4 hD4 => ?_⟩
    · rcases hpl with h | h
      · exact .inl (s04.sql h)
      · exact .inr (s04.tup h)
    refine ⟨D3, D4, [], refV ps, rfl, rfl, (upd_ne (ne_of_none e4 hD4)).trans e4, upd_same, sl1 (by rw [List.length_map]; show 0 + ps.length ≤ 100000; omega), fun D5 hD5 => ?_⟩
    rw [List.nil_append]
    have s5 := (same_new (o := .lst (refV ps)) hD4).trans (same_new (o := .lst (refV ps)) hD5)
    have e5 : (upd (upd H4 D4 (.lst (refV ps))) D5 (.lst (refV ps))) D5 = some (.lst (refV ps)) := upd_same
    have C5 := C4.same s5
    have s05 := s04.trans s5
    generalize upd (upd H4 D4 (.lst (refV ps))) D5 (.lst (refV ps)) = H5 at s5 e5 C5 s05 ⊢
    refine ⟨D5, rfl, ⟨_, SqL.of e5⟩, ?_⟩
    have nb5 : D5 ≠ c.b ∧ D5 ≠ c.t := by
      have z1 := C4.abv
      obtain ⟨tr, z2, _⟩ := C4.trl
      have n1 := same_none (same_new (o := .lst (refV ps)) hD4) hD5
      exact ⟨(ne_of_none z1 n1).symm, (ne_of_none z2 n1).symm⟩
    refine for_list (K := K) (xs := refV ps) (fun i σ H' => ∃ ab tl v5 v6 v7 v8 v9, σ = [some (.ref k), some (.ref wl), some (.ref pl), some (.ref D), some (.ref x), v5, v6, v7, v8, v9] ∧ Same H H' ∧ H' D5 = some (.lst (refV ps)) ∧ CloAt K H' x c L calm (opsW ws) ab tl ∧ Dn ab ∧ ab.length = N ∧ tl + ab.sum ≤ 10000 ∧ Snd (Eqv L calm (opsW ws) pairs) ab ∧
      ∀ (j : Nat) (p : Nat × Nat), j < i → pairs[j]? = some p → rt ab p.1 = rt ab p.2) ⟨List.range N, 0, _, _, _, _, _, rfl, s05, e5, C5, KM.range_dn _, List.length_range, ?_, fun y hy => ?_, fun j p h => absurd h (Nat.not_lt_zero _)⟩ (fun i σ H' _ ⟨_, _, _, _, _, _, _, _, _, h, _⟩ => SqL.of h) ?_ ?_
    · have := KM.range_sum N
      have : N * N ≤ 100 * 100 := Nat.mul_le_mul N100 N100
      omega
    · rw [KM.range_rt _ _ (by rw [List.length_range] at hy; exact hy)]
      exact .refl _
    · rintro i y σ H6 hy ⟨ab, tl, v5, v6, v7, v8, v9, rfl, s6, e6, C6, dn6, len6, bud6, snd6, don6⟩
      rw [List.getElem?_map] at hy
      obtain ⟨b, hb, rfl⟩ := Option.map_eq_some_iff.mp hy
      have hip : i < pairs.length := by
        rw [← hps.1]
        exact (List.getElem?_eq_some_iff.mp hb).1
      have hp := List.getElem?_eq_getElem hip
      have b6 := s6 _ _ (hps.2 i b _ hb hp)
      have pm : pairs[i] ∈ pairs := List.getElem_mem hip
      generalize pairs[i] = p at hp b6 pm
      obtain ⟨pa, pb⟩ := p
      obtain ⟨la, lb⟩ := prN pa pb pm
      have la' : pa < ab.length := by rw [len6]; exact la
      have lb' : pb < ab.length := by rw [len6]; exact lb
      obtain ⟨dxx, hxx⟩ := C6.obj
      refine ⟨b, _, rfl, SqT.of b6, rfl, _, _, rfl, _, _, rfl, rfl, ?_⟩
      refine ⟨_, rfl, x, dxx, _, rfl, hxx, fsCl_merge .., _, rfl, _, rfl, x, c, L, calm, opsW ws, ab, tl, pa, pb, rfl, C6, dn6, la', lb', ?_⟩
      have kp : Kp [c.b, c.t] H6 (upd H6 c.b (.lst (natV (mrg ab (rt ab pa) (rt ab pb))))) := kp_upd (Kp.refl _ _) (by simp)
      obtain ⟨tr, t1, t2⟩ := C6.trl
      have C7 := C6.kp (ab' := mrg ab (rt ab pa) (rt ab pb)) kp upd_same ((upd_ne (Ne.symm C6.bt)).trans t1)
      have r1 := (KM.rt_root dn6 la').1
      have r2 := (KM.rt_root dn6 lb').1
      have sm := (KM.mrg_sum r1 r2).1
      refine ⟨_, _, _, _, _, _, _, rfl, same_upd s6 cb0, (upd_ne nb5.1).trans e6, C7, KM.mrg_dn dn6, (KM.mrg_len ..).trans len6, by omega, Snd.mrg KM.eqv_equ dn6 snd6 la' lb' (.base pm), fun j p' hj hp' => ?_⟩
      by_cases e : j < i
      · obtain ⟨pa', pb'⟩ := p'
        obtain ⟨la2, lb2⟩ := prN pa' pb' (List.mem_of_getElem? hp')
        exact KM.mrg_mono dn6 r1 r2 (by rw [len6]; exact la2) (by rw [len6]; exact lb2) (don6 j _ e hp')
      · have e2 : j = i := by omega
        subst e2
        rw [hp] at hp'
        cases hp'
        exact KM.mrg_eq dn6 la' lb'
    · rintro σ H6 ⟨ab, tl, v5, v6, v7, v8, v9, rfl, s6, e6, C6, dn6, len6, bud6, snd6, don6⟩
      obtain ⟨dxx, hxx⟩ := C6.obj
      refine ⟨_, rfl, x, dxx, _, rfl, hxx, fsCl_close .., x, c, L, calm, opsW ws, pairs, ab, tl, N, rfl, C6, dn6, len6, by omega, snd6, fun a b h => ?_, opN, by omega, fun H7 ab7 tl7 kp7 C7 dn7 len7 eqv7 => ?_⟩
      · obtain ⟨h1, h2⟩ := prN a b h
        obtain ⟨j, hj, e⟩ := List.getElem_of_mem h
        exact ⟨h1, h2, don6 j (a, b) (by rw [List.length_map, hps.1]; exact hj) (by rw [List.getElem?_eq_getElem hj, e])⟩
      · have s7 : Same H H7 := fun b o h => by
          refine kp7 _ _ (s6 _ _ h) fun m => ?_
          rcases List.mem_cons.mp m with e | m
          · rw [e, cb0] at h
            cases h
          · have e : b = c.t := by simpa using m
            rw [e, ct0] at h
            cases h
        -- nothing unlike
        refine ⟨_, rfl, wl, rfl, ⟨_, SqL.of (s7 _ _ hwl)⟩, fun D6 hD6 => ?_⟩
        refine lc2_it (walk_list (xs := refW ws)) (fun i H' => H' = upd H7 D6 (.lst [])) rfl (fun i H' _ e => by rw [e]; exact SqL.of ((upd_ne (ne_of_none (s7 _ _ hwl) hD6)).trans (s7 _ _ hwl))) ?_ ?_
        · rintro i x H' H'' hi rfl ⟨rfl, hx⟩
          rw [List.getElem?_map] at hx
          obtain ⟨v, hv, rfl⟩ := Option.map_eq_some_iff.mp hx
          have W := (hws v (List.mem_of_getElem? hv)).same (s7.trans (same_new (o := .lst []) hD6))
          obtain ⟨dxv, hvo⟩ := W.obj
          refine ⟨rfl, _, rfl, v.1, _, dxv, _, _, rfl, hvo, T.cl_Way, T.na_Way_unlikes, fsWy_unlikes .., v.2.1.u, rfl, ⟨_, SqL.of W.un_⟩, ?_⟩
          exact lc_in (walk_list (xs := [])) (fun j H' => H' = upd H7 D6 (.lst [])) rfl (fun j H' _ e => by rw [e]; exact SqL.of W.un_) (fun j y H' H'' hj _ _ => absurd hj (Nat.not_lt_zero _)) fun H' e => e
        · rintro H8' rfl
          refine ⟨D6, [], rfl, SqL.of upd_same, false, rfl, iteF ?_⟩
          refine ⟨_, rfl, ?_⟩
          exact q _ x c ab7 tl7 (s7.trans (same_new hD6)) (C7.same (same_new hD6)) dn7 (fun v hv => by rw [len7]; exact hmaxN v hv) (by rw [len7]; exact eqv7)
end
end K8
end

section
set_option Elab.async false
set_option linter.all false
set_option maxRecDepth 100000
set_option maxHeartbeats 8000000
/-! surely_same, gives_back. -/
namespace K8
open PySem PySem.Spec PyProof.Rows L2
open KM (T3 nth rt Dn mrg Eqv Snd Got Fm Sg sz triN)
/-- all that a way names lies below its size -/
def RngW (w : WS) : Prop := (∀ o ∈ w.1, ∀ p, p < 3 → nth o p < w.2.2) ∧ ∀ e ∈ w.2.1, e < w.2.2
theorem getD_mem {l : List Nat} {i : Nat} (h : i < l.length) : l.getD i 0 ∈ l := by
  rw [List.getD_eq_getElem?_getD, List.getElem?_eq_getElem h]
  exact List.getElem_mem h
theorem mem_set {l : List Nat} {i v x : Nat} (h : x ∈ l.set i v) : x ∈ l ∨ x = v := List.mem_or_eq_of_mem_set h
theorem rng_take {w : WS} {s : Stp} (ok : s.ok) (l3 : 3 ≤ w.2.1.length) (h : RngW w) : RngW (takeW w s) := by
  cases s with
  | cp d s =>
    obtain ⟨k1, k2⟩ := ok
    refine ⟨h.1, fun e he => ?_⟩
    rcases mem_set he with m | m
    · exact h.2 e m
    · rw [m]
      exact h.2 _ (getD_mem (by omega))
  | op g d l r =>
    obtain ⟨k1, k2, k3⟩ := ok
    have el := h.2 _ (getD_mem (show l < w.2.1.length by omega))
    have er := h.2 _ (getD_mem (show r < w.2.1.length by omega))
    refine ⟨fun o ho p hp => ?_, fun e he => ?_⟩
    · rcases List.mem_append.mp ho with m | m
      · exact Nat.lt_succ_of_lt (h.1 o m p hp)
      · rw [List.mem_singleton.mp m]
        exact nth_triN_lt (N := w.2.2 + 1) (by omega) (by omega) (by omega) p hp
    · rcases mem_set he with m | m
      · exact Nat.lt_succ_of_lt (h.2 e m)
      · rw [m]
        exact Nat.lt_succ_self _
theorem rng_run {sts : List Stp} (ok : ∀ s ∈ sts, s.ok) : ∀ {w : WS}, 3 ≤ w.2.1.length → RngW w → RngW (runW w sts) := by
  induction sts with
  | nil => exact fun _ h => h
  | cons s r ih =>
    intro w l3 h
    exact ih (fun s m => ok s (List.mem_cons_of_mem _ m)) (by rw [(takeW_len w s).1]; exact l3) (rng_take (ok s List.mem_cons_self) l3 h)
section
variable {P : Program} {w : World} {K : PySem.W.Frag} {mg : Str → Option Value} {base : Heap}
abbrev aNo (K : PySem.W.Frag) : Addr := He.dflAt ("closed_table", none) 0 K
theorem ok_closed_table2 (T : Tx w K mg) : Ok P w K mg base 5 (a_closed_table K) ["kind", "ways", "pairs"] [.ref (aNo K)] (spClosed K) :=
  Ok.ofD (d := d_closed_table) 2 0 T.f_closed_table (fun z F => fn_closed_table T z F) (by intro e; cases e) rfl fun _ _ _ _ _ _ _ us its l1 l2 => match us, its, l1, l2 with | [_, _], [_], _, _ => ⟨_, rfl, rfl⟩
theorem ok_closed_table3 (T : Tx w K mg) : Ok P w K mg base 5 (a_closed_table K) ["kind", "ways", "pairs"] [] (spClosed K) :=
  Ok.ofD (d := d_closed_table) 3 1 T.f_closed_table (fun z F => fn_closed_table T z F) (by intro e; cases e) rfl fun _ _ _ _ _ _ _ us its l1 l2 => match us, its, l1, l2 with | [_, _, _], [_], _, _ => ⟨_, rfl, rfl⟩
def spWaysOf (K : PySem.W.Frag) : Sp := fun vs H Q _ => ∃ (p : Addr) (L : KM.Lot) (calm : Bool) (bx : List Str) (sts : List Stp), vs = [.ref p, .int (sts.length : Nat)] ∧ ScrOk K H p L calm bx sts ∧ bx.length = 3 ∧ (∀ s ∈ sts, s.ok) ∧ 1 ≤ sts.length ∧ sts.length ≤ 6 ∧
  ∀ H' l a c, Same H H' → H l = none → H' l = some (.lst [.ref a]) → WayAt K H' a c (runW ([], [0, 1, 2], 3) sts) → Q (.ref l) H'
abbrev N_ways_of : List Str := ["script", "row", "number", "rows"]
theorem sc_ways_of : FnScope N_ways_of ["script", "row"] (defScope s_ways_of) := ⟨rfl, rfl, rfl, by decide +kernel, rfl, by decide +kernel, by decide +kernel⟩
-- slots: 0 script, 1 row, 2 number, 3 rows
theorem ok_ways_of (T : Tx w K mg) : Ok P w K mg base 5 (a_ways_of K) ["script", "row"] [] (spWaysOf K) := by
  obtain ⟨_, _, F_rows_to, b_rows_to, v_rows_to, k_rows_to⟩ := ok_rows_to (P := P) (base := base) T
  obtain ⟨_, _, F_Way_init, b_Way_init, v_Way_init, k_Way_init⟩ := ok_Way_init (P := P) (base := base) T
  refine Ok.of T.f_ways_of (fun z F => okBody F sc_ways_of (fun vs H Q E h => ?_) fun cdv A outer s H vs Q E hr h => ?_) rfl fun _ _ _ _ _ _ us hl => match us, hl with | [_, _], _ => rfl
  · obtain ⟨p, L, calm, bx, sts, rfl, _⟩ := h
    rfl
  · obtain ⟨p, L, calm, bx, sts, rfl, ⟨sa, ast, ak, ab, ar, ⟨dx, hp⟩, hst, hat, hk, hb, hrw⟩, b3, hok, h1, h6, q⟩ := h
    refine ⟨_, (pss_cons (ps_set (i := 2) sc_ways_of.nd rfl (by first | exact Or.inl rfl | exact Or.inr rfl) (pe_callB call_len_seq (by rfl) T.b_len (by decide +kernel) (pa_cons (pe_fld (pv 0) rfl) pa_nil)))
 (pss_one (ps_ret (pe_lcB (own := [("rows", 3)]) rfl sc_ways_of.nd (pi_list (pe_call F_rows_to (hr.mono (by decide)) rfl T.g_rows_to k_rows_to b_rows_to v_rows_to pass0 (pa_cons (pe_fld (pv 0) rfl) (pa_cons (pv 1) pa_nil)))) (blkOk_by (own := [("rows", 3)]) (N := N_ways_of) (sc := defScope s_ways_of) (by decide +kernel)) (fun _ _ _ _ _ => (pg_name (i := 3) sc_ways_of.nd rfl (by first | exact Or.inl rfl | exact Or.inr rfl))) (fun _ _ _ _ _ => pts_nil) (fun _ _ _ _ _ => (pe_make T.mk_Way F_Way_init (hr.mono (by decide)) rfl T.g_Way b_Way_init v_Way_init pass0 (pa_cons (pe_fld (pv 0) rfl) (pa_cons (pv 3) (pa_cons (pv 1) (pa_cons (pe_listRg rfl (by rfl) T.b_list (prg_1 (by rfl) T.b_range (pv 2))) (pa_cons (pv 2) pa_nil))))))))))), ?_⟩
    have bl : (strV bx).length = 3 := by rw [List.length_map]; exact b3
    refine ⟨_, rfl, p, _, dx, _, _, rfl, hp, T.cl_Script, T.na_Script_boxes, fsScr_boxes .., ab, _, rfl, .inr hb.sq, ?_⟩
    rw [bl]
    refine ⟨_, rfl, p, _, dx, _, _, rfl, hp, T.cl_Script, T.na_Script_steps, fsScr_steps .., _, rfl, ast, sa, sts, sts.length, rfl, hst, hat, rfl, h1, h6, fun lr rr H1 s1 n1 e1 r1 => ?_⟩
    refine ⟨lr, rfl, ⟨_, SqL.of e1⟩, fun D hD => ?_⟩
    refine lc_list (K := K) (xs := [.ref rr]) (fun i H' => Same H1 H' ∧ (i = 0 → H' D = some (.lst [])) ∧ (i = 1 → ∃ a c, H' D = some (.lst [.ref a]) ∧ WayAt K H' a c (runW ([], [0, 1, 2], 3) sts))) ⟨same_new hD, fun _ => upd_same, fun e => by cases e⟩ (fun i H' _ h => SqL.of (h.1 _ _ e1)) ?_ ?_
    · rintro i x H2 hx ⟨s2, d2, _⟩
      have hi : i = 0 := by
        have := (List.getElem?_eq_some_iff.mp hx).1
        simp only [List.length_singleton] at this
        omega
      subst hi
      have ex : x = .ref rr := (Option.some.inj hx).symm
      subst ex
      have d2 := d2 rfl
      have s12 := s1.trans s2
      refine ⟨rfl, _, rfl, p, _, dx, _, _, rfl, s12 _ _ hp, T.cl_Script, T.na_Script_steps, fsScr_steps .., _, rfl, _, rfl, _, rfl, _, rfl, RgOk.of_le (by decide) (by decide) (by decide) (by decide), fun lt hlt => ?_⟩
      refine ⟨_, rfl, fun x dxw hx hdx hne => ?_⟩
      have et : (upd H2 lt (.lst (rgV 0 3))) lt = some (.lst (natV [0, 1, 2])) := upd_same
      have s3 := s12.trans (same_new (o := .lst (rgV 0 3)) hlt)
      have d3 := (upd_ne (o := .lst (rgV 0 3)) (ne_of_none d2 hlt)).trans d2
      have sD3 := s2.trans (same_new (o := .lst (rgV 0 3)) hlt)
      have et2 : (upd H2 lt (.lst (rgV 0 (3 : Nat)))) = upd H2 lt (.lst (rgV 0 3)) := rfl
      refine ⟨x, dxw, ast, rr, lt, sts.length, 3, sa, sts, [0, 1, 2], _, rfl, hx, same_upd (same_new hdx) hx, upd_same, s3 _ _ hst, hat.same s3, hok, sD3 _ _ r1, h1, h6, SqL.of et, by decide, by decide, fun H4 c s4 q1 q2 q3 q4 W4 => ⟨rfl, ?_⟩⟩
      have d4 := s4 _ _ d3
      refine ⟨[], d4, by show 0 < sizeLine; decide, same_upd (sD3.trans s4) hD, fun e => (by cases e), fun _ => ⟨x, c, upd_same, ?_⟩⟩
      exact W4.upd_lst d4 (ne_of_none d3 q1).symm (ne_of_none d3 q2).symm (ne_of_none d3 q3).symm (ne_of_none d3 q4).symm
    · rintro H2 ⟨s2, _, h2⟩
      obtain ⟨a, c, e2, W2⟩ := h2 rfl
      exact q H2 D a c (s1.trans s2) (same_none s1 hD) e2 W2
def endW (w : WS) (i : Nat) : Nat := w.2.1.getD i 0
def spSurely (K : PySem.W.Frag) : Sp := fun vs H Q _ => ∃ (p : Addr) (L : KM.Lot) (calm : Bool) (bx : List Str) (sts : List Stp) (i j : Nat), vs = [.ref p, .int (sts.length : Nat), .str (bxN bx i), .str (bxN bx j)] ∧ ScrOk K H p L calm bx sts ∧ BoxN bx ∧ i < 3 ∧ j < 3 ∧ (∀ s ∈ sts, s.ok) ∧ 1 ≤ sts.length ∧ sts.length ≤ 6 ∧
  ∀ H' r, Same H H' → (r = true ↔ Eqv L calm (runW ([], [0, 1, 2], 3) sts).1 [] (endW (runW ([], [0, 1, 2], 3) sts) i) (endW (runW ([], [0, 1, 2], 3) sts) j)) → Q (.bl r) H'
abbrev N_surely_same : List Str := ["script", "row", "one", "other", "mine", "yours", "way", "closing"]
theorem sc_surely_same : FnScope N_surely_same ["script", "row", "one", "other"] (defScope s_surely_same) := ⟨rfl, rfl, rfl, by decide +kernel, rfl, by decide +kernel, by decide +kernel⟩
-- slots: 0 script, 1 row, 2 one, 3 other, 4 mine, 5 yours, 6 way, 7 closing
theorem ok_surely_same (T : Tx w K mg) : Ok P w K mg base 7 (a_surely_same K) ["script", "row", "one", "other"] [] (spSurely K) := by
  obtain ⟨_, _, F_check_script, b_check_script, v_check_script, k_check_script⟩ := ok_check_script (P := P) (base := base) T
  obtain ⟨_, _, F_check_index, b_check_index, v_check_index, k_check_index⟩ := ok_check_index (P := P) (base := base) T
  obtain ⟨_, _, F_check_box, b_check_box, v_check_box, k_check_box⟩ := ok_check_box (P := P) (base := base) T
  obtain ⟨_, _, F_ways_of, b_ways_of, v_ways_of, k_ways_of⟩ := ok_ways_of (P := P) (base := base) T
  obtain ⟨_, _, F_closed_table2, b_closed_table2, v_closed_table2, k_closed_table2⟩ := ok_closed_table2 (P := P) (base := base) T
  obtain ⟨_, _, F_Closing_same, b_Closing_same, v_Closing_same, k_Closing_same⟩ := ok_Closing_same (P := P) (base := base) T
  refine Ok.of T.f_surely_same (fun z F => okBody F sc_surely_same (fun vs H Q E h => ?_) fun cdv A outer s H vs Q E hr h => ?_) rfl fun _ _ _ _ _ _ us hl => match us, hl with | [_, _, _, _], _ => rfl
  · obtain ⟨p, L, calm, bx, sts, i, j, rfl, _⟩ := h
    rfl
  · obtain ⟨p, L, calm, bx, sts, i, j, rfl, hsc, bn, hi, hj, hok, h1, h6, q⟩ := h
    have hsc0 := hsc
    obtain ⟨sa, ast, ak, ab, ar, ⟨dx, hp⟩, hst, hat, hk, hb, hrw⟩ := hsc
    refine ⟨_, (pss_cons (ps_expr (pe_call F_check_script (hr.mono (by decide)) rfl T.g_check_script k_check_script b_check_script v_check_script pass0 (pa_cons (pv 0) pa_nil)))
 (pss_cons (ps_expr (pe_call F_check_index (hr.mono (by decide)) rfl T.g_check_index k_check_index b_check_index v_check_index pass0 (pa_cons (pv 0) (pa_cons (pv 1) pa_nil))))
 (pss_cons (ps_expr (pe_call F_check_box (hr.mono (by decide)) rfl T.g_check_box k_check_box b_check_box v_check_box pass0 (pa_cons (pv 0) (pa_cons (pv 2) pa_nil))))
 (pss_cons (ps_expr (pe_call F_check_box (hr.mono (by decide)) rfl T.g_check_box k_check_box b_check_box v_check_box pass0 (pa_cons (pv 0) (pa_cons (pv 3) pa_nil))))
 (pss_cons (ps_par (i := 4) (j := 5) rfl sc_surely_same.nd rfl rfl (by decide) rfl rfl (pa_cons (pe_bmF PySem.F.plainAttrs_tuple PySem.F.slot_tuple_index PySem.F.type_tuple_index mt_tup_index (pe_fld (pv 0) rfl) (pa_cons (pv 2) pa_nil)) (pa_cons (pe_bmF PySem.F.plainAttrs_tuple PySem.F.slot_tuple_index PySem.F.type_tuple_index mt_tup_index (pe_fld (pv 0) rfl) (pa_cons (pv 3) pa_nil)) pa_nil)) (by rfl))
 (pss_cons (ps_for PassesOwn.never rfl (pi_list (pe_call F_ways_of (hr.mono (by decide)) rfl T.g_ways_of k_ways_of b_ways_of v_ways_of pass0 (pa_cons (pv 0) (pa_cons (pv 1) pa_nil)))) (pg_name (i := 6) sc_surely_same.nd rfl (by first | exact Or.inl rfl | exact Or.inr rfl)) (pss_cons (ps_set (i := 7) sc_surely_same.nd rfl (by first | exact Or.inl rfl | exact Or.inr rfl) (pe_call F_closed_table2 (hr.mono (by decide)) rfl T.g_closed_table k_closed_table2 b_closed_table2 v_closed_table2 pass0 (pa_cons (pe_fld (pv 0) rfl) (pa_cons (pe_lst (pa_cons (pv 6) pa_nil)) pa_nil))))
 (pss_one (ps_if (PW.pt (pw_and (pt_cmpR op_notN (pv 7) pe_non (nomark _)) (pw_and1 (pt_not (pt_val (pe_meth (pv 7) T.cl_Closing T.mt_Closing_same F_Closing_same (hr.mono (by decide)) b_Closing_same v_Closing_same pass0 (pa_cons (pe_ix ix_list (pe_fld (pv 6) rfl) (pv 4) (fun _ _ => rfl)) (pa_cons (pe_ix ix_list (pe_fld (pv 6) rfl) (pv 5) (fun _ _ => rfl)) pa_nil)))))))) (pss_one (ps_ret pe_bl)) pss_nil))))
 (pss_one (ps_ret pe_bl)))))))), ?_⟩
    refine ⟨_, rfl, p, dx, _, rfl, hp, ?_⟩
    refine ⟨_, rfl, _, rfl, p, ast, ak, ab, ar, _, _, rfl, ⟨dx, hp⟩, SqT.of hrw, by omega, by rw [List.length_map, List.length_map]; omega, ?_⟩
    refine ⟨_, rfl, _, rfl, p, ast, ak, ab, ar, _, bx, rfl, ⟨dx, hp⟩, hb.sq, (bn.mem hi).1, ?_⟩
    refine ⟨_, rfl, _, rfl, p, ast, ak, ab, ar, _, bx, rfl, ⟨dx, hp⟩, hb.sq, (bn.mem hj).1, ?_⟩
    refine ⟨_, rfl, p, _, dx, _, _, rfl, hp, T.cl_Script, T.na_Script_boxes, fsScr_boxes .., ⟨ab, _, rfl, hb⟩, _, rfl, ab, bx, bxN bx i, i, rfl, rfl, hb.sq, (bn.mem hi).2, fun m hm => bn.first hi hm, ?_⟩
    refine ⟨_, rfl, p, _, dx, _, _, rfl, hp, T.cl_Script, T.na_Script_boxes, fsScr_boxes .., ⟨ab, _, rfl, hb⟩, _, rfl, ab, bx, bxN bx j, j, rfl, rfl, hb.sq, (bn.mem hj).2, fun m hm => bn.first hj hm, _, _, rfl, ?_⟩
    refine ⟨_, rfl, _, rfl, p, L, calm, bx, sts, rfl, hsc0, bn.len, hok, h1, h6, fun H1 l a c s1 n1 e1 W1 => ?_⟩
    have rng := rng_run hok (w := ([], [0, 1, 2], 3)) (by decide) ⟨fun o h => (by cases h), fun e he => by
      have : e = 0 ∨ e = 1 ∨ e = 2 := by simpa using he
      show e < 3
      omega⟩
    obtain ⟨r1, r2, r3, r4⟩ := runW_len ([], [0, 1, 2], 3) sts
    have r1 : (runW ([], [0, 1, 2], 3) sts).2.1.length = 3 := r1
    generalize runW ([], [0, 1, 2], 3) sts = wr at *
    refine ⟨l, rfl, ⟨_, SqL.of e1⟩, ?_⟩
    refine for_list (K := K) (xs := [.ref a]) (fun t σ H' => (t = 0 → H' = H1 ∧ σ = [some (.ref p), some (.int (sts.length : Nat)), some (.str (bxN bx i)), some (.str (bxN bx j)), some (.int (i : Nat)), some (.int (j : Nat)), none, none]) ∧ (t = 1 → Same H H' ∧ Eqv L calm wr.1 [] (endW wr i) (endW wr j)) ∧ H' l = some (.lst [.ref a]))
      ⟨fun _ => ⟨rfl, rfl⟩, fun e => (by cases e), e1⟩ (fun t σ H' _ h => SqL.of h.2.2) ?_ ?_
    · rintro t x σ H' hx ⟨h0, _, _⟩
      have ht : t = 0 := by
        have := (List.getElem?_eq_some_iff.mp hx).1
        simp only [List.length_singleton] at this
        omega
      subst ht
      have ex : x = .ref a := (Option.some.inj hx).symm
      subst ex
      obtain ⟨rfl, rfl⟩ := h0 rfl
      refine ⟨_, rfl, p, _, dx, _, _, rfl, s1 _ _ hp, T.cl_Script, T.na_Script_kind, fsScr_kind .., _, rfl, by show 1 ≤ sizeLine; decide, fun wl hwl => ?_⟩
      have s2 := s1.trans (same_new (o := .lst [.ref a]) hwl)
      have W2 := W1.same (same_new (o := .lst [.ref a]) hwl)
      refine ⟨ak, wl, aNo K, L, calm, [(a, c, wr)], [], [], rfl, hk.same s2, upd_same, fun v hv => ?_, by show 1 ≤ 1; decide, by show 1 ≤ 3; decide, .inr (T.nopairs.1 _), ⟨rfl, fun i a p h => by cases h⟩, by decide, fun v hv => ?_, fun _ _ h => (by cases h), fun H3 x cc ab' tl s3 C3 dn3 len3 eqv3 => ?_⟩
      · rw [List.mem_singleton.mp hv]
        exact W2
      · rw [List.mem_singleton.mp hv]
        refine ⟨?_, ?_, rng.1⟩
        · show wr.1.length ≤ 100
          simp only [List.length_nil] at r2
          omega
        · show wr.2.2 ≤ 100
          have r4 : wr.2.2 ≤ 3 + sts.length := r4
          omega
      have W3 := W2.same s3
      obtain ⟨dxa, ha3⟩ := W3.obj
      obtain ⟨dxx, hx3⟩ := C3.obj
      have eo : opsW [(a, c, wr)] = wr.1 := by
        show wr.1 ++ [] = wr.1
        rw [List.append_nil]
      rw [eo] at C3 eqv3
      have ln := len3 (a, c, wr) (List.mem_singleton_self _)
      have ui : endW wr i < ab'.length := Nat.lt_of_lt_of_le (rng.2 _ (getD_mem (by omega))) ln
      have uj : endW wr j < ab'.length := Nat.lt_of_lt_of_le (rng.2 _ (getD_mem (by omega))) ln
      have e3 := s3 _ _ ((upd_ne (o := .lst [.ref a]) (ne_of_none e1 hwl)).trans e1)
      refine ⟨_, rfl, rfl, true, rfl, iteT ?_⟩
      refine ⟨_, rfl, x, dxx, _, rfl, hx3, fsCl_same .., ?_⟩
      refine ⟨_, rfl, a, _, dxa, _, _, rfl, ha3, T.cl_Way, T.na_Way_ends, fsWy_ends .., _, rfl, c.n, _, _, _, rfl, rfl, SqL.of W3.end_, natV_getD (by omega), ?_⟩
      refine ⟨_, rfl, a, _, dxa, _, _, rfl, ha3, T.cl_Way, T.na_Way_ends, fsWy_ends .., _, rfl, c.n, _, _, _, rfl, rfl, SqL.of W3.end_, natV_getD (by omega), ?_⟩
      refine ⟨x, cc, L, calm, wr.1, ab', tl, endW wr i, endW wr j, rfl, C3, dn3, ui, uj, _, rfl, iteB (fun hm => ?_) (fun hm => ?_)⟩
      · have hne : ¬ rt ab' (endW wr i) = rt ab' (endW wr j) := fun e => by simp [e] at hm
        exact q H3 false (s2.trans s3) ⟨fun e => (by cases e), fun e => absurd ((eqv3 _ _ ui uj).mpr e) hne⟩
      · have he : rt ab' (endW wr i) = rt ab' (endW wr j) := by simpa using hm
        exact ⟨fun e => (by cases e), fun _ => ⟨s2.trans s3, (eqv3 _ _ ui uj).mp he⟩, e3⟩
    · rintro σ H' ⟨_, h, _⟩
      obtain ⟨h1', h2'⟩ := h rfl
      exact q H' true h1' ⟨fun _ => h2', fun _ => rfl⟩
/-- the two runs side by side -/
abbrev wA (sts : List Stp) : WS := runW ([], [0, 1, 2], 6) sts
abbrev wB (sts : List Stp) : WS := runW ([], [3, 4, 5], (wA sts).2.2) sts
abbrev prs (sts : List Stp) (js : List Nat) : List (Nat × Nat) := js.map fun k => (endW (wA sts) k, endW (wB sts) k)
def spGives (K : PySem.W.Frag) : Sp := fun vs H Q _ => ∃ (p kt : Addr) (L : KM.Lot) (calm : Bool) (bx : List Str) (sts : List Stp) (i : Nat) (js : List Nat), vs = [.ref p, .ref kt, .str (bxN bx i)] ∧ ScrOk K H p L calm bx sts ∧ BoxN bx ∧ i < 3 ∧ H kt = some (.tup (strV (js.map (bxN bx)))) ∧ (∀ j ∈ js, j < 3) ∧ js.Nodup ∧ (∀ s ∈ sts, s.ok) ∧ 1 ≤ sts.length ∧ sts.length ≤ 6 ∧
  ∀ H' r, Same H H' → (r = true ↔ Eqv L calm ((wA sts).1 ++ (wB sts).1) (prs sts js) i (3 + i)) → Q (.bl r) H'
theorem nodup_map_bx {bx : List Str} (bn : BoxN bx) : ∀ {js : List Nat}, (∀ j ∈ js, j < 3) → js.Nodup → (js.map (bxN bx)).Nodup
  | [], _, _ => List.nodup_nil
  | j :: js, h, nd => by
    obtain ⟨n1, n2⟩ := List.nodup_cons.mp nd
    rw [List.map_cons, List.nodup_cons]
    refine ⟨fun m => ?_, nodup_map_bx bn (fun k hk => h k (List.mem_cons_of_mem _ hk)) n2⟩
    obtain ⟨k, hk, e⟩ := List.mem_map.mp m
    have lj := h j List.mem_cons_self
    have lk := h k (List.mem_cons_of_mem _ hk)
    obtain ⟨h1, e1⟩ := List.getElem?_eq_some_iff.mp (bn.mem lj).2
    obtain ⟨h2, e2⟩ := List.getElem?_eq_some_iff.mp (bn.mem lk).2
    have : k = j := (List.getElem_inj bn.nd).mp (e2.trans (e.trans e1.symm))
    exact n1 (by rw [← this]; exact hk)
theorem js_len {js : List Nat} (h : ∀ j ∈ js, j < 3) (nd : js.Nodup) : js.length ≤ 3 := nodup_le (m := [0, 1, 2]) nd fun j hj => by
  have := h j hj
  have : j = 0 ∨ j = 1 ∨ j = 2 := by omega
  simpa using this
abbrev N_gives_back : List Str := ["script", "kept", "wanted", "places", "number", "end", "at", "things", "rows", "way", "others", "mate", "closing", "name", "k"]
theorem sc_gives_back : FnScope N_gives_back ["script", "kept", "wanted"] (defScope s_gives_back) := ⟨rfl, rfl, rfl, by decide +kernel, rfl, by decide +kernel, by decide +kernel⟩
-- slots: 0 script, 1 kept, 2 wanted, 3 places, 4 number, 5 end, 6 at, 7 things, 8 rows, 9 way, 10 others, 11 mate, 12 closing, 13 name, 14 k
theorem ok_gives_back (T : Tx w K mg) : Ok P w K mg base 7 (a_gives_back K) ["script", "kept", "wanted"] [] (spGives K) := by
  obtain ⟨_, _, F_check_script, b_check_script, v_check_script, k_check_script⟩ := ok_check_script (P := P) (base := base) T
  obtain ⟨_, _, F_check_names3, b_check_names3, v_check_names3, k_check_names3⟩ := ok_check_names3 (P := P) (base := base) T
  obtain ⟨_, _, F_check_box, b_check_box, v_check_box, k_check_box⟩ := ok_check_box (P := P) (base := base) T
  obtain ⟨_, _, F_rows_to, b_rows_to, v_rows_to, k_rows_to⟩ := ok_rows_to (P := P) (base := base) T
  obtain ⟨_, _, F_Way_init, b_Way_init, v_Way_init, k_Way_init⟩ := ok_Way_init (P := P) (base := base) T
  obtain ⟨_, _, F_closed_table3, b_closed_table3, v_closed_table3, k_closed_table3⟩ := ok_closed_table3 (P := P) (base := base) T
  obtain ⟨_, _, F_Closing_same, b_Closing_same, v_Closing_same, k_Closing_same⟩ := ok_Closing_same (P := P) (base := base) T
  refine Ok.of T.f_gives_back (fun z F => okBody F sc_gives_back (fun vs H Q E h => ?_) fun cdv A outer s H vs Q E hr h => ?_) rfl fun _ _ _ _ _ _ us hl => match us, hl with | [_, _, _], _ => rfl
  · obtain ⟨p, kt, L, calm, bx, sts, i, js, rfl, _⟩ := h
    rfl
  · obtain ⟨p, kt, L, calm, bx, sts, i, js, rfl, hsc, bn, hi, hkt, hjs, njs, hok, h1, h6, q⟩ := h
    obtain ⟨sa, ast, ak, ab, ar, ⟨dx, hp⟩, hst, hat, hk, hb, hrw⟩ := hsc
    have jl := js_len hjs njs
    have bl : (strV bx).length = 3 := by rw [List.length_map]; exact bn.len
    refine ⟨_, (pss_cons (ps_expr (pe_call F_check_script (hr.mono (by decide)) rfl T.g_check_script k_check_script b_check_script v_check_script pass0 (pa_cons (pv 0) pa_nil)))
 (pss_cons (ps_expr (pe_call F_check_names3 (hr.mono (by decide)) rfl T.g_check_names k_check_names3 b_check_names3 v_check_names3 pass0 (pa_cons (pv 1) (pa_cons pe_non (pa_cons (pe_fld (pv 0) rfl) pa_nil)))))
 (pss_cons (ps_expr (pe_call F_check_box (hr.mono (by decide)) rfl T.g_check_box k_check_box b_check_box v_check_box pass0 (pa_cons (pv 0) (pa_cons (pv 2) pa_nil))))
 (pss_cons (ps_par3 (i := 3) (j := 4) (l := 5) rfl sc_gives_back.nd rfl rfl rfl (by decide) (by decide) (by decide) rfl rfl rfl (pa_cons (pe_lcB (own := [("name", 13)]) rfl sc_gives_back.nd (pi_tup (pv 1)) (blkOk_by (own := [("name", 13)]) (N := N_gives_back) (sc := defScope s_gives_back) (by decide +kernel)) (fun _ _ _ _ _ => (pg_name (i := 13) sc_gives_back.nd rfl (by first | exact Or.inl rfl | exact Or.inr rfl))) (fun _ _ _ _ _ => pts_nil) (fun _ _ _ _ _ => (pe_bmF PySem.F.plainAttrs_tuple PySem.F.slot_tuple_index PySem.F.type_tuple_index mt_tup_index (pe_fld (pv 0) rfl) (pa_cons (pv 13) pa_nil)))) (pa_cons (pe_callB call_len_seq (by rfl) T.b_len (by decide +kernel) (pa_cons (pe_fld (pv 0) rfl) pa_nil)) (pa_cons (pe_callB call_len_seq (by rfl) T.b_len (by decide +kernel) (pa_cons (pe_fld (pv 0) rfl) pa_nil)) pa_nil))) (by rfl))
 (pss_cons (ps_par (i := 6) (j := 7) rfl sc_gives_back.nd rfl rfl (by decide) rfl rfl (pa_cons (pe_bmF PySem.F.plainAttrs_tuple PySem.F.slot_tuple_index PySem.F.type_tuple_index mt_tup_index (pe_fld (pv 0) rfl) (pa_cons (pv 2) pa_nil)) (pa_cons (pe_listRg rfl (by rfl) T.b_list (prg_1 (by rfl) T.b_range (pe_op op_mul pe_int (pv 4)))) pa_nil)) (by rfl))
 (pss_cons (ps_for PassesOwn.never rfl (pi_list (pe_call F_rows_to (hr.mono (by decide)) rfl T.g_rows_to k_rows_to b_rows_to v_rows_to pass0 (pa_cons (pe_fld (pv 0) rfl) (pa_cons (pv 5) pa_nil)))) (pg_name (i := 8) sc_gives_back.nd rfl (by first | exact Or.inl rfl | exact Or.inr rfl)) (pss_cons (ps_set (i := 9) sc_gives_back.nd rfl (by first | exact Or.inl rfl | exact Or.inr rfl) (pe_make T.mk_Way F_Way_init (hr.mono (by decide)) rfl T.g_Way b_Way_init v_Way_init pass0 (pa_cons (pe_fld (pv 0) rfl) (pa_cons (pv 8) (pa_cons (pv 5) (pa_cons (pe_slice sl_list (pv 7) po_none (po_some (pv 4))) (pa_cons (pe_op op_mul pe_int (pv 4)) pa_nil)))))))
 (pss_one (ps_for PassesOwn.never rfl (pi_list (pe_call F_rows_to (hr.mono (by decide)) rfl T.g_rows_to k_rows_to b_rows_to v_rows_to pass0 (pa_cons (pe_fld (pv 0) rfl) (pa_cons (pv 5) pa_nil)))) (pg_name (i := 10) sc_gives_back.nd rfl (by first | exact Or.inl rfl | exact Or.inr rfl)) (pss_cons (ps_set (i := 11) sc_gives_back.nd rfl (by first | exact Or.inl rfl | exact Or.inr rfl) (pe_make T.mk_Way F_Way_init (hr.mono (by decide)) rfl T.g_Way b_Way_init v_Way_init pass0 (pa_cons (pe_fld (pv 0) rfl) (pa_cons (pv 10) (pa_cons (pv 5) (pa_cons (pe_slice sl_list (pv 7) (po_some (pv 4)) po_none) (pa_cons (pe_fld (pv 9) rfl) pa_nil)))))))
 (pss_cons (ps_set (i := 12) sc_gives_back.nd rfl (by first | exact Or.inl rfl | exact Or.inr rfl) (pe_call F_closed_table3 (hr.mono (by decide)) rfl T.g_closed_table k_closed_table3 b_closed_table3 v_closed_table3 pass0 (pa_cons (pe_fld (pv 0) rfl) (pa_cons (pe_lst (pa_cons (pv 9) (pa_cons (pv 11) pa_nil))) (pa_cons (pe_lcB (own := [("k", 14)]) rfl sc_gives_back.nd (pi_list (pv 3)) (blkOk_by (own := [("k", 14)]) (N := N_gives_back) (sc := defScope s_gives_back) (by decide +kernel)) (fun _ _ _ _ _ => (pg_name (i := 14) sc_gives_back.nd rfl (by first | exact Or.inl rfl | exact Or.inr rfl))) (fun _ _ _ _ _ => pts_nil) (fun _ _ _ _ _ => (pe_tup (pa_cons (pe_ix ix_list (pe_fld (pv 9) rfl) (pv 14) (fun _ _ => rfl)) (pa_cons (pe_ix ix_list (pe_fld (pv 11) rfl) (pv 14) (fun _ _ => rfl)) pa_nil))))) pa_nil)))))
 (pss_one (ps_if (PW.pt (pw_and (pt_cmpR op_notN (pv 12) pe_non (nomark _)) (pw_and1 (pt_not (pt_val (pe_meth (pv 12) T.cl_Closing T.mt_Closing_same F_Closing_same (hr.mono (by decide)) b_Closing_same v_Closing_same pass0 (pa_cons (pv 6) (pa_cons (pe_op op_add (pv 4) (pv 6)) pa_nil)))))))) (pss_one (ps_ret pe_bl)) pss_nil))))))))
 (pss_one (ps_ret pe_bl)))))))), ?_⟩
    refine ⟨_, rfl, p, dx, _, rfl, hp, ?_⟩
    refine ⟨_, rfl, _, rfl, p, _, dx, _, _, rfl, hp, T.cl_Script, T.na_Script_boxes, fsScr_boxes .., kt, js.map (bxN bx), .non, .ref ab, aBar K, rfl, .inl hkt, fun z hz => ?_, nodup_map_bx bn hjs njs, by rw [List.length_map]; omega, .inl rfl, .inr ⟨ab, bx, rfl, hb.sq, fun z hz => ?_⟩, T.barred.1, fun H1 s1 => ?_⟩
    · obtain ⟨j, hj, rfl⟩ := List.mem_map.mp hz
      exact bn.nam _ (bn.mem (hjs j hj)).1
    · obtain ⟨j, hj, rfl⟩ := List.mem_map.mp hz
      exact (bn.mem (hjs j hj)).1
    have p1 := s1 _ _ hp
    have b1 := hb.same s1
    refine ⟨_, rfl, _, rfl, p, ast, ak, ab, ar, _, bx, rfl, ⟨dx, p1⟩, b1.sq, (bn.mem hi).1, ?_⟩
    -- places, number, end
    have k1 := s1 _ _ hkt
    refine ⟨_, rfl, kt, rfl, ⟨_, SqT.of k1⟩, fun pl hpl => ?_⟩
    refine lc_tup (K := K) (xs := strV (js.map (bxN bx))) (fun t H' => H' = upd H1 pl (.lst (natV (js.take t)))) rfl (fun t H' _ e => by rw [e]; exact SqT.of ((upd_ne (ne_of_none k1 hpl)).trans k1)) ?_ ?_
    · rintro t x H' hx rfl
      rw [List.getElem?_map, List.getElem?_map] at hx
      obtain ⟨z, hz, rfl⟩ := Option.map_eq_some_iff.mp hx
      obtain ⟨n, hn, rfl⟩ := Option.map_eq_some_iff.mp hz
      have n3 := hjs n (List.mem_of_getElem? hn)
      have sN := same_new (o := .lst (natV (js.take t))) hpl
      refine ⟨rfl, _, rfl, p, _, dx, _, _, rfl, sN _ _ p1, T.cl_Script, T.na_Script_boxes, fsScr_boxes .., ⟨ab, _, rfl, b1.same sN⟩, _, rfl, ab, bx, bxN bx n, n, rfl, rfl, (b1.same sN).sq, (bn.mem n3).2, fun m hm => bn.first n3 hm, _, upd_same, sl2 (by rw [List.length_map, List.length_take]; omega), ?_⟩
      rw [upd_upd, List.take_add_one, hn]
      simp only [natV, List.map_append, Option.toList_some, List.map_cons, List.map_nil]
    rintro H2' rfl
    rw [show (strV (js.map (bxN bx))).length = js.length by rw [List.length_map, List.length_map], List.take_length]
    have s2 := s1.trans (same_new (o := .lst (natV js)) hpl)
    have l2 : (upd H1 pl (.lst (natV js))) pl = some (.lst (natV js)) := upd_same
    generalize upd H1 pl (.lst (natV js)) = H2 at s2 l2 ⊢
    have p2 := s2 _ _ hp
    have b2 := hb.same s2
    refine ⟨_, rfl, p, _, dx, _, _, rfl, p2, T.cl_Script, T.na_Script_boxes, fsScr_boxes .., ab, _, rfl, .inr b2.sq, ?_⟩
    refine ⟨_, rfl, p, _, dx, _, _, rfl, p2, T.cl_Script, T.na_Script_rows, fsScr_rows .., ar, _, rfl, .inr (SqT.of (s2 _ _ hrw)), _, _, _, rfl, ?_⟩
    rw [bl, show (strV (sts.map (rowT bx))).length = sts.length by rw [List.length_map, List.length_map]]
    -- at, things
    refine ⟨_, rfl, p, _, dx, _, _, rfl, p2, T.cl_Script, T.na_Script_boxes, fsScr_boxes .., ⟨ab, _, rfl, b2⟩, _, rfl, ab, bx, bxN bx i, i, rfl, rfl, b2.sq, (bn.mem hi).2, fun m hm => bn.first hi hm, ?_⟩
    refine ⟨_, rfl, _, _, rfl, rfl, .inl ⟨by decide, by decide⟩, _, rfl, RgOk.of_le (by decide) (by decide) (by decide) (by decide), fun th hth => ?_⟩
    refine ⟨_, _, rfl, ?_⟩
    have s3 := s2.trans (same_new (o := .lst (rgV 0 (2 * (3 : Nat)))) hth)
    have l3 := (upd_ne (o := .lst (rgV 0 (2 * (3 : Nat)))) (ne_of_none l2 hth)).trans l2
    have t3 : (upd H2 th (.lst (rgV 0 (2 * (3 : Nat))))) th = some (.lst (natV [0, 1, 2, 3, 4, 5])) := upd_same
    have hth0 := same_none s2 hth
    have eth : upd H2 th (.lst (rgV 0 (2 * ((3 : Nat) : Int)))) = upd H2 th (.lst (natV [0, 1, 2, 3, 4, 5])) := rfl
    generalize hH3 : upd H2 th (.lst (rgV 0 (2 * ((3 : Nat) : Int)))) = H3 at s3 l3 t3 ⊢
    have rngA := rng_run hok (w := ([], [0, 1, 2], 6)) (by decide) ⟨fun o h => (by cases h), fun e he => by
      have : e = 0 ∨ e = 1 ∨ e = 2 := by simpa using he
      show e < 6
      omega⟩
    obtain ⟨ra1, ra2, ra3, ra4⟩ := runW_len ([], [0, 1, 2], 6) sts
    have ra1 : (wA sts).2.1.length = 3 := ra1
    have ra3 : 6 ≤ (wA sts).2.2 := ra3
    have ra4 : (wA sts).2.2 ≤ 6 + sts.length := ra4
    have ra2 : (wA sts).1.length ≤ 0 + sts.length := ra2
    have rngB := rng_run hok (w := ([], [3, 4, 5], (wA sts).2.2)) (by show 3 ≤ 3; decide) ⟨fun o h => (by cases h), fun e he => by
      have : e = 3 ∨ e = 4 ∨ e = 5 := by simpa using he
      show e < (wA sts).2.2
      omega⟩
    obtain ⟨rb1, rb2, rb3, rb4⟩ := runW_len ([], [3, 4, 5], (wA sts).2.2) sts
    have rb1 : (wB sts).2.1.length = 3 := rb1
    have rb3 : (wA sts).2.2 ≤ (wB sts).2.2 := rb3
    have rb4 : (wB sts).2.2 ≤ (wA sts).2.2 + sts.length := rb4
    have rb2 : (wB sts).1.length ≤ 0 + sts.length := rb2
    -- the rows of the script, once
    have p3 := s3 _ _ hp
    refine ⟨_, rfl, p, _, dx, _, _, rfl, p3, T.cl_Script, T.na_Script_steps, fsScr_steps .., _, rfl, ast, sa, sts, sts.length, rfl, s3 _ _ hst, hat.same s3, rfl, h1, h6, fun lr rr H4 s4 n4 e4 r4 => ?_⟩
    have s04 := s3.trans s4
    refine ⟨lr, rfl, ⟨_, SqL.of e4⟩, ?_⟩
    refine for_list (K := K) (xs := [.ref rr]) (fun t σ H' => (t = 0 → H' = H4 ∧ σ = [some (.ref p), some (.ref kt), some (.str (bxN bx i)), some (.ref pl), some (.int ((3 : Nat) : Int)), some (.int (sts.length : Nat)), some (.int (i : Nat)), some (.ref th), none, none, none, none, none, none, none]) ∧ (t = 1 → Same H H' ∧ Eqv L calm ((wA sts).1 ++ (wB sts).1) (prs sts js) i (3 + i)) ∧ H' lr = some (.lst [.ref rr]))
      ⟨fun _ => ⟨rfl, rfl⟩, fun e => (by cases e), e4⟩ (fun t σ H' _ h => SqL.of h.2.2) ?_ ?_
    · rintro t x σ H' hx ⟨h0, _, _⟩
      have ht : t = 0 := by
        have := (List.getElem?_eq_some_iff.mp hx).1
        simp only [List.length_singleton] at this
        omega
      subst ht
      have ex : x = .ref rr := (Option.some.inj hx).symm
      subst ex
      obtain ⟨rfl, rfl⟩ := h0 rfl
      have p4 := s4 _ _ p3
      -- the way
      refine ⟨_, rfl, p, _, dx, _, _, rfl, p4, T.cl_Script, T.na_Script_steps, fsScr_steps .., _, rfl, _, rfl, ?_⟩
      refine ⟨_, rfl, _, rfl, _, rfl, th, _, rfl, SqL.of (s4 _ _ t3), fun ta hta => ?_⟩
      rw [show cutV (natV [0, 1, 2, 3, 4, 5]) none (some ((3 : Nat) : Int)) = natV [0, 1, 2] from rfl]
      have s5 := same_new (o := .lst (natV [0, 1, 2])) hta
      have ta5 : (upd H' ta (.lst (natV [0, 1, 2]))) ta = some (.lst (natV [0, 1, 2])) := upd_same
      have s05 := s04.trans s5
      generalize upd H' ta (.lst (natV [0, 1, 2])) = H5 at s5 ta5 s05 ⊢
      refine ⟨_, rfl, _, _, rfl, rfl, .inl ⟨by decide, by decide⟩, fun x dxw hx hdx hne => ?_⟩
      refine ⟨x, dxw, ast, rr, ta, _, 6, sa, sts, [0, 1, 2], H5, rfl, hx, same_upd (same_new hdx) hx, upd_same, s05 _ _ hst, hat.same s05, hok, s5 _ _ r4, h1, h6, SqL.of ta5, by decide, by decide, fun H6 c s6 _ _ _ _ W6 => ⟨rfl, ?_⟩⟩
      have s06 := s05.trans s6
      have p6 := s06 _ _ hp
      have s46 := s5.trans s6
      refine ⟨_, rfl, p, _, dx, _, _, rfl, p6, T.cl_Script, T.na_Script_steps, fsScr_steps .., _, rfl, ast, sa, sts, sts.length, rfl, s06 _ _ hst, hat.same s06, rfl, h1, h6, fun lr2 rr2 H7 s7 n7 e7 r7 => ?_⟩
      have s07 := s06.trans s7
      have W7 := W6.same s7
      refine ⟨lr2, rfl, ⟨_, SqL.of e7⟩, ?_⟩
      refine for_list (K := K) (xs := [.ref rr2]) (fun t σ H'' => (t = 0 → H'' = H7 ∧ σ = [some (.ref p), some (.ref kt), some (.str (bxN bx i)), some (.ref pl), some (.int ((3 : Nat) : Int)), some (.int (sts.length : Nat)), some (.int (i : Nat)), some (.ref th), some (.ref rr), some (.ref x), none, none, none, none, none]) ∧ (t = 1 → Same H' H'' ∧ Eqv L calm ((wA sts).1 ++ (wB sts).1) (prs sts js) i (3 + i)) ∧ H'' lr2 = some (.lst [.ref rr2]))
        ⟨fun _ => ⟨rfl, rfl⟩, fun e => (by cases e), e7⟩ (fun t σ H'' _ h => SqL.of h.2.2) ?_ ?_
      · rintro t y σ H'' hx ⟨h0, _, _⟩
        have ht : t = 0 := by
          have := (List.getElem?_eq_some_iff.mp hx).1
          simp only [List.length_singleton] at this
          omega
        subst ht
        have ex : y = .ref rr2 := (Option.some.inj hx).symm
        subst ex
        obtain ⟨rfl, rfl⟩ := h0 rfl
        have p7 := s07 _ _ hp
        obtain ⟨dxa, hxa⟩ := W7.obj
        refine ⟨_, rfl, p, _, dx, _, _, rfl, p7, T.cl_Script, T.na_Script_steps, fsScr_steps .., _, rfl, _, rfl, ?_⟩
        refine ⟨_, rfl, _, rfl, _, rfl, th, _, rfl, SqL.of ((s46.trans s7) _ _ (s4 _ _ t3)), fun tb htb => ?_⟩
        rw [show cutV (natV [0, 1, 2, 3, 4, 5]) (some ((3 : Nat) : Int)) none = natV [3, 4, 5] from rfl]
        have s8 := same_new (o := .lst (natV [3, 4, 5])) htb
        have tb8 : (upd H'' tb (.lst (natV [3, 4, 5]))) tb = some (.lst (natV [3, 4, 5])) := upd_same
        have s08 := s07.trans s8
        have W8 := W7.same s8
        have hxa8 := s8 _ _ hxa
        generalize upd H'' tb (.lst (natV [3, 4, 5])) = H8 at s8 tb8 s08 W8 hxa8 ⊢
        refine ⟨_, rfl, x, _, dxa, _, _, rfl, hxa8, T.cl_Way, T.na_Way_size, fsWy_size .., fun y dyw hy hdy hny => ?_⟩
        refine ⟨y, dyw, ast, rr2, tb, _, (wA sts).2.2, sa, sts, [3, 4, 5], H8, rfl, hy, same_upd (same_new hdy) hy, upd_same, s08 _ _ hst, hat.same s08, hok, s8 _ _ r7, h1, h6, SqL.of tb8, by decide, by decide, fun H9 c2 s9 _ _ _ _ W9 => ⟨rfl, ?_⟩⟩
        have s09 := s08.trans s9
        have WA9 := W8.same s9
        have p9 := s09 _ _ hp
        refine ⟨_, rfl, p, _, dx, _, _, rfl, p9, T.cl_Script, T.na_Script_kind, fsScr_kind .., ?_⟩
        refine ⟨_, rfl, _, rfl, by show 2 ≤ sizeLine; decide, fun wl hwl => ?_⟩
        have s10 := same_new (o := .lst [.ref x, .ref y]) hwl
        have w10 : (upd H9 wl (.lst [.ref x, .ref y])) wl = some (.lst [.ref x, .ref y]) := upd_same
        have s010 := s09.trans s10
        have WA10 := WA9.same s10
        have WB10 := W9.same s10
        have s410 : Same H' (upd H9 wl (.lst [.ref x, .ref y])) := s46.trans (s7.trans (s8.trans (s9.trans s10)))
        have e10 := s10 _ _ (s9 _ _ (s8 _ _ e7))
        generalize upd H9 wl (.lst [.ref x, .ref y]) = H10 at s10 w10 s010 WA10 WB10 s410 e10 ⊢
        have l10 := s410 _ _ (s4 _ _ l3)
        refine ⟨_, rfl, pl, rfl, ⟨_, SqL.of l10⟩, fun D hD => ?_⟩
        refine lc_list (K := K) (xs := natV js) (fun t H' => Same H10 H' ∧ ∃ ps : List Addr, H' D = some (.lst (refV ps)) ∧ ps.length = t ∧ ∀ (j : Nat) (a : Addr) (pr : Nat × Nat), ps[j]? = some a → (prs sts js)[j]? = some pr → H' a = some (.tup [.int (pr.1 : Nat), .int (pr.2 : Nat)]))
          ⟨same_new hD, [], upd_same, rfl, fun (j : Nat) (a : Addr) pr h => absurd (show ([] : List Addr)[j]? = some a from h) (by simp)⟩ (fun t H' _ h => SqL.of (h.1 _ _ l10)) ?_ ?_
        · rintro t z H11 hz ⟨s11, ps, hps, hpl2, hpp⟩
          rw [List.getElem?_map] at hz
          obtain ⟨n, hn, rfl⟩ := Option.map_eq_some_iff.mp hz
          have n3 := hjs n (List.mem_of_getElem? hn)
          have tj : t < js.length := (List.getElem?_eq_some_iff.mp hn).1
          have WA11 := WA10.same s11
          have WB11 := WB10.same s11
          obtain ⟨d1, g1⟩ := WA11.obj
          obtain ⟨d2, g2⟩ := WB11.obj
          refine ⟨rfl, _, rfl, x, _, d1, _, _, rfl, g1, T.cl_Way, T.na_Way_ends, fsWy_ends .., _, rfl, c.n, _, _, _, rfl, rfl, SqL.of WA11.end_, natV_getD (by rw [ra1]; exact n3), ?_⟩
          refine ⟨_, rfl, y, _, d2, _, _, rfl, g2, T.cl_Way, T.na_Way_ends, fsWy_ends .., _, rfl, c2.n, _, _, _, rfl, rfl, SqL.of WB11.end_, natV_getD (by rw [rb1]; exact n3), ?_⟩
          refine ⟨by show 2 ≤ sizeLine; decide, fun pt hpt => ?_⟩
          have nD : D ≠ pt := ne_of_none hps hpt
          refine ⟨_, (upd_ne nD).trans hps, sl2 (by rw [List.length_map]; omega), same_upd (same_upd s11 (same_none s11 hpt)) hD, ps ++ [pt], ?_, by simp [hpl2], fun j a pr hj hpr => ?_⟩
          · rw [upd_same]
            simp [refV]
          · by_cases e : j < ps.length
            · rw [List.getElem?_append_left e] at hj
              have z := hpp j a pr hj hpr
              rw [upd_ne (fun e => by rw [e, hps] at z; cases z), upd_ne (fun e => by rw [e, hpt] at z; cases z)]
              exact z
            · rw [List.getElem?_append_right (by omega)] at hj
              have e2 : j = ps.length := by
                rcases Nat.lt_or_ge (j - ps.length) 1 with h | h
                · omega
                · rw [List.getElem?_eq_none (by simpa using h)] at hj
                  cases hj
              subst e2
              have e3 : a = pt := by simpa using hj.symm
              subst e3
              rw [hpl2, List.getElem?_map, hn] at hpr
              cases hpr
              rw [upd_ne nD.symm, upd_same]
              rfl
        · rintro H11 ⟨s11, ps, hps, hpl2, hpp⟩
          have hpl3 : ps.length = js.length := hpl2.trans (List.length_map ..)
          refine ⟨ak, wl, D, L, calm, [(x, c, wA sts), (y, c2, wB sts)], ps, prs sts js, rfl, hk.same (s010.trans s11), s11 _ _ w10, fun v hv => ?_, by show 1 ≤ 2; decide, by show 2 ≤ 3; decide, .inl (SqL.of hps), ⟨by rw [hpl3, List.length_map], hpp⟩, by omega, fun v hv => ?_, fun a b hab => ?_, fun H12 z cc ab' tl s12 C12 dn12 len12 eqv12 => ?_⟩
          · rcases List.mem_cons.mp hv with e | hv
            · rw [e]
              exact WA10.same s11
            · rw [List.mem_singleton.mp hv]
              exact WB10.same s11
          · rcases List.mem_cons.mp hv with e | hv
            · rw [e]
              exact ⟨by show (wA sts).1.length ≤ 100; omega, by show (wA sts).2.2 ≤ 100; omega, rngA.1⟩
            · rw [List.mem_singleton.mp hv]
              exact ⟨by show (wB sts).1.length ≤ 100; omega, by show (wB sts).2.2 ≤ 100; omega, rngB.1⟩
          · obtain ⟨n, hn, e⟩ := List.mem_map.mp hab
            injection e with e1 e2
            have n3 := hjs n hn
            exact ⟨⟨_, List.mem_cons_self, by rw [← e1]; exact rngA.2 _ (getD_mem (by rw [ra1]; exact n3))⟩, ⟨_, List.mem_cons_of_mem _ (List.mem_singleton_self _), by rw [← e2]; exact rngB.2 _ (getD_mem (by rw [rb1]; exact n3))⟩⟩
          · obtain ⟨dxz, hz⟩ := C12.obj
            have eo : opsW [(x, c, wA sts), (y, c2, wB sts)] = (wA sts).1 ++ (wB sts).1 := by
              show (wA sts).1 ++ ((wB sts).1 ++ []) = _
              rw [List.append_nil]
            rw [eo] at C12 eqv12
            have ln : (wA sts).2.2 ≤ ab'.length := len12 (x, c, wA sts) List.mem_cons_self
            have ui : i < ab'.length := by omega
            have uj : 3 + i < ab'.length := by omega
            have s412 := s410.trans (s11.trans s12)
            refine ⟨_, rfl, rfl, true, rfl, iteT ?_⟩
            refine ⟨_, rfl, z, dxz, _, rfl, hz, fsCl_same .., _, rfl, _, rfl, _, rfl, _, _, rfl, rfl, ?_⟩
            refine ⟨z, cc, L, calm, (wA sts).1 ++ (wB sts).1, ab', tl, i, 3 + i, rfl, C12, dn12, ui, uj, _, rfl, iteB (fun hm => ?_) (fun hm => ?_)⟩
            · have hne : ¬ rt ab' i = rt ab' (3 + i) := fun e => by simp [e] at hm
              exact q H12 false (s04.trans s412) ⟨fun e => (by cases e), fun e => absurd ((eqv12 _ _ ui uj).mpr e) hne⟩
            · have he : rt ab' i = rt ab' (3 + i) := by simpa using hm
              exact ⟨fun e => (by cases e), fun _ => ⟨s412, (eqv12 _ _ ui uj).mp he⟩, s12 _ _ (s11 _ _ e10)⟩
      · rintro σ H'' ⟨_, h, _⟩
        obtain ⟨h1', h2'⟩ := h rfl
        exact ⟨fun e => (by cases e), fun _ => ⟨s04.trans h1', h2'⟩, h1' _ _ e4⟩
    · rintro σ H' ⟨_, h, _⟩
      obtain ⟨h1', h2'⟩ := h rfl
      exact q H' true h1' ⟨fun _ => h2', fun _ => rfl⟩
end
end K8
end

section
set_option Elab.async false
set_option linter.all false
set_option maxRecDepth 100000
set_option maxHeartbeats 4000000
/-! The plain law: ways and formulas. No program in sight. -/
namespace K8
open PySem
open KM (T3 nth Eqv Got Fm Sg sz triN Sys)
def heldT (h : List FmS) : Stp → List FmS
  | .cp d s => h.set d (h.getD s (.lt ""))
  | .op g d l r => h.set d (.op g (h.getD l (.lt "")) (h.getD r (.lt "")))
def heldR (h : List FmS) (sts : List Stp) : List FmS := sts.foldl heldT h
structure WInv (bx : List Str) (ths : List Nat) (k0 : Nat) (w : WS) (h : List FmS) (D : List Nat) (φ : Nat → FmS) : Prop where
  sys : Sys w.1 D φ
  hl : h.length = 3
  el : w.2.1.length = 3
  ends : ∀ i, i < 3 → endW w i ∈ D ∧ φ (endW w i) = h.getD i (.lt "")
  rng : ∀ c ∈ D, c ∈ ths ∨ (k0 ≤ c ∧ c < w.2.2)
  k0s : k0 ≤ w.2.2
  thk : ∀ c ∈ ths, c < k0
  uni : ∀ c ∈ D, ∀ d ∈ D, ∀ m, φ c = .lt m → φ d = .lt m → c = d
  ini : ∀ i, i < 3 → ths.getD i 0 ∈ D ∧ φ (ths.getD i 0) = .lt (bxN bx i)
theorem getD_set {α : Type} {l : List α} {d i : Nat} {v x : α} (hd : d < l.length) : (l.set d v).getD i x = if i = d then v else l.getD i x := by
  rw [List.getD_eq_getElem?_getD, List.getD_eq_getElem?_getD]
  by_cases e : i = d
  · subst e
    rw [List.getElem?_set_self hd, if_pos rfl]
    rfl
  · rw [List.getElem?_set_ne (Ne.symm e), if_neg e]
theorem WInv.step {bx : List Str} {ths : List Nat} {k0 : Nat} {w : WS} {h : List FmS} {D : List Nat} {φ : Nat → FmS} (I : WInv bx ths k0 w h D φ) {s : Stp} (ok : s.ok) : ∃ D' φ', WInv bx ths k0 (takeW w s) (heldT h s) D' φ' := by
  cases s with
  | cp d s =>
    obtain ⟨k1, k2⟩ := ok
    refine ⟨D, φ, I.sys, by rw [heldT, List.length_set]; exact I.hl, by rw [takeW, List.length_set]; exact I.el, fun i hi => ?_, I.rng, I.k0s, I.thk, I.uni, I.ini⟩
    show (w.2.1.set d (w.2.1.getD s 0)).getD i 0 ∈ D ∧ φ ((w.2.1.set d (w.2.1.getD s 0)).getD i 0) = (h.set d (h.getD s (.lt ""))).getD i (.lt "")
    rw [getD_set (by rw [I.el]; exact k1), getD_set (by rw [I.hl]; exact k1)]
    split
    · exact I.ends s k2
    · exact I.ends i hi
  | op g d l r =>
    obtain ⟨k1, k2, k3⟩ := ok
    have nD : w.2.2 ∉ D := fun m => by
      rcases I.rng _ m with q | q
      · have := I.thk _ q
        have := I.k0s
        omega
      · omega
    obtain ⟨l1, l2⟩ := I.ends l k2
    obtain ⟨r1, r2⟩ := I.ends r k3
    refine ⟨w.2.2 :: D, fun c => if c = w.2.2 then .op g (h.getD l (.lt "")) (h.getD r (.lt "")) else φ c, ?_⟩
    have old : ∀ {c}, c ∈ D → (if c = w.2.2 then Fm.op g (h.getD l (.lt "")) (h.getD r (.lt "")) else φ c) = φ c := fun {c} hc => if_neg fun e => nD (by rw [← e]; exact hc)
    refine ⟨⟨fun o ho => ?_, fun c hc => ?_⟩, by rw [heldT, List.length_set]; exact I.hl, by rw [takeW, List.length_set]; exact I.el, fun i hi => ?_, fun c hc => ?_, Nat.le_succ_of_le I.k0s, I.thk, fun c hc d' hd' m e1 e2 => ?_, fun i hi => ?_⟩
    · rcases List.mem_append.mp ho with q | q
      · obtain ⟨s, a, b, c, e, e2, ha, hb, hc⟩ := I.sys.made o q
        exact ⟨s, a, b, c, e, by rw [old ha, old hb, old hc]; exact e2, List.mem_cons_of_mem _ ha, List.mem_cons_of_mem _ hb, List.mem_cons_of_mem _ hc⟩
      · rw [List.mem_singleton.mp q]
        refine ⟨g, endW w l, endW w r, w.2.2, rfl, ?_, List.mem_cons_of_mem _ l1, List.mem_cons_of_mem _ r1, List.mem_cons_self⟩
        rw [if_pos rfl, old l1, old r1, l2, r2]
    · rcases List.mem_cons.mp hc with q | q
      · refine .inr ⟨g, endW w l, endW w r, by rw [q]; exact List.mem_append_right _ (List.mem_singleton_self _), ?_, List.mem_cons_of_mem _ l1, List.mem_cons_of_mem _ r1⟩
        rw [if_pos q, old l1, old r1, l2, r2]
      · rcases I.sys.by_ c q with ⟨m, e⟩ | ⟨s, a, b, ho, e, ha, hb⟩
        · exact .inl ⟨m, by rw [old q]; exact e⟩
        · exact .inr ⟨s, a, b, List.mem_append_left _ ho, by rw [old q, old ha, old hb]; exact e, List.mem_cons_of_mem _ ha, List.mem_cons_of_mem _ hb⟩
    · show (w.2.1.set d w.2.2).getD i 0 ∈ w.2.2 :: D ∧ (if (w.2.1.set d w.2.2).getD i 0 = w.2.2 then Fm.op g (h.getD l (.lt "")) (h.getD r (.lt "")) else φ ((w.2.1.set d w.2.2).getD i 0)) = (h.set d (.op g (h.getD l (.lt "")) (h.getD r (.lt "")))).getD i (.lt "")
      rw [getD_set (by rw [I.el]; exact k1), getD_set (by rw [I.hl]; exact k1)]
      by_cases e : i = d
      · rw [if_pos e, if_pos e, if_pos rfl]
        exact ⟨List.mem_cons_self, rfl⟩
      · rw [if_neg e, if_neg e]
        obtain ⟨i1, i2⟩ := I.ends i hi
        exact ⟨List.mem_cons_of_mem _ i1, by rw [show w.2.1.getD i 0 = endW w i from rfl, old i1]; exact i2⟩
    · rcases List.mem_cons.mp hc with q | q
      · exact .inr ⟨by rw [q]; exact I.k0s, by rw [q]; exact Nat.lt_succ_self _⟩
      · rcases I.rng c q with z | ⟨z1, z2⟩
        · exact .inl z
        · exact .inr ⟨z1, Nat.lt_succ_of_lt z2⟩
    · rcases List.mem_cons.mp hc with q | q
      · rw [if_pos q] at e1
        cases e1
      · rcases List.mem_cons.mp hd' with q' | q'
        · rw [if_pos q'] at e2
          cases e2
        · rw [old q] at e1
          rw [old q'] at e2
          exact I.uni c q d' q' m e1 e2
    · obtain ⟨i1, i2⟩ := I.ini i hi
      exact ⟨List.mem_cons_of_mem _ i1, by rw [old i1]; exact i2⟩
theorem WInv.run {bx : List Str} {ths : List Nat} {k0 : Nat} : ∀ {sts : List Stp} {w : WS} {h : List FmS} {D : List Nat} {φ : Nat → FmS}, WInv bx ths k0 w h D φ → (∀ s ∈ sts, s.ok) → ∃ D' φ', WInv bx ths k0 (runW w sts) (heldR h sts) D' φ'
  | [], w, h, D, φ, I, _ => ⟨D, φ, I⟩
  | s :: sts, w, h, D, φ, I, ok => by
    obtain ⟨D1, φ1, I1⟩ := I.step (ok s List.mem_cons_self)
    exact WInv.run (sts := sts) I1 fun t m => ok t (List.mem_cons_of_mem _ m)
abbrev held0 (bx : List Str) : List FmS := [.lt (bxN bx 0), .lt (bxN bx 1), .lt (bxN bx 2)]
/-- where a run begins -/
theorem WInv.init {bx : List Str} (bn : BoxN bx) {k0 a : Nat} (h : a + 3 ≤ k0) : ∃ D φ, WInv bx [a, a + 1, a + 2] k0 ([], [a, a + 1, a + 2], k0) (held0 bx) D φ := by
  refine ⟨[a, a + 1, a + 2], fun c => .lt (bxN bx (c - a)), ⟨fun o ho => (by cases ho), fun c hc => .inl ⟨_, rfl⟩⟩, rfl, rfl, fun i hi => ?_, fun c hc => .inl hc, Nat.le_refl _, fun c hc => ?_, fun c hc d hd m e1 e2 => ?_, fun i hi => ?_⟩
  · match i, hi with
    | 0, _ => exact ⟨by simp [endW], by simp [endW]⟩
    | 1, _ => exact ⟨by simp [endW], by simp [endW]⟩
    | 2, _ => exact ⟨by simp [endW], by simp [endW]⟩
  · have : c = a ∨ c = a + 1 ∨ c = a + 2 := by simpa using hc
    omega
  · have hc' : c = a ∨ c = a + 1 ∨ c = a + 2 := by simpa using hc
    have hd' : d = a ∨ d = a + 1 ∨ d = a + 2 := by simpa using hd
    have e : bxN bx (c - a) = bxN bx (d - a) := by
      injection e1 with e1
      injection e2 with e2
      rw [e1, e2]
    have lc : c - a < 3 := by omega
    have ld : d - a < 3 := by omega
    obtain ⟨h1, x1⟩ := List.getElem?_eq_some_iff.mp (bn.mem lc).2
    obtain ⟨h2, x2⟩ := List.getElem?_eq_some_iff.mp (bn.mem ld).2
    have := (List.getElem_inj bn.nd).mp (x1.trans (e.trans x2.symm))
    omega
  · match i, hi with
    | 0, _ => exact ⟨by simp, by simp⟩
    | 1, _ => exact ⟨by simp, by simp⟩
    | 2, _ => exact ⟨by simp, by simp⟩
/-- surely the same exactly if the formulas are alike -/
theorem law_same {L : KM.Lot} {calm : Bool} {bx : List Str} (bn : BoxN bx) {sts : List Stp} (ok : ∀ s ∈ sts, s.ok) {i j : Nat} (hi : i < 3) (hj : j < 3) {ops : List T3} {N : Nat} {φ : Nat → FmS} (sy : Sys ops (List.range N) φ) (inj : ∀ i, i < N → ∀ j, j < N → φ i = φ j → i = j)
    {a b : Nat} (ha : a < N) (hb : b < N) (ea : φ a = (heldR (held0 bx) sts).getD i (.lt "")) (eb : φ b = (heldR (held0 bx) sts).getD j (.lt "")) :
    Eqv L calm (runW ([], [0, 1, 2], 3) sts).1 [] (endW (runW ([], [0, 1, 2], 3) sts) i) (endW (runW ([], [0, 1, 2], 3) sts) j) ↔ Eqv L calm ops [] a b := by
  obtain ⟨D0, φ0, I0⟩ := WInv.init bn (k0 := 3) (a := 0) (Nat.le_refl _)
  obtain ⟨D, ψ, I⟩ := I0.run ok
  obtain ⟨i1, i2⟩ := I.ends i hi
  obtain ⟨j1, j2⟩ := I.ends j hj
  have uT : ∀ c ∈ List.range N, ∀ d ∈ List.range N, ∀ m, φ c = .lt m → φ d = .lt m → c = d := fun c hc d hd m e1 e2 => inj c (List.mem_range.mp hc) d (List.mem_range.mp hd) (e1.trans e2.symm)
  have ma := List.mem_range.mpr ha
  have mb := List.mem_range.mpr hb
  exact ⟨KM.two_sys I.sys sy uT i1 j1 ma mb (i2.trans ea.symm) (j2.trans eb.symm), KM.two_sys sy I.sys I.uni ma mb i1 j1 (ea.trans i2.symm) (eb.trans j2.symm)⟩
/-- given back exactly if the formulas tell the letter -/
theorem law_back {L : KM.Lot} {calm : Bool} {bx : List Str} (bn : BoxN bx) {sts : List Stp} (ok : ∀ s ∈ sts, s.ok) {i : Nat} (hi : i < 3) {js : List Nat} (hjs : ∀ j ∈ js, j < 3) {ops : List T3} {N : Nat} {φ : Nat → FmS} (sy : Sys ops (List.range N) φ) (inj : ∀ i, i < N → ∀ j, j < N → φ i = φ j → i = j)
    {ths : List Nat} (hth : ∀ t, t ∈ ths ↔ t < N ∧ ∃ F ∈ js.map (fun j => (heldR (held0 bx) sts).getD j (.lt "")), φ t = F) (hex : ∀ F ∈ js.map (fun j => (heldR (held0 bx) sts).getD j (.lt "")), ∃ t, t < N ∧ φ t = F) {a : Nat} (ha : a < N) (ea : φ a = .lt (bxN bx i)) :
    Eqv L calm ((wA sts).1 ++ (wB sts).1) (prs sts js) i (3 + i) ↔ Got L calm ops [] (· ∈ ths) a := by
  obtain ⟨DA0, φA0, IA0⟩ := WInv.init bn (k0 := 6) (a := 0) (by decide)
  obtain ⟨DA, φA, IA⟩ := IA0.run ok
  have IA : WInv bx [0, 1, 2] 6 (wA sts) (heldR (held0 bx) sts) DA φA := IA
  have h6 := IA.k0s
  obtain ⟨DB0, φB0, IB0⟩ := WInv.init bn (k0 := (wA sts).2.2) (a := 3) h6
  obtain ⟨DB, φB, IB⟩ := IB0.run ok
  have IB : WInv bx [3, 4, 5] (wA sts).2.2 (wB sts) (heldR (held0 bx) sts) DB φB := IB
  have uT : ∀ c ∈ List.range N, ∀ d ∈ List.range N, ∀ m, φ c = .lt m → φ d = .lt m → c = d := fun c hc d hd m e1 e2 => inj c (List.mem_range.mp hc) d (List.mem_range.mp hd) (e1.trans e2.symm)
  have iA := IA.ini i hi
  have iB := IB.ini i hi
  have gA : ([0, 1, 2] : List Nat).getD i 0 = i := by
    match i, hi with
    | 0, _ => rfl
    | 1, _ => rfl
    | 2, _ => rfl
  have gB : ([3, 4, 5] : List Nat).getD i 0 = 3 + i := by
    match i, hi with
    | 0, _ => rfl
    | 1, _ => rfl
    | 2, _ => rfl
  rw [gA] at iA
  rw [gB] at iB
  refine KM.back_told sy uT IA.sys IA.uni IB.sys IB.uni (fun c h1 h2 => ?_) (fun x y hxy => ?_) (fun t ht => ?_) iA.1 iB.1 (List.mem_range.mpr ha) (iA.2.trans ea.symm) (iB.2.trans ea.symm)
  · rcases IA.rng c h1 with q | ⟨q1, q2⟩
    · have q3 : c < 3 := by
        have : c = 0 ∨ c = 1 ∨ c = 2 := by simpa using q
        omega
      rcases IB.rng c h2 with z | ⟨z1, z2⟩
      · have : c = 3 ∨ c = 4 ∨ c = 5 := by simpa using z
        omega
      · omega
    · rcases IB.rng c h2 with z | ⟨z1, z2⟩
      · have : c = 3 ∨ c = 4 ∨ c = 5 := by simpa using z
        omega
      · omega
  · obtain ⟨k, hk, e⟩ := List.mem_map.mp hxy
    injection e with e1 e2
    have k3 := hjs k hk
    obtain ⟨a1, a2⟩ := IA.ends k k3
    obtain ⟨b1, b2⟩ := IB.ends k k3
    have mF : (heldR (held0 bx) sts).getD k (.lt "") ∈ js.map (fun j => (heldR (held0 bx) sts).getD j (.lt "")) := List.mem_map.mpr ⟨k, hk, rfl⟩
    obtain ⟨t, t1, t2⟩ := hex _ mF
    rw [← e1, ← e2]
    exact ⟨a1, b1, t, List.mem_range.mpr t1, (hth t).mpr ⟨t1, _, mF, t2⟩, a2.trans t2.symm, b2.trans t2.symm⟩
  · obtain ⟨t1, F, hF, t2⟩ := (hth t).mp ht
    obtain ⟨k, hk, rfl⟩ := List.mem_map.mp hF
    have k3 := hjs k hk
    exact ⟨List.mem_range.mpr t1, endW (wA sts) k, endW (wB sts) k, List.mem_map.mpr ⟨k, hk, rfl⟩, (IA.ends k k3).2.trans t2.symm, (IB.ends k k3).2.trans t2.symm⟩
end K8
end

section
set_option Elab.async false
set_option linter.all false
set_option maxRecDepth 100000
set_option maxHeartbeats 8000000
/-! The law's own helpers: purses, draws, forms. -/
namespace K8
open PySem PySem.Spec PyProof.Rows L2
open KM (T3 nth rt Dn mrg Eqv Snd Got Fm Sg sz triN)
theorem tif_cut' {t : TT} {ta tb : TE} {σ : L2.St} {H : Hp} {Q : VK} (Pv : V → Prop) (H' : Hp) (k : ∀ v, Pv v → Q v H') (h : (∀ v, Pv v → Q v H') → tIf t ta tb σ H Q) : tIf t ta tb σ H Q := h k
def PurAt (H : Hp) (a : Addr) : Prop := ∃ o m c : Int, H a = some (.lst [.int o, .int m, .int c]) ∧ 0 ≤ o
section
variable {P : Program} {w : World} {K : PySem.W.Frag} {mg : Str → Option Value} {base : Heap}
def spPick : Sp := fun vs H Q _ => ∃ (a : Addr) (n : Nat), vs = [.ref a, .int (n : Nat)] ∧ PurAt H a ∧ 1 ≤ n ∧ n ≤ 1000 ∧ ∀ H' d, Kp [a] H H' → PurAt H' a → d < n → Q (.int (d : Nat)) H'
abbrev N_law_pick : List Str := ["_law_purse_here", "_law_length", "_law_seed", "_law_again", "_law_digit"]
theorem sc_law_pick : FnScope N_law_pick ["_law_purse_here", "_law_length"] (defScope s_law_pick) := ⟨rfl, rfl, rfl, by decide +kernel, rfl, by decide +kernel, by decide +kernel⟩
-- slots: 0 _law_purse_here, 1 _law_length, 2 _law_seed, 3 _law_again, 4 _law_digit
theorem ok_law_pick (T : Tx w K mg) : Ok P w K mg base 1 (a_law_pick K) ["_law_purse_here", "_law_length"] [] spPick := by
  refine Ok.of T.f_law_pick (fun z F => okBody F sc_law_pick (fun vs H Q E h => ?_) fun cdv A outer s H vs Q E hr h => ?_) rfl fun _ _ _ _ _ _ us hl => match us, hl with | [_, _], _ => rfl
  · obtain ⟨a, n, rfl, _⟩ := h
    rfl
  · obtain ⟨a, n, rfl, ⟨o, m, c, ha, ho⟩, h1, h2, q⟩ := h
    refine ⟨_, (pss_cons (ps_asg (pe_op op_add (pe_ix ix_list (pv 0) pe_int (fun _ _ => rfl)) pe_int) (pg_sub (pv 0) pe_int set_list))
 (pss_cons (ps_set (i := 2) sc_law_pick.nd rfl (by first | exact Or.inl rfl | exact Or.inr rfl) (pe_callTy call_int1 (by rfl) T.b_int (by decide +kernel) (pa_cons (pe_ix ix_list (pv 0) pe_int (fun _ _ => rfl)) pa_nil)))
 (pss_cons (ps_set (i := 3) sc_law_pick.nd rfl (by first | exact Or.inl rfl | exact Or.inr rfl) (pe_op op_mul (pe_op op_add (pe_op op_mod (pe_callTy call_int1 (by rfl) T.b_int (by decide +kernel) (pa_cons (pv 2) pa_nil)) pe_int) pe_int) (pe_op op_add (pe_op op_fdiv (pv 2) pe_int) pe_int)))
 (pss_cons (ps_asg (pe_op op_mod (pe_callTy call_int1 (by rfl) T.b_int (by decide +kernel) (pa_cons (pe_op op_add (pv 3) (pe_op op_mul (pe_ix ix_list (pv 0) pe_int (fun _ _ => rfl)) pe_int)) pa_nil)) pe_int) (pg_sub (pv 0) pe_int set_list))
 (pss_cons (ps_if (pt_cmpR op_gt (pe_ix ix_list (pv 0) pe_int (fun _ _ => rfl)) pe_int (nomark _)) (pss_cons (ps_asg (pe_callB call_divmod (by rfl) T.b_divmod (by decide +kernel) (pa_cons (pe_ix ix_list (pv 0) pe_int (fun _ _ => rfl)) (pa_cons (pv 1) pa_nil))) (pg_tup rfl (pgs_cons (pg_sub (pv 0) pe_int set_list) (pgs_cons (pg_name (i := 4) sc_law_pick.nd rfl (by first | exact Or.inl rfl | exact Or.inr rfl)) pgs_nil))))
 (pss_one (ps_ret (pv 4)))) pss_nil)
 (pss_one (ps_ret (pe_op op_mod (pe_callTy call_int1 (by rfl) T.b_int (by decide +kernel) (pa_cons (pe_op op_fdiv (pe_ix ix_list (pv 0) pe_int (fun _ _ => rfl)) pe_int) pa_nil)) (pv 1))))))))), ?_⟩
    refine ⟨_, rfl, a, _, _, _, rfl, rfl, SqL.of ha, atI_nat (j := 2) rfl, _, _, rfl, rfl, ?_⟩
    refine ⟨_, rfl, a, _, _, 2, rfl, rfl, ha, rfl, ?_⟩
    have k1 : Kp [a] H (upd H a (.lst [.int o, .int m, .int (c + 1)])) := kp_upd (Kp.refl _ _) (by simp)
    have a1 : (upd H a (.lst [.int o, .int m, .int (c + 1)])) a = some (.lst [.int o, .int m, .int (c + 1)]) := upd_same
    rw [show ([V.int o, .int m, .int c].set 2 (.int (c + 1))) = [V.int o, .int m, .int (c + 1)] from rfl]
    generalize upd H a (.lst [.int o, .int m, .int (c + 1)]) = H1 at k1 a1 ⊢
    refine ⟨_, rfl, a, _, _, _, rfl, rfl, SqL.of a1, atI_nat (j := 1) rfl, .inl ⟨_, rfl, ?_⟩⟩
    refine ⟨_, rfl, .inl ⟨_, rfl, _, _, rfl, rfl, (show (0 : Int) < 65521 by decide), _, _, rfl, rfl, ?_⟩⟩
    refine ⟨_, rfl, _, _, rfl, rfl, ⟨by decide, by decide⟩, _, _, rfl, rfl, _, _, rfl, rfl, .inl ⟨by omega, by omega⟩, ?_⟩
    dsimp only [gName]
    refine seq_cut (t := tAsg _ _) (fun σ H' => ∃ (g m' : Int), H' = upd H1 a (.lst [.int o, .int m', .int (c + 1)]) ∧ σ = [some (.ref a), some (.int (n : Nat)), some (.int m), some (.int g), none]) ?_ (fun key => ?_)
    rotate_left
    · refine ⟨_, rfl, _, rfl, a, _, _, _, rfl, rfl, SqL.of a1, atI_nat (j := 2) rfl, _, _, rfl, rfl, .inr ⟨by decide, by decide⟩, _, _, rfl, rfl, .inl ⟨_, rfl, _, _, rfl, rfl, (show (0 : Int) < 2147483629 by decide), ?_⟩⟩
      refine ⟨_, rfl, a, _, _, 1, rfl, rfl, a1, rfl, ?_⟩
      exact key _ _ ⟨_, _, rfl, rfl⟩
    rintro σ H2 ⟨g, m', rfl, rfl⟩
    have k2 : Kp [a] H (upd H1 a (.lst [.int o, .int m', .int (c + 1)])) := kp_upd k1 (by simp)
    have a2 : (upd H1 a (.lst [.int o, .int m', .int (c + 1)])) a = some (.lst [.int o, .int m', .int (c + 1)]) := upd_same
    generalize upd H1 a (.lst [.int o, .int m', .int (c + 1)]) = H2 at k2 a2 ⊢
    have hn : (0 : Int) < (n : Int) := by omega
    refine ⟨_, rfl, a, _, _, _, rfl, rfl, SqL.of a2, atI_nat (j := 0) rfl, _, _, rfl, rfl, _, rfl, iteB (fun hb => ?_) (fun hb => ?_)⟩
    · refine ⟨_, rfl, a, _, _, _, rfl, rfl, SqL.of a2, atI_nat (j := 0) rfl, _, rfl, _, _, rfl, ⟨hn, by omega⟩, fun p hp => ?_⟩
      have n1 : a ≠ p := ne_of_none a2 hp
      refine ⟨p, _, rfl, SqT.of upd_same, rfl, _, _, rfl, _, rfl, a, _, _, 0, rfl, rfl, (upd_ne n1).trans a2, rfl, _, _, rfl, rfl, _, rfl, ?_⟩
      have l1 := Int.emod_nonneg o (show (n : Int) ≠ 0 by omega)
      have l2 := Int.emod_lt_of_pos o hn
      have e : o % (n : Int) = (((o % (n : Int)).toNat : Nat) : Int) := (Int.toNat_of_nonneg l1).symm
      rw [e]
      exact q _ _ (kp_upd (k2.trans (same_new hp).kp) (by simp)) ⟨_, _, _, upd_same, Int.ediv_nonneg ho (by omega)⟩ (by omega)
    · refine ⟨_, rfl, a, _, _, _, rfl, rfl, SqL.of a2, atI_nat (j := 1) rfl, _, _, rfl, rfl, ⟨by decide, by decide⟩, .inl ⟨_, rfl, _, rfl, _, _, rfl, rfl, hn, ?_⟩⟩
      have l1 := Int.emod_nonneg (m' / 61) (show (n : Int) ≠ 0 by omega)
      have l2 := Int.emod_lt_of_pos (m' / 61) hn
      have e : (m' / 61) % (n : Int) = ((((m' / 61) % (n : Int)).toNat : Nat) : Int) := (Int.toNat_of_nonneg l1).symm
      exact ans (Q := Q) (congrArg V.int e) (q _ _ k2 ⟨_, _, _, a2, ho⟩ (by omega))
def spPurse (K : PySem.W.Frag) : Sp := fun vs H Q _ => ∃ (a : Addr) (xs : List Int) (i : Nat), vs = [.ref a, .int (i : Nat)] ∧ SqL K H a (xs.map V.int) ∧ xs.length ≤ 63 ∧ i ≤ 3 ∧ ∀ H' p, Same H H' → H p = none → PurAt H' p → Q (.ref p) H'
abbrev N_law_purse : List Str := ["_law_script", "_law_spot", "_law_own", "_law_mixed", "_law_cell"]
theorem sc_law_purse : FnScope N_law_purse ["_law_script", "_law_spot"] (defScope s_law_purse) := ⟨rfl, rfl, rfl, by decide +kernel, rfl, by decide +kernel, by decide +kernel⟩
-- slots: 0 _law_script, 1 _law_spot, 2 _law_own, 3 _law_mixed, 4 _law_cell
theorem ok_law_purse (T : Tx w K mg) : Ok P w K mg base 1 (a_law_purse K) ["_law_script", "_law_spot"] [] (spPurse K) := by
  refine Ok.of T.f_law_purse (fun z F => okBody F sc_law_purse (fun vs H Q E h => ?_) fun cdv A outer s H vs Q E hr h => ?_) rfl fun _ _ _ _ _ _ us hl => match us, hl with | [_, _], _ => rfl
  · obtain ⟨a, xs, i, rfl, _⟩ := h
    rfl
  · obtain ⟨a, xs, i, rfl, ha, h63, hi, q⟩ := h
    refine ⟨_, (pss_cons (ps_set (i := 2) sc_law_purse.nd rfl (by first | exact Or.inl rfl | exact Or.inr rfl) (pe_ifExp (pt_cmpR op_lt (pv 1) (pe_callB call_len_seq (by rfl) T.b_len (by decide +kernel) (pa_cons (pv 0) pa_nil)) (nomark _)) (pe_ix ix_list (pv 0) (pv 1) (fun _ _ => rfl)) pe_int))
 (pss_cons (ps_set (i := 3) sc_law_purse.nd rfl (by first | exact Or.inl rfl | exact Or.inr rfl) (pe_op op_add pe_int (pe_op op_mul pe_int (pv 1))))
 (pss_cons (ps_for PassesOwn.never rfl (pi_list (pe_op op_cat (pe_slice sl_list (pv 0) po_none (po_some pe_int)) (pe_slice sl_list (pv 0) (po_some (pv 1)) (po_some (pe_op op_add (pv 1) pe_int))))) (pg_name (i := 4) sc_law_purse.nd rfl (by first | exact Or.inl rfl | exact Or.inr rfl)) (pss_one (ps_set (i := 3) sc_law_purse.nd rfl (by first | exact Or.inl rfl | exact Or.inr rfl) (pe_op op_mod (pe_callTy call_int1 (by rfl) T.b_int (by decide +kernel) (pa_cons (pe_op op_add (pe_op op_add (pe_op op_mul (pv 3) pe_int) (pe_op op_mul (pv 4) pe_int)) pe_int) pa_nil)) pe_int))))
 (pss_one (ps_ret (pe_lst (pa_cons (pe_ifExp (pt_cmpR op_ge (pe_callB call_abs (by rfl) T.b_abs (by decide +kernel) (pa_cons (pv 2) pa_nil)) (pe_op op_pow pe_int pe_int) (nomark _)) (pe_callB call_abs (by rfl) T.b_abs (by decide +kernel) (pa_cons (pv 2) pa_nil)) pe_int) (pa_cons (pv 3) (pa_cons pe_int pa_nil))))))))), ?_⟩
    refine seq_cut (fun σ H' => ∃ o : Int, H' = H ∧ σ = [some (.ref a), some (.int (i : Nat)), some (.int o), none, none]) ?_ (fun key => ?_)
    · rintro σ H' ⟨o, rfl, rfl⟩
      refine ⟨_, rfl, _, _, rfl, rfl, .inl ⟨by decide, by decide⟩, _, _, rfl, rfl, ?_⟩
      refine ⟨_, rfl, _, rfl, a, _, rfl, ha, fun p1 hp1 => ?_⟩
      have s1 := same_new (o := .lst (cutV (xs.map V.int) none (some 4))) hp1
      have e1 : (upd H' p1 (.lst (cutV (xs.map V.int) none (some 4)))) p1 = some (.lst (cutV (xs.map V.int) none (some 4))) := upd_same
      generalize upd H' p1 (.lst (cutV (xs.map V.int) none (some 4))) = H1 at s1 e1 ⊢
      refine ⟨_, rfl, _, rfl, _, rfl, _, rfl, _, _, rfl, rfl, _, rfl, a, _, rfl, s1.sql ha, fun p2 hp2 => ?_⟩
      have s2 := s1.trans (same_new (o := .lst (cutV (xs.map V.int) (some (i : Nat)) (some ((i : Nat) + 1)))) hp2)
      have c1 := cutV_length (xs.map V.int) none (some 4)
      have c2 := cutV_length (xs.map V.int) (some (i : Nat)) (some ((i : Nat) + 1))
      rw [List.length_map] at c1 c2
      refine ⟨p1, p2, _, _, rfl, rfl, (upd_ne (ne_of_none e1 hp2)).trans e1, upd_same, sl1 (by omega), fun p3 hp3 => ?_⟩
      have s3 := s2.trans (same_new (o := .lst (cutV (xs.map V.int) none (some 4) ++ cutV (xs.map V.int) (some (i : Nat)) (some ((i : Nat) + 1)))) hp3)
      have cm : ∀ (lo hi : Option Int) (x : V), x ∈ cutV (xs.map V.int) lo hi → ∃ k : Int, x = .int k := fun lo hi x hx => by
        unfold cutV at hx
        obtain ⟨k, _, e⟩ := List.mem_map.mp (List.mem_of_mem_drop (List.mem_of_mem_take hx))
        exact ⟨k, e.symm⟩
      have cmA : ∀ x ∈ cutV (xs.map V.int) none (some 4) ++ cutV (xs.map V.int) (some (i : Nat)) (some ((i : Nat) + 1)), ∃ k : Int, x = .int k := fun x hx => by
        rcases List.mem_append.mp hx with h | h
        · exact cm _ _ x h
        · exact cm _ _ x h
      refine ⟨p3, rfl, ⟨_, SqL.of upd_same⟩, ?_⟩
      refine for_list (K := K) (xs := cutV (xs.map V.int) none (some 4) ++ cutV (xs.map V.int) (some (i : Nat)) (some ((i : Nat) + 1))) (fun t σ H'' => ∃ (m : Int) (v4 : Option V), σ = [some (.ref a), some (.int (i : Nat)), some (.int o), some (.int m), v4] ∧ Same H' H'' ∧ H'' p3 = some (.lst (cutV (xs.map V.int) none (some 4) ++ cutV (xs.map V.int) (some (i : Nat)) (some ((i : Nat) + 1)))))
        ⟨_, _, rfl, s3, upd_same⟩ (fun t σ H'' _ ⟨_, _, _, _, h⟩ => SqL.of h) ?_ ?_
      · rintro t x σ H'' hx ⟨m, v4, rfl, sT, hT⟩
        obtain ⟨k, rfl⟩ := cmA x (List.mem_of_getElem? hx)
        exact ⟨_, rfl, _, _, rfl, rfl, .inr ⟨by decide, by decide⟩, _, rfl, _, _, rfl, rfl, .inr ⟨by decide, by decide⟩, _, _, rfl, rfl, _, _, rfl, rfl, .inl ⟨_, rfl, _, _, rfl, rfl, (show (0 : Int) < 2147483587 by decide), _, _, rfl, sT, hT⟩⟩
      · rintro σ H'' ⟨m, v4, rfl, sT, hT⟩
        have ab : ∀ k : Int, 0 ≤ (if k < 0 then -k else k) := fun k => by split <;> omega
        dsimp only [tRet, tLst, tCons]
        refine tif_cut' (fun v => ∃ k : Int, v = .int k ∧ 0 ≤ k) H'' (fun v ⟨k, e, hk⟩ => ?_) (fun key => ?_)
        · subst e
          refine ⟨_, rfl, by show 3 ≤ sizeLine; decide, fun p hp => ?_⟩
          exact q _ p (sT.trans (same_new hp)) (same_none sT hp) ⟨k, m, 0, upd_same, hk⟩
        · refine ⟨_, rfl, _, rfl, _, _, rfl, rfl, ⟨by decide, by decide, by decide⟩, _, _, rfl, rfl, _, rfl, iteB (fun _ => ?_) (fun _ => ?_)⟩
          · exact ⟨_, rfl, _, rfl, key _ ⟨_, rfl, ab o⟩⟩
          · exact key _ ⟨0, rfl, by decide⟩
    · refine ⟨_, rfl, _, rfl, a, _, rfl, .inl ha, _, _, rfl, rfl, _, rfl, iteB (fun hb => ?_) (fun hb => ?_)⟩
      · have hi2 : i < xs.length := by
          have z := of_decide_eq_true hb
          rw [List.length_map] at z
          omega
        exact ⟨_, rfl, _, rfl, a, _, _, _, rfl, rfl, ha, atI_nat (j := i) (by rw [List.getElem?_map, List.getElem?_eq_getElem hi2]; rfl), key _ _ ⟨_, rfl, rfl⟩⟩
      · exact key _ _ ⟨0, rfl, rfl⟩
end
end K8
end

section
set_option Elab.async false
set_option linter.all false
set_option maxRecDepth 100000
set_option maxHeartbeats 8000000
/-! The law's own helpers: kinds, forms, parts of a list. -/
namespace K8
open PySem PySem.Spec PyProof.Rows L2
open KM (T3 nth rt Dn mrg Eqv Snd Got Fm Sg sz triN)
theorem PurAt.same {H H' : Hp} {a : Addr} (h : PurAt H a) (e : Same H H') : PurAt H' a := let ⟨o, m, c, h1, h2⟩ := h; ⟨o, m, c, e _ _ h1, h2⟩
/-- a form of the law's own -/
def FrAt (H : Hp) (a : Addr) : FmS → Prop
  | .lt z => H a = some (.tup [.str "", .str z])
  | .op s l r => ∃ b c, H a = some (.tup [.str (sgS s), .ref b, .ref c]) ∧ FrAt H b l ∧ FrAt H c r
theorem FrAt.keep {H H' : Hp} (e : ∀ b xs, H b = some (.tup xs) → H' b = some (.tup xs)) : ∀ {F : FmS} {a : Addr}, FrAt H a F → FrAt H' a F
  | .lt z, a, h => e _ _ h
  | .op s l r, a, ⟨b, c, h1, h2, h3⟩ => ⟨b, c, e _ _ h1, h2.keep e, h3.keep e⟩
theorem FrAt.same {H H' : Hp} (e : Same H H') {F : FmS} {a : Addr} (h : FrAt H a F) : FrAt H' a F := h.keep fun b xs q => e _ _ q
section
variable {P : Program} {w : World} {K : PySem.W.Frag} {mg : Str → Option Value} {base : Heap}
def spLSize (n : Nat) : Sp := fun vs H Q _ => ∃ (a : Addr) (F : FmS), vs = [.ref a] ∧ FrAt H a F ∧ sz F < n ∧ Q (.int (sz F : Nat)) H
abbrev N_law_size : List Str := ["_law_form"]
theorem sc_law_size : FnScope N_law_size ["_law_form"] (defScope s_law_size) := ⟨rfl, rfl, rfl, by decide +kernel, rfl, by decide +kernel, by decide +kernel⟩
-- slots: 0 _law_form
theorem ok_law_size (T : Tx w K mg) : ∀ n, Ok P w K mg base n (a_law_size K) ["_law_form"] [] (spLSize n)
  | 0 => Ok.of T.f_law_size (fun z F => ⟨fun vs H Q E ⟨_, _, _, _, h, _⟩ => absurd h (Nat.not_lt_zero _), fun _ _ _ _ _ _ _ _ _ _ _ _ _ ⟨_, _, _, _, h, _⟩ => absurd h (Nat.not_lt_zero _)⟩) rfl fun _ _ _ _ _ _ us hl => match us, hl with | [_], _ => rfl
  | n + 1 => by
    obtain ⟨_, _, F_law_size, b_law_size, v_law_size, k_law_size⟩ := ok_law_size T n
    refine Ok.of T.f_law_size (fun z F => okBody F sc_law_size (fun vs H Q E h => ?_) fun cdv A outer s H vs Q E hr h => ?_) rfl fun _ _ _ _ _ _ us hl => match us, hl with | [_], _ => rfl
    · obtain ⟨a, F, rfl, _⟩ := h
      rfl
    · obtain ⟨a, F, rfl, ha, hn, q⟩ := h
      refine ⟨_, (pss_one (ps_ret (pe_ifExp (pt_cmpR op_eq (pe_ix ix_tup (pv 0) pe_int (fun _ _ => rfl)) pe_str (nomark _)) pe_int (pe_op op_add (pe_op op_add pe_int (pe_call F_law_size (hr.mono (by omega)) rfl T.g_law_size k_law_size b_law_size v_law_size pass0 (pa_cons (pe_ix ix_tup (pv 0) pe_int (fun _ _ => rfl)) pa_nil))) (pe_call F_law_size (hr.mono (by omega)) rfl T.g_law_size k_law_size b_law_size v_law_size pass0 (pa_cons (pe_ix ix_tup (pv 0) pe_int (fun _ _ => rfl)) pa_nil)))))), ?_⟩
      cases F with
      | lt z =>
        refine ⟨_, rfl, a, _, _, _, rfl, rfl, SqT.of (show H a = some (.tup [.str "", .str z]) from ha), atI_nat (j := 0) rfl, rfl, true, blT rfl, iteT q⟩
      | op sg l r =>
        obtain ⟨b, c, h1, hb, hc⟩ := ha
        have hn2 : sz l + sz r + 1 < n + 1 := hn
        refine ⟨_, rfl, a, _, _, _, rfl, rfl, SqT.of h1, atI_nat (j := 0) rfl, rfl, false, blF (sg_ne sg), iteF ?_⟩
        refine ⟨_, rfl, a, _, _, _, rfl, rfl, SqT.of h1, atI_nat (j := 1) rfl, b, l, rfl, hb, by omega, _, _, rfl, rfl, ?_⟩
        refine ⟨_, rfl, a, _, _, _, rfl, rfl, SqT.of h1, atI_nat (j := 2) rfl, c, r, rfl, hc, by omega, _, _, rfl, rfl, ?_⟩
        have e : (1 : Int) + ((sz l : Nat) : Int) + ((sz r : Nat) : Int) = ((sz (.op sg l r) : Nat) : Int) := by
          show _ = ((sz l + sz r + 1 : Nat) : Int)
          omega
        exact ans (Q := Q) (congrArg V.int e) q
def spMade (K : PySem.W.Frag) (n : Nat) : Sp := fun vs H Q _ => ∃ (a : Addr) (F : FmS), vs = [.ref a] ∧ FrAt H a F ∧ Leafs F ∧ sz F ≤ 8 ∧ sz F < n ∧ ∀ H' b, Same H H' → FmAt K H' b F → (∀ p, H p ≠ none → FmAt K (era p H') b F) → Q (.ref b) H'
abbrev N_law_made : List Str := ["_law_form", "_law_left", "_law_right_here"]
theorem sc_law_made : FnScope N_law_made ["_law_form"] (defScope s_law_made) := ⟨rfl, rfl, rfl, by decide +kernel, rfl, by decide +kernel, by decide +kernel⟩
-- slots: 0 _law_form, 1 _law_left, 2 _law_right_here
theorem ok_law_made (T : Tx w K mg) : ∀ n, Ok P w K mg base (n + 5) (a_law_made K) ["_law_form"] [] (spMade K n)
  | 0 => Ok.of T.f_law_made (fun z F => ⟨fun vs H Q E ⟨_, _, _, _, _, _, h, _⟩ => absurd h (Nat.not_lt_zero _), fun _ _ _ _ _ _ _ _ _ _ _ _ _ ⟨_, _, _, _, _, _, h, _⟩ => absurd h (Nat.not_lt_zero _)⟩) rfl fun _ _ _ _ _ _ us hl => match us, hl with | [_], _ => rfl
  | n + 1 => by
    obtain ⟨_, _, F_law_made, b_law_made, v_law_made, k_law_made⟩ := ok_law_made T n
    obtain ⟨_, _, F_letter, b_letter, v_letter, k_letter⟩ := ok_letter (P := P) (base := base) T
    obtain ⟨_, _, F_Formula_mul, b_Formula_mul, v_Formula_mul, k_Formula_mul⟩ := ok_Formula_mul (P := P) (base := base) T
    obtain ⟨_, _, F_Formula_floordiv, b_Formula_floordiv, v_Formula_floordiv, k_Formula_floordiv⟩ := ok_Formula_floordiv (P := P) (base := base) T
    obtain ⟨_, _, F_Formula_rshift, b_Formula_rshift, v_Formula_rshift, k_Formula_rshift⟩ := ok_Formula_rshift (P := P) (base := base) T
    show Ok P w K mg base (n + 5 + 1) _ _ _ _
    refine Ok.of T.f_law_made (fun z F => okBody F sc_law_made (fun vs H Q E h => ?_) fun cdv A outer s H vs Q E hr h => ?_) rfl fun _ _ _ _ _ _ us hl => match us, hl with | [_], _ => rfl
    · obtain ⟨a, F, rfl, _⟩ := h
      rfl
    · obtain ⟨a, F, rfl, ha, hl, h8, hn, q⟩ := h
      refine ⟨_, (pss_cons (ps_if (pt_cmpR op_eq (pe_ix ix_tup (pv 0) pe_int (fun _ _ => rfl)) pe_str (nomark _)) (pss_one (ps_ret (pe_call F_letter (hr.mono (by omega)) rfl T.g_letter k_letter b_letter v_letter pass0 (pa_cons (pe_ix ix_tup (pv 0) pe_int (fun _ _ => rfl)) pa_nil)))) pss_nil)
 (pss_cons (ps_par (i := 1) (j := 2) rfl sc_law_made.nd rfl rfl (by decide) rfl rfl (pa_cons (pe_call F_law_made (hr.mono (by omega)) rfl T.g_law_made k_law_made b_law_made v_law_made pass0 (pa_cons (pe_ix ix_tup (pv 0) pe_int (fun _ _ => rfl)) pa_nil)) (pa_cons (pe_call F_law_made (hr.mono (by omega)) rfl T.g_law_made k_law_made b_law_made v_law_made pass0 (pa_cons (pe_ix ix_tup (pv 0) pe_int (fun _ _ => rfl)) pa_nil)) pa_nil)) (by rfl))
 (pss_cons (ps_if (pt_cmpR op_eq (pe_ix ix_tup (pv 0) pe_int (fun _ _ => rfl)) pe_str (nomark _)) (pss_one (ps_ret (pe_op (op_ownB F_Formula_mul (bind0 b_Formula_mul v_Formula_mul) (hr.mono (by omega)) T.mt_Formula_mul.at_ T.mt_Formula_mul.fn T.sfFormula) (pv 1) (pv 2)))) pss_nil)
 (pss_one (ps_ret (pe_ifExp (pt_cmpR op_eq (pe_ix ix_tup (pv 0) pe_int (fun _ _ => rfl)) pe_str (nomark _)) (pe_op (op_ownB F_Formula_floordiv (bind0 b_Formula_floordiv v_Formula_floordiv) (hr.mono (by omega)) T.mt_Formula_floordiv.at_ T.mt_Formula_floordiv.fn T.sfFormula) (pv 1) (pv 2)) (pe_op (op_ownB F_Formula_rshift (bind0 b_Formula_rshift v_Formula_rshift) (hr.mono (by omega)) T.mt_Formula_rshift.at_ T.mt_Formula_rshift.fn T.sfFormula) (pv 1) (pv 2)))))))), ?_⟩
      cases F with
      | lt z =>
        have ha : H a = some (.tup [.str "", .str z]) := ha
        refine ⟨_, rfl, a, _, _, _, rfl, rfl, SqT.of ha, atI_nat (j := 0) rfl, rfl, true, blT rfl, iteT ?_⟩
        exact ⟨_, rfl, a, _, _, _, rfl, rfl, SqT.of ha, atI_nat (j := 1) rfl, z, rfl, hl, fun b H' s n f => q H' b s f.1 f.2⟩
      | op sg l r =>
        obtain ⟨b, c, h1, hb, hc⟩ := ha
        have hn2 : sz l + sz r + 1 < n + 1 := hn
        have h82 : sz l + sz r + 1 ≤ 8 := h8
        refine ⟨_, rfl, a, _, _, _, rfl, rfl, SqT.of h1, atI_nat (j := 0) rfl, rfl, false, blF (sg_ne sg), iteF ?_⟩
        refine ⟨_, rfl, a, _, _, _, rfl, rfl, SqT.of h1, atI_nat (j := 1) rfl, b, l, rfl, hb, hl.1, by omega, by omega, fun H1 fb s1 f1 g1 => ?_⟩
        refine ⟨_, rfl, a, _, _, _, rfl, rfl, SqT.of (s1 _ _ h1), atI_nat (j := 2) rfl, c, r, rfl, hc.same s1, hl.2, by omega, by omega, fun H2 fc s2 f2 g2 => ⟨_, _, rfl, ?_⟩⟩
        have f12 := f1.same s2
        have h12 := s2 _ _ (s1 _ _ h1)
        have old : ∀ {G G' : Hp} {p : Addr}, Same G G' → G p ≠ none → G' p ≠ none := fun {G G' p} e hp z => hp (same_none e z)
        have fz : ∀ {H' : Hp} {y : Addr}, Same H2 H' → FmOp K H2 H' y fb fc sg l r → ∀ p, H p ≠ none → FmAt K (era p H') y (.op sg l r) := fun {H' y} s f p hp => f.2 p (old s2 (old s1 hp)) (((g1 p hp).same (era_mono s2)).same (era_mono s)) ((g2 p (old s1 hp)).same (era_mono s))
        obtain ⟨db, gb, ib⟩ := f12.ins
        obtain ⟨dc, gc, ic⟩ := f2.ins
        have n1 : sgS .ldv ≠ "*" := by decide +kernel
        have n2 : sgS .rdv ≠ "*" := by decide +kernel
        have n3 : sgS .rdv ≠ "//" := by decide +kernel
        cases sg with
        | mul =>
          refine ⟨_, rfl, a, _, _, _, rfl, rfl, SqT.of h12, atI_nat (j := 0) rfl, rfl, true, sgV rfl, iteT ?_⟩
          exact ⟨_, rfl, _, rfl, fb, db, gb, fc, dc, gc, rfl, rfl, ib, ic, fb, fc, l, r, rfl, f12, f2, hl.1, hl.2, by omega, fun y H' s n f => q H' y (s1.trans (s2.trans s)) f.1 (fz s f)⟩
        | ldv =>
          refine ⟨_, rfl, a, _, _, _, rfl, rfl, SqT.of h12, atI_nat (j := 0) rfl, rfl, false, sgV0 n1, iteF ?_⟩
          refine ⟨_, rfl, a, _, _, _, rfl, rfl, SqT.of h12, atI_nat (j := 0) rfl, rfl, true, sgV rfl, iteT ?_⟩
          exact ⟨_, rfl, _, rfl, fb, db, gb, fc, dc, gc, rfl, rfl, ib, ic, fb, fc, l, r, rfl, f12, f2, hl.1, hl.2, by omega, fun y H' s n f => q H' y (s1.trans (s2.trans s)) f.1 (fz s f)⟩
        | rdv =>
          refine ⟨_, rfl, a, _, _, _, rfl, rfl, SqT.of h12, atI_nat (j := 0) rfl, rfl, false, sgV0 n2, iteF ?_⟩
          refine ⟨_, rfl, a, _, _, _, rfl, rfl, SqT.of h12, atI_nat (j := 0) rfl, rfl, false, sgV0 n3, iteF ?_⟩
          exact ⟨_, rfl, _, rfl, fb, db, gb, fc, dc, gc, rfl, rfl, ib, ic, fb, fc, l, r, rfl, f12, f2, hl.1, hl.2, by omega, fun y H' s n f => q H' y (s1.trans (s2.trans s)) f.1 (fz s f)⟩
def lotsL : List Str := ["plain", "sides", "front", "back", "round", "all", "plain"]
theorem lotsL_at : ∀ d, d < 7 → ∃ L, (strV lotsL)[d]? = some (.str (lotN L))
  | 0, _ => ⟨.plain, rfl⟩
  | 1, _ => ⟨.sides, rfl⟩
  | 2, _ => ⟨.front, rfl⟩
  | 3, _ => ⟨.back, rfl⟩
  | 4, _ => ⟨.round, rfl⟩
  | 5, _ => ⟨.all, rfl⟩
  | 6, _ => ⟨.plain, rfl⟩
  | n + 7, h => absurd h (by omega)
def spLKind : Sp := fun vs H Q _ => ∃ (a : Addr), vs = [.ref a] ∧ PurAt H a ∧ ∀ H' p L calm, Kp [a] H H' → PurAt H' a → H' p = some (.tup [.str (lotN L), .bl calm]) → Q (.ref p) H'
abbrev N_law_kind : List Str := ["_law_purse_here", "_law_lots"]
theorem sc_law_kind : FnScope N_law_kind ["_law_purse_here"] (defScope s_law_kind) := ⟨rfl, rfl, rfl, by decide +kernel, rfl, by decide +kernel, by decide +kernel⟩
-- slots: 0 _law_purse_here, 1 _law_lots
theorem ok_law_kind (T : Tx w K mg) : Ok P w K mg base 2 (a_law_kind K) ["_law_purse_here"] [] spLKind := by
  obtain ⟨_, _, F_law_pick, b_law_pick, v_law_pick, k_law_pick⟩ := ok_law_pick (P := P) (base := base) T
  refine Ok.of T.f_law_kind (fun z F => okBody F sc_law_kind (fun vs H Q E h => ?_) fun cdv A outer s H vs Q E hr h => ?_) rfl fun _ _ _ _ _ _ us hl => match us, hl with | [_], _ => rfl
  · obtain ⟨a, rfl, _⟩ := h
    rfl
  · obtain ⟨a, rfl, hp, q⟩ := h
    refine ⟨_, (pss_cons (ps_set (i := 1) sc_law_kind.nd rfl (by first | exact Or.inl rfl | exact Or.inr rfl) (pe_lst (pa_cons pe_str (pa_cons pe_str (pa_cons pe_str (pa_cons pe_str (pa_cons pe_str (pa_cons pe_str (pa_cons pe_str pa_nil)))))))))
 (pss_one (ps_ret (pe_tup (pa_cons (pe_ix ix_list (pv 1) (pe_call F_law_pick (hr.mono (by decide)) rfl T.g_law_pick k_law_pick b_law_pick v_law_pick pass0 (pa_cons (pv 0) (pa_cons pe_int pa_nil))) (fun _ _ => rfl)) (pa_cons (pe_cmpR op_eq (pe_call F_law_pick (hr.mono (by decide)) rfl T.g_law_pick k_law_pick b_law_pick v_law_pick pass0 (pa_cons (pv 0) (pa_cons pe_int pa_nil))) pe_int (nomark _)) pa_nil)))))), ?_⟩
    refine ⟨by show 7 ≤ sizeLine; decide, fun l hl => ?_⟩
    have s1 : Same H (upd H l (.lst (strV lotsL))) := same_new hl
    have e1 : (upd H l (.lst (strV lotsL))) l = some (.lst (strV lotsL)) := upd_same
    have la : l ≠ a := by
      obtain ⟨o, m, c, h, _⟩ := hp
      exact (ne_of_none h hl).symm
    refine ⟨_, rfl, _, rfl, a, 7, rfl, hp.same s1, by decide, by decide, fun H2 d k2 p2 hd => ?_⟩
    obtain ⟨L, hL⟩ := lotsL_at d hd
    have e2 := k2 _ _ e1 (by simp [la])
    refine ⟨l, _, _, _, rfl, rfl, SqL.of e2, atI_nat (j := d) hL, ?_⟩
    refine ⟨_, rfl, a, 3, rfl, p2, by decide, by decide, fun H3 d3 k3 p3 hd3 => ?_⟩
    refine ⟨rfl, by show 2 ≤ sizeLine; decide, fun p hp' => ?_⟩
    exact q _ p L _ (s1.kp.trans (k2.trans (k3.trans (same_new hp').kp))) (p3.same (same_new hp')) upd_same
end
end K8
end

section
set_option Elab.async false
set_option linter.all false
set_option maxRecDepth 100000
set_option maxHeartbeats 8000000
/-! The law's own helpers: parts of a list. -/
namespace K8
open PySem PySem.Spec PyProof.Rows L2
open KM (T3 nth rt Dn mrg Eqv Snd Got Fm Sg sz triN)
section
variable {P : Program} {w : World} {K : PySem.W.Frag} {mg : Str → Option Value} {base : Heap}
def SubsAt (H : Hp) (n : Nat) (ls : List Addr) : Prop := ∀ l ∈ ls, ∃ js : List Nat, H l = some (.lst (natV js)) ∧ (∀ j ∈ js, j < n) ∧ js.Nodup ∧ js.length ≤ n
theorem SubsAt.same {H H' : Hp} {n : Nat} {ls : List Addr} (h : SubsAt H n ls) (e : Same H H') : SubsAt H' n ls := fun l m => let ⟨js, h1, h2⟩ := h l m; ⟨js, e _ _ h1, h2⟩
def spSubs : Sp := fun vs H Q _ => ∃ (t : Addr), vs = [.ref t] ∧ H t = some (.lst (natV [0, 1, 2])) ∧ ∀ H' p ls, Same H H' → H' p = some (.lst (refV ls)) → SubsAt H' 3 ls → Q (.ref p) H'
abbrev N_law_subsets : List Str := ["_law_things", "_law_found", "_law_thing", "_law_part"]
theorem sc_law_subsets : FnScope N_law_subsets ["_law_things"] (defScope s_law_subsets) := ⟨rfl, rfl, rfl, by decide +kernel, rfl, by decide +kernel, by decide +kernel⟩
-- slots: 0 _law_things, 1 _law_found, 2 _law_thing, 3 _law_part
theorem ok_law_subsets (T : Tx w K mg) : Ok P w K mg base 1 (a_law_subsets K) ["_law_things"] [] spSubs := by
  refine Ok.of T.f_law_subsets (fun z F => okBody F sc_law_subsets (fun vs H Q E h => ?_) fun cdv A outer s H vs Q E hr h => ?_) rfl fun _ _ _ _ _ _ us hl => match us, hl with | [_], _ => rfl
  · obtain ⟨t, rfl, _⟩ := h
    rfl
  · obtain ⟨t, rfl, ht, q⟩ := h
    refine ⟨_, (pss_cons (ps_set (i := 1) sc_law_subsets.nd rfl (by first | exact Or.inl rfl | exact Or.inr rfl) (pe_lst (pa_cons (pe_lst pa_nil) pa_nil)))
 (pss_cons (ps_for PassesOwn.never rfl (pi_list (pv 0)) (pg_name (i := 2) sc_law_subsets.nd rfl (by first | exact Or.inl rfl | exact Or.inr rfl)) (pss_one (ps_set (i := 1) sc_law_subsets.nd rfl (by first | exact Or.inl rfl | exact Or.inr rfl) (pe_op op_cat (pv 1) (pe_lcB (own := [("_law_part", 3)]) rfl sc_law_subsets.nd (pi_list (pv 1)) (blkOk_by (own := [("_law_part", 3)]) (N := N_law_subsets) (sc := defScope s_law_subsets) (by decide +kernel)) (fun _ _ _ _ _ => (pg_name (i := 3) sc_law_subsets.nd rfl (by first | exact Or.inl rfl | exact Or.inr rfl))) (fun _ _ _ _ _ => pts_nil) (fun _ _ _ _ _ => (pe_op op_cat (pv 3) (pe_lst (pa_cons (pv 2) pa_nil)))))))))
 (pss_one (ps_ret (pv 1))))), ?_⟩
    refine ⟨by show 0 ≤ sizeLine; decide, fun e0 he0 => ?_⟩
    have s1 := same_new (o := .lst []) he0
    have x1 : (upd H e0 (.lst [])) e0 = some (.lst []) := upd_same
    generalize upd H e0 (.lst []) = H1 at s1 x1 ⊢
    refine ⟨by show 1 ≤ sizeLine; decide, fun p0 hp0 => ?_⟩
    have s2 := s1.trans (same_new (o := .lst [.ref e0]) hp0)
    have x2 := (upd_ne (o := .lst [.ref e0]) (ne_of_none x1 hp0)).trans x1
    have y2 : (upd H1 p0 (.lst [.ref e0])) p0 = some (.lst [.ref e0]) := upd_same
    generalize upd H1 p0 (.lst [.ref e0]) = H2 at s2 x2 y2 ⊢
    refine ⟨_, rfl, t, rfl, ⟨_, SqL.of (s2 _ _ ht)⟩, ?_⟩
    refine for_list (K := K) (xs := natV [0, 1, 2]) (fun i σ H' => ∃ p ls v2 v3, σ = [some (.ref t), some (.ref p), v2, v3] ∧ Same H H' ∧ H' p = some (.lst (refV ls)) ∧ ls.length ≤ 2 ^ i ∧ SubsAt H' i ls)
      ⟨p0, [e0], _, _, rfl, s2, y2, by show 1 ≤ 1; decide, fun l hl => ⟨[], by rw [List.mem_singleton.mp hl]; exact x2, fun j h => (by cases h), List.nodup_nil, Nat.le_refl _⟩⟩ (fun i σ H' _ ⟨_, _, _, _, _, s, _⟩ => SqL.of (s _ _ ht)) ?_ ?_
    · rintro i x σ H3 hx ⟨p, ls, v2, v3, rfl, s3, hp, hl, hls⟩
      have hi : i < 3 := (List.getElem?_eq_some_iff.mp hx).1
      have ex : x = .int (i : Nat) := by
        match i, hi with
        | 0, _ => exact (Option.some.inj hx).symm
        | 1, _ => exact (Option.some.inj hx).symm
        | 2, _ => exact (Option.some.inj hx).symm
      subst ex
      have hl4 : ls.length ≤ 4 := by
        match i, hi with
        | 0, _ => exact Nat.le_trans hl (by decide)
        | 1, _ => exact Nat.le_trans hl (by decide)
        | 2, _ => exact Nat.le_trans hl (by decide)
      refine ⟨_, rfl, ?_⟩
      refine ⟨_, rfl, p, rfl, ⟨_, SqL.of hp⟩, fun D hD => ?_⟩
      refine lc_list (K := K) (xs := refV ls) (fun k H' => Same H3 H' ∧ ∃ ns : List Addr, H' D = some (.lst (refV ns)) ∧ ns.length = k ∧ D ∉ ns ∧ SubsAt H' (i + 1) ns) ⟨same_new hD, [], upd_same, rfl, by simp, fun l h => by cases h⟩ (fun k H' _ h => SqL.of (h.1 _ _ hp)) ?_ ?_
      · rintro k x H4 hx ⟨s4, ns, hns, hnl, hnD, hsub⟩
        rw [List.getElem?_map] at hx
        obtain ⟨l, hl', rfl⟩ := Option.map_eq_some_iff.mp hx
        obtain ⟨js, j1, j2, j3, j4⟩ := hls l (List.mem_of_getElem? hl')
        have hk : k < ls.length := (List.getElem?_eq_some_iff.mp hl').1
        refine ⟨rfl, _, rfl, _, rfl, by show 1 ≤ sizeLine; decide, fun q1 hq1 => ?_⟩
        have s5 := s4.trans (same_new (o := .lst [.int (i : Nat)]) hq1)
        have d5 := (upd_ne (o := .lst [.int (i : Nat)]) (ne_of_none hns hq1)).trans hns
        have sub5 := hsub.same (same_new (o := .lst [.int (i : Nat)]) hq1)
        refine ⟨l, q1, natV js, [.int (i : Nat)], rfl, rfl, s5 _ _ j1, upd_same, sl1 (by rw [List.length_map]; show js.length + 1 ≤ 100000; omega), fun q2 hq2 => ?_⟩
        have s6 := s5.trans (same_new (o := .lst (natV js ++ [.int (i : Nat)])) hq2)
        have d6 := (upd_ne (o := .lst (natV js ++ [.int (i : Nat)])) (ne_of_none d5 hq2)).trans d5
        have nD2 : D ≠ q2 := ne_of_none d5 hq2
        refine ⟨_, d6, sl2 (by rw [List.length_map]; omega), same_upd s6 hD, ns ++ [q2], ?_, by simp [hnl], ?_, fun m hm => ?_⟩
        · rw [upd_same]
          simp [refV]
        · intro h
          rcases List.mem_append.mp h with h | h
          · exact hnD h
          · exact nD2 (List.mem_singleton.mp h)
        · rcases List.mem_append.mp hm with h | h
          · obtain ⟨js', k1, k2⟩ := sub5 m h
            have nm : m ≠ D := fun e => hnD (by rw [← e]; exact h)
            exact ⟨js', by rw [upd_ne nm, upd_ne (ne_of_none k1 hq2)]; exact k1, k2⟩
          · have em := List.mem_singleton.mp h
            subst em
            refine ⟨js ++ [i], ?_, fun j hj => ?_, ?_, by rw [List.length_append, List.length_singleton]; omega⟩
            · rw [upd_ne nD2.symm, upd_same]
              simp [natV]
            · rcases List.mem_append.mp hj with h | h
              · exact Nat.lt_succ_of_lt (j2 j h)
              · rw [List.mem_singleton.mp h]
                exact Nat.lt_succ_self _
            · rw [List.nodup_append]
              exact ⟨j3, by simp, fun a ha b hb e => by
                have hb := List.mem_singleton.mp hb
                have := j2 a ha
                omega⟩
      · rintro H4 ⟨s4, ns, hns, hnl, hnD, hsub⟩
        rw [List.length_map] at hnl
        refine ⟨p, D, refV ls, refV ns, rfl, rfl, s4 _ _ hp, hns, sl1 (by rw [List.length_map, List.length_map]; omega), fun p' hp' => ?_⟩
        have s5 := same_new (o := .lst (refV ls ++ refV ns)) hp'
        refine ⟨p', ls ++ ns, _, _, rfl, (s3.trans s4).trans s5, ?_, ?_, fun l hl' => ?_⟩
        · rw [upd_same]
          simp [refV]
        · rw [List.length_append, Nat.pow_succ]
          omega
        · rcases List.mem_append.mp hl' with h | h
          · obtain ⟨js, j1, j2, j3, j4⟩ := hls l h
            exact ⟨js, s5 _ _ (s4 _ _ j1), fun j hj => Nat.lt_succ_of_lt (j2 j hj), j3, Nat.le_succ_of_le j4⟩
          · obtain ⟨js, j1, j2⟩ := hsub l h
            exact ⟨js, s5 _ _ j1, j2⟩
    · rintro σ H3 ⟨p, ls, v2, v3, rfl, s3, hp, hl, hls⟩
      exact ⟨_, rfl, q H3 p ls s3 hp hls⟩
end
end K8
end

section
set_option Elab.async false
set_option linter.all false
set_option maxRecDepth 100000
set_option maxHeartbeats 8000000
/-! The law's own helpers: names. -/
namespace K8
open PySem PySem.Spec PyProof.Rows L2
open KM (T3 nth rt Dn mrg Eqv Snd Got Fm Sg sz triN)
theorem tif_cutG {t : TT} {ta tb : TE} {σ : L2.St} {H : Hp} {Q : VK} (Pv : V → Hp → Prop) (k : ∀ v H', Pv v H' → Q v H') (h : (∀ v H', Pv v H' → Q v H') → tIf t ta tb σ H Q) : tIf t ta tb σ H Q := h k
def namB (z : Str) : Bool := decide (1 ≤ z.length) && (decide (z.length ≤ 8) && ((match z.cps[0]? with | some c => decide (c ∈ abc) | none => false) && z.cps.toList.all fun c => decide (c ∈ abc0)))
theorem nam_of {z : Str} (h : namB z = true) : Nam z := by
  unfold namB at h
  simp only [Bool.and_eq_true, decide_eq_true_eq, List.all_eq_true] at h
  obtain ⟨h1, h2, h3, h4⟩ := h
  refine ⟨h1, h2, ?_, h4⟩
  cases e : z.cps[0]? with
  | none => rw [e] at h3; cases h3
  | some c =>
    rw [e] at h3
    exact ⟨c, rfl, by simpa using h3⟩
def wordsL : List Str := ["same", "go", "unlike", "plain", "calm", "a", "b", "k0", "all", "s"]
theorem words_nam : ∀ z ∈ wordsL, Nam z := by
  have h : wordsL.all namB = true := by decide +kernel
  intro z hz
  exact nam_of (List.all_eq_true.mp h z hz)
def sgnS : Str := "abcdefghijklmnopqrstuvwxyz0123456789"
theorem sgn_len : sgnS.cps.toList.length = 36 := by decide +kernel
theorem sgn_at {d : Nat} (h : d < 36) : ∃ c, sgnS.cps.toList[d]? = some c ∧ c ∈ abc0 := by
  have hd : d < sgnS.cps.toList.length := by rw [sgn_len]; exact h
  exact ⟨_, List.getElem?_eq_getElem hd, List.getElem_mem hd⟩
theorem sgn_at26 {d : Nat} (h : d < 26) : ∃ c, sgnS.cps.toList[d]? = some c ∧ c ∈ abc := by
  have e : sgnS.cps.toList.take 26 = abc := by decide +kernel
  have hd : d < sgnS.cps.toList.length := by rw [sgn_len]; omega
  refine ⟨_, List.getElem?_eq_getElem hd, ?_⟩
  rw [← e]
  exact List.mem_take_iff_getElem.mpr ⟨d, by rw [sgn_len]; omega, rfl⟩
theorem abc_sub : ∀ c ∈ abc, c ∈ abc0 := by decide +kernel
/-- one sign, and more -/
theorem nam_join {c : Nat} {cs : List Nat} (hc : c ∈ abc) (h : ∀ d ∈ cs, d ∈ abc0) (hl : cs.length ≤ 7) : Nam ((⟨#[c]⟩ : Str) ++ Txt.join "" (cs.map fun d => (⟨#[d]⟩ : Str))) ∧ (Txt.join "" (cs.map fun d => (⟨#[d]⟩ : Str))).cps.toList = cs := by
  have e : ∀ cs : List Nat, (Str.join "" (cs.map fun d => (⟨#[d]⟩ : Str))).cps.toList = cs := fun cs => by
    induction cs with
    | nil => decide +kernel
    | cons d cs ih =>
      cases cs with
      | nil => rfl
      | cons d' cs =>
        have e0 : (("" : Str)).cps.toList = [] := by decide +kernel
        show ((⟨#[d]⟩ : Str) ++ "" ++ Str.join "" ((d' :: cs).map fun d => (⟨#[d]⟩ : Str))).cps.toList = _
        simp only [PySem.Str.cps_append, Array.toList_append]
        rw [ih, e0]
        rfl
  have e2 : (Txt.join "" (cs.map fun d => (⟨#[d]⟩ : Str))).cps.toList = cs := by
    rw [TL.join_eq]
    exact e cs
  have e3 : ((⟨#[c]⟩ : Str) ++ Txt.join "" (cs.map fun d => (⟨#[d]⟩ : Str))).cps.toList = c :: cs := by
    rw [PySem.Str.cps_append, Array.toList_append, e2]
    rfl
  have e4 : ((⟨#[c]⟩ : Str) ++ Txt.join "" (cs.map fun d => (⟨#[d]⟩ : Str))).length = cs.length + 1 := by
    show ((⟨#[c]⟩ : Str) ++ Txt.join "" (cs.map fun d => (⟨#[d]⟩ : Str))).cps.size = _
    rw [← Array.length_toList, e3]
    rfl
  refine ⟨⟨by omega, by omega, ⟨c, ?_, hc⟩, fun d hd => ?_⟩, e2⟩
  · rw [← Array.getElem?_toList, e3]
    rfl
  · rw [e3] at hd
    rcases List.mem_cons.mp hd with q | q
    · rw [q]
      exact abc_sub c hc
    · exact h d q
def zsL : List Str := ["z0", "z1", "z2"]
theorem zs_nam : ∀ z ∈ zsL, Nam z := by
  have h : zsL.all namB = true := by decide +kernel
  intro z hz
  exact nam_of (List.all_eq_true.mp h z hz)
theorem zs_nd : zsL.Nodup := by decide +kernel
theorem zs_at : ∀ j, j < 3 → zsL[j]? = some (("z" : Str) ++ (toString (((0 : Int) + (j : Nat))) : Str))
  | 0, _ => by decide +kernel
  | 1, _ => by decide +kernel
  | 2, _ => by decide +kernel
  | n + 3, h => absurd h (by omega)
/-- one of the spare names is free -/
theorem free_one {fs : List Str} {z : Str} (h : fs.length ≤ 2) : ∃ y r, (z :: zsL).filter (fun x => decide (x ∉ fs)) = y :: r := by
  cases e : (z :: zsL).filter (fun x => decide (x ∉ fs)) with
  | cons y r => exact ⟨y, r, rfl⟩
  | nil =>
    exfalso
    have hall : ∀ x ∈ zsL, x ∈ fs := fun x hx => by
      apply Decidable.byContradiction
      intro hn
      have m : x ∈ (z :: zsL).filter (fun x => decide (x ∉ fs)) := List.mem_filter.mpr ⟨List.mem_cons_of_mem _ hx, decide_eq_true hn⟩
      rw [e] at m
      cases m
    have := nodup_le zs_nd hall
    have e3 : zsL.length = 3 := rfl
    omega
section
variable {P : Program} {w : World} {K : PySem.W.Frag} {mg : Str → Option Value} {base : Heap}
theorem PurAt.ne {H : Hp} {a p : Addr} (h : PurAt H a) (hp : H p = none) : p ≠ a := by
  obtain ⟨o, m, c, h, _⟩ := h
  exact (ne_of_none h hp).symm
theorem PurAt.upd_ {H : Hp} {a p : Addr} {o : HO} (h : PurAt H a) (n : p ≠ a) : PurAt (upd H p o) a := by
  obtain ⟨x, m, c, h1, h2⟩ := h
  exact ⟨x, m, c, (upd_ne n.symm).trans h1, h2⟩
def spNm : Sp := fun vs H Q _ => ∃ (a : Addr), vs = [.ref a, .int 3] ∧ PurAt H a ∧ ∀ H' p bx, Kp [a] H H' → PurAt H' a → H p = none → H' p = some (.lst (strV bx)) → BoxN bx → Q (.ref p) H'
abbrev N_law_names : List Str := ["_law_purse_here", "_law_length", "_law_words", "_law_signs", "_law_found", "_law_k", "_law_size_here", "_law_called", "_law_spare", "_law_j", "_law_one"]
theorem sc_law_names : FnScope N_law_names ["_law_purse_here", "_law_length"] (defScope s_law_names) := ⟨rfl, rfl, rfl, by decide +kernel, rfl, by decide +kernel, by decide +kernel⟩
-- slots: 0 _law_purse_here, 1 _law_length, 2 _law_words, 3 _law_signs, 4 _law_found, 5 _law_k, 6 _law_size_here, 7 _law_called, 8 _law_spare, 9 _law_j, 10 _law_one
theorem ok_law_names (T : Tx w K mg) : Ok P w K mg base 2 (a_law_names K) ["_law_purse_here", "_law_length"] [] spNm := by
  obtain ⟨_, _, F_law_pick, b_law_pick, v_law_pick, k_law_pick⟩ := ok_law_pick (P := P) (base := base) T
  refine Ok.of T.f_law_names (fun z F => okBody F sc_law_names (fun vs H Q E h => ?_) fun cdv A outer s H vs Q E hr h => ?_) rfl fun _ _ _ _ _ _ us hl => match us, hl with | [_, _], _ => rfl
  · obtain ⟨a, rfl, _⟩ := h
    rfl
  · obtain ⟨a, rfl, pu, q⟩ := h
    refine ⟨_, (pss_cons (ps_set (i := 2) sc_law_names.nd rfl (by first | exact Or.inl rfl | exact Or.inr rfl) (pe_lst (pa_cons pe_str (pa_cons pe_str (pa_cons pe_str (pa_cons pe_str (pa_cons pe_str (pa_cons pe_str (pa_cons pe_str (pa_cons pe_str (pa_cons pe_str (pa_cons pe_str pa_nil))))))))))))
 (pss_cons (ps_set (i := 3) sc_law_names.nd rfl (by first | exact Or.inl rfl | exact Or.inr rfl) pe_str)
 (pss_cons (ps_set (i := 4) sc_law_names.nd rfl (by first | exact Or.inl rfl | exact Or.inr rfl) (pe_lst pa_nil))
 (pss_cons (ps_for PassesOwn.never rfl (pi_range1 (by rfl) T.b_range (pa_cons (pv 1) pa_nil)) (pg_name (i := 5) sc_law_names.nd rfl (by first | exact Or.inl rfl | exact Or.inr rfl)) (pss_cons (ps_set (i := 6) sc_law_names.nd rfl (by first | exact Or.inl rfl | exact Or.inr rfl) (pe_ifExp (pt_cmpR op_eq (pe_call F_law_pick (hr.mono (by decide)) rfl T.g_law_pick k_law_pick b_law_pick v_law_pick pass0 (pa_cons (pv 0) (pa_cons pe_int pa_nil))) pe_int (nomark _)) (pe_call F_law_pick (hr.mono (by decide)) rfl T.g_law_pick k_law_pick b_law_pick v_law_pick pass0 (pa_cons (pv 0) (pa_cons pe_int pa_nil))) (pe_call F_law_pick (hr.mono (by decide)) rfl T.g_law_pick k_law_pick b_law_pick v_law_pick pass0 (pa_cons (pv 0) (pa_cons pe_int pa_nil)))))
 (pss_cons (ps_set (i := 7) sc_law_names.nd rfl (by first | exact Or.inl rfl | exact Or.inr rfl) (pe_ix ix_str (pv 3) (pe_call F_law_pick (hr.mono (by decide)) rfl T.g_law_pick k_law_pick b_law_pick v_law_pick pass0 (pa_cons (pv 0) (pa_cons pe_int pa_nil))) (fun _ _ => rfl)))
 (pss_cons (ps_set (i := 7) sc_law_names.nd rfl (by first | exact Or.inl rfl | exact Or.inr rfl) (pe_op op_add_str (pv 7) (pe_join pe_str (pe_lcB (own := [("_law_j", 9)]) rfl sc_law_names.nd (pi_range1 (by rfl) T.b_range (pa_cons (pv 6) pa_nil)) (blkOk_by (own := [("_law_j", 9)]) (N := N_law_names) (sc := defScope s_law_names) (by decide +kernel)) (fun _ _ _ _ _ => (pg_name (i := 9) sc_law_names.nd rfl (by first | exact Or.inl rfl | exact Or.inr rfl))) (fun _ _ _ _ _ => pts_nil) (fun _ _ _ _ _ => (pe_ix ix_str (pv 3) (pe_call F_law_pick (hr.mono (by decide)) rfl T.g_law_pick k_law_pick b_law_pick v_law_pick pass0 (pa_cons (pv 0) (pa_cons pe_int pa_nil))) (fun _ _ => rfl)))))))
 (pss_cons (ps_set (i := 7) sc_law_names.nd rfl (by first | exact Or.inl rfl | exact Or.inr rfl) (pe_ifExp (pt_cmpR op_eq (pe_call F_law_pick (hr.mono (by decide)) rfl T.g_law_pick k_law_pick b_law_pick v_law_pick pass0 (pa_cons (pv 0) (pa_cons pe_int pa_nil))) pe_int (nomark _)) (pe_ix ix_list (pv 2) (pe_call F_law_pick (hr.mono (by decide)) rfl T.g_law_pick k_law_pick b_law_pick v_law_pick pass0 (pa_cons (pv 0) (pa_cons pe_int pa_nil))) (fun _ _ => rfl)) (pv 7)))
 (pss_cons (ps_set (i := 8) sc_law_names.nd rfl (by first | exact Or.inl rfl | exact Or.inr rfl) (pe_op op_cat (pe_lst (pa_cons (pv 7) pa_nil)) (pe_lcB (own := [("_law_j", 9)]) rfl sc_law_names.nd (pi_range1 (by rfl) T.b_range (pa_cons (pv 1) pa_nil)) (blkOk_by (own := [("_law_j", 9)]) (N := N_law_names) (sc := defScope s_law_names) (by decide +kernel)) (fun _ _ _ _ _ => (pg_name (i := 9) sc_law_names.nd rfl (by first | exact Or.inl rfl | exact Or.inr rfl))) (fun _ _ _ _ _ => pts_nil) (fun _ _ _ _ _ => (pe_op op_add_str pe_str (pe_callTy call_str_int (by rfl) T.b_str (by decide +kernel) (pa_cons (pv 9) pa_nil)))))))
 (pss_one (ps_expr (pe_bm PySem.F.plainAttrs_list PySem.F.slot_list_append PySem.F.type_list_append mt_append (pv 4) (pa_cons (pe_ix ix_list (pe_lcB (own := [("_law_one", 10)]) rfl sc_law_names.nd (pi_list (pv 8)) (blkOk_by (own := [("_law_one", 10)]) (N := N_law_names) (sc := defScope s_law_names) (by decide +kernel)) (fun _ _ _ _ _ => (pg_name (i := 10) sc_law_names.nd rfl (by first | exact Or.inl rfl | exact Or.inr rfl))) (fun _ _ _ _ _ => (pts_one (pt_cmpR op_notIn_seq (pv 10) (pv 4) rfl))) (fun _ _ _ _ _ => (pv 10))) pe_int (fun _ _ => rfl)) pa_nil))))))))))
 (pss_one (ps_ret (pv 4))))))), ?_⟩
    refine ⟨by show 10 ≤ sizeLine; decide, fun wl hwl => ?_⟩
    have nw := pu.ne hwl
    have s1 := same_new (o := .lst (strV wordsL)) hwl
    have w1 : (upd H wl (.lst (strV wordsL))) wl = some (.lst (strV wordsL)) := upd_same
    have pu1 := pu.same s1
    refine ⟨by show 0 ≤ sizeLine; decide, fun p hp => ?_⟩
    have np : p ≠ a := pu1.ne hp
    have nwp : wl ≠ p := ne_of_none w1 hp
    have hp0 := same_none s1 hp
    have k2 : Kp [a] H (upd (upd H wl (.lst (strV wordsL))) p (.lst [])) := (s1.trans (same_new hp)).kp
    have w2 := (upd_ne (o := .lst []) nwp).trans w1
    have p2 : (upd (upd H wl (.lst (strV wordsL))) p (.lst [])) p = some (.lst []) := upd_same
    have pu2 := pu1.same (same_new (o := .lst []) hp)
    refine ⟨_, rfl, 3, rfl, by decide, by decide, ?_⟩
    refine for_range (n := 3) (fun i σ H' => ∃ fs v5 v6 v7 v8, σ = [some (.ref a), some (.int 3), some (.ref wl), some (.str sgnS), some (.ref p), v5, v6, v7, v8, none, none] ∧ Kp [a] H H' ∧ PurAt H' a ∧ H' wl = some (.lst (strV wordsL)) ∧ H' p = some (.lst (strV fs)) ∧ fs.length = i ∧ (∀ z ∈ fs, Nam z) ∧ fs.Nodup)
      ⟨[], _, _, _, _, rfl, k2, pu2, w2, p2, rfl, fun z h => (by cases h), List.nodup_nil⟩ ?_ ?_
    · rintro i σ H3 hi ⟨fs, v5, v6, v7, v8, rfl, k3, pu3, w3, p3, fl, fn, fd⟩
      -- how long
      refine tif_cutG (fun v H' => ∃ s : Nat, v = .int (s : Nat) ∧ s ≤ 7 ∧ Kp [a] H3 H' ∧ PurAt H' a) (fun v H4 ⟨s, e, hs, k4, pu4⟩ => ?_) (fun key => ?_)
      rotate_left
      · refine ⟨_, rfl, a, 4, rfl, pu3, by decide, by decide, fun H4 d k4 pu4 hd => ?_⟩
        refine ⟨rfl, _, rfl, iteB (fun _ => ?_) (fun _ => ?_)⟩
        · exact ⟨_, rfl, a, 8, rfl, pu4, by decide, by decide, fun H5 d' k5 pu5 hd' => key _ _ ⟨d', rfl, by omega, k4.trans k5, pu5⟩⟩
        · exact ⟨_, rfl, a, 2, rfl, pu4, by decide, by decide, fun H5 d' k5 pu5 hd' => key _ _ ⟨d', rfl, by omega, k4.trans k5, pu5⟩⟩
      subst e
      -- the first sign
      refine ⟨_, rfl, _, rfl, a, 26, rfl, pu4, by decide, by decide, fun H5 d k5 pu5 hd => ?_⟩
      obtain ⟨c, hc1, hc2⟩ := sgn_at26 hd
      refine ⟨sgnS, (d : Nat), c, rfl, rfl, by show sgnS.length ≤ sizeLine; decide +kernel, atI_nat (j := d) hc1, ?_⟩
      have k35 := k4.trans k5
      -- the others
      refine ⟨_, rfl, ⟨_, rfl⟩, _, rfl, (s : Nat), rfl, by omega, by omega, fun D hD => ?_⟩
      have nD := pu5.ne hD
      refine lc_range (n := s) (fun t H' => ∃ cs : List Nat, Kp [a] H5 H' ∧ PurAt H' a ∧ H' D = some (.lst (strV (cs.map fun d => (⟨#[d]⟩ : Str)))) ∧ cs.length = t ∧ ∀ d ∈ cs, d ∈ abc0) ⟨[], (same_new hD).kp, pu5.upd_ nD, upd_same, rfl, fun d h => by cases h⟩ ?_ ?_
      · rintro t H6 ht ⟨cs, k6, pu6, d6, cl6, ca6⟩
        refine ⟨rfl, _, rfl, _, rfl, a, 36, rfl, pu6, by decide, by decide, fun H7 d k7 pu7 hd => ?_⟩
        obtain ⟨c', hc1', hc2'⟩ := sgn_at hd
        have d7 := k7 _ _ d6 (by simp [nD])
        refine ⟨sgnS, (d : Nat), c', rfl, rfl, by show sgnS.length ≤ sizeLine; decide +kernel, atI_nat (j := d) hc1', _, d7, sl2 (by rw [List.length_map, List.length_map]; omega), cs ++ [c'], ?_, pu7.upd_ nD, ?_, by simp [cl6], fun e he => ?_⟩
        · intro b o h n
          have nb : b ≠ D := ne_of_none h hD
          rw [upd_ne nb]
          exact k7 _ _ (k6 _ _ h n) n
        · rw [upd_same]
          simp [strV]
        · rcases List.mem_append.mp he with h | h
          · exact ca6 e h
          · rw [List.mem_singleton.mp h]
            exact hc2'
      rintro H6 ⟨cs, k6, pu6, d6, cl6, ca6⟩
      obtain ⟨nm, ej⟩ := nam_join hc2 ca6 (by omega)
      have jl : (Txt.join "" (cs.map fun d => (⟨#[d]⟩ : Str))).length = cs.length := by
        show (Txt.join "" (cs.map fun d => (⟨#[d]⟩ : Str))).cps.size = _
        rw [← Array.length_toList, ej]
      refine ⟨"", D, cs.map fun d => (⟨#[d]⟩ : Str), rfl, rfl, .inl (SqL.of d6), ?_, ?_⟩
      · have e1 : ∀ cs : List Nat, ((cs.map fun d => (⟨#[d]⟩ : Str)).map (·.length)).sum = cs.length := fun cs => by
          induction cs with
          | nil => rfl
          | cons d cs ih =>
            rw [List.map_cons, List.map_cons, List.sum_cons, ih, List.length_cons]
            show 1 + cs.length = cs.length + 1
            omega
        rw [e1, List.length_map, show (("" : Str)).length = 0 by decide +kernel]
        omega
      refine ⟨_, _, rfl, rfl, sl1 (by rw [jl]; show 1 + cs.length ≤ 100000; omega), ?_⟩
      have k36 := k35.trans k6
      generalize (⟨#[c]⟩ : Str) ++ Txt.join "" (cs.map fun d => (⟨#[d]⟩ : Str)) = z0 at nm ⊢
      have w6 := k36 _ _ w3 (by simp [nw])
      have p6 := k36 _ _ p3 (by simp [np])
      clear k6 d6 k4 k5
      -- a word of the texts at times
      dsimp only [gName, tSeq, tAsg]
      refine tif_cutG (fun v H' => ∃ z : Str, v = .str z ∧ Nam z ∧ Kp [a] H6 H' ∧ PurAt H' a) (fun v H7 ⟨z, e, nz, k7, pu7⟩ => ?_) (fun key => ?_)
      rotate_left
      · refine ⟨_, rfl, a, 5, rfl, pu6, by decide, by decide, fun H7 d k7 pu7 hd => ?_⟩
        refine ⟨rfl, _, rfl, iteB (fun _ => ?_) (fun _ => ?_)⟩
        · refine ⟨_, rfl, _, rfl, a, 10, rfl, pu7, by decide, by decide, fun H8 d' k8 pu8 hd' => ?_⟩
          have w8 := k8 _ _ (k7 _ _ w6 (by simp [nw])) (by simp [nw])
          have hdl : d' < wordsL.length := hd'
          refine ⟨wl, _, _, _, rfl, rfl, SqL.of w8, atI_nat (j := d') (by rw [List.getElem?_map, List.getElem?_eq_getElem hdl]; rfl), key _ _ ⟨_, rfl, words_nam _ (List.getElem_mem hdl), k7.trans k8, pu8⟩⟩
        · exact ⟨_, rfl, key _ _ ⟨z0, rfl, nm, k7, pu7⟩⟩
      subst e
      have k37 := k36.trans k7
      have p7 := k7 _ _ p6 (by simp [np])
      have w7 := k7 _ _ w6 (by simp [nw])
      have k07 := k3.trans k37
      clear k7 k36 k35 w6 p6 pu6
      -- what is spare
      refine ⟨_, rfl, by show 1 ≤ sizeLine; decide, fun l1 hl1 => ?_⟩
      have s8 := same_new (o := .lst [.str z]) hl1
      have x8 : (upd H7 l1 (.lst [.str z])) l1 = some (.lst [.str z]) := upd_same
      generalize upd H7 l1 (.lst [.str z]) = H8 at s8 x8 ⊢
      refine ⟨_, rfl, 3, rfl, by decide, by decide, fun l2 hl2 => ?_⟩
      refine lc_range (n := 3) (fun t H' => H' = upd H8 l2 (.lst (strV (zsL.take t)))) rfl ?_ ?_
      · rintro t H' ht rfl
        refine ⟨rfl, _, rfl, _, rfl, ?_, _, _, rfl, rfl, ?_, _, upd_same, sl2 (by rw [List.length_map, List.length_take]; omega), ?_⟩
        · match t, ht with
          | 0, _ => decide +kernel
          | 1, _ => decide +kernel
          | 2, _ => decide +kernel
        · match t, ht with
          | 0, _ => exact sl1 (by decide +kernel)
          | 1, _ => exact sl1 (by decide +kernel)
          | 2, _ => exact sl1 (by decide +kernel)
        · rw [upd_upd, List.take_add_one, zs_at t ht]
          simp only [strV, List.map_append, Option.toList_some, List.map_cons, List.map_nil]
      rintro H' rfl
      have s9 := s8.trans (same_new (o := .lst (strV (zsL.take 3))) hl2)
      refine ⟨l1, l2, _, _, rfl, rfl, (upd_ne (ne_of_none x8 hl2)).trans x8, upd_same, by show 1 + 3 ≤ sizeLine; decide, fun l3 hl3 => ?_⟩
      have s10 := s9.trans (same_new (o := .lst ([.str z] ++ strV (zsL.take 3))) hl3)
      have x10 : (upd (upd H8 l2 (.lst (strV (zsL.take 3)))) l3 (.lst ([.str z] ++ strV (zsL.take 3)))) l3 = some (.lst (strV (z :: zsL))) := upd_same
      generalize upd (upd H8 l2 (.lst (strV (zsL.take 3)))) l3 (.lst ([.str z] ++ strV (zsL.take 3))) = H10 at s10 x10 ⊢
      have p10 := s10 _ _ p7
      -- the first that is free
      refine ⟨_, rfl, .inl ⟨rfl, _, SqL.of p10⟩, ?_⟩
      refine ⟨_, rfl, l3, rfl, ⟨_, SqL.of x10⟩, fun D2 hD2 => ?_⟩
      refine lc_list (K := K) (xs := strV (z :: zsL)) (fun t H' => H' = upd H10 D2 (.lst (strV (((z :: zsL).take t).filter fun x => decide (x ∉ fs))))) rfl (fun t H' _ e => by rw [e]; exact SqL.of ((upd_ne (ne_of_none x10 hD2)).trans x10)) ?_ ?_
      · rintro t x H' hx rfl
        rw [List.getElem?_map] at hx
        obtain ⟨y, hy, rfl⟩ := Option.map_eq_some_iff.mp hx
        have ht : t < (z :: zsL).length := (List.getElem?_eq_some_iff.mp hy).1
        have ht4 : t < 4 := ht
        refine ⟨rfl, _, rfl, _, rfl, p, _, rfl, .inl (SqL.of ((upd_ne (ne_of_none p10 hD2)).trans p10)), rfl, flat_strs fs, !inV (.str y) (strV fs), rfl, ?_⟩
        rw [inV_strs, List.take_add_one, hy, List.filter_append]
        refine iteB (fun e => ?_) (fun e => ?_)
        · have e1 : y ∉ fs := by simpa using e
          refine ⟨_, rfl, _, upd_same, sl2 ?_, ?_⟩
          · have := List.length_filter_le (fun x => decide (x ∉ fs)) ((z :: zsL).take t)
            rw [List.length_map]
            rw [List.length_take] at this
            omega
          · rw [upd_upd]
            simp [e1, strV]
        · have e1 : y ∈ fs := by simpa using e
          simp [e1]
      rintro H' rfl
      rw [show (strV (z :: zsL)).length = (z :: zsL).length from List.length_map .., List.take_length]
      obtain ⟨y, r, ey⟩ := free_one (fs := fs) (z := z) (by omega)
      have my : y ∈ (z :: zsL).filter (fun x => decide (x ∉ fs)) := by rw [ey]; exact List.mem_cons_self
      obtain ⟨my1, my2⟩ := List.mem_filter.mp my
      have my2 : y ∉ fs := by simpa using my2
      have ny : Nam y := by
        rcases List.mem_cons.mp my1 with e | h
        · rw [e]
          exact nz
        · exact zs_nam y h
      rw [ey]
      have s11 := s10.trans (same_new (o := .lst (strV (y :: r))) hD2)
      refine ⟨D2, _, _, _, rfl, rfl, SqL.of upd_same, atI_nat (j := 0) rfl, p, strV fs, _, rfl, rfl, s11 _ _ p7, sl2 (by rw [List.length_map]; omega), ?_⟩
      refine ⟨fs ++ [y], _, _, _, _, rfl, fun b o h n => ?_, (pu7.same s11).upd_ np, (upd_ne nwp).trans (s11 _ _ w7), ?_, by simp [fl], fun x hx => ?_, ?_⟩
      · have nb : b ≠ p := ne_of_none h hp0
        rw [upd_ne nb]
        exact s11 _ _ (k07 _ _ h n)
      · rw [upd_same]
        simp [strV]
      · rcases List.mem_append.mp hx with h | h
        · exact fn x h
        · rw [List.mem_singleton.mp h]
          exact ny
      · rw [List.nodup_append]
        exact ⟨fd, by simp, fun x hx b hb e => my2 (by rw [← List.mem_singleton.mp hb, ← e]; exact hx)⟩
    · rintro σ H3 ⟨fs, v5, v6, v7, v8, rfl, k3, pu3, w3, p3, fl, fn, fd⟩
      exact ⟨_, rfl, q H3 p fs k3 pu3 hp0 p3 ⟨fl, fn, fd⟩⟩
end
end K8
end

section
set_option Elab.async false
set_option linter.all false
set_option maxRecDepth 100000
set_option maxHeartbeats 8000000
/-! The law's own helpers: rows. -/
namespace K8
open PySem PySem.Spec PyProof.Rows L2
open KM (T3 nth rt Dn mrg Eqv Snd Got Fm Sg sz triN)
/-- what the boxes hold, as forms -/
def HeldAt (H : Hp) (D : Addr) (bx : List Str) (hs : List FmS) (m : Nat) : Prop := ∃ kvs : List (Key × V), H D = some (.dK kvs) ∧ kvs.length ≤ m ∧ ∀ i, i < 3 → ∃ b, valV kvs (Sum.inr (bxN bx i)) = some (.ref b) ∧ FrAt H b (hs.getD i (.lt ""))
def GoodH (bx : List Str) (hs : List FmS) : Prop := ∀ i, i < 3 → Leafs (hs.getD i (.lt "")) ∧ sz (hs.getD i (.lt "")) ≤ 8 ∧ ∀ z, Fm.lt z ∈ subs (hs.getD i (.lt "")) → z ∈ bx
theorem bxN_inj {bx : List Str} (bn : BoxN bx) {i j : Nat} (hi : i < 3) (hj : j < 3) (e : bxN bx i = bxN bx j) : i = j := by
  obtain ⟨h1, e1⟩ := List.getElem?_eq_some_iff.mp (bn.mem hi).2
  obtain ⟨h2, e2⟩ := List.getElem?_eq_some_iff.mp (bn.mem hj).2
  exact (List.getElem_inj bn.nd).mp (e1.trans (e.trans e2.symm))
theorem eq3 : (" = " : Str) = " " ++ "=" ++ " " := by decide +kernel
theorem row_cp (bx : List Str) (d s : Nat) : bxN bx d ++ " = " ++ bxN bx s = rowT bx (.cp d s) := by
  rw [rowT_cp, eq3]
  simp only [PySem.Str.append_assoc]
theorem row_op (bx : List Str) (g : Sg) (d l r : Nat) : bxN bx d ++ " = " ++ bxN bx l ++ " " ++ sgS g ++ " " ++ bxN bx r = rowT bx (.op g d l r) := by
  rw [rowT_op, eq3]
  simp only [PySem.Str.append_assoc]
def sgL : List Str := ["*", "//", ">>", "="]
section
variable {P : Program} {w : World} {K : PySem.W.Frag} {mg : Str → Option Value} {base : Heap}
def spLRow : Sp := fun vs H Q _ => ∃ (a nl D : Addr) (bx : List Str) (hs : List FmS) (m : Nat), vs = [.ref a, .ref nl, .ref D] ∧ PurAt H a ∧ H nl = some (.lst (strV bx)) ∧ nl ≠ a ∧ BoxN bx ∧ HeldAt H D bx hs m ∧ m ≤ 50 ∧ hs.length = 3 ∧ GoodH bx hs ∧
  ∀ H' st, Kp [a, D] H H' → PurAt H' a → st.ok → HeldAt H' D bx (heldT hs st) (m + 1) → GoodH bx (heldT hs st) → Q (.str (rowT bx st)) H'
abbrev N_law_row : List Str := ["_law_purse_here", "_law_names_here", "_law_held", "_law_name", "_law_one", "_law_other", "_law_sign", "_law_form", "_law_k"]
theorem sc_law_row : FnScope N_law_row ["_law_purse_here", "_law_names_here", "_law_held"] (defScope s_law_row) := ⟨rfl, rfl, rfl, by decide +kernel, rfl, by decide +kernel, by decide +kernel⟩
-- slots: 0 _law_purse_here, 1 _law_names_here, 2 _law_held, 3 _law_name, 4 _law_one, 5 _law_other, 6 _law_sign, 7 _law_form, 8 _law_k
theorem ok_law_row (T : Tx w K mg) : Ok P w K mg base 10 (a_law_row K) ["_law_purse_here", "_law_names_here", "_law_held"] [] spLRow := by
  obtain ⟨_, _, F_law_pick, b_law_pick, v_law_pick, k_law_pick⟩ := ok_law_pick (P := P) (base := base) T
  obtain ⟨_, _, F_law_size, b_law_size, v_law_size, k_law_size⟩ := ok_law_size (P := P) (base := base) T 9
  refine Ok.of T.f_law_row (fun z F => okBody F sc_law_row (fun vs H Q E h => ?_) fun cdv A outer s H vs Q E hr h => ?_) rfl fun _ _ _ _ _ _ us hl => match us, hl with | [_, _, _], _ => rfl
  · obtain ⟨a, nl, D, bx, hs, m, rfl, _⟩ := h
    rfl
  · obtain ⟨a, nl, D, bx, hs, m, rfl, pu, hnl, nna, bn, ⟨kvs, hD, hkl, hat⟩, hm, hsl, good, q⟩ := h
    have nDa : D ≠ a := fun e => by
      obtain ⟨o, x, y, h, _⟩ := pu
      rw [e, h] at hD
      cases hD
    refine ⟨_, (pss_cons (ps_asg (pe_lcB (own := [("_law_k", 8)]) rfl sc_law_row.nd (pi_range1 (by rfl) T.b_range (pa_cons pe_int pa_nil)) (blkOk_by (own := [("_law_k", 8)]) (N := N_law_row) (sc := defScope s_law_row) (by decide +kernel)) (fun _ _ _ _ _ => (pg_name (i := 8) sc_law_row.nd rfl (by first | exact Or.inl rfl | exact Or.inr rfl))) (fun _ _ _ _ _ => pts_nil) (fun _ _ _ _ _ => (pe_ix ix_list (pv 1) (pe_call F_law_pick (hr.mono (by decide)) rfl T.g_law_pick k_law_pick b_law_pick v_law_pick pass0 (pa_cons (pv 0) (pa_cons pe_int pa_nil))) (fun _ _ => rfl)))) (pg_unl rfl (pgs_cons (pg_name (i := 3) sc_law_row.nd rfl (by first | exact Or.inl rfl | exact Or.inr rfl)) (pgs_cons (pg_name (i := 4) sc_law_row.nd rfl (by first | exact Or.inl rfl | exact Or.inr rfl)) (pgs_cons (pg_name (i := 5) sc_law_row.nd rfl (by first | exact Or.inl rfl | exact Or.inr rfl)) pgs_nil)))))
 (pss_cons (ps_set (i := 6) sc_law_row.nd rfl (by first | exact Or.inl rfl | exact Or.inr rfl) (pe_ix ix_list (pe_lst (pa_cons pe_str (pa_cons pe_str (pa_cons pe_str (pa_cons pe_str pa_nil))))) (pe_call F_law_pick (hr.mono (by decide)) rfl T.g_law_pick k_law_pick b_law_pick v_law_pick pass0 (pa_cons (pv 0) (pa_cons pe_int pa_nil))) (fun _ _ => rfl)))
 (pss_cons (ps_set (i := 7) sc_law_row.nd rfl (by first | exact Or.inl rfl | exact Or.inr rfl) (pe_tup (pa_cons (pv 6) (pa_cons (pe_dget (hu_of hr) (pv 2) (pv 4) (fun _ _ => rfl)) (pa_cons (pe_dget (hu_of hr) (pv 2) (pv 5) (fun _ _ => rfl)) pa_nil)))))
 (pss_cons (ps_if (PW.pt (pw_or (pt_cmpR op_eq (pv 6) pe_str (nomark _)) (pw_or1 (pt_cmpR op_gt (pe_op op_add (pe_call F_law_size (hr.mono (by decide)) rfl T.g_law_size k_law_size b_law_size v_law_size pass0 (pa_cons (pe_dget (hu_of hr) (pv 2) (pv 4) (fun _ _ => rfl)) pa_nil)) (pe_call F_law_size (hr.mono (by decide)) rfl T.g_law_size k_law_size b_law_size v_law_size pass0 (pa_cons (pe_dget (hu_of hr) (pv 2) (pv 5) (fun _ _ => rfl)) pa_nil))) pe_int (nomark _))))) (pss_cons (ps_dput (hu_of hr) (pv 2) (pv 3) (pe_dget (hu_of hr) (pv 2) (pv 4) (fun _ _ => rfl)) rfl)
 (pss_one (ps_ret (pe_op op_add_str (pe_op op_add_str (pv 3) pe_str) (pv 4))))) pss_nil)
 (pss_cons (ps_dput (hu_of hr) (pv 2) (pv 3) (pv 7) rfl)
 (pss_one (ps_ret (pe_op op_add_str (pe_op op_add_str (pe_op op_add_str (pe_op op_add_str (pe_op op_add_str (pe_op op_add_str (pv 3) pe_str) (pv 4)) pe_str) (pv 6)) pe_str) (pv 5))))))))), ?_⟩
    -- three boxes
    refine ⟨3, rfl, by decide, by decide, fun D1 hD1 => ?_⟩
    have nD1 := pu.ne hD1
    refine lc_range (n := 3) (fun t H' => ∃ ds : List Nat, Kp [a] H H' ∧ PurAt H' a ∧ H' D1 = some (.lst (strV (ds.map (bxN bx)))) ∧ ds.length = t ∧ ∀ d ∈ ds, d < 3) ⟨[], (same_new hD1).kp, pu.upd_ nD1, upd_same, rfl, fun d h => by cases h⟩ ?_ ?_
    · rintro t H1 ht ⟨ds, k1, pu1, d1, dl1, dm1⟩
      refine ⟨rfl, _, rfl, _, rfl, a, 3, rfl, pu1, by decide, by decide, fun H2 d k2 pu2 hd => ?_⟩
      have d2 := k2 _ _ d1 (by simp [nD1])
      have n2 := k2 _ _ (k1 _ _ hnl (by simp [nna])) (by simp [nna])
      refine ⟨nl, _, _, _, rfl, rfl, SqL.of n2, atI_nat (j := d) (by rw [List.getElem?_map, (bn.mem hd).2]; rfl), _, d2, sl2 (by rw [List.length_map, List.length_map]; omega), ds ++ [d], ?_, pu2.upd_ nD1, ?_, by simp [dl1], fun x hx => ?_⟩
      · intro b o h n
        rw [upd_ne (ne_of_none h hD1)]
        exact k2 _ _ (k1 _ _ h n) n
      · rw [upd_same]
        simp [strV]
      · rcases List.mem_append.mp hx with h | h
        · exact dm1 x h
        · rw [List.mem_singleton.mp h]
          exact hd
    rintro H1 ⟨ds, k1, pu1, d1, dl1, dm1⟩
    obtain ⟨d, l, r, rfl⟩ : ∃ d l r, ds = [d, l, r] := by
      match ds, dl1 with
      | [d, l, r], _ => exact ⟨d, l, r, rfl⟩
    have h3d := dm1 d (by simp)
    have h3l := dm1 l (by simp)
    have h3r := dm1 r (by simp)
    refine ⟨D1, _, rfl, SqL.of d1, rfl, _, _, rfl, _, _, rfl, _, _, rfl, rfl, ?_⟩
    -- the sign
    refine ⟨by show 4 ≤ sizeLine; decide, fun sl hsl' => ?_⟩
    have s2 : Same H1 (upd H1 sl (.lst (strV sgL))) := same_new hsl'
    have e2 : (upd H1 sl (.lst (strV sgL))) sl = some (.lst (strV sgL)) := upd_same
    have nsl := pu1.ne hsl'
    refine ⟨_, rfl, a, 4, rfl, pu1.same s2, by decide, by decide, fun H3 g k3 pu3 hg => ?_⟩
    have e3 := k3 _ _ e2 (by simp [nsl])
    have k03 : Kp [a] H H3 := k1.trans (s2.kp.trans k3)
    have D3 := k03 _ _ hD (by simp [nDa])
    have fr3 : ∀ {b F}, FrAt H b F → FrAt H3 b F := fun {b F} h => h.keep fun y xs hy => k03 _ _ hy (by
      simp only [List.mem_singleton]
      intro e
      obtain ⟨o, x1, y1, hh, _⟩ := pu
      rw [e, hh] at hy
      cases hy)
    obtain ⟨sg, hsg⟩ : ∃ sg, (strV sgL)[g]? = some (.str sg) := by
      have hgl : g < sgL.length := hg
      exact ⟨sgL[g], by rw [List.getElem?_map, List.getElem?_eq_getElem hgl]; rfl⟩
    refine ⟨sl, _, _, _, rfl, rfl, SqL.of e3, atI_nat (j := g) hsg, ?_⟩
    -- the form
    obtain ⟨bl, vl, fl⟩ := hat l h3l
    obtain ⟨br, vr, fr⟩ := hat r h3r
    have fl3 := fr3 fl
    have fr3' := fr3 fr
    refine ⟨_, rfl, _, rfl, _, rfl, D, _, rfl, DGet.s D3 vl, _, rfl, _, rfl, D, _, rfl, DGet.s D3 vr, by show 3 ≤ sizeLine; decide, fun pf hpf => ?_⟩
    have s4 : Same H3 (upd H3 pf (.tup [.str sg, .ref bl, .ref br])) := same_new hpf
    have t4 : (upd H3 pf (.tup [.str sg, .ref bl, .ref br])) pf = some (.tup [.str sg, .ref bl, .ref br]) := upd_same
    have k04 : Kp [a] H (upd H3 pf (.tup [.str sg, .ref bl, .ref br])) := k03.trans s4.kp
    have pu4 := pu3.same s4
    have fr4 : ∀ {b F}, FrAt H b F → FrAt (upd H3 pf (.tup [.str sg, .ref bl, .ref br])) b F := fun {b F} h => (fr3 h).same s4
    have D4 := s4 _ _ D3
    generalize upd H3 pf (.tup [.str sg, .ref bl, .ref br]) = H4 at s4 t4 k04 pu4 fr4 D4 ⊢
    have fl4 := fr4 fl
    have fr4' := fr4 fr
    obtain ⟨g1, g2, g3⟩ := good l h3l
    obtain ⟨g4, g5, g6⟩ := good r h3r
    -- the dict behind
    have nx : ∀ (st : Stp) (bn' : Addr) (F : FmS), FrAt H4 bn' F → (heldT hs st) = hs.set d F → HeldAt (upd H4 D (.dK (putK kvs (Sum.inr (bxN bx d)) (.ref bn')))) D bx (heldT hs st) (m + 1) := fun st bn' F hF e => by
      have kd : ∀ b xs, H4 b = some (.tup xs) → (upd H4 D (.dK (putK kvs (Sum.inr (bxN bx d)) (.ref bn')))) b = some (.tup xs) := fun b xs hb => (upd_ne (fun e => by rw [e, D4] at hb; cases hb)).trans hb
      refine ⟨_, upd_same, Nat.le_trans (length_putK _ _ _) (by omega), fun i hi => ?_⟩
      rw [e, getD_set (by rw [hsl]; exact h3d), valV_put]
      by_cases c : i = d
      · subst c
        exact ⟨bn', by rw [if_pos rfl], by rw [if_pos rfl]; exact hF.keep kd⟩
      · obtain ⟨b, v, f⟩ := hat i hi
        refine ⟨b, by rw [if_neg (fun z => c (bxN_inj bn hi h3d (by injection z)))]; exact v, by rw [if_neg c]; exact (fr4 f).keep kd⟩
    have gx : ∀ (F : FmS), Leafs F → sz F ≤ 8 → (∀ z, Fm.lt z ∈ subs F → z ∈ bx) → GoodH bx (hs.set d F) := fun F f1 f2 f3 i hi => by
      rw [getD_set (by rw [hsl]; exact h3d)]
      by_cases c : i = d
      · rw [if_pos c]
        exact ⟨f1, f2, f3⟩
      · rw [if_neg c]
        exact good i hi
    have n8 : ∀ i, i < 3 → (bxN bx i).length ≤ 8 := fun i hi => (bn.nam _ (bn.mem hi).1).le
    have ld := n8 d h3d
    have ll := n8 l h3l
    have lr := n8 r h3r
    have e1l : ((" = " : Str)).length = 3 := by decide +kernel
    have e2l : ((" " : Str)).length = 1 := by decide +kernel
    have kfin : ∀ o, Kp [a, D] H (upd H4 D o) := fun o => kp_upd (k04.mono (by simp)) (by simp)
    -- a copy
    dsimp only [gName]
    refine seq_cut (t := tIfS _ _ _) (fun σ H' => H' = H4 ∧ σ = [some (.ref a), some (.ref nl), some (.ref D), some (.str (bxN bx d)), some (.str (bxN bx l)), some (.str (bxN bx r)), some (.str sg), some (.ref pf), none] ∧ sz (hs.getD l (.lt "")) + sz (hs.getD r (.lt "")) ≤ 7 ∧ sg ≠ "=") ?_ (fun key => ?_)
    · rintro σ H' ⟨rfl, rfl, h7, nse⟩
      obtain ⟨s', rfl⟩ : ∃ s', sg = sgS s' := by
        match g, hg with
        | 0, _ => exact ⟨.mul, by injection hsg with e; injection e with e; exact e.symm⟩
        | 1, _ => exact ⟨.ldv, by injection hsg with e; injection e with e; exact e.symm⟩
        | 2, _ => exact ⟨.rdv, by injection hsg with e; injection e with e; exact e.symm⟩
        | 3, _ => exact absurd (by injection hsg with e; injection e with e; exact e.symm) nse
      have ls := sg_len s'
      refine ⟨_, rfl, _, rfl, _, rfl, D, _, rfl, DPut.k (k := Sum.inr (bxN bx d)) D4 (sl2 (by omega)), ?_⟩
      refine ⟨_, rfl, _, _, rfl, rfl, sl1 (by omega), _, rfl, _, _, rfl, rfl, sl1 (by simp only [PySem.Str.length_append]; omega), ?_⟩
      refine ⟨_, _, rfl, rfl, sl1 (by simp only [PySem.Str.length_append]; omega), _, rfl, _, _, rfl, rfl, sl1 (by simp only [PySem.Str.length_append]; omega), ?_⟩
      refine ⟨_, _, rfl, rfl, sl1 (by simp only [PySem.Str.length_append]; omega), _, rfl, _, _, rfl, rfl, sl1 (by simp only [PySem.Str.length_append]; omega), ?_⟩
      exact ans (Q := Q) (congrArg V.str (row_op bx s' d l r)) (q _ (.op s' d l r) (kfin _) (pu4.upd_ nDa) ⟨h3d, h3l, h3r⟩ (nx (.op s' d l r) pf (.op s' (hs.getD l (.lt "")) (hs.getD r (.lt ""))) ⟨bl, br, t4, fl4, fr4'⟩ rfl) (gx _ ⟨g1, g4⟩ (by show sz _ + sz _ + 1 ≤ 8; omega) fun z hz => by
        have e : (Fm.lt z = .op s' (hs.getD l (.lt "")) (hs.getD r (.lt "")) ∨ Fm.lt z ∈ subs (hs.getD l (.lt ""))) ∨ Fm.lt z ∈ subs (hs.getD r (.lt "")) := by simpa [subs, or_assoc] using hz
        rcases e with (e | e) | e
        · cases e
        · exact g3 z e
        · exact g6 z e))
    · refine ⟨_, rfl, rfl, _, rfl, iteB (fun hb => ?_) (fun hb => ?_)⟩
      · refine iteT ?_
        refine ⟨_, rfl, _, rfl, D, _, rfl, DGet.s D4 vl, _, rfl, _, rfl, D, _, rfl, DPut.k (k := Sum.inr (bxN bx d)) D4 (sl2 (by omega)), ?_⟩
        refine ⟨_, rfl, _, _, rfl, rfl, sl1 (by omega), _, rfl, _, _, rfl, rfl, sl1 (by rw [PySem.Str.length_append]; omega), ?_⟩
        exact ans (Q := Q) (congrArg V.str (row_cp bx d l)) (q _ (.cp d l) (kfin _) (pu4.upd_ nDa) ⟨h3d, h3l⟩ (nx (.cp d l) bl _ fl4 rfl) (gx _ g1 g2 g3))
      · have nse : sg ≠ "=" := fun e => by
          have z := of_decide_eq_false hb
          exact z (by rw [e])
        refine ⟨_, rfl, _, rfl, D, _, rfl, DGet.s D4 vl, bl, _, rfl, fl4, by omega, ?_⟩
        refine ⟨_, rfl, _, rfl, D, _, rfl, DGet.s D4 vr, br, _, rfl, fr4', by omega, _, _, rfl, rfl, _, _, rfl, rfl, _, rfl, iteB (fun hb2 => ?_) (fun hb2 => ?_)⟩
        · refine ⟨_, rfl, _, rfl, D, _, rfl, DGet.s D4 vl, _, rfl, _, rfl, D, _, rfl, DPut.k (k := Sum.inr (bxN bx d)) D4 (sl2 (by omega)), ?_⟩
          refine ⟨_, rfl, _, _, rfl, rfl, sl1 (by omega), _, rfl, _, _, rfl, rfl, sl1 (by rw [PySem.Str.length_append]; omega), ?_⟩
          exact ans (Q := Q) (congrArg V.str (row_cp bx d l)) (q _ (.cp d l) (kfin _) (pu4.upd_ nDa) ⟨h3d, h3l⟩ (nx (.cp d l) bl _ fl4 rfl) (gx _ g1 g2 g3))
        · have z := of_decide_eq_false hb2
          exact key _ _ ⟨rfl, rfl, by omega, nse⟩
end
end K8
end

section
set_option Elab.async false
set_option linter.all false
set_option maxRecDepth 100000
set_option maxHeartbeats 16000000
/-! The law's own helper _law_right. -/
namespace K8
open PySem PySem.Spec PyProof.Rows L2
open KM (T3 nth rt Dn mrg Eqv Snd Got Fm Sg sz triN)
theorem heldR_snoc (h : List FmS) (sts : List Stp) (s : Stp) : heldR h (sts ++ [s]) = heldT (heldR h sts) s := by
  unfold heldR
  rw [List.foldl_append]
  rfl
theorem heldR_len {h : List FmS} (sts : List Stp) : (heldR h sts).length = h.length := by
  induction sts generalizing h with
  | nil => rfl
  | cons s r ih =>
    show (heldR (heldT h s) r).length = _
    rw [ih]
    cases s <;> exact List.length_set ..
theorem good0 {bx : List Str} (bn : BoxN bx) : GoodH bx (held0 bx) := fun i hi => by
  have e : (held0 bx).getD i (.lt "") = .lt (bxN bx i) := by
    match i, hi with
    | 0, _ => rfl
    | 1, _ => rfl
    | 2, _ => rfl
  rw [e]
  refine ⟨bn.nam _ (bn.mem hi).1, Nat.zero_le _, fun z hz => ?_⟩
  have : Fm.lt z = .lt (bxN bx i) := by simpa [subs] using hz
  injection this with this
  rw [this]
  exact (bn.mem hi).1
/-- a script drawn, and the forms of its boxes -/
structure RA (K : PySem.W.Frag) (H H' : Hp) (a kk nl D rw_ : Addr) (L : KM.Lot) (calm : Bool) (bx : List Str) (sts : List Stp) (m : Nat) : Prop where
  kp : Kp [a] H H'
  pu : PurAt H' a
  kind : KindAt K H' kk L calm
  nms : H' nl = some (.lst (strV bx))
  bn : BoxN bx
  held : HeldAt H' D bx (heldR (held0 bx) sts) m
  good : GoodH bx (heldR (held0 bx) sts)
  ok : ∀ s ∈ sts, s.ok
  rows : H' rw_ = some (.lst (strV (sts.map (rowT bx))))
section
variable {K : PySem.W.Frag} {H H1 H2 : Hp} {a kk nl D rw_ : Addr} {L : KM.Lot} {calm : Bool} {bx : List Str} {sts : List Stp} {m : Nat}
/-- a draw, or new objects -/
theorem RA.draw (R : RA K H H1 a kk nl D rw_ L calm bx sts m) (k : Kp [a] H1 H2) (pu : PurAt H2 a) (n1 : nl ≠ a) (n2 : rw_ ≠ a) : RA K H H2 a kk nl D rw_ L calm bx sts m := by
  have ni : ∀ {y : Addr} {o : HO}, H1 y = some o → (∀ xs, o ≠ .lst xs) → H2 y = some o := fun {y o} h n => k _ _ h (by
    simp only [List.mem_singleton]
    intro e
    obtain ⟨x, y', c, h', _⟩ := R.pu
    rw [e, h'] at h
    exact n _ (Option.some.inj h).symm)
  obtain ⟨dx, hk⟩ := R.kind
  obtain ⟨kvs, h1, h2, h3⟩ := R.held
  exact ⟨R.kp.trans k, pu, ⟨dx, ni hk (fun _ z => by cases z)⟩, k _ _ R.nms (by simp [n1]), R.bn, ⟨kvs, ni h1 (fun _ z => by cases z), h2, fun i hi => let ⟨b, b1, b2⟩ := h3 i hi; ⟨b, b1, b2.keep fun y xs hy => ni hy (fun _ z => by cases z)⟩⟩, R.good, R.ok, k _ _ R.rows (by simp [n2])⟩
theorem RA.same (R : RA K H H1 a kk nl D rw_ L calm bx sts m) (e : Same H1 H2) (n1 : nl ≠ a) (n2 : rw_ ≠ a) : RA K H H2 a kk nl D rw_ L calm bx sts m := R.draw e.kp (R.pu.same e) n1 n2
/-- a row more -/
theorem RA.row (R : RA K H H1 a kk nl D rw_ L calm bx sts m) {st : Stp} (k : Kp [a, D] H1 H2) (pu : PurAt H2 a) (ok : st.ok) (held : HeldAt H2 D bx (heldT (heldR (held0 bx) sts) st) (m + 1)) (good : GoodH bx (heldT (heldR (held0 bx) sts) st)) (n1 : nl ≠ a) (n2 : rw_ ≠ a) (n3 : nl ≠ rw_) (n4 : D ≠ a)
    (D0 : ∀ b o, H b = some o → b ≠ a → b ≠ D ∧ b ≠ rw_) :
    H2 rw_ = some (.lst (strV (sts.map (rowT bx)))) ∧ RA K H (upd H2 rw_ (.lst (strV (sts.map (rowT bx)) ++ [.str (rowT bx st)]))) a kk nl D rw_ L calm bx (sts ++ [st]) (m + 1) := by
  obtain ⟨dx, hk⟩ := R.kind
  obtain ⟨kvs, h1, h2, h3⟩ := R.held
  have nrD : rw_ ≠ D := fun e => by
    have z := R.rows
    rw [e, h1] at z
    cases z
  have nnD : nl ≠ D := fun e => by
    have z := R.nms
    rw [e, h1] at z
    cases z
  have r2 : H2 rw_ = some (.lst (strV (sts.map (rowT bx)))) := k _ _ R.rows (by simp [n2, nrD])
  refine ⟨r2, ⟨fun b o h n => ?_, pu.upd_ n2, ⟨dx, ?_⟩, (upd_ne n3).trans (k _ _ R.nms (by simp [n1, nnD])), R.bn, ?_, by rw [heldR_snoc]; exact good, fun s hs => ?_, ?_⟩⟩
  · have na : b ≠ a := by simpa using n
    obtain ⟨d1, d2⟩ := D0 b o h na
    rw [upd_ne d2]
    exact k _ _ (R.kp _ _ h n) (by simp [na, d1])
  · have nk1 : kk ≠ a := fun e => by
      obtain ⟨x, y', c, h', _⟩ := R.pu
      rw [e, h'] at hk
      cases hk
    have nk2 : kk ≠ D := fun e => by
      rw [e, h1] at hk
      cases hk
    have nk3 : kk ≠ rw_ := fun e => by
      have z := R.rows
      rw [← e, hk] at z
      cases z
    rw [upd_ne nk3]
    exact k _ _ hk (by simp [nk1, nk2])
  · rw [heldR_snoc]
    obtain ⟨kvs', g1, g2, g3⟩ := held
    refine ⟨kvs', (upd_ne nrD.symm).trans g1, g2, fun i hi => ?_⟩
    obtain ⟨b, b1, b2⟩ := g3 i hi
    exact ⟨b, b1, b2.keep fun y xs hy => (upd_ne (fun e => by rw [e, r2] at hy; cases hy)).trans hy⟩
  · rcases List.mem_append.mp hs with h | h
    · exact R.ok s h
    · rw [List.mem_singleton.mp h]
      exact ok
  · rw [upd_same]
    simp [strV]
end
theorem fsAt_map {K : PySem.W.Frag} {H : Hp} {f : Nat → Addr} {g : Nat → FmS} : ∀ {js : List Nat}, (∀ j ∈ js, FmAt K H (f j) (g j)) → FsAt K H (js.map f) (js.map g)
  | [], _ => .nil
  | j :: js, h => .cons (h j List.mem_cons_self) (fsAt_map fun k hk => h k (List.mem_cons_of_mem _ hk))
section
variable {P : Program} {w : World} {K : PySem.W.Frag} {mg : Str → Option Value} {base : Heap}
def spRight : Sp := fun vs H Q _ => ∃ (a : Addr), vs = [.ref a] ∧ PurAt H a ∧ ∀ H', Kp [a] H H' → Q (.bl true) H'
abbrev N_law_right : List Str := ["_law_purse_here", "_law_kind_here", "_law_names_here", "_law_rules", "_law_held", "_law_rows", "_law_name", "_law_turn", "_law_mine", "_law_end", "_law_forms", "_law_k", "_law_near", "_law_due", "_law_part", "_law_have"]
theorem sc_law_right : FnScope N_law_right ["_law_purse_here"] (defScope s_law_right) := ⟨rfl, rfl, rfl, by decide +kernel, rfl, by decide +kernel, by decide +kernel⟩
-- slots: 0 _law_purse_here, 1 _law_kind_here, 2 _law_names_here, 3 _law_rules, 4 _law_held, 5 _law_rows, 6 _law_name, 7 _law_turn, 8 _law_mine, 9 _law_end, 10 _law_forms, 11 _law_k, 12 _law_near, 13 _law_due, 14 _law_part, 15 _law_have
theorem ok_law_right (T : Tx w K mg) : Ok P w K mg base 20 (a_law_right K) ["_law_purse_here"] [] spRight := by
  obtain ⟨_, _, F_law_names, b_law_names, v_law_names, k_law_names⟩ := ok_law_names (P := P) (base := base) T
  obtain ⟨_, _, F_law_kind, b_law_kind, v_law_kind, k_law_kind⟩ := ok_law_kind (P := P) (base := base) T
  obtain ⟨_, F_Kind_init, _, b_Kind_init⟩ := kb_Kind (P := P) (base := base) T
  obtain ⟨_, _, F_law_pick, b_law_pick, v_law_pick, k_law_pick⟩ := ok_law_pick (P := P) (base := base) T
  obtain ⟨_, _, F_law_row, b_law_row, v_law_row, k_law_row⟩ := ok_law_row (P := P) (base := base) T
  obtain ⟨_, _, F_Script_init, b_Script_init, v_Script_init, k_Script_init⟩ := ok_Script_init (P := P) (base := base) T
  obtain ⟨_, _, F_law_made, b_law_made, v_law_made, k_law_made⟩ := ok_law_made (P := P) (base := base) T 9
  obtain ⟨_, _, F_follows, b_follows, v_follows, k_follows⟩ := ok_follows (P := P) (base := base) T
  obtain ⟨_, _, F_surely_same, b_surely_same, v_surely_same, k_surely_same⟩ := ok_surely_same (P := P) (base := base) T
  obtain ⟨_, _, F_law_subsets, b_law_subsets, v_law_subsets, k_law_subsets⟩ := ok_law_subsets (P := P) (base := base) T
  obtain ⟨_, _, F_tells, b_tells, v_tells, k_tells⟩ := ok_tells (P := P) (base := base) T
  obtain ⟨_, _, F_letter, b_letter, v_letter, k_letter⟩ := ok_letter (P := P) (base := base) T
  obtain ⟨_, _, F_gives_back, b_gives_back, v_gives_back, k_gives_back⟩ := ok_gives_back (P := P) (base := base) T
  refine Ok.of T.f_law_right (fun z F => okBody F sc_law_right (fun vs H Q E h => ?_) fun cdv A outer s H vs Q E hr h => ?_) rfl fun _ _ _ _ _ _ us hl => match us, hl with | [_], _ => rfl
  · obtain ⟨a, rfl, _⟩ := h
    rfl
  · obtain ⟨a, rfl, pu, q⟩ := h
    refine ⟨_, (pss_cons (ps_asg (pe_tup (pa_cons (pe_call F_law_kind (hr.mono (by decide)) rfl T.g_law_kind k_law_kind b_law_kind v_law_kind pass0 (pa_cons (pv 0) pa_nil)) (pa_cons (pe_call F_law_names (hr.mono (by decide)) rfl T.g_law_names k_law_names b_law_names v_law_names pass0 (pa_cons (pv 0) (pa_cons pe_int pa_nil))) pa_nil))) (pg_tup rfl (pgs_cons (pg_name (i := 1) sc_law_right.nd rfl (by first | exact Or.inl rfl | exact Or.inr rfl)) (pgs_cons (pg_name (i := 2) sc_law_right.nd rfl (by first | exact Or.inl rfl | exact Or.inr rfl)) pgs_nil))))
 (pss_cons (ps_asg (pe_tup (pa_cons (pe_makeK T.mk_Kind F_Kind_init (hr.mono (by decide)) rfl T.g_Kind b_Kind_init pass0 (pa_cons (pe_ix ix_tup (pv 1) pe_int (fun _ _ => rfl)) pa_nil) (pk_cons (pe_ix ix_tup (pv 1) pe_int (fun _ _ => rfl)) pk_nil)) (pa_cons pe_dnewK (pa_cons (pe_lst pa_nil) pa_nil)))) (pg_tup rfl (pgs_cons (pg_name (i := 3) sc_law_right.nd rfl (by first | exact Or.inl rfl | exact Or.inr rfl)) (pgs_cons (pg_name (i := 4) sc_law_right.nd rfl (by first | exact Or.inl rfl | exact Or.inr rfl)) (pgs_cons (pg_name (i := 5) sc_law_right.nd rfl (by first | exact Or.inl rfl | exact Or.inr rfl)) pgs_nil)))))
 (pss_cons (ps_for PassesOwn.never rfl (pi_list (pv 2)) (pg_name (i := 6) sc_law_right.nd rfl (by first | exact Or.inl rfl | exact Or.inr rfl)) (pss_one (ps_dput (hu_of hr) (pv 4) (pv 6) (pe_tup (pa_cons pe_str (pa_cons (pv 6) pa_nil))) rfl)))
 (pss_cons (ps_for PassesOwn.never rfl (pi_range1 (by rfl) T.b_range (pa_cons (pe_op op_add pe_int (pe_call F_law_pick (hr.mono (by decide)) rfl T.g_law_pick k_law_pick b_law_pick v_law_pick pass0 (pa_cons (pv 0) (pa_cons pe_int pa_nil)))) pa_nil)) (pg_name (i := 7) sc_law_right.nd rfl (by first | exact Or.inl rfl | exact Or.inr rfl)) (pss_one (ps_expr (pe_bm PySem.F.plainAttrs_list PySem.F.slot_list_append PySem.F.type_list_append mt_append (pv 5) (pa_cons (pe_call F_law_row (hr.mono (by decide)) rfl T.g_law_row k_law_row b_law_row v_law_row pass0 (pa_cons (pv 0) (pa_cons (pv 2) (pa_cons (pv 4) pa_nil)))) pa_nil)))))
 (pss_cons (ps_par (i := 8) (j := 9) rfl sc_law_right.nd rfl rfl (by decide) rfl rfl (pa_cons (pe_make T.mk_Script F_Script_init (hr.mono (by decide)) rfl T.g_Script b_Script_init v_Script_init pass0 (pa_cons (pv 3) (pa_cons (pe_callTy call_tuple_frz (by rfl) T.b_tuple (by decide +kernel) (pa_cons (pv 2) pa_nil)) (pa_cons (pe_callTy call_tuple_of (by rfl) T.b_tuple (by decide +kernel) (pa_cons (pv 5) pa_nil)) pa_nil)))) (pa_cons (pe_callB call_len_seq (by rfl) T.b_len (by decide +kernel) (pa_cons (pv 5) pa_nil)) pa_nil)) (by rfl))
 (pss_cons (ps_set (i := 10) sc_law_right.nd rfl (by first | exact Or.inl rfl | exact Or.inr rfl) (pe_lcB (own := [("_law_name", 6)]) rfl sc_law_right.nd (pi_list (pv 2)) (blkOk_by (own := [("_law_name", 6)]) (N := N_law_right) (sc := defScope s_law_right) (by decide +kernel)) (fun _ _ _ _ _ => (pg_name (i := 6) sc_law_right.nd rfl (by first | exact Or.inl rfl | exact Or.inr rfl))) (fun _ _ _ _ _ => pts_nil) (fun _ _ _ _ _ => (pe_call F_law_made (hr.mono (by decide)) rfl T.g_law_made k_law_made b_law_made v_law_made pass0 (pa_cons (pe_dget (hu_of hr) (pv 4) (pv 6) (fun _ _ => rfl)) pa_nil)))))
 (pss_cons (ps_for PassesOwn.never rfl (pi_range1 (by rfl) T.b_range (pa_cons pe_int pa_nil)) (pg_name (i := 11) sc_law_right.nd rfl (by first | exact Or.inl rfl | exact Or.inr rfl)) (pss_cons (ps_set (i := 12) sc_law_right.nd rfl (by first | exact Or.inl rfl | exact Or.inr rfl) (pe_op op_mod (pe_callTy call_int1 (by rfl) T.b_int (by decide +kernel) (pa_cons (pe_op op_add (pv 11) pe_int) pa_nil)) pe_int))
 (pss_cons (ps_set (i := 13) sc_law_right.nd rfl (by first | exact Or.inl rfl | exact Or.inr rfl) (pe_call F_follows (hr.mono (by decide)) rfl T.g_follows k_follows b_follows v_follows pass0 (pa_cons (pv 3) (pa_cons (pe_tup pa_nil) (pa_cons (pe_ix ix_list (pv 10) (pv 11) (fun _ _ => rfl)) (pa_cons (pe_ix ix_list (pv 10) (pv 12) (fun _ _ => rfl)) pa_nil))))))
 (pss_one (ps_if (pt_cmpR op_ne (pe_callB call_repr_bl (by rfl) T.b_repr (by decide +kernel) (pa_cons (pe_call F_surely_same (hr.mono (by decide)) rfl T.g_surely_same k_surely_same b_surely_same v_surely_same pass0 (pa_cons (pv 8) (pa_cons (pv 9) (pa_cons (pe_ix ix_list (pv 2) (pv 11) (fun _ _ => rfl)) (pa_cons (pe_ix ix_list (pv 2) (pv 12) (fun _ _ => rfl)) pa_nil))))) pa_nil)) (pe_callB call_repr_bl (by rfl) T.b_repr (by decide +kernel) (pa_cons (pv 13) pa_nil)) (nomark _)) (pss_one (ps_ret pe_bl)) pss_nil)))))
 (pss_cons (ps_for PassesOwn.never rfl (pi_list (pe_call F_law_subsets (hr.mono (by decide)) rfl T.g_law_subsets k_law_subsets b_law_subsets v_law_subsets pass0 (pa_cons (pe_lst (pa_cons pe_int (pa_cons pe_int (pa_cons pe_int pa_nil)))) pa_nil))) (pg_name (i := 14) sc_law_right.nd rfl (by first | exact Or.inl rfl | exact Or.inr rfl)) (pss_cons (ps_set (i := 15) sc_law_right.nd rfl (by first | exact Or.inl rfl | exact Or.inr rfl) (pe_callTy call_tuple_of (by rfl) T.b_tuple (by decide +kernel) (pa_cons (pe_lcB (own := [("_law_k", 11)]) rfl sc_law_right.nd (pi_list (pv 14)) (blkOk_by (own := [("_law_k", 11)]) (N := N_law_right) (sc := defScope s_law_right) (by decide +kernel)) (fun _ _ _ _ _ => (pg_name (i := 11) sc_law_right.nd rfl (by first | exact Or.inl rfl | exact Or.inr rfl))) (fun _ _ _ _ _ => pts_nil) (fun _ _ _ _ _ => (pe_ix ix_list (pv 10) (pv 11) (fun _ _ => rfl)))) pa_nil)))
 (pss_one (ps_for PassesOwn.never rfl (pi_list (pv 2)) (pg_name (i := 6) sc_law_right.nd rfl (by first | exact Or.inl rfl | exact Or.inr rfl)) (pss_cons (ps_set (i := 13) sc_law_right.nd rfl (by first | exact Or.inl rfl | exact Or.inr rfl) (pe_call F_tells (hr.mono (by decide)) rfl T.g_tells k_tells b_tells v_tells pass0 (pa_cons (pv 3) (pa_cons (pe_tup pa_nil) (pa_cons (pv 15) (pa_cons (pe_call F_letter (hr.mono (by decide)) rfl T.g_letter k_letter b_letter v_letter pass0 (pa_cons (pv 6) pa_nil)) pa_nil))))))
 (pss_one (ps_if (pt_cmpR op_ne (pe_callB call_repr_bl (by rfl) T.b_repr (by decide +kernel) (pa_cons (pe_call F_gives_back (hr.mono (by decide)) rfl T.g_gives_back k_gives_back b_gives_back v_gives_back pass0 (pa_cons (pv 8) (pa_cons (pe_callTy call_tuple_of (by rfl) T.b_tuple (by decide +kernel) (pa_cons (pe_lcB (own := [("_law_k", 11)]) rfl sc_law_right.nd (pi_list (pv 14)) (blkOk_by (own := [("_law_k", 11)]) (N := N_law_right) (sc := defScope s_law_right) (by decide +kernel)) (fun _ _ _ _ _ => (pg_name (i := 11) sc_law_right.nd rfl (by first | exact Or.inl rfl | exact Or.inr rfl))) (fun _ _ _ _ _ => pts_nil) (fun _ _ _ _ _ => (pe_ix ix_list (pv 2) (pv 11) (fun _ _ => rfl)))) pa_nil)) (pa_cons (pv 6) pa_nil)))) pa_nil)) (pe_callB call_repr_bl (by rfl) T.b_repr (by decide +kernel) (pa_cons (pv 13) pa_nil)) (nomark _)) (pss_one (ps_ret pe_bl)) pss_nil)))))))
 (pss_one (ps_ret pe_bl)))))))))), ?_⟩
    -- a kind, names
    refine ⟨_, rfl, a, rfl, pu, fun H1 kp L calm k1 pu1 e1 => ?_⟩
    refine ⟨_, rfl, a, rfl, pu1, fun H2 nl bx k2 pu2 n2 l2 bn => ?_⟩
    have nea : ∀ {G : Hp} {y : Addr} {xs : List V}, PurAt G a → G y = some (.tup xs) → y ≠ a := fun {G y xs} h e z => by
      obtain ⟨o, m, c, h, _⟩ := h
      rw [z, h] at e
      cases e
    have e2 := k2 _ _ e1 (by simp [nea pu1 e1])
    have nla : nl ≠ a := by
      intro z
      obtain ⟨o, m, c, h, _⟩ := pu1
      rw [z, h] at n2
      cases n2
    refine ⟨by show 2 ≤ sizeLine; decide, fun tp htp => ?_⟩
    have s3 := same_new (o := .tup [.ref kp, .ref nl]) htp
    have kA := (k1.trans k2).trans s3.kp
    have pu3 := pu2.same s3
    have e3 := s3 _ _ e2
    have l3 := s3 _ _ l2
    have t3 : (upd H2 tp (.tup [.ref kp, .ref nl])) tp = some (.tup [.ref kp, .ref nl]) := upd_same
    generalize upd H2 tp (.tup [.ref kp, .ref nl]) = H3 at s3 kA pu3 e3 l3 t3 ⊢
    refine ⟨tp, _, rfl, SqT.of t3, rfl, _, _, rfl, _, _, rfl, rfl, ?_⟩
    -- the rules, a dict, a list
    refine ⟨_, rfl, kp, _, _, _, rfl, rfl, SqT.of e3, atI_nat (j := 0) rfl, ?_⟩
    refine ⟨_, rfl, kp, _, _, _, rfl, rfl, SqT.of e3, atI_nat (j := 1) rfl, rfl, rfl, fun kk dx hx hdx hne => ?_⟩
    refine ⟨kk, dx, L, calm, rfl, upd_same, fun H4 kd4 k4 => ⟨rfl, fun D hD => ?_⟩⟩
    have k34 : ∀ b o, H3 b = some o → H4 b = some o := fun b o h => by
      have nx : b ≠ kk := ne_of_none h hx
      refine k4 b o ?_ (by simp [nx])
      rw [upd_ne nx, upd_ne (ne_of_none h hdx)]
      exact h
    have s34 : Same H3 H4 := k34
    have s45 := same_new (o := .dK []) hD
    have d5 : (upd H4 D (.dK [])) D = some (.dK []) := upd_same
    have s35 := s34.trans s45
    have kd5 := kd4.same s45
    generalize upd H4 D (.dK []) = H5 at s45 d5 s35 kd5 ⊢
    refine ⟨by show 0 ≤ sizeLine; decide, fun rw_ hrw => ?_⟩
    have s56 := same_new (o := .lst []) hrw
    have r6 : (upd H5 rw_ (.lst [])) rw_ = some (.lst []) := upd_same
    have d6 := s56 _ _ d5
    have s36 := s35.trans s56
    have kd6 := kd5.same s56
    generalize upd H5 rw_ (.lst []) = H6 at s56 r6 d6 s36 kd6 ⊢
    refine ⟨by show 3 ≤ sizeLine; decide, fun tp2 htp2 => ?_⟩
    have s67 := same_new (o := .tup [.ref kk, .ref D, .ref rw_]) htp2
    have t7 : (upd H6 tp2 (.tup [.ref kk, .ref D, .ref rw_])) tp2 = some (.tup [.ref kk, .ref D, .ref rw_]) := upd_same
    have s37 := s36.trans s67
    have r7 := s67 _ _ r6
    have d7 := s67 _ _ d6
    have kd7 := kd6.same s67
    have k07 : Kp [a] H (upd H6 tp2 (.tup [.ref kk, .ref D, .ref rw_])) := kA.trans s37.kp
    have pu7 := pu3.same s37
    have l7 := s37 _ _ l3
    generalize upd H6 tp2 (.tup [.ref kk, .ref D, .ref rw_]) = H7 at s67 t7 s37 r7 d7 kd7 k07 pu7 l7 ⊢
    refine ⟨tp2, _, rfl, SqT.of t7, rfl, _, _, rfl, _, _, rfl, _, _, rfl, rfl, ?_⟩
    have nDa : D ≠ a := fun e => by
      obtain ⟨o, m, c, h, _⟩ := pu7
      rw [e, h] at d7
      cases d7
    have nDn : D ≠ nl := fun e => by
      rw [e, l7] at d7
      cases d7
    have nDr : D ≠ rw_ := fun e => by
      rw [e, r7] at d7
      cases d7
    have nra : rw_ ≠ a := (pu3.same s35).ne hrw
    have nrn : rw_ ≠ nl := (ne_of_none (s35 _ _ l3) hrw).symm
    have D0 : ∀ b o, H b = some o → b ≠ a → b ≠ D ∧ b ≠ rw_ := fun b o h n => ⟨ne_of_none (s34 _ _ (kA _ _ h (by simp [n]))) hD, ne_of_none (s35 _ _ (kA _ _ h (by simp [n]))) hrw⟩
    have bl : (strV bx).length = 3 := by rw [List.length_map]; exact bn.len
    -- each box holds its own letter
    refine ⟨_, rfl, nl, rfl, ⟨_, SqL.of l7⟩, ?_⟩
    refine for_list (K := K) (xs := strV bx) (fun i σ H' => ∃ kvs v6, σ = [some (.ref a), some (.ref kp), some (.ref nl), some (.ref kk), some (.ref D), some (.ref rw_), v6, none, none, none, none, none, none, none, none, none] ∧ Kp [D] H7 H' ∧ H' D = some (.dK kvs) ∧ kvs.length ≤ i ∧
      ∀ j, j < i → ∃ b, valV kvs (Sum.inr (bxN bx j)) = some (.ref b) ∧ H' b = some (.tup [.str "", .str (bxN bx j)])) ⟨[], _, rfl, Kp.refl _ _, d7, Nat.le_refl _, fun j h => absurd h (Nat.not_lt_zero _)⟩ (fun i σ H' _ ⟨_, _, _, k, _⟩ => SqL.of (k _ _ l7 (by simp [nDn.symm]))) ?_ ?_
    · rintro i x σ H8 hx ⟨kvs, v6, rfl, k8, d8, kl8, at8⟩
      have hi : i < 3 := by
        have := (List.getElem?_eq_some_iff.mp hx).1
        omega
      have ex : x = .str (bxN bx i) := by
        rw [List.getElem?_map, (bn.mem hi).2] at hx
        exact (Option.some.inj hx).symm
      subst ex
      refine ⟨_, rfl, by show 2 ≤ sizeLine; decide, fun pt hpt => ?_⟩
      have d9 := (upd_ne (o := .tup [.str "", .str (bxN bx i)]) (ne_of_none d8 hpt)).trans d8
      refine ⟨_, rfl, _, rfl, D, _, rfl, DPut.k (k := Sum.inr (bxN bx i)) d9 (sl2 (by omega)), ?_⟩
      refine ⟨_, _, rfl, kp_upd (k8.trans (same_new hpt).kp) (by simp), upd_same, Nat.le_trans (length_putK _ _ _) (by omega), fun j hj => ?_⟩
      have npD : pt ≠ D := (ne_of_none d8 hpt).symm
      rw [valV_put]
      by_cases e : j = i
      · subst e
        exact ⟨pt, if_pos rfl, (upd_ne npD).trans upd_same⟩
      · obtain ⟨b, b1, b2⟩ := at8 j (by omega)
        refine ⟨b, by rw [if_neg (fun z => e (bxN_inj bn (by omega) hi (by injection z)))]; exact b1, ?_⟩
        rw [upd_ne (fun z => by rw [z, d8] at b2; cases b2), upd_ne (ne_of_none b2 hpt)]
        exact b2
    rintro σ H8 ⟨kvs, v6, rfl, k8, d8, kl8, at8⟩
    have ni8 : ∀ {y : Addr} {o : HO}, H7 y = some o → y ≠ D → H8 y = some o := fun {y o} h n => k8 _ _ h (by simp [n])
    rw [bl] at kl8 at8
    obtain ⟨dkk, hkk⟩ := kd7
    have R8 : RA K H H8 a kk nl D rw_ L calm bx [] 3 := by
      refine ⟨fun b o h n => ?_, ?_, ⟨dkk, ni8 hkk (fun e => by rw [e, d7] at hkk; cases hkk)⟩, ni8 l7 nDn.symm, bn, ⟨kvs, d8, kl8, fun i hi => ?_⟩, good0 bn, fun s h => (by cases h), ni8 r7 nDr.symm⟩
      · have na : b ≠ a := by simpa using n
        exact ni8 (k07 _ _ h n) (D0 b o h na).1
      · obtain ⟨o, m, c, h, h0⟩ := pu7
        exact ⟨o, m, c, ni8 h nDa.symm, h0⟩
      · obtain ⟨b, b1, b2⟩ := at8 i hi
        refine ⟨b, b1, ?_⟩
        have e : (held0 bx).getD i (.lt "") = .lt (bxN bx i) := by
          match i, hi with
          | 0, _ => rfl
          | 1, _ => rfl
          | 2, _ => rfl
        show FrAt H8 b ((held0 bx).getD i (.lt ""))
        rw [e]
        exact b2
    clear k8 d8 kl8 at8 ni8 k07 pu7 l7 d7 r7 s37 hkk t7 s67
    -- the rows
    refine ⟨_, rfl, a, 6, rfl, R8.pu, by decide, by decide, fun H9 d k9 pu9 hd => ?_⟩
    have R9 := R8.draw k9 pu9 nla nra
    refine ⟨_, _, rfl, rfl, ((1 + d : Nat) : Int), congrArg (fun x => [V.int x]) (show (1 : Int) + (d : Int) = ((1 + d : Nat) : Int) by omega), by omega, by omega, ?_⟩
    refine for_range (n := 1 + d) (fun i σ H' => ∃ sts v6 v7, σ = [some (.ref a), some (.ref kp), some (.ref nl), some (.ref kk), some (.ref D), some (.ref rw_), v6, v7, none, none, none, none, none, none, none, none] ∧ RA K H H' a kk nl D rw_ L calm bx sts (3 + i) ∧ sts.length = i)
      ⟨[], _, _, rfl, R9, rfl⟩ ?_ ?_
    · rintro i σ H10 hi ⟨sts, v6, v7, rfl, R10, sl⟩
      refine ⟨_, rfl, .inl ⟨rfl, _, SqL.of R10.rows⟩, ?_⟩
      refine ⟨_, rfl, _, rfl, _, rfl, a, nl, D, bx, heldR (held0 bx) sts, 3 + i, rfl, R10.pu, R10.nms, nla, bn, R10.held, by omega, by rw [heldR_len]; rfl, R10.good, fun H11 st k11 pu11 ok11 held11 good11 => ?_⟩
      obtain ⟨r11, R11⟩ := R10.row k11 pu11 ok11 held11 good11 nla nra nrn.symm nDa D0
      exact ⟨rw_, _, _, rfl, rfl, r11, sl2 (by rw [List.length_map, List.length_map]; omega), sts ++ [st], _, _, rfl, R11, by simp [sl]⟩
    rintro σ H10 ⟨sts, v6, v7, rfl, R10, sl⟩
    have sl1' : 1 ≤ sts.length := by omega
    have sl6 : sts.length ≤ 6 := by omega
    clear R8 R9 k9 pu9 sl
    -- the script
    refine ⟨_, rfl, _, rfl, nl, _, rfl, SqL.of R10.nms, fun l1 ob1 hl1 hob1 => ?_⟩
    have s11 := same_new (o := .frz ob1 (.tup (strV bx))) hl1
    have b11 : BoxT (upd H10 l1 (.frz ob1 (.tup (strV bx)))) l1 (strV bx) := ⟨ob1, hob1, upd_same⟩
    have R11 := R10.same s11 nla nra
    generalize upd H10 l1 (.frz ob1 (.tup (strV bx))) = H11 at s11 b11 R11 ⊢
    refine ⟨_, rfl, rw_, _, rfl, .inl ⟨SqL.of R11.rows, fun l2 hl2 => ?_⟩⟩
    have s12 := same_new (o := .tup (strV (sts.map (rowT bx)))) hl2
    have t12 : (upd H11 l2 (.tup (strV (sts.map (rowT bx))))) l2 = some (.tup (strV (sts.map (rowT bx)))) := upd_same
    have R12 := R11.same s12 nla nra
    have b12 := b11.same s12
    generalize upd H11 l2 (.tup (strV (sts.map (rowT bx)))) = H12 at s12 t12 b12 R12 ⊢
    refine fun sp dsp hsp hdsp hne2 => ?_
    refine ⟨sp, dsp, kk, l1, l2, L, calm, bx, sts, H12, rfl, hsp, same_upd (same_new hdsp) hsp, upd_same, R12.kind, b12, bn, t12, R12.ok, sl1', sl6, fun H13 s13 S13 => ⟨rfl, ?_⟩⟩
    have R13 := R12.same s13 nla nra
    clear R10 R11 R12 b11 b12 t12 s11 s12 s13
    refine ⟨_, rfl, rw_, _, rfl, .inl (SqL.of R13.rows), ?_⟩
    have n13 : ((strV (sts.map (rowT bx))).length : Nat) = sts.length := by rw [List.length_map, List.length_map]
    rw [n13]
    -- the forms
    refine ⟨_, _, rfl, ?_⟩
    refine ⟨_, rfl, nl, rfl, ⟨_, SqL.of R13.nms⟩, fun L0 hL0 => ?_⟩
    refine lc_list (K := K) (xs := strV bx) (fun i H' => Same H13 H' ∧ ∃ fs : List Addr, H' L0 = some (.lst (refV fs)) ∧ fs.length = i ∧ ∀ j, j < i → ∃ b, fs[j]? = some b ∧ FmAt K (era L0 H') b ((heldR (held0 bx) sts).getD j (.lt "")))
      ⟨same_new hL0, [], upd_same, rfl, fun j h => absurd h (Nat.not_lt_zero _)⟩ (fun i H' _ h => SqL.of (R13.same h.1 nla nra).nms) ?_ ?_
    · rintro i x H15 hx ⟨s15, fs, hf, fl, fat⟩
      have R15 := R13.same s15 nla nra
      have hi : i < 3 := by
        have := (List.getElem?_eq_some_iff.mp hx).1
        omega
      have ex : x = .str (bxN bx i) := by
        rw [List.getElem?_map, (bn.mem hi).2] at hx
        exact (Option.some.inj hx).symm
      subst ex
      obtain ⟨kvs, h1, h2, h3⟩ := R15.held
      obtain ⟨b, b1, b2⟩ := h3 i hi
      obtain ⟨g1, g2, g3⟩ := R15.good i hi
      refine ⟨rfl, _, rfl, _, rfl, D, _, rfl, DGet.s h1 b1, b, _, rfl, b2, g1, g2, by omega, fun H16 c s16 hc hcE => ?_⟩
      have f16 := s16 _ _ hf
      have cE := hcE L0 (by rw [hf]; simp)
      have eE : ∀ ys, Same (era L0 H16) (era L0 (upd H16 L0 (.lst ys))) := fun ys y o h => by
        by_cases e : y = L0
        · rw [e] at h
          have z : era L0 H16 L0 = none := if_pos rfl
          rw [z] at h
          cases h
        · rw [era_ne e] at h ⊢
          rw [upd_ne e]
          exact h
      refine ⟨_, f16, sl2 (by rw [List.length_map]; omega), same_upd (s15.trans s16) hL0, fs ++ [c], ?_, by simp [fl], fun j hj => ?_⟩
      · rw [upd_same]
        simp [refV]
      · by_cases e : j = i
        · subst e
          exact ⟨c, by rw [List.getElem?_append_right (by omega), fl]; simp, cE.same (eE _)⟩
        · obtain ⟨b', c1, c2⟩ := fat j (by omega)
          exact ⟨b', by rw [List.getElem?_append_left (by omega)]; exact c1, (c2.same (era_mono s16)).same (eE _)⟩
    rintro H15 ⟨s15, fs, hf, fl, fat⟩
    have R15 := R13.same s15 nla nra
    have S15 := S13.same s15
    rw [bl] at fl fat
    obtain ⟨f0, f1, f2, ef⟩ : ∃ x y z, fs = [x, y, z] := match fs, fl with | [x, y, z], _ => ⟨x, y, z, rfl⟩
    have fat : ∀ j, j < 3 → ∃ b, fs[j]? = some b ∧ FmAt K H15 b ((heldR (held0 bx) sts).getD j (.lt "")) := fun j hj => let ⟨b, h1, h2⟩ := fat j hj; ⟨b, h1, h2.same (era_le _ _)⟩
    clear R13 S13 s15
    -- each against the next
    dsimp only [gName]
    refine ⟨_, rfl, by decide, by decide, ?_⟩
    refine for_range (n := 3) (fun i σ H' => ∃ v11 v12 v13, σ = [some (.ref a), some (.ref kp), some (.ref nl), some (.ref kk), some (.ref D), some (.ref rw_), v6, v7, some (.ref sp), some (.int (sts.length : Nat)), some (.ref L0), v11, v12, v13, none, none] ∧ Same H15 H')
      ⟨none, none, none, rfl, Same.refl _⟩ ?_ ?_
    · rintro i σ H16 hi ⟨v11, v12, v13, rfl, s16⟩
      have e0 : (0 : Int) + ((i : Nat) : Int) = ((i : Nat) : Int) := Int.zero_add _
      obtain ⟨j, hj, ej⟩ : ∃ j : Nat, j < 3 ∧ (((i : Nat) : Int) + 1) % 3 = ((j : Nat) : Int) := ⟨(i + 1) % 3, Nat.mod_lt _ (by decide), by omega⟩
      obtain ⟨bi, bi1, bi2⟩ := fat i hi
      obtain ⟨bj, bj1, bj2⟩ := fat j hj
      dsimp only [gName]
      rw [e0]
      refine ⟨_, rfl, _, _, rfl, rfl, .inl ⟨_, rfl, _, _, rfl, rfl, by show (0 : Int) < 3; decide, ?_⟩⟩
      dsimp only [gName]
      rw [ej]
      refine ⟨_, rfl, by show 0 ≤ sizeLine; decide, fun fc hfc => ?_⟩
      have s17 := s16.trans (same_new (o := .tup []) hfc)
      have c17 : (upd H16 fc (.tup [])) fc = some (.tup []) := upd_same
      generalize upd H16 fc (.tup []) = H17 at s17 c17 ⊢
      have R17 := R15.same s17 nla nra
      refine ⟨_, rfl, _, rfl, L0, _, _, _, rfl, rfl, SqL.of (s17 _ _ hf), atI_nat (j := i) (by rw [List.getElem?_map, bi1]; rfl), ?_⟩
      refine ⟨_, rfl, _, rfl, L0, _, _, _, rfl, rfl, SqL.of (s17 _ _ hf), atI_nat (j := j) (by rw [List.getElem?_map, bj1]; rfl), ?_⟩
      refine ⟨kk, fc, bi, bj, L, calm, _, _, bx, rfl, R17.kind, c17, bi2.same s17, bj2.same s17, fun F hF => ?_, by rw [bn.len]; decide, fun H18 r ops N φ x y s18 sy inj hx hy ex ey hr => ?_⟩
      · rcases List.mem_cons.mp hF with rfl | hF
        · exact R17.good i hi
        · rw [List.mem_singleton.mp hF]
          exact R17.good j hj
      have s18 := s17.trans s18
      have R18 := R15.same s18 nla nra
      refine ⟨_, rfl, _, rfl, _, rfl, _, rfl, nl, _, _, _, rfl, rfl, SqL.of R18.nms, atI_nat (j := i) (by rw [List.getElem?_map, (bn.mem hi).2]; rfl), ?_⟩
      refine ⟨_, rfl, _, rfl, nl, _, _, _, rfl, rfl, SqL.of R18.nms, atI_nat (j := j) (by rw [List.getElem?_map, (bn.mem hj).2]; rfl), ?_⟩
      refine ⟨sp, L, calm, bx, sts, i, j, rfl, S15.same s18, bn, hi, hj, R18.ok, sl1', sl6, fun H19 r2 s19 hr2 => ?_⟩
      have er : r2 = r := by
        rw [Bool.eq_iff_iff, hr2, hr]
        exact law_same bn R18.ok hi hj sy inj hx hy ex ey
      subst er
      exact ⟨r2, rfl, _, rfl, r2, rfl, rfl, false, blNF rfl, iteF ⟨_, _, _, rfl, s18.trans s19⟩⟩
    rintro σ H16 ⟨v11, v12, v13, rfl, s16⟩
    have R16 := R15.same s16 nla nra
    have S16 := S15.same s16
    have f16 := s16 _ _ hf
    have fat : ∀ j, j < 3 → ∃ b, fs[j]? = some b ∧ FmAt K H16 b ((heldR (held0 bx) sts).getD j (.lt "")) := fun j hj => let ⟨b, h1, h2⟩ := fat j hj; ⟨b, h1, h2.same s16⟩
    clear R15 S15 hf s16
    -- the parts
    refine ⟨by show 3 ≤ sizeLine; decide, fun t3 ht3 => ?_⟩
    have s17 := same_new (o := .lst [.int 0, .int 1, .int 2]) ht3
    refine ⟨t3, rfl, upd_same, fun H18 p ls s18 hp hls => ?_⟩
    have s18 := s17.trans s18
    refine ⟨p, rfl, ⟨_, SqL.of hp⟩, ?_⟩
    refine for_list (K := K) (xs := refV ls) (fun _ σ H' => ∃ w6 w13 w14 w15, σ = [some (.ref a), some (.ref kp), some (.ref nl), some (.ref kk), some (.ref D), some (.ref rw_), w6, v7, some (.ref sp), some (.int (sts.length : Nat)), some (.ref L0), v11, v12, w13, w14, w15] ∧ Same H18 H')
      ⟨_, _, _, _, rfl, Same.refl _⟩ (fun i σ H' _ ⟨_, _, _, _, _, s⟩ => SqL.of (s _ _ hp)) ?_ ?_
    · rintro i x σ H19 hx ⟨w6, w13, w14, w15, rfl, s19⟩
      rw [List.getElem?_map] at hx
      obtain ⟨l, hl', rfl⟩ := Option.map_eq_some_iff.mp hx
      obtain ⟨js, j1, j2, j3, j4⟩ := hls l (List.mem_of_getElem? hl')
      have s16 : Same H16 H19 := s18.trans s19
      have e19 := s19 _ _ j1
      have f19 := s16 _ _ f16
      -- what is kept
      refine ⟨_, rfl, l, rfl, ⟨_, SqL.of e19⟩, fun D2 hD2 => ?_⟩
      refine lc_list (K := K) (xs := natV js) (fun t H' => H' = upd H19 D2 (.lst (refV ((js.take t).map (fun j => fs.getD j 0))))) rfl (fun t H' _ e => by rw [e]; exact SqL.of ((upd_ne (ne_of_none e19 hD2)).trans e19)) ?_ ?_
      · rintro t x H' hx rfl
        rw [List.getElem?_map] at hx
        obtain ⟨n, hn, rfl⟩ := Option.map_eq_some_iff.mp hx
        obtain ⟨b, b1, b2⟩ := fat n (j2 n (List.mem_of_getElem? hn))
        have eb : fs.getD n 0 = b := by rw [List.getD_eq_getElem?_getD, b1]; rfl
        refine ⟨rfl, _, rfl, _, rfl, L0, _, _, _, rfl, rfl, SqL.of ((upd_ne (ne_of_none f19 hD2)).trans f19), atI_nat (j := n) (by rw [List.getElem?_map, b1]; rfl), _, upd_same, sl2 (by rw [List.length_map, List.length_map, List.length_take]; omega), ?_⟩
        rw [upd_upd, List.take_add_one, hn]
        simp only [refV, List.map_append, Option.toList_some, List.map_cons, List.map_nil, eb]
      rintro H' rfl
      rw [show (natV js).length = js.length by rw [List.length_map], List.take_length]
      have s20 := same_new (o := .lst (refV (js.map (fun j => fs.getD j 0)))) hD2
      have d20 : (upd H19 D2 (.lst (refV (js.map (fun j => fs.getD j 0))))) D2 = some (.lst (refV (js.map (fun j => fs.getD j 0)))) := upd_same
      generalize upd H19 D2 (.lst (refV (js.map (fun j => fs.getD j 0)))) = H20 at s20 d20 ⊢
      refine ⟨D2, _, rfl, .inl ⟨SqL.of d20, fun kt hkt => ?_⟩⟩
      have s21 := s20.trans (same_new (o := .tup (refV (js.map (fun j => fs.getD j 0)))) hkt)
      have k21 : (upd H20 kt (.tup (refV (js.map (fun j => fs.getD j 0))))) kt = some (.tup (refV (js.map (fun j => fs.getD j 0)))) := upd_same
      generalize upd H20 kt (.tup (refV (js.map (fun j => fs.getD j 0)))) = H21 at s21 k21 ⊢
      have s21' := s16.trans s21
      have R21 := R16.same s21' nla nra
      have S21 := S16.same s21'
      have e21 := s21 _ _ e19
      have F21 : FsAt K H21 (js.map (fun j => fs.getD j 0)) (js.map (fun j => (heldR (held0 bx) sts).getD j (.lt ""))) := fsAt_map (fun j hj => by
        obtain ⟨b, b1, b2⟩ := fat j (j2 j hj)
        have eb : fs.getD j 0 = b := by rw [List.getD_eq_getElem?_getD, b1]; rfl
        rw [eb]
        exact b2.same s21')
      -- each letter
      refine ⟨_, rfl, nl, rfl, ⟨_, SqL.of R21.nms⟩, ?_⟩
      refine for_list (K := K) (xs := strV bx) (fun _ σ H' => ∃ u6 u13, σ = [some (.ref a), some (.ref kp), some (.ref nl), some (.ref kk), some (.ref D), some (.ref rw_), u6, v7, some (.ref sp), some (.int (sts.length : Nat)), some (.ref L0), v11, v12, u13, some (.ref l), some (.ref kt)] ∧ Same H21 H')
        ⟨_, _, rfl, Same.refl _⟩ (fun i σ H' _ ⟨_, _, _, s⟩ => SqL.of (s _ _ R21.nms)) ?_ ?_
      · rintro m x σ H22 hx ⟨u6, u13, rfl, s22⟩
        have hm : m < 3 := by
          have := (List.getElem?_eq_some_iff.mp hx).1
          omega
        have ex : x = .str (bxN bx m) := by
          rw [List.getElem?_map, (bn.mem hm).2] at hx
          exact (Option.some.inj hx).symm
        subst ex
        refine ⟨_, rfl, by show 0 ≤ sizeLine; decide, fun fc hfc => ?_⟩
        have s23 := s22.trans (same_new (o := .tup []) hfc)
        have c23 : (upd H22 fc (.tup [])) fc = some (.tup []) := upd_same
        generalize upd H22 fc (.tup []) = H23 at s23 c23 ⊢
        refine ⟨_, rfl, _, rfl, bxN bx m, rfl, bn.nam _ (bn.mem hm).1, fun b H24 s24 _ fl => ?_⟩
        have s24' := s23.trans s24
        have R24 := R21.same s24' nla nra
        refine ⟨kk, fc, kt, b, L, calm, _, _, .lt (bxN bx m), bx, rfl, R24.kind, s24 _ _ c23, s24' _ _ k21, F21.same s24', fl.1, fun F hF => ?_, by rw [bn.len]; decide, by rw [List.length_map]; omega, fun H25 r ops N φ ths y s25 sy inj hth hex hy ey hr => ?_⟩
        · rcases List.mem_append.mp hF with hF | hF
          · obtain ⟨j, hj, rfl⟩ := List.mem_map.mp hF
            exact R24.good j (j2 j hj)
          · rw [List.mem_singleton.mp hF]
            refine ⟨bn.nam _ (bn.mem hm).1, Nat.zero_le _, fun z hz => ?_⟩
            have : Fm.lt z = .lt (bxN bx m) := by simpa [subs] using hz
            injection this with this
            rw [this]
            exact (bn.mem hm).1
        have s25' := s24'.trans s25
        have R25 := R21.same s25' nla nra
        have e25 := s25' _ _ e21
        refine ⟨_, rfl, _, rfl, l, rfl, ⟨_, SqL.of e25⟩, fun D3 hD3 => ?_⟩
        refine lc_list (K := K) (xs := natV js) (fun t H' => H' = upd H25 D3 (.lst (strV ((js.take t).map (bxN bx))))) rfl (fun t H' _ e => by rw [e]; exact SqL.of ((upd_ne (ne_of_none e25 hD3)).trans e25)) ?_ ?_
        · rintro t x H' hx rfl
          rw [List.getElem?_map] at hx
          obtain ⟨n, hn, rfl⟩ := Option.map_eq_some_iff.mp hx
          have n3 := j2 n (List.mem_of_getElem? hn)
          refine ⟨rfl, _, rfl, _, rfl, nl, _, _, _, rfl, rfl, SqL.of ((upd_ne (ne_of_none R25.nms hD3)).trans R25.nms), atI_nat (j := n) (by rw [List.getElem?_map, (bn.mem n3).2]; rfl), _, upd_same, sl2 (by rw [List.length_map, List.length_map, List.length_take]; omega), ?_⟩
          rw [upd_upd, List.take_add_one, hn]
          simp only [strV, List.map_append, Option.toList_some, List.map_cons, List.map_nil]
        rintro H' rfl
        rw [show (natV js).length = js.length by rw [List.length_map], List.take_length]
        have s26 := s25'.trans (same_new (o := .lst (strV (js.map (bxN bx)))) hD3)
        have d26 : (upd H25 D3 (.lst (strV (js.map (bxN bx))))) D3 = some (.lst (strV (js.map (bxN bx)))) := upd_same
        generalize upd H25 D3 (.lst (strV (js.map (bxN bx)))) = H26 at s26 d26 ⊢
        refine ⟨D3, _, rfl, .inl ⟨SqL.of d26, fun k2 hk2 => ?_⟩⟩
        have s27 := s26.trans (same_new (o := .tup (strV (js.map (bxN bx)))) hk2)
        refine ⟨_, rfl, sp, k2, L, calm, bx, sts, m, js, rfl, S21.same s27, bn, hm, upd_same, j2, j3, R25.ok, sl1', sl6, fun H28 r2 s28 hr2 => ?_⟩
        have er : r2 = r := by
          rw [Bool.eq_iff_iff, hr2, hr]
          exact law_back bn R25.ok hm j2 sy inj hth hex hy ey
        subst er
        exact ⟨r2, rfl, _, rfl, r2, rfl, rfl, false, blNF rfl, iteF ⟨_, _, rfl, s27.trans s28⟩⟩
      · rintro σ H22 ⟨u6, u13, rfl, s22⟩
        exact ⟨_, _, _, _, rfl, s19.trans (s21.trans s22)⟩
    rintro σ H19 ⟨w6, w13, w14, w15, rfl, s19⟩
    exact q _ (R16.kp.trans (s18.trans s19).kp)
end
end K8
end

section
set_option Elab.async false
set_option linter.all false
set_option maxRecDepth 100000
set_option maxHeartbeats 16000000
/-! The law. -/
namespace K8
open PySem PySem.Spec PyProof.Rows L2
theorem sqL_same {K : PySem.W.Frag} {H H' : Hp} {a : Addr} {xs : List V} (e : Same H H') (h : SqL K H a xs) : SqL K H' a xs := by
  rcases h with (h | ⟨o, h⟩) | h
  · exact .inl (.inl (e _ _ h))
  · exact .inl (.inr ⟨o, e _ _ h⟩)
  · exact .inr h
section
variable {P : Program} {w : World} {K : PySem.W.Frag} {mg : Str → Option Value} {base : Heap}
def spLaw (K : PySem.W.Frag) : Sp := fun vs H Q _ => ∃ (a : Addr) (ns : List Int), vs = [.ref a] ∧ SqL K H a (ns.map V.int) ∧ ns.length ≤ 63 ∧ ∀ H', Q (.bl true) H'
abbrev N_law : List Str := ["_law_script", "_law_spot"]
theorem sc_law : FnScope N_law ["_law_script"] (defScope s_law) := ⟨rfl, rfl, rfl, by decide +kernel, rfl, by decide +kernel, by decide +kernel⟩
-- slots: 0 _law_script, 1 _law_spot
theorem fn_law (T : Tx w K mg) (z : FuncData) (F : FD K d_law z) : FnOk P w K mg base CX0 22 (a_law K) z ["_law_script"] (spLaw K) := by
  obtain ⟨_, _, F_law_right, b_law_right, v_law_right, k_law_right⟩ := ok_law_right (P := P) (base := base) T
  obtain ⟨_, _, F_law_purse, b_law_purse, v_law_purse, k_law_purse⟩ := ok_law_purse (P := P) (base := base) T
  refine okBody F sc_law (fun vs H Q E h => ?_) fun cdv A outer s H vs Q E hr h => ?_
  · obtain ⟨a, ns, rfl, _⟩ := h
    rfl
  · obtain ⟨a, ns, rfl, ha, hl, q⟩ := h
    refine ⟨_, (pss_one (ps_ret (pe_callB (cr_all rfl) (by rfl) T.b_all (by decide +kernel) (pa_cons (pe_lcB (own := [("_law_spot", 1)]) rfl sc_law.nd (pi_range1 (by rfl) T.b_range (pa_cons (pe_callB (call_max2 rfl) (by rfl) T.b_max (by decide +kernel) (pa_cons pe_int (pa_cons (pe_callB (call_min2 rfl) (by rfl) T.b_min (by decide +kernel) (pa_cons (pe_callB call_len_seq (by rfl) T.b_len (by decide +kernel) (pa_cons (pv 0) pa_nil)) (pa_cons pe_int pa_nil))) pa_nil))) pa_nil)) (blkOk_by (own := [("_law_spot", 1)]) (N := N_law) (sc := defScope s_law) (by decide +kernel)) (fun _ _ _ _ _ => (pg_name (i := 1) sc_law.nd rfl (by first | exact Or.inl rfl | exact Or.inr rfl))) (fun _ _ _ _ _ => pts_nil) (fun _ _ _ _ _ => (pe_call F_law_right (hr.mono (by decide)) rfl T.g_law_right k_law_right b_law_right v_law_right pass0 (pa_cons (pe_call F_law_purse (hr.mono (by decide)) rfl T.g_law_purse k_law_purse b_law_purse v_law_purse pass0 (pa_cons (pv 0) (pa_cons (pv 1) pa_nil))) pa_nil)))) pa_nil)))), ?_⟩
    obtain ⟨m, hm, em⟩ : ∃ m : Nat, m ≤ 3 ∧ (if (if (3 : Int) < (((ns.map V.int).length : Nat) : Int) then (3 : Int) else (((ns.map V.int).length : Nat) : Int)) > 2 then (if (3 : Int) < (((ns.map V.int).length : Nat) : Int) then (3 : Int) else (((ns.map V.int).length : Nat) : Int)) else 2) = ((m : Nat) : Int) := by
      by_cases h1 : (3 : Int) < (((ns.map V.int).length : Nat) : Int)
      · exact ⟨3, Nat.le_refl _, by rw [if_pos h1]; rfl⟩
      · by_cases h2 : (((ns.map V.int).length : Nat) : Int) > 2
        · exact ⟨(ns.map V.int).length, by omega, by rw [if_neg h1, if_pos h2]⟩
        · exact ⟨2, by decide, by rw [if_neg h1, if_neg h2]; rfl⟩
    refine ⟨_, rfl, a, _, rfl, .inl ha, _, _, rfl, _, _, rfl, ((m : Nat) : Int), congrArg (fun x => [V.int x]) em, by omega, by omega, fun D hD => ?_⟩
    refine lc_range (n := m) (fun i H' => Same H H' ∧ H' D = some (.lst ((List.replicate i true).map V.bl))) ⟨same_new hD, upd_same⟩ ?_ ?_
    · rintro i H1 hi ⟨s1, d1⟩
      have e0 : (0 : Int) + ((i : Nat) : Int) = ((i : Nat) : Int) := Int.zero_add _
      rw [e0]
      refine ⟨rfl, _, rfl, _, rfl, a, ns, i, rfl, sqL_same s1 ha, hl, by omega, fun H2 p s2 hp pu => ?_⟩
      have np : p ≠ D := (ne_of_none d1 hp).symm
      refine ⟨p, rfl, pu, fun H3 k3 => ?_⟩
      have d3 := k3 _ _ (s2 _ _ d1) (by simp [np.symm])
      refine ⟨_, d3, sl2 (by rw [List.length_map, List.length_replicate]; omega), fun b o h => ?_, ?_⟩
      · rw [upd_ne (ne_of_none h hD)]
        have h1 := s1 _ _ h
        exact k3 _ _ (s2 _ _ h1) (by simp [ne_of_none h1 hp])
      · rw [upd_same, List.replicate_succ', List.map_append]
        rfl
    · rintro H1 ⟨s1, d1⟩
      refine ⟨D, _, rfl, SqL.of d1, ?_⟩
      rw [show (List.replicate m true).all id = true from by simp]
      exact q _
end
end K8
end

set_option Elab.async false
set_option linter.all false
set_option maxRecDepth 100000
set_option maxHeartbeats 16000000
/-! The end: the law holds. -/
namespace K8
open PySem PySem.Spec PyProof.Rows L2
theorem facts {P : Program} {w : World} {K : PySem.W.Frag} {h : Heap} {mg : Str → Option Value} {f : Addr} (X : K.In h) (G : h.Ns mainGlobals mg) (hfa : mg ("law" : Str) = some (.ref f)) (c : Says w K) :
    ∃ fd : FuncData, (∀ (s : Shared) (v : Value), BindsTo s fd ⟨[v], []⟩ [("_law_script", v)]) ∧ ∀ base : Heap, K.In base → base.Ns mainGlobals mg → FnOk P w K mg base CX0 22 f fd ["_law_script"] (spLaw K) := by
  have T : Tx w K mg := ⟨⟨h, X, G⟩, c⟩
  obtain ⟨fd, F⟩ := T.f_law
  have e : f = a_law K := by
    have z := hfa.symm.trans T.g_law
    injection z with z
    injection z
  subst e
  have F2 : FunD K d_law.name d_law.qual (defArgs d_law.st) (defBody d_law.st) (defScope d_law.st) [] (d_law.kws K) (d_law.ad K) fd := by
    have e : d_law.dvs K = [] := by
      unfold Df.dvs
      rw [show d_law.dfl = [] from rfl]
      rfl
    have F1 : FunD K d_law.name d_law.qual (defArgs d_law.st) (defBody d_law.st) (defScope d_law.st) (d_law.dvs K) (d_law.kws K) (d_law.ad K) fd := F
    rw [e] at F1
    exact F1
  have b := FunD.bindsA (ps := ["_law_script"]) F2 fun _ _ _ _ _ _ us hl => match us, hl with | [_], _ => rfl
  exact ⟨fd, fun s v => b s [v] rfl, fun base _ _ => fn_law T fd F⟩
end K8
open PySem PySem.W PySem.Calls PyProof.Rows
theorem PySem.Challenge.cw_thirdback_k83_whole_scripts_and_formulas_holds : PySem.Challenge.rw_thirdback_k83_whole_scripts_and_formulas.Holds := by
  w_on; o_law
  refine HandSHeadRun.head_any (r := OpenLaw.row PySem.Challenge.rw_thirdback_k83_whole_scripts_and_formulas) (q := K8.qv) (H := K8.hookK 5) (ob := K8.ob) (M := 40000) (loose := K8.loose) (d := HandSHeadRun.topDef (OpenLaw.row PySem.Challenge.rw_thirdback_k83_whole_scripts_and_formulas).prog 95) (kwd := []) K8.ob_eq
    (by kernel_rfl) (fun s => by kernel_rfl) K8.run (by kernel_rfl) (by kernel_rfl) (by kernel_rfl) (by rfl) (by first | assumption | decide +kernel) (by decide +kernel) ⟨rfl, rfl, rfl, rfl, rfl, by decide +kernel⟩ ?hw ?hc
  case hw => w_witness2
  case hc =>
    refine L2.walk_ofE (l := PySem.Challenge.rw_thirdback_k83_whole_scripts_and_formulas) (n := 63) (k := 22) (x := "_law_script") (CX := L2.CX0) rfl (by decide) (by kernel_rfl) ⟨rfl, by decide, by decide⟩ ?F (fun _ _ _ _ z => z)
    intro w mg fa h Y G hmg0
    obtain ⟨K, KX, c⟩ := Y
    have hmg : mg ("law" : PySem.Str) = some (.ref fa) := by
      have e : (HandSHeadRun.topDef (OpenLaw.row PySem.Challenge.rw_thirdback_k83_whole_scripts_and_formulas).prog 95).name = ("law" : PySem.Str) := by kernel_rfl
      rw [← e]
      exact hmg0
    obtain ⟨fd, hb, hF⟩ := K8.facts (P := (PySem.Challenge.rw_thirdback_k83_whole_scripts_and_formulas).prog) (w := w) KX G hmg c
    exact ⟨K, fd, K8.spLaw K, KX, hb, fun H a ns hl _ hS => ⟨a, ns, rfl, hS, hl, fun _ => rfl⟩, hF⟩
