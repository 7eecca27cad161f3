import PyProof.Rows.All
import Wide.All
import OpenK.AllK
import Wide.FinOn
import Lean
import PySem.Challenge.RW_pq0900_01
set_option maxRecDepth 100000
set_option Elab.async false
set_option linter.all false
set_option rowWalk.seconds 0
local macro_rules | `(tactic| walk_at $s:str) => do `(tactic| k_extra $(Lean.Syntax.mkStrLit ("m:" ++ s.getString)))
local macro_rules | `(tactic| k_mem) => `(tactic| k_extra "k_mem")
local macro_rules | `(tactic| k_handed) => `(tactic| k_extra "k_handed")
local macro_rules | `(tactic| k_inst) => `(tactic| k_extra "k_inst")
local macro_rules | `(tactic| k_all) => `(tactic| k_extra "k_all")
local macro_rules | `(tactic| size_fits) => `(tactic| k_extra "fits")
local macro_rules | `(tactic| omega) => `(tactic| k_extra "omega")
-- part EVS
namespace Mine
open PySem PySem.W

/-- the state of the run: the heap as a tree, its size, the next token -/
structure ST where
  T : BT
  n : Nat
  toks : Nat

/-- what is known of one long call: from where, whereto -/
structure OE where
  c : Code
  below : List (Code × Pos)
  p : Pos
  S : ST
  r : Result
  p' : Pos
  S' : ST

noncomputable abbrev EvK := Result → Pos → ST → Prop
noncomputable abbrev EvTy := Code → List (Code × Pos) → Pos → ST → Sem Fin → EvK → Prop

noncomputable def tagged (c : Code) : Bool := match c with
  | .compLoop .. => true
  | .call f _ => match f with
    | .ref a => Nat.beq a 143 || Nat.beq a 136
    | _ => false
  | _ => false

noncomputable def evEnter (tb : String → Option Builtin) (O : Nat → Option OE) (ih : EvTy) (c : Code) (below : List (Code × Pos)) (p : Pos) (S : ST) (K : EvK) : Prop :=
  match tagged c with
  | false => ih c below p S (denote tb c) K
  | true => match S with
    | ⟨T, n, toks⟩ => match O n with
      | none => ih c below p ⟨T, n, toks⟩ (denote tb c) K
      | some e => (c = e.c ∧ below = e.below ∧ p = e.p ∧ ⟨T, n, toks⟩ = e.S) ∧ K e.r e.p' e.S'

noncomputable def evStep (tb : String → Option Builtin) (g : Setting) (O : Nat → Option OE) (n₀ : Nat) (ann : Option Value) (ih : EvTy) : EvTy := fun c below p S t K => match S with
  | ⟨T, n, toks⟩ => match t with
    | .pure fin => match fin with
      | .done f => K (.ok f) p ⟨T, n, toks⟩
      | .again c' => match c'.quiet with
        | true => evEnter tb O ih c' below p ⟨T, n, toks⟩ K
        | false => False
    | .raise e => K (.error e) p ⟨T, n, toks⟩
    | .rule _ k => ih c below p ⟨T, n, toks⟩ (k ()) K
    | .at q k => ih c below q ⟨T, n, toks⟩ (k ()) K
    | .point _ k => ih c below p ⟨T, n, toks⟩ (k ()) K
    | .ask k => ih c below p ⟨T, n, toks⟩ (k g) K
    | .load a _ k => match Nat.blt a n with
      | true => match T.get a with
        | some o => match alive o with
          | some o' => ih c below p ⟨T, n, toks⟩ (k o') K
          | none => False
        | none => False
      | false => False
    | .loadIfAlive a k => match Nat.blt a n with
      | true => match T.get a with
        | some o => ih c below p ⟨T, n, toks⟩ (k (alive o)) K
        | none => False
      | false => False
    | .alloc o k => match n with
      | 0 => False
      | m + 1 => match ((T.ins (m + 1) o).get (m + 1)).isSome with
        | true => ih c below p ⟨T.ins (m + 1) o, m + 2, toks⟩ (k (m + 1)) K
        | false => False
    | .update a _ f k => match Nat.blt a n with
      | true => match T.get a with
        | some o => match alive o with
          | some _ => match Nat.ble n₀ a || a == mainNs || a == cStatics || ann == some (.ref a) with
            | true => ih c below p ⟨T.set a f, n, toks⟩ (k ()) K
            | false => False
          | none => False
        | none => False
      | false => False
    | .fresh k => match toks with
      | 0 => False
      | m + 1 => ih c below p ⟨T, n, m + 2⟩ (k (m + 1)) K
    | .handled own k => match own with
      | false => ih c below p ⟨T, n, toks⟩ (k none) K
      | true => False
    | .stack k => ih c below p ⟨T, n, toks⟩ (k ((c, p) :: below)) K
    | .call c' h _ _ k => match h with
      | none => evEnter tb O ih c' ((c, p) :: below) p ⟨T, n, toks⟩ (fun r _ S' => ih c below p S' (k r) K)
      | some _ => False
    | _ => False

noncomputable def evP (tb : String → Option Builtin) (g : Setting) (O : Nat → Option OE) (n₀ : Nat) (ann : Option Value) : Nat → EvTy
  | 0 => fun _ _ _ _ _ _ => False
  | n + 1 => evStep tb g O n₀ ann (evP tb g O n₀ ann n)

section
variable (tb : String → Option Builtin) (p : Program) (w : World) (n₀ : Nat) (ann : Option Value) (life : Life) (d : Drawn) (os : OsState)

noncomputable def StT (S : ST) : SharedT := ⟨S.T, S.n, life, #[], d, S.toks, os⟩
noncomputable def Sh (S : ST) : Shared := (StT life d os S).abs

noncomputable def Goes (m : Nat) (s : Shared) (t : Thread) (s' : Shared) (t' : Thread) : Prop :=
  ∀ N r, topRun tb p w n₀ ann N s' t' = some r → topRun tb p w n₀ ann (m + N) s t = some r

theorem goes_refl (s : Shared) (t : Thread) : Goes tb p w n₀ ann 0 s t s t := fun N r h => by rw [Nat.zero_add]; exact h
theorem goes_trans {m₁ m₂ : Nat} {s₁ s₂ s₃ : Shared} {t₁ t₂ t₃ : Thread} (a : Goes tb p w n₀ ann m₁ s₁ t₁ s₂ t₂) (b : Goes tb p w n₀ ann m₂ s₂ t₂ s₃ t₃) : Goes tb p w n₀ ann (m₁ + m₂) s₁ t₁ s₃ t₃ :=
  fun N r h => by rw [Nat.add_assoc]; exact a _ _ (b _ _ h)
theorem goes_step {s s' : Shared} {t t' : Thread} (h1 : through t = false) (h2 : stepOk n₀ ann t = true) (h3 : step (denote tb) p w s t = .go s' t') : Goes tb p w n₀ ann 1 s t s' t' := fun N r h => by
  rw [Nat.add_comm]
  unfold topRun
  rw [h1, h2, h3]
  exact h

/-- the frames below: plain returns without a mark -/
noncomputable def OkF : List Frame → Prop
  | [] => True
  | .ret _ h _ _ _ _ _ :: r => h = none ∧ OkF r
  | .gen .. :: _ => False
/-- the same frames, but for what the first one keeps -/
noncomputable def Same : List Frame → List Frame → Prop
  | [], fs => fs = []
  | .ret k h g l c p _ :: r, fs => ∃ kept, fs = .ret k h g l c p kept :: r
  | .gen .. :: _, _ => False
theorem same_refl : ∀ {fs : List Frame}, OkF fs → Same fs fs
  | [], _ => rfl
  | .ret .. :: _, _ => ⟨_, rfl⟩
  | .gen .. :: _, h => h.elim
theorem same_trans : ∀ {a b c : List Frame}, Same a b → Same b c → Same a c
  | [], _, _, h, k => by
    have e : _ = [] := h
    subst e
    exact k
  | .ret .. :: _, _, _, ⟨_, e⟩, k => by
    subst e
    exact k
  | .gen .. :: _, _, _, h, _ => h.elim
theorem same_ok : ∀ {a b : List Frame}, OkF a → Same a b → OkF b
  | [], _, _, h => by
    have e : _ = [] := h
    subst e
    exact True.intro
  | .ret .. :: _, _, o, ⟨_, e⟩ => by subst e; exact o
  | .gen .. :: _, _, o, _ => o.elim
theorem same_where : ∀ {a b : List Frame}, OkF a → Same a b → b.map Frame.where_ = a.map Frame.where_
  | [], _, _, h => by
    have e : _ = [] := h
    subst e
    rfl
  | .ret .. :: _, _, _, ⟨_, e⟩ => by subst e; rfl
  | .gen .. :: _, _, o, _ => o.elim
theorem handled_none : ∀ {fs : List Frame}, OkF fs → topHandled.go false fs = none
  | [], _ => rfl
  | .ret _ h _ _ _ _ _ :: r, o => by
    obtain ⟨e, o⟩ := o
    subst e
    exact handled_none (fs := r) o
  | .gen .. :: _, o => o.elim

noncomputable def leaf : Result → Sem Fin
  | .ok f => .pure (.done f)
  | .error e => .raise e

/-- what stands of one long call: from its state it runs to its end, whatever lies below -/
noncomputable def Good (B : Nat) (e : OE) : Prop := ∀ fs, OkF fs → fs.map Frame.where_ = e.below →
  ∃ m c' fs', m ≤ B ∧ Same fs fs' ∧ Goes tb p w n₀ ann m (Sh life d os e.S) ⟨denote tb e.c, e.c, e.p, fs⟩ (Sh life d os e.S') ⟨leaf e.r, c', e.p', fs'⟩

theorem calm_again {c' c : Code} {q : Pos} {fs : List Frame} (h : c'.quiet = true) : Thread.calm ⟨.pure (.again c'), c, q, fs⟩ = true := by
  rw [Thread.calm_eq, Thread.loud_again, h]
  rfl

theorem step_again_same {s : Shared} {c c' : Code} {q : Pos} {fs : List Frame} (o : OkF fs) : ∃ fs', Same fs fs' ∧ step (denote tb) p w s ⟨.pure (.again c'), c, q, fs⟩ = .go s ⟨denote tb c', c', q, fs'⟩ := by
  obtain ⟨heap, gens, drawn, toks, so⟩ := s
  cases fs with
  | nil => exact ⟨[], rfl, by cases c <;> cases c' <;> rfl⟩
  | cons f r =>
    cases f with
    | gen => exact o.elim
    | ret k h g l cd p₀ kept => exact ⟨_, ⟨_, rfl⟩, step_again⟩

theorem step_leaf {s : Shared} {r : Result} {c cd : Code} {q p₀ : Pos} {k : Result → Sem Fin} {h : Option Value} {g : Bool} {l kept : List Value} {fs : List Frame} :
    Goes tb p w n₀ ann 1 s ⟨leaf r, c, q, .ret k h g l cd p₀ kept :: fs⟩ s ⟨k r, cd, p₀, fs⟩ := by
  obtain ⟨heap, gens, drawn, toks, so⟩ := s
  cases r with
  | ok f => exact goes_step _ _ _ _ _ rfl rfl rfl
  | error e => exact goes_step _ _ _ _ _ rfl rfl rfl

noncomputable def bnd (B : Nat) (n : Nat) : Nat := (B + 4) ^ n
theorem bnd_pos (B n : Nat) : 1 ≤ bnd B n := Nat.one_le_pow _ _ (by omega)
theorem bnd_succ (B n : Nat) : bnd B (n + 1) = bnd B n * (B + 4) := Nat.pow_succ _ _
theorem bnd_one {B n m : Nat} (h : m ≤ bnd B n) : 1 + m ≤ bnd B (n + 1) := by
  have h1 := bnd_pos B n
  rw [bnd_succ, Nat.mul_add]
  have : 0 ≤ bnd B n * B := Nat.zero_le _
  omega
theorem bnd_two {B n m₁ m₂ : Nat} (h₁ : m₁ ≤ bnd B n) (h₂ : m₂ ≤ bnd B n) : 1 + m₁ + 1 + m₂ ≤ bnd B (n + 1) := by
  have h1 := bnd_pos B n
  rw [bnd_succ, Nat.mul_add]
  have : 0 ≤ bnd B n * B := Nat.zero_le _
  omega
theorem bnd_or {B n m₁ m₂ : Nat} (h₁ : m₁ ≤ bnd B n + B) (h₂ : m₂ ≤ bnd B n) : 1 + m₁ + 1 + m₂ ≤ bnd B (n + 1) := by
  have h1 := bnd_pos B n
  rw [bnd_succ, Nat.mul_add]
  have : 1 * B ≤ bnd B n * B := Nat.mul_le_mul_right B h1
  omega

noncomputable abbrev Runs' (m : Nat) (c : Code) (q : Pos) (S : ST) (t : Sem Fin) (fs : List Frame) (r : Result) (q' : Pos) (S' : ST) : Prop :=
  ∃ c' fs', Same fs fs' ∧ Goes tb p w n₀ ann m (Sh life d os S) ⟨t, c, q, fs⟩ (Sh life d os S') ⟨leaf r, c', q', fs'⟩

theorem stepS {T T' : ST} {cur : Sem Fin} {c : Code} {q : Pos} {fs : List Frame} {t' : Thread} (h : stepT (denote tb) p w (StT life d os T) ⟨cur, c, q, fs⟩ = some (StT life d os T', t')) (h1 : through ⟨cur, c, q, fs⟩ = false) (h2 : stepOk n₀ ann ⟨cur, c, q, fs⟩ = true) :
    Goes tb p w n₀ ann 1 (Sh life d os T) ⟨cur, c, q, fs⟩ (Sh life d os T') t' := goes_step _ _ _ _ _ h1 h2 (stepT_spec h)

theorem one {m : Nat} {c : Code} {q q₂ q' : Pos} {S S₂ S' : ST} {t t₂ : Sem Fin} {fs : List Frame} {r : Result} (a : Goes tb p w n₀ ann 1 (Sh life d os S) ⟨t, c, q, fs⟩ (Sh life d os S₂) ⟨t₂, c, q₂, fs⟩)
    (b : Runs' tb p w n₀ ann life d os m c q₂ S₂ t₂ fs r q' S') : Runs' tb p w n₀ ann life d os (1 + m) c q S t fs r q' S' := by
  obtain ⟨c', fs', hs, hg⟩ := b
  exact ⟨c', fs', hs, goes_trans _ _ _ _ _ a hg⟩

variable {O : Nat → Option OE} {B : Nat}
theorem evP_sound (HO : ∀ k e, O k = some e → Good tb p w n₀ ann life d os B e) : ∀ (n : Nat) (c : Code) (below : List (Code × Pos)) (q : Pos) (S : ST) (t : Sem Fin) (K : EvK),
    evP tb ⟨p, w.params⟩ O n₀ ann n c below q S t K → ∀ fs, OkF fs → fs.map Frame.where_ = below → ∃ m r q' S', m ≤ bnd B n ∧ K r q' S' ∧ Runs' tb p w n₀ ann life d os m c q S t fs r q' S'
  | 0, _, _, _, _, _, _, h => h.elim
  | n + 1, c, below, q, S, t, K, h => fun fs o hw => by
    have IH := evP_sound HO n
    obtain ⟨T, sn, tk⟩ := S
    have enter : ∀ (c' : Code) (below' : List (Code × Pos)) (q : Pos) (S : ST) (K : EvK), evEnter tb O (evP tb ⟨p, w.params⟩ O n₀ ann n) c' below' q S K → ∀ fs, OkF fs → fs.map Frame.where_ = below' → ∃ m r q' S', m ≤ bnd B n + B ∧ K r q' S' ∧ Runs' tb p w n₀ ann life d os m c' q S (denote tb c') fs r q' S' := by
      intro c' below' q S K h fs o hw
      unfold evEnter at h
      cases ht : tagged c' with
      | false =>
        rw [ht] at h
        obtain ⟨m, r, q', S', hm, hk, hr⟩ := IH _ _ _ _ _ _ h fs o hw
        exact ⟨m, r, q', S', by omega, hk, hr⟩
      | true =>
        rw [ht] at h
        obtain ⟨T, sn, tk⟩ := S
        cases he : O sn with
        | none =>
          dsimp only at h
          rw [he] at h
          obtain ⟨m, r, q', S', hm, hk, hr⟩ := IH _ _ _ _ _ _ h fs o hw
          exact ⟨m, r, q', S', by omega, hk, hr⟩
        | some e =>
          dsimp only at h
          rw [he] at h
          obtain ⟨⟨rfl, rfl, rfl, eS⟩, hk⟩ := h
          obtain ⟨m, c₂, fs₂, hm, hs, hg⟩ := HO _ _ he fs o hw
          rw [← eS] at hg
          exact ⟨m, _, _, _, by omega, hk, c₂, fs₂, hs, hg⟩
    have go1 : ∀ {q₂ : Pos} {S₂ : ST} {t₂ : Sem Fin}, Goes tb p w n₀ ann 1 (Sh life d os ⟨T, sn, tk⟩) ⟨t, c, q, fs⟩ (Sh life d os S₂) ⟨t₂, c, q₂, fs⟩ → evP tb ⟨p, w.params⟩ O n₀ ann n c below q₂ S₂ t₂ K → ∃ m r q' S', m ≤ bnd B (n + 1) ∧ K r q' S' ∧ Runs' tb p w n₀ ann life d os m c q ⟨T, sn, tk⟩ t fs r q' S' := by
      intro q₂ S₂ t₂ a h
      obtain ⟨m, r, q', S', hm, hk, hr⟩ := IH _ _ _ _ _ _ h fs o hw
      exact ⟨1 + m, r, q', S', bnd_one hm, hk, one _ _ _ _ _ _ _ _ a hr⟩
    cases t with
    | pure fin =>
      cases fin with
      | done f => exact ⟨0, .ok f, q, ⟨T, sn, tk⟩, Nat.zero_le _, h, c, fs, same_refl o, goes_refl _ _ _ _ _ _ _⟩
      | again c' =>
        simp only [evP, evStep] at h
        cases hq : c'.quiet with
        | false => rw [hq] at h; exact h.elim
        | true =>
          rw [hq] at h
          obtain ⟨fs₁, hs₁, h₁⟩ := step_again_same tb p w (s := Sh life d os ⟨T, sn, tk⟩) (c := c) (c' := c') (q := q) o
          obtain ⟨m, r, q', S', hm, hk, c₂, fs₂, hs, hg⟩ := enter c' below q ⟨T, sn, tk⟩ K h fs₁ (same_ok o hs₁) ((same_where o hs₁).trans hw)
          have g₁ : Goes tb p w n₀ ann 1 (Sh life d os ⟨T, sn, tk⟩) ⟨.pure (.again c'), c, q, fs⟩ (Sh life d os ⟨T, sn, tk⟩) ⟨denote tb c', c', q, fs₁⟩ :=
            goes_step _ _ _ _ _ (by simp [through]) (by unfold stepOk; rw [calm_again hq]; rfl) h₁
          have hb := bnd_or (B := B) (n := n) hm (Nat.zero_le _)
          exact ⟨1 + m, r, q', S', by omega, hk, c₂, fs₂, same_trans hs₁ hs, goes_trans _ _ _ _ _ g₁ hg⟩
    | raise e => exact ⟨0, .error e, q, ⟨T, sn, tk⟩, Nat.zero_le _, h, c, fs, same_refl o, goes_refl _ _ _ _ _ _ _⟩
    | rule tag k => exact go1 (stepS _ _ _ _ _ _ _ _ rfl (by simp [through]) rfl) h
    | «at» q₂ k => exact go1 (stepS _ _ _ _ _ _ _ _ rfl (by simp [through]) rfl) h
    | point l k => exact go1 (stepS _ _ _ _ _ _ _ _ rfl (by simp [through]) rfl) h
    | ask k => exact go1 (stepS _ _ _ _ _ _ _ _ rfl (by simp [through]) rfl) h
    | load a part k =>
      simp only [evP, evStep] at h
      cases e1 : Nat.blt a sn with
      | false => simp only [e1] at h
      | true =>
        cases e2 : T.get a with
        | none => simp only [e1, e2] at h
        | some ob =>
          cases e3 : alive ob with
          | none => simp only [e1, e2, e3] at h
          | some ob' =>
            simp only [e1, e2, e3] at h
            exact go1 (stepS _ _ _ _ _ _ _ _ (T' := ⟨T, sn, tk⟩) (by simp only [StT, stepT, e1, e2, e3]) (by simp [through]) rfl) h
    | loadIfAlive a k =>
      simp only [evP, evStep] at h
      cases e1 : Nat.blt a sn with
      | false => simp only [e1] at h
      | true =>
        cases e2 : T.get a with
        | none => simp only [e1, e2] at h
        | some ob =>
          simp only [e1, e2] at h
          exact go1 (stepS _ _ _ _ _ _ _ _ (T' := ⟨T, sn, tk⟩) (by simp only [StT, stepT, e1, e2]) (by simp [through]) rfl) h
    | alloc ob k =>
      simp only [evP, evStep] at h
      cases sn with
      | zero => exact h.elim
      | succ sm =>
      cases e1 : ((T.ins (sm + 1) ob).get (sm + 1)).isSome with
      | false => simp only [e1] at h
      | true =>
        simp only [e1] at h
        exact go1 (stepS _ _ _ _ _ _ _ _ (T' := ⟨T.ins (sm + 1) ob, sm + 2, tk⟩) (by simp only [StT, stepT, e1]) (by simp [through]) rfl) h
    | update a part f k =>
      simp only [evP, evStep] at h
      cases e1 : Nat.blt a sn with
      | false => simp only [e1] at h
      | true =>
        cases e2 : T.get a with
        | none => simp only [e1, e2] at h
        | some ob =>
          cases e3 : alive ob with
          | none => simp only [e1, e2, e3] at h
          | some ob' =>
            cases e4 : (Nat.ble n₀ a || a == mainNs || a == cStatics || ann == some (.ref a)) with
            | false => simp only [e1, e2, e3, e4] at h
            | true =>
              simp only [e1, e2, e3, e4] at h
              exact go1 (stepS _ _ _ _ _ _ _ _ (T' := ⟨T.set a f, sn, tk⟩) (by simp only [StT, stepT, e1, e2, e3]) (by simp [through]) (by show (true && _) = true; rw [Bool.true_and]; exact e4)) h
    | fresh k =>
      simp only [evP, evStep] at h
      cases tk with
      | zero => exact h.elim
      | succ tm =>
        exact go1 (stepS _ _ _ _ _ _ _ _ (T' := ⟨T, sn, tm + 2⟩) rfl (by simp [through]) rfl) h
    | handled own k =>
      cases own with
      | true => exact h.elim
      | false =>
        simp only [evP, evStep] at h
        refine go1 (stepS _ _ _ _ _ _ _ _ (T' := ⟨T, sn, tk⟩) ?_ (by simp [through]) rfl) h
        simp only [StT, stepT, step, topHandled, handled_none o, Bool.false_eq_true, if_false]
    | stack k =>
      simp only [evP, evStep] at h
      refine go1 (stepS _ _ _ _ _ _ _ _ (T' := ⟨T, sn, tk⟩) ?_ (by simp [through]) rfl) h
      subst hw
      rfl
    | call c' hd gd lv k =>
      cases hd with
      | some v => exact h.elim
      | none =>
        simp only [evP, evStep] at h
        obtain ⟨kept, g₁⟩ : ∃ kept, Goes tb p w n₀ ann 1 (Sh life d os ⟨T, sn, tk⟩) ⟨.call c' none gd lv k, c, q, fs⟩ (Sh life d os ⟨T, sn, tk⟩) ⟨denote tb c', c', q, .ret k none gd lv c q kept :: fs⟩ :=
          ⟨_, stepS _ _ _ _ _ _ _ _ (T' := ⟨T, sn, tk⟩) rfl (by simp [through]) rfl⟩
        obtain ⟨m₁, r₁, q₁, S₁, hm₁, hk₁, c₁, fs₁, hs₁, hg₁⟩ := enter c' ((c, q) :: below) q ⟨T, sn, tk⟩ _ h (.ret k none gd lv c q kept :: fs) ⟨rfl, o⟩ (by subst hw; rfl)
        obtain ⟨kept₁, e₁⟩ := hs₁
        subst e₁
        obtain ⟨m₂, r₂, q₂, S₂, hm₂, hk₂, c₂, fs₂, hs₂, hg₂⟩ := IH _ _ _ _ _ _ hk₁ fs o hw
        exact ⟨1 + m₁ + 1 + m₂, r₂, q₂, S₂, bnd_or hm₁ hm₂, hk₂, c₂, fs₂, hs₂,
          goes_trans _ _ _ _ _ (goes_trans _ _ _ _ _ (goes_trans _ _ _ _ _ g₁ hg₁) (step_leaf _ _ _ _ _)) hg₂⟩
    | _ => exact h.elim
end
end Mine
-- part HEADP
set_option linter.unusedVariables false
namespace Mine
open PySem PySem.W

noncomputable abbrev pw : Program := PySem.Challenge.pw_pq0900_01
structure PP where
  q : Program
  r : Params
noncomputable section
noncomputable def stAt (P : PP) (i : Nat) : Stmt := match P.q.main.body[i]? with
  | some s => s
  | none => .Pass ⟨0, 0, 0, 0⟩
noncomputable def clBody (P : PP) (i : Nat) : List Stmt := match stAt P i with
  | .ClassDef _ _ _ b _ _ _ _ _ _ _ => b
  | _ => []
noncomputable def clScope (P : PP) (i : Nat) : Scope := match stAt P i with
  | .ClassDef _ _ _ _ _ _ sc _ _ _ _ => sc
  | _ => P.q.main.scope
noncomputable def fnBody (P : PP) (i : Nat) : List Stmt := match stAt P i with
  | .FunctionDef _ _ b _ _ _ _ _ _ _ => b
  | _ => []
noncomputable def fnScope (P : PP) (i : Nat) : Scope := match stAt P i with
  | .FunctionDef _ _ _ _ _ _ sc _ _ _ => sc
  | _ => P.q.main.scope
noncomputable def clAt (P : PP) (i j : Nat) : Stmt := match (clBody P i)[j]? with
  | some s => s
  | none => .Pass ⟨0, 0, 0, 0⟩
noncomputable def dcAt (P : PP) (j : Nat) : Expr := match clAt P 23 j with
  | .Assign _ v _ => v
  | _ => .Name (Str.ofString "") ⟨0, 0, 0, 0⟩
noncomputable def dcScope (P : PP) (j : Nat) : Scope := match dcAt P j with
  | .DictComp _ _ _ sc _ => sc
  | _ => P.q.main.scope
noncomputable def fdOf (P : PP) (st : Stmt) (q : Str) (gl : Addr) (cl : List (Str × Addr)) (dv kv doc pm : Value) (an : Option Addr) (code ct : Value) (bi : Addr) : FuncData := match st with
  | .FunctionDef name args body _ _ _ scope _ _ _ => { name, qualname := q, params := args, body := .stmts body, scope, globals := gl, closure := cl, defaults := dv, kwdefaults := kv, doc, pyModule := pm, annotations := an, code, closureTuple := ct, builtins := bi }
  | _ => { name := q, qualname := q, params := ⟨[], [], none, [], [], none, []⟩, body := .stmts [], scope := P.q.main.scope, globals := gl, closure := cl, defaults := dv, kwdefaults := kv }
noncomputable def putAll : BT → Nat → List Obj → BT
  | T, _, [] => T
  | T, n, o :: r => putAll (T.ins n o) (n + 1) r
noncomputable def setAll : BT → List (Nat × Obj) → BT
  | T, [] => T
  | T, x :: r => setAll (T.set x.1 fun _ => x.2) r
noncomputable abbrev o0 (P : Params) : Obj := PySem.W.boot_o_0 P
noncomputable def T0 (P : PP) : BT := putAll .nil 0 [boot_o_0 P.r, boot_o_1 P.r, boot_o_2 P.r, boot_o_3 P.r, boot_o_4 P.r, boot_o_5 P.r, boot_o_6 P.r, boot_o_7 P.r, boot_o_8 P.r, boot_o_9 P.r, boot_o_10 P.r]
noncomputable def kq (P : PP) (x : Str) : Int := PyData.keyHash P.r x
noncomputable def a0 : Str := ⟨⟨[nat_lit 95, nat_lit 95, nat_lit 110, nat_lit 97, nat_lit 109, nat_lit 101, nat_lit 95, nat_lit 95]⟩⟩
noncomputable def a1 : Str := ⟨⟨[nat_lit 112, nat_lit 105, nat_lit 112, nat_lit 101, nat_lit 98, nat_lit 111, nat_lit 97, nat_lit 114, nat_lit 100, nat_lit 46, nat_lit 105, nat_lit 115, nat_lit 97]⟩⟩
noncomputable def a2 : Str := ⟨⟨[nat_lit 95, nat_lit 95, nat_lit 100, nat_lit 111, nat_lit 99, nat_lit 95, nat_lit 95]⟩⟩
noncomputable def a3 : Str := ⟨⟨[nat_lit 95, nat_lit 95, nat_lit 112, nat_lit 97, nat_lit 99, nat_lit 107, nat_lit 97, nat_lit 103, nat_lit 101, nat_lit 95, nat_lit 95]⟩⟩
noncomputable def a4 : Str := ⟨⟨[nat_lit 95, nat_lit 95, nat_lit 108, nat_lit 111, nat_lit 97, nat_lit 100, nat_lit 101, nat_lit 114, nat_lit 95, nat_lit 95]⟩⟩
noncomputable def a5 : Str := ⟨⟨[nat_lit 95, nat_lit 95, nat_lit 115, nat_lit 112, nat_lit 101, nat_lit 99, nat_lit 95, nat_lit 95]⟩⟩
noncomputable def a6 : Str := ⟨⟨[nat_lit 95, nat_lit 95, nat_lit 97, nat_lit 110, nat_lit 110, nat_lit 111, nat_lit 116, nat_lit 97, nat_lit 116, nat_lit 105, nat_lit 111, nat_lit 110, nat_lit 115, nat_lit 95, nat_lit 95]⟩⟩
noncomputable def a7 : Str := ⟨⟨[nat_lit 95, nat_lit 95, nat_lit 98, nat_lit 117, nat_lit 105, nat_lit 108, nat_lit 116, nat_lit 105, nat_lit 110, nat_lit 115, nat_lit 95, nat_lit 95]⟩⟩
noncomputable def a8 : Str := ⟨⟨[nat_lit 95, nat_lit 95, nat_lit 102, nat_lit 105, nat_lit 108, nat_lit 101, nat_lit 95, nat_lit 95]⟩⟩
noncomputable def a9 : Str := ⟨⟨[nat_lit 47, nat_lit 99, nat_lit 108, nat_lit 97, nat_lit 105, nat_lit 109, nat_lit 47, nat_lit 99, nat_lit 117, nat_lit 116, nat_lit 46, nat_lit 112, nat_lit 121]⟩⟩
noncomputable def a10 : Str := ⟨⟨[nat_lit 95, nat_lit 95, nat_lit 99, nat_lit 97, nat_lit 99, nat_lit 104, nat_lit 101, nat_lit 100, nat_lit 95, nat_lit 95]⟩⟩
noncomputable def a11 : Str := ⟨⟨[nat_lit 66, nat_lit 111, nat_lit 97, nat_lit 114, nat_lit 100, nat_lit 69, nat_lit 114, nat_lit 114, nat_lit 111, nat_lit 114]⟩⟩
noncomputable def a12 : Str := ⟨⟨[nat_lit 66, nat_lit 97, nat_lit 100, nat_lit 65, nat_lit 114, nat_lit 103, nat_lit 117, nat_lit 109, nat_lit 101, nat_lit 110, nat_lit 116]⟩⟩
noncomputable def a13 : Str := ⟨⟨[nat_lit 66, nat_lit 97, nat_lit 100, nat_lit 73, nat_lit 110, nat_lit 115, nat_lit 116, nat_lit 114, nat_lit 117, nat_lit 99, nat_lit 116, nat_lit 105, nat_lit 111, nat_lit 110]⟩⟩
noncomputable def a14 : Str := ⟨⟨[nat_lit 65, nat_lit 66, nat_lit 73]⟩⟩
noncomputable def a15 : Str := ⟨⟨[nat_lit 67, nat_lit 83, nat_lit 82, nat_lit 83]⟩⟩
noncomputable def a16 : Str := ⟨⟨[nat_lit 76, nat_lit 79, nat_lit 65, nat_lit 68]⟩⟩
noncomputable def a17 : Str := ⟨⟨[nat_lit 70, nat_lit 69, nat_lit 78, nat_lit 67, nat_lit 69, nat_lit 83]⟩⟩
noncomputable def a18 : Str := ⟨⟨[nat_lit 73, nat_lit 77, nat_lit 77, nat_lit 69, nat_lit 68, nat_lit 73, nat_lit 65, nat_lit 84, nat_lit 69]⟩⟩
noncomputable def a19 : Str := ⟨⟨[nat_lit 65, nat_lit 85, nat_lit 73, nat_lit 80, nat_lit 67]⟩⟩
noncomputable def a20 : Str := ⟨⟨[nat_lit 83, nat_lit 84, nat_lit 79, nat_lit 82, nat_lit 69]⟩⟩
noncomputable def a21 : Str := ⟨⟨[nat_lit 82, nat_lit 69, nat_lit 71, nat_lit 73, nat_lit 83, nat_lit 84, nat_lit 69, nat_lit 82]⟩⟩
noncomputable def a22 : Str := ⟨⟨[nat_lit 76, nat_lit 85, nat_lit 73]⟩⟩
noncomputable def a23 : Str := ⟨⟨[nat_lit 66, nat_lit 82, nat_lit 65, nat_lit 78, nat_lit 67, nat_lit 72]⟩⟩
noncomputable def a24 : Str := ⟨⟨[nat_lit 74, nat_lit 65, nat_lit 76, nat_lit 82]⟩⟩
noncomputable def a25 : Str := ⟨⟨[nat_lit 74, nat_lit 65, nat_lit 76]⟩⟩
noncomputable def a26 : Str := ⟨⟨[nat_lit 83, nat_lit 89, nat_lit 83, nat_lit 84, nat_lit 69, nat_lit 77]⟩⟩
noncomputable def a27 : Str := ⟨⟨[nat_lit 83, nat_lit 69, nat_lit 84, nat_lit 83]⟩⟩
noncomputable def a28 : Str := ⟨⟨[nat_lit 105, nat_lit 111, nat_lit 114, nat_lit 119]⟩⟩
noncomputable def a29 : Str := ⟨⟨[nat_lit 73, nat_lit 110, nat_lit 115, nat_lit 116, nat_lit 114, nat_lit 117, nat_lit 99, nat_lit 116, nat_lit 105, nat_lit 111, nat_lit 110]⟩⟩
noncomputable def a30 : Str := ⟨⟨[nat_lit 83, nat_lit 104, nat_lit 97, nat_lit 112, nat_lit 101]⟩⟩
noncomputable def a31 : Str := ⟨⟨[nat_lit 110, nat_lit 117, nat_lit 109, nat_lit 98, nat_lit 101, nat_lit 114, nat_lit 101, nat_lit 100]⟩⟩
noncomputable def a32 : Str := ⟨⟨[nat_lit 115, nat_lit 104, nat_lit 97, nat_lit 112, nat_lit 101, nat_lit 115]⟩⟩
noncomputable def a33 : Str := ⟨⟨[nat_lit 60, nat_lit 109, nat_lit 111, nat_lit 100, nat_lit 117, nat_lit 108, nat_lit 101, nat_lit 62]⟩⟩
noncomputable def a34 : Str := ⟨⟨[nat_lit 95, nat_lit 95, nat_lit 109, nat_lit 97, nat_lit 105, nat_lit 110, nat_lit 95, nat_lit 95]⟩⟩
noncomputable def a35 : Str := ⟨⟨[nat_lit 95, nat_lit 95, nat_lit 109, nat_lit 111, nat_lit 100, nat_lit 117, nat_lit 108, nat_lit 101, nat_lit 95, nat_lit 95]⟩⟩
noncomputable def a36 : Str := ⟨⟨[nat_lit 112, nat_lit 105, nat_lit 112, nat_lit 101, nat_lit 98, nat_lit 111, nat_lit 97, nat_lit 114, nat_lit 100, nat_lit 46, nat_lit 101, nat_lit 114, nat_lit 114, nat_lit 111, nat_lit 114, nat_lit 115]⟩⟩
noncomputable def a37 : Str := ⟨⟨[nat_lit 95, nat_lit 95, nat_lit 113, nat_lit 117, nat_lit 97, nat_lit 108, nat_lit 110, nat_lit 97, nat_lit 109, nat_lit 101, nat_lit 95, nat_lit 95]⟩⟩
noncomputable def a38 : Str := ⟨⟨[nat_lit 95, nat_lit 95, nat_lit 102, nat_lit 105, nat_lit 114, nat_lit 115, nat_lit 116, nat_lit 108, nat_lit 105, nat_lit 110, nat_lit 101, nat_lit 110, nat_lit 111, nat_lit 95, nat_lit 95]⟩⟩
noncomputable def a39 : Str := ⟨⟨[nat_lit 95, nat_lit 95, nat_lit 105, nat_lit 110, nat_lit 105, nat_lit 116, nat_lit 95, nat_lit 95]⟩⟩
noncomputable def a40 : Str := ⟨⟨[nat_lit 95, nat_lit 95, nat_lit 115, nat_lit 116, nat_lit 97, nat_lit 116, nat_lit 105, nat_lit 99, nat_lit 95, nat_lit 97, nat_lit 116, nat_lit 116, nat_lit 114, nat_lit 105, nat_lit 98, nat_lit 117, nat_lit 116, nat_lit 101, nat_lit 115, nat_lit 95, nat_lit 95]⟩⟩
noncomputable def a41 : Str := ⟨⟨[]⟩⟩
noncomputable def a42 : Str := ⟨⟨[nat_lit 115, nat_lit 101, nat_lit 108, nat_lit 102]⟩⟩
noncomputable def a43 : Str := ⟨⟨[nat_lit 114, nat_lit 101, nat_lit 97, nat_lit 115, nat_lit 111, nat_lit 110]⟩⟩
noncomputable def a44 : Str := ⟨⟨[nat_lit 66, nat_lit 111, nat_lit 97, nat_lit 114, nat_lit 100, nat_lit 69, nat_lit 114, nat_lit 114, nat_lit 111, nat_lit 114, nat_lit 46, nat_lit 95, nat_lit 95, nat_lit 105, nat_lit 110, nat_lit 105, nat_lit 116, nat_lit 95, nat_lit 95]⟩⟩
noncomputable def a45 : Str := ⟨⟨[nat_lit 95, nat_lit 95, nat_lit 119, nat_lit 101, nat_lit 97, nat_lit 107, nat_lit 114, nat_lit 101, nat_lit 102, nat_lit 95, nat_lit 95]⟩⟩
noncomputable def a46 : Str := ⟨⟨[nat_lit 119, nat_lit 111, nat_lit 114, nat_lit 100]⟩⟩
noncomputable def a47 : Str := ⟨⟨[nat_lit 66, nat_lit 97, nat_lit 100, nat_lit 73, nat_lit 110, nat_lit 115, nat_lit 116, nat_lit 114, nat_lit 117, nat_lit 99, nat_lit 116, nat_lit 105, nat_lit 111, nat_lit 110, nat_lit 46, nat_lit 95, nat_lit 95, nat_lit 105, nat_lit 110, nat_lit 105, nat_lit 116, nat_lit 95, nat_lit 95]⟩⟩
noncomputable def a48 : Str := ⟨⟨[nat_lit 122, nat_lit 101, nat_lit 114, nat_lit 111]⟩⟩
noncomputable def a49 : Str := ⟨⟨[nat_lit 114, nat_lit 97]⟩⟩
noncomputable def a50 : Str := ⟨⟨[nat_lit 115, nat_lit 112]⟩⟩
noncomputable def a51 : Str := ⟨⟨[nat_lit 103, nat_lit 112]⟩⟩
noncomputable def a52 : Str := ⟨⟨[nat_lit 116, nat_lit 112]⟩⟩
noncomputable def a53 : Str := ⟨⟨[nat_lit 116, nat_lit 48]⟩⟩
noncomputable def a54 : Str := ⟨⟨[nat_lit 116, nat_lit 49]⟩⟩
noncomputable def a55 : Str := ⟨⟨[nat_lit 116, nat_lit 50]⟩⟩
noncomputable def a56 : Str := ⟨⟨[nat_lit 115, nat_lit 48]⟩⟩
noncomputable def a57 : Str := ⟨⟨[nat_lit 115, nat_lit 49]⟩⟩
noncomputable def a58 : Str := ⟨⟨[nat_lit 97, nat_lit 48]⟩⟩
noncomputable def a59 : Str := ⟨⟨[nat_lit 97, nat_lit 49]⟩⟩
noncomputable def a60 : Str := ⟨⟨[nat_lit 97, nat_lit 50]⟩⟩
noncomputable def a61 : Str := ⟨⟨[nat_lit 97, nat_lit 51]⟩⟩
noncomputable def a62 : Str := ⟨⟨[nat_lit 97, nat_lit 52]⟩⟩
noncomputable def a63 : Str := ⟨⟨[nat_lit 97, nat_lit 53]⟩⟩
noncomputable def a64 : Str := ⟨⟨[nat_lit 97, nat_lit 54]⟩⟩
noncomputable def a65 : Str := ⟨⟨[nat_lit 97, nat_lit 55]⟩⟩
noncomputable def a66 : Str := ⟨⟨[nat_lit 115, nat_lit 50]⟩⟩
noncomputable def a67 : Str := ⟨⟨[nat_lit 115, nat_lit 51]⟩⟩
noncomputable def a68 : Str := ⟨⟨[nat_lit 115, nat_lit 52]⟩⟩
noncomputable def a69 : Str := ⟨⟨[nat_lit 115, nat_lit 53]⟩⟩
noncomputable def a70 : Str := ⟨⟨[nat_lit 115, nat_lit 54]⟩⟩
noncomputable def a71 : Str := ⟨⟨[nat_lit 115, nat_lit 55]⟩⟩
noncomputable def a72 : Str := ⟨⟨[nat_lit 115, nat_lit 56]⟩⟩
noncomputable def a73 : Str := ⟨⟨[nat_lit 115, nat_lit 57]⟩⟩
noncomputable def a74 : Str := ⟨⟨[nat_lit 115, nat_lit 49, nat_lit 48]⟩⟩
noncomputable def a75 : Str := ⟨⟨[nat_lit 115, nat_lit 49, nat_lit 49]⟩⟩
noncomputable def a76 : Str := ⟨⟨[nat_lit 116, nat_lit 51]⟩⟩
noncomputable def a77 : Str := ⟨⟨[nat_lit 116, nat_lit 52]⟩⟩
noncomputable def a78 : Str := ⟨⟨[nat_lit 116, nat_lit 53]⟩⟩
noncomputable def a79 : Str := ⟨⟨[nat_lit 116, nat_lit 54]⟩⟩
noncomputable def a80 : Str := ⟨⟨[nat_lit 115, nat_lit 115, nat_lit 116, nat_lit 97, nat_lit 116, nat_lit 117, nat_lit 115]⟩⟩
noncomputable def a81 : Str := ⟨⟨[nat_lit 115, nat_lit 105, nat_lit 101]⟩⟩
noncomputable def a82 : Str := ⟨⟨[nat_lit 115, nat_lit 116, nat_lit 118, nat_lit 101, nat_lit 99]⟩⟩
noncomputable def a83 : Str := ⟨⟨[nat_lit 115, nat_lit 99, nat_lit 111, nat_lit 117, nat_lit 110, nat_lit 116, nat_lit 101, nat_lit 114, nat_lit 101, nat_lit 110]⟩⟩
noncomputable def a84 : Str := ⟨⟨[nat_lit 115, nat_lit 115, nat_lit 99, nat_lit 114, nat_lit 97, nat_lit 116, nat_lit 99, nat_lit 104]⟩⟩
noncomputable def a85 : Str := ⟨⟨[nat_lit 115, nat_lit 101, nat_lit 112, nat_lit 99]⟩⟩
noncomputable def a86 : Str := ⟨⟨[nat_lit 115, nat_lit 99, nat_lit 97, nat_lit 117, nat_lit 115, nat_lit 101]⟩⟩
noncomputable def a87 : Str := ⟨⟨[nat_lit 115, nat_lit 116, nat_lit 118, nat_lit 97, nat_lit 108]⟩⟩
noncomputable def a88 : Str := ⟨⟨[nat_lit 115, nat_lit 105, nat_lit 112]⟩⟩
noncomputable def a89 : Str := ⟨⟨[nat_lit 115, nat_lit 97, nat_lit 116, nat_lit 112]⟩⟩
noncomputable def a90 : Str := ⟨⟨[nat_lit 109, nat_lit 115, nat_lit 116, nat_lit 97, nat_lit 116, nat_lit 117, nat_lit 115]⟩⟩
noncomputable def a91 : Str := ⟨⟨[nat_lit 109, nat_lit 105, nat_lit 115, nat_lit 97]⟩⟩
noncomputable def a92 : Str := ⟨⟨[nat_lit 109, nat_lit 101, nat_lit 100, nat_lit 101, nat_lit 108, nat_lit 101, nat_lit 103]⟩⟩
noncomputable def a93 : Str := ⟨⟨[nat_lit 109, nat_lit 105, nat_lit 100, nat_lit 101, nat_lit 108, nat_lit 101, nat_lit 103]⟩⟩
noncomputable def a94 : Str := ⟨⟨[nat_lit 109, nat_lit 105, nat_lit 101]⟩⟩
noncomputable def a95 : Str := ⟨⟨[nat_lit 109, nat_lit 116, nat_lit 118, nat_lit 101, nat_lit 99]⟩⟩
noncomputable def a96 : Str := ⟨⟨[nat_lit 109, nat_lit 99, nat_lit 111, nat_lit 117, nat_lit 110, nat_lit 116, nat_lit 101, nat_lit 114, nat_lit 101, nat_lit 110]⟩⟩
noncomputable def a97 : Str := ⟨⟨[nat_lit 109, nat_lit 115, nat_lit 99, nat_lit 114, nat_lit 97, nat_lit 116, nat_lit 99, nat_lit 104]⟩⟩
noncomputable def a98 : Str := ⟨⟨[nat_lit 109, nat_lit 101, nat_lit 112, nat_lit 99]⟩⟩
noncomputable def a99 : Str := ⟨⟨[nat_lit 109, nat_lit 99, nat_lit 97, nat_lit 117, nat_lit 115, nat_lit 101]⟩⟩
noncomputable def a100 : Str := ⟨⟨[nat_lit 109, nat_lit 116, nat_lit 118, nat_lit 97, nat_lit 108]⟩⟩
noncomputable def a101 : Str := ⟨⟨[nat_lit 109, nat_lit 105, nat_lit 112]⟩⟩
noncomputable def a102 : Str := ⟨⟨[nat_lit 109, nat_lit 99, nat_lit 121, nat_lit 99, nat_lit 108, nat_lit 101]⟩⟩
noncomputable def a103 : Str := ⟨⟨[nat_lit 109, nat_lit 105, nat_lit 110, nat_lit 115, nat_lit 116, nat_lit 114, nat_lit 101, nat_lit 116]⟩⟩
noncomputable def a104 : Str := ⟨⟨[nat_lit 109, nat_lit 99, nat_lit 121, nat_lit 99, nat_lit 108, nat_lit 101, nat_lit 104]⟩⟩
noncomputable def a105 : Str := ⟨⟨[nat_lit 109, nat_lit 105, nat_lit 110, nat_lit 115, nat_lit 116, nat_lit 114, nat_lit 101, nat_lit 116, nat_lit 104]⟩⟩
noncomputable def a106 : Str := ⟨⟨[nat_lit 99, nat_lit 121, nat_lit 99, nat_lit 108, nat_lit 101]⟩⟩
noncomputable def a107 : Str := ⟨⟨[nat_lit 116, nat_lit 105, nat_lit 109, nat_lit 101]⟩⟩
noncomputable def a108 : Str := ⟨⟨[nat_lit 105, nat_lit 110, nat_lit 115, nat_lit 116, nat_lit 114, nat_lit 101, nat_lit 116]⟩⟩
noncomputable def a109 : Str := ⟨⟨[nat_lit 99, nat_lit 121, nat_lit 99, nat_lit 108, nat_lit 101, nat_lit 104]⟩⟩
noncomputable def a110 : Str := ⟨⟨[nat_lit 116, nat_lit 105, nat_lit 109, nat_lit 101, nat_lit 104]⟩⟩
noncomputable def a111 : Str := ⟨⟨[nat_lit 105, nat_lit 110, nat_lit 115, nat_lit 116, nat_lit 114, nat_lit 101, nat_lit 116, nat_lit 104]⟩⟩
noncomputable def a112 : Str := ⟨⟨[nat_lit 109, nat_lit 118, nat_lit 101, nat_lit 110, nat_lit 100, nat_lit 111, nat_lit 114, nat_lit 105, nat_lit 100]⟩⟩
noncomputable def a113 : Str := ⟨⟨[nat_lit 109, nat_lit 97, nat_lit 114, nat_lit 99, nat_lit 104, nat_lit 105, nat_lit 100]⟩⟩
noncomputable def a114 : Str := ⟨⟨[nat_lit 109, nat_lit 105, nat_lit 109, nat_lit 112, nat_lit 105, nat_lit 100]⟩⟩
noncomputable def a115 : Str := ⟨⟨[nat_lit 109, nat_lit 104, nat_lit 97, nat_lit 114, nat_lit 116, nat_lit 105, nat_lit 100]⟩⟩
noncomputable def a116 : Str := ⟨⟨[nat_lit 102, nat_lit 105, nat_lit 101, nat_lit 108, nat_lit 100, nat_lit 115]⟩⟩
noncomputable def a117 : Str := ⟨⟨[nat_lit 110, nat_lit 97, nat_lit 109, nat_lit 101]⟩⟩
noncomputable def a118 : Str := ⟨⟨[nat_lit 114, nat_lit 100]⟩⟩
noncomputable def a119 : Str := ⟨⟨[nat_lit 114, nat_lit 115, nat_lit 49]⟩⟩
noncomputable def a120 : Str := ⟨⟨[nat_lit 114, nat_lit 115, nat_lit 50]⟩⟩
noncomputable def a121 : Str := ⟨⟨[nat_lit 105, nat_lit 109, nat_lit 109]⟩⟩
noncomputable def a122 : Str := ⟨⟨[nat_lit 99, nat_lit 115, nat_lit 114]⟩⟩
noncomputable def a123 : Str := ⟨⟨[nat_lit 73, nat_lit 110, nat_lit 115, nat_lit 116, nat_lit 114, nat_lit 117, nat_lit 99, nat_lit 116, nat_lit 105, nat_lit 111, nat_lit 110, nat_lit 46, nat_lit 95, nat_lit 95, nat_lit 105, nat_lit 110, nat_lit 105, nat_lit 116, nat_lit 95, nat_lit 95]⟩⟩
noncomputable def a124 : Str := ⟨⟨[nat_lit 73, nat_lit 110, nat_lit 115, nat_lit 116, nat_lit 114, nat_lit 117, nat_lit 99, nat_lit 116, nat_lit 105, nat_lit 111, nat_lit 110, nat_lit 46, nat_lit 102, nat_lit 105, nat_lit 101, nat_lit 108, nat_lit 100, nat_lit 115]⟩⟩
noncomputable def a125 : Str := ⟨⟨[nat_lit 95, nat_lit 95, nat_lit 100, nat_lit 105, nat_lit 99, nat_lit 116, nat_lit 95, nat_lit 95]⟩⟩
noncomputable def a126 : Str := ⟨⟨[nat_lit 102, nat_lit 105, nat_lit 120, nat_lit 101, nat_lit 100]⟩⟩
noncomputable def a127 : Str := ⟨⟨[nat_lit 107, nat_lit 105, nat_lit 110, nat_lit 100]⟩⟩
noncomputable def a128 : Str := ⟨⟨[nat_lit 111, nat_lit 112, nat_lit 99, nat_lit 111, nat_lit 100, nat_lit 101]⟩⟩
noncomputable def a129 : Str := ⟨⟨[nat_lit 116, nat_lit 104, nat_lit 105, nat_lit 114, nat_lit 100]⟩⟩
noncomputable def a130 : Str := ⟨⟨[nat_lit 115, nat_lit 101, nat_lit 118, nat_lit 101, nat_lit 110, nat_lit 116, nat_lit 104]⟩⟩
noncomputable def a131 : Str := ⟨⟨[nat_lit 83, nat_lit 104, nat_lit 97, nat_lit 112, nat_lit 101, nat_lit 46, nat_lit 95, nat_lit 95, nat_lit 105, nat_lit 110, nat_lit 105, nat_lit 116, nat_lit 95, nat_lit 95]⟩⟩
noncomputable def a132 : Str := ⟨⟨[nat_lit 83, nat_lit 104, nat_lit 97, nat_lit 112, nat_lit 101, nat_lit 46, nat_lit 102, nat_lit 105, nat_lit 120, nat_lit 101, nat_lit 100]⟩⟩
noncomputable def a133 : Str := ⟨⟨[nat_lit 110, nat_lit 97, nat_lit 109, nat_lit 101, nat_lit 115]⟩⟩
noncomputable def a134 : Str := ⟨⟨[nat_lit 102, nat_lit 111, nat_lit 117, nat_lit 110, nat_lit 100]⟩⟩
noncomputable def a135 : Str := ⟨⟨[nat_lit 110, nat_lit 117, nat_lit 109, nat_lit 98, nat_lit 101, nat_lit 114]⟩⟩
noncomputable def a136 : Str := ⟨⟨[nat_lit 75, nat_lit 110, nat_lit 111, nat_lit 119, nat_lit 110]⟩⟩
noncomputable def a137 : Str := ⟨⟨[nat_lit 108, nat_lit 117, nat_lit 105]⟩⟩
noncomputable def a138 : Str := ⟨⟨[nat_lit 85]⟩⟩
noncomputable def a139 : Str := ⟨⟨[nat_lit 97, nat_lit 117, nat_lit 105, nat_lit 112, nat_lit 99]⟩⟩
noncomputable def a140 : Str := ⟨⟨[nat_lit 106, nat_lit 97, nat_lit 108]⟩⟩
noncomputable def a141 : Str := ⟨⟨[nat_lit 74]⟩⟩
noncomputable def a142 : Str := ⟨⟨[nat_lit 106, nat_lit 97, nat_lit 108, nat_lit 114]⟩⟩
noncomputable def a143 : Str := ⟨⟨[nat_lit 73]⟩⟩
noncomputable def a144 : Str := ⟨⟨[nat_lit 98, nat_lit 101, nat_lit 113, nat_lit 32, nat_lit 98, nat_lit 110, nat_lit 101, nat_lit 32, nat_lit 45, nat_lit 32, nat_lit 45, nat_lit 32, nat_lit 98, nat_lit 108, nat_lit 116, nat_lit 32, nat_lit 98, nat_lit 103, nat_lit 101, nat_lit 32, nat_lit 98, nat_lit 108, nat_lit 116, nat_lit 117, nat_lit 32, nat_lit 98, nat_lit 103, nat_lit 101, nat_lit 117]⟩⟩
noncomputable def a145 : Str := ⟨⟨[nat_lit 66]⟩⟩
noncomputable def a146 : Str := ⟨⟨[nat_lit 98, nat_lit 103, nat_lit 101, nat_lit 117]⟩⟩
noncomputable def a147 : Str := ⟨⟨[nat_lit 98, nat_lit 101, nat_lit 113]⟩⟩
noncomputable def a148 : Str := ⟨⟨[nat_lit 98, nat_lit 110, nat_lit 101]⟩⟩
noncomputable def a149 : Str := ⟨⟨[nat_lit 45]⟩⟩
noncomputable def a150 : Str := ⟨⟨[nat_lit 98, nat_lit 108, nat_lit 116]⟩⟩
noncomputable def a151 : Str := ⟨⟨[nat_lit 98, nat_lit 103, nat_lit 101]⟩⟩
noncomputable def a152 : Str := ⟨⟨[nat_lit 98, nat_lit 108, nat_lit 116, nat_lit 117]⟩⟩
noncomputable def a153 : Str := ⟨⟨[nat_lit 108, nat_lit 98, nat_lit 32, nat_lit 108, nat_lit 104, nat_lit 32, nat_lit 108, nat_lit 119, nat_lit 32, nat_lit 45, nat_lit 32, nat_lit 108, nat_lit 98, nat_lit 117, nat_lit 32, nat_lit 108, nat_lit 104, nat_lit 117]⟩⟩
noncomputable def a154 : Str := ⟨⟨[nat_lit 108, nat_lit 104, nat_lit 117]⟩⟩
noncomputable def a155 : Str := ⟨⟨[nat_lit 108, nat_lit 98]⟩⟩
noncomputable def a156 : Str := ⟨⟨[nat_lit 108, nat_lit 104]⟩⟩
noncomputable def a157 : Str := ⟨⟨[nat_lit 108, nat_lit 119]⟩⟩
noncomputable def a158 : Str := ⟨⟨[nat_lit 108, nat_lit 98, nat_lit 117]⟩⟩
noncomputable def a159 : Str := ⟨⟨[nat_lit 115, nat_lit 98, nat_lit 32, nat_lit 115, nat_lit 104, nat_lit 32, nat_lit 115, nat_lit 119]⟩⟩
noncomputable def a160 : Str := ⟨⟨[nat_lit 83]⟩⟩
noncomputable def a161 : Str := ⟨⟨[nat_lit 115, nat_lit 119]⟩⟩
noncomputable def a162 : Str := ⟨⟨[nat_lit 115, nat_lit 98]⟩⟩
noncomputable def a163 : Str := ⟨⟨[nat_lit 115, nat_lit 104]⟩⟩
noncomputable def a164 : Str := ⟨⟨[nat_lit 97, nat_lit 100, nat_lit 100, nat_lit 105, nat_lit 32, nat_lit 45, nat_lit 32, nat_lit 115, nat_lit 108, nat_lit 116, nat_lit 105, nat_lit 32, nat_lit 115, nat_lit 108, nat_lit 116, nat_lit 105, nat_lit 117, nat_lit 32, nat_lit 120, nat_lit 111, nat_lit 114, nat_lit 105, nat_lit 32, nat_lit 45, nat_lit 32, nat_lit 111, nat_lit 114, nat_lit 105, nat_lit 32, nat_lit 97, nat_lit 110, nat_lit 100, nat_lit 105]⟩⟩
noncomputable def a165 : Str := ⟨⟨[nat_lit 97, nat_lit 110, nat_lit 100, nat_lit 105]⟩⟩
noncomputable def a166 : Str := ⟨⟨[nat_lit 97, nat_lit 100, nat_lit 100, nat_lit 105]⟩⟩
noncomputable def a167 : Str := ⟨⟨[nat_lit 115, nat_lit 108, nat_lit 116, nat_lit 105]⟩⟩
noncomputable def a168 : Str := ⟨⟨[nat_lit 115, nat_lit 108, nat_lit 116, nat_lit 105, nat_lit 117]⟩⟩
noncomputable def a169 : Str := ⟨⟨[nat_lit 120, nat_lit 111, nat_lit 114, nat_lit 105]⟩⟩
noncomputable def a170 : Str := ⟨⟨[nat_lit 111, nat_lit 114, nat_lit 105]⟩⟩
noncomputable def a171 : Str := ⟨⟨[nat_lit 45, nat_lit 32, nat_lit 115, nat_lit 108, nat_lit 108, nat_lit 105, nat_lit 32, nat_lit 45, nat_lit 32, nat_lit 45, nat_lit 32, nat_lit 45, nat_lit 32, nat_lit 115, nat_lit 114, nat_lit 108, nat_lit 105]⟩⟩
noncomputable def a172 : Str := ⟨⟨[nat_lit 115, nat_lit 104, nat_lit 105, nat_lit 102, nat_lit 116]⟩⟩
noncomputable def a173 : Str := ⟨⟨[nat_lit 115, nat_lit 114, nat_lit 108, nat_lit 105]⟩⟩
noncomputable def a174 : Str := ⟨⟨[nat_lit 115, nat_lit 108, nat_lit 108, nat_lit 105]⟩⟩
noncomputable def a175 : Str := ⟨⟨[nat_lit 45, nat_lit 32, nat_lit 45, nat_lit 32, nat_lit 45, nat_lit 32, nat_lit 45, nat_lit 32, nat_lit 45, nat_lit 32, nat_lit 115, nat_lit 114, nat_lit 97, nat_lit 105]⟩⟩
noncomputable def a176 : Str := ⟨⟨[nat_lit 115, nat_lit 114, nat_lit 97, nat_lit 105]⟩⟩
noncomputable def a177 : Str := ⟨⟨[nat_lit 97, nat_lit 100, nat_lit 100, nat_lit 32, nat_lit 115, nat_lit 108, nat_lit 108, nat_lit 32, nat_lit 115, nat_lit 108, nat_lit 116, nat_lit 32, nat_lit 115, nat_lit 108, nat_lit 116, nat_lit 117, nat_lit 32, nat_lit 120, nat_lit 111, nat_lit 114, nat_lit 32, nat_lit 115, nat_lit 114, nat_lit 108, nat_lit 32, nat_lit 111, nat_lit 114, nat_lit 32, nat_lit 97, nat_lit 110, nat_lit 100]⟩⟩
noncomputable def a178 : Str := ⟨⟨[nat_lit 82]⟩⟩
noncomputable def a179 : Str := ⟨⟨[nat_lit 97, nat_lit 110, nat_lit 100]⟩⟩
noncomputable def a180 : Str := ⟨⟨[nat_lit 97, nat_lit 100, nat_lit 100]⟩⟩
noncomputable def a181 : Str := ⟨⟨[nat_lit 115, nat_lit 108, nat_lit 108]⟩⟩
noncomputable def a182 : Str := ⟨⟨[nat_lit 115, nat_lit 108, nat_lit 116]⟩⟩
noncomputable def a183 : Str := ⟨⟨[nat_lit 115, nat_lit 108, nat_lit 116, nat_lit 117]⟩⟩
noncomputable def a184 : Str := ⟨⟨[nat_lit 120, nat_lit 111, nat_lit 114]⟩⟩
noncomputable def a185 : Str := ⟨⟨[nat_lit 115, nat_lit 114, nat_lit 108]⟩⟩
noncomputable def a186 : Str := ⟨⟨[nat_lit 111, nat_lit 114]⟩⟩
noncomputable def a187 : Str := ⟨⟨[nat_lit 115, nat_lit 117, nat_lit 98, nat_lit 32, nat_lit 45, nat_lit 32, nat_lit 45, nat_lit 32, nat_lit 45, nat_lit 32, nat_lit 45, nat_lit 32, nat_lit 115, nat_lit 114, nat_lit 97]⟩⟩
noncomputable def a188 : Str := ⟨⟨[nat_lit 115, nat_lit 114, nat_lit 97]⟩⟩
noncomputable def a189 : Str := ⟨⟨[nat_lit 115, nat_lit 117, nat_lit 98]⟩⟩
noncomputable def a190 : Str := ⟨⟨[nat_lit 109, nat_lit 117, nat_lit 108, nat_lit 32, nat_lit 109, nat_lit 117, nat_lit 108, nat_lit 104, nat_lit 32, nat_lit 109, nat_lit 117, nat_lit 108, nat_lit 104, nat_lit 115, nat_lit 117, nat_lit 32, nat_lit 109, nat_lit 117, nat_lit 108, nat_lit 104, nat_lit 117, nat_lit 32, nat_lit 100, nat_lit 105, nat_lit 118, nat_lit 32, nat_lit 100, nat_lit 105, nat_lit 118, nat_lit 117, nat_lit 32, nat_lit 114, nat_lit 101, nat_lit 109, nat_lit 32, nat_lit 114, nat_lit 101, nat_lit 109, nat_lit 117]⟩⟩
noncomputable def a191 : Str := ⟨⟨[nat_lit 114, nat_lit 101, nat_lit 109, nat_lit 117]⟩⟩
noncomputable def a192 : Str := ⟨⟨[nat_lit 109, nat_lit 117, nat_lit 108]⟩⟩
noncomputable def a193 : Str := ⟨⟨[nat_lit 109, nat_lit 117, nat_lit 108, nat_lit 104]⟩⟩
noncomputable def a194 : Str := ⟨⟨[nat_lit 109, nat_lit 117, nat_lit 108, nat_lit 104, nat_lit 115, nat_lit 117]⟩⟩
noncomputable def a195 : Str := ⟨⟨[nat_lit 109, nat_lit 117, nat_lit 108, nat_lit 104, nat_lit 117]⟩⟩
noncomputable def a196 : Str := ⟨⟨[nat_lit 100, nat_lit 105, nat_lit 118]⟩⟩
noncomputable def a197 : Str := ⟨⟨[nat_lit 100, nat_lit 105, nat_lit 118, nat_lit 117]⟩⟩
noncomputable def a198 : Str := ⟨⟨[nat_lit 114, nat_lit 101, nat_lit 109]⟩⟩
noncomputable def a199 : Str := ⟨⟨[nat_lit 102, nat_lit 101, nat_lit 110, nat_lit 99, nat_lit 101, nat_lit 32, nat_lit 102, nat_lit 101, nat_lit 110, nat_lit 99, nat_lit 101, nat_lit 46, nat_lit 105]⟩⟩
noncomputable def a200 : Str := ⟨⟨[nat_lit 102, nat_lit 101, nat_lit 110, nat_lit 99, nat_lit 101]⟩⟩
noncomputable def a201 : Str := ⟨⟨[nat_lit 102, nat_lit 101, nat_lit 110, nat_lit 99, nat_lit 101, nat_lit 46, nat_lit 105]⟩⟩
noncomputable def a202 : Str := ⟨⟨[nat_lit 45, nat_lit 32, nat_lit 99, nat_lit 115, nat_lit 114, nat_lit 114, nat_lit 119, nat_lit 32, nat_lit 99, nat_lit 115, nat_lit 114, nat_lit 114, nat_lit 115, nat_lit 32, nat_lit 99, nat_lit 115, nat_lit 114, nat_lit 114, nat_lit 99]⟩⟩
noncomputable def a203 : Str := ⟨⟨[nat_lit 67, nat_lit 83, nat_lit 82]⟩⟩
noncomputable def a204 : Str := ⟨⟨[nat_lit 99, nat_lit 115, nat_lit 114, nat_lit 114, nat_lit 99]⟩⟩
noncomputable def a205 : Str := ⟨⟨[nat_lit 99, nat_lit 115, nat_lit 114, nat_lit 114, nat_lit 119]⟩⟩
noncomputable def a206 : Str := ⟨⟨[nat_lit 99, nat_lit 115, nat_lit 114, nat_lit 114, nat_lit 115]⟩⟩
noncomputable def a207 : Str := ⟨⟨[nat_lit 45, nat_lit 32, nat_lit 45, nat_lit 32, nat_lit 45, nat_lit 32, nat_lit 45, nat_lit 32, nat_lit 45, nat_lit 32, nat_lit 99, nat_lit 115, nat_lit 114, nat_lit 114, nat_lit 119, nat_lit 105, nat_lit 32, nat_lit 99, nat_lit 115, nat_lit 114, nat_lit 114, nat_lit 115, nat_lit 105, nat_lit 32, nat_lit 99, nat_lit 115, nat_lit 114, nat_lit 114, nat_lit 99, nat_lit 105]⟩⟩
noncomputable def a208 : Str := ⟨⟨[nat_lit 67, nat_lit 83, nat_lit 82, nat_lit 73]⟩⟩
noncomputable def a209 : Str := ⟨⟨[nat_lit 99, nat_lit 115, nat_lit 114, nat_lit 114, nat_lit 99, nat_lit 105]⟩⟩
noncomputable def a210 : Str := ⟨⟨[nat_lit 99, nat_lit 115, nat_lit 114, nat_lit 114, nat_lit 119, nat_lit 105]⟩⟩
noncomputable def a211 : Str := ⟨⟨[nat_lit 99, nat_lit 115, nat_lit 114, nat_lit 114, nat_lit 115, nat_lit 105]⟩⟩
noncomputable def a212 : Str := ⟨⟨[nat_lit 109, nat_lit 114, nat_lit 101, nat_lit 116]⟩⟩
noncomputable def a213 : Str := ⟨⟨[nat_lit 115, nat_lit 102, nat_lit 101, nat_lit 110, nat_lit 99, nat_lit 101, nat_lit 46, nat_lit 118, nat_lit 109, nat_lit 97]⟩⟩
noncomputable def a214 : Str := ⟨⟨[nat_lit 102, nat_lit 108, nat_lit 117, nat_lit 115, nat_lit 104]⟩⟩
noncomputable def a215 : Str := ⟨⟨[nat_lit 101, nat_lit 99, nat_lit 97, nat_lit 108, nat_lit 108]⟩⟩
noncomputable def a216 : Str := ⟨⟨[nat_lit 101, nat_lit 98, nat_lit 114, nat_lit 101, nat_lit 97, nat_lit 107]⟩⟩
noncomputable def a217 : Str := ⟨⟨[nat_lit 115, nat_lit 114, nat_lit 101, nat_lit 116]⟩⟩
noncomputable def a218 : Str := ⟨⟨[nat_lit 119, nat_lit 102, nat_lit 105]⟩⟩
noncomputable def a219 : Str := ⟨⟨[nat_lit 115, nat_lit 121, nat_lit 115, nat_lit 116, nat_lit 101, nat_lit 109]⟩⟩
noncomputable def a220 : Str := ⟨⟨[nat_lit 83, nat_lit 72, nat_lit 65, nat_lit 80, nat_lit 69, nat_lit 83]⟩⟩
noncomputable def a221 : Str := ⟨⟨[nat_lit 115, nat_lit 104, nat_lit 97, nat_lit 112, nat_lit 101]⟩⟩
noncomputable def a222 : Str := ⟨⟨[nat_lit 66, nat_lit 89, nat_lit 95, nat_lit 78, nat_lit 65, nat_lit 77, nat_lit 69]⟩⟩
noncomputable def a223 : Str := ⟨⟨[nat_lit 66, nat_lit 89, nat_lit 95, nat_lit 79, nat_lit 80, nat_lit 67, nat_lit 79, nat_lit 68, nat_lit 69]⟩⟩
noncomputable def a224 : Str := ⟨⟨[nat_lit 66, nat_lit 89, nat_lit 95, nat_lit 84, nat_lit 72, nat_lit 73, nat_lit 82, nat_lit 68]⟩⟩
noncomputable def a225 : Str := ⟨⟨[nat_lit 66, nat_lit 89, nat_lit 95, nat_lit 83, nat_lit 69, nat_lit 86, nat_lit 69, nat_lit 78, nat_lit 84, nat_lit 72]⟩⟩
noncomputable def a226 : Str := ⟨⟨[nat_lit 108, nat_lit 97, nat_lit 119, nat_lit 95, nat_lit 112, nat_lit 113, nat_lit 48, nat_lit 57, nat_lit 48, nat_lit 48, nat_lit 95, nat_lit 48, nat_lit 49]⟩⟩
noncomputable def a227 : Str := ⟨⟨[nat_lit 85, nat_lit 83, nat_lit 69, nat_lit 68]⟩⟩
noncomputable def a228 : Str := ⟨⟨[nat_lit 82, nat_lit 65, nat_lit 78, nat_lit 71, nat_lit 69, nat_lit 83]⟩⟩
noncomputable def a229 : Str := ⟨⟨[nat_lit 115, nat_lit 104, nat_lit 97, nat_lit 112, nat_lit 101, nat_lit 95, nat_lit 111, nat_lit 102]⟩⟩
noncomputable def a230 : Str := ⟨⟨[nat_lit 99, nat_lit 104, nat_lit 101, nat_lit 99, nat_lit 107]⟩⟩
noncomputable def a231 : Str := ⟨⟨[nat_lit 115, nat_lit 112, nat_lit 114, nat_lit 101, nat_lit 97, nat_lit 100, nat_lit 95, nat_lit 98, nat_lit 114, nat_lit 97, nat_lit 110, nat_lit 99, nat_lit 104]⟩⟩
noncomputable def a232 : Str := ⟨⟨[nat_lit 115, nat_lit 112, nat_lit 114, nat_lit 101, nat_lit 97, nat_lit 100, nat_lit 95, nat_lit 106, nat_lit 117, nat_lit 109, nat_lit 112]⟩⟩
noncomputable def a233 : Str := ⟨⟨[nat_lit 101, nat_lit 110, nat_lit 99, nat_lit 111, nat_lit 100, nat_lit 101]⟩⟩
noncomputable def a234 : Str := ⟨⟨[nat_lit 103, nat_lit 97, nat_lit 116, nat_lit 104, nat_lit 101, nat_lit 114, nat_lit 101, nat_lit 100, nat_lit 95, nat_lit 98, nat_lit 114, nat_lit 97, nat_lit 110, nat_lit 99, nat_lit 104]⟩⟩
noncomputable def a235 : Str := ⟨⟨[nat_lit 103, nat_lit 97, nat_lit 116, nat_lit 104, nat_lit 101, nat_lit 114, nat_lit 101, nat_lit 100, nat_lit 95, nat_lit 106, nat_lit 117, nat_lit 109, nat_lit 112]⟩⟩
noncomputable def a236 : Str := ⟨⟨[nat_lit 102, nat_lit 105, nat_lit 110, nat_lit 100, nat_lit 95, nat_lit 115, nat_lit 104, nat_lit 97, nat_lit 112, nat_lit 101]⟩⟩
noncomputable def a237 : Str := ⟨⟨[nat_lit 100, nat_lit 101, nat_lit 99, nat_lit 111, nat_lit 100, nat_lit 101]⟩⟩
noncomputable def a238 : Str := ⟨⟨[nat_lit 99, nat_lit 115, nat_lit 114, nat_lit 95, nat_lit 116, nat_lit 101, nat_lit 120, nat_lit 116]⟩⟩
noncomputable def a239 : Str := ⟨⟨[nat_lit 115, nat_lit 101, nat_lit 116, nat_lit 95, nat_lit 116, nat_lit 101, nat_lit 120, nat_lit 116]⟩⟩
noncomputable def a240 : Str := ⟨⟨[nat_lit 102, nat_lit 101, nat_lit 110, nat_lit 99, nat_lit 101, nat_lit 95, nat_lit 116, nat_lit 101, nat_lit 120, nat_lit 116]⟩⟩
noncomputable def a241 : Str := ⟨⟨[nat_lit 116, nat_lit 101, nat_lit 120, nat_lit 116, nat_lit 95, nat_lit 111, nat_lit 102]⟩⟩
noncomputable def a242 : Str := ⟨⟨[nat_lit 95, nat_lit 108, nat_lit 97, nat_lit 119, nat_lit 95, nat_lit 116, nat_lit 97, nat_lit 107, nat_lit 101]⟩⟩
noncomputable def a243 : Str := ⟨⟨[nat_lit 95, nat_lit 108, nat_lit 97, nat_lit 119, nat_lit 95, nat_lit 102, nat_lit 111, nat_lit 114, nat_lit 109, nat_lit 115]⟩⟩
noncomputable def a244 : Str := ⟨⟨[nat_lit 95, nat_lit 108, nat_lit 97, nat_lit 119, nat_lit 95, nat_lit 110, nat_lit 117, nat_lit 109, nat_lit 98, nat_lit 101, nat_lit 114]⟩⟩
noncomputable def a245 : Str := ⟨⟨[nat_lit 95, nat_lit 108, nat_lit 97, nat_lit 119, nat_lit 95, nat_lit 102, nat_lit 105, nat_lit 101, nat_lit 108, nat_lit 100, nat_lit 115]⟩⟩
noncomputable def a246 : Str := ⟨⟨[nat_lit 95, nat_lit 108, nat_lit 97, nat_lit 119, nat_lit 95, nat_lit 116, nat_lit 101, nat_lit 120, nat_lit 116]⟩⟩
noncomputable def a247 : Str := ⟨⟨[nat_lit 95, nat_lit 108, nat_lit 97, nat_lit 119, nat_lit 95, nat_lit 105, nat_lit 115, nat_lit 95, nat_lit 114, nat_lit 101, nat_lit 102, nat_lit 117, nat_lit 115, nat_lit 101, nat_lit 100]⟩⟩
noncomputable def a248 : Str := ⟨⟨[nat_lit 95, nat_lit 108, nat_lit 97, nat_lit 119, nat_lit 95, nat_lit 102, nat_lit 111, nat_lit 114, nat_lit 109, nat_lit 95, nat_lit 114, nat_lit 105, nat_lit 103, nat_lit 104, nat_lit 116]⟩⟩
noncomputable def a249 : Str := ⟨⟨[nat_lit 108, nat_lit 97, nat_lit 119]⟩⟩
noncomputable def a250 : Str := ⟨⟨[nat_lit 87, nat_lit 72, nat_lit 79, nat_lit 76, nat_lit 69]⟩⟩
noncomputable def a251 : Str := ⟨⟨[nat_lit 105, nat_lit 110, nat_lit 115, nat_lit 116, nat_lit 114, nat_lit 117, nat_lit 99, nat_lit 116, nat_lit 105, nat_lit 111, nat_lit 110]⟩⟩
noncomputable def a252 : Str := ⟨⟨[nat_lit 117, nat_lit 115, nat_lit 101, nat_lit 100]⟩⟩
noncomputable def a253 : Str := ⟨⟨[nat_lit 110, nat_lit 117, nat_lit 109, nat_lit 98, nat_lit 101, nat_lit 114, nat_lit 115]⟩⟩
noncomputable def a254 : Str := ⟨⟨[nat_lit 108, nat_lit 101, nat_lit 97, nat_lit 115, nat_lit 116]⟩⟩
noncomputable def a255 : Str := ⟨⟨[nat_lit 103, nat_lit 114, nat_lit 101, nat_lit 97, nat_lit 116, nat_lit 101, nat_lit 115, nat_lit 116]⟩⟩
noncomputable def a256 : Str := ⟨⟨[nat_lit 115, nat_lit 116, nat_lit 101, nat_lit 112]⟩⟩
noncomputable def a257 : Str := ⟨⟨[nat_lit 108, nat_lit 111, nat_lit 119]⟩⟩
noncomputable def a258 : Str := ⟨⟨[nat_lit 104, nat_lit 105, nat_lit 103, nat_lit 104]⟩⟩
noncomputable def a259 : Str := ⟨⟨[nat_lit 111, nat_lit 119, nat_lit 110]⟩⟩
noncomputable def a260 : Str := ⟨⟨[nat_lit 116, nat_lit 97, nat_lit 112, nat_lit 101]⟩⟩
noncomputable def a261 : Str := ⟨⟨[nat_lit 109, nat_lit 97, nat_lit 110, nat_lit 121]⟩⟩
noncomputable def a262 : Str := ⟨⟨[nat_lit 97, nat_lit 116]⟩⟩
noncomputable def a263 : Str := ⟨⟨[nat_lit 119, nat_lit 97, nat_lit 121]⟩⟩
noncomputable def a264 : Str := ⟨⟨[nat_lit 119, nat_lit 114, nat_lit 105, nat_lit 116, nat_lit 116, nat_lit 101, nat_lit 110]⟩⟩
noncomputable def a265 : Str := ⟨⟨[nat_lit 98, nat_lit 111, nat_lit 117, nat_lit 110, nat_lit 100, nat_lit 115]⟩⟩
noncomputable def a266 : Str := ⟨⟨[nat_lit 105, nat_lit 115, nat_lit 95, nat_lit 108, nat_lit 101, nat_lit 116]⟩⟩
noncomputable def a267 : Str := ⟨⟨[nat_lit 115, nat_lit 112, nat_lit 111, nat_lit 116]⟩⟩
noncomputable def a268 : Str := ⟨⟨[nat_lit 105, nat_lit 115, nat_lit 95, nat_lit 114, nat_lit 105, nat_lit 103, nat_lit 104, nat_lit 116]⟩⟩
noncomputable def a269 : Str := ⟨⟨[nat_lit 116, nat_lit 111, nat_lit 108, nat_lit 100]⟩⟩
noncomputable def a270 : Str := ⟨⟨[nat_lit 109, nat_lit 97, nat_lit 100, nat_lit 101]⟩⟩
noncomputable def o3 (P : PP) : Obj := ⟨(.type PySem.W.SL.s14018661285674007319x4), none, (.dict #[⟨kq P a0, (.str a0 165), (.str a1 258)⟩, ⟨kq P a2, (.str a2 166), .none⟩, ⟨kq P a3, (.str a3 167), .none⟩, ⟨kq P a4, (.str a4 168), (.builtin PySem.W.SL.s7097527257260152453x26)⟩, ⟨kq P a5, (.str a5 169), .none⟩, ⟨kq P a6, (.str a6 170), (.ref 6)⟩, ⟨kq P a7, (.str a7 171), (.ref 4)⟩, ⟨kq P a8, (.str a8 173), (.str a9 172)⟩, ⟨kq P a10, (.str a10 174), .none⟩, ⟨kq P a11, (.str a11 216), (.ref 32)⟩, ⟨kq P a12, (.str a12 232), (.ref 45)⟩, ⟨kq P a13, (.str a13 257), (.ref 64)⟩, ⟨kq P a14, (.str a14 292), (.ref 67)⟩, ⟨kq P a15, (.str a15 401), (.ref 68)⟩, ⟨kq P a16, (.str a16 403), (.int (3) 402)⟩, ⟨kq P a17, (.str a17 405), (.int (15) 404)⟩, ⟨kq P a18, (.str a18 407), (.int (19) 406)⟩, ⟨kq P a19, (.str a19 409), (.int (23) 408)⟩, ⟨kq P a20, (.str a20 411), (.int (35) 410)⟩, ⟨kq P a21, (.str a21 413), (.int (51) 412)⟩, ⟨kq P a22, (.str a22 415), (.int (55) 414)⟩, ⟨kq P a23, (.str a23 417), (.int (99) 416)⟩, ⟨kq P a24, (.str a24 419), (.int (103) 418)⟩, ⟨kq P a25, (.str a25 421), (.int (111) 420)⟩, ⟨kq P a26, (.str a26 423), (.int (115) 422)⟩, ⟨kq P a27, (.str a27 425), (.str a28 424)⟩, ⟨kq P a29, (.str a29 476), (.ref 95)⟩, ⟨kq P a30, (.str a30 522), (.ref 124)⟩, ⟨kq P a31, (.str a31 536), (.ref 136)⟩, ⟨kq P a32, (.str a32 545), (.ref 143)⟩] 30), #[]⟩
noncomputable def o11 (P : PP) : Obj := ⟨(.type PySem.W.SL.s2766695959194262286x5), none, (.seq #[] 0), #[]⟩
noncomputable def o12 (P : PP) : Obj := ⟨.none, none, (.fields #[(.int (2) 0), (.int (0) 0), (.ref 20), (.int (7) 0), (.int (0) 0), (.ref 41), (.int (9) 0), (.int (0) 0), (.ref 53), (.int (29) 0), (.int (0) 0), (.ref 76), (.int (41) 0), (.int (0) 0), (.ref 105), (.int (52) 0), (.int (0) 0), (.ref 135), (.int (58) 0), (.int (0) 0), (.ref 142), (.int (76) 0), (.int (0) 0), (.ref 149)]), #[]⟩
noncomputable def o13 (P : PP) : Obj := ⟨(.type PySem.W.SL.s5856160107412720595x4), none, (.fields #[(.str a33 182), (.str a33 183), (.str a9 184), (.int (1) 0), (.int (0) 0), (.int (0) 0), (.int (0) 0), (.int (0) 0), (.ref 11), (.bool false), (.int (181) 0), (.ref 12), .none, .none, .none, .none, (.int (185) 0), (.int (1) 0), (.str a9 186)]), #[]⟩
noncomputable def o14 (P : PP) : Obj := ⟨(.type PySem.W.SL.s658472552662922059x5), none, .plain, #[(some (.ref 13)), (some (.ref 3)), (some (.ref 3)), none, (some (.str a34 164)), none, (some (.ref 0))]⟩
noncomputable def o15 (P : PP) : Obj := ⟨(.type PySem.W.SL.s2766695959194262286x5), none, (.seq #[(.type PySem.W.SL.s6070975301684473832x10)] 0), #[]⟩
noncomputable def o16 (P : PP) : Obj := ⟨(.type PySem.W.SL.s11030030927630378310x26), none, (.fields #[(.builtin PySem.W.SL.s10062305145149207511x16), (.type PySem.W.SL.s17162191345867700912x4)]), #[]⟩
noncomputable def o17 (P : PP) : Obj := ⟨(.type PySem.W.SL.s14018661285674007319x4), none, (.dict #[⟨kq P a35, (.str a35 196), (.str a36 187)⟩, ⟨kq P a37, (.str a37 198), (.str a11 197)⟩, ⟨kq P a38, (.str a38 200), (.int (2) 199)⟩, ⟨kq P a39, (.str a39 209), (.ref 29)⟩, ⟨kq P a40, (.str a40 211), (.ref 30)⟩] 5), #[]⟩
noncomputable def o18 (P : PP) : Obj := ⟨(.type PySem.W.SL.s2766695959194262286x5), none, (.seq #[] 0), #[]⟩
noncomputable def o19 (P : PP) : Obj := ⟨.none, none, (.fields #[(.int (4) 0), (.int (4) 0), (.ref 28)]), #[]⟩
noncomputable def o20 (P : PP) : Obj := ⟨(.type PySem.W.SL.s5856160107412720595x4), none, (.fields #[(.str a11 191), (.str a11 192), (.str a9 193), (.int (2) 0), (.int (0) 0), (.int (0) 0), (.int (0) 0), (.int (0) 0), (.ref 18), (.bool false), (.int (181) 0), (.ref 19), .none, .none, .none, .none, (.int (194) 0), (.int (2) 0), (.str a9 195)]), #[]⟩
noncomputable def o21 (P : PP) : Obj := ⟨(.type PySem.W.SL.s658472552662922059x5), none, .plain, #[(some (.ref 20)), (some (.ref 3)), (some (.ref 17)), none, (some (.str a36 187)), none, (some (.ref 0))]⟩
noncomputable def o22 (P : PP) : Obj := ⟨(.type PySem.W.SL.s2766695959194262286x5), none, (.seq #[(.str a41 201)] 0), #[]⟩
noncomputable def o23 (P : PP) : Obj := ⟨(.type PySem.W.SL.s2766695959194262286x5), none, (.seq #[] 0), #[]⟩
noncomputable def o24 (P : PP) : Obj := ⟨.none, none, (.fields #[]), #[]⟩
noncomputable def o25 (P : PP) : Obj := ⟨(.type PySem.W.SL.s2766695959194262286x5), none, (.seq #[(.str a42 205), (.str a43 206)] 0), #[]⟩
noncomputable def o26 (P : PP) : Obj := ⟨(.type PySem.W.SL.s2766695959194262286x5), none, (.seq #[] 0), #[]⟩
noncomputable def o27 (P : PP) : Obj := ⟨.none, none, (.func (fdOf P (clAt P 1 0) a44 0 [] .none .none .none .none none .none .none 0)), #[]⟩
noncomputable def o28 (P : PP) : Obj := ⟨(.type PySem.W.SL.s5856160107412720595x4), none, (.fields #[(.str a39 202), (.str a44 203), (.str a9 204), (.int (4) 0), (.int (2) 0), (.int (0) 0), (.int (0) 0), (.int (3) 0), (.ref 23), (.bool true), (.int (181) 0), (.ref 24), .none, (.ref 25), (.ref 26), (.ref 27), (.int (207) 0), (.int (4) 0), (.str a9 208)]), #[]⟩
noncomputable def o29 (P : PP) : Obj := ⟨(.type PySem.W.SL.s7174869446012820540x8), none, (.func (fdOf P (clAt P 1 0) a44 3 [] (.ref 22) .none .none (.str a36 187) none (.ref 28) .none 0)), #[]⟩
noncomputable def o30 (P : PP) : Obj := ⟨(.type PySem.W.SL.s2766695959194262286x5), none, (.seq #[(.str a43 210)] 0), #[]⟩
noncomputable def o31 (P : PP) : Obj := ⟨(.type PySem.W.SL.s14018661285674007319x4), none, (.dict #[⟨kq P a35, (.str a35 196), (.str a36 187)⟩, ⟨kq P a38, (.str a38 200), (.int (2) 199)⟩, ⟨kq P a39, (.str a39 209), (.ref 29)⟩, ⟨kq P a40, (.str a40 211), (.ref 30)⟩, ⟨kq P a45, (.str a45 213), (.ref 33)⟩, ⟨kq P a2, (.str a2 214), .none⟩] 3), #[]⟩
noncomputable def o32 (P : PP) : Obj := ⟨(.type PySem.W.SL.s17162191345867700912x4), none, (.cls { name := a11, bases := [(.type PySem.W.SL.s6070975301684473832x10)], mro := [(.ref 32), (.type PySem.W.SL.s6070975301684473832x10), (.type PySem.W.SL.s5946037652744460706x9), (.type PySem.W.SL.s4278001404047624695x13), (.type PySem.W.SL.s2742458400755230247x6)], ns := 31, qualname := a11, hasDict := true, slotNames := [], subclasses := [(.ref 45), (.ref 64)], abstract := false, collection := none, hasDel := false }), #[(some (.ref 15)), none, (some (.str a11 189)), (some (.str a11 197)), (some (.builtin PySem.W.SL.s4209523147560561109x18)), (some (.bool true))]⟩
noncomputable def o33 (P : PP) : Obj := ⟨(.type PySem.W.SL.s14755015743595814543x17), none, (.fields #[(.str a45 212), (.ref 32), (.builtin PySem.W.SL.s10220274742760427390x26), .none]), #[]⟩
noncomputable def o34 (P : PP) : Obj := ⟨(.type PySem.W.SL.s4290257624100764138x5), none, (.fields #[(.ref 32), (.ref 32), (.ref 32)]), #[]⟩
noncomputable def o35 (P : PP) : Obj := ⟨(.type PySem.W.SL.s11030030927630378310x26), none, (.fields #[(.builtin PySem.W.SL.s4860613602091757760x24), (.ref 32)]), #[]⟩
noncomputable def o36 (P : PP) : Obj := ⟨(.type PySem.W.SL.s2766695959194262286x5), none, (.seq #[(.ref 32)] 0), #[]⟩
noncomputable def o37 (P : PP) : Obj := ⟨(.type PySem.W.SL.s11030030927630378310x26), none, (.fields #[(.builtin PySem.W.SL.s10062305145149207511x16), (.type PySem.W.SL.s17162191345867700912x4)]), #[]⟩
noncomputable def o38 (P : PP) : Obj := ⟨(.type PySem.W.SL.s14018661285674007319x4), none, (.dict #[⟨kq P a35, (.str a35 224), (.str a36 187)⟩, ⟨kq P a37, (.str a37 226), (.str a12 225)⟩, ⟨kq P a38, (.str a38 228), (.int (7) 227)⟩, ⟨kq P a40, (.str a40 229), (.ref 43)⟩] 4), #[]⟩
noncomputable def o39 (P : PP) : Obj := ⟨(.type PySem.W.SL.s2766695959194262286x5), none, (.seq #[] 0), #[]⟩
noncomputable def o40 (P : PP) : Obj := ⟨.none, none, (.fields #[]), #[]⟩
noncomputable def o41 (P : PP) : Obj := ⟨(.type PySem.W.SL.s5856160107412720595x4), none, (.fields #[(.str a12 219), (.str a12 220), (.str a9 221), (.int (7) 0), (.int (0) 0), (.int (0) 0), (.int (0) 0), (.int (0) 0), (.ref 39), (.bool false), (.int (181) 0), (.ref 40), .none, .none, .none, .none, (.int (222) 0), (.int (7) 0), (.str a9 223)]), #[]⟩
noncomputable def o42 (P : PP) : Obj := ⟨(.type PySem.W.SL.s658472552662922059x5), none, .plain, #[(some (.ref 41)), (some (.ref 3)), (some (.ref 38)), none, (some (.str a36 187)), none, (some (.ref 0))]⟩
noncomputable def o43 (P : PP) : Obj := ⟨(.type PySem.W.SL.s2766695959194262286x5), none, (.seq #[] 0), #[]⟩
noncomputable def o44 (P : PP) : Obj := ⟨(.type PySem.W.SL.s14018661285674007319x4), none, (.dict #[⟨kq P a35, (.str a35 224), (.str a36 187)⟩, ⟨kq P a38, (.str a38 228), (.int (7) 227)⟩, ⟨kq P a40, (.str a40 229), (.ref 43)⟩, ⟨kq P a2, (.str a2 230), .none⟩] 2), #[]⟩
noncomputable def o45 (P : PP) : Obj := ⟨(.type PySem.W.SL.s17162191345867700912x4), none, (.cls { name := a12, bases := [(.ref 32)], mro := [(.ref 45), (.ref 32), (.type PySem.W.SL.s6070975301684473832x10), (.type PySem.W.SL.s5946037652744460706x9), (.type PySem.W.SL.s4278001404047624695x13), (.type PySem.W.SL.s2742458400755230247x6)], ns := 44, qualname := a12, hasDict := true, slotNames := [], subclasses := [], abstract := false, collection := none, hasDel := false }), #[(some (.ref 36)), none, (some (.str a12 217)), (some (.str a12 225)), (some (.builtin PySem.W.SL.s4209523147560561109x18)), (some (.bool true))]⟩
noncomputable def o46 (P : PP) : Obj := ⟨(.type PySem.W.SL.s4290257624100764138x5), none, (.fields #[(.ref 45), (.ref 45), (.ref 45)]), #[]⟩
noncomputable def o47 (P : PP) : Obj := ⟨(.type PySem.W.SL.s11030030927630378310x26), none, (.fields #[(.builtin PySem.W.SL.s4860613602091757760x24), (.ref 45)]), #[]⟩
noncomputable def o48 (P : PP) : Obj := ⟨(.type PySem.W.SL.s2766695959194262286x5), none, (.seq #[(.ref 32)] 0), #[]⟩
noncomputable def o49 (P : PP) : Obj := ⟨(.type PySem.W.SL.s11030030927630378310x26), none, (.fields #[(.builtin PySem.W.SL.s10062305145149207511x16), (.type PySem.W.SL.s17162191345867700912x4)]), #[]⟩
noncomputable def o50 (P : PP) : Obj := ⟨(.type PySem.W.SL.s14018661285674007319x4), none, (.dict #[⟨kq P a35, (.str a35 240), (.str a36 187)⟩, ⟨kq P a37, (.str a37 242), (.str a13 241)⟩, ⟨kq P a38, (.str a38 244), (.int (9) 243)⟩, ⟨kq P a39, (.str a39 252), (.ref 61)⟩, ⟨kq P a40, (.str a40 254), (.ref 62)⟩] 5), #[]⟩
noncomputable def o51 (P : PP) : Obj := ⟨(.type PySem.W.SL.s2766695959194262286x5), none, (.seq #[] 0), #[]⟩
noncomputable def o52 (P : PP) : Obj := ⟨.none, none, (.fields #[(.int (11) 0), (.int (4) 0), (.ref 60)]), #[]⟩
noncomputable def o53 (P : PP) : Obj := ⟨(.type PySem.W.SL.s5856160107412720595x4), none, (.fields #[(.str a13 235), (.str a13 236), (.str a9 237), (.int (9) 0), (.int (0) 0), (.int (0) 0), (.int (0) 0), (.int (0) 0), (.ref 51), (.bool false), (.int (181) 0), (.ref 52), .none, .none, .none, .none, (.int (238) 0), (.int (9) 0), (.str a9 239)]), #[]⟩
noncomputable def o54 (P : PP) : Obj := ⟨(.type PySem.W.SL.s658472552662922059x5), none, .plain, #[(some (.ref 53)), (some (.ref 3)), (some (.ref 50)), none, (some (.str a36 187)), none, (some (.ref 0))]⟩
noncomputable def o55 (P : PP) : Obj := ⟨(.type PySem.W.SL.s2766695959194262286x5), none, (.seq #[] 0), #[]⟩
noncomputable def o56 (P : PP) : Obj := ⟨.none, none, (.fields #[]), #[]⟩
noncomputable def o57 (P : PP) : Obj := ⟨(.type PySem.W.SL.s2766695959194262286x5), none, (.seq #[(.str a42 248), (.str a46 249)] 0), #[]⟩
noncomputable def o58 (P : PP) : Obj := ⟨(.type PySem.W.SL.s2766695959194262286x5), none, (.seq #[] 0), #[]⟩
noncomputable def o59 (P : PP) : Obj := ⟨.none, none, (.func (fdOf P (clAt P 3 0) a47 0 [] .none .none .none .none none .none .none 0)), #[]⟩
noncomputable def o60 (P : PP) : Obj := ⟨(.type PySem.W.SL.s5856160107412720595x4), none, (.fields #[(.str a39 245), (.str a47 246), (.str a9 247), (.int (11) 0), (.int (2) 0), (.int (0) 0), (.int (0) 0), (.int (3) 0), (.ref 55), (.bool true), (.int (181) 0), (.ref 56), .none, (.ref 57), (.ref 58), (.ref 59), (.int (250) 0), (.int (11) 0), (.str a9 251)]), #[]⟩
noncomputable def o61 (P : PP) : Obj := ⟨(.type PySem.W.SL.s7174869446012820540x8), none, (.func (fdOf P (clAt P 3 0) a47 3 [] .none .none .none (.str a36 187) none (.ref 60) .none 0)), #[]⟩
noncomputable def o62 (P : PP) : Obj := ⟨(.type PySem.W.SL.s2766695959194262286x5), none, (.seq #[(.str a46 253)] 0), #[]⟩
noncomputable def o63 (P : PP) : Obj := ⟨(.type PySem.W.SL.s14018661285674007319x4), none, (.dict #[⟨kq P a35, (.str a35 240), (.str a36 187)⟩, ⟨kq P a38, (.str a38 244), (.int (9) 243)⟩, ⟨kq P a39, (.str a39 252), (.ref 61)⟩, ⟨kq P a40, (.str a40 254), (.ref 62)⟩, ⟨kq P a2, (.str a2 255), .none⟩] 2), #[]⟩
noncomputable def o64 (P : PP) : Obj := ⟨(.type PySem.W.SL.s17162191345867700912x4), none, (.cls { name := a13, bases := [(.ref 32)], mro := [(.ref 64), (.ref 32), (.type PySem.W.SL.s6070975301684473832x10), (.type PySem.W.SL.s5946037652744460706x9), (.type PySem.W.SL.s4278001404047624695x13), (.type PySem.W.SL.s2742458400755230247x6)], ns := 63, qualname := a13, hasDict := true, slotNames := [], subclasses := [], abstract := false, collection := none, hasDel := false }), #[(some (.ref 48)), none, (some (.str a13 233)), (some (.str a13 241)), (some (.builtin PySem.W.SL.s4209523147560561109x18)), (some (.bool true))]⟩
noncomputable def o65 (P : PP) : Obj := ⟨(.type PySem.W.SL.s4290257624100764138x5), none, (.fields #[(.ref 64), (.ref 64), (.ref 64)]), #[]⟩
noncomputable def o66 (P : PP) : Obj := ⟨(.type PySem.W.SL.s11030030927630378310x26), none, (.fields #[(.builtin PySem.W.SL.s4860613602091757760x24), (.ref 64)]), #[]⟩
noncomputable def o67 (P : PP) : Obj := ⟨(.type PySem.W.SL.s2766695959194262286x5), none, (.seq #[(.str a48 260), (.str a49 261), (.str a50 262), (.str a51 263), (.str a52 264), (.str a53 265), (.str a54 266), (.str a55 267), (.str a56 268), (.str a57 269), (.str a58 270), (.str a59 271), (.str a60 272), (.str a61 273), (.str a62 274), (.str a63 275), (.str a64 276), (.str a65 277), (.str a66 278), (.str a67 279), (.str a68 280), (.str a69 281), (.str a70 282), (.str a71 283), (.str a72 284), (.str a73 285), (.str a74 286), (.str a75 287), (.str a76 288), (.str a77 289), (.str a78 290), (.str a79 291)] 0), #[]⟩
noncomputable def o68 (P : PP) : Obj := ⟨(.type PySem.W.SL.s14018661285674007319x4), none, (.dict #[⟨kq P a80, (.str a80 293), (.int (256) 294)⟩, ⟨kq P a81, (.str a81 296), (.int (260) 297)⟩, ⟨kq P a82, (.str a82 299), (.int (261) 300)⟩, ⟨kq P a83, (.str a83 302), (.int (262) 303)⟩, ⟨kq P a84, (.str a84 305), (.int (320) 306)⟩, ⟨kq P a85, (.str a85 308), (.int (321) 309)⟩, ⟨kq P a86, (.str a86 311), (.int (322) 312)⟩, ⟨kq P a87, (.str a87 314), (.int (323) 315)⟩, ⟨kq P a88, (.str a88 317), (.int (324) 318)⟩, ⟨kq P a89, (.str a89 320), (.int (384) 321)⟩, ⟨kq P a90, (.str a90 323), (.int (768) 324)⟩, ⟨kq P a91, (.str a91 326), (.int (769) 327)⟩, ⟨kq P a92, (.str a92 329), (.int (770) 330)⟩, ⟨kq P a93, (.str a93 332), (.int (771) 333)⟩, ⟨kq P a94, (.str a94 335), (.int (772) 336)⟩, ⟨kq P a95, (.str a95 338), (.int (773) 339)⟩, ⟨kq P a96, (.str a96 341), (.int (774) 342)⟩, ⟨kq P a97, (.str a97 344), (.int (832) 345)⟩, ⟨kq P a98, (.str a98 347), (.int (833) 348)⟩, ⟨kq P a99, (.str a99 350), (.int (834) 351)⟩, ⟨kq P a100, (.str a100 353), (.int (835) 354)⟩, ⟨kq P a101, (.str a101 356), (.int (836) 357)⟩, ⟨kq P a102, (.str a102 359), (.int (2816) 360)⟩, ⟨kq P a103, (.str a103 362), (.int (2818) 363)⟩, ⟨kq P a104, (.str a104 365), (.int (2944) 366)⟩, ⟨kq P a105, (.str a105 368), (.int (2946) 369)⟩, ⟨kq P a106, (.str a106 371), (.int (3072) 372)⟩, ⟨kq P a107, (.str a107 374), (.int (3073) 375)⟩, ⟨kq P a108, (.str a108 377), (.int (3074) 378)⟩, ⟨kq P a109, (.str a109 380), (.int (3200) 381)⟩, ⟨kq P a110, (.str a110 383), (.int (3201) 384)⟩, ⟨kq P a111, (.str a111 386), (.int (3202) 387)⟩, ⟨kq P a112, (.str a112 389), (.int (3857) 390)⟩, ⟨kq P a113, (.str a113 392), (.int (3858) 393)⟩, ⟨kq P a114, (.str a114 395), (.int (3859) 396)⟩, ⟨kq P a115, (.str a115 397), (.int (3860) 398)⟩] 36), #[]⟩
noncomputable def o69 (P : PP) : Obj := ⟨(.type PySem.W.SL.s14018661285674007319x4), none, (.dict #[⟨kq P a97, (.str a97 344), (.int (832) 345)⟩, ⟨kq P a98, (.str a98 347), (.int (833) 348)⟩, ⟨kq P a99, (.str a99 350), (.int (834) 351)⟩, ⟨kq P a100, (.str a100 353), (.int (835) 354)⟩, ⟨kq P a101, (.str a101 356), (.int (836) 357)⟩, ⟨kq P a102, (.str a102 359), (.int (2816) 360)⟩, ⟨kq P a103, (.str a103 362), (.int (2818) 363)⟩, ⟨kq P a104, (.str a104 365), (.int (2944) 366)⟩, ⟨kq P a105, (.str a105 368), (.int (2946) 369)⟩, ⟨kq P a106, (.str a106 371), (.int (3072) 372)⟩, ⟨kq P a107, (.str a107 374), (.int (3073) 375)⟩, ⟨kq P a108, (.str a108 377), (.int (3074) 378)⟩, ⟨kq P a109, (.str a109 380), (.int (3200) 381)⟩, ⟨kq P a110, (.str a110 383), (.int (3201) 384)⟩, ⟨kq P a111, (.str a111 386), (.int (3202) 387)⟩, ⟨kq P a112, (.str a112 389), (.int (3857) 390)⟩, ⟨kq P a113, (.str a113 392), (.int (3858) 393)⟩] 17), #[]⟩
noncomputable def o70 (P : PP) : Obj := ⟨(.type PySem.W.SL.s14018661285674007319x4), none, (.dict #[⟨kq P a114, (.str a114 395), (.int (3859) 396)⟩, ⟨kq P a115, (.str a115 397), (.int (3860) 398)⟩] 2), #[]⟩
noncomputable def o71 (P : PP) : Obj := ⟨(.type PySem.W.SL.s2766695959194262286x5), none, (.seq #[] 0), #[]⟩
noncomputable def o72 (P : PP) : Obj := ⟨(.type PySem.W.SL.s11030030927630378310x26), none, (.fields #[(.builtin PySem.W.SL.s10062305145149207511x16), (.type PySem.W.SL.s17162191345867700912x4)]), #[]⟩
noncomputable def o73 (P : PP) : Obj := ⟨(.type PySem.W.SL.s14018661285674007319x4), none, (.dict #[⟨kq P a35, (.str a35 433), (.str a1 258)⟩, ⟨kq P a37, (.str a37 435), (.str a29 434)⟩, ⟨kq P a38, (.str a38 437), (.int (29) 436)⟩, ⟨kq P a39, (.str a39 455), (.ref 85)⟩, ⟨kq P a116, (.str a116 462), (.ref 92)⟩, ⟨kq P a40, (.str a40 469), (.ref 93)⟩] 6), #[]⟩
noncomputable def o74 (P : PP) : Obj := ⟨(.type PySem.W.SL.s2766695959194262286x5), none, (.seq #[] 0), #[]⟩
noncomputable def o75 (P : PP) : Obj := ⟨.none, none, (.fields #[(.int (31) 0), (.int (4) 0), (.ref 84), (.int (39) 0), (.int (4) 0), (.ref 91)]), #[]⟩
noncomputable def o76 (P : PP) : Obj := ⟨(.type PySem.W.SL.s5856160107412720595x4), none, (.fields #[(.str a29 428), (.str a29 429), (.str a9 430), (.int (29) 0), (.int (0) 0), (.int (0) 0), (.int (0) 0), (.int (0) 0), (.ref 74), (.bool false), (.int (181) 0), (.ref 75), .none, .none, .none, .none, (.int (431) 0), (.int (29) 0), (.str a9 432)]), #[]⟩
noncomputable def o77 (P : PP) : Obj := ⟨(.type PySem.W.SL.s658472552662922059x5), none, .plain, #[(some (.ref 76)), (some (.ref 3)), (some (.ref 73)), none, (some (.str a1 258)), none, (some (.ref 0))]⟩
noncomputable def o78 (P : PP) : Obj := ⟨(.type PySem.W.SL.s2766695959194262286x5), none, (.seq #[(.int (0) 438), (.int (0) 439), (.int (0) 440), (.int (0) 441), (.int (0) 442)] 0), #[]⟩
noncomputable def o79 (P : PP) : Obj := ⟨(.type PySem.W.SL.s2766695959194262286x5), none, (.seq #[] 0), #[]⟩
noncomputable def o80 (P : PP) : Obj := ⟨.none, none, (.fields #[]), #[]⟩
noncomputable def o81 (P : PP) : Obj := ⟨(.type PySem.W.SL.s2766695959194262286x5), none, (.seq #[(.str a42 446), (.str a117 447), (.str a118 448), (.str a119 449), (.str a120 450), (.str a121 451), (.str a122 452)] 0), #[]⟩
noncomputable def o82 (P : PP) : Obj := ⟨(.type PySem.W.SL.s2766695959194262286x5), none, (.seq #[] 0), #[]⟩
noncomputable def o83 (P : PP) : Obj := ⟨.none, none, (.func (fdOf P (clAt P 19 0) a123 0 [] .none .none .none .none none .none .none 0)), #[]⟩
noncomputable def o84 (P : PP) : Obj := ⟨(.type PySem.W.SL.s5856160107412720595x4), none, (.fields #[(.str a39 443), (.str a123 444), (.str a9 445), (.int (31) 0), (.int (7) 0), (.int (0) 0), (.int (0) 0), (.int (3) 0), (.ref 79), (.bool true), (.int (181) 0), (.ref 80), .none, (.ref 81), (.ref 82), (.ref 83), (.int (453) 0), (.int (31) 0), (.str a9 454)]), #[]⟩
noncomputable def o85 (P : PP) : Obj := ⟨(.type PySem.W.SL.s7174869446012820540x8), none, (.func (fdOf P (clAt P 19 0) a123 3 [] (.ref 78) .none .none (.str a1 258) none (.ref 84) .none 0)), #[]⟩
noncomputable def o86 (P : PP) : Obj := ⟨(.type PySem.W.SL.s2766695959194262286x5), none, (.seq #[] 0), #[]⟩
noncomputable def o87 (P : PP) : Obj := ⟨.none, none, (.fields #[]), #[]⟩
noncomputable def o88 (P : PP) : Obj := ⟨(.type PySem.W.SL.s2766695959194262286x5), none, (.seq #[(.str a42 459)] 0), #[]⟩
noncomputable def o89 (P : PP) : Obj := ⟨(.type PySem.W.SL.s2766695959194262286x5), none, (.seq #[] 0), #[]⟩
noncomputable def o90 (P : PP) : Obj := ⟨.none, none, (.func (fdOf P (clAt P 19 1) a124 0 [] .none .none .none .none none .none .none 0)), #[]⟩
noncomputable def o91 (P : PP) : Obj := ⟨(.type PySem.W.SL.s5856160107412720595x4), none, (.fields #[(.str a116 456), (.str a124 457), (.str a9 458), (.int (39) 0), (.int (1) 0), (.int (0) 0), (.int (0) 0), (.int (3) 0), (.ref 86), (.bool true), (.int (181) 0), (.ref 87), .none, (.ref 88), (.ref 89), (.ref 90), (.int (460) 0), (.int (39) 0), (.str a9 461)]), #[]⟩
noncomputable def o92 (P : PP) : Obj := ⟨(.type PySem.W.SL.s7174869446012820540x8), none, (.func (fdOf P (clAt P 19 1) a124 3 [] .none .none .none (.str a1 258) none (.ref 91) .none 0)), #[]⟩
noncomputable def o93 (P : PP) : Obj := ⟨(.type PySem.W.SL.s2766695959194262286x5), none, (.seq #[(.str a122 463), (.str a121 464), (.str a117 465), (.str a118 466), (.str a119 467), (.str a120 468)] 0), #[]⟩
noncomputable def o94 (P : PP) : Obj := ⟨(.type PySem.W.SL.s14018661285674007319x4), none, (.dict #[⟨kq P a35, (.str a35 433), (.str a1 258)⟩, ⟨kq P a38, (.str a38 437), (.int (29) 436)⟩, ⟨kq P a39, (.str a39 455), (.ref 85)⟩, ⟨kq P a116, (.str a116 462), (.ref 92)⟩, ⟨kq P a40, (.str a40 469), (.ref 93)⟩, ⟨kq P a125, (.str a125 471), (.ref 96)⟩, ⟨kq P a45, (.str a45 473), (.ref 97)⟩, ⟨kq P a2, (.str a2 474), .none⟩] 4), #[]⟩
noncomputable def o95 (P : PP) : Obj := ⟨(.type PySem.W.SL.s17162191345867700912x4), none, (.cls { name := a29, bases := [(.type PySem.W.SL.s2742458400755230247x6)], mro := [(.ref 95), (.type PySem.W.SL.s2742458400755230247x6)], ns := 94, qualname := a29, hasDict := true, slotNames := [], subclasses := [], abstract := false, collection := none, hasDel := false }), #[none, none, (some (.str a29 426)), (some (.str a29 434)), (some (.builtin PySem.W.SL.s11443829558043349243x14)), (some (.bool true))]⟩
noncomputable def o96 (P : PP) : Obj := ⟨(.type PySem.W.SL.s14755015743595814543x17), none, (.fields #[(.str a125 470), (.ref 95), (.builtin PySem.W.SL.s6511155373996960695x17), (.builtin PySem.W.SL.s12411053484034534018x21)]), #[]⟩
noncomputable def o97 (P : PP) : Obj := ⟨(.type PySem.W.SL.s14755015743595814543x17), none, (.fields #[(.str a45 472), (.ref 95), (.builtin PySem.W.SL.s10220274742760427390x26), .none]), #[]⟩
noncomputable def o98 (P : PP) : Obj := ⟨(.type PySem.W.SL.s4290257624100764138x5), none, (.fields #[(.ref 95), (.ref 95), (.ref 95)]), #[]⟩
noncomputable def o99 (P : PP) : Obj := ⟨(.type PySem.W.SL.s11030030927630378310x26), none, (.fields #[(.builtin PySem.W.SL.s4860613602091757760x24), (.ref 95)]), #[]⟩
noncomputable def o100 (P : PP) : Obj := ⟨(.type PySem.W.SL.s2766695959194262286x5), none, (.seq #[] 0), #[]⟩
noncomputable def o101 (P : PP) : Obj := ⟨(.type PySem.W.SL.s11030030927630378310x26), none, (.fields #[(.builtin PySem.W.SL.s10062305145149207511x16), (.type PySem.W.SL.s17162191345867700912x4)]), #[]⟩
noncomputable def o102 (P : PP) : Obj := ⟨(.type PySem.W.SL.s14018661285674007319x4), none, (.dict #[⟨kq P a35, (.str a35 484), (.str a1 258)⟩, ⟨kq P a37, (.str a37 486), (.str a30 485)⟩, ⟨kq P a38, (.str a38 488), (.int (41) 487)⟩, ⟨kq P a39, (.str a39 502), (.ref 114)⟩, ⟨kq P a126, (.str a126 509), (.ref 121)⟩, ⟨kq P a40, (.str a40 515), (.ref 122)⟩] 6), #[]⟩
noncomputable def o103 (P : PP) : Obj := ⟨(.type PySem.W.SL.s2766695959194262286x5), none, (.seq #[] 0), #[]⟩
noncomputable def o104 (P : PP) : Obj := ⟨.none, none, (.fields #[(.int (43) 0), (.int (4) 0), (.ref 113), (.int (50) 0), (.int (4) 0), (.ref 120)]), #[]⟩
noncomputable def o105 (P : PP) : Obj := ⟨(.type PySem.W.SL.s5856160107412720595x4), none, (.fields #[(.str a30 479), (.str a30 480), (.str a9 481), (.int (41) 0), (.int (0) 0), (.int (0) 0), (.int (0) 0), (.int (0) 0), (.ref 103), (.bool false), (.int (181) 0), (.ref 104), .none, .none, .none, .none, (.int (482) 0), (.int (41) 0), (.str a9 483)]), #[]⟩
noncomputable def o106 (P : PP) : Obj := ⟨(.type PySem.W.SL.s658472552662922059x5), none, .plain, #[(some (.ref 105)), (some (.ref 3)), (some (.ref 102)), none, (some (.str a1 258)), none, (some (.ref 0))]⟩
noncomputable def o107 (P : PP) : Obj := ⟨(.type PySem.W.SL.s2766695959194262286x5), none, (.seq #[(.int (0) 489), (.int (0) 490)] 0), #[]⟩
noncomputable def o108 (P : PP) : Obj := ⟨(.type PySem.W.SL.s2766695959194262286x5), none, (.seq #[] 0), #[]⟩
noncomputable def o109 (P : PP) : Obj := ⟨.none, none, (.fields #[]), #[]⟩
noncomputable def o110 (P : PP) : Obj := ⟨(.type PySem.W.SL.s2766695959194262286x5), none, (.seq #[(.str a42 494), (.str a117 495), (.str a127 496), (.str a128 497), (.str a129 498), (.str a130 499)] 0), #[]⟩
noncomputable def o111 (P : PP) : Obj := ⟨(.type PySem.W.SL.s2766695959194262286x5), none, (.seq #[] 0), #[]⟩
noncomputable def o112 (P : PP) : Obj := ⟨.none, none, (.func (fdOf P (clAt P 20 0) a131 0 [] .none .none .none .none none .none .none 0)), #[]⟩
noncomputable def o113 (P : PP) : Obj := ⟨(.type PySem.W.SL.s5856160107412720595x4), none, (.fields #[(.str a39 491), (.str a131 492), (.str a9 493), (.int (43) 0), (.int (6) 0), (.int (0) 0), (.int (0) 0), (.int (3) 0), (.ref 108), (.bool true), (.int (181) 0), (.ref 109), .none, (.ref 110), (.ref 111), (.ref 112), (.int (500) 0), (.int (43) 0), (.str a9 501)]), #[]⟩
noncomputable def o114 (P : PP) : Obj := ⟨(.type PySem.W.SL.s7174869446012820540x8), none, (.func (fdOf P (clAt P 20 0) a131 3 [] (.ref 107) .none .none (.str a1 258) none (.ref 113) .none 0)), #[]⟩
noncomputable def o115 (P : PP) : Obj := ⟨(.type PySem.W.SL.s2766695959194262286x5), none, (.seq #[] 0), #[]⟩
noncomputable def o116 (P : PP) : Obj := ⟨.none, none, (.fields #[]), #[]⟩
noncomputable def o117 (P : PP) : Obj := ⟨(.type PySem.W.SL.s2766695959194262286x5), none, (.seq #[(.str a42 506)] 0), #[]⟩
noncomputable def o118 (P : PP) : Obj := ⟨(.type PySem.W.SL.s2766695959194262286x5), none, (.seq #[] 0), #[]⟩
noncomputable def o119 (P : PP) : Obj := ⟨.none, none, (.func (fdOf P (clAt P 20 1) a132 0 [] .none .none .none .none none .none .none 0)), #[]⟩
noncomputable def o120 (P : PP) : Obj := ⟨(.type PySem.W.SL.s5856160107412720595x4), none, (.fields #[(.str a126 503), (.str a132 504), (.str a9 505), (.int (50) 0), (.int (1) 0), (.int (0) 0), (.int (0) 0), (.int (3) 0), (.ref 115), (.bool true), (.int (181) 0), (.ref 116), .none, (.ref 117), (.ref 118), (.ref 119), (.int (507) 0), (.int (50) 0), (.str a9 508)]), #[]⟩
noncomputable def o121 (P : PP) : Obj := ⟨(.type PySem.W.SL.s7174869446012820540x8), none, (.func (fdOf P (clAt P 20 1) a132 3 [] .none .none .none (.str a1 258) none (.ref 120) .none 0)), #[]⟩
noncomputable def o122 (P : PP) : Obj := ⟨(.type PySem.W.SL.s2766695959194262286x5), none, (.seq #[(.str a127 510), (.str a117 511), (.str a128 512), (.str a130 513), (.str a129 514)] 0), #[]⟩
noncomputable def o123 (P : PP) : Obj := ⟨(.type PySem.W.SL.s14018661285674007319x4), none, (.dict #[⟨kq P a35, (.str a35 484), (.str a1 258)⟩, ⟨kq P a38, (.str a38 488), (.int (41) 487)⟩, ⟨kq P a39, (.str a39 502), (.ref 114)⟩, ⟨kq P a126, (.str a126 509), (.ref 121)⟩, ⟨kq P a40, (.str a40 515), (.ref 122)⟩, ⟨kq P a125, (.str a125 517), (.ref 125)⟩, ⟨kq P a45, (.str a45 519), (.ref 126)⟩, ⟨kq P a2, (.str a2 520), .none⟩] 4), #[]⟩
noncomputable def o124 (P : PP) : Obj := ⟨(.type PySem.W.SL.s17162191345867700912x4), none, (.cls { name := a30, bases := [(.type PySem.W.SL.s2742458400755230247x6)], mro := [(.ref 124), (.type PySem.W.SL.s2742458400755230247x6)], ns := 123, qualname := a30, hasDict := true, slotNames := [], subclasses := [], abstract := false, collection := none, hasDel := false }), #[none, none, (some (.str a30 477)), (some (.str a30 485)), (some (.builtin PySem.W.SL.s11443829558043349243x14)), (some (.bool true))]⟩
noncomputable def o125 (P : PP) : Obj := ⟨(.type PySem.W.SL.s14755015743595814543x17), none, (.fields #[(.str a125 516), (.ref 124), (.builtin PySem.W.SL.s6511155373996960695x17), (.builtin PySem.W.SL.s12411053484034534018x21)]), #[]⟩
noncomputable def o126 (P : PP) : Obj := ⟨(.type PySem.W.SL.s14755015743595814543x17), none, (.fields #[(.str a45 518), (.ref 124), (.builtin PySem.W.SL.s10220274742760427390x26), .none]), #[]⟩
noncomputable def o127 (P : PP) : Obj := ⟨(.type PySem.W.SL.s4290257624100764138x5), none, (.fields #[(.ref 124), (.ref 124), (.ref 124)]), #[]⟩
noncomputable def o128 (P : PP) : Obj := ⟨(.type PySem.W.SL.s11030030927630378310x26), none, (.fields #[(.builtin PySem.W.SL.s4860613602091757760x24), (.ref 124)]), #[]⟩
noncomputable def o129 (P : PP) : Obj := ⟨(.type PySem.W.SL.s2766695959194262286x5), none, (.seq #[(.int (0) 523)] 0), #[]⟩
noncomputable def o130 (P : PP) : Obj := ⟨(.type PySem.W.SL.s2766695959194262286x5), none, (.seq #[] 0), #[]⟩
noncomputable def o131 (P : PP) : Obj := ⟨.none, none, (.fields #[]), #[]⟩
noncomputable def o132 (P : PP) : Obj := ⟨(.type PySem.W.SL.s2766695959194262286x5), none, (.seq #[(.str a133 527), (.str a127 528), (.str a128 529), (.str a130 530), (.str a134 531), (.str a129 532), (.str a117 533)] 0), #[]⟩
noncomputable def o133 (P : PP) : Obj := ⟨(.type PySem.W.SL.s2766695959194262286x5), none, (.seq #[] 0), #[]⟩
noncomputable def o134 (P : PP) : Obj := ⟨.none, none, (.func (fdOf P (stAt P 21) a31 0 [] .none .none .none .none none .none .none 0)), #[]⟩
noncomputable def o135 (P : PP) : Obj := ⟨(.type PySem.W.SL.s5856160107412720595x4), none, (.fields #[(.str a31 524), (.str a31 525), (.str a9 526), (.int (52) 0), (.int (4) 0), (.int (0) 0), (.int (0) 0), (.int (3) 0), (.ref 130), (.bool true), (.int (181) 0), (.ref 131), .none, (.ref 132), (.ref 133), (.ref 134), (.int (534) 0), (.int (52) 0), (.str a9 535)]), #[]⟩
noncomputable def o136 (P : PP) : Obj := ⟨(.type PySem.W.SL.s7174869446012820540x8), none, (.func (fdOf P (stAt P 21) a31 3 [] (.ref 129) .none .none (.str a1 258) none (.ref 135) .none 0)), #[]⟩
noncomputable def o137 (P : PP) : Obj := ⟨(.type PySem.W.SL.s2766695959194262286x5), none, (.seq #[] 0), #[]⟩
noncomputable def o138 (P : PP) : Obj := ⟨.none, none, (.fields #[]), #[]⟩
noncomputable def o139 (P : PP) : Obj := ⟨(.type PySem.W.SL.s2766695959194262286x5), none, (.seq #[(.str a134 540), (.str a117 541), (.str a135 542)] 0), #[]⟩
noncomputable def o140 (P : PP) : Obj := ⟨(.type PySem.W.SL.s2766695959194262286x5), none, (.seq #[] 0), #[]⟩
noncomputable def o141 (P : PP) : Obj := ⟨.none, none, (.func (fdOf P (stAt P 22) a32 0 [] .none .none .none .none none .none .none 0)), #[]⟩
noncomputable def o142 (P : PP) : Obj := ⟨(.type PySem.W.SL.s5856160107412720595x4), none, (.fields #[(.str a32 537), (.str a32 538), (.str a9 539), (.int (58) 0), (.int (0) 0), (.int (0) 0), (.int (0) 0), (.int (3) 0), (.ref 137), (.bool true), (.int (181) 0), (.ref 138), .none, (.ref 139), (.ref 140), (.ref 141), (.int (543) 0), (.int (58) 0), (.str a9 544)]), #[]⟩
noncomputable def o143 (P : PP) : Obj := ⟨(.type PySem.W.SL.s7174869446012820540x8), none, (.func (fdOf P (stAt P 22) a32 3 [] .none .none .none (.str a1 258) none (.ref 142) .none 0)), #[]⟩
noncomputable def o144 (P : PP) : Obj := ⟨(.type PySem.W.SL.s2766695959194262286x5), none, (.seq #[] 0), #[]⟩
noncomputable def o145 (P : PP) : Obj := ⟨(.type PySem.W.SL.s11030030927630378310x26), none, (.fields #[(.builtin PySem.W.SL.s10062305145149207511x16), (.type PySem.W.SL.s17162191345867700912x4)]), #[]⟩
noncomputable def o146 (P : PP) : Obj := ⟨(.type PySem.W.SL.s14018661285674007319x4), none, (.dict #[⟨kq P a35, (.str a35 553), (.str a1 258)⟩, ⟨kq P a37, (.str a37 555), (.str a136 554)⟩, ⟨kq P a38, (.str a38 557), (.int (76) 556)⟩] 3), #[]⟩
noncomputable def o147 (P : PP) : Obj := ⟨(.type PySem.W.SL.s2766695959194262286x5), none, (.seq #[] 0), #[]⟩
noncomputable def o148 (P : PP) : Obj := ⟨.none, none, (.fields #[]), #[]⟩
noncomputable def o149 (P : PP) : Obj := ⟨(.type PySem.W.SL.s5856160107412720595x4), none, (.fields #[(.str a136 548), (.str a136 549), (.str a9 550), (.int (76) 0), (.int (0) 0), (.int (0) 0), (.int (0) 0), (.int (0) 0), (.ref 147), (.bool false), (.int (181) 0), (.ref 148), .none, .none, .none, .none, (.int (551) 0), (.int (76) 0), (.str a9 552)]), #[]⟩
noncomputable def o150 (P : PP) : Obj := ⟨(.type PySem.W.SL.s658472552662922059x5), none, .plain, #[(some (.ref 149)), (some (.ref 3)), (some (.ref 146)), none, (some (.str a1 258)), none, (some (.ref 0))]⟩
noncomputable def t0 (P : PP) : BT := putAll (setAll (T0 P) [(3, o3 P)]) 11 [o11 P, o12 P, o13 P, o14 P, o15 P, o16 P, o17 P, o18 P, o19 P, o20 P, o21 P, o22 P, o23 P, o24 P, o25 P, o26 P, o27 P, o28 P, o29 P, o30 P, o31 P, o32 P, o33 P, o34 P, o35 P, o36 P, o37 P, o38 P, o39 P, o40 P, o41 P, o42 P, o43 P, o44 P, o45 P, o46 P, o47 P, o48 P, o49 P, o50 P, o51 P, o52 P, o53 P, o54 P, o55 P, o56 P, o57 P, o58 P, o59 P, o60 P, o61 P, o62 P, o63 P, o64 P, o65 P, o66 P, o67 P, o68 P, o69 P, o70 P, o71 P, o72 P, o73 P, o74 P, o75 P, o76 P, o77 P, o78 P, o79 P, o80 P, o81 P, o82 P, o83 P, o84 P, o85 P, o86 P, o87 P, o88 P, o89 P, o90 P, o91 P, o92 P, o93 P, o94 P, o95 P, o96 P, o97 P, o98 P, o99 P, o100 P, o101 P, o102 P, o103 P, o104 P, o105 P, o106 P, o107 P, o108 P, o109 P, o110 P, o111 P, o112 P, o113 P, o114 P, o115 P, o116 P, o117 P, o118 P, o119 P, o120 P, o121 P, o122 P, o123 P, o124 P, o125 P, o126 P, o127 P, o128 P, o129 P, o130 P, o131 P, o132 P, o133 P, o134 P, o135 P, o136 P, o137 P, o138 P, o139 P, o140 P, o141 P, o142 P, o143 P, o144 P, o145 P, o146 P, o147 P, o148 P, o149 P, o150 P]
noncomputable def s0 (P : PP) : ST := ⟨t0 P, 151, 558⟩
noncomputable def o151 (P : PP) : Obj := ⟨(.type PySem.W.SL.s658472552662922059x5), none, (.dict #[⟨kq P a134, (.str a134 630), (.ref 164)⟩] 1), #[]⟩
noncomputable def o152 (P : PP) : Obj := ⟨(.type PySem.W.SL.s14018661285674007319x4), none, (.dict #[⟨kq P a117, (.str a117 567), (.str a137 558)⟩, ⟨kq P a127, (.str a127 569), (.str a138 559)⟩, ⟨kq P a128, (.str a128 571), (.int (55) 414)⟩, ⟨kq P a129, (.str a129 573), (.int (0) 489)⟩, ⟨kq P a130, (.str a130 575), (.int (0) 490)⟩] 5), #[]⟩
noncomputable def o153 (P : PP) : Obj := ⟨(.ref 124), (some 152), .plain, #[]⟩
noncomputable def o154 (P : PP) : Obj := ⟨(.type PySem.W.SL.s658472552662922059x5), none, (.dict #[⟨kq P a42, (.str a42 560), (.ref 153)⟩, ⟨kq P a117, (.str a117 561), (.str a137 558)⟩, ⟨kq P a127, (.str a127 562), (.str a138 559)⟩, ⟨kq P a128, (.str a128 563), (.int (55) 414)⟩, ⟨kq P a129, (.str a129 564), (.int (0) 489)⟩, ⟨kq P a130, (.str a130 565), (.int (0) 490)⟩] 6), #[]⟩
noncomputable def o155 (P : PP) : Obj := ⟨(.type PySem.W.SL.s14018661285674007319x4), none, (.dict #[⟨kq P a117, (.str a117 585), (.str a139 576)⟩, ⟨kq P a127, (.str a127 587), (.str a138 577)⟩, ⟨kq P a128, (.str a128 589), (.int (23) 408)⟩, ⟨kq P a129, (.str a129 591), (.int (0) 489)⟩, ⟨kq P a130, (.str a130 593), (.int (0) 490)⟩] 5), #[]⟩
noncomputable def o156 (P : PP) : Obj := ⟨(.ref 124), (some 155), .plain, #[]⟩
noncomputable def o157 (P : PP) : Obj := ⟨(.type PySem.W.SL.s658472552662922059x5), none, (.dict #[⟨kq P a42, (.str a42 578), (.ref 156)⟩, ⟨kq P a117, (.str a117 579), (.str a139 576)⟩, ⟨kq P a127, (.str a127 580), (.str a138 577)⟩, ⟨kq P a128, (.str a128 581), (.int (23) 408)⟩, ⟨kq P a129, (.str a129 582), (.int (0) 489)⟩, ⟨kq P a130, (.str a130 583), (.int (0) 490)⟩] 6), #[]⟩
noncomputable def o158 (P : PP) : Obj := ⟨(.type PySem.W.SL.s14018661285674007319x4), none, (.dict #[⟨kq P a117, (.str a117 603), (.str a140 594)⟩, ⟨kq P a127, (.str a127 605), (.str a141 595)⟩, ⟨kq P a128, (.str a128 607), (.int (111) 420)⟩, ⟨kq P a129, (.str a129 609), (.int (0) 489)⟩, ⟨kq P a130, (.str a130 611), (.int (0) 490)⟩] 5), #[]⟩
noncomputable def o159 (P : PP) : Obj := ⟨(.ref 124), (some 158), .plain, #[]⟩
noncomputable def o160 (P : PP) : Obj := ⟨(.type PySem.W.SL.s658472552662922059x5), none, (.dict #[⟨kq P a42, (.str a42 596), (.ref 159)⟩, ⟨kq P a117, (.str a117 597), (.str a140 594)⟩, ⟨kq P a127, (.str a127 598), (.str a141 595)⟩, ⟨kq P a128, (.str a128 599), (.int (111) 420)⟩, ⟨kq P a129, (.str a129 600), (.int (0) 489)⟩, ⟨kq P a130, (.str a130 601), (.int (0) 490)⟩] 6), #[]⟩
noncomputable def o161 (P : PP) : Obj := ⟨(.type PySem.W.SL.s14018661285674007319x4), none, (.dict #[⟨kq P a117, (.str a117 621), (.str a142 612)⟩, ⟨kq P a127, (.str a127 623), (.str a143 613)⟩, ⟨kq P a128, (.str a128 625), (.int (103) 418)⟩, ⟨kq P a129, (.str a129 627), (.int (0) 489)⟩, ⟨kq P a130, (.str a130 629), (.int (0) 490)⟩] 5), #[]⟩
noncomputable def o162 (P : PP) : Obj := ⟨(.ref 124), (some 161), .plain, #[]⟩
noncomputable def o163 (P : PP) : Obj := ⟨(.type PySem.W.SL.s658472552662922059x5), none, (.dict #[⟨kq P a42, (.str a42 614), (.ref 162)⟩, ⟨kq P a117, (.str a117 615), (.str a142 612)⟩, ⟨kq P a127, (.str a127 616), (.str a143 613)⟩, ⟨kq P a128, (.str a128 617), (.int (103) 418)⟩, ⟨kq P a129, (.str a129 618), (.int (0) 489)⟩, ⟨kq P a130, (.str a130 619), (.int (0) 490)⟩] 6), #[]⟩
noncomputable def o164 (P : PP) : Obj := ⟨(.type PySem.W.SL.s9222952809800978799x4), none, (.seq #[(.ref 153), (.ref 156), (.ref 159), (.ref 162)] 0), #[]⟩
noncomputable def t1 (P : PP) : BT := putAll (setAll (t0 P) []) 151 [o151 P, o152 P, o153 P, o154 P, o155 P, o156 P, o157 P, o158 P, o159 P, o160 P, o161 P, o162 P, o163 P, o164 P]
noncomputable def s1 (P : PP) : ST := ⟨t1 P, 165, 633⟩
noncomputable def o165 (P : PP) : Obj := ⟨(.type PySem.W.SL.s658472552662922059x5), none, (.dict #[⟨kq P a133, (.str a133 633), (.str a144 631)⟩, ⟨kq P a127, (.str a127 634), (.str a145 632)⟩, ⟨kq P a128, (.str a128 635), (.int (99) 416)⟩, ⟨kq P a130, (.str a130 636), (.int (0) 523)⟩, ⟨kq P a134, (.str a134 637), (.ref 166)⟩, ⟨kq P a129, (.str a129 648), (.int (7) 755)⟩, ⟨kq P a117, (.str a117 649), (.str a146 646)⟩] 7), #[]⟩
noncomputable def o166 (P : PP) : Obj := ⟨(.type PySem.W.SL.s9222952809800978799x4), none, (.seq #[(.ref 175), (.ref 182), (.ref 197), (.ref 204), (.ref 211), (.ref 218)] 6), #[]⟩
noncomputable def o167 (P : PP) : Obj := ⟨(.type PySem.W.SL.s9222952809800978799x4), none, (.seq #[(.str a147 639), (.str a148 640), (.str a149 641), (.str a149 642), (.str a150 643), (.str a151 644), (.str a152 645), (.str a146 646)] 0), #[]⟩
noncomputable def o168 (P : PP) : Obj := ⟨(.type PySem.W.SL.s3492446563574874994x13), none, (.fields #[.none, (.int (8) 0)]), #[]⟩
noncomputable def o169 (P : PP) : Obj := ⟨(.type PySem.W.SL.s14340494229221121180x9), none, (.fields #[.none, (.bool false), (.ref 168), (.int (8) 0), .none, (.str a146 646)]), #[]⟩
noncomputable def o170 (P : PP) : Obj := ⟨(.type PySem.W.SL.s2766695959194262286x5), none, (.seq #[(.int (0) 647), (.str a147 639)] 0), #[]⟩
noncomputable def o171 (P : PP) : Obj := ⟨(.type PySem.W.SL.s4096838299382398694x14), none, (.fields #[.none, (.int (2) 0)]), #[]⟩
noncomputable def o172 (P : PP) : Obj := ⟨(.type PySem.W.SL.s2766695959194262286x5), none, (.seq #[] 0), #[]⟩
noncomputable def o173 (P : PP) : Obj := ⟨(.type PySem.W.SL.s5991306692159431302x13), none, (.fields #[(.ref 172), .none, .none, .none, (.bool false), .none]), #[]⟩
noncomputable def o174 (P : PP) : Obj := ⟨(.type PySem.W.SL.s14018661285674007319x4), none, (.dict #[⟨kq P a117, (.str a117 658), (.str a147 639)⟩, ⟨kq P a127, (.str a127 660), (.str a145 632)⟩, ⟨kq P a128, (.str a128 662), (.int (99) 416)⟩, ⟨kq P a129, (.str a129 664), (.int (0) 647)⟩, ⟨kq P a130, (.str a130 666), (.int (0) 523)⟩] 5), #[]⟩
noncomputable def o175 (P : PP) : Obj := ⟨(.ref 124), (some 174), .plain, #[]⟩
noncomputable def o176 (P : PP) : Obj := ⟨(.type PySem.W.SL.s658472552662922059x5), none, (.dict #[⟨kq P a42, (.str a42 651), (.ref 175)⟩, ⟨kq P a117, (.str a117 652), (.str a147 639)⟩, ⟨kq P a127, (.str a127 653), (.str a145 632)⟩, ⟨kq P a128, (.str a128 654), (.int (99) 416)⟩, ⟨kq P a129, (.str a129 655), (.int (0) 647)⟩, ⟨kq P a130, (.str a130 656), (.int (0) 523)⟩] 6), #[]⟩
noncomputable def o177 (P : PP) : Obj := ⟨(.type PySem.W.SL.s2766695959194262286x5), none, (.seq #[(.int (1) 667), (.str a148 640)] 0), #[]⟩
noncomputable def o178 (P : PP) : Obj := ⟨(.type PySem.W.SL.s4096838299382398694x14), none, (.fields #[.none, (.int (2) 0)]), #[]⟩
noncomputable def o179 (P : PP) : Obj := ⟨(.type PySem.W.SL.s2766695959194262286x5), none, (.seq #[] 0), #[]⟩
noncomputable def o180 (P : PP) : Obj := ⟨(.type PySem.W.SL.s5991306692159431302x13), none, (.fields #[(.ref 179), .none, .none, .none, (.bool false), .none]), #[]⟩
noncomputable def o181 (P : PP) : Obj := ⟨(.type PySem.W.SL.s14018661285674007319x4), none, (.dict #[⟨kq P a117, (.str a117 678), (.str a148 640)⟩, ⟨kq P a127, (.str a127 680), (.str a145 632)⟩, ⟨kq P a128, (.str a128 682), (.int (99) 416)⟩, ⟨kq P a129, (.str a129 684), (.int (1) 667)⟩, ⟨kq P a130, (.str a130 686), (.int (0) 523)⟩] 5), #[]⟩
noncomputable def o182 (P : PP) : Obj := ⟨(.ref 124), (some 181), .plain, #[]⟩
noncomputable def o183 (P : PP) : Obj := ⟨(.type PySem.W.SL.s658472552662922059x5), none, (.dict #[⟨kq P a42, (.str a42 671), (.ref 182)⟩, ⟨kq P a117, (.str a117 672), (.str a148 640)⟩, ⟨kq P a127, (.str a127 673), (.str a145 632)⟩, ⟨kq P a128, (.str a128 674), (.int (99) 416)⟩, ⟨kq P a129, (.str a129 675), (.int (1) 667)⟩, ⟨kq P a130, (.str a130 676), (.int (0) 523)⟩] 6), #[]⟩
noncomputable def o184 (P : PP) : Obj := ⟨(.type PySem.W.SL.s2766695959194262286x5), none, (.seq #[(.int (2) 687), (.str a149 641)] 0), #[]⟩
noncomputable def o185 (P : PP) : Obj := ⟨(.type PySem.W.SL.s4096838299382398694x14), none, (.fields #[.none, (.int (2) 0)]), #[]⟩
noncomputable def o186 (P : PP) : Obj := ⟨(.type PySem.W.SL.s2766695959194262286x5), none, (.seq #[] 0), #[]⟩
noncomputable def o187 (P : PP) : Obj := ⟨(.type PySem.W.SL.s5991306692159431302x13), none, (.fields #[(.ref 186), .none, .none, .none, (.bool false), .none]), #[]⟩
noncomputable def o188 (P : PP) : Obj := ⟨(.type PySem.W.SL.s2766695959194262286x5), none, (.seq #[(.int (3) 691), (.str a149 642)] 0), #[]⟩
noncomputable def o189 (P : PP) : Obj := ⟨(.type PySem.W.SL.s4096838299382398694x14), none, (.fields #[.none, (.int (2) 0)]), #[]⟩
noncomputable def o190 (P : PP) : Obj := ⟨(.type PySem.W.SL.s2766695959194262286x5), none, (.seq #[] 0), #[]⟩
noncomputable def o191 (P : PP) : Obj := ⟨(.type PySem.W.SL.s5991306692159431302x13), none, (.fields #[(.ref 190), .none, .none, .none, (.bool false), .none]), #[]⟩
noncomputable def o192 (P : PP) : Obj := ⟨(.type PySem.W.SL.s2766695959194262286x5), none, (.seq #[(.int (4) 695), (.str a150 643)] 0), #[]⟩
noncomputable def o193 (P : PP) : Obj := ⟨(.type PySem.W.SL.s4096838299382398694x14), none, (.fields #[.none, (.int (2) 0)]), #[]⟩
noncomputable def o194 (P : PP) : Obj := ⟨(.type PySem.W.SL.s2766695959194262286x5), none, (.seq #[] 0), #[]⟩
noncomputable def o195 (P : PP) : Obj := ⟨(.type PySem.W.SL.s5991306692159431302x13), none, (.fields #[(.ref 194), .none, .none, .none, (.bool false), .none]), #[]⟩
noncomputable def o196 (P : PP) : Obj := ⟨(.type PySem.W.SL.s14018661285674007319x4), none, (.dict #[⟨kq P a117, (.str a117 706), (.str a150 643)⟩, ⟨kq P a127, (.str a127 708), (.str a145 632)⟩, ⟨kq P a128, (.str a128 710), (.int (99) 416)⟩, ⟨kq P a129, (.str a129 712), (.int (4) 695)⟩, ⟨kq P a130, (.str a130 714), (.int (0) 523)⟩] 5), #[]⟩
noncomputable def o197 (P : PP) : Obj := ⟨(.ref 124), (some 196), .plain, #[]⟩
noncomputable def o198 (P : PP) : Obj := ⟨(.type PySem.W.SL.s658472552662922059x5), none, (.dict #[⟨kq P a42, (.str a42 699), (.ref 197)⟩, ⟨kq P a117, (.str a117 700), (.str a150 643)⟩, ⟨kq P a127, (.str a127 701), (.str a145 632)⟩, ⟨kq P a128, (.str a128 702), (.int (99) 416)⟩, ⟨kq P a129, (.str a129 703), (.int (4) 695)⟩, ⟨kq P a130, (.str a130 704), (.int (0) 523)⟩] 6), #[]⟩
noncomputable def o199 (P : PP) : Obj := ⟨(.type PySem.W.SL.s2766695959194262286x5), none, (.seq #[(.int (5) 715), (.str a151 644)] 0), #[]⟩
noncomputable def o200 (P : PP) : Obj := ⟨(.type PySem.W.SL.s4096838299382398694x14), none, (.fields #[.none, (.int (2) 0)]), #[]⟩
noncomputable def o201 (P : PP) : Obj := ⟨(.type PySem.W.SL.s2766695959194262286x5), none, (.seq #[] 0), #[]⟩
noncomputable def o202 (P : PP) : Obj := ⟨(.type PySem.W.SL.s5991306692159431302x13), none, (.fields #[(.ref 201), .none, .none, .none, (.bool false), .none]), #[]⟩
noncomputable def o203 (P : PP) : Obj := ⟨(.type PySem.W.SL.s14018661285674007319x4), none, (.dict #[⟨kq P a117, (.str a117 726), (.str a151 644)⟩, ⟨kq P a127, (.str a127 728), (.str a145 632)⟩, ⟨kq P a128, (.str a128 730), (.int (99) 416)⟩, ⟨kq P a129, (.str a129 732), (.int (5) 715)⟩, ⟨kq P a130, (.str a130 734), (.int (0) 523)⟩] 5), #[]⟩
noncomputable def o204 (P : PP) : Obj := ⟨(.ref 124), (some 203), .plain, #[]⟩
noncomputable def o205 (P : PP) : Obj := ⟨(.type PySem.W.SL.s658472552662922059x5), none, (.dict #[⟨kq P a42, (.str a42 719), (.ref 204)⟩, ⟨kq P a117, (.str a117 720), (.str a151 644)⟩, ⟨kq P a127, (.str a127 721), (.str a145 632)⟩, ⟨kq P a128, (.str a128 722), (.int (99) 416)⟩, ⟨kq P a129, (.str a129 723), (.int (5) 715)⟩, ⟨kq P a130, (.str a130 724), (.int (0) 523)⟩] 6), #[]⟩
noncomputable def o206 (P : PP) : Obj := ⟨(.type PySem.W.SL.s2766695959194262286x5), none, (.seq #[(.int (6) 735), (.str a152 645)] 0), #[]⟩
noncomputable def o207 (P : PP) : Obj := ⟨(.type PySem.W.SL.s4096838299382398694x14), none, (.fields #[.none, (.int (2) 0)]), #[]⟩
noncomputable def o208 (P : PP) : Obj := ⟨(.type PySem.W.SL.s2766695959194262286x5), none, (.seq #[] 0), #[]⟩
noncomputable def o209 (P : PP) : Obj := ⟨(.type PySem.W.SL.s5991306692159431302x13), none, (.fields #[(.ref 208), .none, .none, .none, (.bool false), .none]), #[]⟩
noncomputable def o210 (P : PP) : Obj := ⟨(.type PySem.W.SL.s14018661285674007319x4), none, (.dict #[⟨kq P a117, (.str a117 746), (.str a152 645)⟩, ⟨kq P a127, (.str a127 748), (.str a145 632)⟩, ⟨kq P a128, (.str a128 750), (.int (99) 416)⟩, ⟨kq P a129, (.str a129 752), (.int (6) 735)⟩, ⟨kq P a130, (.str a130 754), (.int (0) 523)⟩] 5), #[]⟩
noncomputable def o211 (P : PP) : Obj := ⟨(.ref 124), (some 210), .plain, #[]⟩
noncomputable def o212 (P : PP) : Obj := ⟨(.type PySem.W.SL.s658472552662922059x5), none, (.dict #[⟨kq P a42, (.str a42 739), (.ref 211)⟩, ⟨kq P a117, (.str a117 740), (.str a152 645)⟩, ⟨kq P a127, (.str a127 741), (.str a145 632)⟩, ⟨kq P a128, (.str a128 742), (.int (99) 416)⟩, ⟨kq P a129, (.str a129 743), (.int (6) 735)⟩, ⟨kq P a130, (.str a130 744), (.int (0) 523)⟩] 6), #[]⟩
noncomputable def o213 (P : PP) : Obj := ⟨(.type PySem.W.SL.s2766695959194262286x5), none, (.seq #[(.int (7) 755), (.str a146 646)] 0), #[]⟩
noncomputable def o214 (P : PP) : Obj := ⟨(.type PySem.W.SL.s4096838299382398694x14), none, (.fields #[.none, (.int (2) 0)]), #[]⟩
noncomputable def o215 (P : PP) : Obj := ⟨(.type PySem.W.SL.s2766695959194262286x5), none, (.seq #[] 0), #[]⟩
noncomputable def o216 (P : PP) : Obj := ⟨(.type PySem.W.SL.s5991306692159431302x13), none, (.fields #[(.ref 215), .none, .none, .none, (.bool false), .none]), #[]⟩
noncomputable def o217 (P : PP) : Obj := ⟨(.type PySem.W.SL.s14018661285674007319x4), none, (.dict #[⟨kq P a117, (.str a117 766), (.str a146 646)⟩, ⟨kq P a127, (.str a127 768), (.str a145 632)⟩, ⟨kq P a128, (.str a128 770), (.int (99) 416)⟩, ⟨kq P a129, (.str a129 772), (.int (7) 755)⟩, ⟨kq P a130, (.str a130 774), (.int (0) 523)⟩] 5), #[]⟩
noncomputable def o218 (P : PP) : Obj := ⟨(.ref 124), (some 217), .plain, #[]⟩
noncomputable def o219 (P : PP) : Obj := ⟨(.type PySem.W.SL.s658472552662922059x5), none, (.dict #[⟨kq P a42, (.str a42 759), (.ref 218)⟩, ⟨kq P a117, (.str a117 760), (.str a146 646)⟩, ⟨kq P a127, (.str a127 761), (.str a145 632)⟩, ⟨kq P a128, (.str a128 762), (.int (99) 416)⟩, ⟨kq P a129, (.str a129 763), (.int (7) 755)⟩, ⟨kq P a130, (.str a130 764), (.int (0) 523)⟩] 6), #[]⟩
noncomputable def o220 (P : PP) : Obj := ⟨(.type PySem.W.SL.s2766695959194262286x5), none, (.seq #[] 0), #[]⟩
noncomputable def o221 (P : PP) : Obj := ⟨(.type PySem.W.SL.s5991306692159431302x13), none, (.fields #[(.ref 220), .none, .none, .none, (.bool false), .none]), #[]⟩
noncomputable def t2 (P : PP) : BT := putAll (setAll (t1 P) []) 165 [o165 P, o166 P, o167 P, o168 P, o169 P, o170 P, o171 P, o172 P, o173 P, o174 P, o175 P, o176 P, o177 P, o178 P, o179 P, o180 P, o181 P, o182 P, o183 P, o184 P, o185 P, o186 P, o187 P, o188 P, o189 P, o190 P, o191 P, o192 P, o193 P, o194 P, o195 P, o196 P, o197 P, o198 P, o199 P, o200 P, o201 P, o202 P, o203 P, o204 P, o205 P, o206 P, o207 P, o208 P, o209 P, o210 P, o211 P, o212 P, o213 P, o214 P, o215 P, o216 P, o217 P, o218 P, o219 P, o220 P, o221 P]
noncomputable def s2 (P : PP) : ST := ⟨t2 P, 222, 775⟩
noncomputable def o164v3 (P : PP) : Obj := ⟨(.type PySem.W.SL.s9222952809800978799x4), none, (.seq #[(.ref 153), (.ref 156), (.ref 159), (.ref 162), (.ref 175), (.ref 182), (.ref 197), (.ref 204), (.ref 211), (.ref 218)] 1), #[]⟩
noncomputable def t3 (P : PP) : BT := putAll (setAll (t2 P) [(164, o164v3 P)]) 222 []
noncomputable def s3 (P : PP) : ST := ⟨t3 P, 222, 777⟩
noncomputable def o222 (P : PP) : Obj := ⟨(.type PySem.W.SL.s658472552662922059x5), none, (.dict #[⟨kq P a133, (.str a133 777), (.str a153 775)⟩, ⟨kq P a127, (.str a127 778), (.str a143 776)⟩, ⟨kq P a128, (.str a128 779), (.int (3) 402)⟩, ⟨kq P a130, (.str a130 780), (.int (0) 523)⟩, ⟨kq P a134, (.str a134 781), (.ref 223)⟩, ⟨kq P a129, (.str a129 790), (.int (5) 873)⟩, ⟨kq P a117, (.str a117 791), (.str a154 788)⟩] 7), #[]⟩
noncomputable def o223 (P : PP) : Obj := ⟨(.type PySem.W.SL.s9222952809800978799x4), none, (.seq #[(.ref 232), (.ref 239), (.ref 246), (.ref 257), (.ref 264)] 5), #[]⟩
noncomputable def o224 (P : PP) : Obj := ⟨(.type PySem.W.SL.s9222952809800978799x4), none, (.seq #[(.str a155 783), (.str a156 784), (.str a157 785), (.str a149 786), (.str a158 787), (.str a154 788)] 0), #[]⟩
noncomputable def o225 (P : PP) : Obj := ⟨(.type PySem.W.SL.s3492446563574874994x13), none, (.fields #[.none, (.int (6) 0)]), #[]⟩
noncomputable def o226 (P : PP) : Obj := ⟨(.type PySem.W.SL.s14340494229221121180x9), none, (.fields #[.none, (.bool false), (.ref 225), (.int (6) 0), .none, (.str a154 788)]), #[]⟩
noncomputable def o227 (P : PP) : Obj := ⟨(.type PySem.W.SL.s2766695959194262286x5), none, (.seq #[(.int (0) 789), (.str a155 783)] 0), #[]⟩
noncomputable def o228 (P : PP) : Obj := ⟨(.type PySem.W.SL.s4096838299382398694x14), none, (.fields #[.none, (.int (2) 0)]), #[]⟩
noncomputable def o229 (P : PP) : Obj := ⟨(.type PySem.W.SL.s2766695959194262286x5), none, (.seq #[] 0), #[]⟩
noncomputable def o230 (P : PP) : Obj := ⟨(.type PySem.W.SL.s5991306692159431302x13), none, (.fields #[(.ref 229), .none, .none, .none, (.bool false), .none]), #[]⟩
noncomputable def o231 (P : PP) : Obj := ⟨(.type PySem.W.SL.s14018661285674007319x4), none, (.dict #[⟨kq P a117, (.str a117 800), (.str a155 783)⟩, ⟨kq P a127, (.str a127 802), (.str a143 776)⟩, ⟨kq P a128, (.str a128 804), (.int (3) 402)⟩, ⟨kq P a129, (.str a129 806), (.int (0) 789)⟩, ⟨kq P a130, (.str a130 808), (.int (0) 523)⟩] 5), #[]⟩
noncomputable def o232 (P : PP) : Obj := ⟨(.ref 124), (some 231), .plain, #[]⟩
noncomputable def o233 (P : PP) : Obj := ⟨(.type PySem.W.SL.s658472552662922059x5), none, (.dict #[⟨kq P a42, (.str a42 793), (.ref 232)⟩, ⟨kq P a117, (.str a117 794), (.str a155 783)⟩, ⟨kq P a127, (.str a127 795), (.str a143 776)⟩, ⟨kq P a128, (.str a128 796), (.int (3) 402)⟩, ⟨kq P a129, (.str a129 797), (.int (0) 789)⟩, ⟨kq P a130, (.str a130 798), (.int (0) 523)⟩] 6), #[]⟩
noncomputable def o234 (P : PP) : Obj := ⟨(.type PySem.W.SL.s2766695959194262286x5), none, (.seq #[(.int (1) 809), (.str a156 784)] 0), #[]⟩
noncomputable def o235 (P : PP) : Obj := ⟨(.type PySem.W.SL.s4096838299382398694x14), none, (.fields #[.none, (.int (2) 0)]), #[]⟩
noncomputable def o236 (P : PP) : Obj := ⟨(.type PySem.W.SL.s2766695959194262286x5), none, (.seq #[] 0), #[]⟩
noncomputable def o237 (P : PP) : Obj := ⟨(.type PySem.W.SL.s5991306692159431302x13), none, (.fields #[(.ref 236), .none, .none, .none, (.bool false), .none]), #[]⟩
noncomputable def o238 (P : PP) : Obj := ⟨(.type PySem.W.SL.s14018661285674007319x4), none, (.dict #[⟨kq P a117, (.str a117 820), (.str a156 784)⟩, ⟨kq P a127, (.str a127 822), (.str a143 776)⟩, ⟨kq P a128, (.str a128 824), (.int (3) 402)⟩, ⟨kq P a129, (.str a129 826), (.int (1) 809)⟩, ⟨kq P a130, (.str a130 828), (.int (0) 523)⟩] 5), #[]⟩
noncomputable def o239 (P : PP) : Obj := ⟨(.ref 124), (some 238), .plain, #[]⟩
noncomputable def o240 (P : PP) : Obj := ⟨(.type PySem.W.SL.s658472552662922059x5), none, (.dict #[⟨kq P a42, (.str a42 813), (.ref 239)⟩, ⟨kq P a117, (.str a117 814), (.str a156 784)⟩, ⟨kq P a127, (.str a127 815), (.str a143 776)⟩, ⟨kq P a128, (.str a128 816), (.int (3) 402)⟩, ⟨kq P a129, (.str a129 817), (.int (1) 809)⟩, ⟨kq P a130, (.str a130 818), (.int (0) 523)⟩] 6), #[]⟩
noncomputable def o241 (P : PP) : Obj := ⟨(.type PySem.W.SL.s2766695959194262286x5), none, (.seq #[(.int (2) 829), (.str a157 785)] 0), #[]⟩
noncomputable def o242 (P : PP) : Obj := ⟨(.type PySem.W.SL.s4096838299382398694x14), none, (.fields #[.none, (.int (2) 0)]), #[]⟩
noncomputable def o243 (P : PP) : Obj := ⟨(.type PySem.W.SL.s2766695959194262286x5), none, (.seq #[] 0), #[]⟩
noncomputable def o244 (P : PP) : Obj := ⟨(.type PySem.W.SL.s5991306692159431302x13), none, (.fields #[(.ref 243), .none, .none, .none, (.bool false), .none]), #[]⟩
noncomputable def o245 (P : PP) : Obj := ⟨(.type PySem.W.SL.s14018661285674007319x4), none, (.dict #[⟨kq P a117, (.str a117 840), (.str a157 785)⟩, ⟨kq P a127, (.str a127 842), (.str a143 776)⟩, ⟨kq P a128, (.str a128 844), (.int (3) 402)⟩, ⟨kq P a129, (.str a129 846), (.int (2) 829)⟩, ⟨kq P a130, (.str a130 848), (.int (0) 523)⟩] 5), #[]⟩
noncomputable def o246 (P : PP) : Obj := ⟨(.ref 124), (some 245), .plain, #[]⟩
noncomputable def o247 (P : PP) : Obj := ⟨(.type PySem.W.SL.s658472552662922059x5), none, (.dict #[⟨kq P a42, (.str a42 833), (.ref 246)⟩, ⟨kq P a117, (.str a117 834), (.str a157 785)⟩, ⟨kq P a127, (.str a127 835), (.str a143 776)⟩, ⟨kq P a128, (.str a128 836), (.int (3) 402)⟩, ⟨kq P a129, (.str a129 837), (.int (2) 829)⟩, ⟨kq P a130, (.str a130 838), (.int (0) 523)⟩] 6), #[]⟩
noncomputable def o248 (P : PP) : Obj := ⟨(.type PySem.W.SL.s2766695959194262286x5), none, (.seq #[(.int (3) 849), (.str a149 786)] 0), #[]⟩
noncomputable def o249 (P : PP) : Obj := ⟨(.type PySem.W.SL.s4096838299382398694x14), none, (.fields #[.none, (.int (2) 0)]), #[]⟩
noncomputable def o250 (P : PP) : Obj := ⟨(.type PySem.W.SL.s2766695959194262286x5), none, (.seq #[] 0), #[]⟩
noncomputable def o251 (P : PP) : Obj := ⟨(.type PySem.W.SL.s5991306692159431302x13), none, (.fields #[(.ref 250), .none, .none, .none, (.bool false), .none]), #[]⟩
noncomputable def o252 (P : PP) : Obj := ⟨(.type PySem.W.SL.s2766695959194262286x5), none, (.seq #[(.int (4) 853), (.str a158 787)] 0), #[]⟩
noncomputable def o253 (P : PP) : Obj := ⟨(.type PySem.W.SL.s4096838299382398694x14), none, (.fields #[.none, (.int (2) 0)]), #[]⟩
noncomputable def o254 (P : PP) : Obj := ⟨(.type PySem.W.SL.s2766695959194262286x5), none, (.seq #[] 0), #[]⟩
noncomputable def o255 (P : PP) : Obj := ⟨(.type PySem.W.SL.s5991306692159431302x13), none, (.fields #[(.ref 254), .none, .none, .none, (.bool false), .none]), #[]⟩
noncomputable def o256 (P : PP) : Obj := ⟨(.type PySem.W.SL.s14018661285674007319x4), none, (.dict #[⟨kq P a117, (.str a117 864), (.str a158 787)⟩, ⟨kq P a127, (.str a127 866), (.str a143 776)⟩, ⟨kq P a128, (.str a128 868), (.int (3) 402)⟩, ⟨kq P a129, (.str a129 870), (.int (4) 853)⟩, ⟨kq P a130, (.str a130 872), (.int (0) 523)⟩] 5), #[]⟩
noncomputable def o257 (P : PP) : Obj := ⟨(.ref 124), (some 256), .plain, #[]⟩
noncomputable def o258 (P : PP) : Obj := ⟨(.type PySem.W.SL.s658472552662922059x5), none, (.dict #[⟨kq P a42, (.str a42 857), (.ref 257)⟩, ⟨kq P a117, (.str a117 858), (.str a158 787)⟩, ⟨kq P a127, (.str a127 859), (.str a143 776)⟩, ⟨kq P a128, (.str a128 860), (.int (3) 402)⟩, ⟨kq P a129, (.str a129 861), (.int (4) 853)⟩, ⟨kq P a130, (.str a130 862), (.int (0) 523)⟩] 6), #[]⟩
noncomputable def o259 (P : PP) : Obj := ⟨(.type PySem.W.SL.s2766695959194262286x5), none, (.seq #[(.int (5) 873), (.str a154 788)] 0), #[]⟩
noncomputable def o260 (P : PP) : Obj := ⟨(.type PySem.W.SL.s4096838299382398694x14), none, (.fields #[.none, (.int (2) 0)]), #[]⟩
noncomputable def o261 (P : PP) : Obj := ⟨(.type PySem.W.SL.s2766695959194262286x5), none, (.seq #[] 0), #[]⟩
noncomputable def o262 (P : PP) : Obj := ⟨(.type PySem.W.SL.s5991306692159431302x13), none, (.fields #[(.ref 261), .none, .none, .none, (.bool false), .none]), #[]⟩
noncomputable def o263 (P : PP) : Obj := ⟨(.type PySem.W.SL.s14018661285674007319x4), none, (.dict #[⟨kq P a117, (.str a117 884), (.str a154 788)⟩, ⟨kq P a127, (.str a127 886), (.str a143 776)⟩, ⟨kq P a128, (.str a128 888), (.int (3) 402)⟩, ⟨kq P a129, (.str a129 890), (.int (5) 873)⟩, ⟨kq P a130, (.str a130 892), (.int (0) 523)⟩] 5), #[]⟩
noncomputable def o264 (P : PP) : Obj := ⟨(.ref 124), (some 263), .plain, #[]⟩
noncomputable def o265 (P : PP) : Obj := ⟨(.type PySem.W.SL.s658472552662922059x5), none, (.dict #[⟨kq P a42, (.str a42 877), (.ref 264)⟩, ⟨kq P a117, (.str a117 878), (.str a154 788)⟩, ⟨kq P a127, (.str a127 879), (.str a143 776)⟩, ⟨kq P a128, (.str a128 880), (.int (3) 402)⟩, ⟨kq P a129, (.str a129 881), (.int (5) 873)⟩, ⟨kq P a130, (.str a130 882), (.int (0) 523)⟩] 6), #[]⟩
noncomputable def o266 (P : PP) : Obj := ⟨(.type PySem.W.SL.s2766695959194262286x5), none, (.seq #[] 0), #[]⟩
noncomputable def o267 (P : PP) : Obj := ⟨(.type PySem.W.SL.s5991306692159431302x13), none, (.fields #[(.ref 266), .none, .none, .none, (.bool false), .none]), #[]⟩
noncomputable def t4 (P : PP) : BT := putAll (setAll (t3 P) []) 222 [o222 P, o223 P, o224 P, o225 P, o226 P, o227 P, o228 P, o229 P, o230 P, o231 P, o232 P, o233 P, o234 P, o235 P, o236 P, o237 P, o238 P, o239 P, o240 P, o241 P, o242 P, o243 P, o244 P, o245 P, o246 P, o247 P, o248 P, o249 P, o250 P, o251 P, o252 P, o253 P, o254 P, o255 P, o256 P, o257 P, o258 P, o259 P, o260 P, o261 P, o262 P, o263 P, o264 P, o265 P, o266 P, o267 P]
noncomputable def s4 (P : PP) : ST := ⟨t4 P, 268, 893⟩
noncomputable def o164v5 (P : PP) : Obj := ⟨(.type PySem.W.SL.s9222952809800978799x4), none, (.seq #[(.ref 153), (.ref 156), (.ref 159), (.ref 162), (.ref 175), (.ref 182), (.ref 197), (.ref 204), (.ref 211), (.ref 218), (.ref 232), (.ref 239), (.ref 246), (.ref 257), (.ref 264)] 2), #[]⟩
noncomputable def t5 (P : PP) : BT := putAll (setAll (t4 P) [(164, o164v5 P)]) 268 []
noncomputable def s5 (P : PP) : ST := ⟨t5 P, 268, 895⟩
noncomputable def o268 (P : PP) : Obj := ⟨(.type PySem.W.SL.s658472552662922059x5), none, (.dict #[⟨kq P a133, (.str a133 895), (.str a159 893)⟩, ⟨kq P a127, (.str a127 896), (.str a160 894)⟩, ⟨kq P a128, (.str a128 897), (.int (35) 410)⟩, ⟨kq P a130, (.str a130 898), (.int (0) 523)⟩, ⟨kq P a134, (.str a134 899), (.ref 269)⟩, ⟨kq P a129, (.str a129 905), (.int (2) 944)⟩, ⟨kq P a117, (.str a117 906), (.str a161 903)⟩] 7), #[]⟩
noncomputable def o269 (P : PP) : Obj := ⟨(.type PySem.W.SL.s9222952809800978799x4), none, (.seq #[(.ref 278), (.ref 285), (.ref 292)] 3), #[]⟩
noncomputable def o270 (P : PP) : Obj := ⟨(.type PySem.W.SL.s9222952809800978799x4), none, (.seq #[(.str a162 901), (.str a163 902), (.str a161 903)] 0), #[]⟩
noncomputable def o271 (P : PP) : Obj := ⟨(.type PySem.W.SL.s3492446563574874994x13), none, (.fields #[.none, (.int (3) 0)]), #[]⟩
noncomputable def o272 (P : PP) : Obj := ⟨(.type PySem.W.SL.s14340494229221121180x9), none, (.fields #[.none, (.bool false), (.ref 271), (.int (3) 0), .none, (.str a161 903)]), #[]⟩
noncomputable def o273 (P : PP) : Obj := ⟨(.type PySem.W.SL.s2766695959194262286x5), none, (.seq #[(.int (0) 904), (.str a162 901)] 0), #[]⟩
noncomputable def o274 (P : PP) : Obj := ⟨(.type PySem.W.SL.s4096838299382398694x14), none, (.fields #[.none, (.int (2) 0)]), #[]⟩
noncomputable def o275 (P : PP) : Obj := ⟨(.type PySem.W.SL.s2766695959194262286x5), none, (.seq #[] 0), #[]⟩
noncomputable def o276 (P : PP) : Obj := ⟨(.type PySem.W.SL.s5991306692159431302x13), none, (.fields #[(.ref 275), .none, .none, .none, (.bool false), .none]), #[]⟩
noncomputable def o277 (P : PP) : Obj := ⟨(.type PySem.W.SL.s14018661285674007319x4), none, (.dict #[⟨kq P a117, (.str a117 915), (.str a162 901)⟩, ⟨kq P a127, (.str a127 917), (.str a160 894)⟩, ⟨kq P a128, (.str a128 919), (.int (35) 410)⟩, ⟨kq P a129, (.str a129 921), (.int (0) 904)⟩, ⟨kq P a130, (.str a130 923), (.int (0) 523)⟩] 5), #[]⟩
noncomputable def o278 (P : PP) : Obj := ⟨(.ref 124), (some 277), .plain, #[]⟩
noncomputable def o279 (P : PP) : Obj := ⟨(.type PySem.W.SL.s658472552662922059x5), none, (.dict #[⟨kq P a42, (.str a42 908), (.ref 278)⟩, ⟨kq P a117, (.str a117 909), (.str a162 901)⟩, ⟨kq P a127, (.str a127 910), (.str a160 894)⟩, ⟨kq P a128, (.str a128 911), (.int (35) 410)⟩, ⟨kq P a129, (.str a129 912), (.int (0) 904)⟩, ⟨kq P a130, (.str a130 913), (.int (0) 523)⟩] 6), #[]⟩
noncomputable def o280 (P : PP) : Obj := ⟨(.type PySem.W.SL.s2766695959194262286x5), none, (.seq #[(.int (1) 924), (.str a163 902)] 0), #[]⟩
noncomputable def o281 (P : PP) : Obj := ⟨(.type PySem.W.SL.s4096838299382398694x14), none, (.fields #[.none, (.int (2) 0)]), #[]⟩
noncomputable def o282 (P : PP) : Obj := ⟨(.type PySem.W.SL.s2766695959194262286x5), none, (.seq #[] 0), #[]⟩
noncomputable def o283 (P : PP) : Obj := ⟨(.type PySem.W.SL.s5991306692159431302x13), none, (.fields #[(.ref 282), .none, .none, .none, (.bool false), .none]), #[]⟩
noncomputable def o284 (P : PP) : Obj := ⟨(.type PySem.W.SL.s14018661285674007319x4), none, (.dict #[⟨kq P a117, (.str a117 935), (.str a163 902)⟩, ⟨kq P a127, (.str a127 937), (.str a160 894)⟩, ⟨kq P a128, (.str a128 939), (.int (35) 410)⟩, ⟨kq P a129, (.str a129 941), (.int (1) 924)⟩, ⟨kq P a130, (.str a130 943), (.int (0) 523)⟩] 5), #[]⟩
noncomputable def o285 (P : PP) : Obj := ⟨(.ref 124), (some 284), .plain, #[]⟩
noncomputable def o286 (P : PP) : Obj := ⟨(.type PySem.W.SL.s658472552662922059x5), none, (.dict #[⟨kq P a42, (.str a42 928), (.ref 285)⟩, ⟨kq P a117, (.str a117 929), (.str a163 902)⟩, ⟨kq P a127, (.str a127 930), (.str a160 894)⟩, ⟨kq P a128, (.str a128 931), (.int (35) 410)⟩, ⟨kq P a129, (.str a129 932), (.int (1) 924)⟩, ⟨kq P a130, (.str a130 933), (.int (0) 523)⟩] 6), #[]⟩
noncomputable def o287 (P : PP) : Obj := ⟨(.type PySem.W.SL.s2766695959194262286x5), none, (.seq #[(.int (2) 944), (.str a161 903)] 0), #[]⟩
noncomputable def o288 (P : PP) : Obj := ⟨(.type PySem.W.SL.s4096838299382398694x14), none, (.fields #[.none, (.int (2) 0)]), #[]⟩
noncomputable def o289 (P : PP) : Obj := ⟨(.type PySem.W.SL.s2766695959194262286x5), none, (.seq #[] 0), #[]⟩
noncomputable def o290 (P : PP) : Obj := ⟨(.type PySem.W.SL.s5991306692159431302x13), none, (.fields #[(.ref 289), .none, .none, .none, (.bool false), .none]), #[]⟩
noncomputable def o291 (P : PP) : Obj := ⟨(.type PySem.W.SL.s14018661285674007319x4), none, (.dict #[⟨kq P a117, (.str a117 955), (.str a161 903)⟩, ⟨kq P a127, (.str a127 957), (.str a160 894)⟩, ⟨kq P a128, (.str a128 959), (.int (35) 410)⟩, ⟨kq P a129, (.str a129 961), (.int (2) 944)⟩, ⟨kq P a130, (.str a130 963), (.int (0) 523)⟩] 5), #[]⟩
noncomputable def o292 (P : PP) : Obj := ⟨(.ref 124), (some 291), .plain, #[]⟩
noncomputable def o293 (P : PP) : Obj := ⟨(.type PySem.W.SL.s658472552662922059x5), none, (.dict #[⟨kq P a42, (.str a42 948), (.ref 292)⟩, ⟨kq P a117, (.str a117 949), (.str a161 903)⟩, ⟨kq P a127, (.str a127 950), (.str a160 894)⟩, ⟨kq P a128, (.str a128 951), (.int (35) 410)⟩, ⟨kq P a129, (.str a129 952), (.int (2) 944)⟩, ⟨kq P a130, (.str a130 953), (.int (0) 523)⟩] 6), #[]⟩
noncomputable def o294 (P : PP) : Obj := ⟨(.type PySem.W.SL.s2766695959194262286x5), none, (.seq #[] 0), #[]⟩
noncomputable def o295 (P : PP) : Obj := ⟨(.type PySem.W.SL.s5991306692159431302x13), none, (.fields #[(.ref 294), .none, .none, .none, (.bool false), .none]), #[]⟩
noncomputable def t6 (P : PP) : BT := putAll (setAll (t5 P) []) 268 [o268 P, o269 P, o270 P, o271 P, o272 P, o273 P, o274 P, o275 P, o276 P, o277 P, o278 P, o279 P, o280 P, o281 P, o282 P, o283 P, o284 P, o285 P, o286 P, o287 P, o288 P, o289 P, o290 P, o291 P, o292 P, o293 P, o294 P, o295 P]
noncomputable def s6 (P : PP) : ST := ⟨t6 P, 296, 964⟩
noncomputable def o164v7 (P : PP) : Obj := ⟨(.type PySem.W.SL.s9222952809800978799x4), none, (.seq #[(.ref 153), (.ref 156), (.ref 159), (.ref 162), (.ref 175), (.ref 182), (.ref 197), (.ref 204), (.ref 211), (.ref 218), (.ref 232), (.ref 239), (.ref 246), (.ref 257), (.ref 264), (.ref 278), (.ref 285), (.ref 292)] 3), #[]⟩
noncomputable def t7 (P : PP) : BT := putAll (setAll (t6 P) [(164, o164v7 P)]) 296 []
noncomputable def s7 (P : PP) : ST := ⟨t7 P, 296, 966⟩
noncomputable def o296 (P : PP) : Obj := ⟨(.type PySem.W.SL.s658472552662922059x5), none, (.dict #[⟨kq P a133, (.str a133 966), (.str a164 964)⟩, ⟨kq P a127, (.str a127 967), (.str a143 965)⟩, ⟨kq P a128, (.str a128 968), (.int (19) 406)⟩, ⟨kq P a130, (.str a130 969), (.int (0) 523)⟩, ⟨kq P a134, (.str a134 970), (.ref 297)⟩, ⟨kq P a129, (.str a129 981), (.int (7) 1088)⟩, ⟨kq P a117, (.str a117 982), (.str a165 979)⟩] 7), #[]⟩
noncomputable def o297 (P : PP) : Obj := ⟨(.type PySem.W.SL.s9222952809800978799x4), none, (.seq #[(.ref 306), (.ref 317), (.ref 324), (.ref 331), (.ref 342), (.ref 349)] 6), #[]⟩
noncomputable def o298 (P : PP) : Obj := ⟨(.type PySem.W.SL.s9222952809800978799x4), none, (.seq #[(.str a166 972), (.str a149 973), (.str a167 974), (.str a168 975), (.str a169 976), (.str a149 977), (.str a170 978), (.str a165 979)] 0), #[]⟩
noncomputable def o299 (P : PP) : Obj := ⟨(.type PySem.W.SL.s3492446563574874994x13), none, (.fields #[.none, (.int (8) 0)]), #[]⟩
noncomputable def o300 (P : PP) : Obj := ⟨(.type PySem.W.SL.s14340494229221121180x9), none, (.fields #[.none, (.bool false), (.ref 299), (.int (8) 0), .none, (.str a165 979)]), #[]⟩
noncomputable def o301 (P : PP) : Obj := ⟨(.type PySem.W.SL.s2766695959194262286x5), none, (.seq #[(.int (0) 980), (.str a166 972)] 0), #[]⟩
noncomputable def o302 (P : PP) : Obj := ⟨(.type PySem.W.SL.s4096838299382398694x14), none, (.fields #[.none, (.int (2) 0)]), #[]⟩
noncomputable def o303 (P : PP) : Obj := ⟨(.type PySem.W.SL.s2766695959194262286x5), none, (.seq #[] 0), #[]⟩
noncomputable def o304 (P : PP) : Obj := ⟨(.type PySem.W.SL.s5991306692159431302x13), none, (.fields #[(.ref 303), .none, .none, .none, (.bool false), .none]), #[]⟩
noncomputable def o305 (P : PP) : Obj := ⟨(.type PySem.W.SL.s14018661285674007319x4), none, (.dict #[⟨kq P a117, (.str a117 991), (.str a166 972)⟩, ⟨kq P a127, (.str a127 993), (.str a143 965)⟩, ⟨kq P a128, (.str a128 995), (.int (19) 406)⟩, ⟨kq P a129, (.str a129 997), (.int (0) 980)⟩, ⟨kq P a130, (.str a130 999), (.int (0) 523)⟩] 5), #[]⟩
noncomputable def o306 (P : PP) : Obj := ⟨(.ref 124), (some 305), .plain, #[]⟩
noncomputable def o307 (P : PP) : Obj := ⟨(.type PySem.W.SL.s658472552662922059x5), none, (.dict #[⟨kq P a42, (.str a42 984), (.ref 306)⟩, ⟨kq P a117, (.str a117 985), (.str a166 972)⟩, ⟨kq P a127, (.str a127 986), (.str a143 965)⟩, ⟨kq P a128, (.str a128 987), (.int (19) 406)⟩, ⟨kq P a129, (.str a129 988), (.int (0) 980)⟩, ⟨kq P a130, (.str a130 989), (.int (0) 523)⟩] 6), #[]⟩
noncomputable def o308 (P : PP) : Obj := ⟨(.type PySem.W.SL.s2766695959194262286x5), none, (.seq #[(.int (1) 1000), (.str a149 973)] 0), #[]⟩
noncomputable def o309 (P : PP) : Obj := ⟨(.type PySem.W.SL.s4096838299382398694x14), none, (.fields #[.none, (.int (2) 0)]), #[]⟩
noncomputable def o310 (P : PP) : Obj := ⟨(.type PySem.W.SL.s2766695959194262286x5), none, (.seq #[] 0), #[]⟩
noncomputable def o311 (P : PP) : Obj := ⟨(.type PySem.W.SL.s5991306692159431302x13), none, (.fields #[(.ref 310), .none, .none, .none, (.bool false), .none]), #[]⟩
noncomputable def o312 (P : PP) : Obj := ⟨(.type PySem.W.SL.s2766695959194262286x5), none, (.seq #[(.int (2) 1004), (.str a167 974)] 0), #[]⟩
noncomputable def o313 (P : PP) : Obj := ⟨(.type PySem.W.SL.s4096838299382398694x14), none, (.fields #[.none, (.int (2) 0)]), #[]⟩
noncomputable def o314 (P : PP) : Obj := ⟨(.type PySem.W.SL.s2766695959194262286x5), none, (.seq #[] 0), #[]⟩
noncomputable def o315 (P : PP) : Obj := ⟨(.type PySem.W.SL.s5991306692159431302x13), none, (.fields #[(.ref 314), .none, .none, .none, (.bool false), .none]), #[]⟩
noncomputable def o316 (P : PP) : Obj := ⟨(.type PySem.W.SL.s14018661285674007319x4), none, (.dict #[⟨kq P a117, (.str a117 1015), (.str a167 974)⟩, ⟨kq P a127, (.str a127 1017), (.str a143 965)⟩, ⟨kq P a128, (.str a128 1019), (.int (19) 406)⟩, ⟨kq P a129, (.str a129 1021), (.int (2) 1004)⟩, ⟨kq P a130, (.str a130 1023), (.int (0) 523)⟩] 5), #[]⟩
noncomputable def o317 (P : PP) : Obj := ⟨(.ref 124), (some 316), .plain, #[]⟩
noncomputable def o318 (P : PP) : Obj := ⟨(.type PySem.W.SL.s658472552662922059x5), none, (.dict #[⟨kq P a42, (.str a42 1008), (.ref 317)⟩, ⟨kq P a117, (.str a117 1009), (.str a167 974)⟩, ⟨kq P a127, (.str a127 1010), (.str a143 965)⟩, ⟨kq P a128, (.str a128 1011), (.int (19) 406)⟩, ⟨kq P a129, (.str a129 1012), (.int (2) 1004)⟩, ⟨kq P a130, (.str a130 1013), (.int (0) 523)⟩] 6), #[]⟩
noncomputable def o319 (P : PP) : Obj := ⟨(.type PySem.W.SL.s2766695959194262286x5), none, (.seq #[(.int (3) 1024), (.str a168 975)] 0), #[]⟩
noncomputable def o320 (P : PP) : Obj := ⟨(.type PySem.W.SL.s4096838299382398694x14), none, (.fields #[.none, (.int (2) 0)]), #[]⟩
noncomputable def o321 (P : PP) : Obj := ⟨(.type PySem.W.SL.s2766695959194262286x5), none, (.seq #[] 0), #[]⟩
noncomputable def o322 (P : PP) : Obj := ⟨(.type PySem.W.SL.s5991306692159431302x13), none, (.fields #[(.ref 321), .none, .none, .none, (.bool false), .none]), #[]⟩
noncomputable def o323 (P : PP) : Obj := ⟨(.type PySem.W.SL.s14018661285674007319x4), none, (.dict #[⟨kq P a117, (.str a117 1035), (.str a168 975)⟩, ⟨kq P a127, (.str a127 1037), (.str a143 965)⟩, ⟨kq P a128, (.str a128 1039), (.int (19) 406)⟩, ⟨kq P a129, (.str a129 1041), (.int (3) 1024)⟩, ⟨kq P a130, (.str a130 1043), (.int (0) 523)⟩] 5), #[]⟩
noncomputable def o324 (P : PP) : Obj := ⟨(.ref 124), (some 323), .plain, #[]⟩
noncomputable def o325 (P : PP) : Obj := ⟨(.type PySem.W.SL.s658472552662922059x5), none, (.dict #[⟨kq P a42, (.str a42 1028), (.ref 324)⟩, ⟨kq P a117, (.str a117 1029), (.str a168 975)⟩, ⟨kq P a127, (.str a127 1030), (.str a143 965)⟩, ⟨kq P a128, (.str a128 1031), (.int (19) 406)⟩, ⟨kq P a129, (.str a129 1032), (.int (3) 1024)⟩, ⟨kq P a130, (.str a130 1033), (.int (0) 523)⟩] 6), #[]⟩
noncomputable def o326 (P : PP) : Obj := ⟨(.type PySem.W.SL.s2766695959194262286x5), none, (.seq #[(.int (4) 1044), (.str a169 976)] 0), #[]⟩
noncomputable def o327 (P : PP) : Obj := ⟨(.type PySem.W.SL.s4096838299382398694x14), none, (.fields #[.none, (.int (2) 0)]), #[]⟩
noncomputable def o328 (P : PP) : Obj := ⟨(.type PySem.W.SL.s2766695959194262286x5), none, (.seq #[] 0), #[]⟩
noncomputable def o329 (P : PP) : Obj := ⟨(.type PySem.W.SL.s5991306692159431302x13), none, (.fields #[(.ref 328), .none, .none, .none, (.bool false), .none]), #[]⟩
noncomputable def o330 (P : PP) : Obj := ⟨(.type PySem.W.SL.s14018661285674007319x4), none, (.dict #[⟨kq P a117, (.str a117 1055), (.str a169 976)⟩, ⟨kq P a127, (.str a127 1057), (.str a143 965)⟩, ⟨kq P a128, (.str a128 1059), (.int (19) 406)⟩, ⟨kq P a129, (.str a129 1061), (.int (4) 1044)⟩, ⟨kq P a130, (.str a130 1063), (.int (0) 523)⟩] 5), #[]⟩
noncomputable def o331 (P : PP) : Obj := ⟨(.ref 124), (some 330), .plain, #[]⟩
noncomputable def o332 (P : PP) : Obj := ⟨(.type PySem.W.SL.s658472552662922059x5), none, (.dict #[⟨kq P a42, (.str a42 1048), (.ref 331)⟩, ⟨kq P a117, (.str a117 1049), (.str a169 976)⟩, ⟨kq P a127, (.str a127 1050), (.str a143 965)⟩, ⟨kq P a128, (.str a128 1051), (.int (19) 406)⟩, ⟨kq P a129, (.str a129 1052), (.int (4) 1044)⟩, ⟨kq P a130, (.str a130 1053), (.int (0) 523)⟩] 6), #[]⟩
noncomputable def o333 (P : PP) : Obj := ⟨(.type PySem.W.SL.s2766695959194262286x5), none, (.seq #[(.int (5) 1064), (.str a149 977)] 0), #[]⟩
noncomputable def o334 (P : PP) : Obj := ⟨(.type PySem.W.SL.s4096838299382398694x14), none, (.fields #[.none, (.int (2) 0)]), #[]⟩
noncomputable def o335 (P : PP) : Obj := ⟨(.type PySem.W.SL.s2766695959194262286x5), none, (.seq #[] 0), #[]⟩
noncomputable def o336 (P : PP) : Obj := ⟨(.type PySem.W.SL.s5991306692159431302x13), none, (.fields #[(.ref 335), .none, .none, .none, (.bool false), .none]), #[]⟩
noncomputable def o337 (P : PP) : Obj := ⟨(.type PySem.W.SL.s2766695959194262286x5), none, (.seq #[(.int (6) 1068), (.str a170 978)] 0), #[]⟩
noncomputable def o338 (P : PP) : Obj := ⟨(.type PySem.W.SL.s4096838299382398694x14), none, (.fields #[.none, (.int (2) 0)]), #[]⟩
noncomputable def o339 (P : PP) : Obj := ⟨(.type PySem.W.SL.s2766695959194262286x5), none, (.seq #[] 0), #[]⟩
noncomputable def o340 (P : PP) : Obj := ⟨(.type PySem.W.SL.s5991306692159431302x13), none, (.fields #[(.ref 339), .none, .none, .none, (.bool false), .none]), #[]⟩
noncomputable def o341 (P : PP) : Obj := ⟨(.type PySem.W.SL.s14018661285674007319x4), none, (.dict #[⟨kq P a117, (.str a117 1079), (.str a170 978)⟩, ⟨kq P a127, (.str a127 1081), (.str a143 965)⟩, ⟨kq P a128, (.str a128 1083), (.int (19) 406)⟩, ⟨kq P a129, (.str a129 1085), (.int (6) 1068)⟩, ⟨kq P a130, (.str a130 1087), (.int (0) 523)⟩] 5), #[]⟩
noncomputable def o342 (P : PP) : Obj := ⟨(.ref 124), (some 341), .plain, #[]⟩
noncomputable def o343 (P : PP) : Obj := ⟨(.type PySem.W.SL.s658472552662922059x5), none, (.dict #[⟨kq P a42, (.str a42 1072), (.ref 342)⟩, ⟨kq P a117, (.str a117 1073), (.str a170 978)⟩, ⟨kq P a127, (.str a127 1074), (.str a143 965)⟩, ⟨kq P a128, (.str a128 1075), (.int (19) 406)⟩, ⟨kq P a129, (.str a129 1076), (.int (6) 1068)⟩, ⟨kq P a130, (.str a130 1077), (.int (0) 523)⟩] 6), #[]⟩
noncomputable def o344 (P : PP) : Obj := ⟨(.type PySem.W.SL.s2766695959194262286x5), none, (.seq #[(.int (7) 1088), (.str a165 979)] 0), #[]⟩
noncomputable def o345 (P : PP) : Obj := ⟨(.type PySem.W.SL.s4096838299382398694x14), none, (.fields #[.none, (.int (2) 0)]), #[]⟩
noncomputable def o346 (P : PP) : Obj := ⟨(.type PySem.W.SL.s2766695959194262286x5), none, (.seq #[] 0), #[]⟩
noncomputable def o347 (P : PP) : Obj := ⟨(.type PySem.W.SL.s5991306692159431302x13), none, (.fields #[(.ref 346), .none, .none, .none, (.bool false), .none]), #[]⟩
noncomputable def o348 (P : PP) : Obj := ⟨(.type PySem.W.SL.s14018661285674007319x4), none, (.dict #[⟨kq P a117, (.str a117 1099), (.str a165 979)⟩, ⟨kq P a127, (.str a127 1101), (.str a143 965)⟩, ⟨kq P a128, (.str a128 1103), (.int (19) 406)⟩, ⟨kq P a129, (.str a129 1105), (.int (7) 1088)⟩, ⟨kq P a130, (.str a130 1107), (.int (0) 523)⟩] 5), #[]⟩
noncomputable def o349 (P : PP) : Obj := ⟨(.ref 124), (some 348), .plain, #[]⟩
noncomputable def o350 (P : PP) : Obj := ⟨(.type PySem.W.SL.s658472552662922059x5), none, (.dict #[⟨kq P a42, (.str a42 1092), (.ref 349)⟩, ⟨kq P a117, (.str a117 1093), (.str a165 979)⟩, ⟨kq P a127, (.str a127 1094), (.str a143 965)⟩, ⟨kq P a128, (.str a128 1095), (.int (19) 406)⟩, ⟨kq P a129, (.str a129 1096), (.int (7) 1088)⟩, ⟨kq P a130, (.str a130 1097), (.int (0) 523)⟩] 6), #[]⟩
noncomputable def o351 (P : PP) : Obj := ⟨(.type PySem.W.SL.s2766695959194262286x5), none, (.seq #[] 0), #[]⟩
noncomputable def o352 (P : PP) : Obj := ⟨(.type PySem.W.SL.s5991306692159431302x13), none, (.fields #[(.ref 351), .none, .none, .none, (.bool false), .none]), #[]⟩
noncomputable def t8 (P : PP) : BT := putAll (setAll (t7 P) []) 296 [o296 P, o297 P, o298 P, o299 P, o300 P, o301 P, o302 P, o303 P, o304 P, o305 P, o306 P, o307 P, o308 P, o309 P, o310 P, o311 P, o312 P, o313 P, o314 P, o315 P, o316 P, o317 P, o318 P, o319 P, o320 P, o321 P, o322 P, o323 P, o324 P, o325 P, o326 P, o327 P, o328 P, o329 P, o330 P, o331 P, o332 P, o333 P, o334 P, o335 P, o336 P, o337 P, o338 P, o339 P, o340 P, o341 P, o342 P, o343 P, o344 P, o345 P, o346 P, o347 P, o348 P, o349 P, o350 P, o351 P, o352 P]
noncomputable def s8 (P : PP) : ST := ⟨t8 P, 353, 1108⟩
noncomputable def o164v9 (P : PP) : Obj := ⟨(.type PySem.W.SL.s9222952809800978799x4), none, (.seq #[(.ref 153), (.ref 156), (.ref 159), (.ref 162), (.ref 175), (.ref 182), (.ref 197), (.ref 204), (.ref 211), (.ref 218), (.ref 232), (.ref 239), (.ref 246), (.ref 257), (.ref 264), (.ref 278), (.ref 285), (.ref 292), (.ref 306), (.ref 317), (.ref 324), (.ref 331), (.ref 342), (.ref 349)] 4), #[]⟩
noncomputable def t9 (P : PP) : BT := putAll (setAll (t8 P) [(164, o164v9 P)]) 353 []
noncomputable def s9 (P : PP) : ST := ⟨t9 P, 353, 1110⟩
noncomputable def o353 (P : PP) : Obj := ⟨(.type PySem.W.SL.s658472552662922059x5), none, (.dict #[⟨kq P a133, (.str a133 1110), (.str a171 1108)⟩, ⟨kq P a127, (.str a127 1111), (.str a172 1109)⟩, ⟨kq P a128, (.str a128 1112), (.int (19) 406)⟩, ⟨kq P a130, (.str a130 1113), (.int (0) 523)⟩, ⟨kq P a134, (.str a134 1114), (.ref 354)⟩, ⟨kq P a129, (.str a129 1123), (.int (5) 1158)⟩, ⟨kq P a117, (.str a117 1124), (.str a173 1121)⟩] 7), #[]⟩
noncomputable def o354 (P : PP) : Obj := ⟨(.type PySem.W.SL.s9222952809800978799x4), none, (.seq #[(.ref 367), (.ref 386)] 2), #[]⟩
noncomputable def o355 (P : PP) : Obj := ⟨(.type PySem.W.SL.s9222952809800978799x4), none, (.seq #[(.str a149 1116), (.str a174 1117), (.str a149 1118), (.str a149 1119), (.str a149 1120), (.str a173 1121)] 0), #[]⟩
noncomputable def o356 (P : PP) : Obj := ⟨(.type PySem.W.SL.s3492446563574874994x13), none, (.fields #[.none, (.int (6) 0)]), #[]⟩
noncomputable def o357 (P : PP) : Obj := ⟨(.type PySem.W.SL.s14340494229221121180x9), none, (.fields #[.none, (.bool false), (.ref 356), (.int (6) 0), .none, (.str a173 1121)]), #[]⟩
noncomputable def o358 (P : PP) : Obj := ⟨(.type PySem.W.SL.s2766695959194262286x5), none, (.seq #[(.int (0) 1122), (.str a149 1116)] 0), #[]⟩
noncomputable def o359 (P : PP) : Obj := ⟨(.type PySem.W.SL.s4096838299382398694x14), none, (.fields #[.none, (.int (2) 0)]), #[]⟩
noncomputable def o360 (P : PP) : Obj := ⟨(.type PySem.W.SL.s2766695959194262286x5), none, (.seq #[] 0), #[]⟩
noncomputable def o361 (P : PP) : Obj := ⟨(.type PySem.W.SL.s5991306692159431302x13), none, (.fields #[(.ref 360), .none, .none, .none, (.bool false), .none]), #[]⟩
noncomputable def o362 (P : PP) : Obj := ⟨(.type PySem.W.SL.s2766695959194262286x5), none, (.seq #[(.int (1) 1126), (.str a174 1117)] 0), #[]⟩
noncomputable def o363 (P : PP) : Obj := ⟨(.type PySem.W.SL.s4096838299382398694x14), none, (.fields #[.none, (.int (2) 0)]), #[]⟩
noncomputable def o364 (P : PP) : Obj := ⟨(.type PySem.W.SL.s2766695959194262286x5), none, (.seq #[] 0), #[]⟩
noncomputable def o365 (P : PP) : Obj := ⟨(.type PySem.W.SL.s5991306692159431302x13), none, (.fields #[(.ref 364), .none, .none, .none, (.bool false), .none]), #[]⟩
noncomputable def o366 (P : PP) : Obj := ⟨(.type PySem.W.SL.s14018661285674007319x4), none, (.dict #[⟨kq P a117, (.str a117 1137), (.str a174 1117)⟩, ⟨kq P a127, (.str a127 1139), (.str a172 1109)⟩, ⟨kq P a128, (.str a128 1141), (.int (19) 406)⟩, ⟨kq P a129, (.str a129 1143), (.int (1) 1126)⟩, ⟨kq P a130, (.str a130 1145), (.int (0) 523)⟩] 5), #[]⟩
noncomputable def o367 (P : PP) : Obj := ⟨(.ref 124), (some 366), .plain, #[]⟩
noncomputable def o368 (P : PP) : Obj := ⟨(.type PySem.W.SL.s658472552662922059x5), none, (.dict #[⟨kq P a42, (.str a42 1130), (.ref 367)⟩, ⟨kq P a117, (.str a117 1131), (.str a174 1117)⟩, ⟨kq P a127, (.str a127 1132), (.str a172 1109)⟩, ⟨kq P a128, (.str a128 1133), (.int (19) 406)⟩, ⟨kq P a129, (.str a129 1134), (.int (1) 1126)⟩, ⟨kq P a130, (.str a130 1135), (.int (0) 523)⟩] 6), #[]⟩
noncomputable def o369 (P : PP) : Obj := ⟨(.type PySem.W.SL.s2766695959194262286x5), none, (.seq #[(.int (2) 1146), (.str a149 1118)] 0), #[]⟩
noncomputable def o370 (P : PP) : Obj := ⟨(.type PySem.W.SL.s4096838299382398694x14), none, (.fields #[.none, (.int (2) 0)]), #[]⟩
noncomputable def o371 (P : PP) : Obj := ⟨(.type PySem.W.SL.s2766695959194262286x5), none, (.seq #[] 0), #[]⟩
noncomputable def o372 (P : PP) : Obj := ⟨(.type PySem.W.SL.s5991306692159431302x13), none, (.fields #[(.ref 371), .none, .none, .none, (.bool false), .none]), #[]⟩
noncomputable def o373 (P : PP) : Obj := ⟨(.type PySem.W.SL.s2766695959194262286x5), none, (.seq #[(.int (3) 1150), (.str a149 1119)] 0), #[]⟩
noncomputable def o374 (P : PP) : Obj := ⟨(.type PySem.W.SL.s4096838299382398694x14), none, (.fields #[.none, (.int (2) 0)]), #[]⟩
noncomputable def o375 (P : PP) : Obj := ⟨(.type PySem.W.SL.s2766695959194262286x5), none, (.seq #[] 0), #[]⟩
noncomputable def o376 (P : PP) : Obj := ⟨(.type PySem.W.SL.s5991306692159431302x13), none, (.fields #[(.ref 375), .none, .none, .none, (.bool false), .none]), #[]⟩
noncomputable def o377 (P : PP) : Obj := ⟨(.type PySem.W.SL.s2766695959194262286x5), none, (.seq #[(.int (4) 1154), (.str a149 1120)] 0), #[]⟩
noncomputable def o378 (P : PP) : Obj := ⟨(.type PySem.W.SL.s4096838299382398694x14), none, (.fields #[.none, (.int (2) 0)]), #[]⟩
noncomputable def o379 (P : PP) : Obj := ⟨(.type PySem.W.SL.s2766695959194262286x5), none, (.seq #[] 0), #[]⟩
noncomputable def o380 (P : PP) : Obj := ⟨(.type PySem.W.SL.s5991306692159431302x13), none, (.fields #[(.ref 379), .none, .none, .none, (.bool false), .none]), #[]⟩
noncomputable def o381 (P : PP) : Obj := ⟨(.type PySem.W.SL.s2766695959194262286x5), none, (.seq #[(.int (5) 1158), (.str a173 1121)] 0), #[]⟩
noncomputable def o382 (P : PP) : Obj := ⟨(.type PySem.W.SL.s4096838299382398694x14), none, (.fields #[.none, (.int (2) 0)]), #[]⟩
noncomputable def o383 (P : PP) : Obj := ⟨(.type PySem.W.SL.s2766695959194262286x5), none, (.seq #[] 0), #[]⟩
noncomputable def o384 (P : PP) : Obj := ⟨(.type PySem.W.SL.s5991306692159431302x13), none, (.fields #[(.ref 383), .none, .none, .none, (.bool false), .none]), #[]⟩
noncomputable def o385 (P : PP) : Obj := ⟨(.type PySem.W.SL.s14018661285674007319x4), none, (.dict #[⟨kq P a117, (.str a117 1169), (.str a173 1121)⟩, ⟨kq P a127, (.str a127 1171), (.str a172 1109)⟩, ⟨kq P a128, (.str a128 1173), (.int (19) 406)⟩, ⟨kq P a129, (.str a129 1175), (.int (5) 1158)⟩, ⟨kq P a130, (.str a130 1177), (.int (0) 523)⟩] 5), #[]⟩
noncomputable def o386 (P : PP) : Obj := ⟨(.ref 124), (some 385), .plain, #[]⟩
noncomputable def o387 (P : PP) : Obj := ⟨(.type PySem.W.SL.s658472552662922059x5), none, (.dict #[⟨kq P a42, (.str a42 1162), (.ref 386)⟩, ⟨kq P a117, (.str a117 1163), (.str a173 1121)⟩, ⟨kq P a127, (.str a127 1164), (.str a172 1109)⟩, ⟨kq P a128, (.str a128 1165), (.int (19) 406)⟩, ⟨kq P a129, (.str a129 1166), (.int (5) 1158)⟩, ⟨kq P a130, (.str a130 1167), (.int (0) 523)⟩] 6), #[]⟩
noncomputable def o388 (P : PP) : Obj := ⟨(.type PySem.W.SL.s2766695959194262286x5), none, (.seq #[] 0), #[]⟩
noncomputable def o389 (P : PP) : Obj := ⟨(.type PySem.W.SL.s5991306692159431302x13), none, (.fields #[(.ref 388), .none, .none, .none, (.bool false), .none]), #[]⟩
noncomputable def t10 (P : PP) : BT := putAll (setAll (t9 P) []) 353 [o353 P, o354 P, o355 P, o356 P, o357 P, o358 P, o359 P, o360 P, o361 P, o362 P, o363 P, o364 P, o365 P, o366 P, o367 P, o368 P, o369 P, o370 P, o371 P, o372 P, o373 P, o374 P, o375 P, o376 P, o377 P, o378 P, o379 P, o380 P, o381 P, o382 P, o383 P, o384 P, o385 P, o386 P, o387 P, o388 P, o389 P]
noncomputable def s10 (P : PP) : ST := ⟨t10 P, 390, 1178⟩
noncomputable def o164v11 (P : PP) : Obj := ⟨(.type PySem.W.SL.s9222952809800978799x4), none, (.seq #[(.ref 153), (.ref 156), (.ref 159), (.ref 162), (.ref 175), (.ref 182), (.ref 197), (.ref 204), (.ref 211), (.ref 218), (.ref 232), (.ref 239), (.ref 246), (.ref 257), (.ref 264), (.ref 278), (.ref 285), (.ref 292), (.ref 306), (.ref 317), (.ref 324), (.ref 331), (.ref 342), (.ref 349), (.ref 367), (.ref 386)] 5), #[]⟩
noncomputable def t11 (P : PP) : BT := putAll (setAll (t10 P) [(164, o164v11 P)]) 390 []
noncomputable def s11 (P : PP) : ST := ⟨t11 P, 390, 1181⟩
noncomputable def o390 (P : PP) : Obj := ⟨(.type PySem.W.SL.s658472552662922059x5), none, (.dict #[⟨kq P a133, (.str a133 1181), (.str a175 1178)⟩, ⟨kq P a127, (.str a127 1182), (.str a172 1179)⟩, ⟨kq P a128, (.str a128 1183), (.int (19) 406)⟩, ⟨kq P a130, (.str a130 1184), (.int (32) 1180)⟩, ⟨kq P a134, (.str a134 1185), (.ref 391)⟩, ⟨kq P a129, (.str a129 1194), (.int (5) 1213)⟩, ⟨kq P a117, (.str a117 1195), (.str a176 1192)⟩] 7), #[]⟩
noncomputable def o391 (P : PP) : Obj := ⟨(.type PySem.W.SL.s9222952809800978799x4), none, (.seq #[(.ref 420)] 1), #[]⟩
noncomputable def o392 (P : PP) : Obj := ⟨(.type PySem.W.SL.s9222952809800978799x4), none, (.seq #[(.str a149 1187), (.str a149 1188), (.str a149 1189), (.str a149 1190), (.str a149 1191), (.str a176 1192)] 0), #[]⟩
noncomputable def o393 (P : PP) : Obj := ⟨(.type PySem.W.SL.s3492446563574874994x13), none, (.fields #[.none, (.int (6) 0)]), #[]⟩
noncomputable def o394 (P : PP) : Obj := ⟨(.type PySem.W.SL.s14340494229221121180x9), none, (.fields #[.none, (.bool false), (.ref 393), (.int (6) 0), .none, (.str a176 1192)]), #[]⟩
noncomputable def o395 (P : PP) : Obj := ⟨(.type PySem.W.SL.s2766695959194262286x5), none, (.seq #[(.int (0) 1193), (.str a149 1187)] 0), #[]⟩
noncomputable def o396 (P : PP) : Obj := ⟨(.type PySem.W.SL.s4096838299382398694x14), none, (.fields #[.none, (.int (2) 0)]), #[]⟩
noncomputable def o397 (P : PP) : Obj := ⟨(.type PySem.W.SL.s2766695959194262286x5), none, (.seq #[] 0), #[]⟩
noncomputable def o398 (P : PP) : Obj := ⟨(.type PySem.W.SL.s5991306692159431302x13), none, (.fields #[(.ref 397), .none, .none, .none, (.bool false), .none]), #[]⟩
noncomputable def o399 (P : PP) : Obj := ⟨(.type PySem.W.SL.s2766695959194262286x5), none, (.seq #[(.int (1) 1197), (.str a149 1188)] 0), #[]⟩
noncomputable def o400 (P : PP) : Obj := ⟨(.type PySem.W.SL.s4096838299382398694x14), none, (.fields #[.none, (.int (2) 0)]), #[]⟩
noncomputable def o401 (P : PP) : Obj := ⟨(.type PySem.W.SL.s2766695959194262286x5), none, (.seq #[] 0), #[]⟩
noncomputable def o402 (P : PP) : Obj := ⟨(.type PySem.W.SL.s5991306692159431302x13), none, (.fields #[(.ref 401), .none, .none, .none, (.bool false), .none]), #[]⟩
noncomputable def o403 (P : PP) : Obj := ⟨(.type PySem.W.SL.s2766695959194262286x5), none, (.seq #[(.int (2) 1201), (.str a149 1189)] 0), #[]⟩
noncomputable def o404 (P : PP) : Obj := ⟨(.type PySem.W.SL.s4096838299382398694x14), none, (.fields #[.none, (.int (2) 0)]), #[]⟩
noncomputable def o405 (P : PP) : Obj := ⟨(.type PySem.W.SL.s2766695959194262286x5), none, (.seq #[] 0), #[]⟩
noncomputable def o406 (P : PP) : Obj := ⟨(.type PySem.W.SL.s5991306692159431302x13), none, (.fields #[(.ref 405), .none, .none, .none, (.bool false), .none]), #[]⟩
noncomputable def o407 (P : PP) : Obj := ⟨(.type PySem.W.SL.s2766695959194262286x5), none, (.seq #[(.int (3) 1205), (.str a149 1190)] 0), #[]⟩
noncomputable def o408 (P : PP) : Obj := ⟨(.type PySem.W.SL.s4096838299382398694x14), none, (.fields #[.none, (.int (2) 0)]), #[]⟩
noncomputable def o409 (P : PP) : Obj := ⟨(.type PySem.W.SL.s2766695959194262286x5), none, (.seq #[] 0), #[]⟩
noncomputable def o410 (P : PP) : Obj := ⟨(.type PySem.W.SL.s5991306692159431302x13), none, (.fields #[(.ref 409), .none, .none, .none, (.bool false), .none]), #[]⟩
noncomputable def o411 (P : PP) : Obj := ⟨(.type PySem.W.SL.s2766695959194262286x5), none, (.seq #[(.int (4) 1209), (.str a149 1191)] 0), #[]⟩
noncomputable def o412 (P : PP) : Obj := ⟨(.type PySem.W.SL.s4096838299382398694x14), none, (.fields #[.none, (.int (2) 0)]), #[]⟩
noncomputable def o413 (P : PP) : Obj := ⟨(.type PySem.W.SL.s2766695959194262286x5), none, (.seq #[] 0), #[]⟩
noncomputable def o414 (P : PP) : Obj := ⟨(.type PySem.W.SL.s5991306692159431302x13), none, (.fields #[(.ref 413), .none, .none, .none, (.bool false), .none]), #[]⟩
noncomputable def o415 (P : PP) : Obj := ⟨(.type PySem.W.SL.s2766695959194262286x5), none, (.seq #[(.int (5) 1213), (.str a176 1192)] 0), #[]⟩
noncomputable def o416 (P : PP) : Obj := ⟨(.type PySem.W.SL.s4096838299382398694x14), none, (.fields #[.none, (.int (2) 0)]), #[]⟩
noncomputable def o417 (P : PP) : Obj := ⟨(.type PySem.W.SL.s2766695959194262286x5), none, (.seq #[] 0), #[]⟩
noncomputable def o418 (P : PP) : Obj := ⟨(.type PySem.W.SL.s5991306692159431302x13), none, (.fields #[(.ref 417), .none, .none, .none, (.bool false), .none]), #[]⟩
noncomputable def o419 (P : PP) : Obj := ⟨(.type PySem.W.SL.s14018661285674007319x4), none, (.dict #[⟨kq P a117, (.str a117 1224), (.str a176 1192)⟩, ⟨kq P a127, (.str a127 1226), (.str a172 1179)⟩, ⟨kq P a128, (.str a128 1228), (.int (19) 406)⟩, ⟨kq P a129, (.str a129 1230), (.int (5) 1213)⟩, ⟨kq P a130, (.str a130 1232), (.int (32) 1180)⟩] 5), #[]⟩
noncomputable def o420 (P : PP) : Obj := ⟨(.ref 124), (some 419), .plain, #[]⟩
noncomputable def o421 (P : PP) : Obj := ⟨(.type PySem.W.SL.s658472552662922059x5), none, (.dict #[⟨kq P a42, (.str a42 1217), (.ref 420)⟩, ⟨kq P a117, (.str a117 1218), (.str a176 1192)⟩, ⟨kq P a127, (.str a127 1219), (.str a172 1179)⟩, ⟨kq P a128, (.str a128 1220), (.int (19) 406)⟩, ⟨kq P a129, (.str a129 1221), (.int (5) 1213)⟩, ⟨kq P a130, (.str a130 1222), (.int (32) 1180)⟩] 6), #[]⟩
noncomputable def o422 (P : PP) : Obj := ⟨(.type PySem.W.SL.s2766695959194262286x5), none, (.seq #[] 0), #[]⟩
noncomputable def o423 (P : PP) : Obj := ⟨(.type PySem.W.SL.s5991306692159431302x13), none, (.fields #[(.ref 422), .none, .none, .none, (.bool false), .none]), #[]⟩
noncomputable def t12 (P : PP) : BT := putAll (setAll (t11 P) []) 390 [o390 P, o391 P, o392 P, o393 P, o394 P, o395 P, o396 P, o397 P, o398 P, o399 P, o400 P, o401 P, o402 P, o403 P, o404 P, o405 P, o406 P, o407 P, o408 P, o409 P, o410 P, o411 P, o412 P, o413 P, o414 P, o415 P, o416 P, o417 P, o418 P, o419 P, o420 P, o421 P, o422 P, o423 P]
noncomputable def s12 (P : PP) : ST := ⟨t12 P, 424, 1233⟩
noncomputable def o164v13 (P : PP) : Obj := ⟨(.type PySem.W.SL.s9222952809800978799x4), none, (.seq #[(.ref 153), (.ref 156), (.ref 159), (.ref 162), (.ref 175), (.ref 182), (.ref 197), (.ref 204), (.ref 211), (.ref 218), (.ref 232), (.ref 239), (.ref 246), (.ref 257), (.ref 264), (.ref 278), (.ref 285), (.ref 292), (.ref 306), (.ref 317), (.ref 324), (.ref 331), (.ref 342), (.ref 349), (.ref 367), (.ref 386), (.ref 420)] 6), #[]⟩
noncomputable def t13 (P : PP) : BT := putAll (setAll (t12 P) [(164, o164v13 P)]) 424 []
noncomputable def s13 (P : PP) : ST := ⟨t13 P, 424, 1235⟩
noncomputable def o424 (P : PP) : Obj := ⟨(.type PySem.W.SL.s658472552662922059x5), none, (.dict #[⟨kq P a133, (.str a133 1235), (.str a177 1233)⟩, ⟨kq P a127, (.str a127 1236), (.str a178 1234)⟩, ⟨kq P a128, (.str a128 1237), (.int (51) 412)⟩, ⟨kq P a130, (.str a130 1238), (.int (0) 523)⟩, ⟨kq P a134, (.str a134 1239), (.ref 425)⟩, ⟨kq P a129, (.str a129 1250), (.int (7) 1389)⟩, ⟨kq P a117, (.str a117 1251), (.str a179 1248)⟩] 7), #[]⟩
noncomputable def o425 (P : PP) : Obj := ⟨(.type PySem.W.SL.s9222952809800978799x4), none, (.seq #[(.ref 434), (.ref 441), (.ref 448), (.ref 455), (.ref 462), (.ref 469), (.ref 476), (.ref 483)] 8), #[]⟩
noncomputable def o426 (P : PP) : Obj := ⟨(.type PySem.W.SL.s9222952809800978799x4), none, (.seq #[(.str a180 1241), (.str a181 1242), (.str a182 1243), (.str a183 1244), (.str a184 1245), (.str a185 1246), (.str a186 1247), (.str a179 1248)] 0), #[]⟩
noncomputable def o427 (P : PP) : Obj := ⟨(.type PySem.W.SL.s3492446563574874994x13), none, (.fields #[.none, (.int (8) 0)]), #[]⟩
noncomputable def o428 (P : PP) : Obj := ⟨(.type PySem.W.SL.s14340494229221121180x9), none, (.fields #[.none, (.bool false), (.ref 427), (.int (8) 0), .none, (.str a179 1248)]), #[]⟩
noncomputable def o429 (P : PP) : Obj := ⟨(.type PySem.W.SL.s2766695959194262286x5), none, (.seq #[(.int (0) 1249), (.str a180 1241)] 0), #[]⟩
noncomputable def o430 (P : PP) : Obj := ⟨(.type PySem.W.SL.s4096838299382398694x14), none, (.fields #[.none, (.int (2) 0)]), #[]⟩
noncomputable def o431 (P : PP) : Obj := ⟨(.type PySem.W.SL.s2766695959194262286x5), none, (.seq #[] 0), #[]⟩
noncomputable def o432 (P : PP) : Obj := ⟨(.type PySem.W.SL.s5991306692159431302x13), none, (.fields #[(.ref 431), .none, .none, .none, (.bool false), .none]), #[]⟩
noncomputable def o433 (P : PP) : Obj := ⟨(.type PySem.W.SL.s14018661285674007319x4), none, (.dict #[⟨kq P a117, (.str a117 1260), (.str a180 1241)⟩, ⟨kq P a127, (.str a127 1262), (.str a178 1234)⟩, ⟨kq P a128, (.str a128 1264), (.int (51) 412)⟩, ⟨kq P a129, (.str a129 1266), (.int (0) 1249)⟩, ⟨kq P a130, (.str a130 1268), (.int (0) 523)⟩] 5), #[]⟩
noncomputable def o434 (P : PP) : Obj := ⟨(.ref 124), (some 433), .plain, #[]⟩
noncomputable def o435 (P : PP) : Obj := ⟨(.type PySem.W.SL.s658472552662922059x5), none, (.dict #[⟨kq P a42, (.str a42 1253), (.ref 434)⟩, ⟨kq P a117, (.str a117 1254), (.str a180 1241)⟩, ⟨kq P a127, (.str a127 1255), (.str a178 1234)⟩, ⟨kq P a128, (.str a128 1256), (.int (51) 412)⟩, ⟨kq P a129, (.str a129 1257), (.int (0) 1249)⟩, ⟨kq P a130, (.str a130 1258), (.int (0) 523)⟩] 6), #[]⟩
noncomputable def o436 (P : PP) : Obj := ⟨(.type PySem.W.SL.s2766695959194262286x5), none, (.seq #[(.int (1) 1269), (.str a181 1242)] 0), #[]⟩
noncomputable def o437 (P : PP) : Obj := ⟨(.type PySem.W.SL.s4096838299382398694x14), none, (.fields #[.none, (.int (2) 0)]), #[]⟩
noncomputable def o438 (P : PP) : Obj := ⟨(.type PySem.W.SL.s2766695959194262286x5), none, (.seq #[] 0), #[]⟩
noncomputable def o439 (P : PP) : Obj := ⟨(.type PySem.W.SL.s5991306692159431302x13), none, (.fields #[(.ref 438), .none, .none, .none, (.bool false), .none]), #[]⟩
noncomputable def o440 (P : PP) : Obj := ⟨(.type PySem.W.SL.s14018661285674007319x4), none, (.dict #[⟨kq P a117, (.str a117 1280), (.str a181 1242)⟩, ⟨kq P a127, (.str a127 1282), (.str a178 1234)⟩, ⟨kq P a128, (.str a128 1284), (.int (51) 412)⟩, ⟨kq P a129, (.str a129 1286), (.int (1) 1269)⟩, ⟨kq P a130, (.str a130 1288), (.int (0) 523)⟩] 5), #[]⟩
noncomputable def o441 (P : PP) : Obj := ⟨(.ref 124), (some 440), .plain, #[]⟩
noncomputable def o442 (P : PP) : Obj := ⟨(.type PySem.W.SL.s658472552662922059x5), none, (.dict #[⟨kq P a42, (.str a42 1273), (.ref 441)⟩, ⟨kq P a117, (.str a117 1274), (.str a181 1242)⟩, ⟨kq P a127, (.str a127 1275), (.str a178 1234)⟩, ⟨kq P a128, (.str a128 1276), (.int (51) 412)⟩, ⟨kq P a129, (.str a129 1277), (.int (1) 1269)⟩, ⟨kq P a130, (.str a130 1278), (.int (0) 523)⟩] 6), #[]⟩
noncomputable def o443 (P : PP) : Obj := ⟨(.type PySem.W.SL.s2766695959194262286x5), none, (.seq #[(.int (2) 1289), (.str a182 1243)] 0), #[]⟩
noncomputable def o444 (P : PP) : Obj := ⟨(.type PySem.W.SL.s4096838299382398694x14), none, (.fields #[.none, (.int (2) 0)]), #[]⟩
noncomputable def o445 (P : PP) : Obj := ⟨(.type PySem.W.SL.s2766695959194262286x5), none, (.seq #[] 0), #[]⟩
noncomputable def o446 (P : PP) : Obj := ⟨(.type PySem.W.SL.s5991306692159431302x13), none, (.fields #[(.ref 445), .none, .none, .none, (.bool false), .none]), #[]⟩
noncomputable def o447 (P : PP) : Obj := ⟨(.type PySem.W.SL.s14018661285674007319x4), none, (.dict #[⟨kq P a117, (.str a117 1300), (.str a182 1243)⟩, ⟨kq P a127, (.str a127 1302), (.str a178 1234)⟩, ⟨kq P a128, (.str a128 1304), (.int (51) 412)⟩, ⟨kq P a129, (.str a129 1306), (.int (2) 1289)⟩, ⟨kq P a130, (.str a130 1308), (.int (0) 523)⟩] 5), #[]⟩
noncomputable def o448 (P : PP) : Obj := ⟨(.ref 124), (some 447), .plain, #[]⟩
noncomputable def o449 (P : PP) : Obj := ⟨(.type PySem.W.SL.s658472552662922059x5), none, (.dict #[⟨kq P a42, (.str a42 1293), (.ref 448)⟩, ⟨kq P a117, (.str a117 1294), (.str a182 1243)⟩, ⟨kq P a127, (.str a127 1295), (.str a178 1234)⟩, ⟨kq P a128, (.str a128 1296), (.int (51) 412)⟩, ⟨kq P a129, (.str a129 1297), (.int (2) 1289)⟩, ⟨kq P a130, (.str a130 1298), (.int (0) 523)⟩] 6), #[]⟩
noncomputable def o450 (P : PP) : Obj := ⟨(.type PySem.W.SL.s2766695959194262286x5), none, (.seq #[(.int (3) 1309), (.str a183 1244)] 0), #[]⟩
noncomputable def o451 (P : PP) : Obj := ⟨(.type PySem.W.SL.s4096838299382398694x14), none, (.fields #[.none, (.int (2) 0)]), #[]⟩
noncomputable def o452 (P : PP) : Obj := ⟨(.type PySem.W.SL.s2766695959194262286x5), none, (.seq #[] 0), #[]⟩
noncomputable def o453 (P : PP) : Obj := ⟨(.type PySem.W.SL.s5991306692159431302x13), none, (.fields #[(.ref 452), .none, .none, .none, (.bool false), .none]), #[]⟩
noncomputable def o454 (P : PP) : Obj := ⟨(.type PySem.W.SL.s14018661285674007319x4), none, (.dict #[⟨kq P a117, (.str a117 1320), (.str a183 1244)⟩, ⟨kq P a127, (.str a127 1322), (.str a178 1234)⟩, ⟨kq P a128, (.str a128 1324), (.int (51) 412)⟩, ⟨kq P a129, (.str a129 1326), (.int (3) 1309)⟩, ⟨kq P a130, (.str a130 1328), (.int (0) 523)⟩] 5), #[]⟩
noncomputable def o455 (P : PP) : Obj := ⟨(.ref 124), (some 454), .plain, #[]⟩
noncomputable def o456 (P : PP) : Obj := ⟨(.type PySem.W.SL.s658472552662922059x5), none, (.dict #[⟨kq P a42, (.str a42 1313), (.ref 455)⟩, ⟨kq P a117, (.str a117 1314), (.str a183 1244)⟩, ⟨kq P a127, (.str a127 1315), (.str a178 1234)⟩, ⟨kq P a128, (.str a128 1316), (.int (51) 412)⟩, ⟨kq P a129, (.str a129 1317), (.int (3) 1309)⟩, ⟨kq P a130, (.str a130 1318), (.int (0) 523)⟩] 6), #[]⟩
noncomputable def o457 (P : PP) : Obj := ⟨(.type PySem.W.SL.s2766695959194262286x5), none, (.seq #[(.int (4) 1329), (.str a184 1245)] 0), #[]⟩
noncomputable def o458 (P : PP) : Obj := ⟨(.type PySem.W.SL.s4096838299382398694x14), none, (.fields #[.none, (.int (2) 0)]), #[]⟩
noncomputable def o459 (P : PP) : Obj := ⟨(.type PySem.W.SL.s2766695959194262286x5), none, (.seq #[] 0), #[]⟩
noncomputable def o460 (P : PP) : Obj := ⟨(.type PySem.W.SL.s5991306692159431302x13), none, (.fields #[(.ref 459), .none, .none, .none, (.bool false), .none]), #[]⟩
noncomputable def o461 (P : PP) : Obj := ⟨(.type PySem.W.SL.s14018661285674007319x4), none, (.dict #[⟨kq P a117, (.str a117 1340), (.str a184 1245)⟩, ⟨kq P a127, (.str a127 1342), (.str a178 1234)⟩, ⟨kq P a128, (.str a128 1344), (.int (51) 412)⟩, ⟨kq P a129, (.str a129 1346), (.int (4) 1329)⟩, ⟨kq P a130, (.str a130 1348), (.int (0) 523)⟩] 5), #[]⟩
noncomputable def o462 (P : PP) : Obj := ⟨(.ref 124), (some 461), .plain, #[]⟩
noncomputable def o463 (P : PP) : Obj := ⟨(.type PySem.W.SL.s658472552662922059x5), none, (.dict #[⟨kq P a42, (.str a42 1333), (.ref 462)⟩, ⟨kq P a117, (.str a117 1334), (.str a184 1245)⟩, ⟨kq P a127, (.str a127 1335), (.str a178 1234)⟩, ⟨kq P a128, (.str a128 1336), (.int (51) 412)⟩, ⟨kq P a129, (.str a129 1337), (.int (4) 1329)⟩, ⟨kq P a130, (.str a130 1338), (.int (0) 523)⟩] 6), #[]⟩
noncomputable def o464 (P : PP) : Obj := ⟨(.type PySem.W.SL.s2766695959194262286x5), none, (.seq #[(.int (5) 1349), (.str a185 1246)] 0), #[]⟩
noncomputable def o465 (P : PP) : Obj := ⟨(.type PySem.W.SL.s4096838299382398694x14), none, (.fields #[.none, (.int (2) 0)]), #[]⟩
noncomputable def o466 (P : PP) : Obj := ⟨(.type PySem.W.SL.s2766695959194262286x5), none, (.seq #[] 0), #[]⟩
noncomputable def o467 (P : PP) : Obj := ⟨(.type PySem.W.SL.s5991306692159431302x13), none, (.fields #[(.ref 466), .none, .none, .none, (.bool false), .none]), #[]⟩
noncomputable def o468 (P : PP) : Obj := ⟨(.type PySem.W.SL.s14018661285674007319x4), none, (.dict #[⟨kq P a117, (.str a117 1360), (.str a185 1246)⟩, ⟨kq P a127, (.str a127 1362), (.str a178 1234)⟩, ⟨kq P a128, (.str a128 1364), (.int (51) 412)⟩, ⟨kq P a129, (.str a129 1366), (.int (5) 1349)⟩, ⟨kq P a130, (.str a130 1368), (.int (0) 523)⟩] 5), #[]⟩
noncomputable def o469 (P : PP) : Obj := ⟨(.ref 124), (some 468), .plain, #[]⟩
noncomputable def o470 (P : PP) : Obj := ⟨(.type PySem.W.SL.s658472552662922059x5), none, (.dict #[⟨kq P a42, (.str a42 1353), (.ref 469)⟩, ⟨kq P a117, (.str a117 1354), (.str a185 1246)⟩, ⟨kq P a127, (.str a127 1355), (.str a178 1234)⟩, ⟨kq P a128, (.str a128 1356), (.int (51) 412)⟩, ⟨kq P a129, (.str a129 1357), (.int (5) 1349)⟩, ⟨kq P a130, (.str a130 1358), (.int (0) 523)⟩] 6), #[]⟩
noncomputable def o471 (P : PP) : Obj := ⟨(.type PySem.W.SL.s2766695959194262286x5), none, (.seq #[(.int (6) 1369), (.str a186 1247)] 0), #[]⟩
noncomputable def o472 (P : PP) : Obj := ⟨(.type PySem.W.SL.s4096838299382398694x14), none, (.fields #[.none, (.int (2) 0)]), #[]⟩
noncomputable def o473 (P : PP) : Obj := ⟨(.type PySem.W.SL.s2766695959194262286x5), none, (.seq #[] 0), #[]⟩
noncomputable def o474 (P : PP) : Obj := ⟨(.type PySem.W.SL.s5991306692159431302x13), none, (.fields #[(.ref 473), .none, .none, .none, (.bool false), .none]), #[]⟩
noncomputable def o475 (P : PP) : Obj := ⟨(.type PySem.W.SL.s14018661285674007319x4), none, (.dict #[⟨kq P a117, (.str a117 1380), (.str a186 1247)⟩, ⟨kq P a127, (.str a127 1382), (.str a178 1234)⟩, ⟨kq P a128, (.str a128 1384), (.int (51) 412)⟩, ⟨kq P a129, (.str a129 1386), (.int (6) 1369)⟩, ⟨kq P a130, (.str a130 1388), (.int (0) 523)⟩] 5), #[]⟩
noncomputable def o476 (P : PP) : Obj := ⟨(.ref 124), (some 475), .plain, #[]⟩
noncomputable def o477 (P : PP) : Obj := ⟨(.type PySem.W.SL.s658472552662922059x5), none, (.dict #[⟨kq P a42, (.str a42 1373), (.ref 476)⟩, ⟨kq P a117, (.str a117 1374), (.str a186 1247)⟩, ⟨kq P a127, (.str a127 1375), (.str a178 1234)⟩, ⟨kq P a128, (.str a128 1376), (.int (51) 412)⟩, ⟨kq P a129, (.str a129 1377), (.int (6) 1369)⟩, ⟨kq P a130, (.str a130 1378), (.int (0) 523)⟩] 6), #[]⟩
noncomputable def o478 (P : PP) : Obj := ⟨(.type PySem.W.SL.s2766695959194262286x5), none, (.seq #[(.int (7) 1389), (.str a179 1248)] 0), #[]⟩
noncomputable def o479 (P : PP) : Obj := ⟨(.type PySem.W.SL.s4096838299382398694x14), none, (.fields #[.none, (.int (2) 0)]), #[]⟩
noncomputable def o480 (P : PP) : Obj := ⟨(.type PySem.W.SL.s2766695959194262286x5), none, (.seq #[] 0), #[]⟩
noncomputable def o481 (P : PP) : Obj := ⟨(.type PySem.W.SL.s5991306692159431302x13), none, (.fields #[(.ref 480), .none, .none, .none, (.bool false), .none]), #[]⟩
noncomputable def o482 (P : PP) : Obj := ⟨(.type PySem.W.SL.s14018661285674007319x4), none, (.dict #[⟨kq P a117, (.str a117 1400), (.str a179 1248)⟩, ⟨kq P a127, (.str a127 1402), (.str a178 1234)⟩, ⟨kq P a128, (.str a128 1404), (.int (51) 412)⟩, ⟨kq P a129, (.str a129 1406), (.int (7) 1389)⟩, ⟨kq P a130, (.str a130 1408), (.int (0) 523)⟩] 5), #[]⟩
noncomputable def o483 (P : PP) : Obj := ⟨(.ref 124), (some 482), .plain, #[]⟩
noncomputable def o484 (P : PP) : Obj := ⟨(.type PySem.W.SL.s658472552662922059x5), none, (.dict #[⟨kq P a42, (.str a42 1393), (.ref 483)⟩, ⟨kq P a117, (.str a117 1394), (.str a179 1248)⟩, ⟨kq P a127, (.str a127 1395), (.str a178 1234)⟩, ⟨kq P a128, (.str a128 1396), (.int (51) 412)⟩, ⟨kq P a129, (.str a129 1397), (.int (7) 1389)⟩, ⟨kq P a130, (.str a130 1398), (.int (0) 523)⟩] 6), #[]⟩
noncomputable def o485 (P : PP) : Obj := ⟨(.type PySem.W.SL.s2766695959194262286x5), none, (.seq #[] 0), #[]⟩
noncomputable def o486 (P : PP) : Obj := ⟨(.type PySem.W.SL.s5991306692159431302x13), none, (.fields #[(.ref 485), .none, .none, .none, (.bool false), .none]), #[]⟩
noncomputable def t14 (P : PP) : BT := putAll (setAll (t13 P) []) 424 [o424 P, o425 P, o426 P, o427 P, o428 P, o429 P, o430 P, o431 P, o432 P, o433 P, o434 P, o435 P, o436 P, o437 P, o438 P, o439 P, o440 P, o441 P, o442 P, o443 P, o444 P, o445 P, o446 P, o447 P, o448 P, o449 P, o450 P, o451 P, o452 P, o453 P, o454 P, o455 P, o456 P, o457 P, o458 P, o459 P, o460 P, o461 P, o462 P, o463 P, o464 P, o465 P, o466 P, o467 P, o468 P, o469 P, o470 P, o471 P, o472 P, o473 P, o474 P, o475 P, o476 P, o477 P, o478 P, o479 P, o480 P, o481 P, o482 P, o483 P, o484 P, o485 P, o486 P]
noncomputable def s14 (P : PP) : ST := ⟨t14 P, 487, 1409⟩
noncomputable def o164v15 (P : PP) : Obj := ⟨(.type PySem.W.SL.s9222952809800978799x4), none, (.seq #[(.ref 153), (.ref 156), (.ref 159), (.ref 162), (.ref 175), (.ref 182), (.ref 197), (.ref 204), (.ref 211), (.ref 218), (.ref 232), (.ref 239), (.ref 246), (.ref 257), (.ref 264), (.ref 278), (.ref 285), (.ref 292), (.ref 306), (.ref 317), (.ref 324), (.ref 331), (.ref 342), (.ref 349), (.ref 367), (.ref 386), (.ref 420), (.ref 434), (.ref 441), (.ref 448), (.ref 455), (.ref 462), (.ref 469), (.ref 476), (.ref 483)] 7), #[]⟩
noncomputable def t15 (P : PP) : BT := putAll (setAll (t14 P) [(164, o164v15 P)]) 487 []
noncomputable def s15 (P : PP) : ST := ⟨t15 P, 487, 1412⟩
noncomputable def o487 (P : PP) : Obj := ⟨(.type PySem.W.SL.s658472552662922059x5), none, (.dict #[⟨kq P a133, (.str a133 1412), (.str a187 1409)⟩, ⟨kq P a127, (.str a127 1413), (.str a178 1410)⟩, ⟨kq P a128, (.str a128 1414), (.int (51) 412)⟩, ⟨kq P a130, (.str a130 1415), (.int (32) 1411)⟩, ⟨kq P a134, (.str a134 1416), (.ref 488)⟩, ⟨kq P a129, (.str a129 1425), (.int (5) 1460)⟩, ⟨kq P a117, (.str a117 1426), (.str a188 1423)⟩] 7), #[]⟩
noncomputable def o488 (P : PP) : Obj := ⟨(.type PySem.W.SL.s9222952809800978799x4), none, (.seq #[(.ref 497), (.ref 520)] 2), #[]⟩
noncomputable def o489 (P : PP) : Obj := ⟨(.type PySem.W.SL.s9222952809800978799x4), none, (.seq #[(.str a189 1418), (.str a149 1419), (.str a149 1420), (.str a149 1421), (.str a149 1422), (.str a188 1423)] 0), #[]⟩
noncomputable def o490 (P : PP) : Obj := ⟨(.type PySem.W.SL.s3492446563574874994x13), none, (.fields #[.none, (.int (6) 0)]), #[]⟩
noncomputable def o491 (P : PP) : Obj := ⟨(.type PySem.W.SL.s14340494229221121180x9), none, (.fields #[.none, (.bool false), (.ref 490), (.int (6) 0), .none, (.str a188 1423)]), #[]⟩
noncomputable def o492 (P : PP) : Obj := ⟨(.type PySem.W.SL.s2766695959194262286x5), none, (.seq #[(.int (0) 1424), (.str a189 1418)] 0), #[]⟩
noncomputable def o493 (P : PP) : Obj := ⟨(.type PySem.W.SL.s4096838299382398694x14), none, (.fields #[.none, (.int (2) 0)]), #[]⟩
noncomputable def o494 (P : PP) : Obj := ⟨(.type PySem.W.SL.s2766695959194262286x5), none, (.seq #[] 0), #[]⟩
noncomputable def o495 (P : PP) : Obj := ⟨(.type PySem.W.SL.s5991306692159431302x13), none, (.fields #[(.ref 494), .none, .none, .none, (.bool false), .none]), #[]⟩
noncomputable def o496 (P : PP) : Obj := ⟨(.type PySem.W.SL.s14018661285674007319x4), none, (.dict #[⟨kq P a117, (.str a117 1435), (.str a189 1418)⟩, ⟨kq P a127, (.str a127 1437), (.str a178 1410)⟩, ⟨kq P a128, (.str a128 1439), (.int (51) 412)⟩, ⟨kq P a129, (.str a129 1441), (.int (0) 1424)⟩, ⟨kq P a130, (.str a130 1443), (.int (32) 1411)⟩] 5), #[]⟩
noncomputable def o497 (P : PP) : Obj := ⟨(.ref 124), (some 496), .plain, #[]⟩
noncomputable def o498 (P : PP) : Obj := ⟨(.type PySem.W.SL.s658472552662922059x5), none, (.dict #[⟨kq P a42, (.str a42 1428), (.ref 497)⟩, ⟨kq P a117, (.str a117 1429), (.str a189 1418)⟩, ⟨kq P a127, (.str a127 1430), (.str a178 1410)⟩, ⟨kq P a128, (.str a128 1431), (.int (51) 412)⟩, ⟨kq P a129, (.str a129 1432), (.int (0) 1424)⟩, ⟨kq P a130, (.str a130 1433), (.int (32) 1411)⟩] 6), #[]⟩
noncomputable def o499 (P : PP) : Obj := ⟨(.type PySem.W.SL.s2766695959194262286x5), none, (.seq #[(.int (1) 1444), (.str a149 1419)] 0), #[]⟩
noncomputable def o500 (P : PP) : Obj := ⟨(.type PySem.W.SL.s4096838299382398694x14), none, (.fields #[.none, (.int (2) 0)]), #[]⟩
noncomputable def o501 (P : PP) : Obj := ⟨(.type PySem.W.SL.s2766695959194262286x5), none, (.seq #[] 0), #[]⟩
noncomputable def o502 (P : PP) : Obj := ⟨(.type PySem.W.SL.s5991306692159431302x13), none, (.fields #[(.ref 501), .none, .none, .none, (.bool false), .none]), #[]⟩
noncomputable def o503 (P : PP) : Obj := ⟨(.type PySem.W.SL.s2766695959194262286x5), none, (.seq #[(.int (2) 1448), (.str a149 1420)] 0), #[]⟩
noncomputable def o504 (P : PP) : Obj := ⟨(.type PySem.W.SL.s4096838299382398694x14), none, (.fields #[.none, (.int (2) 0)]), #[]⟩
noncomputable def o505 (P : PP) : Obj := ⟨(.type PySem.W.SL.s2766695959194262286x5), none, (.seq #[] 0), #[]⟩
noncomputable def o506 (P : PP) : Obj := ⟨(.type PySem.W.SL.s5991306692159431302x13), none, (.fields #[(.ref 505), .none, .none, .none, (.bool false), .none]), #[]⟩
noncomputable def o507 (P : PP) : Obj := ⟨(.type PySem.W.SL.s2766695959194262286x5), none, (.seq #[(.int (3) 1452), (.str a149 1421)] 0), #[]⟩
noncomputable def o508 (P : PP) : Obj := ⟨(.type PySem.W.SL.s4096838299382398694x14), none, (.fields #[.none, (.int (2) 0)]), #[]⟩
noncomputable def o509 (P : PP) : Obj := ⟨(.type PySem.W.SL.s2766695959194262286x5), none, (.seq #[] 0), #[]⟩
noncomputable def o510 (P : PP) : Obj := ⟨(.type PySem.W.SL.s5991306692159431302x13), none, (.fields #[(.ref 509), .none, .none, .none, (.bool false), .none]), #[]⟩
noncomputable def o511 (P : PP) : Obj := ⟨(.type PySem.W.SL.s2766695959194262286x5), none, (.seq #[(.int (4) 1456), (.str a149 1422)] 0), #[]⟩
noncomputable def o512 (P : PP) : Obj := ⟨(.type PySem.W.SL.s4096838299382398694x14), none, (.fields #[.none, (.int (2) 0)]), #[]⟩
noncomputable def o513 (P : PP) : Obj := ⟨(.type PySem.W.SL.s2766695959194262286x5), none, (.seq #[] 0), #[]⟩
noncomputable def o514 (P : PP) : Obj := ⟨(.type PySem.W.SL.s5991306692159431302x13), none, (.fields #[(.ref 513), .none, .none, .none, (.bool false), .none]), #[]⟩
noncomputable def o515 (P : PP) : Obj := ⟨(.type PySem.W.SL.s2766695959194262286x5), none, (.seq #[(.int (5) 1460), (.str a188 1423)] 0), #[]⟩
noncomputable def o516 (P : PP) : Obj := ⟨(.type PySem.W.SL.s4096838299382398694x14), none, (.fields #[.none, (.int (2) 0)]), #[]⟩
noncomputable def o517 (P : PP) : Obj := ⟨(.type PySem.W.SL.s2766695959194262286x5), none, (.seq #[] 0), #[]⟩
noncomputable def o518 (P : PP) : Obj := ⟨(.type PySem.W.SL.s5991306692159431302x13), none, (.fields #[(.ref 517), .none, .none, .none, (.bool false), .none]), #[]⟩
noncomputable def o519 (P : PP) : Obj := ⟨(.type PySem.W.SL.s14018661285674007319x4), none, (.dict #[⟨kq P a117, (.str a117 1471), (.str a188 1423)⟩, ⟨kq P a127, (.str a127 1473), (.str a178 1410)⟩, ⟨kq P a128, (.str a128 1475), (.int (51) 412)⟩, ⟨kq P a129, (.str a129 1477), (.int (5) 1460)⟩, ⟨kq P a130, (.str a130 1479), (.int (32) 1411)⟩] 5), #[]⟩
noncomputable def o520 (P : PP) : Obj := ⟨(.ref 124), (some 519), .plain, #[]⟩
noncomputable def o521 (P : PP) : Obj := ⟨(.type PySem.W.SL.s658472552662922059x5), none, (.dict #[⟨kq P a42, (.str a42 1464), (.ref 520)⟩, ⟨kq P a117, (.str a117 1465), (.str a188 1423)⟩, ⟨kq P a127, (.str a127 1466), (.str a178 1410)⟩, ⟨kq P a128, (.str a128 1467), (.int (51) 412)⟩, ⟨kq P a129, (.str a129 1468), (.int (5) 1460)⟩, ⟨kq P a130, (.str a130 1469), (.int (32) 1411)⟩] 6), #[]⟩
noncomputable def o522 (P : PP) : Obj := ⟨(.type PySem.W.SL.s2766695959194262286x5), none, (.seq #[] 0), #[]⟩
noncomputable def o523 (P : PP) : Obj := ⟨(.type PySem.W.SL.s5991306692159431302x13), none, (.fields #[(.ref 522), .none, .none, .none, (.bool false), .none]), #[]⟩
noncomputable def t16 (P : PP) : BT := putAll (setAll (t15 P) []) 487 [o487 P, o488 P, o489 P, o490 P, o491 P, o492 P, o493 P, o494 P, o495 P, o496 P, o497 P, o498 P, o499 P, o500 P, o501 P, o502 P, o503 P, o504 P, o505 P, o506 P, o507 P, o508 P, o509 P, o510 P, o511 P, o512 P, o513 P, o514 P, o515 P, o516 P, o517 P, o518 P, o519 P, o520 P, o521 P, o522 P, o523 P]
noncomputable def s16 (P : PP) : ST := ⟨t16 P, 524, 1480⟩
noncomputable def o164v17 (P : PP) : Obj := ⟨(.type PySem.W.SL.s9222952809800978799x4), none, (.seq #[(.ref 153), (.ref 156), (.ref 159), (.ref 162), (.ref 175), (.ref 182), (.ref 197), (.ref 204), (.ref 211), (.ref 218), (.ref 232), (.ref 239), (.ref 246), (.ref 257), (.ref 264), (.ref 278), (.ref 285), (.ref 292), (.ref 306), (.ref 317), (.ref 324), (.ref 331), (.ref 342), (.ref 349), (.ref 367), (.ref 386), (.ref 420), (.ref 434), (.ref 441), (.ref 448), (.ref 455), (.ref 462), (.ref 469), (.ref 476), (.ref 483), (.ref 497), (.ref 520)] 8), #[]⟩
noncomputable def t17 (P : PP) : BT := putAll (setAll (t16 P) [(164, o164v17 P)]) 524 []
noncomputable def s17 (P : PP) : ST := ⟨t17 P, 524, 1483⟩
noncomputable def o524 (P : PP) : Obj := ⟨(.type PySem.W.SL.s658472552662922059x5), none, (.dict #[⟨kq P a133, (.str a133 1483), (.str a190 1480)⟩, ⟨kq P a127, (.str a127 1484), (.str a178 1481)⟩, ⟨kq P a128, (.str a128 1485), (.int (51) 412)⟩, ⟨kq P a130, (.str a130 1486), (.int (1) 1482)⟩, ⟨kq P a134, (.str a134 1487), (.ref 525)⟩, ⟨kq P a129, (.str a129 1498), (.int (7) 1637)⟩, ⟨kq P a117, (.str a117 1499), (.str a191 1496)⟩] 7), #[]⟩
noncomputable def o525 (P : PP) : Obj := ⟨(.type PySem.W.SL.s9222952809800978799x4), none, (.seq #[(.ref 534), (.ref 541), (.ref 548), (.ref 555), (.ref 562), (.ref 569), (.ref 576), (.ref 583)] 8), #[]⟩
noncomputable def o526 (P : PP) : Obj := ⟨(.type PySem.W.SL.s9222952809800978799x4), none, (.seq #[(.str a192 1489), (.str a193 1490), (.str a194 1491), (.str a195 1492), (.str a196 1493), (.str a197 1494), (.str a198 1495), (.str a191 1496)] 0), #[]⟩
noncomputable def o527 (P : PP) : Obj := ⟨(.type PySem.W.SL.s3492446563574874994x13), none, (.fields #[.none, (.int (8) 0)]), #[]⟩
noncomputable def o528 (P : PP) : Obj := ⟨(.type PySem.W.SL.s14340494229221121180x9), none, (.fields #[.none, (.bool false), (.ref 527), (.int (8) 0), .none, (.str a191 1496)]), #[]⟩
noncomputable def o529 (P : PP) : Obj := ⟨(.type PySem.W.SL.s2766695959194262286x5), none, (.seq #[(.int (0) 1497), (.str a192 1489)] 0), #[]⟩
noncomputable def o530 (P : PP) : Obj := ⟨(.type PySem.W.SL.s4096838299382398694x14), none, (.fields #[.none, (.int (2) 0)]), #[]⟩
noncomputable def o531 (P : PP) : Obj := ⟨(.type PySem.W.SL.s2766695959194262286x5), none, (.seq #[] 0), #[]⟩
noncomputable def o532 (P : PP) : Obj := ⟨(.type PySem.W.SL.s5991306692159431302x13), none, (.fields #[(.ref 531), .none, .none, .none, (.bool false), .none]), #[]⟩
noncomputable def o533 (P : PP) : Obj := ⟨(.type PySem.W.SL.s14018661285674007319x4), none, (.dict #[⟨kq P a117, (.str a117 1508), (.str a192 1489)⟩, ⟨kq P a127, (.str a127 1510), (.str a178 1481)⟩, ⟨kq P a128, (.str a128 1512), (.int (51) 412)⟩, ⟨kq P a129, (.str a129 1514), (.int (0) 1497)⟩, ⟨kq P a130, (.str a130 1516), (.int (1) 1482)⟩] 5), #[]⟩
noncomputable def o534 (P : PP) : Obj := ⟨(.ref 124), (some 533), .plain, #[]⟩
noncomputable def o535 (P : PP) : Obj := ⟨(.type PySem.W.SL.s658472552662922059x5), none, (.dict #[⟨kq P a42, (.str a42 1501), (.ref 534)⟩, ⟨kq P a117, (.str a117 1502), (.str a192 1489)⟩, ⟨kq P a127, (.str a127 1503), (.str a178 1481)⟩, ⟨kq P a128, (.str a128 1504), (.int (51) 412)⟩, ⟨kq P a129, (.str a129 1505), (.int (0) 1497)⟩, ⟨kq P a130, (.str a130 1506), (.int (1) 1482)⟩] 6), #[]⟩
noncomputable def o536 (P : PP) : Obj := ⟨(.type PySem.W.SL.s2766695959194262286x5), none, (.seq #[(.int (1) 1517), (.str a193 1490)] 0), #[]⟩
noncomputable def o537 (P : PP) : Obj := ⟨(.type PySem.W.SL.s4096838299382398694x14), none, (.fields #[.none, (.int (2) 0)]), #[]⟩
noncomputable def o538 (P : PP) : Obj := ⟨(.type PySem.W.SL.s2766695959194262286x5), none, (.seq #[] 0), #[]⟩
noncomputable def o539 (P : PP) : Obj := ⟨(.type PySem.W.SL.s5991306692159431302x13), none, (.fields #[(.ref 538), .none, .none, .none, (.bool false), .none]), #[]⟩
noncomputable def o540 (P : PP) : Obj := ⟨(.type PySem.W.SL.s14018661285674007319x4), none, (.dict #[⟨kq P a117, (.str a117 1528), (.str a193 1490)⟩, ⟨kq P a127, (.str a127 1530), (.str a178 1481)⟩, ⟨kq P a128, (.str a128 1532), (.int (51) 412)⟩, ⟨kq P a129, (.str a129 1534), (.int (1) 1517)⟩, ⟨kq P a130, (.str a130 1536), (.int (1) 1482)⟩] 5), #[]⟩
noncomputable def o541 (P : PP) : Obj := ⟨(.ref 124), (some 540), .plain, #[]⟩
noncomputable def o542 (P : PP) : Obj := ⟨(.type PySem.W.SL.s658472552662922059x5), none, (.dict #[⟨kq P a42, (.str a42 1521), (.ref 541)⟩, ⟨kq P a117, (.str a117 1522), (.str a193 1490)⟩, ⟨kq P a127, (.str a127 1523), (.str a178 1481)⟩, ⟨kq P a128, (.str a128 1524), (.int (51) 412)⟩, ⟨kq P a129, (.str a129 1525), (.int (1) 1517)⟩, ⟨kq P a130, (.str a130 1526), (.int (1) 1482)⟩] 6), #[]⟩
noncomputable def o543 (P : PP) : Obj := ⟨(.type PySem.W.SL.s2766695959194262286x5), none, (.seq #[(.int (2) 1537), (.str a194 1491)] 0), #[]⟩
noncomputable def o544 (P : PP) : Obj := ⟨(.type PySem.W.SL.s4096838299382398694x14), none, (.fields #[.none, (.int (2) 0)]), #[]⟩
noncomputable def o545 (P : PP) : Obj := ⟨(.type PySem.W.SL.s2766695959194262286x5), none, (.seq #[] 0), #[]⟩
noncomputable def o546 (P : PP) : Obj := ⟨(.type PySem.W.SL.s5991306692159431302x13), none, (.fields #[(.ref 545), .none, .none, .none, (.bool false), .none]), #[]⟩
noncomputable def o547 (P : PP) : Obj := ⟨(.type PySem.W.SL.s14018661285674007319x4), none, (.dict #[⟨kq P a117, (.str a117 1548), (.str a194 1491)⟩, ⟨kq P a127, (.str a127 1550), (.str a178 1481)⟩, ⟨kq P a128, (.str a128 1552), (.int (51) 412)⟩, ⟨kq P a129, (.str a129 1554), (.int (2) 1537)⟩, ⟨kq P a130, (.str a130 1556), (.int (1) 1482)⟩] 5), #[]⟩
noncomputable def o548 (P : PP) : Obj := ⟨(.ref 124), (some 547), .plain, #[]⟩
noncomputable def o549 (P : PP) : Obj := ⟨(.type PySem.W.SL.s658472552662922059x5), none, (.dict #[⟨kq P a42, (.str a42 1541), (.ref 548)⟩, ⟨kq P a117, (.str a117 1542), (.str a194 1491)⟩, ⟨kq P a127, (.str a127 1543), (.str a178 1481)⟩, ⟨kq P a128, (.str a128 1544), (.int (51) 412)⟩, ⟨kq P a129, (.str a129 1545), (.int (2) 1537)⟩, ⟨kq P a130, (.str a130 1546), (.int (1) 1482)⟩] 6), #[]⟩
noncomputable def o550 (P : PP) : Obj := ⟨(.type PySem.W.SL.s2766695959194262286x5), none, (.seq #[(.int (3) 1557), (.str a195 1492)] 0), #[]⟩
noncomputable def o551 (P : PP) : Obj := ⟨(.type PySem.W.SL.s4096838299382398694x14), none, (.fields #[.none, (.int (2) 0)]), #[]⟩
noncomputable def o552 (P : PP) : Obj := ⟨(.type PySem.W.SL.s2766695959194262286x5), none, (.seq #[] 0), #[]⟩
noncomputable def o553 (P : PP) : Obj := ⟨(.type PySem.W.SL.s5991306692159431302x13), none, (.fields #[(.ref 552), .none, .none, .none, (.bool false), .none]), #[]⟩
noncomputable def o554 (P : PP) : Obj := ⟨(.type PySem.W.SL.s14018661285674007319x4), none, (.dict #[⟨kq P a117, (.str a117 1568), (.str a195 1492)⟩, ⟨kq P a127, (.str a127 1570), (.str a178 1481)⟩, ⟨kq P a128, (.str a128 1572), (.int (51) 412)⟩, ⟨kq P a129, (.str a129 1574), (.int (3) 1557)⟩, ⟨kq P a130, (.str a130 1576), (.int (1) 1482)⟩] 5), #[]⟩
noncomputable def o555 (P : PP) : Obj := ⟨(.ref 124), (some 554), .plain, #[]⟩
noncomputable def o556 (P : PP) : Obj := ⟨(.type PySem.W.SL.s658472552662922059x5), none, (.dict #[⟨kq P a42, (.str a42 1561), (.ref 555)⟩, ⟨kq P a117, (.str a117 1562), (.str a195 1492)⟩, ⟨kq P a127, (.str a127 1563), (.str a178 1481)⟩, ⟨kq P a128, (.str a128 1564), (.int (51) 412)⟩, ⟨kq P a129, (.str a129 1565), (.int (3) 1557)⟩, ⟨kq P a130, (.str a130 1566), (.int (1) 1482)⟩] 6), #[]⟩
noncomputable def o557 (P : PP) : Obj := ⟨(.type PySem.W.SL.s2766695959194262286x5), none, (.seq #[(.int (4) 1577), (.str a196 1493)] 0), #[]⟩
noncomputable def o558 (P : PP) : Obj := ⟨(.type PySem.W.SL.s4096838299382398694x14), none, (.fields #[.none, (.int (2) 0)]), #[]⟩
noncomputable def o559 (P : PP) : Obj := ⟨(.type PySem.W.SL.s2766695959194262286x5), none, (.seq #[] 0), #[]⟩
noncomputable def o560 (P : PP) : Obj := ⟨(.type PySem.W.SL.s5991306692159431302x13), none, (.fields #[(.ref 559), .none, .none, .none, (.bool false), .none]), #[]⟩
noncomputable def o561 (P : PP) : Obj := ⟨(.type PySem.W.SL.s14018661285674007319x4), none, (.dict #[⟨kq P a117, (.str a117 1588), (.str a196 1493)⟩, ⟨kq P a127, (.str a127 1590), (.str a178 1481)⟩, ⟨kq P a128, (.str a128 1592), (.int (51) 412)⟩, ⟨kq P a129, (.str a129 1594), (.int (4) 1577)⟩, ⟨kq P a130, (.str a130 1596), (.int (1) 1482)⟩] 5), #[]⟩
noncomputable def o562 (P : PP) : Obj := ⟨(.ref 124), (some 561), .plain, #[]⟩
noncomputable def o563 (P : PP) : Obj := ⟨(.type PySem.W.SL.s658472552662922059x5), none, (.dict #[⟨kq P a42, (.str a42 1581), (.ref 562)⟩, ⟨kq P a117, (.str a117 1582), (.str a196 1493)⟩, ⟨kq P a127, (.str a127 1583), (.str a178 1481)⟩, ⟨kq P a128, (.str a128 1584), (.int (51) 412)⟩, ⟨kq P a129, (.str a129 1585), (.int (4) 1577)⟩, ⟨kq P a130, (.str a130 1586), (.int (1) 1482)⟩] 6), #[]⟩
noncomputable def o564 (P : PP) : Obj := ⟨(.type PySem.W.SL.s2766695959194262286x5), none, (.seq #[(.int (5) 1597), (.str a197 1494)] 0), #[]⟩
noncomputable def o565 (P : PP) : Obj := ⟨(.type PySem.W.SL.s4096838299382398694x14), none, (.fields #[.none, (.int (2) 0)]), #[]⟩
noncomputable def o566 (P : PP) : Obj := ⟨(.type PySem.W.SL.s2766695959194262286x5), none, (.seq #[] 0), #[]⟩
noncomputable def o567 (P : PP) : Obj := ⟨(.type PySem.W.SL.s5991306692159431302x13), none, (.fields #[(.ref 566), .none, .none, .none, (.bool false), .none]), #[]⟩
noncomputable def o568 (P : PP) : Obj := ⟨(.type PySem.W.SL.s14018661285674007319x4), none, (.dict #[⟨kq P a117, (.str a117 1608), (.str a197 1494)⟩, ⟨kq P a127, (.str a127 1610), (.str a178 1481)⟩, ⟨kq P a128, (.str a128 1612), (.int (51) 412)⟩, ⟨kq P a129, (.str a129 1614), (.int (5) 1597)⟩, ⟨kq P a130, (.str a130 1616), (.int (1) 1482)⟩] 5), #[]⟩
noncomputable def o569 (P : PP) : Obj := ⟨(.ref 124), (some 568), .plain, #[]⟩
noncomputable def o570 (P : PP) : Obj := ⟨(.type PySem.W.SL.s658472552662922059x5), none, (.dict #[⟨kq P a42, (.str a42 1601), (.ref 569)⟩, ⟨kq P a117, (.str a117 1602), (.str a197 1494)⟩, ⟨kq P a127, (.str a127 1603), (.str a178 1481)⟩, ⟨kq P a128, (.str a128 1604), (.int (51) 412)⟩, ⟨kq P a129, (.str a129 1605), (.int (5) 1597)⟩, ⟨kq P a130, (.str a130 1606), (.int (1) 1482)⟩] 6), #[]⟩
noncomputable def o571 (P : PP) : Obj := ⟨(.type PySem.W.SL.s2766695959194262286x5), none, (.seq #[(.int (6) 1617), (.str a198 1495)] 0), #[]⟩
noncomputable def o572 (P : PP) : Obj := ⟨(.type PySem.W.SL.s4096838299382398694x14), none, (.fields #[.none, (.int (2) 0)]), #[]⟩
noncomputable def o573 (P : PP) : Obj := ⟨(.type PySem.W.SL.s2766695959194262286x5), none, (.seq #[] 0), #[]⟩
noncomputable def o574 (P : PP) : Obj := ⟨(.type PySem.W.SL.s5991306692159431302x13), none, (.fields #[(.ref 573), .none, .none, .none, (.bool false), .none]), #[]⟩
noncomputable def o575 (P : PP) : Obj := ⟨(.type PySem.W.SL.s14018661285674007319x4), none, (.dict #[⟨kq P a117, (.str a117 1628), (.str a198 1495)⟩, ⟨kq P a127, (.str a127 1630), (.str a178 1481)⟩, ⟨kq P a128, (.str a128 1632), (.int (51) 412)⟩, ⟨kq P a129, (.str a129 1634), (.int (6) 1617)⟩, ⟨kq P a130, (.str a130 1636), (.int (1) 1482)⟩] 5), #[]⟩
noncomputable def o576 (P : PP) : Obj := ⟨(.ref 124), (some 575), .plain, #[]⟩
noncomputable def o577 (P : PP) : Obj := ⟨(.type PySem.W.SL.s658472552662922059x5), none, (.dict #[⟨kq P a42, (.str a42 1621), (.ref 576)⟩, ⟨kq P a117, (.str a117 1622), (.str a198 1495)⟩, ⟨kq P a127, (.str a127 1623), (.str a178 1481)⟩, ⟨kq P a128, (.str a128 1624), (.int (51) 412)⟩, ⟨kq P a129, (.str a129 1625), (.int (6) 1617)⟩, ⟨kq P a130, (.str a130 1626), (.int (1) 1482)⟩] 6), #[]⟩
noncomputable def o578 (P : PP) : Obj := ⟨(.type PySem.W.SL.s2766695959194262286x5), none, (.seq #[(.int (7) 1637), (.str a191 1496)] 0), #[]⟩
noncomputable def o579 (P : PP) : Obj := ⟨(.type PySem.W.SL.s4096838299382398694x14), none, (.fields #[.none, (.int (2) 0)]), #[]⟩
noncomputable def o580 (P : PP) : Obj := ⟨(.type PySem.W.SL.s2766695959194262286x5), none, (.seq #[] 0), #[]⟩
noncomputable def o581 (P : PP) : Obj := ⟨(.type PySem.W.SL.s5991306692159431302x13), none, (.fields #[(.ref 580), .none, .none, .none, (.bool false), .none]), #[]⟩
noncomputable def o582 (P : PP) : Obj := ⟨(.type PySem.W.SL.s14018661285674007319x4), none, (.dict #[⟨kq P a117, (.str a117 1648), (.str a191 1496)⟩, ⟨kq P a127, (.str a127 1650), (.str a178 1481)⟩, ⟨kq P a128, (.str a128 1652), (.int (51) 412)⟩, ⟨kq P a129, (.str a129 1654), (.int (7) 1637)⟩, ⟨kq P a130, (.str a130 1656), (.int (1) 1482)⟩] 5), #[]⟩
noncomputable def o583 (P : PP) : Obj := ⟨(.ref 124), (some 582), .plain, #[]⟩
noncomputable def o584 (P : PP) : Obj := ⟨(.type PySem.W.SL.s658472552662922059x5), none, (.dict #[⟨kq P a42, (.str a42 1641), (.ref 583)⟩, ⟨kq P a117, (.str a117 1642), (.str a191 1496)⟩, ⟨kq P a127, (.str a127 1643), (.str a178 1481)⟩, ⟨kq P a128, (.str a128 1644), (.int (51) 412)⟩, ⟨kq P a129, (.str a129 1645), (.int (7) 1637)⟩, ⟨kq P a130, (.str a130 1646), (.int (1) 1482)⟩] 6), #[]⟩
noncomputable def o585 (P : PP) : Obj := ⟨(.type PySem.W.SL.s2766695959194262286x5), none, (.seq #[] 0), #[]⟩
noncomputable def o586 (P : PP) : Obj := ⟨(.type PySem.W.SL.s5991306692159431302x13), none, (.fields #[(.ref 585), .none, .none, .none, (.bool false), .none]), #[]⟩
noncomputable def t18 (P : PP) : BT := putAll (setAll (t17 P) []) 524 [o524 P, o525 P, o526 P, o527 P, o528 P, o529 P, o530 P, o531 P, o532 P, o533 P, o534 P, o535 P, o536 P, o537 P, o538 P, o539 P, o540 P, o541 P, o542 P, o543 P, o544 P, o545 P, o546 P, o547 P, o548 P, o549 P, o550 P, o551 P, o552 P, o553 P, o554 P, o555 P, o556 P, o557 P, o558 P, o559 P, o560 P, o561 P, o562 P, o563 P, o564 P, o565 P, o566 P, o567 P, o568 P, o569 P, o570 P, o571 P, o572 P, o573 P, o574 P, o575 P, o576 P, o577 P, o578 P, o579 P, o580 P, o581 P, o582 P, o583 P, o584 P, o585 P, o586 P]
noncomputable def s18 (P : PP) : ST := ⟨t18 P, 587, 1657⟩
noncomputable def o164v19 (P : PP) : Obj := ⟨(.type PySem.W.SL.s9222952809800978799x4), none, (.seq #[(.ref 153), (.ref 156), (.ref 159), (.ref 162), (.ref 175), (.ref 182), (.ref 197), (.ref 204), (.ref 211), (.ref 218), (.ref 232), (.ref 239), (.ref 246), (.ref 257), (.ref 264), (.ref 278), (.ref 285), (.ref 292), (.ref 306), (.ref 317), (.ref 324), (.ref 331), (.ref 342), (.ref 349), (.ref 367), (.ref 386), (.ref 420), (.ref 434), (.ref 441), (.ref 448), (.ref 455), (.ref 462), (.ref 469), (.ref 476), (.ref 483), (.ref 497), (.ref 520), (.ref 534), (.ref 541), (.ref 548), (.ref 555), (.ref 562), (.ref 569), (.ref 576), (.ref 583)] 9), #[]⟩
noncomputable def t19 (P : PP) : BT := putAll (setAll (t18 P) [(164, o164v19 P)]) 587 []
noncomputable def s19 (P : PP) : ST := ⟨t19 P, 587, 1659⟩
noncomputable def o587 (P : PP) : Obj := ⟨(.type PySem.W.SL.s658472552662922059x5), none, (.dict #[⟨kq P a133, (.str a133 1659), (.str a199 1657)⟩, ⟨kq P a127, (.str a127 1660), (.str a200 1658)⟩, ⟨kq P a128, (.str a128 1661), (.int (15) 404)⟩, ⟨kq P a130, (.str a130 1662), (.int (0) 523)⟩, ⟨kq P a134, (.str a134 1663), (.ref 588)⟩, ⟨kq P a129, (.str a129 1668), (.int (1) 1687)⟩, ⟨kq P a117, (.str a117 1669), (.str a201 1666)⟩] 7), #[]⟩
noncomputable def o588 (P : PP) : Obj := ⟨(.type PySem.W.SL.s9222952809800978799x4), none, (.seq #[(.ref 597), (.ref 604)] 2), #[]⟩
noncomputable def o589 (P : PP) : Obj := ⟨(.type PySem.W.SL.s9222952809800978799x4), none, (.seq #[(.str a200 1665), (.str a201 1666)] 0), #[]⟩
noncomputable def o590 (P : PP) : Obj := ⟨(.type PySem.W.SL.s3492446563574874994x13), none, (.fields #[.none, (.int (2) 0)]), #[]⟩
noncomputable def o591 (P : PP) : Obj := ⟨(.type PySem.W.SL.s14340494229221121180x9), none, (.fields #[.none, (.bool false), (.ref 590), (.int (2) 0), .none, (.str a201 1666)]), #[]⟩
noncomputable def o592 (P : PP) : Obj := ⟨(.type PySem.W.SL.s2766695959194262286x5), none, (.seq #[(.int (0) 1667), (.str a200 1665)] 0), #[]⟩
noncomputable def o593 (P : PP) : Obj := ⟨(.type PySem.W.SL.s4096838299382398694x14), none, (.fields #[.none, (.int (2) 0)]), #[]⟩
noncomputable def o594 (P : PP) : Obj := ⟨(.type PySem.W.SL.s2766695959194262286x5), none, (.seq #[] 0), #[]⟩
noncomputable def o595 (P : PP) : Obj := ⟨(.type PySem.W.SL.s5991306692159431302x13), none, (.fields #[(.ref 594), .none, .none, .none, (.bool false), .none]), #[]⟩
noncomputable def o596 (P : PP) : Obj := ⟨(.type PySem.W.SL.s14018661285674007319x4), none, (.dict #[⟨kq P a117, (.str a117 1678), (.str a200 1665)⟩, ⟨kq P a127, (.str a127 1680), (.str a200 1658)⟩, ⟨kq P a128, (.str a128 1682), (.int (15) 404)⟩, ⟨kq P a129, (.str a129 1684), (.int (0) 1667)⟩, ⟨kq P a130, (.str a130 1686), (.int (0) 523)⟩] 5), #[]⟩
noncomputable def o597 (P : PP) : Obj := ⟨(.ref 124), (some 596), .plain, #[]⟩
noncomputable def o598 (P : PP) : Obj := ⟨(.type PySem.W.SL.s658472552662922059x5), none, (.dict #[⟨kq P a42, (.str a42 1671), (.ref 597)⟩, ⟨kq P a117, (.str a117 1672), (.str a200 1665)⟩, ⟨kq P a127, (.str a127 1673), (.str a200 1658)⟩, ⟨kq P a128, (.str a128 1674), (.int (15) 404)⟩, ⟨kq P a129, (.str a129 1675), (.int (0) 1667)⟩, ⟨kq P a130, (.str a130 1676), (.int (0) 523)⟩] 6), #[]⟩
noncomputable def o599 (P : PP) : Obj := ⟨(.type PySem.W.SL.s2766695959194262286x5), none, (.seq #[(.int (1) 1687), (.str a201 1666)] 0), #[]⟩
noncomputable def o600 (P : PP) : Obj := ⟨(.type PySem.W.SL.s4096838299382398694x14), none, (.fields #[.none, (.int (2) 0)]), #[]⟩
noncomputable def o601 (P : PP) : Obj := ⟨(.type PySem.W.SL.s2766695959194262286x5), none, (.seq #[] 0), #[]⟩
noncomputable def o602 (P : PP) : Obj := ⟨(.type PySem.W.SL.s5991306692159431302x13), none, (.fields #[(.ref 601), .none, .none, .none, (.bool false), .none]), #[]⟩
noncomputable def o603 (P : PP) : Obj := ⟨(.type PySem.W.SL.s14018661285674007319x4), none, (.dict #[⟨kq P a117, (.str a117 1698), (.str a201 1666)⟩, ⟨kq P a127, (.str a127 1700), (.str a200 1658)⟩, ⟨kq P a128, (.str a128 1702), (.int (15) 404)⟩, ⟨kq P a129, (.str a129 1704), (.int (1) 1687)⟩, ⟨kq P a130, (.str a130 1706), (.int (0) 523)⟩] 5), #[]⟩
noncomputable def o604 (P : PP) : Obj := ⟨(.ref 124), (some 603), .plain, #[]⟩
noncomputable def o605 (P : PP) : Obj := ⟨(.type PySem.W.SL.s658472552662922059x5), none, (.dict #[⟨kq P a42, (.str a42 1691), (.ref 604)⟩, ⟨kq P a117, (.str a117 1692), (.str a201 1666)⟩, ⟨kq P a127, (.str a127 1693), (.str a200 1658)⟩, ⟨kq P a128, (.str a128 1694), (.int (15) 404)⟩, ⟨kq P a129, (.str a129 1695), (.int (1) 1687)⟩, ⟨kq P a130, (.str a130 1696), (.int (0) 523)⟩] 6), #[]⟩
noncomputable def o606 (P : PP) : Obj := ⟨(.type PySem.W.SL.s2766695959194262286x5), none, (.seq #[] 0), #[]⟩
noncomputable def o607 (P : PP) : Obj := ⟨(.type PySem.W.SL.s5991306692159431302x13), none, (.fields #[(.ref 606), .none, .none, .none, (.bool false), .none]), #[]⟩
noncomputable def t20 (P : PP) : BT := putAll (setAll (t19 P) []) 587 [o587 P, o588 P, o589 P, o590 P, o591 P, o592 P, o593 P, o594 P, o595 P, o596 P, o597 P, o598 P, o599 P, o600 P, o601 P, o602 P, o603 P, o604 P, o605 P, o606 P, o607 P]
noncomputable def s20 (P : PP) : ST := ⟨t20 P, 608, 1707⟩
noncomputable def o164v21 (P : PP) : Obj := ⟨(.type PySem.W.SL.s9222952809800978799x4), none, (.seq #[(.ref 153), (.ref 156), (.ref 159), (.ref 162), (.ref 175), (.ref 182), (.ref 197), (.ref 204), (.ref 211), (.ref 218), (.ref 232), (.ref 239), (.ref 246), (.ref 257), (.ref 264), (.ref 278), (.ref 285), (.ref 292), (.ref 306), (.ref 317), (.ref 324), (.ref 331), (.ref 342), (.ref 349), (.ref 367), (.ref 386), (.ref 420), (.ref 434), (.ref 441), (.ref 448), (.ref 455), (.ref 462), (.ref 469), (.ref 476), (.ref 483), (.ref 497), (.ref 520), (.ref 534), (.ref 541), (.ref 548), (.ref 555), (.ref 562), (.ref 569), (.ref 576), (.ref 583), (.ref 597), (.ref 604)] 10), #[]⟩
noncomputable def t21 (P : PP) : BT := putAll (setAll (t20 P) [(164, o164v21 P)]) 608 []
noncomputable def s21 (P : PP) : ST := ⟨t21 P, 608, 1709⟩
noncomputable def o608 (P : PP) : Obj := ⟨(.type PySem.W.SL.s658472552662922059x5), none, (.dict #[⟨kq P a133, (.str a133 1709), (.str a202 1707)⟩, ⟨kq P a127, (.str a127 1710), (.str a203 1708)⟩, ⟨kq P a128, (.str a128 1711), (.int (115) 422)⟩, ⟨kq P a130, (.str a130 1712), (.int (0) 523)⟩, ⟨kq P a134, (.str a134 1713), (.ref 609)⟩, ⟨kq P a129, (.str a129 1720), (.int (3) 1763)⟩, ⟨kq P a117, (.str a117 1721), (.str a204 1718)⟩] 7), #[]⟩
noncomputable def o609 (P : PP) : Obj := ⟨(.type PySem.W.SL.s9222952809800978799x4), none, (.seq #[(.ref 622), (.ref 629), (.ref 636)] 3), #[]⟩
noncomputable def o610 (P : PP) : Obj := ⟨(.type PySem.W.SL.s9222952809800978799x4), none, (.seq #[(.str a149 1715), (.str a205 1716), (.str a206 1717), (.str a204 1718)] 0), #[]⟩
noncomputable def o611 (P : PP) : Obj := ⟨(.type PySem.W.SL.s3492446563574874994x13), none, (.fields #[.none, (.int (4) 0)]), #[]⟩
noncomputable def o612 (P : PP) : Obj := ⟨(.type PySem.W.SL.s14340494229221121180x9), none, (.fields #[.none, (.bool false), (.ref 611), (.int (4) 0), .none, (.str a204 1718)]), #[]⟩
noncomputable def o613 (P : PP) : Obj := ⟨(.type PySem.W.SL.s2766695959194262286x5), none, (.seq #[(.int (0) 1719), (.str a149 1715)] 0), #[]⟩
noncomputable def o614 (P : PP) : Obj := ⟨(.type PySem.W.SL.s4096838299382398694x14), none, (.fields #[.none, (.int (2) 0)]), #[]⟩
noncomputable def o615 (P : PP) : Obj := ⟨(.type PySem.W.SL.s2766695959194262286x5), none, (.seq #[] 0), #[]⟩
noncomputable def o616 (P : PP) : Obj := ⟨(.type PySem.W.SL.s5991306692159431302x13), none, (.fields #[(.ref 615), .none, .none, .none, (.bool false), .none]), #[]⟩
noncomputable def o617 (P : PP) : Obj := ⟨(.type PySem.W.SL.s2766695959194262286x5), none, (.seq #[(.int (1) 1723), (.str a205 1716)] 0), #[]⟩
noncomputable def o618 (P : PP) : Obj := ⟨(.type PySem.W.SL.s4096838299382398694x14), none, (.fields #[.none, (.int (2) 0)]), #[]⟩
noncomputable def o619 (P : PP) : Obj := ⟨(.type PySem.W.SL.s2766695959194262286x5), none, (.seq #[] 0), #[]⟩
noncomputable def o620 (P : PP) : Obj := ⟨(.type PySem.W.SL.s5991306692159431302x13), none, (.fields #[(.ref 619), .none, .none, .none, (.bool false), .none]), #[]⟩
noncomputable def o621 (P : PP) : Obj := ⟨(.type PySem.W.SL.s14018661285674007319x4), none, (.dict #[⟨kq P a117, (.str a117 1734), (.str a205 1716)⟩, ⟨kq P a127, (.str a127 1736), (.str a203 1708)⟩, ⟨kq P a128, (.str a128 1738), (.int (115) 422)⟩, ⟨kq P a129, (.str a129 1740), (.int (1) 1723)⟩, ⟨kq P a130, (.str a130 1742), (.int (0) 523)⟩] 5), #[]⟩
noncomputable def o622 (P : PP) : Obj := ⟨(.ref 124), (some 621), .plain, #[]⟩
noncomputable def o623 (P : PP) : Obj := ⟨(.type PySem.W.SL.s658472552662922059x5), none, (.dict #[⟨kq P a42, (.str a42 1727), (.ref 622)⟩, ⟨kq P a117, (.str a117 1728), (.str a205 1716)⟩, ⟨kq P a127, (.str a127 1729), (.str a203 1708)⟩, ⟨kq P a128, (.str a128 1730), (.int (115) 422)⟩, ⟨kq P a129, (.str a129 1731), (.int (1) 1723)⟩, ⟨kq P a130, (.str a130 1732), (.int (0) 523)⟩] 6), #[]⟩
noncomputable def o624 (P : PP) : Obj := ⟨(.type PySem.W.SL.s2766695959194262286x5), none, (.seq #[(.int (2) 1743), (.str a206 1717)] 0), #[]⟩
noncomputable def o625 (P : PP) : Obj := ⟨(.type PySem.W.SL.s4096838299382398694x14), none, (.fields #[.none, (.int (2) 0)]), #[]⟩
noncomputable def o626 (P : PP) : Obj := ⟨(.type PySem.W.SL.s2766695959194262286x5), none, (.seq #[] 0), #[]⟩
noncomputable def o627 (P : PP) : Obj := ⟨(.type PySem.W.SL.s5991306692159431302x13), none, (.fields #[(.ref 626), .none, .none, .none, (.bool false), .none]), #[]⟩
noncomputable def o628 (P : PP) : Obj := ⟨(.type PySem.W.SL.s14018661285674007319x4), none, (.dict #[⟨kq P a117, (.str a117 1754), (.str a206 1717)⟩, ⟨kq P a127, (.str a127 1756), (.str a203 1708)⟩, ⟨kq P a128, (.str a128 1758), (.int (115) 422)⟩, ⟨kq P a129, (.str a129 1760), (.int (2) 1743)⟩, ⟨kq P a130, (.str a130 1762), (.int (0) 523)⟩] 5), #[]⟩
noncomputable def o629 (P : PP) : Obj := ⟨(.ref 124), (some 628), .plain, #[]⟩
noncomputable def o630 (P : PP) : Obj := ⟨(.type PySem.W.SL.s658472552662922059x5), none, (.dict #[⟨kq P a42, (.str a42 1747), (.ref 629)⟩, ⟨kq P a117, (.str a117 1748), (.str a206 1717)⟩, ⟨kq P a127, (.str a127 1749), (.str a203 1708)⟩, ⟨kq P a128, (.str a128 1750), (.int (115) 422)⟩, ⟨kq P a129, (.str a129 1751), (.int (2) 1743)⟩, ⟨kq P a130, (.str a130 1752), (.int (0) 523)⟩] 6), #[]⟩
noncomputable def o631 (P : PP) : Obj := ⟨(.type PySem.W.SL.s2766695959194262286x5), none, (.seq #[(.int (3) 1763), (.str a204 1718)] 0), #[]⟩
noncomputable def o632 (P : PP) : Obj := ⟨(.type PySem.W.SL.s4096838299382398694x14), none, (.fields #[.none, (.int (2) 0)]), #[]⟩
noncomputable def o633 (P : PP) : Obj := ⟨(.type PySem.W.SL.s2766695959194262286x5), none, (.seq #[] 0), #[]⟩
noncomputable def o634 (P : PP) : Obj := ⟨(.type PySem.W.SL.s5991306692159431302x13), none, (.fields #[(.ref 633), .none, .none, .none, (.bool false), .none]), #[]⟩
noncomputable def o635 (P : PP) : Obj := ⟨(.type PySem.W.SL.s14018661285674007319x4), none, (.dict #[⟨kq P a117, (.str a117 1774), (.str a204 1718)⟩, ⟨kq P a127, (.str a127 1776), (.str a203 1708)⟩, ⟨kq P a128, (.str a128 1778), (.int (115) 422)⟩, ⟨kq P a129, (.str a129 1780), (.int (3) 1763)⟩, ⟨kq P a130, (.str a130 1782), (.int (0) 523)⟩] 5), #[]⟩
noncomputable def o636 (P : PP) : Obj := ⟨(.ref 124), (some 635), .plain, #[]⟩
noncomputable def o637 (P : PP) : Obj := ⟨(.type PySem.W.SL.s658472552662922059x5), none, (.dict #[⟨kq P a42, (.str a42 1767), (.ref 636)⟩, ⟨kq P a117, (.str a117 1768), (.str a204 1718)⟩, ⟨kq P a127, (.str a127 1769), (.str a203 1708)⟩, ⟨kq P a128, (.str a128 1770), (.int (115) 422)⟩, ⟨kq P a129, (.str a129 1771), (.int (3) 1763)⟩, ⟨kq P a130, (.str a130 1772), (.int (0) 523)⟩] 6), #[]⟩
noncomputable def o638 (P : PP) : Obj := ⟨(.type PySem.W.SL.s2766695959194262286x5), none, (.seq #[] 0), #[]⟩
noncomputable def o639 (P : PP) : Obj := ⟨(.type PySem.W.SL.s5991306692159431302x13), none, (.fields #[(.ref 638), .none, .none, .none, (.bool false), .none]), #[]⟩
noncomputable def t22 (P : PP) : BT := putAll (setAll (t21 P) []) 608 [o608 P, o609 P, o610 P, o611 P, o612 P, o613 P, o614 P, o615 P, o616 P, o617 P, o618 P, o619 P, o620 P, o621 P, o622 P, o623 P, o624 P, o625 P, o626 P, o627 P, o628 P, o629 P, o630 P, o631 P, o632 P, o633 P, o634 P, o635 P, o636 P, o637 P, o638 P, o639 P]
noncomputable def s22 (P : PP) : ST := ⟨t22 P, 640, 1783⟩
noncomputable def o164v23 (P : PP) : Obj := ⟨(.type PySem.W.SL.s9222952809800978799x4), none, (.seq #[(.ref 153), (.ref 156), (.ref 159), (.ref 162), (.ref 175), (.ref 182), (.ref 197), (.ref 204), (.ref 211), (.ref 218), (.ref 232), (.ref 239), (.ref 246), (.ref 257), (.ref 264), (.ref 278), (.ref 285), (.ref 292), (.ref 306), (.ref 317), (.ref 324), (.ref 331), (.ref 342), (.ref 349), (.ref 367), (.ref 386), (.ref 420), (.ref 434), (.ref 441), (.ref 448), (.ref 455), (.ref 462), (.ref 469), (.ref 476), (.ref 483), (.ref 497), (.ref 520), (.ref 534), (.ref 541), (.ref 548), (.ref 555), (.ref 562), (.ref 569), (.ref 576), (.ref 583), (.ref 597), (.ref 604), (.ref 622), (.ref 629), (.ref 636)] 11), #[]⟩
noncomputable def t23 (P : PP) : BT := putAll (setAll (t22 P) [(164, o164v23 P)]) 640 []
noncomputable def s23 (P : PP) : ST := ⟨t23 P, 640, 1785⟩
noncomputable def o640 (P : PP) : Obj := ⟨(.type PySem.W.SL.s658472552662922059x5), none, (.dict #[⟨kq P a133, (.str a133 1785), (.str a207 1783)⟩, ⟨kq P a127, (.str a127 1786), (.str a208 1784)⟩, ⟨kq P a128, (.str a128 1787), (.int (115) 422)⟩, ⟨kq P a130, (.str a130 1788), (.int (0) 523)⟩, ⟨kq P a134, (.str a134 1789), (.ref 641)⟩, ⟨kq P a129, (.str a129 1800), (.int (7) 1859)⟩, ⟨kq P a117, (.str a117 1801), (.str a209 1798)⟩] 7), #[]⟩
noncomputable def o641 (P : PP) : Obj := ⟨(.type PySem.W.SL.s9222952809800978799x4), none, (.seq #[(.ref 670), (.ref 677), (.ref 684)] 3), #[]⟩
noncomputable def o642 (P : PP) : Obj := ⟨(.type PySem.W.SL.s9222952809800978799x4), none, (.seq #[(.str a149 1791), (.str a149 1792), (.str a149 1793), (.str a149 1794), (.str a149 1795), (.str a210 1796), (.str a211 1797), (.str a209 1798)] 0), #[]⟩
noncomputable def o643 (P : PP) : Obj := ⟨(.type PySem.W.SL.s3492446563574874994x13), none, (.fields #[.none, (.int (8) 0)]), #[]⟩
noncomputable def o644 (P : PP) : Obj := ⟨(.type PySem.W.SL.s14340494229221121180x9), none, (.fields #[.none, (.bool false), (.ref 643), (.int (8) 0), .none, (.str a209 1798)]), #[]⟩
noncomputable def o645 (P : PP) : Obj := ⟨(.type PySem.W.SL.s2766695959194262286x5), none, (.seq #[(.int (0) 1799), (.str a149 1791)] 0), #[]⟩
noncomputable def o646 (P : PP) : Obj := ⟨(.type PySem.W.SL.s4096838299382398694x14), none, (.fields #[.none, (.int (2) 0)]), #[]⟩
noncomputable def o647 (P : PP) : Obj := ⟨(.type PySem.W.SL.s2766695959194262286x5), none, (.seq #[] 0), #[]⟩
noncomputable def o648 (P : PP) : Obj := ⟨(.type PySem.W.SL.s5991306692159431302x13), none, (.fields #[(.ref 647), .none, .none, .none, (.bool false), .none]), #[]⟩
noncomputable def o649 (P : PP) : Obj := ⟨(.type PySem.W.SL.s2766695959194262286x5), none, (.seq #[(.int (1) 1803), (.str a149 1792)] 0), #[]⟩
noncomputable def o650 (P : PP) : Obj := ⟨(.type PySem.W.SL.s4096838299382398694x14), none, (.fields #[.none, (.int (2) 0)]), #[]⟩
noncomputable def o651 (P : PP) : Obj := ⟨(.type PySem.W.SL.s2766695959194262286x5), none, (.seq #[] 0), #[]⟩
noncomputable def o652 (P : PP) : Obj := ⟨(.type PySem.W.SL.s5991306692159431302x13), none, (.fields #[(.ref 651), .none, .none, .none, (.bool false), .none]), #[]⟩
noncomputable def o653 (P : PP) : Obj := ⟨(.type PySem.W.SL.s2766695959194262286x5), none, (.seq #[(.int (2) 1807), (.str a149 1793)] 0), #[]⟩
noncomputable def o654 (P : PP) : Obj := ⟨(.type PySem.W.SL.s4096838299382398694x14), none, (.fields #[.none, (.int (2) 0)]), #[]⟩
noncomputable def o655 (P : PP) : Obj := ⟨(.type PySem.W.SL.s2766695959194262286x5), none, (.seq #[] 0), #[]⟩
noncomputable def o656 (P : PP) : Obj := ⟨(.type PySem.W.SL.s5991306692159431302x13), none, (.fields #[(.ref 655), .none, .none, .none, (.bool false), .none]), #[]⟩
noncomputable def o657 (P : PP) : Obj := ⟨(.type PySem.W.SL.s2766695959194262286x5), none, (.seq #[(.int (3) 1811), (.str a149 1794)] 0), #[]⟩
noncomputable def o658 (P : PP) : Obj := ⟨(.type PySem.W.SL.s4096838299382398694x14), none, (.fields #[.none, (.int (2) 0)]), #[]⟩
noncomputable def o659 (P : PP) : Obj := ⟨(.type PySem.W.SL.s2766695959194262286x5), none, (.seq #[] 0), #[]⟩
noncomputable def o660 (P : PP) : Obj := ⟨(.type PySem.W.SL.s5991306692159431302x13), none, (.fields #[(.ref 659), .none, .none, .none, (.bool false), .none]), #[]⟩
noncomputable def o661 (P : PP) : Obj := ⟨(.type PySem.W.SL.s2766695959194262286x5), none, (.seq #[(.int (4) 1815), (.str a149 1795)] 0), #[]⟩
noncomputable def o662 (P : PP) : Obj := ⟨(.type PySem.W.SL.s4096838299382398694x14), none, (.fields #[.none, (.int (2) 0)]), #[]⟩
noncomputable def o663 (P : PP) : Obj := ⟨(.type PySem.W.SL.s2766695959194262286x5), none, (.seq #[] 0), #[]⟩
noncomputable def o664 (P : PP) : Obj := ⟨(.type PySem.W.SL.s5991306692159431302x13), none, (.fields #[(.ref 663), .none, .none, .none, (.bool false), .none]), #[]⟩
noncomputable def o665 (P : PP) : Obj := ⟨(.type PySem.W.SL.s2766695959194262286x5), none, (.seq #[(.int (5) 1819), (.str a210 1796)] 0), #[]⟩
noncomputable def o666 (P : PP) : Obj := ⟨(.type PySem.W.SL.s4096838299382398694x14), none, (.fields #[.none, (.int (2) 0)]), #[]⟩
noncomputable def o667 (P : PP) : Obj := ⟨(.type PySem.W.SL.s2766695959194262286x5), none, (.seq #[] 0), #[]⟩
noncomputable def o668 (P : PP) : Obj := ⟨(.type PySem.W.SL.s5991306692159431302x13), none, (.fields #[(.ref 667), .none, .none, .none, (.bool false), .none]), #[]⟩
noncomputable def o669 (P : PP) : Obj := ⟨(.type PySem.W.SL.s14018661285674007319x4), none, (.dict #[⟨kq P a117, (.str a117 1830), (.str a210 1796)⟩, ⟨kq P a127, (.str a127 1832), (.str a208 1784)⟩, ⟨kq P a128, (.str a128 1834), (.int (115) 422)⟩, ⟨kq P a129, (.str a129 1836), (.int (5) 1819)⟩, ⟨kq P a130, (.str a130 1838), (.int (0) 523)⟩] 5), #[]⟩
noncomputable def o670 (P : PP) : Obj := ⟨(.ref 124), (some 669), .plain, #[]⟩
noncomputable def o671 (P : PP) : Obj := ⟨(.type PySem.W.SL.s658472552662922059x5), none, (.dict #[⟨kq P a42, (.str a42 1823), (.ref 670)⟩, ⟨kq P a117, (.str a117 1824), (.str a210 1796)⟩, ⟨kq P a127, (.str a127 1825), (.str a208 1784)⟩, ⟨kq P a128, (.str a128 1826), (.int (115) 422)⟩, ⟨kq P a129, (.str a129 1827), (.int (5) 1819)⟩, ⟨kq P a130, (.str a130 1828), (.int (0) 523)⟩] 6), #[]⟩
noncomputable def o672 (P : PP) : Obj := ⟨(.type PySem.W.SL.s2766695959194262286x5), none, (.seq #[(.int (6) 1839), (.str a211 1797)] 0), #[]⟩
noncomputable def o673 (P : PP) : Obj := ⟨(.type PySem.W.SL.s4096838299382398694x14), none, (.fields #[.none, (.int (2) 0)]), #[]⟩
noncomputable def o674 (P : PP) : Obj := ⟨(.type PySem.W.SL.s2766695959194262286x5), none, (.seq #[] 0), #[]⟩
noncomputable def o675 (P : PP) : Obj := ⟨(.type PySem.W.SL.s5991306692159431302x13), none, (.fields #[(.ref 674), .none, .none, .none, (.bool false), .none]), #[]⟩
noncomputable def o676 (P : PP) : Obj := ⟨(.type PySem.W.SL.s14018661285674007319x4), none, (.dict #[⟨kq P a117, (.str a117 1850), (.str a211 1797)⟩, ⟨kq P a127, (.str a127 1852), (.str a208 1784)⟩, ⟨kq P a128, (.str a128 1854), (.int (115) 422)⟩, ⟨kq P a129, (.str a129 1856), (.int (6) 1839)⟩, ⟨kq P a130, (.str a130 1858), (.int (0) 523)⟩] 5), #[]⟩
noncomputable def o677 (P : PP) : Obj := ⟨(.ref 124), (some 676), .plain, #[]⟩
noncomputable def o678 (P : PP) : Obj := ⟨(.type PySem.W.SL.s658472552662922059x5), none, (.dict #[⟨kq P a42, (.str a42 1843), (.ref 677)⟩, ⟨kq P a117, (.str a117 1844), (.str a211 1797)⟩, ⟨kq P a127, (.str a127 1845), (.str a208 1784)⟩, ⟨kq P a128, (.str a128 1846), (.int (115) 422)⟩, ⟨kq P a129, (.str a129 1847), (.int (6) 1839)⟩, ⟨kq P a130, (.str a130 1848), (.int (0) 523)⟩] 6), #[]⟩
noncomputable def o679 (P : PP) : Obj := ⟨(.type PySem.W.SL.s2766695959194262286x5), none, (.seq #[(.int (7) 1859), (.str a209 1798)] 0), #[]⟩
noncomputable def o680 (P : PP) : Obj := ⟨(.type PySem.W.SL.s4096838299382398694x14), none, (.fields #[.none, (.int (2) 0)]), #[]⟩
noncomputable def o681 (P : PP) : Obj := ⟨(.type PySem.W.SL.s2766695959194262286x5), none, (.seq #[] 0), #[]⟩
noncomputable def o682 (P : PP) : Obj := ⟨(.type PySem.W.SL.s5991306692159431302x13), none, (.fields #[(.ref 681), .none, .none, .none, (.bool false), .none]), #[]⟩
noncomputable def o683 (P : PP) : Obj := ⟨(.type PySem.W.SL.s14018661285674007319x4), none, (.dict #[⟨kq P a117, (.str a117 1870), (.str a209 1798)⟩, ⟨kq P a127, (.str a127 1872), (.str a208 1784)⟩, ⟨kq P a128, (.str a128 1874), (.int (115) 422)⟩, ⟨kq P a129, (.str a129 1876), (.int (7) 1859)⟩, ⟨kq P a130, (.str a130 1878), (.int (0) 523)⟩] 5), #[]⟩
noncomputable def o684 (P : PP) : Obj := ⟨(.ref 124), (some 683), .plain, #[]⟩
noncomputable def o685 (P : PP) : Obj := ⟨(.type PySem.W.SL.s658472552662922059x5), none, (.dict #[⟨kq P a42, (.str a42 1863), (.ref 684)⟩, ⟨kq P a117, (.str a117 1864), (.str a209 1798)⟩, ⟨kq P a127, (.str a127 1865), (.str a208 1784)⟩, ⟨kq P a128, (.str a128 1866), (.int (115) 422)⟩, ⟨kq P a129, (.str a129 1867), (.int (7) 1859)⟩, ⟨kq P a130, (.str a130 1868), (.int (0) 523)⟩] 6), #[]⟩
noncomputable def o686 (P : PP) : Obj := ⟨(.type PySem.W.SL.s2766695959194262286x5), none, (.seq #[] 0), #[]⟩
noncomputable def o687 (P : PP) : Obj := ⟨(.type PySem.W.SL.s5991306692159431302x13), none, (.fields #[(.ref 686), .none, .none, .none, (.bool false), .none]), #[]⟩
noncomputable def t24 (P : PP) : BT := putAll (setAll (t23 P) []) 640 [o640 P, o641 P, o642 P, o643 P, o644 P, o645 P, o646 P, o647 P, o648 P, o649 P, o650 P, o651 P, o652 P, o653 P, o654 P, o655 P, o656 P, o657 P, o658 P, o659 P, o660 P, o661 P, o662 P, o663 P, o664 P, o665 P, o666 P, o667 P, o668 P, o669 P, o670 P, o671 P, o672 P, o673 P, o674 P, o675 P, o676 P, o677 P, o678 P, o679 P, o680 P, o681 P, o682 P, o683 P, o684 P, o685 P, o686 P, o687 P]
noncomputable def s24 (P : PP) : ST := ⟨t24 P, 688, 1879⟩
noncomputable def o151v25 (P : PP) : Obj := ⟨(.type PySem.W.SL.s658472552662922059x5), none, (.dict #[⟨kq P a134, (.str a134 630), (.ref 164)⟩, ⟨kq P a117, (.str a117 1909), (.str a212 1907)⟩, ⟨kq P a135, (.str a135 1910), (.int (770) 1908)⟩] 3), #[]⟩
noncomputable def o164v25 (P : PP) : Obj := ⟨(.type PySem.W.SL.s9222952809800978799x4), none, (.seq #[(.ref 153), (.ref 156), (.ref 159), (.ref 162), (.ref 175), (.ref 182), (.ref 197), (.ref 204), (.ref 211), (.ref 218), (.ref 232), (.ref 239), (.ref 246), (.ref 257), (.ref 264), (.ref 278), (.ref 285), (.ref 292), (.ref 306), (.ref 317), (.ref 324), (.ref 331), (.ref 342), (.ref 349), (.ref 367), (.ref 386), (.ref 420), (.ref 434), (.ref 441), (.ref 448), (.ref 455), (.ref 462), (.ref 469), (.ref 476), (.ref 483), (.ref 497), (.ref 520), (.ref 534), (.ref 541), (.ref 548), (.ref 555), (.ref 562), (.ref 569), (.ref 576), (.ref 583), (.ref 597), (.ref 604), (.ref 622), (.ref 629), (.ref 636), (.ref 670), (.ref 677), (.ref 684), (.ref 689), (.ref 702), (.ref 708), (.ref 714), (.ref 720), (.ref 726)] 18), #[]⟩
noncomputable def o688 (P : PP) : Obj := ⟨(.type PySem.W.SL.s14018661285674007319x4), none, (.dict #[⟨kq P a117, (.str a117 1890), (.str a213 1879)⟩, ⟨kq P a127, (.str a127 1892), (.str a214 1880)⟩, ⟨kq P a128, (.str a128 1894), (.int (115) 422)⟩, ⟨kq P a129, (.str a129 1896), (.int (0) 1881)⟩, ⟨kq P a130, (.str a130 1898), (.int (9) 1882)⟩] 5), #[]⟩
noncomputable def o689 (P : PP) : Obj := ⟨(.ref 124), (some 688), .plain, #[]⟩
noncomputable def o690 (P : PP) : Obj := ⟨(.type PySem.W.SL.s658472552662922059x5), none, (.dict #[⟨kq P a42, (.str a42 1883), (.ref 689)⟩, ⟨kq P a117, (.str a117 1884), (.str a213 1879)⟩, ⟨kq P a127, (.str a127 1885), (.str a214 1880)⟩, ⟨kq P a128, (.str a128 1886), (.int (115) 422)⟩, ⟨kq P a129, (.str a129 1887), (.int (0) 1881)⟩, ⟨kq P a130, (.str a130 1888), (.int (9) 1882)⟩] 6), #[]⟩
noncomputable def o691 (P : PP) : Obj := ⟨(.type PySem.W.SL.s2766695959194262286x5), none, (.seq #[(.str a215 1899), (.int (0) 1900)] 0), #[]⟩
noncomputable def o692 (P : PP) : Obj := ⟨(.type PySem.W.SL.s2766695959194262286x5), none, (.seq #[(.str a216 1901), (.int (1) 1902)] 0), #[]⟩
noncomputable def o693 (P : PP) : Obj := ⟨(.type PySem.W.SL.s2766695959194262286x5), none, (.seq #[(.str a217 1903), (.int (258) 1904)] 0), #[]⟩
noncomputable def o694 (P : PP) : Obj := ⟨(.type PySem.W.SL.s2766695959194262286x5), none, (.seq #[(.str a218 1905), (.int (261) 1906)] 0), #[]⟩
noncomputable def o695 (P : PP) : Obj := ⟨(.type PySem.W.SL.s2766695959194262286x5), none, (.seq #[(.str a212 1907), (.int (770) 1908)] 0), #[]⟩
noncomputable def o696 (P : PP) : Obj := ⟨(.type PySem.W.SL.s2766695959194262286x5), none, (.seq #[(.ref 691), (.ref 692), (.ref 693), (.ref 694), (.ref 695)] 0), #[]⟩
noncomputable def o697 (P : PP) : Obj := ⟨(.type PySem.W.SL.s4096838299382398694x14), none, (.fields #[.none, (.int (5) 0)]), #[]⟩
noncomputable def o698 (P : PP) : Obj := ⟨(.type PySem.W.SL.s4096838299382398694x14), none, (.fields #[.none, (.int (2) 0)]), #[]⟩
noncomputable def o699 (P : PP) : Obj := ⟨(.type PySem.W.SL.s2766695959194262286x5), none, (.seq #[] 0), #[]⟩
noncomputable def o700 (P : PP) : Obj := ⟨(.type PySem.W.SL.s5991306692159431302x13), none, (.fields #[(.ref 699), .none, .none, .none, (.bool false), .none]), #[]⟩
noncomputable def o701 (P : PP) : Obj := ⟨(.type PySem.W.SL.s14018661285674007319x4), none, (.dict #[⟨kq P a117, (.str a117 1922), (.str a215 1899)⟩, ⟨kq P a127, (.str a127 1924), (.str a219 1911)⟩, ⟨kq P a128, (.str a128 1926), (.int (115) 1914)⟩, ⟨kq P a129, (.str a129 1928), (.int (0) 489)⟩, ⟨kq P a130, (.str a130 1930), (.int (0) 490)⟩] 5), #[]⟩
noncomputable def o702 (P : PP) : Obj := ⟨(.ref 124), (some 701), .plain, #[]⟩
noncomputable def o703 (P : PP) : Obj := ⟨(.type PySem.W.SL.s658472552662922059x5), none, (.dict #[⟨kq P a42, (.str a42 1915), (.ref 702)⟩, ⟨kq P a117, (.str a117 1916), (.str a215 1899)⟩, ⟨kq P a127, (.str a127 1917), (.str a219 1911)⟩, ⟨kq P a128, (.str a128 1918), (.int (115) 1914)⟩, ⟨kq P a129, (.str a129 1919), (.int (0) 489)⟩, ⟨kq P a130, (.str a130 1920), (.int (0) 490)⟩] 6), #[]⟩
noncomputable def o704 (P : PP) : Obj := ⟨(.type PySem.W.SL.s4096838299382398694x14), none, (.fields #[.none, (.int (2) 0)]), #[]⟩
noncomputable def o705 (P : PP) : Obj := ⟨(.type PySem.W.SL.s2766695959194262286x5), none, (.seq #[] 0), #[]⟩
noncomputable def o706 (P : PP) : Obj := ⟨(.type PySem.W.SL.s5991306692159431302x13), none, (.fields #[(.ref 705), .none, .none, .none, (.bool false), .none]), #[]⟩
noncomputable def o707 (P : PP) : Obj := ⟨(.type PySem.W.SL.s14018661285674007319x4), none, (.dict #[⟨kq P a117, (.str a117 1944), (.str a216 1901)⟩, ⟨kq P a127, (.str a127 1946), (.str a219 1933)⟩, ⟨kq P a128, (.str a128 1948), (.int (1048691) 1936)⟩, ⟨kq P a129, (.str a129 1950), (.int (0) 489)⟩, ⟨kq P a130, (.str a130 1952), (.int (0) 490)⟩] 5), #[]⟩
noncomputable def o708 (P : PP) : Obj := ⟨(.ref 124), (some 707), .plain, #[]⟩
noncomputable def o709 (P : PP) : Obj := ⟨(.type PySem.W.SL.s658472552662922059x5), none, (.dict #[⟨kq P a42, (.str a42 1937), (.ref 708)⟩, ⟨kq P a117, (.str a117 1938), (.str a216 1901)⟩, ⟨kq P a127, (.str a127 1939), (.str a219 1933)⟩, ⟨kq P a128, (.str a128 1940), (.int (1048691) 1936)⟩, ⟨kq P a129, (.str a129 1941), (.int (0) 489)⟩, ⟨kq P a130, (.str a130 1942), (.int (0) 490)⟩] 6), #[]⟩
noncomputable def o710 (P : PP) : Obj := ⟨(.type PySem.W.SL.s4096838299382398694x14), none, (.fields #[.none, (.int (2) 0)]), #[]⟩
noncomputable def o711 (P : PP) : Obj := ⟨(.type PySem.W.SL.s2766695959194262286x5), none, (.seq #[] 0), #[]⟩
noncomputable def o712 (P : PP) : Obj := ⟨(.type PySem.W.SL.s5991306692159431302x13), none, (.fields #[(.ref 711), .none, .none, .none, (.bool false), .none]), #[]⟩
noncomputable def o713 (P : PP) : Obj := ⟨(.type PySem.W.SL.s14018661285674007319x4), none, (.dict #[⟨kq P a117, (.str a117 1966), (.str a217 1903)⟩, ⟨kq P a127, (.str a127 1968), (.str a219 1955)⟩, ⟨kq P a128, (.str a128 1970), (.int (270532723) 1958)⟩, ⟨kq P a129, (.str a129 1972), (.int (0) 489)⟩, ⟨kq P a130, (.str a130 1974), (.int (0) 490)⟩] 5), #[]⟩
noncomputable def o714 (P : PP) : Obj := ⟨(.ref 124), (some 713), .plain, #[]⟩
noncomputable def o715 (P : PP) : Obj := ⟨(.type PySem.W.SL.s658472552662922059x5), none, (.dict #[⟨kq P a42, (.str a42 1959), (.ref 714)⟩, ⟨kq P a117, (.str a117 1960), (.str a217 1903)⟩, ⟨kq P a127, (.str a127 1961), (.str a219 1955)⟩, ⟨kq P a128, (.str a128 1962), (.int (270532723) 1958)⟩, ⟨kq P a129, (.str a129 1963), (.int (0) 489)⟩, ⟨kq P a130, (.str a130 1964), (.int (0) 490)⟩] 6), #[]⟩
noncomputable def o716 (P : PP) : Obj := ⟨(.type PySem.W.SL.s4096838299382398694x14), none, (.fields #[.none, (.int (2) 0)]), #[]⟩
noncomputable def o717 (P : PP) : Obj := ⟨(.type PySem.W.SL.s2766695959194262286x5), none, (.seq #[] 0), #[]⟩
noncomputable def o718 (P : PP) : Obj := ⟨(.type PySem.W.SL.s5991306692159431302x13), none, (.fields #[(.ref 717), .none, .none, .none, (.bool false), .none]), #[]⟩
noncomputable def o719 (P : PP) : Obj := ⟨(.type PySem.W.SL.s14018661285674007319x4), none, (.dict #[⟨kq P a117, (.str a117 1988), (.str a218 1905)⟩, ⟨kq P a127, (.str a127 1990), (.str a219 1977)⟩, ⟨kq P a128, (.str a128 1992), (.int (273678451) 1980)⟩, ⟨kq P a129, (.str a129 1994), (.int (0) 489)⟩, ⟨kq P a130, (.str a130 1996), (.int (0) 490)⟩] 5), #[]⟩
noncomputable def o720 (P : PP) : Obj := ⟨(.ref 124), (some 719), .plain, #[]⟩
noncomputable def o721 (P : PP) : Obj := ⟨(.type PySem.W.SL.s658472552662922059x5), none, (.dict #[⟨kq P a42, (.str a42 1981), (.ref 720)⟩, ⟨kq P a117, (.str a117 1982), (.str a218 1905)⟩, ⟨kq P a127, (.str a127 1983), (.str a219 1977)⟩, ⟨kq P a128, (.str a128 1984), (.int (273678451) 1980)⟩, ⟨kq P a129, (.str a129 1985), (.int (0) 489)⟩, ⟨kq P a130, (.str a130 1986), (.int (0) 490)⟩] 6), #[]⟩
noncomputable def o722 (P : PP) : Obj := ⟨(.type PySem.W.SL.s4096838299382398694x14), none, (.fields #[.none, (.int (2) 0)]), #[]⟩
noncomputable def o723 (P : PP) : Obj := ⟨(.type PySem.W.SL.s2766695959194262286x5), none, (.seq #[] 0), #[]⟩
noncomputable def o724 (P : PP) : Obj := ⟨(.type PySem.W.SL.s5991306692159431302x13), none, (.fields #[(.ref 723), .none, .none, .none, (.bool false), .none]), #[]⟩
noncomputable def o725 (P : PP) : Obj := ⟨(.type PySem.W.SL.s14018661285674007319x4), none, (.dict #[⟨kq P a117, (.str a117 2010), (.str a212 1907)⟩, ⟨kq P a127, (.str a127 2012), (.str a219 1999)⟩, ⟨kq P a128, (.str a128 2014), (.int (807403635) 2002)⟩, ⟨kq P a129, (.str a129 2016), (.int (0) 489)⟩, ⟨kq P a130, (.str a130 2018), (.int (0) 490)⟩] 5), #[]⟩
noncomputable def o726 (P : PP) : Obj := ⟨(.ref 124), (some 725), .plain, #[]⟩
noncomputable def o727 (P : PP) : Obj := ⟨(.type PySem.W.SL.s658472552662922059x5), none, (.dict #[⟨kq P a42, (.str a42 2003), (.ref 726)⟩, ⟨kq P a117, (.str a117 2004), (.str a212 1907)⟩, ⟨kq P a127, (.str a127 2005), (.str a219 1999)⟩, ⟨kq P a128, (.str a128 2006), (.int (807403635) 2002)⟩, ⟨kq P a129, (.str a129 2007), (.int (0) 489)⟩, ⟨kq P a130, (.str a130 2008), (.int (0) 490)⟩] 6), #[]⟩
noncomputable def o728 (P : PP) : Obj := ⟨(.type PySem.W.SL.s2766695959194262286x5), none, (.seq #[] 0), #[]⟩
noncomputable def o729 (P : PP) : Obj := ⟨(.type PySem.W.SL.s5991306692159431302x13), none, (.fields #[(.ref 728), .none, .none, .none, (.bool false), .none]), #[]⟩
noncomputable def t25 (P : PP) : BT := putAll (setAll (t24 P) [(151, o151v25 P), (164, o164v25 P)]) 688 [o688 P, o689 P, o690 P, o691 P, o692 P, o693 P, o694 P, o695 P, o696 P, o697 P, o698 P, o699 P, o700 P, o701 P, o702 P, o703 P, o704 P, o705 P, o706 P, o707 P, o708 P, o709 P, o710 P, o711 P, o712 P, o713 P, o714 P, o715 P, o716 P, o717 P, o718 P, o719 P, o720 P, o721 P, o722 P, o723 P, o724 P, o725 P, o726 P, o727 P, o728 P, o729 P]
noncomputable def s25 (P : PP) : ST := ⟨t25 P, 730, 2019⟩
noncomputable def o146v26 (P : PP) : Obj := ⟨(.type PySem.W.SL.s14018661285674007319x4), none, (.dict #[⟨kq P a35, (.str a35 553), (.str a1 258)⟩, ⟨kq P a37, (.str a37 555), (.str a136 554)⟩, ⟨kq P a38, (.str a38 557), (.int (76) 556)⟩, ⟨kq P a220, (.str a220 2019), (.ref 164)⟩] 4), #[]⟩
noncomputable def o730 (P : PP) : Obj := ⟨(.type PySem.W.SL.s3492446563574874994x13), none, (.fields #[(.ref 164), (.int (0) 0)]), #[]⟩
noncomputable def o731 (P : PP) : Obj := ⟨(.type PySem.W.SL.s14018661285674007319x4), none, (.dict #[] 0), #[]⟩
noncomputable def o732 (P : PP) : Obj := ⟨(.type PySem.W.SL.s14018661285674007319x4), none, (.dict #[] 0), #[]⟩
noncomputable def t26 (P : PP) : BT := putAll (setAll (t25 P) [(146, o146v26 P)]) 730 [o730 P, o731 P, o732 P]
noncomputable def s26 (P : PP) : ST := ⟨t26 P, 733, 2020⟩
noncomputable def o730v27 (P : PP) : Obj := ⟨(.type PySem.W.SL.s3492446563574874994x13), none, (.fields #[.none, (.int (59) 0)]), #[]⟩
noncomputable def o731v27 (P : PP) : Obj := ⟨(.type PySem.W.SL.s14018661285674007319x4), none, (.dict #[⟨kq P a137, (.str a137 558), (.ref 153)⟩, ⟨kq P a139, (.str a139 576), (.ref 156)⟩, ⟨kq P a140, (.str a140 594), (.ref 159)⟩, ⟨kq P a142, (.str a142 612), (.ref 162)⟩, ⟨kq P a147, (.str a147 639), (.ref 175)⟩, ⟨kq P a148, (.str a148 640), (.ref 182)⟩, ⟨kq P a150, (.str a150 643), (.ref 197)⟩, ⟨kq P a151, (.str a151 644), (.ref 204)⟩, ⟨kq P a152, (.str a152 645), (.ref 211)⟩, ⟨kq P a146, (.str a146 646), (.ref 218)⟩, ⟨kq P a155, (.str a155 783), (.ref 232)⟩, ⟨kq P a156, (.str a156 784), (.ref 239)⟩, ⟨kq P a157, (.str a157 785), (.ref 246)⟩, ⟨kq P a158, (.str a158 787), (.ref 257)⟩, ⟨kq P a154, (.str a154 788), (.ref 264)⟩, ⟨kq P a162, (.str a162 901), (.ref 278)⟩, ⟨kq P a163, (.str a163 902), (.ref 285)⟩, ⟨kq P a161, (.str a161 903), (.ref 292)⟩, ⟨kq P a166, (.str a166 972), (.ref 306)⟩, ⟨kq P a167, (.str a167 974), (.ref 317)⟩, ⟨kq P a168, (.str a168 975), (.ref 324)⟩, ⟨kq P a169, (.str a169 976), (.ref 331)⟩, ⟨kq P a170, (.str a170 978), (.ref 342)⟩, ⟨kq P a165, (.str a165 979), (.ref 349)⟩, ⟨kq P a174, (.str a174 1117), (.ref 367)⟩, ⟨kq P a173, (.str a173 1121), (.ref 386)⟩, ⟨kq P a176, (.str a176 1192), (.ref 420)⟩, ⟨kq P a180, (.str a180 1241), (.ref 434)⟩, ⟨kq P a181, (.str a181 1242), (.ref 441)⟩, ⟨kq P a182, (.str a182 1243), (.ref 448)⟩, ⟨kq P a183, (.str a183 1244), (.ref 455)⟩, ⟨kq P a184, (.str a184 1245), (.ref 462)⟩, ⟨kq P a185, (.str a185 1246), (.ref 469)⟩, ⟨kq P a186, (.str a186 1247), (.ref 476)⟩, ⟨kq P a179, (.str a179 1248), (.ref 483)⟩, ⟨kq P a189, (.str a189 1418), (.ref 497)⟩, ⟨kq P a188, (.str a188 1423), (.ref 520)⟩, ⟨kq P a192, (.str a192 1489), (.ref 534)⟩, ⟨kq P a193, (.str a193 1490), (.ref 541)⟩, ⟨kq P a194, (.str a194 1491), (.ref 548)⟩, ⟨kq P a195, (.str a195 1492), (.ref 555)⟩, ⟨kq P a196, (.str a196 1493), (.ref 562)⟩, ⟨kq P a197, (.str a197 1494), (.ref 569)⟩, ⟨kq P a198, (.str a198 1495), (.ref 576)⟩, ⟨kq P a191, (.str a191 1496), (.ref 583)⟩, ⟨kq P a200, (.str a200 1665), (.ref 597)⟩, ⟨kq P a201, (.str a201 1666), (.ref 604)⟩, ⟨kq P a205, (.str a205 1716), (.ref 622)⟩, ⟨kq P a206, (.str a206 1717), (.ref 629)⟩, ⟨kq P a204, (.str a204 1718), (.ref 636)⟩, ⟨kq P a210, (.str a210 1796), (.ref 670)⟩, ⟨kq P a211, (.str a211 1797), (.ref 677)⟩, ⟨kq P a209, (.str a209 1798), (.ref 684)⟩, ⟨kq P a213, (.str a213 1879), (.ref 689)⟩, ⟨kq P a215, (.str a215 1899), (.ref 702)⟩, ⟨kq P a216, (.str a216 1901), (.ref 708)⟩, ⟨kq P a217, (.str a217 1903), (.ref 714)⟩, ⟨kq P a218, (.str a218 1905), (.ref 720)⟩, ⟨kq P a212, (.str a212 1907), (.ref 726)⟩] 59), #[]⟩
noncomputable def o732v27 (P : PP) : Obj := ⟨(.type PySem.W.SL.s14018661285674007319x4), none, (.dict #[⟨kq P a221, (.str a221 2020), (.ref 726)⟩] 1), #[]⟩
noncomputable def o733 (P : PP) : Obj := ⟨(.type PySem.W.SL.s2766695959194262286x5), none, (.seq #[] 0), #[]⟩
noncomputable def o734 (P : PP) : Obj := ⟨(.type PySem.W.SL.s5991306692159431302x13), none, (.fields #[(.ref 733), .none, .none, .none, (.bool false), .none]), #[]⟩
noncomputable def t27 (P : PP) : BT := putAll (setAll (t26 P) [(730, o730v27 P), (731, o731v27 P), (732, o732v27 P)]) 733 [o733 P, o734 P]
noncomputable def s27 (P : PP) : ST := ⟨t27 P, 735, 2197⟩
noncomputable def o146v28 (P : PP) : Obj := ⟨(.type PySem.W.SL.s14018661285674007319x4), none, (.dict #[⟨kq P a35, (.str a35 553), (.str a1 258)⟩, ⟨kq P a37, (.str a37 555), (.str a136 554)⟩, ⟨kq P a38, (.str a38 557), (.int (76) 556)⟩, ⟨kq P a220, (.str a220 2019), (.ref 164)⟩, ⟨kq P a222, (.str a222 2197), (.ref 731)⟩] 5), #[]⟩
noncomputable def o732v28 (P : PP) : Obj := ⟨(.type PySem.W.SL.s14018661285674007319x4), none, (.dict #[] 2), #[]⟩
noncomputable def o735 (P : PP) : Obj := ⟨(.type PySem.W.SL.s3492446563574874994x13), none, (.fields #[(.ref 164), (.int (0) 0)]), #[]⟩
noncomputable def o736 (P : PP) : Obj := ⟨(.type PySem.W.SL.s14018661285674007319x4), none, (.dict #[] 0), #[]⟩
noncomputable def o737 (P : PP) : Obj := ⟨(.type PySem.W.SL.s14018661285674007319x4), none, (.dict #[] 0), #[]⟩
noncomputable def t28 (P : PP) : BT := putAll (setAll (t27 P) [(146, o146v28 P), (732, o732v28 P)]) 735 [o735 P, o736 P, o737 P]
noncomputable def s28 (P : PP) : ST := ⟨t28 P, 738, 2198⟩
noncomputable def o735v29 (P : PP) : Obj := ⟨(.type PySem.W.SL.s3492446563574874994x13), none, (.fields #[.none, (.int (59) 0)]), #[]⟩
noncomputable def o736v29 (P : PP) : Obj := ⟨(.type PySem.W.SL.s14018661285674007319x4), none, (.dict #[⟨(55), (.int (55) 414), (.ref 153)⟩, ⟨(23), (.int (23) 408), (.ref 156)⟩, ⟨(111), (.int (111) 420), (.ref 159)⟩] 3), #[]⟩
noncomputable def o737v29 (P : PP) : Obj := ⟨(.type PySem.W.SL.s14018661285674007319x4), none, (.dict #[⟨kq P a221, (.str a221 2198), (.ref 726)⟩] 1), #[]⟩
noncomputable def o738 (P : PP) : Obj := ⟨(.type PySem.W.SL.s2766695959194262286x5), none, (.seq #[(.str a138 2200), (.str a141 2201)] 0), #[]⟩
noncomputable def o739 (P : PP) : Obj := ⟨(.type PySem.W.SL.s2766695959194262286x5), none, (.seq #[(.str a138 2206), (.str a141 2207)] 0), #[]⟩
noncomputable def o740 (P : PP) : Obj := ⟨(.type PySem.W.SL.s2766695959194262286x5), none, (.seq #[(.str a138 2212), (.str a141 2213)] 0), #[]⟩
noncomputable def o741 (P : PP) : Obj := ⟨(.type PySem.W.SL.s2766695959194262286x5), none, (.seq #[(.str a138 2218), (.str a141 2219)] 0), #[]⟩
noncomputable def o742 (P : PP) : Obj := ⟨(.type PySem.W.SL.s2766695959194262286x5), none, (.seq #[(.str a138 2222), (.str a141 2223)] 0), #[]⟩
noncomputable def o743 (P : PP) : Obj := ⟨(.type PySem.W.SL.s2766695959194262286x5), none, (.seq #[(.str a138 2226), (.str a141 2227)] 0), #[]⟩
noncomputable def o744 (P : PP) : Obj := ⟨(.type PySem.W.SL.s2766695959194262286x5), none, (.seq #[(.str a138 2230), (.str a141 2231)] 0), #[]⟩
noncomputable def o745 (P : PP) : Obj := ⟨(.type PySem.W.SL.s2766695959194262286x5), none, (.seq #[(.str a138 2234), (.str a141 2235)] 0), #[]⟩
noncomputable def o746 (P : PP) : Obj := ⟨(.type PySem.W.SL.s2766695959194262286x5), none, (.seq #[(.str a138 2238), (.str a141 2239)] 0), #[]⟩
noncomputable def o747 (P : PP) : Obj := ⟨(.type PySem.W.SL.s2766695959194262286x5), none, (.seq #[(.str a138 2242), (.str a141 2243)] 0), #[]⟩
noncomputable def o748 (P : PP) : Obj := ⟨(.type PySem.W.SL.s2766695959194262286x5), none, (.seq #[(.str a138 2246), (.str a141 2247)] 0), #[]⟩
noncomputable def o749 (P : PP) : Obj := ⟨(.type PySem.W.SL.s2766695959194262286x5), none, (.seq #[(.str a138 2250), (.str a141 2251)] 0), #[]⟩
noncomputable def o750 (P : PP) : Obj := ⟨(.type PySem.W.SL.s2766695959194262286x5), none, (.seq #[(.str a138 2254), (.str a141 2255)] 0), #[]⟩
noncomputable def o751 (P : PP) : Obj := ⟨(.type PySem.W.SL.s2766695959194262286x5), none, (.seq #[(.str a138 2258), (.str a141 2259)] 0), #[]⟩
noncomputable def o752 (P : PP) : Obj := ⟨(.type PySem.W.SL.s2766695959194262286x5), none, (.seq #[(.str a138 2262), (.str a141 2263)] 0), #[]⟩
noncomputable def o753 (P : PP) : Obj := ⟨(.type PySem.W.SL.s2766695959194262286x5), none, (.seq #[(.str a138 2266), (.str a141 2267)] 0), #[]⟩
noncomputable def o754 (P : PP) : Obj := ⟨(.type PySem.W.SL.s2766695959194262286x5), none, (.seq #[(.str a138 2270), (.str a141 2271)] 0), #[]⟩
noncomputable def o755 (P : PP) : Obj := ⟨(.type PySem.W.SL.s2766695959194262286x5), none, (.seq #[(.str a138 2274), (.str a141 2275)] 0), #[]⟩
noncomputable def o756 (P : PP) : Obj := ⟨(.type PySem.W.SL.s2766695959194262286x5), none, (.seq #[(.str a138 2278), (.str a141 2279)] 0), #[]⟩
noncomputable def o757 (P : PP) : Obj := ⟨(.type PySem.W.SL.s2766695959194262286x5), none, (.seq #[(.str a138 2282), (.str a141 2283)] 0), #[]⟩
noncomputable def o758 (P : PP) : Obj := ⟨(.type PySem.W.SL.s2766695959194262286x5), none, (.seq #[(.str a138 2286), (.str a141 2287)] 0), #[]⟩
noncomputable def o759 (P : PP) : Obj := ⟨(.type PySem.W.SL.s2766695959194262286x5), none, (.seq #[(.str a138 2290), (.str a141 2291)] 0), #[]⟩
noncomputable def o760 (P : PP) : Obj := ⟨(.type PySem.W.SL.s2766695959194262286x5), none, (.seq #[(.str a138 2294), (.str a141 2295)] 0), #[]⟩
noncomputable def o761 (P : PP) : Obj := ⟨(.type PySem.W.SL.s2766695959194262286x5), none, (.seq #[(.str a138 2298), (.str a141 2299)] 0), #[]⟩
noncomputable def o762 (P : PP) : Obj := ⟨(.type PySem.W.SL.s2766695959194262286x5), none, (.seq #[(.str a138 2302), (.str a141 2303)] 0), #[]⟩
noncomputable def o763 (P : PP) : Obj := ⟨(.type PySem.W.SL.s2766695959194262286x5), none, (.seq #[(.str a138 2306), (.str a141 2307)] 0), #[]⟩
noncomputable def o764 (P : PP) : Obj := ⟨(.type PySem.W.SL.s2766695959194262286x5), none, (.seq #[(.str a138 2310), (.str a141 2311)] 0), #[]⟩
noncomputable def o765 (P : PP) : Obj := ⟨(.type PySem.W.SL.s2766695959194262286x5), none, (.seq #[(.str a138 2314), (.str a141 2315)] 0), #[]⟩
noncomputable def o766 (P : PP) : Obj := ⟨(.type PySem.W.SL.s2766695959194262286x5), none, (.seq #[(.str a138 2318), (.str a141 2319)] 0), #[]⟩
noncomputable def o767 (P : PP) : Obj := ⟨(.type PySem.W.SL.s2766695959194262286x5), none, (.seq #[(.str a138 2322), (.str a141 2323)] 0), #[]⟩
noncomputable def o768 (P : PP) : Obj := ⟨(.type PySem.W.SL.s2766695959194262286x5), none, (.seq #[(.str a138 2326), (.str a141 2327)] 0), #[]⟩
noncomputable def o769 (P : PP) : Obj := ⟨(.type PySem.W.SL.s2766695959194262286x5), none, (.seq #[(.str a138 2330), (.str a141 2331)] 0), #[]⟩
noncomputable def o770 (P : PP) : Obj := ⟨(.type PySem.W.SL.s2766695959194262286x5), none, (.seq #[(.str a138 2334), (.str a141 2335)] 0), #[]⟩
noncomputable def o771 (P : PP) : Obj := ⟨(.type PySem.W.SL.s2766695959194262286x5), none, (.seq #[(.str a138 2338), (.str a141 2339)] 0), #[]⟩
noncomputable def o772 (P : PP) : Obj := ⟨(.type PySem.W.SL.s2766695959194262286x5), none, (.seq #[(.str a138 2342), (.str a141 2343)] 0), #[]⟩
noncomputable def o773 (P : PP) : Obj := ⟨(.type PySem.W.SL.s2766695959194262286x5), none, (.seq #[(.str a138 2346), (.str a141 2347)] 0), #[]⟩
noncomputable def o774 (P : PP) : Obj := ⟨(.type PySem.W.SL.s2766695959194262286x5), none, (.seq #[(.str a138 2350), (.str a141 2351)] 0), #[]⟩
noncomputable def o775 (P : PP) : Obj := ⟨(.type PySem.W.SL.s2766695959194262286x5), none, (.seq #[(.str a138 2354), (.str a141 2355)] 0), #[]⟩
noncomputable def o776 (P : PP) : Obj := ⟨(.type PySem.W.SL.s2766695959194262286x5), none, (.seq #[(.str a138 2358), (.str a141 2359)] 0), #[]⟩
noncomputable def o777 (P : PP) : Obj := ⟨(.type PySem.W.SL.s2766695959194262286x5), none, (.seq #[(.str a138 2362), (.str a141 2363)] 0), #[]⟩
noncomputable def o778 (P : PP) : Obj := ⟨(.type PySem.W.SL.s2766695959194262286x5), none, (.seq #[(.str a138 2366), (.str a141 2367)] 0), #[]⟩
noncomputable def o779 (P : PP) : Obj := ⟨(.type PySem.W.SL.s2766695959194262286x5), none, (.seq #[(.str a138 2370), (.str a141 2371)] 0), #[]⟩
noncomputable def o780 (P : PP) : Obj := ⟨(.type PySem.W.SL.s2766695959194262286x5), none, (.seq #[(.str a138 2374), (.str a141 2375)] 0), #[]⟩
noncomputable def o781 (P : PP) : Obj := ⟨(.type PySem.W.SL.s2766695959194262286x5), none, (.seq #[(.str a138 2378), (.str a141 2379)] 0), #[]⟩
noncomputable def o782 (P : PP) : Obj := ⟨(.type PySem.W.SL.s2766695959194262286x5), none, (.seq #[(.str a138 2382), (.str a141 2383)] 0), #[]⟩
noncomputable def o783 (P : PP) : Obj := ⟨(.type PySem.W.SL.s2766695959194262286x5), none, (.seq #[(.str a138 2386), (.str a141 2387)] 0), #[]⟩
noncomputable def o784 (P : PP) : Obj := ⟨(.type PySem.W.SL.s2766695959194262286x5), none, (.seq #[(.str a138 2390), (.str a141 2391)] 0), #[]⟩
noncomputable def o785 (P : PP) : Obj := ⟨(.type PySem.W.SL.s2766695959194262286x5), none, (.seq #[(.str a138 2394), (.str a141 2395)] 0), #[]⟩
noncomputable def o786 (P : PP) : Obj := ⟨(.type PySem.W.SL.s2766695959194262286x5), none, (.seq #[(.str a138 2398), (.str a141 2399)] 0), #[]⟩
noncomputable def o787 (P : PP) : Obj := ⟨(.type PySem.W.SL.s2766695959194262286x5), none, (.seq #[(.str a138 2402), (.str a141 2403)] 0), #[]⟩
noncomputable def o788 (P : PP) : Obj := ⟨(.type PySem.W.SL.s2766695959194262286x5), none, (.seq #[(.str a138 2406), (.str a141 2407)] 0), #[]⟩
noncomputable def o789 (P : PP) : Obj := ⟨(.type PySem.W.SL.s2766695959194262286x5), none, (.seq #[(.str a138 2410), (.str a141 2411)] 0), #[]⟩
noncomputable def o790 (P : PP) : Obj := ⟨(.type PySem.W.SL.s2766695959194262286x5), none, (.seq #[(.str a138 2414), (.str a141 2415)] 0), #[]⟩
noncomputable def o791 (P : PP) : Obj := ⟨(.type PySem.W.SL.s2766695959194262286x5), none, (.seq #[(.str a138 2418), (.str a141 2419)] 0), #[]⟩
noncomputable def o792 (P : PP) : Obj := ⟨(.type PySem.W.SL.s2766695959194262286x5), none, (.seq #[(.str a138 2422), (.str a141 2423)] 0), #[]⟩
noncomputable def o793 (P : PP) : Obj := ⟨(.type PySem.W.SL.s2766695959194262286x5), none, (.seq #[(.str a138 2426), (.str a141 2427)] 0), #[]⟩
noncomputable def o794 (P : PP) : Obj := ⟨(.type PySem.W.SL.s2766695959194262286x5), none, (.seq #[(.str a138 2430), (.str a141 2431)] 0), #[]⟩
noncomputable def o795 (P : PP) : Obj := ⟨(.type PySem.W.SL.s2766695959194262286x5), none, (.seq #[(.str a138 2434), (.str a141 2435)] 0), #[]⟩
noncomputable def o796 (P : PP) : Obj := ⟨(.type PySem.W.SL.s2766695959194262286x5), none, (.seq #[(.str a138 2438), (.str a141 2439)] 0), #[]⟩
noncomputable def o797 (P : PP) : Obj := ⟨(.type PySem.W.SL.s2766695959194262286x5), none, (.seq #[] 0), #[]⟩
noncomputable def o798 (P : PP) : Obj := ⟨(.type PySem.W.SL.s5991306692159431302x13), none, (.fields #[(.ref 797), .none, .none, .none, (.bool false), .none]), #[]⟩
noncomputable def t29 (P : PP) : BT := putAll (setAll (t28 P) [(735, o735v29 P), (736, o736v29 P), (737, o737v29 P)]) 738 [o738 P, o739 P, o740 P, o741 P, o742 P, o743 P, o744 P, o745 P, o746 P, o747 P, o748 P, o749 P, o750 P, o751 P, o752 P, o753 P, o754 P, o755 P, o756 P, o757 P, o758 P, o759 P, o760 P, o761 P, o762 P, o763 P, o764 P, o765 P, o766 P, o767 P, o768 P, o769 P, o770 P, o771 P, o772 P, o773 P, o774 P, o775 P, o776 P, o777 P, o778 P, o779 P, o780 P, o781 P, o782 P, o783 P, o784 P, o785 P, o786 P, o787 P, o788 P, o789 P, o790 P, o791 P, o792 P, o793 P, o794 P, o795 P, o796 P, o797 P, o798 P]
noncomputable def s29 (P : PP) : ST := ⟨t29 P, 799, 2440⟩
noncomputable def o146v30 (P : PP) : Obj := ⟨(.type PySem.W.SL.s14018661285674007319x4), none, (.dict #[⟨kq P a35, (.str a35 553), (.str a1 258)⟩, ⟨kq P a37, (.str a37 555), (.str a136 554)⟩, ⟨kq P a38, (.str a38 557), (.int (76) 556)⟩, ⟨kq P a220, (.str a220 2019), (.ref 164)⟩, ⟨kq P a222, (.str a222 2197), (.ref 731)⟩, ⟨kq P a223, (.str a223 2440), (.ref 736)⟩] 6), #[]⟩
noncomputable def o737v30 (P : PP) : Obj := ⟨(.type PySem.W.SL.s14018661285674007319x4), none, (.dict #[] 2), #[]⟩
noncomputable def o799 (P : PP) : Obj := ⟨(.type PySem.W.SL.s3492446563574874994x13), none, (.fields #[(.ref 164), (.int (0) 0)]), #[]⟩
noncomputable def o800 (P : PP) : Obj := ⟨(.type PySem.W.SL.s14018661285674007319x4), none, (.dict #[] 0), #[]⟩
noncomputable def o801 (P : PP) : Obj := ⟨(.type PySem.W.SL.s14018661285674007319x4), none, (.dict #[] 0), #[]⟩
noncomputable def t30 (P : PP) : BT := putAll (setAll (t29 P) [(146, o146v30 P), (737, o737v30 P)]) 799 [o799 P, o800 P, o801 P]
noncomputable def s30 (P : PP) : ST := ⟨t30 P, 802, 2441⟩
noncomputable def o799v31 (P : PP) : Obj := ⟨(.type PySem.W.SL.s3492446563574874994x13), none, (.fields #[.none, (.int (59) 0)]), #[]⟩
noncomputable def o800v31 (P : PP) : Obj := ⟨(.type PySem.W.SL.s14018661285674007319x4), none, (.dict #[⟨(103), (.int (103) 2482), (.ref 162)⟩, ⟨(99), (.int (99) 2501), (.ref 175)⟩, ⟨(4195), (.int (4195) 2520), (.ref 182)⟩, ⟨(16483), (.int (16483) 2539), (.ref 197)⟩, ⟨(20579), (.int (20579) 2558), (.ref 204)⟩, ⟨(24675), (.int (24675) 2577), (.ref 211)⟩, ⟨(28771), (.int (28771) 2596), (.ref 218)⟩, ⟨(3), (.int (3) 2615), (.ref 232)⟩, ⟨(4099), (.int (4099) 2634), (.ref 239)⟩, ⟨(8195), (.int (8195) 2653), (.ref 246)⟩, ⟨(16387), (.int (16387) 2672), (.ref 257)⟩, ⟨(20483), (.int (20483) 2691), (.ref 264)⟩, ⟨(35), (.int (35) 2710), (.ref 278)⟩, ⟨(4131), (.int (4131) 2729), (.ref 285)⟩, ⟨(8227), (.int (8227) 2748), (.ref 292)⟩, ⟨(19), (.int (19) 2767), (.ref 306)⟩, ⟨(8211), (.int (8211) 2786), (.ref 317)⟩, ⟨(12307), (.int (12307) 2805), (.ref 324)⟩, ⟨(16403), (.int (16403) 2824), (.ref 331)⟩, ⟨(24595), (.int (24595) 2843), (.ref 342)⟩, ⟨(28691), (.int (28691) 2862), (.ref 349)⟩, ⟨(15), (.int (15) 3049), (.ref 597)⟩, ⟨(4111), (.int (4111) 3068), (.ref 604)⟩, ⟨(4211), (.int (4211) 3087), (.ref 622)⟩, ⟨(8307), (.int (8307) 3106), (.ref 629)⟩, ⟨(12403), (.int (12403) 3125), (.ref 636)⟩, ⟨(20595), (.int (20595) 3144), (.ref 670)⟩, ⟨(24691), (.int (24691) 3163), (.ref 677)⟩, ⟨(28787), (.int (28787) 3182), (.ref 684)⟩] 29), #[]⟩
noncomputable def o801v31 (P : PP) : Obj := ⟨(.type PySem.W.SL.s14018661285674007319x4), none, (.dict #[⟨kq P a221, (.str a221 2441), (.ref 726)⟩] 1), #[]⟩
noncomputable def o802 (P : PP) : Obj := ⟨(.type PySem.W.SL.s2766695959194262286x5), none, (.seq #[(.str a143 2443), (.str a160 2444), (.str a145 2445), (.str a200 2446), (.str a203 2447), (.str a208 2448)] 0), #[]⟩
noncomputable def o803 (P : PP) : Obj := ⟨(.type PySem.W.SL.s2766695959194262286x5), none, (.seq #[(.str a143 2451), (.str a160 2452), (.str a145 2453), (.str a200 2454), (.str a203 2455), (.str a208 2456)] 0), #[]⟩
noncomputable def o804 (P : PP) : Obj := ⟨(.type PySem.W.SL.s2766695959194262286x5), none, (.seq #[(.str a143 2459), (.str a160 2460), (.str a145 2461), (.str a200 2462), (.str a203 2463), (.str a208 2464)] 0), #[]⟩
noncomputable def o805 (P : PP) : Obj := ⟨(.type PySem.W.SL.s2766695959194262286x5), none, (.seq #[(.str a143 2467), (.str a160 2468), (.str a145 2469), (.str a200 2470), (.str a203 2471), (.str a208 2472)] 0), #[]⟩
noncomputable def o806 (P : PP) : Obj := ⟨(.type PySem.W.SL.s658472552662922059x5), none, (.dict #[⟨kq P a42, (.str a42 2473), (.ref 162)⟩] 1), #[]⟩
noncomputable def o807 (P : PP) : Obj := ⟨(.type PySem.W.SL.s2766695959194262286x5), none, (.seq #[(.str a143 2486), (.str a160 2487), (.str a145 2488), (.str a200 2489), (.str a203 2490), (.str a208 2491)] 0), #[]⟩
noncomputable def o808 (P : PP) : Obj := ⟨(.type PySem.W.SL.s658472552662922059x5), none, (.dict #[⟨kq P a42, (.str a42 2492), (.ref 175)⟩] 1), #[]⟩
noncomputable def o809 (P : PP) : Obj := ⟨(.type PySem.W.SL.s2766695959194262286x5), none, (.seq #[(.str a143 2505), (.str a160 2506), (.str a145 2507), (.str a200 2508), (.str a203 2509), (.str a208 2510)] 0), #[]⟩
noncomputable def o810 (P : PP) : Obj := ⟨(.type PySem.W.SL.s658472552662922059x5), none, (.dict #[⟨kq P a42, (.str a42 2511), (.ref 182)⟩] 1), #[]⟩
noncomputable def o811 (P : PP) : Obj := ⟨(.type PySem.W.SL.s2766695959194262286x5), none, (.seq #[(.str a143 2524), (.str a160 2525), (.str a145 2526), (.str a200 2527), (.str a203 2528), (.str a208 2529)] 0), #[]⟩
noncomputable def o812 (P : PP) : Obj := ⟨(.type PySem.W.SL.s658472552662922059x5), none, (.dict #[⟨kq P a42, (.str a42 2530), (.ref 197)⟩] 1), #[]⟩
noncomputable def o813 (P : PP) : Obj := ⟨(.type PySem.W.SL.s2766695959194262286x5), none, (.seq #[(.str a143 2543), (.str a160 2544), (.str a145 2545), (.str a200 2546), (.str a203 2547), (.str a208 2548)] 0), #[]⟩
noncomputable def o814 (P : PP) : Obj := ⟨(.type PySem.W.SL.s658472552662922059x5), none, (.dict #[⟨kq P a42, (.str a42 2549), (.ref 204)⟩] 1), #[]⟩
noncomputable def o815 (P : PP) : Obj := ⟨(.type PySem.W.SL.s2766695959194262286x5), none, (.seq #[(.str a143 2562), (.str a160 2563), (.str a145 2564), (.str a200 2565), (.str a203 2566), (.str a208 2567)] 0), #[]⟩
noncomputable def o816 (P : PP) : Obj := ⟨(.type PySem.W.SL.s658472552662922059x5), none, (.dict #[⟨kq P a42, (.str a42 2568), (.ref 211)⟩] 1), #[]⟩
noncomputable def o817 (P : PP) : Obj := ⟨(.type PySem.W.SL.s2766695959194262286x5), none, (.seq #[(.str a143 2581), (.str a160 2582), (.str a145 2583), (.str a200 2584), (.str a203 2585), (.str a208 2586)] 0), #[]⟩
noncomputable def o818 (P : PP) : Obj := ⟨(.type PySem.W.SL.s658472552662922059x5), none, (.dict #[⟨kq P a42, (.str a42 2587), (.ref 218)⟩] 1), #[]⟩
noncomputable def o819 (P : PP) : Obj := ⟨(.type PySem.W.SL.s2766695959194262286x5), none, (.seq #[(.str a143 2600), (.str a160 2601), (.str a145 2602), (.str a200 2603), (.str a203 2604), (.str a208 2605)] 0), #[]⟩
noncomputable def o820 (P : PP) : Obj := ⟨(.type PySem.W.SL.s658472552662922059x5), none, (.dict #[⟨kq P a42, (.str a42 2606), (.ref 232)⟩] 1), #[]⟩
noncomputable def o821 (P : PP) : Obj := ⟨(.type PySem.W.SL.s2766695959194262286x5), none, (.seq #[(.str a143 2619), (.str a160 2620), (.str a145 2621), (.str a200 2622), (.str a203 2623), (.str a208 2624)] 0), #[]⟩
noncomputable def o822 (P : PP) : Obj := ⟨(.type PySem.W.SL.s658472552662922059x5), none, (.dict #[⟨kq P a42, (.str a42 2625), (.ref 239)⟩] 1), #[]⟩
noncomputable def o823 (P : PP) : Obj := ⟨(.type PySem.W.SL.s2766695959194262286x5), none, (.seq #[(.str a143 2638), (.str a160 2639), (.str a145 2640), (.str a200 2641), (.str a203 2642), (.str a208 2643)] 0), #[]⟩
noncomputable def o824 (P : PP) : Obj := ⟨(.type PySem.W.SL.s658472552662922059x5), none, (.dict #[⟨kq P a42, (.str a42 2644), (.ref 246)⟩] 1), #[]⟩
noncomputable def o825 (P : PP) : Obj := ⟨(.type PySem.W.SL.s2766695959194262286x5), none, (.seq #[(.str a143 2657), (.str a160 2658), (.str a145 2659), (.str a200 2660), (.str a203 2661), (.str a208 2662)] 0), #[]⟩
noncomputable def o826 (P : PP) : Obj := ⟨(.type PySem.W.SL.s658472552662922059x5), none, (.dict #[⟨kq P a42, (.str a42 2663), (.ref 257)⟩] 1), #[]⟩
noncomputable def o827 (P : PP) : Obj := ⟨(.type PySem.W.SL.s2766695959194262286x5), none, (.seq #[(.str a143 2676), (.str a160 2677), (.str a145 2678), (.str a200 2679), (.str a203 2680), (.str a208 2681)] 0), #[]⟩
noncomputable def o828 (P : PP) : Obj := ⟨(.type PySem.W.SL.s658472552662922059x5), none, (.dict #[⟨kq P a42, (.str a42 2682), (.ref 264)⟩] 1), #[]⟩
noncomputable def o829 (P : PP) : Obj := ⟨(.type PySem.W.SL.s2766695959194262286x5), none, (.seq #[(.str a143 2695), (.str a160 2696), (.str a145 2697), (.str a200 2698), (.str a203 2699), (.str a208 2700)] 0), #[]⟩
noncomputable def o830 (P : PP) : Obj := ⟨(.type PySem.W.SL.s658472552662922059x5), none, (.dict #[⟨kq P a42, (.str a42 2701), (.ref 278)⟩] 1), #[]⟩
noncomputable def o831 (P : PP) : Obj := ⟨(.type PySem.W.SL.s2766695959194262286x5), none, (.seq #[(.str a143 2714), (.str a160 2715), (.str a145 2716), (.str a200 2717), (.str a203 2718), (.str a208 2719)] 0), #[]⟩
noncomputable def o832 (P : PP) : Obj := ⟨(.type PySem.W.SL.s658472552662922059x5), none, (.dict #[⟨kq P a42, (.str a42 2720), (.ref 285)⟩] 1), #[]⟩
noncomputable def o833 (P : PP) : Obj := ⟨(.type PySem.W.SL.s2766695959194262286x5), none, (.seq #[(.str a143 2733), (.str a160 2734), (.str a145 2735), (.str a200 2736), (.str a203 2737), (.str a208 2738)] 0), #[]⟩
noncomputable def o834 (P : PP) : Obj := ⟨(.type PySem.W.SL.s658472552662922059x5), none, (.dict #[⟨kq P a42, (.str a42 2739), (.ref 292)⟩] 1), #[]⟩
noncomputable def o835 (P : PP) : Obj := ⟨(.type PySem.W.SL.s2766695959194262286x5), none, (.seq #[(.str a143 2752), (.str a160 2753), (.str a145 2754), (.str a200 2755), (.str a203 2756), (.str a208 2757)] 0), #[]⟩
noncomputable def o836 (P : PP) : Obj := ⟨(.type PySem.W.SL.s658472552662922059x5), none, (.dict #[⟨kq P a42, (.str a42 2758), (.ref 306)⟩] 1), #[]⟩
noncomputable def o837 (P : PP) : Obj := ⟨(.type PySem.W.SL.s2766695959194262286x5), none, (.seq #[(.str a143 2771), (.str a160 2772), (.str a145 2773), (.str a200 2774), (.str a203 2775), (.str a208 2776)] 0), #[]⟩
noncomputable def o838 (P : PP) : Obj := ⟨(.type PySem.W.SL.s658472552662922059x5), none, (.dict #[⟨kq P a42, (.str a42 2777), (.ref 317)⟩] 1), #[]⟩
noncomputable def o839 (P : PP) : Obj := ⟨(.type PySem.W.SL.s2766695959194262286x5), none, (.seq #[(.str a143 2790), (.str a160 2791), (.str a145 2792), (.str a200 2793), (.str a203 2794), (.str a208 2795)] 0), #[]⟩
noncomputable def o840 (P : PP) : Obj := ⟨(.type PySem.W.SL.s658472552662922059x5), none, (.dict #[⟨kq P a42, (.str a42 2796), (.ref 324)⟩] 1), #[]⟩
noncomputable def o841 (P : PP) : Obj := ⟨(.type PySem.W.SL.s2766695959194262286x5), none, (.seq #[(.str a143 2809), (.str a160 2810), (.str a145 2811), (.str a200 2812), (.str a203 2813), (.str a208 2814)] 0), #[]⟩
noncomputable def o842 (P : PP) : Obj := ⟨(.type PySem.W.SL.s658472552662922059x5), none, (.dict #[⟨kq P a42, (.str a42 2815), (.ref 331)⟩] 1), #[]⟩
noncomputable def o843 (P : PP) : Obj := ⟨(.type PySem.W.SL.s2766695959194262286x5), none, (.seq #[(.str a143 2828), (.str a160 2829), (.str a145 2830), (.str a200 2831), (.str a203 2832), (.str a208 2833)] 0), #[]⟩
noncomputable def o844 (P : PP) : Obj := ⟨(.type PySem.W.SL.s658472552662922059x5), none, (.dict #[⟨kq P a42, (.str a42 2834), (.ref 342)⟩] 1), #[]⟩
noncomputable def o845 (P : PP) : Obj := ⟨(.type PySem.W.SL.s2766695959194262286x5), none, (.seq #[(.str a143 2847), (.str a160 2848), (.str a145 2849), (.str a200 2850), (.str a203 2851), (.str a208 2852)] 0), #[]⟩
noncomputable def o846 (P : PP) : Obj := ⟨(.type PySem.W.SL.s658472552662922059x5), none, (.dict #[⟨kq P a42, (.str a42 2853), (.ref 349)⟩] 1), #[]⟩
noncomputable def o847 (P : PP) : Obj := ⟨(.type PySem.W.SL.s2766695959194262286x5), none, (.seq #[(.str a143 2866), (.str a160 2867), (.str a145 2868), (.str a200 2869), (.str a203 2870), (.str a208 2871)] 0), #[]⟩
noncomputable def o848 (P : PP) : Obj := ⟨(.type PySem.W.SL.s2766695959194262286x5), none, (.seq #[(.str a143 2874), (.str a160 2875), (.str a145 2876), (.str a200 2877), (.str a203 2878), (.str a208 2879)] 0), #[]⟩
noncomputable def o849 (P : PP) : Obj := ⟨(.type PySem.W.SL.s2766695959194262286x5), none, (.seq #[(.str a143 2882), (.str a160 2883), (.str a145 2884), (.str a200 2885), (.str a203 2886), (.str a208 2887)] 0), #[]⟩
noncomputable def o850 (P : PP) : Obj := ⟨(.type PySem.W.SL.s2766695959194262286x5), none, (.seq #[(.str a143 2890), (.str a160 2891), (.str a145 2892), (.str a200 2893), (.str a203 2894), (.str a208 2895)] 0), #[]⟩
noncomputable def o851 (P : PP) : Obj := ⟨(.type PySem.W.SL.s2766695959194262286x5), none, (.seq #[(.str a143 2898), (.str a160 2899), (.str a145 2900), (.str a200 2901), (.str a203 2902), (.str a208 2903)] 0), #[]⟩
noncomputable def o852 (P : PP) : Obj := ⟨(.type PySem.W.SL.s2766695959194262286x5), none, (.seq #[(.str a143 2906), (.str a160 2907), (.str a145 2908), (.str a200 2909), (.str a203 2910), (.str a208 2911)] 0), #[]⟩
noncomputable def o853 (P : PP) : Obj := ⟨(.type PySem.W.SL.s2766695959194262286x5), none, (.seq #[(.str a143 2914), (.str a160 2915), (.str a145 2916), (.str a200 2917), (.str a203 2918), (.str a208 2919)] 0), #[]⟩
noncomputable def o854 (P : PP) : Obj := ⟨(.type PySem.W.SL.s2766695959194262286x5), none, (.seq #[(.str a143 2922), (.str a160 2923), (.str a145 2924), (.str a200 2925), (.str a203 2926), (.str a208 2927)] 0), #[]⟩
noncomputable def o855 (P : PP) : Obj := ⟨(.type PySem.W.SL.s2766695959194262286x5), none, (.seq #[(.str a143 2930), (.str a160 2931), (.str a145 2932), (.str a200 2933), (.str a203 2934), (.str a208 2935)] 0), #[]⟩
noncomputable def o856 (P : PP) : Obj := ⟨(.type PySem.W.SL.s2766695959194262286x5), none, (.seq #[(.str a143 2938), (.str a160 2939), (.str a145 2940), (.str a200 2941), (.str a203 2942), (.str a208 2943)] 0), #[]⟩
noncomputable def o857 (P : PP) : Obj := ⟨(.type PySem.W.SL.s2766695959194262286x5), none, (.seq #[(.str a143 2946), (.str a160 2947), (.str a145 2948), (.str a200 2949), (.str a203 2950), (.str a208 2951)] 0), #[]⟩
noncomputable def o858 (P : PP) : Obj := ⟨(.type PySem.W.SL.s2766695959194262286x5), none, (.seq #[(.str a143 2954), (.str a160 2955), (.str a145 2956), (.str a200 2957), (.str a203 2958), (.str a208 2959)] 0), #[]⟩
noncomputable def o859 (P : PP) : Obj := ⟨(.type PySem.W.SL.s2766695959194262286x5), none, (.seq #[(.str a143 2962), (.str a160 2963), (.str a145 2964), (.str a200 2965), (.str a203 2966), (.str a208 2967)] 0), #[]⟩
noncomputable def o860 (P : PP) : Obj := ⟨(.type PySem.W.SL.s2766695959194262286x5), none, (.seq #[(.str a143 2970), (.str a160 2971), (.str a145 2972), (.str a200 2973), (.str a203 2974), (.str a208 2975)] 0), #[]⟩
noncomputable def o861 (P : PP) : Obj := ⟨(.type PySem.W.SL.s2766695959194262286x5), none, (.seq #[(.str a143 2978), (.str a160 2979), (.str a145 2980), (.str a200 2981), (.str a203 2982), (.str a208 2983)] 0), #[]⟩
noncomputable def o862 (P : PP) : Obj := ⟨(.type PySem.W.SL.s2766695959194262286x5), none, (.seq #[(.str a143 2986), (.str a160 2987), (.str a145 2988), (.str a200 2989), (.str a203 2990), (.str a208 2991)] 0), #[]⟩
noncomputable def o863 (P : PP) : Obj := ⟨(.type PySem.W.SL.s2766695959194262286x5), none, (.seq #[(.str a143 2994), (.str a160 2995), (.str a145 2996), (.str a200 2997), (.str a203 2998), (.str a208 2999)] 0), #[]⟩
noncomputable def o864 (P : PP) : Obj := ⟨(.type PySem.W.SL.s2766695959194262286x5), none, (.seq #[(.str a143 3002), (.str a160 3003), (.str a145 3004), (.str a200 3005), (.str a203 3006), (.str a208 3007)] 0), #[]⟩
noncomputable def o865 (P : PP) : Obj := ⟨(.type PySem.W.SL.s2766695959194262286x5), none, (.seq #[(.str a143 3010), (.str a160 3011), (.str a145 3012), (.str a200 3013), (.str a203 3014), (.str a208 3015)] 0), #[]⟩
noncomputable def o866 (P : PP) : Obj := ⟨(.type PySem.W.SL.s2766695959194262286x5), none, (.seq #[(.str a143 3018), (.str a160 3019), (.str a145 3020), (.str a200 3021), (.str a203 3022), (.str a208 3023)] 0), #[]⟩
noncomputable def o867 (P : PP) : Obj := ⟨(.type PySem.W.SL.s2766695959194262286x5), none, (.seq #[(.str a143 3026), (.str a160 3027), (.str a145 3028), (.str a200 3029), (.str a203 3030), (.str a208 3031)] 0), #[]⟩
noncomputable def o868 (P : PP) : Obj := ⟨(.type PySem.W.SL.s2766695959194262286x5), none, (.seq #[(.str a143 3034), (.str a160 3035), (.str a145 3036), (.str a200 3037), (.str a203 3038), (.str a208 3039)] 0), #[]⟩
noncomputable def o869 (P : PP) : Obj := ⟨(.type PySem.W.SL.s658472552662922059x5), none, (.dict #[⟨kq P a42, (.str a42 3040), (.ref 597)⟩] 1), #[]⟩
noncomputable def o870 (P : PP) : Obj := ⟨(.type PySem.W.SL.s2766695959194262286x5), none, (.seq #[(.str a143 3053), (.str a160 3054), (.str a145 3055), (.str a200 3056), (.str a203 3057), (.str a208 3058)] 0), #[]⟩
noncomputable def o871 (P : PP) : Obj := ⟨(.type PySem.W.SL.s658472552662922059x5), none, (.dict #[⟨kq P a42, (.str a42 3059), (.ref 604)⟩] 1), #[]⟩
noncomputable def o872 (P : PP) : Obj := ⟨(.type PySem.W.SL.s2766695959194262286x5), none, (.seq #[(.str a143 3072), (.str a160 3073), (.str a145 3074), (.str a200 3075), (.str a203 3076), (.str a208 3077)] 0), #[]⟩
noncomputable def o873 (P : PP) : Obj := ⟨(.type PySem.W.SL.s658472552662922059x5), none, (.dict #[⟨kq P a42, (.str a42 3078), (.ref 622)⟩] 1), #[]⟩
noncomputable def o874 (P : PP) : Obj := ⟨(.type PySem.W.SL.s2766695959194262286x5), none, (.seq #[(.str a143 3091), (.str a160 3092), (.str a145 3093), (.str a200 3094), (.str a203 3095), (.str a208 3096)] 0), #[]⟩
noncomputable def o875 (P : PP) : Obj := ⟨(.type PySem.W.SL.s658472552662922059x5), none, (.dict #[⟨kq P a42, (.str a42 3097), (.ref 629)⟩] 1), #[]⟩
noncomputable def o876 (P : PP) : Obj := ⟨(.type PySem.W.SL.s2766695959194262286x5), none, (.seq #[(.str a143 3110), (.str a160 3111), (.str a145 3112), (.str a200 3113), (.str a203 3114), (.str a208 3115)] 0), #[]⟩
noncomputable def o877 (P : PP) : Obj := ⟨(.type PySem.W.SL.s658472552662922059x5), none, (.dict #[⟨kq P a42, (.str a42 3116), (.ref 636)⟩] 1), #[]⟩
noncomputable def o878 (P : PP) : Obj := ⟨(.type PySem.W.SL.s2766695959194262286x5), none, (.seq #[(.str a143 3129), (.str a160 3130), (.str a145 3131), (.str a200 3132), (.str a203 3133), (.str a208 3134)] 0), #[]⟩
noncomputable def o879 (P : PP) : Obj := ⟨(.type PySem.W.SL.s658472552662922059x5), none, (.dict #[⟨kq P a42, (.str a42 3135), (.ref 670)⟩] 1), #[]⟩
noncomputable def o880 (P : PP) : Obj := ⟨(.type PySem.W.SL.s2766695959194262286x5), none, (.seq #[(.str a143 3148), (.str a160 3149), (.str a145 3150), (.str a200 3151), (.str a203 3152), (.str a208 3153)] 0), #[]⟩
noncomputable def o881 (P : PP) : Obj := ⟨(.type PySem.W.SL.s658472552662922059x5), none, (.dict #[⟨kq P a42, (.str a42 3154), (.ref 677)⟩] 1), #[]⟩
noncomputable def o882 (P : PP) : Obj := ⟨(.type PySem.W.SL.s2766695959194262286x5), none, (.seq #[(.str a143 3167), (.str a160 3168), (.str a145 3169), (.str a200 3170), (.str a203 3171), (.str a208 3172)] 0), #[]⟩
noncomputable def o883 (P : PP) : Obj := ⟨(.type PySem.W.SL.s658472552662922059x5), none, (.dict #[⟨kq P a42, (.str a42 3173), (.ref 684)⟩] 1), #[]⟩
noncomputable def o884 (P : PP) : Obj := ⟨(.type PySem.W.SL.s2766695959194262286x5), none, (.seq #[(.str a143 3186), (.str a160 3187), (.str a145 3188), (.str a200 3189), (.str a203 3190), (.str a208 3191)] 0), #[]⟩
noncomputable def o885 (P : PP) : Obj := ⟨(.type PySem.W.SL.s2766695959194262286x5), none, (.seq #[(.str a143 3194), (.str a160 3195), (.str a145 3196), (.str a200 3197), (.str a203 3198), (.str a208 3199)] 0), #[]⟩
noncomputable def o886 (P : PP) : Obj := ⟨(.type PySem.W.SL.s2766695959194262286x5), none, (.seq #[(.str a143 3202), (.str a160 3203), (.str a145 3204), (.str a200 3205), (.str a203 3206), (.str a208 3207)] 0), #[]⟩
noncomputable def o887 (P : PP) : Obj := ⟨(.type PySem.W.SL.s2766695959194262286x5), none, (.seq #[(.str a143 3210), (.str a160 3211), (.str a145 3212), (.str a200 3213), (.str a203 3214), (.str a208 3215)] 0), #[]⟩
noncomputable def o888 (P : PP) : Obj := ⟨(.type PySem.W.SL.s2766695959194262286x5), none, (.seq #[(.str a143 3218), (.str a160 3219), (.str a145 3220), (.str a200 3221), (.str a203 3222), (.str a208 3223)] 0), #[]⟩
noncomputable def o889 (P : PP) : Obj := ⟨(.type PySem.W.SL.s2766695959194262286x5), none, (.seq #[(.str a143 3226), (.str a160 3227), (.str a145 3228), (.str a200 3229), (.str a203 3230), (.str a208 3231)] 0), #[]⟩
noncomputable def o890 (P : PP) : Obj := ⟨(.type PySem.W.SL.s2766695959194262286x5), none, (.seq #[] 0), #[]⟩
noncomputable def o891 (P : PP) : Obj := ⟨(.type PySem.W.SL.s5991306692159431302x13), none, (.fields #[(.ref 890), .none, .none, .none, (.bool false), .none]), #[]⟩
noncomputable def t31 (P : PP) : BT := putAll (setAll (t30 P) [(799, o799v31 P), (800, o800v31 P), (801, o801v31 P)]) 802 [o802 P, o803 P, o804 P, o805 P, o806 P, o807 P, o808 P, o809 P, o810 P, o811 P, o812 P, o813 P, o814 P, o815 P, o816 P, o817 P, o818 P, o819 P, o820 P, o821 P, o822 P, o823 P, o824 P, o825 P, o826 P, o827 P, o828 P, o829 P, o830 P, o831 P, o832 P, o833 P, o834 P, o835 P, o836 P, o837 P, o838 P, o839 P, o840 P, o841 P, o842 P, o843 P, o844 P, o845 P, o846 P, o847 P, o848 P, o849 P, o850 P, o851 P, o852 P, o853 P, o854 P, o855 P, o856 P, o857 P, o858 P, o859 P, o860 P, o861 P, o862 P, o863 P, o864 P, o865 P, o866 P, o867 P, o868 P, o869 P, o870 P, o871 P, o872 P, o873 P, o874 P, o875 P, o876 P, o877 P, o878 P, o879 P, o880 P, o881 P, o882 P, o883 P, o884 P, o885 P, o886 P, o887 P, o888 P, o889 P, o890 P, o891 P]
noncomputable def s31 (P : PP) : ST := ⟨t31 P, 892, 3232⟩
noncomputable def o146v32 (P : PP) : Obj := ⟨(.type PySem.W.SL.s14018661285674007319x4), none, (.dict #[⟨kq P a35, (.str a35 553), (.str a1 258)⟩, ⟨kq P a37, (.str a37 555), (.str a136 554)⟩, ⟨kq P a38, (.str a38 557), (.int (76) 556)⟩, ⟨kq P a220, (.str a220 2019), (.ref 164)⟩, ⟨kq P a222, (.str a222 2197), (.ref 731)⟩, ⟨kq P a223, (.str a223 2440), (.ref 736)⟩, ⟨kq P a224, (.str a224 3232), (.ref 800)⟩] 7), #[]⟩
noncomputable def o801v32 (P : PP) : Obj := ⟨(.type PySem.W.SL.s14018661285674007319x4), none, (.dict #[] 2), #[]⟩
noncomputable def o892 (P : PP) : Obj := ⟨(.type PySem.W.SL.s3492446563574874994x13), none, (.fields #[(.ref 164), (.int (0) 0)]), #[]⟩
noncomputable def o893 (P : PP) : Obj := ⟨(.type PySem.W.SL.s14018661285674007319x4), none, (.dict #[] 0), #[]⟩
noncomputable def o894 (P : PP) : Obj := ⟨(.type PySem.W.SL.s14018661285674007319x4), none, (.dict #[] 0), #[]⟩
noncomputable def t32 (P : PP) : BT := putAll (setAll (t31 P) [(146, o146v32 P), (801, o801v32 P)]) 892 [o892 P, o893 P, o894 P]
noncomputable def s32 (P : PP) : ST := ⟨t32 P, 895, 3233⟩
noncomputable def o892v33 (P : PP) : Obj := ⟨(.type PySem.W.SL.s3492446563574874994x13), none, (.fields #[.none, (.int (59) 0)]), #[]⟩
noncomputable def o893v33 (P : PP) : Obj := ⟨(.type PySem.W.SL.s14018661285674007319x4), none, (.dict #[⟨(4115), (.int (4115) 3367), (.ref 367)⟩, ⟨(20499), (.int (20499) 3383), (.ref 386)⟩, ⟨(1073762323), (.int (1073762323) 3399), (.ref 420)⟩, ⟨(51), (.int (51) 3415), (.ref 434)⟩, ⟨(4147), (.int (4147) 3431), (.ref 441)⟩, ⟨(8243), (.int (8243) 3447), (.ref 448)⟩, ⟨(12339), (.int (12339) 3463), (.ref 455)⟩, ⟨(16435), (.int (16435) 3479), (.ref 462)⟩, ⟨(20531), (.int (20531) 3495), (.ref 469)⟩, ⟨(24627), (.int (24627) 3511), (.ref 476)⟩, ⟨(28723), (.int (28723) 3527), (.ref 483)⟩, ⟨(1073741875), (.int (1073741875) 3543), (.ref 497)⟩, ⟨(1073762355), (.int (1073762355) 3559), (.ref 520)⟩, ⟨(33554483), (.int (33554483) 3575), (.ref 534)⟩, ⟨(33558579), (.int (33558579) 3591), (.ref 541)⟩, ⟨(33562675), (.int (33562675) 3607), (.ref 548)⟩, ⟨(33566771), (.int (33566771) 3623), (.ref 555)⟩, ⟨(33570867), (.int (33570867) 3639), (.ref 562)⟩, ⟨(33574963), (.int (33574963) 3655), (.ref 569)⟩, ⟨(33579059), (.int (33579059) 3671), (.ref 576)⟩, ⟨(33583155), (.int (33583155) 3687), (.ref 583)⟩, ⟨(301990003), (.int (301990003) 3743), (.ref 689)⟩] 22), #[]⟩
noncomputable def o894v33 (P : PP) : Obj := ⟨(.type PySem.W.SL.s14018661285674007319x4), none, (.dict #[⟨kq P a221, (.str a221 3233), (.ref 726)⟩] 1), #[]⟩
noncomputable def o895 (P : PP) : Obj := ⟨(.type PySem.W.SL.s2766695959194262286x5), none, (.seq #[(.str a178 3235), (.str a172 3236), (.str a214 3237)] 0), #[]⟩
noncomputable def o896 (P : PP) : Obj := ⟨(.type PySem.W.SL.s2766695959194262286x5), none, (.seq #[(.str a178 3240), (.str a172 3241), (.str a214 3242)] 0), #[]⟩
noncomputable def o897 (P : PP) : Obj := ⟨(.type PySem.W.SL.s2766695959194262286x5), none, (.seq #[(.str a178 3245), (.str a172 3246), (.str a214 3247)] 0), #[]⟩
noncomputable def o898 (P : PP) : Obj := ⟨(.type PySem.W.SL.s2766695959194262286x5), none, (.seq #[(.str a178 3250), (.str a172 3251), (.str a214 3252)] 0), #[]⟩
noncomputable def o899 (P : PP) : Obj := ⟨(.type PySem.W.SL.s2766695959194262286x5), none, (.seq #[(.str a178 3255), (.str a172 3256), (.str a214 3257)] 0), #[]⟩
noncomputable def o900 (P : PP) : Obj := ⟨(.type PySem.W.SL.s2766695959194262286x5), none, (.seq #[(.str a178 3260), (.str a172 3261), (.str a214 3262)] 0), #[]⟩
noncomputable def o901 (P : PP) : Obj := ⟨(.type PySem.W.SL.s2766695959194262286x5), none, (.seq #[(.str a178 3265), (.str a172 3266), (.str a214 3267)] 0), #[]⟩
noncomputable def o902 (P : PP) : Obj := ⟨(.type PySem.W.SL.s2766695959194262286x5), none, (.seq #[(.str a178 3270), (.str a172 3271), (.str a214 3272)] 0), #[]⟩
noncomputable def o903 (P : PP) : Obj := ⟨(.type PySem.W.SL.s2766695959194262286x5), none, (.seq #[(.str a178 3275), (.str a172 3276), (.str a214 3277)] 0), #[]⟩
noncomputable def o904 (P : PP) : Obj := ⟨(.type PySem.W.SL.s2766695959194262286x5), none, (.seq #[(.str a178 3280), (.str a172 3281), (.str a214 3282)] 0), #[]⟩
noncomputable def o905 (P : PP) : Obj := ⟨(.type PySem.W.SL.s2766695959194262286x5), none, (.seq #[(.str a178 3285), (.str a172 3286), (.str a214 3287)] 0), #[]⟩
noncomputable def o906 (P : PP) : Obj := ⟨(.type PySem.W.SL.s2766695959194262286x5), none, (.seq #[(.str a178 3290), (.str a172 3291), (.str a214 3292)] 0), #[]⟩
noncomputable def o907 (P : PP) : Obj := ⟨(.type PySem.W.SL.s2766695959194262286x5), none, (.seq #[(.str a178 3295), (.str a172 3296), (.str a214 3297)] 0), #[]⟩
noncomputable def o908 (P : PP) : Obj := ⟨(.type PySem.W.SL.s2766695959194262286x5), none, (.seq #[(.str a178 3300), (.str a172 3301), (.str a214 3302)] 0), #[]⟩
noncomputable def o909 (P : PP) : Obj := ⟨(.type PySem.W.SL.s2766695959194262286x5), none, (.seq #[(.str a178 3305), (.str a172 3306), (.str a214 3307)] 0), #[]⟩
noncomputable def o910 (P : PP) : Obj := ⟨(.type PySem.W.SL.s2766695959194262286x5), none, (.seq #[(.str a178 3310), (.str a172 3311), (.str a214 3312)] 0), #[]⟩
noncomputable def o911 (P : PP) : Obj := ⟨(.type PySem.W.SL.s2766695959194262286x5), none, (.seq #[(.str a178 3315), (.str a172 3316), (.str a214 3317)] 0), #[]⟩
noncomputable def o912 (P : PP) : Obj := ⟨(.type PySem.W.SL.s2766695959194262286x5), none, (.seq #[(.str a178 3320), (.str a172 3321), (.str a214 3322)] 0), #[]⟩
noncomputable def o913 (P : PP) : Obj := ⟨(.type PySem.W.SL.s2766695959194262286x5), none, (.seq #[(.str a178 3325), (.str a172 3326), (.str a214 3327)] 0), #[]⟩
noncomputable def o914 (P : PP) : Obj := ⟨(.type PySem.W.SL.s2766695959194262286x5), none, (.seq #[(.str a178 3330), (.str a172 3331), (.str a214 3332)] 0), #[]⟩
noncomputable def o915 (P : PP) : Obj := ⟨(.type PySem.W.SL.s2766695959194262286x5), none, (.seq #[(.str a178 3335), (.str a172 3336), (.str a214 3337)] 0), #[]⟩
noncomputable def o916 (P : PP) : Obj := ⟨(.type PySem.W.SL.s2766695959194262286x5), none, (.seq #[(.str a178 3340), (.str a172 3341), (.str a214 3342)] 0), #[]⟩
noncomputable def o917 (P : PP) : Obj := ⟨(.type PySem.W.SL.s2766695959194262286x5), none, (.seq #[(.str a178 3345), (.str a172 3346), (.str a214 3347)] 0), #[]⟩
noncomputable def o918 (P : PP) : Obj := ⟨(.type PySem.W.SL.s2766695959194262286x5), none, (.seq #[(.str a178 3350), (.str a172 3351), (.str a214 3352)] 0), #[]⟩
noncomputable def o919 (P : PP) : Obj := ⟨(.type PySem.W.SL.s2766695959194262286x5), none, (.seq #[(.str a178 3355), (.str a172 3356), (.str a214 3357)] 0), #[]⟩
noncomputable def o920 (P : PP) : Obj := ⟨(.type PySem.W.SL.s658472552662922059x5), none, (.dict #[⟨kq P a42, (.str a42 3358), (.ref 367)⟩] 1), #[]⟩
noncomputable def o921 (P : PP) : Obj := ⟨(.type PySem.W.SL.s2766695959194262286x5), none, (.seq #[(.str a178 3371), (.str a172 3372), (.str a214 3373)] 0), #[]⟩
noncomputable def o922 (P : PP) : Obj := ⟨(.type PySem.W.SL.s658472552662922059x5), none, (.dict #[⟨kq P a42, (.str a42 3374), (.ref 386)⟩] 1), #[]⟩
noncomputable def o923 (P : PP) : Obj := ⟨(.type PySem.W.SL.s2766695959194262286x5), none, (.seq #[(.str a178 3387), (.str a172 3388), (.str a214 3389)] 0), #[]⟩
noncomputable def o924 (P : PP) : Obj := ⟨(.type PySem.W.SL.s658472552662922059x5), none, (.dict #[⟨kq P a42, (.str a42 3390), (.ref 420)⟩] 1), #[]⟩
noncomputable def o925 (P : PP) : Obj := ⟨(.type PySem.W.SL.s2766695959194262286x5), none, (.seq #[(.str a178 3403), (.str a172 3404), (.str a214 3405)] 0), #[]⟩
noncomputable def o926 (P : PP) : Obj := ⟨(.type PySem.W.SL.s658472552662922059x5), none, (.dict #[⟨kq P a42, (.str a42 3406), (.ref 434)⟩] 1), #[]⟩
noncomputable def o927 (P : PP) : Obj := ⟨(.type PySem.W.SL.s2766695959194262286x5), none, (.seq #[(.str a178 3419), (.str a172 3420), (.str a214 3421)] 0), #[]⟩
noncomputable def o928 (P : PP) : Obj := ⟨(.type PySem.W.SL.s658472552662922059x5), none, (.dict #[⟨kq P a42, (.str a42 3422), (.ref 441)⟩] 1), #[]⟩
noncomputable def o929 (P : PP) : Obj := ⟨(.type PySem.W.SL.s2766695959194262286x5), none, (.seq #[(.str a178 3435), (.str a172 3436), (.str a214 3437)] 0), #[]⟩
noncomputable def o930 (P : PP) : Obj := ⟨(.type PySem.W.SL.s658472552662922059x5), none, (.dict #[⟨kq P a42, (.str a42 3438), (.ref 448)⟩] 1), #[]⟩
noncomputable def o931 (P : PP) : Obj := ⟨(.type PySem.W.SL.s2766695959194262286x5), none, (.seq #[(.str a178 3451), (.str a172 3452), (.str a214 3453)] 0), #[]⟩
noncomputable def o932 (P : PP) : Obj := ⟨(.type PySem.W.SL.s658472552662922059x5), none, (.dict #[⟨kq P a42, (.str a42 3454), (.ref 455)⟩] 1), #[]⟩
noncomputable def o933 (P : PP) : Obj := ⟨(.type PySem.W.SL.s2766695959194262286x5), none, (.seq #[(.str a178 3467), (.str a172 3468), (.str a214 3469)] 0), #[]⟩
noncomputable def o934 (P : PP) : Obj := ⟨(.type PySem.W.SL.s658472552662922059x5), none, (.dict #[⟨kq P a42, (.str a42 3470), (.ref 462)⟩] 1), #[]⟩
noncomputable def o935 (P : PP) : Obj := ⟨(.type PySem.W.SL.s2766695959194262286x5), none, (.seq #[(.str a178 3483), (.str a172 3484), (.str a214 3485)] 0), #[]⟩
noncomputable def o936 (P : PP) : Obj := ⟨(.type PySem.W.SL.s658472552662922059x5), none, (.dict #[⟨kq P a42, (.str a42 3486), (.ref 469)⟩] 1), #[]⟩
noncomputable def o937 (P : PP) : Obj := ⟨(.type PySem.W.SL.s2766695959194262286x5), none, (.seq #[(.str a178 3499), (.str a172 3500), (.str a214 3501)] 0), #[]⟩
noncomputable def o938 (P : PP) : Obj := ⟨(.type PySem.W.SL.s658472552662922059x5), none, (.dict #[⟨kq P a42, (.str a42 3502), (.ref 476)⟩] 1), #[]⟩
noncomputable def o939 (P : PP) : Obj := ⟨(.type PySem.W.SL.s2766695959194262286x5), none, (.seq #[(.str a178 3515), (.str a172 3516), (.str a214 3517)] 0), #[]⟩
noncomputable def o940 (P : PP) : Obj := ⟨(.type PySem.W.SL.s658472552662922059x5), none, (.dict #[⟨kq P a42, (.str a42 3518), (.ref 483)⟩] 1), #[]⟩
noncomputable def o941 (P : PP) : Obj := ⟨(.type PySem.W.SL.s2766695959194262286x5), none, (.seq #[(.str a178 3531), (.str a172 3532), (.str a214 3533)] 0), #[]⟩
noncomputable def o942 (P : PP) : Obj := ⟨(.type PySem.W.SL.s658472552662922059x5), none, (.dict #[⟨kq P a42, (.str a42 3534), (.ref 497)⟩] 1), #[]⟩
noncomputable def o943 (P : PP) : Obj := ⟨(.type PySem.W.SL.s2766695959194262286x5), none, (.seq #[(.str a178 3547), (.str a172 3548), (.str a214 3549)] 0), #[]⟩
noncomputable def o944 (P : PP) : Obj := ⟨(.type PySem.W.SL.s658472552662922059x5), none, (.dict #[⟨kq P a42, (.str a42 3550), (.ref 520)⟩] 1), #[]⟩
noncomputable def o945 (P : PP) : Obj := ⟨(.type PySem.W.SL.s2766695959194262286x5), none, (.seq #[(.str a178 3563), (.str a172 3564), (.str a214 3565)] 0), #[]⟩
noncomputable def o946 (P : PP) : Obj := ⟨(.type PySem.W.SL.s658472552662922059x5), none, (.dict #[⟨kq P a42, (.str a42 3566), (.ref 534)⟩] 1), #[]⟩
noncomputable def o947 (P : PP) : Obj := ⟨(.type PySem.W.SL.s2766695959194262286x5), none, (.seq #[(.str a178 3579), (.str a172 3580), (.str a214 3581)] 0), #[]⟩
noncomputable def o948 (P : PP) : Obj := ⟨(.type PySem.W.SL.s658472552662922059x5), none, (.dict #[⟨kq P a42, (.str a42 3582), (.ref 541)⟩] 1), #[]⟩
noncomputable def o949 (P : PP) : Obj := ⟨(.type PySem.W.SL.s2766695959194262286x5), none, (.seq #[(.str a178 3595), (.str a172 3596), (.str a214 3597)] 0), #[]⟩
noncomputable def o950 (P : PP) : Obj := ⟨(.type PySem.W.SL.s658472552662922059x5), none, (.dict #[⟨kq P a42, (.str a42 3598), (.ref 548)⟩] 1), #[]⟩
noncomputable def o951 (P : PP) : Obj := ⟨(.type PySem.W.SL.s2766695959194262286x5), none, (.seq #[(.str a178 3611), (.str a172 3612), (.str a214 3613)] 0), #[]⟩
noncomputable def o952 (P : PP) : Obj := ⟨(.type PySem.W.SL.s658472552662922059x5), none, (.dict #[⟨kq P a42, (.str a42 3614), (.ref 555)⟩] 1), #[]⟩
noncomputable def o953 (P : PP) : Obj := ⟨(.type PySem.W.SL.s2766695959194262286x5), none, (.seq #[(.str a178 3627), (.str a172 3628), (.str a214 3629)] 0), #[]⟩
noncomputable def o954 (P : PP) : Obj := ⟨(.type PySem.W.SL.s658472552662922059x5), none, (.dict #[⟨kq P a42, (.str a42 3630), (.ref 562)⟩] 1), #[]⟩
noncomputable def o955 (P : PP) : Obj := ⟨(.type PySem.W.SL.s2766695959194262286x5), none, (.seq #[(.str a178 3643), (.str a172 3644), (.str a214 3645)] 0), #[]⟩
noncomputable def o956 (P : PP) : Obj := ⟨(.type PySem.W.SL.s658472552662922059x5), none, (.dict #[⟨kq P a42, (.str a42 3646), (.ref 569)⟩] 1), #[]⟩
noncomputable def o957 (P : PP) : Obj := ⟨(.type PySem.W.SL.s2766695959194262286x5), none, (.seq #[(.str a178 3659), (.str a172 3660), (.str a214 3661)] 0), #[]⟩
noncomputable def o958 (P : PP) : Obj := ⟨(.type PySem.W.SL.s658472552662922059x5), none, (.dict #[⟨kq P a42, (.str a42 3662), (.ref 576)⟩] 1), #[]⟩
noncomputable def o959 (P : PP) : Obj := ⟨(.type PySem.W.SL.s2766695959194262286x5), none, (.seq #[(.str a178 3675), (.str a172 3676), (.str a214 3677)] 0), #[]⟩
noncomputable def o960 (P : PP) : Obj := ⟨(.type PySem.W.SL.s658472552662922059x5), none, (.dict #[⟨kq P a42, (.str a42 3678), (.ref 583)⟩] 1), #[]⟩
noncomputable def o961 (P : PP) : Obj := ⟨(.type PySem.W.SL.s2766695959194262286x5), none, (.seq #[(.str a178 3691), (.str a172 3692), (.str a214 3693)] 0), #[]⟩
noncomputable def o962 (P : PP) : Obj := ⟨(.type PySem.W.SL.s2766695959194262286x5), none, (.seq #[(.str a178 3696), (.str a172 3697), (.str a214 3698)] 0), #[]⟩
noncomputable def o963 (P : PP) : Obj := ⟨(.type PySem.W.SL.s2766695959194262286x5), none, (.seq #[(.str a178 3701), (.str a172 3702), (.str a214 3703)] 0), #[]⟩
noncomputable def o964 (P : PP) : Obj := ⟨(.type PySem.W.SL.s2766695959194262286x5), none, (.seq #[(.str a178 3706), (.str a172 3707), (.str a214 3708)] 0), #[]⟩
noncomputable def o965 (P : PP) : Obj := ⟨(.type PySem.W.SL.s2766695959194262286x5), none, (.seq #[(.str a178 3711), (.str a172 3712), (.str a214 3713)] 0), #[]⟩
noncomputable def o966 (P : PP) : Obj := ⟨(.type PySem.W.SL.s2766695959194262286x5), none, (.seq #[(.str a178 3716), (.str a172 3717), (.str a214 3718)] 0), #[]⟩
noncomputable def o967 (P : PP) : Obj := ⟨(.type PySem.W.SL.s2766695959194262286x5), none, (.seq #[(.str a178 3721), (.str a172 3722), (.str a214 3723)] 0), #[]⟩
noncomputable def o968 (P : PP) : Obj := ⟨(.type PySem.W.SL.s2766695959194262286x5), none, (.seq #[(.str a178 3726), (.str a172 3727), (.str a214 3728)] 0), #[]⟩
noncomputable def o969 (P : PP) : Obj := ⟨(.type PySem.W.SL.s2766695959194262286x5), none, (.seq #[(.str a178 3731), (.str a172 3732), (.str a214 3733)] 0), #[]⟩
noncomputable def o970 (P : PP) : Obj := ⟨(.type PySem.W.SL.s658472552662922059x5), none, (.dict #[⟨kq P a42, (.str a42 3734), (.ref 689)⟩] 1), #[]⟩
noncomputable def o971 (P : PP) : Obj := ⟨(.type PySem.W.SL.s2766695959194262286x5), none, (.seq #[(.str a178 3747), (.str a172 3748), (.str a214 3749)] 0), #[]⟩
noncomputable def o972 (P : PP) : Obj := ⟨(.type PySem.W.SL.s2766695959194262286x5), none, (.seq #[(.str a178 3752), (.str a172 3753), (.str a214 3754)] 0), #[]⟩
noncomputable def o973 (P : PP) : Obj := ⟨(.type PySem.W.SL.s2766695959194262286x5), none, (.seq #[(.str a178 3757), (.str a172 3758), (.str a214 3759)] 0), #[]⟩
noncomputable def o974 (P : PP) : Obj := ⟨(.type PySem.W.SL.s2766695959194262286x5), none, (.seq #[(.str a178 3762), (.str a172 3763), (.str a214 3764)] 0), #[]⟩
noncomputable def o975 (P : PP) : Obj := ⟨(.type PySem.W.SL.s2766695959194262286x5), none, (.seq #[(.str a178 3767), (.str a172 3768), (.str a214 3769)] 0), #[]⟩
noncomputable def o976 (P : PP) : Obj := ⟨(.type PySem.W.SL.s2766695959194262286x5), none, (.seq #[] 0), #[]⟩
noncomputable def o977 (P : PP) : Obj := ⟨(.type PySem.W.SL.s5991306692159431302x13), none, (.fields #[(.ref 976), .none, .none, .none, (.bool false), .none]), #[]⟩
noncomputable def t33 (P : PP) : BT := putAll (setAll (t32 P) [(892, o892v33 P), (893, o893v33 P), (894, o894v33 P)]) 895 [o895 P, o896 P, o897 P, o898 P, o899 P, o900 P, o901 P, o902 P, o903 P, o904 P, o905 P, o906 P, o907 P, o908 P, o909 P, o910 P, o911 P, o912 P, o913 P, o914 P, o915 P, o916 P, o917 P, o918 P, o919 P, o920 P, o921 P, o922 P, o923 P, o924 P, o925 P, o926 P, o927 P, o928 P, o929 P, o930 P, o931 P, o932 P, o933 P, o934 P, o935 P, o936 P, o937 P, o938 P, o939 P, o940 P, o941 P, o942 P, o943 P, o944 P, o945 P, o946 P, o947 P, o948 P, o949 P, o950 P, o951 P, o952 P, o953 P, o954 P, o955 P, o956 P, o957 P, o958 P, o959 P, o960 P, o961 P, o962 P, o963 P, o964 P, o965 P, o966 P, o967 P, o968 P, o969 P, o970 P, o971 P, o972 P, o973 P, o974 P, o975 P, o976 P, o977 P]
noncomputable def s33 (P : PP) : ST := ⟨t33 P, 978, 3770⟩
noncomputable def o146v34 (P : PP) : Obj := ⟨(.type PySem.W.SL.s14018661285674007319x4), none, (.dict #[⟨kq P a35, (.str a35 553), (.str a1 258)⟩, ⟨kq P a37, (.str a37 555), (.str a136 554)⟩, ⟨kq P a38, (.str a38 557), (.int (76) 556)⟩, ⟨kq P a220, (.str a220 2019), (.ref 164)⟩, ⟨kq P a222, (.str a222 2197), (.ref 731)⟩, ⟨kq P a223, (.str a223 2440), (.ref 736)⟩, ⟨kq P a224, (.str a224 3232), (.ref 800)⟩, ⟨kq P a225, (.str a225 3770), (.ref 893)⟩] 8), #[]⟩
noncomputable def o894v34 (P : PP) : Obj := ⟨(.type PySem.W.SL.s14018661285674007319x4), none, (.dict #[] 2), #[]⟩
noncomputable def o978 (P : PP) : Obj := ⟨(.type PySem.W.SL.s3492446563574874994x13), none, (.fields #[(.ref 164), (.int (0) 0)]), #[]⟩
noncomputable def o979 (P : PP) : Obj := ⟨(.type PySem.W.SL.s14018661285674007319x4), none, (.dict #[] 0), #[]⟩
noncomputable def o980 (P : PP) : Obj := ⟨(.type PySem.W.SL.s14018661285674007319x4), none, (.dict #[] 0), #[]⟩
noncomputable def t34 (P : PP) : BT := putAll (setAll (t33 P) [(146, o146v34 P), (894, o894v34 P)]) 978 [o978 P, o979 P, o980 P]
noncomputable def s34 (P : PP) : ST := ⟨t34 P, 981, 3771⟩
noncomputable def o978v35 (P : PP) : Obj := ⟨(.type PySem.W.SL.s3492446563574874994x13), none, (.fields #[.none, (.int (59) 0)]), #[]⟩
noncomputable def o979v35 (P : PP) : Obj := ⟨(.type PySem.W.SL.s14018661285674007319x4), none, (.dict #[⟨(115), (.int (115) 1914), (.ref 702)⟩, ⟨(1048691), (.int (1048691) 1936), (.ref 708)⟩, ⟨(270532723), (.int (270532723) 1958), (.ref 714)⟩, ⟨(273678451), (.int (273678451) 1980), (.ref 720)⟩, ⟨(807403635), (.int (807403635) 2002), (.ref 726)⟩] 5), #[]⟩
noncomputable def o980v35 (P : PP) : Obj := ⟨(.type PySem.W.SL.s14018661285674007319x4), none, (.dict #[⟨kq P a221, (.str a221 3771), (.ref 726)⟩] 1), #[]⟩
noncomputable def o981 (P : PP) : Obj := ⟨(.type PySem.W.SL.s2766695959194262286x5), none, (.seq #[] 0), #[]⟩
noncomputable def o982 (P : PP) : Obj := ⟨(.type PySem.W.SL.s5991306692159431302x13), none, (.fields #[(.ref 981), .none, .none, .none, (.bool false), .none]), #[]⟩
noncomputable def t35 (P : PP) : BT := putAll (setAll (t34 P) [(978, o978v35 P), (979, o979v35 P), (980, o980v35 P)]) 981 [o981 P, o982 P]
noncomputable def s35 (P : PP) : ST := ⟨t35 P, 983, 3958⟩
noncomputable def o3v36 (P : PP) : Obj := ⟨(.type PySem.W.SL.s14018661285674007319x4), none, (.dict #[⟨kq P a0, (.str a0 165), (.str a226 4191)⟩, ⟨kq P a2, (.str a2 166), .none⟩, ⟨kq P a3, (.str a3 167), .none⟩, ⟨kq P a4, (.str a4 168), (.builtin PySem.W.SL.s7097527257260152453x26)⟩, ⟨kq P a5, (.str a5 169), .none⟩, ⟨kq P a6, (.str a6 170), (.ref 6)⟩, ⟨kq P a7, (.str a7 171), (.ref 4)⟩, ⟨kq P a8, (.str a8 173), (.str a9 172)⟩, ⟨kq P a10, (.str a10 174), .none⟩, ⟨kq P a11, (.str a11 216), (.ref 32)⟩, ⟨kq P a12, (.str a12 232), (.ref 45)⟩, ⟨kq P a13, (.str a13 257), (.ref 64)⟩, ⟨kq P a14, (.str a14 292), (.ref 67)⟩, ⟨kq P a15, (.str a15 401), (.ref 68)⟩, ⟨kq P a16, (.str a16 403), (.int (3) 402)⟩, ⟨kq P a17, (.str a17 405), (.int (15) 404)⟩, ⟨kq P a18, (.str a18 407), (.int (19) 406)⟩, ⟨kq P a19, (.str a19 409), (.int (23) 408)⟩, ⟨kq P a20, (.str a20 411), (.int (35) 410)⟩, ⟨kq P a21, (.str a21 413), (.int (51) 412)⟩, ⟨kq P a22, (.str a22 415), (.int (55) 414)⟩, ⟨kq P a23, (.str a23 417), (.int (99) 416)⟩, ⟨kq P a24, (.str a24 419), (.int (103) 418)⟩, ⟨kq P a25, (.str a25 421), (.int (111) 420)⟩, ⟨kq P a26, (.str a26 423), (.int (115) 422)⟩, ⟨kq P a27, (.str a27 425), (.str a28 424)⟩, ⟨kq P a29, (.str a29 476), (.ref 95)⟩, ⟨kq P a30, (.str a30 522), (.ref 124)⟩, ⟨kq P a31, (.str a31 536), (.ref 136)⟩, ⟨kq P a32, (.str a32 545), (.ref 143)⟩, ⟨kq P a136, (.str a136 3966), (.ref 985)⟩, ⟨kq P a227, (.str a227 4021), (.ref 990)⟩, ⟨kq P a228, (.str a228 4066), (.ref 1003)⟩, ⟨kq P a229, (.str a229 4073), (.ref 1018)⟩, ⟨kq P a230, (.str a230 4088), (.ref 1025)⟩, ⟨kq P a231, (.str a231 4095), (.ref 1032)⟩, ⟨kq P a232, (.str a232 4102), (.ref 1039)⟩, ⟨kq P a233, (.str a233 4113), (.ref 1046)⟩, ⟨kq P a234, (.str a234 4121), (.ref 1053)⟩, ⟨kq P a235, (.str a235 4129), (.ref 1060)⟩, ⟨kq P a236, (.str a236 4140), (.ref 1067)⟩, ⟨kq P a237, (.str a237 4154), (.ref 1074)⟩, ⟨kq P a238, (.str a238 4163), (.ref 1081)⟩, ⟨kq P a239, (.str a239 4169), (.ref 1086)⟩, ⟨kq P a240, (.str a240 4177), (.ref 1093)⟩, ⟨kq P a241, (.str a241 4190), (.ref 1100)⟩, ⟨kq P a242, (.str a242 4201), (.ref 1107)⟩, ⟨kq P a243, (.str a243 4207), (.ref 1114)⟩, ⟨kq P a244, (.str a244 4218), (.ref 1121)⟩, ⟨kq P a245, (.str a245 4237), (.ref 1128)⟩, ⟨kq P a246, (.str a246 4243), (.ref 1133)⟩, ⟨kq P a247, (.str a247 4251), (.ref 1140)⟩, ⟨kq P a248, (.str a248 4264), (.ref 1147)⟩, ⟨kq P a249, (.str a249 4270), (.ref 1152)⟩] 54), #[]⟩
noncomputable def o12v36 (P : PP) : Obj := ⟨.none, none, (.fields #[(.int (2) 0), (.int (0) 0), (.ref 20), (.int (7) 0), (.int (0) 0), (.ref 41), (.int (9) 0), (.int (0) 0), (.ref 53), (.int (29) 0), (.int (0) 0), (.ref 76), (.int (41) 0), (.int (0) 0), (.ref 105), (.int (52) 0), (.int (0) 0), (.ref 135), (.int (58) 0), (.int (0) 0), (.ref 142), (.int (76) 0), (.int (0) 0), (.ref 149), (.int (85) 0), (.int (0) 0), (.ref 1017), (.int (89) 0), (.int (0) 0), (.ref 1024), (.int (104) 0), (.int (0) 0), (.ref 1031), (.int (106) 0), (.int (0) 0), (.ref 1038), (.int (108) 0), (.int (0) 0), (.ref 1045), (.int (128) 0), (.int (0) 0), (.ref 1052), (.int (131) 0), (.int (0) 0), (.ref 1059), (.int (134) 0), (.int (0) 0), (.ref 1066), (.int (146) 0), (.int (0) 0), (.ref 1073), (.int (176) 0), (.int (0) 0), (.ref 1080), (.int (181) 0), (.int (0) 0), (.ref 1085), (.int (183) 0), (.int (0) 0), (.ref 1092), (.int (191) 0), (.int (0) 0), (.ref 1099), (.int (217) 0), (.int (0) 0), (.ref 1106), (.int (223) 0), (.int (0) 0), (.ref 1113), (.int (225) 0), (.int (0) 0), (.ref 1120), (.int (232) 0), (.int (0) 0), (.ref 1127), (.int (244) 0), (.int (0) 0), (.ref 1132), (.int (251) 0), (.int (0) 0), (.ref 1139), (.int (257) 0), (.int (0) 0), (.ref 1146), (.int (267) 0), (.int (0) 0), (.ref 1151)]), #[]⟩
noncomputable def o146v36 (P : PP) : Obj := ⟨(.type PySem.W.SL.s14018661285674007319x4), none, (.dict #[⟨kq P a35, (.str a35 553), (.str a1 258)⟩, ⟨kq P a37, (.str a37 555), (.str a136 554)⟩, ⟨kq P a38, (.str a38 557), (.int (76) 556)⟩, ⟨kq P a220, (.str a220 2019), (.ref 164)⟩, ⟨kq P a222, (.str a222 2197), (.ref 731)⟩, ⟨kq P a223, (.str a223 2440), (.ref 736)⟩, ⟨kq P a224, (.str a224 3232), (.ref 800)⟩, ⟨kq P a225, (.str a225 3770), (.ref 893)⟩, ⟨kq P a250, (.str a250 3958), (.ref 979)⟩, ⟨kq P a40, (.str a40 3959), (.ref 983)⟩] 10), #[]⟩
noncomputable def o980v36 (P : PP) : Obj := ⟨(.type PySem.W.SL.s14018661285674007319x4), none, (.dict #[] 2), #[]⟩
noncomputable def o983 (P : PP) : Obj := ⟨(.type PySem.W.SL.s2766695959194262286x5), none, (.seq #[] 0), #[]⟩
noncomputable def o984 (P : PP) : Obj := ⟨(.type PySem.W.SL.s14018661285674007319x4), none, (.dict #[⟨kq P a35, (.str a35 553), (.str a1 258)⟩, ⟨kq P a38, (.str a38 557), (.int (76) 556)⟩, ⟨kq P a220, (.str a220 2019), (.ref 164)⟩, ⟨kq P a222, (.str a222 2197), (.ref 731)⟩, ⟨kq P a223, (.str a223 2440), (.ref 736)⟩, ⟨kq P a224, (.str a224 3232), (.ref 800)⟩, ⟨kq P a225, (.str a225 3770), (.ref 893)⟩, ⟨kq P a250, (.str a250 3958), (.ref 979)⟩, ⟨kq P a40, (.str a40 3959), (.ref 983)⟩, ⟨kq P a125, (.str a125 3961), (.ref 986)⟩, ⟨kq P a45, (.str a45 3963), (.ref 987)⟩, ⟨kq P a2, (.str a2 3964), .none⟩] 4), #[]⟩
noncomputable def o985 (P : PP) : Obj := ⟨(.type PySem.W.SL.s17162191345867700912x4), none, (.cls { name := a136, bases := [(.type PySem.W.SL.s2742458400755230247x6)], mro := [(.ref 985), (.type PySem.W.SL.s2742458400755230247x6)], ns := 984, qualname := a136, hasDict := true, slotNames := [], subclasses := [], abstract := false, collection := none, hasDel := false }), #[none, none, (some (.str a136 546)), (some (.str a136 554)), (some (.builtin PySem.W.SL.s11443829558043349243x14)), (some (.bool true))]⟩
noncomputable def o986 (P : PP) : Obj := ⟨(.type PySem.W.SL.s14755015743595814543x17), none, (.fields #[(.str a125 3960), (.ref 985), (.builtin PySem.W.SL.s6511155373996960695x17), (.builtin PySem.W.SL.s12411053484034534018x21)]), #[]⟩
noncomputable def o987 (P : PP) : Obj := ⟨(.type PySem.W.SL.s14755015743595814543x17), none, (.fields #[(.str a45 3962), (.ref 985), (.builtin PySem.W.SL.s10220274742760427390x26), .none]), #[]⟩
noncomputable def o988 (P : PP) : Obj := ⟨(.type PySem.W.SL.s4290257624100764138x5), none, (.fields #[(.ref 985), (.ref 985), (.ref 985)]), #[]⟩
noncomputable def o989 (P : PP) : Obj := ⟨(.type PySem.W.SL.s11030030927630378310x26), none, (.fields #[(.builtin PySem.W.SL.s4860613602091757760x24), (.ref 985)]), #[]⟩
noncomputable def o990 (P : PP) : Obj := ⟨(.type PySem.W.SL.s14018661285674007319x4), none, (.dict #[⟨kq P a178, (.str a178 3967), (.ref 991)⟩, ⟨kq P a143, (.str a143 3971), (.ref 992)⟩, ⟨kq P a160, (.str a160 3975), (.ref 993)⟩, ⟨kq P a145, (.str a145 3979), (.ref 994)⟩, ⟨kq P a138, (.str a138 3983), (.ref 995)⟩, ⟨kq P a141, (.str a141 3986), (.ref 996)⟩, ⟨kq P a172, (.str a172 3989), (.ref 997)⟩, ⟨kq P a200, (.str a200 3993), (.ref 998)⟩, ⟨kq P a203, (.str a203 3997), (.ref 999)⟩, ⟨kq P a208, (.str a208 4001), (.ref 1000)⟩, ⟨kq P a214, (.str a214 4005), (.ref 1001)⟩, ⟨kq P a219, (.str a219 4008), (.ref 1002)⟩] 12), #[]⟩
noncomputable def o991 (P : PP) : Obj := ⟨(.type PySem.W.SL.s2766695959194262286x5), none, (.seq #[(.str a118 3968), (.str a119 3969), (.str a120 3970)] 0), #[]⟩
noncomputable def o992 (P : PP) : Obj := ⟨(.type PySem.W.SL.s2766695959194262286x5), none, (.seq #[(.str a118 3972), (.str a119 3973), (.str a121 3974)] 0), #[]⟩
noncomputable def o993 (P : PP) : Obj := ⟨(.type PySem.W.SL.s2766695959194262286x5), none, (.seq #[(.str a119 3976), (.str a120 3977), (.str a121 3978)] 0), #[]⟩
noncomputable def o994 (P : PP) : Obj := ⟨(.type PySem.W.SL.s2766695959194262286x5), none, (.seq #[(.str a119 3980), (.str a120 3981), (.str a121 3982)] 0), #[]⟩
noncomputable def o995 (P : PP) : Obj := ⟨(.type PySem.W.SL.s2766695959194262286x5), none, (.seq #[(.str a118 3984), (.str a121 3985)] 0), #[]⟩
noncomputable def o996 (P : PP) : Obj := ⟨(.type PySem.W.SL.s2766695959194262286x5), none, (.seq #[(.str a118 3987), (.str a121 3988)] 0), #[]⟩
noncomputable def o997 (P : PP) : Obj := ⟨(.type PySem.W.SL.s2766695959194262286x5), none, (.seq #[(.str a118 3990), (.str a119 3991), (.str a121 3992)] 0), #[]⟩
noncomputable def o998 (P : PP) : Obj := ⟨(.type PySem.W.SL.s2766695959194262286x5), none, (.seq #[(.str a118 3994), (.str a119 3995), (.str a121 3996)] 0), #[]⟩
noncomputable def o999 (P : PP) : Obj := ⟨(.type PySem.W.SL.s2766695959194262286x5), none, (.seq #[(.str a118 3998), (.str a119 3999), (.str a122 4000)] 0), #[]⟩
noncomputable def o1000 (P : PP) : Obj := ⟨(.type PySem.W.SL.s2766695959194262286x5), none, (.seq #[(.str a118 4002), (.str a121 4003), (.str a122 4004)] 0), #[]⟩
noncomputable def o1001 (P : PP) : Obj := ⟨(.type PySem.W.SL.s2766695959194262286x5), none, (.seq #[(.str a119 4006), (.str a120 4007)] 0), #[]⟩
noncomputable def o1002 (P : PP) : Obj := ⟨(.type PySem.W.SL.s2766695959194262286x5), none, (.seq #[] 0), #[]⟩
noncomputable def o1003 (P : PP) : Obj := ⟨(.type PySem.W.SL.s14018661285674007319x4), none, (.dict #[⟨kq P a143, (.str a143 4022), (.ref 1004)⟩, ⟨kq P a160, (.str a160 4027), (.ref 1005)⟩, ⟨kq P a145, (.str a145 4032), (.ref 1006)⟩, ⟨kq P a138, (.str a138 4037), (.ref 1007)⟩, ⟨kq P a141, (.str a141 4041), (.ref 1008)⟩, ⟨kq P a172, (.str a172 4046), (.ref 1009)⟩, ⟨kq P a200, (.str a200 4050), (.ref 1010)⟩, ⟨kq P a208, (.str a208 4054), (.ref 1011)⟩] 8), #[]⟩
noncomputable def o1004 (P : PP) : Obj := ⟨(.type PySem.W.SL.s2766695959194262286x5), none, (.seq #[(.int (-2048) 4024), (.int (2047) 4025), (.int (1) 4026)] 0), #[]⟩
noncomputable def o1005 (P : PP) : Obj := ⟨(.type PySem.W.SL.s2766695959194262286x5), none, (.seq #[(.int (-2048) 4029), (.int (2047) 4030), (.int (1) 4031)] 0), #[]⟩
noncomputable def o1006 (P : PP) : Obj := ⟨(.type PySem.W.SL.s2766695959194262286x5), none, (.seq #[(.int (-4096) 4034), (.int (4094) 4035), (.int (2) 4036)] 0), #[]⟩
noncomputable def o1007 (P : PP) : Obj := ⟨(.type PySem.W.SL.s2766695959194262286x5), none, (.seq #[(.int (0) 4038), (.int (1048575) 4039), (.int (1) 4040)] 0), #[]⟩
noncomputable def o1008 (P : PP) : Obj := ⟨(.type PySem.W.SL.s2766695959194262286x5), none, (.seq #[(.int (-1048576) 4043), (.int (1048574) 4044), (.int (2) 4045)] 0), #[]⟩
noncomputable def o1009 (P : PP) : Obj := ⟨(.type PySem.W.SL.s2766695959194262286x5), none, (.seq #[(.int (0) 4047), (.int (31) 4048), (.int (1) 4049)] 0), #[]⟩
noncomputable def o1010 (P : PP) : Obj := ⟨(.type PySem.W.SL.s2766695959194262286x5), none, (.seq #[(.int (0) 4051), (.int (4095) 4052), (.int (1) 4053)] 0), #[]⟩
noncomputable def o1011 (P : PP) : Obj := ⟨(.type PySem.W.SL.s2766695959194262286x5), none, (.seq #[(.int (0) 4055), (.int (31) 4056), (.int (1) 4057)] 0), #[]⟩
noncomputable def o1012 (P : PP) : Obj := ⟨(.type PySem.W.SL.s2766695959194262286x5), none, (.seq #[] 0), #[]⟩
noncomputable def o1013 (P : PP) : Obj := ⟨.none, none, (.fields #[]), #[]⟩
noncomputable def o1014 (P : PP) : Obj := ⟨(.type PySem.W.SL.s2766695959194262286x5), none, (.seq #[(.str a117 4070)] 0), #[]⟩
noncomputable def o1015 (P : PP) : Obj := ⟨(.type PySem.W.SL.s2766695959194262286x5), none, (.seq #[] 0), #[]⟩
noncomputable def o1016 (P : PP) : Obj := ⟨.none, none, (.func (fdOf P (stAt P 26) a229 0 [] .none .none .none .none none .none .none 0)), #[]⟩
noncomputable def o1017 (P : PP) : Obj := ⟨(.type PySem.W.SL.s5856160107412720595x4), none, (.fields #[(.str a229 4067), (.str a229 4068), (.str a9 4069), (.int (85) 0), (.int (1) 0), (.int (0) 0), (.int (0) 0), (.int (3) 0), (.ref 1012), (.bool true), (.int (181) 0), (.ref 1013), .none, (.ref 1014), (.ref 1015), (.ref 1016), (.int (4071) 0), (.int (85) 0), (.str a9 4072)]), #[]⟩
noncomputable def o1018 (P : PP) : Obj := ⟨(.type PySem.W.SL.s7174869446012820540x8), none, (.func (fdOf P (stAt P 26) a229 3 [] .none .none .none (.str a1 258) none (.ref 1017) .none 0)), #[]⟩
noncomputable def o1019 (P : PP) : Obj := ⟨(.type PySem.W.SL.s2766695959194262286x5), none, (.seq #[] 0), #[]⟩
noncomputable def o1020 (P : PP) : Obj := ⟨.none, none, (.fields #[]), #[]⟩
noncomputable def o1021 (P : PP) : Obj := ⟨(.type PySem.W.SL.s2766695959194262286x5), none, (.seq #[(.str a251 4077), (.str a127 4078), (.str a252 4079), (.str a253 4080), (.str a117 4081), (.str a135 4082), (.str a254 4083), (.str a255 4084), (.str a256 4085)] 0), #[]⟩
noncomputable def o1022 (P : PP) : Obj := ⟨(.type PySem.W.SL.s2766695959194262286x5), none, (.seq #[] 0), #[]⟩
noncomputable def o1023 (P : PP) : Obj := ⟨.none, none, (.func (fdOf P (stAt P 27) a230 0 [] .none .none .none .none none .none .none 0)), #[]⟩
noncomputable def o1024 (P : PP) : Obj := ⟨(.type PySem.W.SL.s5856160107412720595x4), none, (.fields #[(.str a230 4074), (.str a230 4075), (.str a9 4076), (.int (89) 0), (.int (2) 0), (.int (0) 0), (.int (0) 0), (.int (3) 0), (.ref 1019), (.bool true), (.int (181) 0), (.ref 1020), .none, (.ref 1021), (.ref 1022), (.ref 1023), (.int (4086) 0), (.int (89) 0), (.str a9 4087)]), #[]⟩
noncomputable def o1025 (P : PP) : Obj := ⟨(.type PySem.W.SL.s7174869446012820540x8), none, (.func (fdOf P (stAt P 27) a230 3 [] .none .none .none (.str a1 258) none (.ref 1024) .none 0)), #[]⟩
noncomputable def o1026 (P : PP) : Obj := ⟨(.type PySem.W.SL.s2766695959194262286x5), none, (.seq #[] 0), #[]⟩
noncomputable def o1027 (P : PP) : Obj := ⟨.none, none, (.fields #[]), #[]⟩
noncomputable def o1028 (P : PP) : Obj := ⟨(.type PySem.W.SL.s2766695959194262286x5), none, (.seq #[(.str a121 4092)] 0), #[]⟩
noncomputable def o1029 (P : PP) : Obj := ⟨(.type PySem.W.SL.s2766695959194262286x5), none, (.seq #[] 0), #[]⟩
noncomputable def o1030 (P : PP) : Obj := ⟨.none, none, (.func (fdOf P (stAt P 28) a231 0 [] .none .none .none .none none .none .none 0)), #[]⟩
noncomputable def o1031 (P : PP) : Obj := ⟨(.type PySem.W.SL.s5856160107412720595x4), none, (.fields #[(.str a231 4089), (.str a231 4090), (.str a9 4091), (.int (104) 0), (.int (1) 0), (.int (0) 0), (.int (0) 0), (.int (3) 0), (.ref 1026), (.bool true), (.int (181) 0), (.ref 1027), .none, (.ref 1028), (.ref 1029), (.ref 1030), (.int (4093) 0), (.int (104) 0), (.str a9 4094)]), #[]⟩
noncomputable def o1032 (P : PP) : Obj := ⟨(.type PySem.W.SL.s7174869446012820540x8), none, (.func (fdOf P (stAt P 28) a231 3 [] .none .none .none (.str a1 258) none (.ref 1031) .none 0)), #[]⟩
noncomputable def o1033 (P : PP) : Obj := ⟨(.type PySem.W.SL.s2766695959194262286x5), none, (.seq #[] 0), #[]⟩
noncomputable def o1034 (P : PP) : Obj := ⟨.none, none, (.fields #[]), #[]⟩
noncomputable def o1035 (P : PP) : Obj := ⟨(.type PySem.W.SL.s2766695959194262286x5), none, (.seq #[(.str a121 4099)] 0), #[]⟩
noncomputable def o1036 (P : PP) : Obj := ⟨(.type PySem.W.SL.s2766695959194262286x5), none, (.seq #[] 0), #[]⟩
noncomputable def o1037 (P : PP) : Obj := ⟨.none, none, (.func (fdOf P (stAt P 29) a232 0 [] .none .none .none .none none .none .none 0)), #[]⟩
noncomputable def o1038 (P : PP) : Obj := ⟨(.type PySem.W.SL.s5856160107412720595x4), none, (.fields #[(.str a232 4096), (.str a232 4097), (.str a9 4098), (.int (106) 0), (.int (1) 0), (.int (0) 0), (.int (0) 0), (.int (3) 0), (.ref 1033), (.bool true), (.int (181) 0), (.ref 1034), .none, (.ref 1035), (.ref 1036), (.ref 1037), (.int (4100) 0), (.int (106) 0), (.str a9 4101)]), #[]⟩
noncomputable def o1039 (P : PP) : Obj := ⟨(.type PySem.W.SL.s7174869446012820540x8), none, (.func (fdOf P (stAt P 29) a232 3 [] .none .none .none (.str a1 258) none (.ref 1038) .none 0)), #[]⟩
noncomputable def o1040 (P : PP) : Obj := ⟨(.type PySem.W.SL.s2766695959194262286x5), none, (.seq #[] 0), #[]⟩
noncomputable def o1041 (P : PP) : Obj := ⟨.none, none, (.fields #[]), #[]⟩
noncomputable def o1042 (P : PP) : Obj := ⟨(.type PySem.W.SL.s2766695959194262286x5), none, (.seq #[(.str a251 4106), (.str a221 4107), (.str a127 4108), (.str a121 4109), (.str a134 4110)] 0), #[]⟩
noncomputable def o1043 (P : PP) : Obj := ⟨(.type PySem.W.SL.s2766695959194262286x5), none, (.seq #[] 0), #[]⟩
noncomputable def o1044 (P : PP) : Obj := ⟨.none, none, (.func (fdOf P (stAt P 30) a233 0 [] .none .none .none .none none .none .none 0)), #[]⟩
noncomputable def o1045 (P : PP) : Obj := ⟨(.type PySem.W.SL.s5856160107412720595x4), none, (.fields #[(.str a233 4103), (.str a233 4104), (.str a9 4105), (.int (108) 0), (.int (1) 0), (.int (0) 0), (.int (0) 0), (.int (3) 0), (.ref 1040), (.bool true), (.int (181) 0), (.ref 1041), .none, (.ref 1042), (.ref 1043), (.ref 1044), (.int (4111) 0), (.int (108) 0), (.str a9 4112)]), #[]⟩
noncomputable def o1046 (P : PP) : Obj := ⟨(.type PySem.W.SL.s7174869446012820540x8), none, (.func (fdOf P (stAt P 30) a233 3 [] .none .none .none (.str a1 258) none (.ref 1045) .none 0)), #[]⟩
noncomputable def o1047 (P : PP) : Obj := ⟨(.type PySem.W.SL.s2766695959194262286x5), none, (.seq #[] 0), #[]⟩
noncomputable def o1048 (P : PP) : Obj := ⟨.none, none, (.fields #[]), #[]⟩
noncomputable def o1049 (P : PP) : Obj := ⟨(.type PySem.W.SL.s2766695959194262286x5), none, (.seq #[(.str a46 4117), (.str a257 4118)] 0), #[]⟩
noncomputable def o1050 (P : PP) : Obj := ⟨(.type PySem.W.SL.s2766695959194262286x5), none, (.seq #[] 0), #[]⟩
noncomputable def o1051 (P : PP) : Obj := ⟨.none, none, (.func (fdOf P (stAt P 31) a234 0 [] .none .none .none .none none .none .none 0)), #[]⟩
noncomputable def o1052 (P : PP) : Obj := ⟨(.type PySem.W.SL.s5856160107412720595x4), none, (.fields #[(.str a234 4114), (.str a234 4115), (.str a9 4116), (.int (128) 0), (.int (1) 0), (.int (0) 0), (.int (0) 0), (.int (3) 0), (.ref 1047), (.bool true), (.int (181) 0), (.ref 1048), .none, (.ref 1049), (.ref 1050), (.ref 1051), (.int (4119) 0), (.int (128) 0), (.str a9 4120)]), #[]⟩
noncomputable def o1053 (P : PP) : Obj := ⟨(.type PySem.W.SL.s7174869446012820540x8), none, (.func (fdOf P (stAt P 31) a234 3 [] .none .none .none (.str a1 258) none (.ref 1052) .none 0)), #[]⟩
noncomputable def o1054 (P : PP) : Obj := ⟨(.type PySem.W.SL.s2766695959194262286x5), none, (.seq #[] 0), #[]⟩
noncomputable def o1055 (P : PP) : Obj := ⟨.none, none, (.fields #[]), #[]⟩
noncomputable def o1056 (P : PP) : Obj := ⟨(.type PySem.W.SL.s2766695959194262286x5), none, (.seq #[(.str a46 4125), (.str a257 4126)] 0), #[]⟩
noncomputable def o1057 (P : PP) : Obj := ⟨(.type PySem.W.SL.s2766695959194262286x5), none, (.seq #[] 0), #[]⟩
noncomputable def o1058 (P : PP) : Obj := ⟨.none, none, (.func (fdOf P (stAt P 32) a235 0 [] .none .none .none .none none .none .none 0)), #[]⟩
noncomputable def o1059 (P : PP) : Obj := ⟨(.type PySem.W.SL.s5856160107412720595x4), none, (.fields #[(.str a235 4122), (.str a235 4123), (.str a9 4124), (.int (131) 0), (.int (1) 0), (.int (0) 0), (.int (0) 0), (.int (3) 0), (.ref 1054), (.bool true), (.int (181) 0), (.ref 1055), .none, (.ref 1056), (.ref 1057), (.ref 1058), (.int (4127) 0), (.int (131) 0), (.str a9 4128)]), #[]⟩
noncomputable def o1060 (P : PP) : Obj := ⟨(.type PySem.W.SL.s7174869446012820540x8), none, (.func (fdOf P (stAt P 32) a235 3 [] .none .none .none (.str a1 258) none (.ref 1059) .none 0)), #[]⟩
noncomputable def o1061 (P : PP) : Obj := ⟨(.type PySem.W.SL.s2766695959194262286x5), none, (.seq #[] 0), #[]⟩
noncomputable def o1062 (P : PP) : Obj := ⟨.none, none, (.fields #[]), #[]⟩
noncomputable def o1063 (P : PP) : Obj := ⟨(.type PySem.W.SL.s2766695959194262286x5), none, (.seq #[(.str a46 4133), (.str a128 4134), (.str a129 4135), (.str a130 4136), (.str a221 4137)] 0), #[]⟩
noncomputable def o1064 (P : PP) : Obj := ⟨(.type PySem.W.SL.s2766695959194262286x5), none, (.seq #[] 0), #[]⟩
noncomputable def o1065 (P : PP) : Obj := ⟨.none, none, (.func (fdOf P (stAt P 33) a236 0 [] .none .none .none .none none .none .none 0)), #[]⟩
noncomputable def o1066 (P : PP) : Obj := ⟨(.type PySem.W.SL.s5856160107412720595x4), none, (.fields #[(.str a236 4130), (.str a236 4131), (.str a9 4132), (.int (134) 0), (.int (1) 0), (.int (0) 0), (.int (0) 0), (.int (3) 0), (.ref 1061), (.bool true), (.int (181) 0), (.ref 1062), .none, (.ref 1063), (.ref 1064), (.ref 1065), (.int (4138) 0), (.int (134) 0), (.str a9 4139)]), #[]⟩
noncomputable def o1067 (P : PP) : Obj := ⟨(.type PySem.W.SL.s7174869446012820540x8), none, (.func (fdOf P (stAt P 33) a236 3 [] .none .none .none (.str a1 258) none (.ref 1066) .none 0)), #[]⟩
noncomputable def o1068 (P : PP) : Obj := ⟨(.type PySem.W.SL.s2766695959194262286x5), none, (.seq #[] 0), #[]⟩
noncomputable def o1069 (P : PP) : Obj := ⟨.none, none, (.fields #[]), #[]⟩
noncomputable def o1070 (P : PP) : Obj := ⟨(.type PySem.W.SL.s2766695959194262286x5), none, (.seq #[(.str a46 4144), (.str a221 4145), (.str a127 4146), (.str a118 4147), (.str a119 4148), (.str a120 4149), (.str a258 4150), (.str a257 4151)] 0), #[]⟩
noncomputable def o1071 (P : PP) : Obj := ⟨(.type PySem.W.SL.s2766695959194262286x5), none, (.seq #[] 0), #[]⟩
noncomputable def o1072 (P : PP) : Obj := ⟨.none, none, (.func (fdOf P (stAt P 34) a237 0 [] .none .none .none .none none .none .none 0)), #[]⟩
noncomputable def o1073 (P : PP) : Obj := ⟨(.type PySem.W.SL.s5856160107412720595x4), none, (.fields #[(.str a237 4141), (.str a237 4142), (.str a9 4143), (.int (146) 0), (.int (1) 0), (.int (0) 0), (.int (0) 0), (.int (3) 0), (.ref 1068), (.bool true), (.int (181) 0), (.ref 1069), .none, (.ref 1070), (.ref 1071), (.ref 1072), (.int (4152) 0), (.int (146) 0), (.str a9 4153)]), #[]⟩
noncomputable def o1074 (P : PP) : Obj := ⟨(.type PySem.W.SL.s7174869446012820540x8), none, (.func (fdOf P (stAt P 34) a237 3 [] .none .none .none (.str a1 258) none (.ref 1073) .none 0)), #[]⟩
noncomputable def o1075 (P : PP) : Obj := ⟨(.type PySem.W.SL.s2766695959194262286x5), none, (.seq #[] 0), #[]⟩
noncomputable def o1076 (P : PP) : Obj := ⟨.none, none, (.fields #[]), #[]⟩
noncomputable def o1077 (P : PP) : Obj := ⟨(.type PySem.W.SL.s2766695959194262286x5), none, (.seq #[(.str a135 4158), (.str a117 4159), (.str a259 4160)] 0), #[]⟩
noncomputable def o1078 (P : PP) : Obj := ⟨(.type PySem.W.SL.s2766695959194262286x5), none, (.seq #[] 0), #[]⟩
noncomputable def o1079 (P : PP) : Obj := ⟨.none, none, (.func (fdOf P (stAt P 35) a238 0 [] .none .none .none .none none .none .none 0)), #[]⟩
noncomputable def o1080 (P : PP) : Obj := ⟨(.type PySem.W.SL.s5856160107412720595x4), none, (.fields #[(.str a238 4155), (.str a238 4156), (.str a9 4157), (.int (176) 0), (.int (1) 0), (.int (0) 0), (.int (0) 0), (.int (3) 0), (.ref 1075), (.bool true), (.int (181) 0), (.ref 1076), .none, (.ref 1077), (.ref 1078), (.ref 1079), (.int (4161) 0), (.int (176) 0), (.str a9 4162)]), #[]⟩
noncomputable def o1081 (P : PP) : Obj := ⟨(.type PySem.W.SL.s7174869446012820540x8), none, (.func (fdOf P (stAt P 35) a238 3 [] .none .none .none (.str a1 258) none (.ref 1080) .none 0)), #[]⟩
noncomputable def o1082 (P : PP) : Obj := ⟨(.type PySem.W.SL.s2766695959194262286x5), none, (.seq #[] 0), #[]⟩
noncomputable def o1083 (P : PP) : Obj := ⟨.none, none, (.fields #[]), #[]⟩
noncomputable def o1084 (P : PP) : Obj := ⟨.none, none, (.func (fdOf P (stAt P 36) a239 0 [] .none .none .none .none none .none .none 0)), #[]⟩
noncomputable def o1085 (P : PP) : Obj := ⟨(.type PySem.W.SL.s5856160107412720595x4), none, (.fields #[(.str a239 4164), (.str a239 4165), (.str a9 4166), (.int (181) 0), (.int (1) 0), (.int (0) 0), (.int (0) 0), (.int (3) 0), (.ref 1082), (.bool true), (.int (181) 0), (.ref 1083), .none, .none, .none, (.ref 1084), (.int (4167) 0), (.int (181) 0), (.str a9 4168)]), #[]⟩
noncomputable def o1086 (P : PP) : Obj := ⟨(.type PySem.W.SL.s7174869446012820540x8), none, (.func (fdOf P (stAt P 36) a239 3 [] .none .none .none (.str a1 258) none (.ref 1085) .none 0)), #[]⟩
noncomputable def o1087 (P : PP) : Obj := ⟨(.type PySem.W.SL.s2766695959194262286x5), none, (.seq #[] 0), #[]⟩
noncomputable def o1088 (P : PP) : Obj := ⟨.none, none, (.fields #[]), #[]⟩
noncomputable def o1089 (P : PP) : Obj := ⟨(.type PySem.W.SL.s2766695959194262286x5), none, (.seq #[(.str a251 4173), (.str a121 4174)] 0), #[]⟩
noncomputable def o1090 (P : PP) : Obj := ⟨(.type PySem.W.SL.s2766695959194262286x5), none, (.seq #[] 0), #[]⟩
noncomputable def o1091 (P : PP) : Obj := ⟨.none, none, (.func (fdOf P (stAt P 37) a240 0 [] .none .none .none .none none .none .none 0)), #[]⟩
noncomputable def o1092 (P : PP) : Obj := ⟨(.type PySem.W.SL.s5856160107412720595x4), none, (.fields #[(.str a240 4170), (.str a240 4171), (.str a9 4172), (.int (183) 0), (.int (1) 0), (.int (0) 0), (.int (0) 0), (.int (3) 0), (.ref 1087), (.bool true), (.int (181) 0), (.ref 1088), .none, (.ref 1089), (.ref 1090), (.ref 1091), (.int (4175) 0), (.int (183) 0), (.str a9 4176)]), #[]⟩
noncomputable def o1093 (P : PP) : Obj := ⟨(.type PySem.W.SL.s7174869446012820540x8), none, (.func (fdOf P (stAt P 37) a240 3 [] .none .none .none (.str a1 258) none (.ref 1092) .none 0)), #[]⟩
noncomputable def o1094 (P : PP) : Obj := ⟨(.type PySem.W.SL.s2766695959194262286x5), none, (.seq #[] 0), #[]⟩
noncomputable def o1095 (P : PP) : Obj := ⟨.none, none, (.fields #[]), #[]⟩
noncomputable def o1096 (P : PP) : Obj := ⟨(.type PySem.W.SL.s2766695959194262286x5), none, (.seq #[(.str a251 4181), (.str a127 4182), (.str a117 4183), (.str a121 4184), (.str a118 4185), (.str a119 4186), (.str a120 4187)] 0), #[]⟩
noncomputable def o1097 (P : PP) : Obj := ⟨(.type PySem.W.SL.s2766695959194262286x5), none, (.seq #[] 0), #[]⟩
noncomputable def o1098 (P : PP) : Obj := ⟨.none, none, (.func (fdOf P (stAt P 38) a241 0 [] .none .none .none .none none .none .none 0)), #[]⟩
noncomputable def o1099 (P : PP) : Obj := ⟨(.type PySem.W.SL.s5856160107412720595x4), none, (.fields #[(.str a241 4178), (.str a241 4179), (.str a9 4180), (.int (191) 0), (.int (1) 0), (.int (0) 0), (.int (0) 0), (.int (3) 0), (.ref 1094), (.bool true), (.int (181) 0), (.ref 1095), .none, (.ref 1096), (.ref 1097), (.ref 1098), (.int (4188) 0), (.int (191) 0), (.str a9 4189)]), #[]⟩
noncomputable def o1100 (P : PP) : Obj := ⟨(.type PySem.W.SL.s7174869446012820540x8), none, (.func (fdOf P (stAt P 38) a241 3 [] .none .none .none (.str a1 258) none (.ref 1099) .none 0)), #[]⟩
noncomputable def o1101 (P : PP) : Obj := ⟨(.type PySem.W.SL.s2766695959194262286x5), none, (.seq #[] 0), #[]⟩
noncomputable def o1102 (P : PP) : Obj := ⟨.none, none, (.fields #[]), #[]⟩
noncomputable def o1103 (P : PP) : Obj := ⟨(.type PySem.W.SL.s2766695959194262286x5), none, (.seq #[(.str a260 4196), (.str a261 4197), (.str a262 4198)] 0), #[]⟩
noncomputable def o1104 (P : PP) : Obj := ⟨(.type PySem.W.SL.s2766695959194262286x5), none, (.seq #[] 0), #[]⟩
noncomputable def o1105 (P : PP) : Obj := ⟨.none, none, (.func (fdOf P (stAt P 40) a242 0 [] .none .none .none .none none .none .none 0)), #[]⟩
noncomputable def o1106 (P : PP) : Obj := ⟨(.type PySem.W.SL.s5856160107412720595x4), none, (.fields #[(.str a242 4193), (.str a242 4194), (.str a9 4195), (.int (217) 0), (.int (2) 0), (.int (0) 0), (.int (0) 0), (.int (3) 0), (.ref 1101), (.bool true), (.int (181) 0), (.ref 1102), .none, (.ref 1103), (.ref 1104), (.ref 1105), (.int (4199) 0), (.int (217) 0), (.str a9 4200)]), #[]⟩
noncomputable def o1107 (P : PP) : Obj := ⟨(.type PySem.W.SL.s7174869446012820540x8), none, (.func (fdOf P (stAt P 40) a242 3 [] .none .none .none (.str a226 4191) none (.ref 1106) .none 0)), #[]⟩
noncomputable def o1108 (P : PP) : Obj := ⟨(.type PySem.W.SL.s2766695959194262286x5), none, (.seq #[] 0), #[]⟩
noncomputable def o1109 (P : PP) : Obj := ⟨.none, none, (.fields #[]), #[]⟩
noncomputable def o1110 (P : PP) : Obj := ⟨(.type PySem.W.SL.s2766695959194262286x5), none, (.seq #[] 0), #[]⟩
noncomputable def o1111 (P : PP) : Obj := ⟨(.type PySem.W.SL.s2766695959194262286x5), none, (.seq #[] 0), #[]⟩
noncomputable def o1112 (P : PP) : Obj := ⟨.none, none, (.func (fdOf P (stAt P 41) a243 0 [] .none .none .none .none none .none .none 0)), #[]⟩
noncomputable def o1113 (P : PP) : Obj := ⟨(.type PySem.W.SL.s5856160107412720595x4), none, (.fields #[(.str a243 4202), (.str a243 4203), (.str a9 4204), (.int (223) 0), (.int (0) 0), (.int (0) 0), (.int (0) 0), (.int (3) 0), (.ref 1108), (.bool true), (.int (181) 0), (.ref 1109), .none, (.ref 1110), (.ref 1111), (.ref 1112), (.int (4205) 0), (.int (223) 0), (.str a9 4206)]), #[]⟩
noncomputable def o1114 (P : PP) : Obj := ⟨(.type PySem.W.SL.s7174869446012820540x8), none, (.func (fdOf P (stAt P 41) a243 3 [] .none .none .none (.str a226 4191) none (.ref 1113) .none 0)), #[]⟩
noncomputable def o1115 (P : PP) : Obj := ⟨(.type PySem.W.SL.s2766695959194262286x5), none, (.seq #[] 0), #[]⟩
noncomputable def o1116 (P : PP) : Obj := ⟨.none, none, (.fields #[]), #[]⟩
noncomputable def o1117 (P : PP) : Obj := ⟨(.type PySem.W.SL.s2766695959194262286x5), none, (.seq #[(.str a260 4211), (.str a257 4212), (.str a258 4213), (.str a256 4214), (.str a263 4215)] 0), #[]⟩
noncomputable def o1118 (P : PP) : Obj := ⟨(.type PySem.W.SL.s2766695959194262286x5), none, (.seq #[] 0), #[]⟩
noncomputable def o1119 (P : PP) : Obj := ⟨.none, none, (.func (fdOf P (stAt P 42) a244 0 [] .none .none .none .none none .none .none 0)), #[]⟩
noncomputable def o1120 (P : PP) : Obj := ⟨(.type PySem.W.SL.s5856160107412720595x4), none, (.fields #[(.str a244 4208), (.str a244 4209), (.str a9 4210), (.int (225) 0), (.int (4) 0), (.int (0) 0), (.int (0) 0), (.int (3) 0), (.ref 1115), (.bool true), (.int (181) 0), (.ref 1116), .none, (.ref 1117), (.ref 1118), (.ref 1119), (.int (4216) 0), (.int (225) 0), (.str a9 4217)]), #[]⟩
noncomputable def o1121 (P : PP) : Obj := ⟨(.type PySem.W.SL.s7174869446012820540x8), none, (.func (fdOf P (stAt P 42) a244 3 [] .none .none .none (.str a226 4191) none (.ref 1120) .none 0)), #[]⟩
noncomputable def o1122 (P : PP) : Obj := ⟨(.type PySem.W.SL.s2766695959194262286x5), none, (.seq #[] 0), #[]⟩
noncomputable def o1123 (P : PP) : Obj := ⟨.none, none, (.fields #[]), #[]⟩
noncomputable def o1124 (P : PP) : Obj := ⟨(.type PySem.W.SL.s2766695959194262286x5), none, (.seq #[(.str a260 4222), (.str a117 4223), (.str a264 4224), (.str a265 4225), (.str a134 4226), (.str a266 4227), (.str a252 4228), (.str a267 4229), (.str a257 4230), (.str a258 4231), (.str a256 4232), (.str a135 4233), (.str a268 4234)] 0), #[]⟩
noncomputable def o1125 (P : PP) : Obj := ⟨(.type PySem.W.SL.s2766695959194262286x5), none, (.seq #[] 0), #[]⟩
noncomputable def o1126 (P : PP) : Obj := ⟨.none, none, (.func (fdOf P (stAt P 43) a245 0 [] .none .none .none .none none .none .none 0)), #[]⟩
noncomputable def o1127 (P : PP) : Obj := ⟨(.type PySem.W.SL.s5856160107412720595x4), none, (.fields #[(.str a245 4219), (.str a245 4220), (.str a9 4221), (.int (232) 0), (.int (4) 0), (.int (0) 0), (.int (0) 0), (.int (3) 0), (.ref 1122), (.bool true), (.int (181) 0), (.ref 1123), .none, (.ref 1124), (.ref 1125), (.ref 1126), (.int (4235) 0), (.int (232) 0), (.str a9 4236)]), #[]⟩
noncomputable def o1128 (P : PP) : Obj := ⟨(.type PySem.W.SL.s7174869446012820540x8), none, (.func (fdOf P (stAt P 43) a245 3 [] .none .none .none (.str a226 4191) none (.ref 1127) .none 0)), #[]⟩
noncomputable def o1129 (P : PP) : Obj := ⟨(.type PySem.W.SL.s2766695959194262286x5), none, (.seq #[] 0), #[]⟩
noncomputable def o1130 (P : PP) : Obj := ⟨.none, none, (.fields #[]), #[]⟩
noncomputable def o1131 (P : PP) : Obj := ⟨.none, none, (.func (fdOf P (stAt P 44) a246 0 [] .none .none .none .none none .none .none 0)), #[]⟩
noncomputable def o1132 (P : PP) : Obj := ⟨(.type PySem.W.SL.s5856160107412720595x4), none, (.fields #[(.str a246 4238), (.str a246 4239), (.str a9 4240), (.int (244) 0), (.int (3) 0), (.int (0) 0), (.int (0) 0), (.int (3) 0), (.ref 1129), (.bool true), (.int (181) 0), (.ref 1130), .none, .none, .none, (.ref 1131), (.int (4241) 0), (.int (244) 0), (.str a9 4242)]), #[]⟩
noncomputable def o1133 (P : PP) : Obj := ⟨(.type PySem.W.SL.s7174869446012820540x8), none, (.func (fdOf P (stAt P 44) a246 3 [] .none .none .none (.str a226 4191) none (.ref 1132) .none 0)), #[]⟩
noncomputable def o1134 (P : PP) : Obj := ⟨(.type PySem.W.SL.s2766695959194262286x5), none, (.seq #[] 0), #[]⟩
noncomputable def o1135 (P : PP) : Obj := ⟨.none, none, (.fields #[]), #[]⟩
noncomputable def o1136 (P : PP) : Obj := ⟨(.type PySem.W.SL.s2766695959194262286x5), none, (.seq #[(.str a269 4247), (.str a270 4248)] 0), #[]⟩
noncomputable def o1137 (P : PP) : Obj := ⟨(.type PySem.W.SL.s2766695959194262286x5), none, (.seq #[] 0), #[]⟩
noncomputable def o1138 (P : PP) : Obj := ⟨.none, none, (.func (fdOf P (stAt P 45) a247 0 [] .none .none .none .none none .none .none 0)), #[]⟩
noncomputable def o1139 (P : PP) : Obj := ⟨(.type PySem.W.SL.s5856160107412720595x4), none, (.fields #[(.str a247 4244), (.str a247 4245), (.str a9 4246), (.int (251) 0), (.int (2) 0), (.int (0) 0), (.int (0) 0), (.int (3) 0), (.ref 1134), (.bool true), (.int (181) 0), (.ref 1135), .none, (.ref 1136), (.ref 1137), (.ref 1138), (.int (4249) 0), (.int (251) 0), (.str a9 4250)]), #[]⟩
noncomputable def o1140 (P : PP) : Obj := ⟨(.type PySem.W.SL.s7174869446012820540x8), none, (.func (fdOf P (stAt P 45) a247 3 [] .none .none .none (.str a226 4191) none (.ref 1139) .none 0)), #[]⟩
noncomputable def o1141 (P : PP) : Obj := ⟨(.type PySem.W.SL.s2766695959194262286x5), none, (.seq #[] 0), #[]⟩
noncomputable def o1142 (P : PP) : Obj := ⟨.none, none, (.fields #[]), #[]⟩
noncomputable def o1143 (P : PP) : Obj := ⟨(.type PySem.W.SL.s2766695959194262286x5), none, (.seq #[(.str a260 4255), (.str a117 4256), (.str a264 4257), (.str a265 4258), (.str a116 4259), (.str a266 4260), (.str a270 4261)] 0), #[]⟩
noncomputable def o1144 (P : PP) : Obj := ⟨(.type PySem.W.SL.s2766695959194262286x5), none, (.seq #[] 0), #[]⟩
noncomputable def o1145 (P : PP) : Obj := ⟨.none, none, (.func (fdOf P (stAt P 46) a248 0 [] .none .none .none .none none .none .none 0)), #[]⟩
noncomputable def o1146 (P : PP) : Obj := ⟨(.type PySem.W.SL.s5856160107412720595x4), none, (.fields #[(.str a248 4252), (.str a248 4253), (.str a9 4254), (.int (257) 0), (.int (4) 0), (.int (0) 0), (.int (0) 0), (.int (3) 0), (.ref 1141), (.bool true), (.int (181) 0), (.ref 1142), .none, (.ref 1143), (.ref 1144), (.ref 1145), (.int (4262) 0), (.int (257) 0), (.str a9 4263)]), #[]⟩
noncomputable def o1147 (P : PP) : Obj := ⟨(.type PySem.W.SL.s7174869446012820540x8), none, (.func (fdOf P (stAt P 46) a248 3 [] .none .none .none (.str a226 4191) none (.ref 1146) .none 0)), #[]⟩
noncomputable def o1148 (P : PP) : Obj := ⟨(.type PySem.W.SL.s2766695959194262286x5), none, (.seq #[] 0), #[]⟩
noncomputable def o1149 (P : PP) : Obj := ⟨.none, none, (.fields #[]), #[]⟩
noncomputable def o1150 (P : PP) : Obj := ⟨.none, none, (.func (fdOf P (stAt P 47) a249 0 [] .none .none .none .none none .none .none 0)), #[]⟩
noncomputable def o1151 (P : PP) : Obj := ⟨(.type PySem.W.SL.s5856160107412720595x4), none, (.fields #[(.str a249 4265), (.str a249 4266), (.str a9 4267), (.int (267) 0), (.int (1) 0), (.int (0) 0), (.int (0) 0), (.int (3) 0), (.ref 1148), (.bool true), (.int (181) 0), (.ref 1149), .none, .none, .none, (.ref 1150), (.int (4268) 0), (.int (267) 0), (.str a9 4269)]), #[]⟩
noncomputable def o1152 (P : PP) : Obj := ⟨(.type PySem.W.SL.s7174869446012820540x8), none, (.func (fdOf P (stAt P 47) a249 3 [] .none .none .none (.str a226 4191) none (.ref 1151) .none 0)), #[]⟩
noncomputable def t36 (P : PP) : BT := putAll (setAll (t35 P) [(3, o3v36 P), (12, o12v36 P), (146, o146v36 P), (980, o980v36 P)]) 983 [o983 P, o984 P, o985 P, o986 P, o987 P, o988 P, o989 P, o990 P, o991 P, o992 P, o993 P, o994 P, o995 P, o996 P, o997 P, o998 P, o999 P, o1000 P, o1001 P, o1002 P, o1003 P, o1004 P, o1005 P, o1006 P, o1007 P, o1008 P, o1009 P, o1010 P, o1011 P, o1012 P, o1013 P, o1014 P, o1015 P, o1016 P, o1017 P, o1018 P, o1019 P, o1020 P, o1021 P, o1022 P, o1023 P, o1024 P, o1025 P, o1026 P, o1027 P, o1028 P, o1029 P, o1030 P, o1031 P, o1032 P, o1033 P, o1034 P, o1035 P, o1036 P, o1037 P, o1038 P, o1039 P, o1040 P, o1041 P, o1042 P, o1043 P, o1044 P, o1045 P, o1046 P, o1047 P, o1048 P, o1049 P, o1050 P, o1051 P, o1052 P, o1053 P, o1054 P, o1055 P, o1056 P, o1057 P, o1058 P, o1059 P, o1060 P, o1061 P, o1062 P, o1063 P, o1064 P, o1065 P, o1066 P, o1067 P, o1068 P, o1069 P, o1070 P, o1071 P, o1072 P, o1073 P, o1074 P, o1075 P, o1076 P, o1077 P, o1078 P, o1079 P, o1080 P, o1081 P, o1082 P, o1083 P, o1084 P, o1085 P, o1086 P, o1087 P, o1088 P, o1089 P, o1090 P, o1091 P, o1092 P, o1093 P, o1094 P, o1095 P, o1096 P, o1097 P, o1098 P, o1099 P, o1100 P, o1101 P, o1102 P, o1103 P, o1104 P, o1105 P, o1106 P, o1107 P, o1108 P, o1109 P, o1110 P, o1111 P, o1112 P, o1113 P, o1114 P, o1115 P, o1116 P, o1117 P, o1118 P, o1119 P, o1120 P, o1121 P, o1122 P, o1123 P, o1124 P, o1125 P, o1126 P, o1127 P, o1128 P, o1129 P, o1130 P, o1131 P, o1132 P, o1133 P, o1134 P, o1135 P, o1136 P, o1137 P, o1138 P, o1139 P, o1140 P, o1141 P, o1142 P, o1143 P, o1144 P, o1145 P, o1146 P, o1147 P, o1148 P, o1149 P, o1150 P, o1151 P, o1152 P]
noncomputable def s36 (P : PP) : ST := ⟨t36 P, 1153, 4271⟩

noncomputable def envT (P : PP) : Env := { scope := P.q.main.scope, locals := 3, globals := 3, cells := [], qual := Str.empty, func := none, code := .ref 13, frame := some 14, builtins := 0 }
noncomputable def envK (P : PP) : Env := { scope := clScope P 23, locals := 146, globals := 3, cells := [], qual := Str.ofString "Known.", func := none, code := .ref 149, frame := some 150, builtins := 0 }
noncomputable def envC (P : PP) (j : Nat) (l : Addr) : Env := { scope := dcScope P j, locals := l, globals := 3, cells := [], qual := Str.ofString "Known.", func := none, code := .ref 149, frame := some 150, builtins := 0 }
noncomputable def envS (P : PP) : Env := { scope := fnScope P 22, locals := 151, globals := 3, cells := [], qual := Str.ofString "shapes.<locals>.", func := some 143, code := .ref 142, frame := some 151, builtins := 0 }
noncomputable def bel (P : PP) (p : Pos) : List (Code × Pos) := [(.body (clBody P 23) (envK P), p), (.body (behindTheImports P.q) (envT P), ⟨76, 0, 82, 79⟩), (.builtin "claim.caller" ⟨[], []⟩, ⟨0, 0, 0, 0⟩)]
noncomputable def belS (P : PP) (p : Pos) : List (Code × Pos) := (.func (fnBody P 22) (envS P), p) :: bel P ⟨77, 13, 77, 21⟩
noncomputable def eN (P : PP) (args : List Value) (p : Pos) (a : Addr) (S S' : ST) : OE := ⟨.call (.ref 136) ⟨args, []⟩, belS P p, p, S, .ok (.ret (.ref a)), ⟨57, 11, 57, 16⟩, S'⟩
noncomputable def eC (P : PP) (j : Nat) (it acc l : Addr) (p : Pos) (S S' : ST) : OE := ⟨.compLoop (dcAt P j) 0 (.ref it) (.ref acc) (envC P j l), bel P p, p, S, .ok .next, p, S'⟩
noncomputable def e0 (P : PP) : OE := ⟨.call (.ref 143) ⟨[], []⟩, bel P ⟨77, 13, 77, 21⟩, ⟨77, 13, 77, 21⟩, s0 P, .ok (.ret (.ref 164)), ⟨75, 11, 75, 16⟩, s25 P⟩
noncomputable def e1 (P : PP) : OE := eN P [(.str (Str.ofString "beq bne - - blt bge bltu bgeu") 631), (.str (Str.ofString "B") 632), (.int (99) 416)] ⟨60, 17, 60, 71⟩ 166 (s1 P) (s2 P)
noncomputable def e2 (P : PP) : OE := eN P [(.str (Str.ofString "lb lh lw - lbu lhu") 775), (.str (Str.ofString "I") 776), (.int (3) 402)] ⟨61, 17, 61, 58⟩ 223 (s3 P) (s4 P)
noncomputable def e3 (P : PP) : OE := eN P [(.str (Str.ofString "sb sh sw") 893), (.str (Str.ofString "S") 894), (.int (35) 410)] ⟨62, 17, 62, 49⟩ 269 (s5 P) (s6 P)
noncomputable def e4 (P : PP) : OE := eN P [(.str (Str.ofString "addi - slti sltiu xori - ori andi") 964), (.str (Str.ofString "I") 965), (.int (19) 406)] ⟨63, 17, 63, 78⟩ 297 (s7 P) (s8 P)
noncomputable def e5 (P : PP) : OE := eN P [(.str (Str.ofString "- slli - - - srli") 1108), (.str (Str.ofString "shift") 1109), (.int (19) 406)] ⟨64, 17, 64, 66⟩ 354 (s9 P) (s10 P)
noncomputable def e6 (P : PP) : OE := eN P [(.str (Str.ofString "- - - - - srai") 1178), (.str (Str.ofString "shift") 1179), (.int (19) 406), (.int (32) 1180)] ⟨65, 17, 65, 67⟩ 391 (s11 P) (s12 P)
noncomputable def e7 (P : PP) : OE := eN P [(.str (Str.ofString "add sll slt sltu xor srl or and") 1233), (.str (Str.ofString "R") 1234), (.int (51) 412)] ⟨66, 17, 66, 75⟩ 425 (s13 P) (s14 P)
noncomputable def e8 (P : PP) : OE := eN P [(.str (Str.ofString "sub - - - - sra") 1409), (.str (Str.ofString "R") 1410), (.int (51) 412), (.int (32) 1411)] ⟨67, 17, 67, 63⟩ 488 (s15 P) (s16 P)
noncomputable def e9 (P : PP) : OE := eN P [(.str (Str.ofString "mul mulh mulhsu mulhu div divu rem remu") 1480), (.str (Str.ofString "R") 1481), (.int (51) 412), (.int (1) 1482)] ⟨68, 17, 68, 86⟩ 525 (s17 P) (s18 P)
noncomputable def e10 (P : PP) : OE := eN P [(.str (Str.ofString "fence fence.i") 1657), (.str (Str.ofString "fence") 1658), (.int (15) 404)] ⟨69, 17, 69, 59⟩ 588 (s19 P) (s20 P)
noncomputable def e11 (P : PP) : OE := eN P [(.str (Str.ofString "- csrrw csrrs csrrc") 1707), (.str (Str.ofString "CSR") 1708), (.int (115) 422)] ⟨70, 17, 70, 63⟩ 609 (s21 P) (s22 P)
noncomputable def e12 (P : PP) : OE := eN P [(.str (Str.ofString "- - - - - csrrwi csrrsi csrrci") 1783), (.str (Str.ofString "CSRI") 1784), (.int (115) 422)] ⟨71, 17, 71, 75⟩ 641 (s23 P) (s24 P)
noncomputable def e13 (P : PP) : OE := eC P 1 730 731 732 ⟨78, 46, 78, 52⟩ (s26 P) (s27 P)
noncomputable def e14 (P : PP) : OE := eC P 2 735 736 737 ⟨79, 50, 79, 56⟩ (s28 P) (s29 P)
noncomputable def e15 (P : PP) : OE := eC P 3 799 800 801 ⟨80, 50, 80, 56⟩ (s30 P) (s31 P)
noncomputable def e16 (P : PP) : OE := eC P 4 892 893 894 ⟨81, 52, 81, 58⟩ (s32 P) (s33 P)
noncomputable def e17 (P : PP) : OE := eC P 5 978 979 980 ⟨82, 46, 82, 52⟩ (s34 P) (s35 P)
noncomputable def orc (P : PP) (n : Nat) : Option OE := match Nat.beq n 151 with
  | true => some (e0 P)
  | false => match Nat.beq n 733 with
    | true => some (e13 P)
    | false => match Nat.beq n 738 with
      | true => some (e14 P)
      | false => match Nat.beq n 802 with
        | true => some (e15 P)
        | false => match Nat.beq n 895 with
          | true => some (e16 P)
          | false => match Nat.beq n 981 with
            | true => some (e17 P)
            | false => none
noncomputable def orcS (P : PP) (n : Nat) : Option OE := match Nat.beq n 424 with
  | true => some (e7 P)
  | false => match Nat.beq n 524 with
    | true => some (e9 P)
    | false => none
noncomputable def sgrP (b b2 : Bool) (P : Params) : Params := { P with followText := fun r => match r == "special-get-raises" with
  | true => b
  | false => match r == "comprehension-iter-twice" with
    | true => b2
    | false => P.followText r }
noncomputable def sgr (b b2 : Bool) (P : PP) : PP := ⟨P.q, sgrP b b2 P.r⟩
@[irreducible] noncomputable def heavyL (O : Nat → Option OE) (e : OE) (P : PP) : Prop := evP treeTable ⟨P.q, P.r⟩ O 11 (some (.ref 6)) 1000000 e.c e.below e.p e.S (denote treeTable e.c) (fun r p' S' => r = e.r ∧ p' = e.p' ∧ S' = e.S')
noncomputable def heavyR (e : OE) : Prop := e.r = e.r ∧ e.p' = e.p' ∧ e.S' = e.S'
theorem heavyR_ok (e : OE) : heavyR e := ⟨rfl, rfl, rfl⟩
noncomputable def okE (e : OE) : Prop := e.c = e.c ∧ e.below = e.below ∧ e.p = e.p ∧ e.S = e.S
theorem okE_ok (e : OE) : okE e := ⟨rfl, rfl, rfl, rfl⟩
noncomputable def rEnd : Result := .ok (.ret .none)
noncomputable def sB (P : PP) : ST := ⟨T0 P, 11, 181⟩
@[irreducible] noncomputable def lightL (b b2 : Bool) (P : PP) : Prop := evP treeTable ⟨(sgr b b2 P).q, (sgr b b2 P).r⟩ (orc (sgr b b2 P)) 11 (some (.ref 6)) 1000000 (.builtin "claim.caller" ⟨[], []⟩) [] ⟨0, 0, 0, 0⟩ (sB (sgr b b2 P)) (topStub P.q).cur (fun r _ S' => r = rEnd ∧ S' = s36 (sgr b b2 P))
noncomputable def lightR (b b2 : Bool) (P : PP) : Prop := okE (e0 (sgr b b2 P)) ∧ okE (e13 (sgr b b2 P)) ∧ okE (e14 (sgr b b2 P)) ∧ okE (e15 (sgr b b2 P)) ∧ okE (e16 (sgr b b2 P)) ∧ okE (e17 (sgr b b2 P)) ∧ (rEnd = rEnd ∧ s36 (sgr b b2 P) = s36 (sgr b b2 P))
theorem lightR_ok (b b2 : Bool) (P : PP) : lightR b b2 P := ⟨okE_ok _, ⟨okE_ok _, ⟨okE_ok _, ⟨okE_ok _, ⟨okE_ok _, ⟨okE_ok _, ⟨rfl, rfl⟩⟩⟩⟩⟩⟩⟩
@[irreducible] noncomputable def h0L (b b2 : Bool) (P : PP) : Prop := heavyL (orcS (sgr b b2 P)) (e0 (sgr b b2 P)) (sgr b b2 P)
noncomputable def h0R (b b2 : Bool) (P : PP) : Prop := okE (e7 (sgr b b2 P)) ∧ okE (e9 (sgr b b2 P)) ∧ heavyR (e0 (sgr b b2 P))
theorem h0R_ok (b b2 : Bool) (P : PP) : h0R b b2 P := ⟨okE_ok _, ⟨okE_ok _, heavyR_ok _⟩⟩
@[irreducible] noncomputable def h7L (b b2 : Bool) (P : PP) : Prop := heavyL (fun _ => none) (e7 (sgr b b2 P)) (sgr b b2 P)
noncomputable def h7R (b b2 : Bool) (P : PP) : Prop := heavyR (e7 (sgr b b2 P))
theorem h7R_ok (b b2 : Bool) (P : PP) : h7R b b2 P := heavyR_ok _
@[irreducible] noncomputable def h9L (b b2 : Bool) (P : PP) : Prop := heavyL (fun _ => none) (e9 (sgr b b2 P)) (sgr b b2 P)
noncomputable def h9R (b b2 : Bool) (P : PP) : Prop := heavyR (e9 (sgr b b2 P))
theorem h9R_ok (b b2 : Bool) (P : PP) : h9R b b2 P := heavyR_ok _
@[irreducible] noncomputable def h13L (b b2 : Bool) (P : PP) : Prop := heavyL (fun _ => none) (e13 (sgr b b2 P)) (sgr b b2 P)
noncomputable def h13R (b b2 : Bool) (P : PP) : Prop := heavyR (e13 (sgr b b2 P))
theorem h13R_ok (b b2 : Bool) (P : PP) : h13R b b2 P := heavyR_ok _
@[irreducible] noncomputable def h14L (b b2 : Bool) (P : PP) : Prop := heavyL (fun _ => none) (e14 (sgr b b2 P)) (sgr b b2 P)
noncomputable def h14R (b b2 : Bool) (P : PP) : Prop := heavyR (e14 (sgr b b2 P))
theorem h14R_ok (b b2 : Bool) (P : PP) : h14R b b2 P := heavyR_ok _
@[irreducible] noncomputable def h15L (b b2 : Bool) (P : PP) : Prop := heavyL (fun _ => none) (e15 (sgr b b2 P)) (sgr b b2 P)
noncomputable def h15R (b b2 : Bool) (P : PP) : Prop := heavyR (e15 (sgr b b2 P))
theorem h15R_ok (b b2 : Bool) (P : PP) : h15R b b2 P := heavyR_ok _
@[irreducible] noncomputable def h16L (b b2 : Bool) (P : PP) : Prop := heavyL (fun _ => none) (e16 (sgr b b2 P)) (sgr b b2 P)
noncomputable def h16R (b b2 : Bool) (P : PP) : Prop := heavyR (e16 (sgr b b2 P))
theorem h16R_ok (b b2 : Bool) (P : PP) : h16R b b2 P := heavyR_ok _
@[irreducible] noncomputable def h17L (b b2 : Bool) (P : PP) : Prop := heavyL (fun _ => none) (e17 (sgr b b2 P)) (sgr b b2 P)
noncomputable def h17R (b b2 : Bool) (P : PP) : Prop := heavyR (e17 (sgr b b2 P))
theorem h17R_ok (b b2 : Bool) (P : PP) : h17R b b2 P := heavyR_ok _
open PySem.W.Fast PyProof.Rows
theorem h7L_self : @h7L = h7L := rfl
theorem h7R_self : @h7R = h7R := rfl
name_quick pq09h7L for h7L by h7L_self
name_quick pq09h7R for h7R by h7R_self
theorem h9L_self : @h9L = h9L := rfl
theorem h9R_self : @h9R = h9R := rfl
name_quick pq09h9L for h9L by h9L_self
name_quick pq09h9R for h9R by h9R_self
theorem grp1 (b2 : Bool) (P : Params) : (PySem.W.Fast.pq09h7L false b2 ⟨pw, P⟩, PySem.W.Fast.pq09h7L true b2 ⟨pw, P⟩, PySem.W.Fast.pq09h9L false b2 ⟨pw, P⟩, PySem.W.Fast.pq09h9L true b2 ⟨pw, P⟩) = (PySem.W.Fast.pq09h7R false b2 ⟨pw, P⟩, PySem.W.Fast.pq09h7R true b2 ⟨pw, P⟩, PySem.W.Fast.pq09h9R false b2 ⟨pw, P⟩, PySem.W.Fast.pq09h9R true b2 ⟨pw, P⟩) := by kernel_rfl
theorem h7F (b2 : Bool) (P : Params) : h7L false b2 ⟨pw, P⟩ := by
  rw [PySem.W.Fast.pq09h7L_eq, (Prod.mk.inj (grp1 b2 P)).1, ← PySem.W.Fast.pq09h7R_eq]
  exact h7R_ok _ _ _
theorem h7T (b2 : Bool) (P : Params) : h7L true b2 ⟨pw, P⟩ := by
  rw [PySem.W.Fast.pq09h7L_eq, (Prod.mk.inj (Prod.mk.inj (grp1 b2 P)).2).1, ← PySem.W.Fast.pq09h7R_eq]
  exact h7R_ok _ _ _
theorem h9F (b2 : Bool) (P : Params) : h9L false b2 ⟨pw, P⟩ := by
  rw [PySem.W.Fast.pq09h9L_eq, (Prod.mk.inj (Prod.mk.inj (Prod.mk.inj (grp1 b2 P)).2).2).1, ← PySem.W.Fast.pq09h9R_eq]
  exact h9R_ok _ _ _
theorem h9T (b2 : Bool) (P : Params) : h9L true b2 ⟨pw, P⟩ := by
  rw [PySem.W.Fast.pq09h9L_eq, (Prod.mk.inj (Prod.mk.inj (Prod.mk.inj (grp1 b2 P)).2).2).2, ← PySem.W.Fast.pq09h9R_eq]
  exact h9R_ok _ _ _
theorem h0L_self : @h0L = h0L := rfl
theorem h0R_self : @h0R = h0R := rfl
name_quick pq09h0L for h0L by h0L_self
name_quick pq09h0R for h0R by h0R_self
theorem grp2 (b2 : Bool) (P : Params) : PySem.W.Fast.pq09h0L false b2 ⟨pw, P⟩ = PySem.W.Fast.pq09h0R false b2 ⟨pw, P⟩ := by kernel_rfl
theorem h0F (b2 : Bool) (P : Params) : h0L false b2 ⟨pw, P⟩ := by
  rw [PySem.W.Fast.pq09h0L_eq, (grp2 b2 P), ← PySem.W.Fast.pq09h0R_eq]
  exact h0R_ok _ _ _
theorem grp3 (b2 : Bool) (P : Params) : PySem.W.Fast.pq09h0L true b2 ⟨pw, P⟩ = PySem.W.Fast.pq09h0R true b2 ⟨pw, P⟩ := by kernel_rfl
theorem h0T (b2 : Bool) (P : Params) : h0L true b2 ⟨pw, P⟩ := by
  rw [PySem.W.Fast.pq09h0L_eq, (grp3 b2 P), ← PySem.W.Fast.pq09h0R_eq]
  exact h0R_ok _ _ _
theorem h13L_self : @h13L = h13L := rfl
theorem h13R_self : @h13R = h13R := rfl
name_quick pq09h13L for h13L by h13L_self
name_quick pq09h13R for h13R by h13R_self
theorem h14L_self : @h14L = h14L := rfl
theorem h14R_self : @h14R = h14R := rfl
name_quick pq09h14L for h14L by h14L_self
name_quick pq09h14R for h14R by h14R_self
theorem h17L_self : @h17L = h17L := rfl
theorem h17R_self : @h17R = h17R := rfl
name_quick pq09h17L for h17L by h17L_self
name_quick pq09h17R for h17R by h17R_self
theorem grp4 (b2 : Bool) (P : Params) : (PySem.W.Fast.pq09h13L false b2 ⟨pw, P⟩, PySem.W.Fast.pq09h13L true b2 ⟨pw, P⟩, PySem.W.Fast.pq09h14L false b2 ⟨pw, P⟩, PySem.W.Fast.pq09h14L true b2 ⟨pw, P⟩, PySem.W.Fast.pq09h17L false b2 ⟨pw, P⟩, PySem.W.Fast.pq09h17L true b2 ⟨pw, P⟩) = (PySem.W.Fast.pq09h13R false b2 ⟨pw, P⟩, PySem.W.Fast.pq09h13R true b2 ⟨pw, P⟩, PySem.W.Fast.pq09h14R false b2 ⟨pw, P⟩, PySem.W.Fast.pq09h14R true b2 ⟨pw, P⟩, PySem.W.Fast.pq09h17R false b2 ⟨pw, P⟩, PySem.W.Fast.pq09h17R true b2 ⟨pw, P⟩) := by kernel_rfl
theorem h13F (b2 : Bool) (P : Params) : h13L false b2 ⟨pw, P⟩ := by
  rw [PySem.W.Fast.pq09h13L_eq, (Prod.mk.inj (grp4 b2 P)).1, ← PySem.W.Fast.pq09h13R_eq]
  exact h13R_ok _ _ _
theorem h13T (b2 : Bool) (P : Params) : h13L true b2 ⟨pw, P⟩ := by
  rw [PySem.W.Fast.pq09h13L_eq, (Prod.mk.inj (Prod.mk.inj (grp4 b2 P)).2).1, ← PySem.W.Fast.pq09h13R_eq]
  exact h13R_ok _ _ _
theorem h14F (b2 : Bool) (P : Params) : h14L false b2 ⟨pw, P⟩ := by
  rw [PySem.W.Fast.pq09h14L_eq, (Prod.mk.inj (Prod.mk.inj (Prod.mk.inj (grp4 b2 P)).2).2).1, ← PySem.W.Fast.pq09h14R_eq]
  exact h14R_ok _ _ _
theorem h14T (b2 : Bool) (P : Params) : h14L true b2 ⟨pw, P⟩ := by
  rw [PySem.W.Fast.pq09h14L_eq, (Prod.mk.inj (Prod.mk.inj (Prod.mk.inj (Prod.mk.inj (grp4 b2 P)).2).2).2).1, ← PySem.W.Fast.pq09h14R_eq]
  exact h14R_ok _ _ _
theorem h17F (b2 : Bool) (P : Params) : h17L false b2 ⟨pw, P⟩ := by
  rw [PySem.W.Fast.pq09h17L_eq, (Prod.mk.inj (Prod.mk.inj (Prod.mk.inj (Prod.mk.inj (Prod.mk.inj (grp4 b2 P)).2).2).2).2).1, ← PySem.W.Fast.pq09h17R_eq]
  exact h17R_ok _ _ _
theorem h17T (b2 : Bool) (P : Params) : h17L true b2 ⟨pw, P⟩ := by
  rw [PySem.W.Fast.pq09h17L_eq, (Prod.mk.inj (Prod.mk.inj (Prod.mk.inj (Prod.mk.inj (Prod.mk.inj (grp4 b2 P)).2).2).2).2).2, ← PySem.W.Fast.pq09h17R_eq]
  exact h17R_ok _ _ _
theorem h15L_self : @h15L = h15L := rfl
theorem h15R_self : @h15R = h15R := rfl
name_quick pq09h15L for h15L by h15L_self
name_quick pq09h15R for h15R by h15R_self
theorem grp5 (b2 : Bool) (P : Params) : (PySem.W.Fast.pq09h15L false b2 ⟨pw, P⟩, PySem.W.Fast.pq09h15L true b2 ⟨pw, P⟩) = (PySem.W.Fast.pq09h15R false b2 ⟨pw, P⟩, PySem.W.Fast.pq09h15R true b2 ⟨pw, P⟩) := by kernel_rfl
theorem h15F (b2 : Bool) (P : Params) : h15L false b2 ⟨pw, P⟩ := by
  rw [PySem.W.Fast.pq09h15L_eq, (Prod.mk.inj (grp5 b2 P)).1, ← PySem.W.Fast.pq09h15R_eq]
  exact h15R_ok _ _ _
theorem h15T (b2 : Bool) (P : Params) : h15L true b2 ⟨pw, P⟩ := by
  rw [PySem.W.Fast.pq09h15L_eq, (Prod.mk.inj (grp5 b2 P)).2, ← PySem.W.Fast.pq09h15R_eq]
  exact h15R_ok _ _ _
theorem h16L_self : @h16L = h16L := rfl
theorem h16R_self : @h16R = h16R := rfl
name_quick pq09h16L for h16L by h16L_self
name_quick pq09h16R for h16R by h16R_self
theorem grp6 (b2 : Bool) (P : Params) : (PySem.W.Fast.pq09h16L false b2 ⟨pw, P⟩, PySem.W.Fast.pq09h16L true b2 ⟨pw, P⟩) = (PySem.W.Fast.pq09h16R false b2 ⟨pw, P⟩, PySem.W.Fast.pq09h16R true b2 ⟨pw, P⟩) := by kernel_rfl
theorem h16F (b2 : Bool) (P : Params) : h16L false b2 ⟨pw, P⟩ := by
  rw [PySem.W.Fast.pq09h16L_eq, (Prod.mk.inj (grp6 b2 P)).1, ← PySem.W.Fast.pq09h16R_eq]
  exact h16R_ok _ _ _
theorem h16T (b2 : Bool) (P : Params) : h16L true b2 ⟨pw, P⟩ := by
  rw [PySem.W.Fast.pq09h16L_eq, (Prod.mk.inj (grp6 b2 P)).2, ← PySem.W.Fast.pq09h16R_eq]
  exact h16R_ok _ _ _
theorem lightL_self : @lightL = lightL := rfl
theorem lightR_self : @lightR = lightR := rfl
name_quick pq09lL for lightL by lightL_self
name_quick pq09lR for lightR by lightR_self
theorem grp7 (b2 : Bool) (P : Params) : (PySem.W.Fast.pq09lL false false ⟨pw, P⟩, PySem.W.Fast.pq09lL false true ⟨pw, P⟩) = (PySem.W.Fast.pq09lR false false ⟨pw, P⟩, PySem.W.Fast.pq09lR false true ⟨pw, P⟩) := by kernel_rfl
theorem lightFF (P : Params) : lightL false false ⟨pw, P⟩ := by
  rw [PySem.W.Fast.pq09lL_eq, (Prod.mk.inj (grp7 true P)).1, ← PySem.W.Fast.pq09lR_eq]
  exact lightR_ok _ _ _
theorem lightFT (P : Params) : lightL false true ⟨pw, P⟩ := by
  rw [PySem.W.Fast.pq09lL_eq, (Prod.mk.inj (grp7 true P)).2, ← PySem.W.Fast.pq09lR_eq]
  exact lightR_ok _ _ _
theorem grp8 (b2 : Bool) (P : Params) : (PySem.W.Fast.pq09lL true false ⟨pw, P⟩, PySem.W.Fast.pq09lL true true ⟨pw, P⟩) = (PySem.W.Fast.pq09lR true false ⟨pw, P⟩, PySem.W.Fast.pq09lR true true ⟨pw, P⟩) := by kernel_rfl
theorem lightTF (P : Params) : lightL true false ⟨pw, P⟩ := by
  rw [PySem.W.Fast.pq09lL_eq, (Prod.mk.inj (grp8 true P)).1, ← PySem.W.Fast.pq09lR_eq]
  exact lightR_ok _ _ _
theorem lightTT (P : Params) : lightL true true ⟨pw, P⟩ := by
  rw [PySem.W.Fast.pq09lL_eq, (Prod.mk.inj (grp8 true P)).2, ← PySem.W.Fast.pq09lR_eq]
  exact lightR_ok _ _ _
end
end Mine
-- part HX
namespace Mine
open PySem PySem.W
noncomputable section
open PySem.W.Fast PyProof.Rows
noncomputable abbrev mk (P : Params) : PP := ⟨pw, P⟩
theorem sgr_eq (b b2 : Bool) (P : Params) : sgrP b b2 P = { P with followText := (sgrP b b2 P).followText } := rfl
theorem sgr_self (P : Params) : sgrP (P.followText "special-get-raises") (P.followText "comprehension-iter-twice") P = P := by
  have e : (sgrP (P.followText "special-get-raises") (P.followText "comprehension-iter-twice") P).followText = P.followText := by
    funext r
    unfold sgrP
    dsimp only
    split
    · next h => rw [eq_of_beq h]
    · split
      · next h => rw [eq_of_beq h]
      · rfl
  rw [sgr_eq, e]
theorem two {q : PP → Prop} (hF : ∀ b2 P, q (sgr false b2 (mk P))) (hT : ∀ b2 P, q (sgr true b2 (mk P))) (P : Params) : q (mk P) := by
  have e : mk P = sgr (P.followText "special-get-raises") (P.followText "comprehension-iter-twice") (mk P) := congrArg mk (sgr_self P).symm
  rw [e]
  generalize P.followText "special-get-raises" = b
  generalize P.followText "comprehension-iter-twice" = b2
  cases b
  · exact hF b2 P
  · exact hT b2 P
noncomputable abbrev GoodW (B : Nat) (e : PP → OE) : Prop := ∀ (w : World) (os : OsState), Good treeTable pw w 11 (some (.ref 6)) {} boot_drawn os B (e (mk w.params))
theorem GoodW.mono {B B' : Nat} {e : PP → OE} (h : GoodW B e) (hb : B ≤ B') : GoodW B' e := fun w os fs o hw => by
  obtain ⟨m, c, f, hm, r⟩ := h w os fs o hw
  exact ⟨m, c, f, Nat.le_trans hm hb, r⟩
theorem good_of {O : PP → Nat → Option OE} {B : Nat} {e : PP → OE} (HO : ∀ w os k e', O (mk w.params) k = some e' → Good treeTable pw w 11 (some (.ref 6)) {} boot_drawn os B e')
    (h : ∀ P, heavyL (O (mk P)) (e (mk P)) (mk P)) : ∃ B', GoodW B' e := ⟨bnd B 1000000, fun w os fs o hw => by
  obtain ⟨m, r, q', S', hm, ⟨h1, h2, h3⟩, c', fs', hs, hg⟩ := evP_sound treeTable pw w 11 (some (.ref 6)) {} boot_drawn os (HO w os) _ _ _ _ _ _ _ (by have q := h w.params; unfold heavyL at q; exact q) fs o hw
  subst h1; subst h2; subst h3
  exact ⟨m, c', fs', hm, hs, hg⟩⟩
theorem good_none {e : PP → OE} (hF : ∀ (b2 : Bool) P, heavyL (fun _ => none) (e (sgr false b2 (mk P))) (sgr false b2 (mk P))) (hT : ∀ (b2 : Bool) P, heavyL (fun _ => none) (e (sgr true b2 (mk P))) (sgr true b2 (mk P))) : ∃ B', GoodW B' e :=
  good_of (O := fun _ _ => none) (B := 0) (fun _ _ _ _ h => nomatch h) (two (q := fun P => heavyL (fun _ => none) (e P) P) hF hT)
theorem init_eq (P : Params) (os : OsState) : Sh {} boot_drawn os (sB (mk P)) = ⟨boot_heap P, #[], boot_drawn, boot_toks, os⟩ := by
  kernel_rfl
theorem sh_end (P : Params) (os : OsState) : Sh {} boot_drawn os (s36 (mk P)) = ⟨absHeap (t36 (mk P)) 1153 {}, #[], boot_drawn, 4271, os⟩ := by kernel_rfl
theorem stub_eq : (⟨(topStub pw).cur, .builtin "claim.caller" ⟨[], []⟩, ⟨0, 0, 0, 0⟩, []⟩ : Thread) = topStub pw := rfl
theorem top_of {B n : Nat} (HO : ∀ w os k e', orc (mk (w : World).params) k = some e' → Good treeTable pw w 11 (some (.ref 6)) {} boot_drawn os B e')
    (h : ∀ P : Params, evP treeTable ⟨pw, P⟩ (orc (mk P)) 11 (some (.ref 6)) n (.builtin "claim.caller" ⟨[], []⟩) [] ⟨0, 0, 0, 0⟩ (sB (mk P)) (topStub pw).cur (fun r _ S' => r = rEnd ∧ S' = s36 (mk P))) :
    ∃ M, ∀ (w : World) (os : OsState), topRun treeTable pw w 11 (some (.ref 6)) M ⟨boot_heap w.params, #[], boot_drawn, boot_toks, os⟩ (topStub pw) = some ⟨absHeap (t36 (mk w.params)) 1153 {}, #[], boot_drawn, 4271, os⟩ := by
  refine ⟨bnd B n + 1, fun w os => ?_⟩
  obtain ⟨m, r, q', S', hm, ⟨h1, h2⟩, c', fs', hs, hg⟩ := evP_sound treeTable pw w 11 (some (.ref 6)) {} boot_drawn os (HO w os) _ _ _ _ _ _ _ (h w.params) [] True.intro rfl
  subst h1; subst h2
  have e : fs' = [] := hs
  subst e
  have k := hg 1 (Sh {} boot_drawn os (s36 (mk w.params))) (by unfold topRun; rfl)
  rw [init_eq] at k
  have k2 := topRun_mono (bnd B n - m) _ _ _ _ k
  rw [show m + 1 + (bnd B n - m) = bnd B n + 1 by omega] at k2
  rw [stub_eq] at k2
  exact k2.trans (congrArg some (sh_end w.params os))
end
end Mine
-- part JN
namespace Mine
open PySem PySem.W
noncomputable section
open PySem.W.Fast PyProof.Rows
@[irreducible] noncomputable def lightE (P : PP) : Prop := evP treeTable ⟨P.q, P.r⟩ (orc P) 11 (some (.ref 6)) 1000000 (.builtin "claim.caller" ⟨[], []⟩) [] ⟨0, 0, 0, 0⟩ (sB P) (topStub P.q).cur (fun r _ S' => r = rEnd ∧ S' = s36 P)
theorem lightA (b b2 : Bool) (P : Params) : lightE (sgr b b2 (mk P)) := by
  have q : lightL b b2 (mk P) := by
    cases b
    · cases b2
      · exact lightFF P
      · exact lightFT P
    · cases b2
      · exact lightTF P
      · exact lightTT P
  unfold lightL at q
  unfold lightE
  assumption
theorem top_ofE {B : Nat} (HO : ∀ w os k e', orc (mk (w : World).params) k = some e' → Good treeTable pw w 11 (some (.ref 6)) {} boot_drawn os B e')
    (h : ∀ P : Params, lightE (mk P)) :
    ∃ M, ∀ (w : World) (os : OsState), topRun treeTable pw w 11 (some (.ref 6)) M ⟨boot_heap w.params, #[], boot_drawn, boot_toks, os⟩ (topStub pw) = some ⟨absHeap (t36 (mk w.params)) 1153 {}, #[], boot_drawn, 4271, os⟩ := by
  refine top_of (B := B) (n := 1000000) HO ?_
  intro P
  have q := h P
  unfold lightE at q
  assumption
theorem run_all : ∃ M, ∀ (w : World) (os : OsState), topRun treeTable pw w 11 (some (.ref 6)) M ⟨boot_heap w.params, #[], boot_drawn, boot_toks, os⟩ (topStub pw) = some ⟨absHeap (t36 (mk w.params)) 1153 {}, #[], boot_drawn, 4271, os⟩ := by
  obtain ⟨b7, g7⟩ := good_none (e := e7) (by intro b2 P; have q : h7L false b2 (mk P) := h7F b2 P; unfold h7L at q; assumption) (by intro b2 P; have q : h7L true b2 (mk P) := h7T b2 P; unfold h7L at q; assumption)
  obtain ⟨b9, g9⟩ := good_none (e := e9) (by intro b2 P; have q : h9L false b2 (mk P) := h9F b2 P; unfold h9L at q; assumption) (by intro b2 P; have q : h9L true b2 (mk P) := h9T b2 P; unfold h9L at q; assumption)
  obtain ⟨b13, g13⟩ := good_none (e := e13) (by intro b2 P; have q : h13L false b2 (mk P) := h13F b2 P; unfold h13L at q; assumption) (by intro b2 P; have q : h13L true b2 (mk P) := h13T b2 P; unfold h13L at q; assumption)
  obtain ⟨b14, g14⟩ := good_none (e := e14) (by intro b2 P; have q : h14L false b2 (mk P) := h14F b2 P; unfold h14L at q; assumption) (by intro b2 P; have q : h14L true b2 (mk P) := h14T b2 P; unfold h14L at q; assumption)
  obtain ⟨b15, g15⟩ := good_none (e := e15) (by intro b2 P; have q : h15L false b2 (mk P) := h15F b2 P; unfold h15L at q; assumption) (by intro b2 P; have q : h15L true b2 (mk P) := h15T b2 P; unfold h15L at q; assumption)
  obtain ⟨b16, g16⟩ := good_none (e := e16) (by intro b2 P; have q : h16L false b2 (mk P) := h16F b2 P; unfold h16L at q; assumption) (by intro b2 P; have q : h16L true b2 (mk P) := h16T b2 P; unfold h16L at q; assumption)
  obtain ⟨b17, g17⟩ := good_none (e := e17) (by intro b2 P; have q : h17L false b2 (mk P) := h17F b2 P; unfold h17L at q; assumption) (by intro b2 P; have q : h17L true b2 (mk P) := h17T b2 P; unfold h17L at q; assumption)
  obtain ⟨b0, g0⟩ := good_of (O := orcS) (B := b7 + b9) (e := e0) (fun w os k e' h => by
    unfold orcS at h
    split at h
    · cases h; exact g7.mono (by omega) w os
    · split at h
      · cases h; exact g9.mono (by omega) w os
      · cases h) (two (q := fun P => heavyL (orcS P) (e0 P) P) (by intro b2 P; have q : h0L false b2 (mk P) := h0F b2 P; unfold h0L at q; assumption) (by intro b2 P; have q : h0L true b2 (mk P) := h0T b2 P; unfold h0L at q; assumption))
  refine top_ofE (B := b0 + b13 + b14 + b15 + b16 + b17) (fun w os k e' h => ?_) (two (q := lightE) (fun b2 P => lightA false b2 P) (fun b2 P => lightA true b2 P))
  unfold orc at h
  split at h
  · cases h; exact g0.mono (by omega) w os
  · split at h
    · cases h; exact g13.mono (by omega) w os
    · split at h
      · cases h; exact g14.mono (by omega) w os
      · split at h
        · cases h; exact g15.mono (by omega) w os
        · split at h
          · cases h; exact g16.mono (by omega) w os
          · split at h
            · cases h; exact g17.mono (by omega) w os
            · cases h
end
end Mine
-- part HK
namespace Mine
open PySem PySem.W PyProof.Rows
theorem my_open {r : OpenRow} {q : Program} {loose : List Str} {Xt : Shared → Bool} {XP : (Str → Option Value) → Heap → Prop} {α : Type} {Yf : Shared → α} {Ya : World → α} {YP : World → Heap → Prop} {d : DefRec} {kwd : List (Str × Expr)}
    (hY : ∀ w s, Yf s = Ya w → YP w s.heap) (hYk : ∀ w h h', YP w h → (∀ b o, h.get? b = some o → h'.get? b = some o) → YP w h')
    (hX : ∀ s, Xt s = true → XP (s.heap.nsMap mainGlobals) s.heap) (hXk : ∀ mg h h', XP mg h → (∀ b o, h.get? b = some o → h'.get? b = some o) → XP mg h')
    (hdef : defOf q r.name = some (d, kwd)) (hp : r.prog.theDef r.name = some (d.params, d.body, d.scope)) (hk : kwWritten? d.params.kwonlyargs d.params.kw_defaults = some kwd) (hRf : ∀ s, Xt s = true → RecFacts r.records s.heap) (hwr : (!r.writes || r.records.isEmpty) = true)
    (k1 : r.wellSaid = true) (ok : (chainsOk q && opensWell r.prog && (frees r.toRowW && r.within.isEmpty)) = true) (hb : r.prog.bare) (hw : r.toRowW.promised)
    (call : (∃ N, LeftO r.prog q loose Xt (fun s => (Yf s, s.heap.get? 0)) (fun w => (Ya w, some (o0 w.params))) N true) ∧ WalkO q loose XP (fun w h => YP w h ∧ h.get? 0 = some (o0 w.params)) r.toRowW d kwd fun f vs => PySem.call f vs) : r.Holds := by
  obtain ⟨⟨N, hl⟩, c⟩ := call
  exact holds_open hl (fun w s e => ⟨hY w s (Prod.mk.inj e).1, (Prod.mk.inj e).2⟩) (fun w h h' y k => ⟨hYk w h h' y.1 k, k _ _ y.2⟩) hX hXk hdef hp hk hRf hwr k1 ok hb hw c
open Lean in
local macro_rules
  | `(tactic| refine $t:term) => do
    let s := t.raw
    if s.isOfKind ``Lean.Parser.Term.app && s[0].getId.eraseMacroScopes == ``PySem.W.holds_open then
      let args := s[1].getArgs
      let args := args.toList.zipIdx.filterMap fun (a, i) => if i == 7 || i == 8 then none else some a
      let s' := (s.setArg 0 (mkIdent ``Mine.my_open)).setArg 1 (mkNullNode args.toArray)
      `(tactic| refine $(⟨s'⟩))
    else Macro.throwUnsupported
local macro_rules | `(tactic| o_law) => `(tactic| refine holds_law (by decide +kernel) fun said => ?_)
set_option maxHeartbeats 0 in
open_top hd for PySem.Challenge.rw_pq0900_01
end Mine
-- part BAD
namespace Mine
theorem resetBAD : True := by
  w_top off
  k_with_none
  exact True.intro
open PySem PySem.W PySem.W.X PyProof.Rows PySem.Calls
noncomputable def MadeBad (h h' : Heap) (e : Addr) : Prop := (∀ b o, h.get? b = some o → h'.get? b = some o) ∧ h.get? e = none ∧ ∃ ob tp, h'.get? e = some ob ∧ ob.cls = .ref 45 ∧ ob.data = .fields #[.ref tp, .none, .none, .none, .bool false, .none]
theorem made_bad {h h' : Heap} {news : List (Addr × Obj)} {i : Nat} {e t dd : Addr} (D : Mem h h' [] news) (hi : news[i]? = some (e, ⟨.ref 45, some dd, .fields #[.ref t, .none, .none, .none, .bool false, .none], #[]⟩)) : MadeBad h h' e :=
  ⟨fun b o q => D.keep b o q (by unfold away; simp), (D.nw _ (List.mem_of_getElem? hi)).2, _, t, (D.nw _ (List.mem_of_getElem? hi)).1, rfl, rfl⟩
local macro_rules | `(tactic| x_close) => `(tactic| k_extra "x_close")
set_option maxHeartbeats 0 in
theorem bad_call5 : ∀ {w : World} (prog : Program) (fr : Option (List Env)) (gd : Option (List Code)) (un : Nat) (s : Shared) (x : Str) (tk : Tok), (hd.heap_1 w.params).In s.heap → s.heap.get? 0 = some (o0 w.params) →
    wpAny (model prog w) { handled := none, depth := 306, frames := fr, guards := gd, units := un } (call (.ref 45) [.str x tk]) (fun v s' => ∃ e, v = .ref e ∧ MadeBad s.heap s'.heap e ∧ s'.gens = s.gens ∧ s'.drawn = s.drawn ∧ s'.os = s.os) (fun _ _ => False) s := by
  k_with_none
  k_with "x_close" => ((have D := ‹Mem _ _ _ _›; first | exact ⟨_, rfl, made_bad (i := 0) D rfl, rfl, rfl, rfl⟩ | exact ⟨_, rfl, made_bad (i := 1) D rfl, rfl, rfl, rfl⟩ | exact ⟨_, rfl, made_bad (i := 2) D rfl, rfl, rfl, rfl⟩ | exact ⟨_, rfl, made_bad (i := 3) D rfl, rfl, rfl, rfl⟩ | exact ⟨_, rfl, made_bad (i := 4) D rfl, rfl, rfl, rfl⟩))
  k_fill
  intro w prog fr gd un s x tk X h0
  unfold o0 PySem.W.boot_o_0 at h0
  replace h0 : s.heap.get? (nat_lit 0) = some _ := h0
  have h3 : s.heap.get? (nat_lit 3) = some (o3v36 ⟨pw, w.params⟩) := X _ _ (by kernel_rfl)
  unfold o3v36 at h3
  x_run
  all_goals (dsimp only at *; x_close)
theorem in_deeper {Γ : Ctx} {fr : Option (List Env)} {gd : Option (List Code)} {un : Nat} (h : Γ.In { handled := none, depth := 305, frames := fr, guards := gd, units := un }) : Γ.In { handled := none, depth := 306, frames := fr, guards := gd, units := un } :=
  ⟨h.1, Nat.le_succ_of_le h.2.1, h.2.2.1, h.2.2.2.1, h.2.2.2.2⟩
theorem bad_call4 {w : World} (prog : Program) (fr : Option (List Env)) (gd : Option (List Code)) (un : Nat) (s : Shared) (x : Str) (tk : Tok) (X : (hd.heap_1 w.params).In s.heap) (h0 : s.heap.get? 0 = some (o0 w.params)) :
    wpAny (model prog w) { handled := none, depth := 305, frames := fr, guards := gd, units := un } (call (.ref 45) [.str x tk]) (fun v s' => ∃ e, v = .ref e ∧ MadeBad s.heap s'.heap e ∧ s'.gens = s.gens ∧ s'.drawn = s.drawn ∧ s'.os = s.os) (fun _ _ => False) s :=
  fun Γ p hΓ => bad_call5 prog fr gd un s x tk X h0 Γ p (in_deeper hΓ)
end Mine
-- part W0
namespace Mine
theorem resetW0 : True := by
  w_top off
  k_with_none
  k_with "omega" => lia
  exact True.intro
open PySem PySem.W PyProof.Rows PySem.Calls PySem.Spec
theorem Fr.congr {h₀ h : Heap} {L : Addr} {m m' : Str → Option Value} (F : Fr h₀ L h m) (e : m = m') : Fr h₀ L h m' := e ▸ F
section
variable {M : Model} {A : Around} {E : Value → Shared → Prop} {s' : Shared} {base g g₂ h : Heap} {outer : List Env} {L a e t : Addr} {m : Str → Option Value} {name : Str} {scope : Scope} {cd : Value} {Q : Unit → Shared → Prop} {news : List (Addr × Obj)}
/-- the frame is left by a fresh BadArgument -/
theorem leave_bad (K : Below A base outer g) (hx : MadeBad h s'.heap e) (F : Fr g L h m) (N : News g L h news)
    (hQ : ∀ h', RaisedSN base g outer e (.ref 45) news h' → g.UpToSlots h' → Q () { s' with heap := h' }) (hk : scope.kind = .function := by rfl) :
    wpAny M (A.deeper (envOf name scope L a cd)) (leaving (envOf name scope L a cd) (.ref e)) Q E s' := by
  obtain ⟨hkeep, hnew, ob, tp, he, hcls, hd⟩ := hx
  have K' := K.push (name := name) (a := a) (cd := cd) F hk
  let fs := (envOf name scope L a cd :: outer).filterMap (·.frame)
  have isIn : ∀ env ∈ (envOf name scope L a cd :: outer), ∀ b, env.frame = some b → b ∈ fs := fun env q b r => List.mem_filterMap.mpr ⟨env, q, r⟩
  have st : base.StaysIn (hideAll h fs) := fun b o q => hideAll_get _ (K'.stays b o q) fun z => by
    have := (K'.frames.mem z).1
    rw [q] at this; cases this
  have sg : ∀ b o, g.get? b = some o → b ∉ outer.filterMap (·.frame) → (hideAll h fs).get? b = some o := fun b o q nm => hideAll_get _ (F.keep b o q) fun z => by
    rcases kts_mem z with z | z
    · rw [z, kts_self F] at q
      cases q
    · exact nm z
  have hl : ∀ q ∈ news, (hideAll h fs).get? q.1 = some q.2 ∧ g.get? q.1 = none ∧ base.get? q.1 = none := fun q hq => by
    refine ⟨hideAll_get _ (N q hq).1 fun z => ?_, (N q hq).2.2, fresh_of_stays K.stays (N q hq).2.2⟩
    obtain ⟨env, q1, q2⟩ := List.mem_filterMap.mp z
    rcases List.mem_cons.mp q1 with rfl | q1
    · exact (N q hq).2.1 (Option.some.inj q2).symm
    · obtain ⟨o, ho, _⟩ := (K.frames.mem (List.mem_filterMap.mpr ⟨env, q1, q2⟩)).2
      rw [(N q hq).2.2] at ho; cases ho
  have hen : (hideAll h fs).get? e = none := by
    cases q : (hideAll h fs).get? e with
    | none => rfl
    | some o => have := of_hideAll _ q; rw [hnew] at this; cases this
  refine wpAny_leaving_firstW (a0 := .ref tp) K'.stack ((funFrames_hide K'.frames isIn).of_keeps fun b o hb _ => ⟨o, hkeep b o hb, rfl⟩) rfl he (fun b o hb => hkeep b o (of_hideAll _ hb)) hen hd rfl rfl fun h' hL => ?_
  obtain ⟨k1, ⟨_, _, k2⟩, k3, k4⟩ := hL
  exact hQ h' ⟨_, _, st, sg, hl, k1, hen, k2, by rw [← hcls]; exact k3⟩ (((Heap.UpToSlots.of_keeps F.keep).trans (Heap.UpToSlots.of_keeps hkeep)).trans k4)
end

noncomputable abbrev badObj : Obj := excClassObj (Str.ofString "BadArgument") (Str.ofString "BadArgument") 45 44 [.ref 32] [.ref 32, .type "ValueError", .type "Exception", .type "BaseException", .type "object"] true [] [] false none none (some (.ref 36)) none (some (.str (Str.ofString "BadArgument") 217)) (some (.str (Str.ofString "BadArgument") 225)) (some (.bool true)) "ValueError.__new__"
noncomputable abbrev rwp : Program := PySem.Challenge.rw_pq0900_01.row.prog
theorem bad_cls {w : World} {h : Heap} (X : (hd.heap_1 w.params).In h) : h.get? 45 = some badObj := X 45 _ rfl
theorem raise_stmt {M : Model} {A : Around} {E : Value → Shared → Prop} {env : Env} {s : Shared} {x : Sem Value} {Q : Flow → Shared → Prop} (hh : A.handled = none)
    (h : wpAny M A x (fun v s₁ => ∃ e t ob, v = .ref e ∧ s₁.heap.get? 45 = some badObj ∧ s₁.heap.get? e = some ob ∧ ob.cls = .ref 45 ∧ ob.data = .fields #[.ref t, .none, .none, .none, .bool false, .none] ∧ E (.ref e) s₁) E s) :
    wpAny M A (raiseStmt env (some x) none) Q E s := by
  have hcB : ([Value.ref 45, .ref 32, .type "ValueError", .type "Exception", .type "BaseException", .type "object"] : List Value).contains (.type "BaseException") = true := by decide
  unfold raiseStmt
  refine wpAny_bind (wpAny_mono h (fun v s₁ h₁ => ?_) fun _ _ x => x)
  obtain ⟨e, t, ⟨oc, od, odt, osl⟩, rfl, hC, he, rfl, rfl, hE⟩ := h₁
  obtain ⟨hp, g, d, tk, os⟩ := s₁
  repeat (first | with_reducible refine wpAny_loadPart_at he ?_ | with_reducible refine wpAny_loadPart_at hC ?_ | (with_reducible refine wpAny_isSubtype_exc hC ?_; rw [hcB]) | wp_step)
  exact wpAny_raiseNew_none hh hE

theorem bad_call {w : World} {c : Nat} (hc : c = 305 ∨ c = 306) (fr : Option (List Env)) (gd : Option (List Code)) (un : Nat) (s : Shared) (x : Str) (tk : Tok) (X : (hd.heap_1 w.params).In s.heap) (h0 : s.heap.get? 0 = some (o0 w.params)) :
    wpAny (model rwp w) { handled := none, depth := c, frames := fr, guards := gd, units := un } (call (.ref 45) [.str x tk]) (fun v s' => ∃ e, v = .ref e ∧ MadeBad s.heap s'.heap e ∧ s'.gens = s.gens ∧ s'.drawn = s.drawn ∧ s'.os = s.os) (fun _ _ => False) s := by
  rcases hc with rfl | rfl
  · exact bad_call4 _ fr gd un s x tk X h0
  · exact bad_call5 _ fr gd un s x tk X h0
theorem nameIn_bad {w : World} : nsIn (hd.heap_1 w.params) mainGlobals (Str.ofString "BadArgument") = some (some (.ref 45)) := by kernel_rfl
theorem keepIn_bad {w : World} : keepIn (hd.heap_1 w.params) (.ref 45) = true := by kernel_rfl
section
variable {w : World} {E : Value → Shared → Prop} {s : Shared} {h₀ : Heap} {L a : Addr} {m mg mb : Str → Option Value} {loose : List Str} {p : Program} {name : Str} {scope : Scope} {cd : Value} {Q : Flow → Shared → Prop} {np cpos pos p1 : Pos} {x : Str} {kk : Tok} {fr : Option (List Env)} {gd : Option (List Code)} {un : Nat}
theorem exec_bad {A : Around} {x0 c : Nat} (hA : A = { handled := none, depth := c, frames := fr, guards := gd, units := un }) (hc : c = 305 ∨ c = 306) (F : Fr h₀ L s.heap m) (X : (hd.heap_1 w.params).In h₀) (T : TopRead p loose mg mb h₀) (h0 : h₀.get? 0 = some (o0 w.params))
    (k : ∀ h' e tk, MadeBad s.heap h' e → E (.ref e) { s with heap := h', toks := tk })
    (hk : scope.kind = .function := by rfl) (hx : (envOf name scope L a cd).kindOf (Str.ofString "BadArgument") = some .globalImplicit := by rfl) :
    wpAny (model rwp w) A (exec (.Raise (some (.Call (.Name (Str.ofString "BadArgument") np) [.Constant (.str x) x0 p1] [] cpos)) none pos) (envOf name scope L a cd)) Q E s := by
  rw [arm_exec_Raise]
  refine wpAny_bind (wpAny_standAt (raise_stmt (by rw [hA]) ?_))
  refine wpAny_bind (wpAny_mono (wpAny_Call_ofName (name_K F X T nameIn_bad ?_ hk hx (by decide))) (fun v s₃ h₃ => wpAny_bind (wpAny_standAt (wpAny_pure h₃))) fun _ _ x => x)
  refine callWith_K (K := hd.heap_1 w.params) (h₀ := h₀) X keepIn_bad ?_
  refine spliced_cons (wpAny_Constant_str (k := 0) (pos := cpos) (spliced_nil ⟨X.keeps F.keep, ?_⟩))
  rw [hA]
  refine wpAny_mono (bad_call hc fr gd un _ x _ (X.keeps F.keep) (F.keep _ _ h0)) (fun v s' hv => ?_) (fun _ _ h => h.elim)
  obtain ⟨e, rfl, ⟨h1, h2, ob, t, h3, h4, h5⟩, h6, h7, h8⟩ := hv
  obtain ⟨hp, g, d, tk, os⟩ := s'
  dsimp only at h6 h7 h8
  subst h6; subst h7; subst h8
  refine ⟨e, t, ob, rfl, h1 _ _ (F.keep _ _ (X 45 _ rfl)), h3, h4, h5, k hp e tk ⟨h1, h2, ob, t, h3, h4, h5⟩⟩
end

theorem RaisedSN.sub {base G : Heap} {l : List Env} {e : Addr} {cls : Value} {news news' : List (Addr × Obj)} {h : Heap} (R : RaisedSN base G l e cls news h) (hs : ∀ q ∈ news', q ∈ news) : RaisedSN base G l e cls news' h := by
  obtain ⟨B, a0, h1, h2, h3, h4⟩ := R
  exact ⟨B, a0, h1, h2, fun q hq => h3 q (hs q hq), h4⟩
section
variable {w : World} {A₀ : Around} {E : Value → Shared → Prop} {s' : Shared} {base g g₀ G : Heap} {outer : List Env} {L a e : Addr} {m : Str → Option Value} {name : Str} {scope : Scope} {cd : Value}
  {b₀ : Stmt} {suite : List Stmt} {pos np : Pos} {rest : List ExceptHandler} {Q : Flow → Shared → Prop} {news : List (Addr × Obj)}
  {p : Program} {loose : List Str} {mean : ExcName → Option Value} {mg mb : Str → Option Value}
theorem caught_bad (R : RaisedSN base G (envOf name scope L a cd :: outer) e (.ref 45) news s'.heap) (F : Fr g L G m) (K : Below A₀ base outer g) (hsm : G.UpToSlots s'.heap) (XB : (hd.heap_1 w.params).In base) (TB : Top p loose mean mg mb base)
    (D : KtsDicts (outer.filterMap (·.frame)) g) (T0 : KtsTurn (outer.filterMap (·.frame)) g₀ g)
    (k : ∀ h' g', KtsTurn (outer.filterMap (·.frame)) g₀ g' → Fr g' L h' m → News g' L h' news → Below A₀ base outer g' → (hd.heap_1 w.params).In g' → Top p loose mean mg mb g' → KtsDicts (outer.filterMap (·.frame)) g' →
      wpAny (model rwp w) ((A₀.deeper (envOf name scope L a cd)).mark (some (.ref e))) (execs (b₀ :: suite) (envOf name scope L a cd)) Q E { s' with heap := h' })
    (hk : scope.kind = .function := by rfl) (hx : (envOf name scope L a cd).kindOf (Str.ofString "BadArgument") = some .globalImplicit := by rfl)
    (hE : PassesOwnAt (model rwp w) ((A₀.deeper (envOf name scope L a cd)).mark (some (.ref e))) (A₀.deeper (envOf name scope L a cd)) (envOf name scope L a cd) E := by passes_own) :
    wpAny (model rwp w) (A₀.deeper (envOf name scope L a cd)) (noteFrame (.ref e) (envOf name scope L a cd))
      (fun _ s₂ => wpAny (model rwp w) (A₀.deeper (envOf name scope L a cd)) (setFlight (.ref e) none) (fun _ s₃ =>
        wpAny (model rwp w) (A₀.deeper (envOf name scope L a cd)) (handleBy (.ref e) (envOf name scope L a cd) (.ExceptHandler (some (.Name (Str.ofString "BadArgument") np)) none (b₀ :: suite) pos :: rest)) Q E s₃) E s₂) E s' := by
  obtain ⟨B, a0, hB, hBG, hl, hfl⟩ := R
  have hL : B.get? L = none := by
    obtain ⟨_, ⟨L', _, hf, q, _⟩, _⟩ := hfl.2.2.1
    cases Option.some.inj hf
    exact q
  refine wpAny_looks_onW (Around.frames_deeper K.stack) rfl hfl fun h₄ held₄ sm₄ => ?_
  refine wpAny_landsW held₄ fun h₅ held sm₅ => ?_
  have sm := sm₄.trans sm₅
  obtain ⟨g₅, T₅, F₅, K₅⟩ := kts_ground K F hBG held.1 (hsm.trans sm)
  have X₅ : (hd.heap_1 w.params).In g₅ := XB.keeps K₅.stays
  have P₅ : TopRead p loose mg mb g₅ := topRead_of (TB.keeps K₅.stays)
  obtain ⟨ob, hob, hobc⟩ := held.there
  refine wpAny_handleBy_cons (codeAny_handlers_test (name_K F₅ X₅ P₅ nameIn_bad ?_ hk hx (by decide))) (by intro q; cases q)
  refine wpAny_excMatches_sub_self (bad_cls (X₅.keeps F₅.keep)) hob hobc (by decide) (codeAny_handlers_suite ?_)
  refine lands_againW held fun h₆ fl₆ sm₆ => ?_
  obtain ⟨g₆, T₆, F₆, K₆⟩ := kts_ground K F hBG fl₆.1 ((hsm.trans sm).trans sm₆)
  have Nl : News g₆ L h₆ news := fun q hq => ⟨fl₆.1 _ _ (hl q hq).1, (fun z => by have := (hl q hq).1; rw [z, hL] at this; cases this), T₆.none_ _ (kts_none F.keep (hl q hq).2.1)⟩
  exact wpAny_passesOwnAt hE (k h₆ g₆ (T0.trans T₆) F₆ Nl K₆ (XB.keeps K₆.stays) (TB.keeps K₆.stays) (D.turn T₆))
end
end Mine
-- part W1
namespace Mine
theorem resetW1 : True := by
  w_top off
  k_with_none
  exact True.intro
open PySem PySem.W PyProof.Rows PySem.Calls PySem.Spec
noncomputable section
/-- the entries of a dict that stands at the top -/
noncomputable def dEs (w : World) (a : Addr) : Array DictEntry := match (hd.heap_1 w.params).lookup a with
  | some ⟨_, _, .dict es _, _⟩ => es
  | _ => #[]
noncomputable def dN (w : World) (a : Addr) : Nat := match (hd.heap_1 w.params).lookup a with
  | some ⟨_, _, .dict _ n, _⟩ => n
  | _ => 0
noncomputable def keysIn (l : List DictEntry) : List (Str × Tok) := l.filterMap fun e => match e.key with
  | .str x t => some (x, t)
  | _ => none
noncomputable def intKeysIn (l : List DictEntry) : List (Int × Tok) := l.filterMap fun e => match e.key with
  | .int x t => some (x, t)
  | _ => none
noncomputable def StrKeys (w : World) (a : Addr) : Prop := (dEs w a).toList.map (fun e => (e.hash, e.key)) = (keysIn (dEs w a).toList).map fun p => ((PySem.strKind rwp w).hash p.1, Value.str p.1 p.2)
noncomputable def IntKeys (w : World) (a : Addr) : Prop := (dEs w a).toList.map (fun e => (e.hash, e.key)) = (intKeysIn (dEs w a).toList).map fun p => ((PySem.intKind rwp w).hash p.1, Value.int p.1 p.2)
noncomputable def sFind (w : World) (a : Addr) (k : Str) : Option Value := findBy (PySem.strKind rwp w).is (dEs w a) k
noncomputable def iFind (w : World) (a : Addr) (k : Int) : Option Value := findBy (PySem.intKind rwp w).is (dEs w a) k
theorem strKeysOf {w : World} {a : Addr} (e : StrKeys w a) : KeysOf (PySem.strKind rwp w) (dEs w a) := fun x hx => by
  have h1 : (x.hash, x.key) ∈ (dEs w a).toList.map (fun e => (e.hash, e.key)) := List.mem_map.mpr ⟨x, Array.mem_toList_iff.mpr hx, rfl⟩
  rw [e] at h1
  obtain ⟨p, _, hp⟩ := List.mem_map.mp h1
  obtain ⟨q1, q2⟩ := Prod.mk.inj hp
  exact ⟨p.1, by rw [← q2]; exact strKind_is _ _ _ _, q1.symm⟩
theorem intKeysOf {w : World} {a : Addr} (e : IntKeys w a) : KeysOf (PySem.intKind rwp w) (dEs w a) := fun x hx => by
  have h1 : (x.hash, x.key) ∈ (dEs w a).toList.map (fun e => (e.hash, e.key)) := List.mem_map.mpr ⟨x, Array.mem_toList_iff.mpr hx, rfl⟩
  rw [e] at h1
  obtain ⟨p, _, hp⟩ := List.mem_map.mp h1
  obtain ⟨q1, q2⟩ := Prod.mk.inj hp
  exact ⟨p.1, by rw [← q2]; exact intKind_is _ _ _ _, q1.symm⟩
noncomputable def IsD (w : World) (a : Addr) : Prop := ∃ n, (hd.heap_1 w.params).lookup a = some ⟨.type "dict", none, .dict (dEs w a) n, #[]⟩
theorem strMap {w : World} {a : Addr} {h : Heap} (X : (hd.heap_1 w.params).In h) (i : IsD w a) (e : StrKeys w a) : h.MapOf (PySem.strKind rwp w) a (sFind w a) := by
  obtain ⟨n, ho⟩ := i
  exact ⟨_, _, _, X _ _ ho, ⟨rfl, rfl, rfl⟩, rfl, strKeysOf e, fun _ => rfl⟩
theorem intMap {w : World} {a : Addr} {h : Heap} (X : (hd.heap_1 w.params).In h) (i : IsD w a) (e : IntKeys w a) : h.MapOf (PySem.intKind rwp w) a (iFind w a) := by
  obtain ⟨n, ho⟩ := i
  exact ⟨_, _, _, X _ _ ho, ⟨rfl, rfl, rfl⟩, rfl, intKeysOf e, fun _ => rfl⟩
theorem isD990 (w : World) : IsD w 990 := ⟨dN w 990, by kernel_rfl⟩
theorem keys990 (w : World) : StrKeys w 990 := by unfold StrKeys; kernel_rfl
theorem isD1003 (w : World) : IsD w 1003 := ⟨dN w 1003, by kernel_rfl⟩
theorem keys1003 (w : World) : StrKeys w 1003 := by unfold StrKeys; kernel_rfl
section
variable {w : World} {A : Around} {E : Value → Shared → Prop} {s : Shared} {value slice : PySem.Expr} {a : Addr} {t : Tok} {v : Value} {Q : Value → Shared → Prop}
theorem strItem {k : Str} (X : (hd.heap_1 w.params).In s.heap) (i : IsD w a) (e : StrKeys w a) (hv : sFind w a k = some v) (h : Q v { s with toks := s.toks + 1 })
    (hs : subscripted slice false (.ref a) (.str k t) = operate [.ref a, .str k t] (getItem (.ref a) (.str k t)) := by with_unfolding_all rfl) :
    wpAny (model rwp w) A (subscriptTail value slice (.ref a) (.str k t)) Q E s :=
  tail_any (strMap X i e).typeIs slot_dict_getitem.lookup (wpAny_getItem_of (strKind_is _ _ _ _) (strMap X i e) hv h) hs
theorem intItem {k : Int} (X : (hd.heap_1 w.params).In s.heap) (i : IsD w a) (e : IntKeys w a) (hv : iFind w a k = some v) (h : Q v { s with toks := s.toks + 1 })
    (hs : subscripted slice false (.ref a) (.int k t) = operate [.ref a, .int k t] (getItem (.ref a) (.int k t)) := by with_unfolding_all rfl) :
    wpAny (model rwp w) A (subscriptTail value slice (.ref a) (.int k t)) Q E s :=
  tail_any (intMap X i e).typeIs slot_dict_getitem.lookup (wpAny_getItem_of (intKind_is _ _ _ _) (intMap X i e) hv h) hs
theorem strIn {k : Str} (X : (hd.heap_1 w.params).In s.heap) (i : IsD w a) (e : StrKeys w a) (hd : (a == sysModules) = false) (h : Q (.bool (sFind w a k).isSome) { s with toks := s.toks + 1 }) :
    wpAny (model rwp w) A (compareOp .In (.str k t) (.ref a)) Q E s := wpAny_in_of (strKind_is _ _ _ _) hd (strMap X i e) h
theorem intIn {k : Int} (X : (Mine.hd.heap_1 w.params).In s.heap) (i : IsD w a) (e : IntKeys w a) (hd : (a == sysModules) = false) (h : Q (.bool (iFind w a k).isSome) { s with toks := s.toks + 1 }) :
    wpAny (model rwp w) A (compareOp .In (.int k t) (.ref a)) Q E s := wpAny_in_of (intKind_is _ _ _ _) hd (intMap X i e) h
end
section
variable {w : World} {A : Around} {E : Value → Shared → Prop} {s : Shared} {a : Addr} {t : Tok} {Q : Value → Shared → Prop}
theorem strNotIn {k : Str} {v : Value} (X : (Mine.hd.heap_1 w.params).In s.heap) (i : IsD w a) (e : StrKeys w a) (hd : (a == sysModules) = false) (hv : sFind w a k = some v) (h : Q (.bool false) { s with toks := s.toks + 1 }) :
    wpAny (model rwp w) A (compareOp .NotIn (.str k t) (.ref a)) Q E s := wpAny_notIn_of (strKind_is _ _ _ _) hd (strMap X i e) (by rw [hv]; exact h)
theorem intInT {k : Int} {v : Value} (X : (Mine.hd.heap_1 w.params).In s.heap) (i : IsD w a) (e : IntKeys w a) (hd : (a == sysModules) = false) (hv : iFind w a k = some v) (h : Q (.bool true) { s with toks := s.toks + 1 }) :
    wpAny (model rwp w) A (compareOp .In (.int k t) (.ref a)) Q E s := intIn X i e hd (by rw [hv]; exact h)
theorem intInF {k : Int} (X : (Mine.hd.heap_1 w.params).In s.heap) (i : IsD w a) (e : IntKeys w a) (hd : (a == sysModules) = false) (hv : iFind w a k = none) (h : Q (.bool false) { s with toks := s.toks + 1 }) :
    wpAny (model rwp w) A (compareOp .In (.int k t) (.ref a)) Q E s := intIn X i e hd (by rw [hv]; exact h)
end
theorem isD731 (w : World) : IsD w 731 := ⟨dN w 731, by kernel_rfl⟩
theorem keys731 (w : World) : StrKeys w 731 := by unfold StrKeys; kernel_rfl
theorem isD736 (w : World) : IsD w 736 := ⟨dN w 736, by kernel_rfl⟩
theorem keys736 (w : World) : IntKeys w 736 := by unfold IntKeys; kernel_rfl
theorem isD800 (w : World) : IsD w 800 := ⟨dN w 800, by kernel_rfl⟩
theorem keys800 (w : World) : IntKeys w 800 := by unfold IntKeys; kernel_rfl
theorem isD893 (w : World) : IsD w 893 := ⟨dN w 893, by kernel_rfl⟩
theorem keys893 (w : World) : IntKeys w 893 := by unfold IntKeys; kernel_rfl
theorem isD979 (w : World) : IsD w 979 := ⟨dN w 979, by kernel_rfl⟩
theorem keys979 (w : World) : IntKeys w 979 := by unfold IntKeys; kernel_rfl
theorem instK {g h : Heap} {L x C : Addr} {o : Obj} {od : Option Obj} {m : Str → Option Value} (I : InstAt g x o C od) (F : Fr g L h m) : InstAt h x o C od := by
  obtain ⟨h1, h2, h3, h4⟩ := I
  refine ⟨F.keep _ _ h1, h2, h3, ?_⟩
  revert h4
  cases o.dict <;> cases od <;> simp
  exact fun q => F.keep _ _ q
end
end Mine
-- part CHK
namespace Mine
theorem resetCHK : True := by
  w_top off
  k_with_none
  exact True.intro
open PySem PySem.W PyProof.Rows PySem.Calls PySem.Spec
theorem items_all {prog : Program} {w : World} {A : Around} {E : Value → Shared → Prop} {h₀ : Heap} {env : Env} {target : PySem.Expr} {body : List Stmt} {Q : Flow → Shared → Prop} {s : Shared} {ws : List (Addr × String)} {keep news : List (Addr × Obj)}
    {ok : Str → PyData → Prop} {P : (Str → Option Value) → Prop} : ∀ {sp : List (Str × PyData)} {m₀ : Str → Option Value}, P m₀ →
    (∀ nm d r m, (nm, d) ∈ sp → P m → (∀ m', P m' → ok nm d → ItemsRest prog w A E h₀ env target body Q s ws keep r m' news) → ItemsRest prog w A E h₀ env target body Q s ws keep (.pairF (fun t => .str nm t) d :: r) m news) →
    (∀ m', P m' → (∀ p ∈ sp, ok p.1 p.2) → ItemsRest prog w A E h₀ env target body Q s ws keep [] m' news) →
    ItemsRest prog w A E h₀ env target body Q s ws keep (sp.map fun p => Itm.pairF (fun t => .str p.1 t) p.2) m₀ news
  | [], _, hP, _, fin => fin _ hP (fun _ h => nomatch h)
  | (nm, d) :: r, _, hP, turn, fin => turn nm d _ _ (List.Mem.head _) hP fun m' hP' ok => items_all hP' (fun nm d r m h => turn nm d r m (List.Mem.tail _ h)) fun m'' hP'' all => fin m'' hP'' fun p hp => by
      rcases List.mem_cons.mp hp with rfl | hp
      · exact ok
      · exact all p hp
noncomputable def okV (ys : List Str) (lo hi st : Int) (nm : Str) (d : PyData) : Prop := ∃ y, d = .int y ∧ (if ys.any (· == nm) = true then (if nm = Str.ofString "imm" then lo ≤ y ∧ y ≤ hi ∧ y.fmod st = 0 else 0 ≤ y ∧ y < (if nm = Str.ofString "csr" then 4096 else 32)) else y = 0)
noncomputable def Stop (P : Prop) : Prop := P
theorem my_stop {P : Prop} (h : Stop P) : P := h
noncomputable def IsNum (d : PyData) : Prop := (∃ y, d = .int y) ∨ d = .bool true
theorem notin_used {w : World} {A : Around} {E : Value → Shared → Prop} {s : Shared} {t : Addr} {items : Array Value} {ys : List Str} {x : Str} {u : Tok} {b : Bool} {Q : Value → Shared → Prop} (ht : IsTup s.heap t items) (hi : StrsAre items.toList ys) (hb : ys.any (· == x) = b) (h : Q (.bool (!b)) s) :
    wpAny (model rwp w) A (compareOp .NotIn (.str x u) (.ref t)) Q E s := notin_tuple_strs ht hi (by rw [hb]; exact h)
theorem eq_name {w : World} {A : Around} {E : Value → Shared → Prop} {s : Shared} {x y : Str} {t u : Tok} {b : Bool} {Q : Value → Shared → Prop} (hb : (x == y) = b) (h : Q (.bool b) s) :
    wpAny (model rwp w) A (compareOp .Eq (.str x t) (.str y u)) Q E s := eq_str (by rw [hb]; exact h)
theorem turn_end {h₀ : Heap} {L : Addr} {s₁ : Shared} {i : Addr} {o : Obj} {keep news : List (Addr × Obj)} {R : (Str → Option Value) → List (Addr × Obj) → Prop} {h' : Heap} {tk : Nat} {m' : Str → Option Value} (F : Fr h₀ L h' m') (N : News h₀ L h' ((i, o) :: news)) (lt : ∀ p ∈ news, p.1 < i) (k : SubL keep news) (r : R m' news) :
    UnrEndW h₀ L s₁ [(i, o)] (fun m' n' => SubL keep n' ∧ R m' n') { s₁ with heap := h', toks := tk } :=
  ⟨h', tk, m', news, rfl, F, N, fun p hp q hq => by rw [List.mem_singleton.mp hq]; exact Nat.ne_of_lt (lt p hp), k, r⟩
noncomputable abbrev sp5 (d1 d2 d3 d4 d5 : PyData) : List (Str × PyData) := [(Str.ofString "rd", d1), (Str.ofString "rs1", d2), (Str.ofString "rs2", d3), (Str.ofString "imm", d4), (Str.ofString "csr", d5)]
theorem num_of {d1 d2 d3 d4 d5 dv : PyData} {nm : Str} (n1 : IsNum d1) (n2 : IsNum d2) (n3 : IsNum d3) (n4 : IsNum d4) (n5 : IsNum d5) (hin : (nm, dv) ∈ sp5 d1 d2 d3 d4 d5) : IsNum dv := by
  simp only [sp5, List.mem_cons, Prod.mk.injEq, List.not_mem_nil, or_false] at hin
  rcases hin with ⟨_, rfl⟩ | ⟨_, rfl⟩ | ⟨_, rfl⟩ | ⟨_, rfl⟩ | ⟨_, rfl⟩ <;> assumption
theorem okV_no {ys : List Str} {lo hi st : Int} {nm : Str} {y : Int} (hb : ys.any (· == nm) = false) : okV ys lo hi st nm (.int y) ↔ y = 0 := by
  constructor
  · rintro ⟨y', e, h⟩
    cases e
    rw [if_neg (by rw [hb]; decide)] at h
    exact h
  · intro h
    exact ⟨y, rfl, by rw [if_neg (by rw [hb]; decide)]; exact h⟩
theorem okV_imm {ys : List Str} {lo hi st : Int} {y : Int} (hb : ys.any (· == Str.ofString "imm") = true) : okV ys lo hi st (Str.ofString "imm") (.int y) ↔ lo ≤ y ∧ y ≤ hi ∧ y.fmod st = 0 := by
  constructor
  · rintro ⟨y', e, h⟩
    cases e
    rw [if_pos hb, if_pos rfl] at h
    exact h
  · intro h
    exact ⟨y, rfl, by rw [if_pos hb, if_pos rfl]; exact h⟩
theorem okV_csr {ys : List Str} {lo hi st : Int} {y : Int} (hb : ys.any (· == Str.ofString "csr") = true) : okV ys lo hi st (Str.ofString "csr") (.int y) ↔ 0 ≤ y ∧ y < 4096 := by
  constructor
  · rintro ⟨y', e, h⟩
    cases e
    rw [if_pos hb, if_neg (by decide), if_pos rfl] at h
    exact h
  · intro h
    exact ⟨y, rfl, by rw [if_pos hb, if_neg (by decide), if_pos rfl]; exact h⟩
theorem okV_reg {ys : List Str} {lo hi st : Int} {nm : Str} {y : Int} (hb : ys.any (· == nm) = true) (h1 : ¬ nm = Str.ofString "imm") (h2 : ¬ nm = Str.ofString "csr") : okV ys lo hi st nm (.int y) ↔ 0 ≤ y ∧ y < 32 := by
  constructor
  · rintro ⟨y', e, h⟩
    cases e
    rw [if_pos hb, if_neg h1, if_neg h2] at h
    exact h
  · intro h
    exact ⟨y, rfl, by rw [if_pos hb, if_neg h1, if_neg h2]; exact h⟩
theorem okV_bool {ys : List Str} {lo hi st : Int} {nm : Str} {b : Bool} : ¬ okV ys lo hi st nm (.bool b) := fun ⟨_, e, _⟩ => nomatch e
theorem beq_no {x y : Str} (h : ¬ x = y) : (x == y) = false := by
  cases q : x == y
  · rfl
  · exact absurd (eq_of_beq q) h

theorem tab_of {w : World} {h h₀ : Heap} {L d : Addr} {o : Obj} {news : List (Addr × Obj)} {kvs : List (Str × Value)} {D : List (PyData × PyData)} (lo : (d == sysModules) = false) (hd : o.IsDictOf (PySem.strKind rwp w) kvs) (hf : PyProof.V.FlatPairs PyData.str kvs D) (N : News h₀ L h ((d, o) :: news)) : TabAt (PySem.strKind rwp w) PyData.str h d D := TabAt.ofNews N (List.Mem.head _) lo hd hf
set_option maxHeartbeats 0 in
theorem check_c : ∀ {w : World} {loose : List Str} {mean : ExcName → Option Value} {mg mb : Str → Option Value} (dp un : Nat) (gd : Option (List Code)) (cn : Str) (cs : Scope) (a : Addr) (ccd : Value) (cl : List (Str × Addr)) (outer : List Env) (A₀ : Around) (base h₀ : Heap) (L : Addr) (m : Str → Option Value) (s : Shared) (Q E : Value → Shared → Prop)
    (news : List (Addr × Obj)) (x d : Addr) (sl : Array (Option Value)) (n : Nat) (h0 h1 h2 h3 h4 h5 : Int) (k0 k1 k2 k3 k4 k5 : Tok) (v0 v1 v2 v3 v4 v5 : Value) (kind : Str) (tk : Tok) (u : Addr) (us : Array Value) (ys : List Str) (d1 d2 d3 d4 d5 : PyData) (lo hi st : Int),
    Below A₀ base outer h₀ → Fr h₀ L s.heap m → (hd.heap_1 w.params).In h₀ → News h₀ L s.heap news → Top hd.view_1 loose mean mg mb h₀ → cs.kind = .function → dp + 1 < recursionLimit → un + 8 < cLine →
    (x, (⟨.ref 95, some d, .plain, sl⟩ : Obj)) ∈ news → (d, dictOf [⟨h0, .str (Str.ofString "name") k0, v0⟩, ⟨h1, .str (Str.ofString "rd") k1, v1⟩, ⟨h2, .str (Str.ofString "rs1") k2, v2⟩, ⟨h3, .str (Str.ofString "rs2") k3, v3⟩, ⟨h4, .str (Str.ofString "imm") k4, v4⟩, ⟨h5, .str (Str.ofString "csr") k5, v5⟩] n) ∈ news →
    sFind w 990 kind = some (.ref u) → PyProof.V.Flat v1 d1 → PyProof.V.Flat v2 d2 → PyProof.V.Flat v3 d3 → PyProof.V.Flat v4 d4 → PyProof.V.Flat v5 d5 → IsNum d1 → IsNum d2 → IsNum d3 → IsNum d4 → IsNum d5 → h₀.get? 0 = some (o0 w.params) → IsTup h₀ u us → StrsAre us.toList ys → (dp = 304 ∨ dp = 305) → handedIn v1 = true → handedIn v2 = true → handedIn v3 = true → handedIn v4 = true → handedIn v5 = true → 
    (ys.any (· == Str.ofString "imm") = true → ∃ r t1 t2 t3, sFind w 1003 kind = some (.ref r) ∧ IsTup h₀ r #[.int lo t1, .int hi t2, .int st t3]) → 0 < st → st < 5 → 
    ((∀ p ∈ sp5 d1 d2 d3 d4 d5, okV ys lo hi st p.1 p.2) → ∀ h' tk', Fr h₀ L h' m → News h₀ L h' news → Q .none { s with heap := h', toks := tk' }) →
    ((¬ ∀ p ∈ sp5 d1 d2 d3 d4 d5, okV ys lo hi st p.1 p.2) → ∀ e g h' tk', Fr h₀ L g m → RaisedSN base g (envX cn cs L a ccd cl :: outer) e (.ref 45) news h' → g.UpToSlots h' → E (.ref e) { s with heap := h', toks := tk' }) →
    wpAny (model PySem.Challenge.rw_pq0900_01.row.prog w) (ktrTop dp un gd cn cs L a ccd cl outer) (call (.ref 1025) [.ref x, .str kind tk]) Q E s := by
  k_with_none
  k_with "k_mem" => (first | assumption | (refine List.Mem.tail _ ?_; k_mem))
  k_with "k_handed" => (assumption)
  k_with "m:execs cons" => (k_here; (try dsimp only); k_gentoks)
  k_with "m:subscriptTail" => (k_here; (with_reducible show wpAny _ _ (subscriptTail _ _ (Value.ref 990) (Value.str _ _)) _ _ _); (with_unfolding_all refine' strItem ?k1 (isD990 _) (keys990 _) ?k2 ?_ ?k3; (case k1 => k_in); (case k2 => assumption); (case k3 => with_unfolding_all rfl); k_whole))
  k_with "m:compareOp NotIn" => (k_here; (with_reducible show wpAny _ _ (compareOp CmpOp.NotIn (Value.str _ _) (Value.ref _)) _ _ _); (with_unfolding_all refine' notin_used ?k1 ?k2 ?k3 ?_; (case k1 => exact IsTup.keeps (by assumption) (Fr.keep (by assumption))); (case k2 => assumption); (case k3 => assumption); k_whole))
  k_with "m:compareOp Eq" => (k_here; (with_reducible show wpAny _ _ (compareOp CmpOp.Eq (Value.str _ _) (Value.str _ _)) _ _ _); (refine' eq_name ?k1 ?_; (case k1 => assumption); k_whole))
  k_with "m:eval Name" => (k_here; k_dflt (refine' ld ?k1 ?k2 ?_; (case k1 => k_asm); (case k2 => assumption); k_whole))
  k_with "m:subscriptTail" => (k_here; (with_reducible show wpAny _ _ (subscriptTail _ _ (Value.ref 1003) (Value.str _ _)) _ _ _); (with_unfolding_all refine' strItem ?k1 (isD1003 _) (keys1003 _) ?k2 ?_ ?k3; (case k1 => k_in); (case k2 => assumption); (case k3 => with_unfolding_all rfl); k_whole))
  k_with "m:exec Raise some none" => (k_here; refine my_stop ?_)
  k_fill
  intro w loose mean mg mb dp un gd cn cs a ccd cl outer A₀ base h₀ L m s Q E news x d sl n h0 h1 h2 h3 h4 h5 k0 k1 k2 k3 k4 k5 v0 v1 v2 v3 v4 v5 kind tk u us ys d1 d2 d3 d4 d5 lo hi st B F X N T hk hdp hun hx hd' hU f1 f2 f3 f4 f5 n1 n2 n3 n4 n5 z hus hys hdp4 p1 p2 p3 p4 p5 hrng hst0 hst1 hret hexc
  refine wpAny_call ?_
  k_dflt cell_enter
  rename_i g₁ L₁ h₁ FG₁ F₁ N₁ B₁ X₁ T₁
  have z₁ := FG₁.keep _ _ z
  have hus₁ := hus.keeps FG₁.keep
  have hc₁ : dp + 1 = 305 ∨ dp + 1 = 306 := hdp4.imp (congrArg Nat.succ) (congrArg Nat.succ)
  k_steps
  (rename Fr _ _ _ _ => lF'); (rename News _ _ _ _ => lN')
  have fp : PyProof.V.FlatPairs PyData.str [(Str.ofString "rd", v1), (Str.ofString "rs1", v2), (Str.ofString "rs2", v3), (Str.ofString "imm", v4), (Str.ofString "csr", v5)] [(PyData.str (Str.ofString "rd"), d1), (PyData.str (Str.ofString "rs1"), d2), (PyData.str (Str.ofString "rs2"), d3), (PyData.str (Str.ofString "imm"), d4), (PyData.str (Str.ofString "csr"), d5)] := .cons f1 (.cons f2 (.cons f3 (.cons f4 (.cons f5 .nil))))
  have hdd := ‹Obj.IsDictOf (PySem.strKind _ _) _ (strPairs _)›
  have lo' := ‹(_ == sysModules) = false›
  have tb1 := tab_of lo' hdd fp lN'
  with_unfolding_all refine' For_turns lF' ?_
  k_whole
  refine MethodCall_ ?_
  refine ld lF' (by rfl) ?_
  refine getMethod_tab (knd := PySem.strKind _ _) (enc := PyData.str) PySem.F.slot_dict_items PySem.F.type_dict_items tb1 ?_
  refine callWith_method0 ?_
  refine call_items_tab (knd := PySem.strKind _ _) (enc := PyData.str) tb1 lF' lN' ?_
  intro h' o' hv' F' N'
  replace N' := kti_tail N'
  refine kti_items (knd := PySem.strKind _ _) (enc := PyData.str) (xs := (sp5 d1 d2 d3 d4 d5).map fun p => Itm.pairF (fun t => .str p.1 t) p.2) (by rfl) F' N' hv' (tab_of lo' hdd fp N') (List.Mem.head _) (fun _ _ h => Value.isStrOf_shape h) (by rfl) ?_
  intro i' l1
  refine items_all (sp := sp5 d1 d2 d3 d4 d5) (ok := okV ys lo hi st) (P := fun m => (∃ t, m (Str.ofString "kind") = some (.str kind t)) ∧ m (Str.ofString "used") = some (.ref u)) ⟨⟨_, by k_dflt (exact rfl)⟩, by k_dflt (exact rfl)⟩ ?_ ?_
  · intro nm dv r m hin hP next
    obtain ⟨⟨tkk, hm1⟩, hm2⟩ := hP
    have hnum : IsNum dv := num_of n1 n2 n3 n4 n5 hin
    clear hret f1 f2 f3 f4 f5 fp tb1 p1 p2 p3 p4 p5 n1 n2 n3 n4 n5 hx hd' hU lF' lN' F' N' hv' hdd lo'
    rcases hnum with ⟨y, rfl⟩ | rfl
    · cases hb : ys.any (· == nm)
      · have ok := okV_no (lo := lo) (hi := hi) (st := st) (y := y) hb
        k_steps
        all_goals first
          | (refine turn_end ‹Fr _ _ _ _› ‹News _ _ _ _› l1 ⟨List.Mem.head _, trivial⟩ (next _ ⟨⟨_, by k_dflt (exact hm1)⟩, by k_dflt (exact hm2)⟩ (ok.mpr ?_)); first | omega | exact ⟨‹_›, ‹_›, ‹_›⟩)
          | (unfold Stop
             refine' exec_bad (c := dp + 1) rfl ?hc ?F ?X ?T ?h0 ?_
             (case hc => assumption)
             (case F => assumption)
             (case X => assumption)
             (case T => k_asm)
             (case h0 => assumption)
             intro h' e' tk' M'
             dsimp only [ek]
             refine leave_bad B₁ M' ‹Fr _ _ _ _› ‹News _ _ _ _› ?_
             intro h'' R' U'
             refine hexc (fun all => ?_) _ _ _ _ FG₁ (Mine.RaisedSN.sub R' fun q hq => .tail _ (.tail _ hq)) U'
             (have q := ok.mp (all _ hin); first | omega | (obtain ⟨_, _, q3⟩ := q; first | omega | exact absurd q3 ‹_›)))
      · by_cases e1 : nm = Str.ofString "imm"
        · subst e1
          have ok := okV_imm (lo := lo) (hi := hi) (st := st) (y := y) hb
          obtain ⟨r0, t1, t2, t3, hR, hr⟩ := hrng hb
          have hr₁ := hr.keeps FG₁.keep
          k_steps
          all_goals first
            | (refine turn_end ‹Fr _ _ _ _› ‹News _ _ _ _› l1 ⟨List.Mem.head _, trivial⟩ (next _ ⟨⟨_, by k_dflt (exact hm1)⟩, by k_dflt (exact hm2)⟩ (ok.mpr ?_)); first | omega | exact ⟨‹_›, ‹_›, ‹_›⟩)
            | (unfold Stop
               refine' exec_bad (c := dp + 1) rfl ?hc ?F ?X ?T ?h0 ?_
               (case hc => assumption)
               (case F => assumption)
               (case X => assumption)
               (case T => k_asm)
               (case h0 => assumption)
               intro h' e' tk' M'
               dsimp only [ek]
               refine leave_bad B₁ M' ‹Fr _ _ _ _› ‹News _ _ _ _› ?_
               intro h'' R' U'
               refine hexc (fun all => ?_) _ _ _ _ FG₁ (Mine.RaisedSN.sub R' fun q hq => .tail _ (.tail _ hq)) U'
               (have q := ok.mp (all _ hin); first | omega | (obtain ⟨_, _, q3⟩ := q; first | omega | exact absurd q3 ‹_›)))
        · have q1 := beq_no e1
          by_cases e2 : nm = Str.ofString "csr"
          · subst e2
            have ok := okV_csr (lo := lo) (hi := hi) (st := st) (y := y) hb
            k_steps
            all_goals first
              | (refine turn_end ‹Fr _ _ _ _› ‹News _ _ _ _› l1 ⟨List.Mem.head _, trivial⟩ (next _ ⟨⟨_, by k_dflt (exact hm1)⟩, by k_dflt (exact hm2)⟩ (ok.mpr ?_)); first | omega | exact ⟨‹_›, ‹_›, ‹_›⟩)
              | (unfold Stop
                 refine' exec_bad (c := dp + 1) rfl ?hc ?F ?X ?T ?h0 ?_
                 (case hc => assumption)
                 (case F => assumption)
                 (case X => assumption)
                 (case T => k_asm)
                 (case h0 => assumption)
                 intro h' e' tk' M'
                 dsimp only [ek]
                 refine leave_bad B₁ M' ‹Fr _ _ _ _› ‹News _ _ _ _› ?_
                 intro h'' R' U'
                 refine hexc (fun all => ?_) _ _ _ _ FG₁ (Mine.RaisedSN.sub R' fun q hq => .tail _ (.tail _ hq)) U'
                 (have q := ok.mp (all _ hin); first | omega | (obtain ⟨_, _, q3⟩ := q; first | omega | exact absurd q3 ‹_›)))
          · have q2 := beq_no e2
            have ok := okV_reg (lo := lo) (hi := hi) (st := st) (y := y) hb e1 e2
            k_steps
            all_goals first
              | (refine turn_end ‹Fr _ _ _ _› ‹News _ _ _ _› l1 ⟨List.Mem.head _, trivial⟩ (next _ ⟨⟨_, by k_dflt (exact hm1)⟩, by k_dflt (exact hm2)⟩ (ok.mpr ?_)); first | omega | exact ⟨‹_›, ‹_›, ‹_›⟩)
              | (unfold Stop
                 refine' exec_bad (c := dp + 1) rfl ?hc ?F ?X ?T ?h0 ?_
                 (case hc => assumption)
                 (case F => assumption)
                 (case X => assumption)
                 (case T => k_asm)
                 (case h0 => assumption)
                 intro h' e' tk' M'
                 dsimp only [ek]
                 refine leave_bad B₁ M' ‹Fr _ _ _ _› ‹News _ _ _ _› ?_
                 intro h'' R' U'
                 refine hexc (fun all => ?_) _ _ _ _ FG₁ (Mine.RaisedSN.sub R' fun q hq => .tail _ (.tail _ hq)) U'
                 (have q := ok.mp (all _ hin); first | omega | (obtain ⟨_, _, q3⟩ := q; first | omega | exact absurd q3 ‹_›)))
    · have ok := okV_bool (ys := ys) (lo := lo) (hi := hi) (st := st) (nm := nm) (b := true)
      k_steps
      all_goals first
        | (refine turn_end ‹Fr _ _ _ _› ‹News _ _ _ _› l1 ⟨List.Mem.head _, trivial⟩ (next _ ⟨⟨_, by k_dflt (exact hm1)⟩, by k_dflt (exact hm2)⟩ (ok.mpr ?_)); first | omega | exact ⟨‹_›, ‹_›, ‹_›⟩)
        | (unfold Stop
           refine' exec_bad (c := dp + 1) rfl ?hc ?F ?X ?T ?h0 ?_
           (case hc => assumption)
           (case F => assumption)
           (case X => assumption)
           (case T => k_asm)
           (case h0 => assumption)
           intro h' e' tk' M'
           dsimp only [ek]
           refine leave_bad B₁ M' ‹Fr _ _ _ _› ‹News _ _ _ _› ?_
           intro h'' R' U'
           refine hexc (fun all => ?_) _ _ _ _ FG₁ (Mine.RaisedSN.sub R' fun q hq => .tail _ (.tail _ hq)) U'
           exact ok (all _ hin))
  · intro m' _ hall
    k_steps
    all_goals exact hret hall _ _ ‹Fr h₀ L _ m› (fun p hp => ‹News h₀ L _ _› p (List.Mem.tail _ hp))
end Mine
-- part CHK2
namespace Mine
theorem resetCHK2 : True := by
  w_top off
  k_with_none
  exact True.intro
open PySem PySem.W PyProof.Rows PySem.Calls PySem.Spec
structure Field (v : Value) (d : PyData) : Prop where
  flat : PyProof.V.Flat v d
  num : IsNum d
  handed : handedIn v = true
structure KindF (w : World) (h : Heap) (kind : Str) (ys : List Str) (lo hi st : Int) : Prop where
  used : ∃ u us, sFind w 990 kind = some (.ref u) ∧ IsTup h u us ∧ StrsAre us.toList ys
  rng : ys.any (· == Str.ofString "imm") = true → ∃ r t1 t2 t3, sFind w 1003 kind = some (.ref r) ∧ IsTup h r #[.int lo t1, .int hi t2, .int st t3]
  st0 : 0 < st
  st1 : st < 5
  lo0 : -2097152 < lo
  hi0 : hi < 2097152
theorem KindF.up {w : World} {h h' : Heap} {kind : Str} {ys : List Str} {lo hi st : Int} (k : KindF w h kind ys lo hi st) (hk : ∀ b o, h.get? b = some o → h'.get? b = some o) : KindF w h' kind ys lo hi st :=
  ⟨let ⟨u, us, a, b, c⟩ := k.used; ⟨u, us, a, b.keeps hk, c⟩, fun q => let ⟨r, t1, t2, t3, a, b⟩ := k.rng q; ⟨r, t1, t2, t3, a, b.keeps hk⟩, k.st0, k.st1, k.lo0, k.hi0⟩
theorem check_use {w : World} {loose : List Str} {mean : ExcName → Option Value} {mg mb : Str → Option Value} {dp un : Nat} {gd : Option (List Code)} {cn : Str} {cs : Scope} {a : Addr} {ccd : Value} {cl : List (Str × Addr)} {outer : List Env} {A₀ : Around} {base h₀ : Heap} {L : Addr} {m : Str → Option Value} {s : Shared} {Q E : Value → Shared → Prop} {news : List (Addr × Obj)} {x d : Addr} {sl : Array (Option Value)} {n : Nat} {h0 h1 h2 h3 h4 h5 : Int} {k0 k1 k2 k3 k4 k5 : Tok} {v0 v1 v2 v3 v4 v5 : Value} {kind : Str} {tk : Tok} {ys : List Str} {d1 d2 d3 d4 d5 : PyData} {lo hi st : Int}
    (B : Below A₀ base outer h₀)
    (F : Fr h₀ L s.heap m)
    (X : (hd.heap_1 w.params).In h₀)
    (N : News h₀ L s.heap news)
    (T : Top hd.view_1 loose mean mg mb h₀)
    (hk : cs.kind = .function)
    (hdp : dp + 1 < recursionLimit)
    (hun : un + 8 < cLine)
    (hx : (x, (⟨.ref 95, some d, .plain, sl⟩ : Obj)) ∈ news)
    (hdd : (d, dictOf [⟨h0, .str (Str.ofString "name") k0, v0⟩, ⟨h1, .str (Str.ofString "rd") k1, v1⟩, ⟨h2, .str (Str.ofString "rs1") k2, v2⟩, ⟨h3, .str (Str.ofString "rs2") k3, v3⟩, ⟨h4, .str (Str.ofString "imm") k4, v4⟩, ⟨h5, .str (Str.ofString "csr") k5, v5⟩] n) ∈ news)
    (kf : KindF w h₀ kind ys lo hi st)
    (f1 : Field v1 d1)
    (f2 : Field v2 d2)
    (f3 : Field v3 d3)
    (f4 : Field v4 d4)
    (f5 : Field v5 d5)
    (z : h₀.get? 0 = some (o0 w.params))
    (hdp4 : dp = 304 ∨ dp = 305)
    (hret : (∀ p ∈ sp5 d1 d2 d3 d4 d5, okV ys lo hi st p.1 p.2) → ∀ h' tk', Fr h₀ L h' m → News h₀ L h' news → Q .none { s with heap := h', toks := tk' })
    (hexc : (¬ ∀ p ∈ sp5 d1 d2 d3 d4 d5, okV ys lo hi st p.1 p.2) → ∀ e g h' tk', Fr h₀ L g m → RaisedSN base g (envX cn cs L a ccd cl :: outer) e (.ref 45) news h' → g.UpToSlots h' → E (.ref e) { s with heap := h', toks := tk' }) :
    wpAny (model PySem.Challenge.rw_pq0900_01.row.prog w) (ktrTop dp un gd cn cs L a ccd cl outer) (call (.ref 1025) [.ref x, .str kind tk]) Q E s := by
  obtain ⟨u, us, a1, a2, a3⟩ := kf.used
  exact check_c dp un gd cn cs a ccd cl outer A₀ base h₀ L m s Q E news x d sl n h0 h1 h2 h3 h4 h5 k0 k1 k2 k3 k4 k5 v0 v1 v2 v3 v4 v5 kind tk u us ys d1 d2 d3 d4 d5 lo hi st B F X N T hk hdp hun hx hdd a1 f1.flat f2.flat f3.flat f4.flat f5.flat f1.num f2.num f3.num f4.num f5.num z a2 a3 hdp4 f1.handed f2.handed f3.handed f4.handed f5.handed kf.rng kf.st0 kf.st1 hret hexc

inductive ShapeI (h : Heap) (sh : Addr) (nm kind : Str) (opc thi sev : Int) : Prop
  | mk (sd : Addr) (n : Nat) (e0 e1 e2 e3 e4 : Int) (t0 t1 t2 t3 t4 t5 t6 t7 t8 t9 : Tok) (i : InstAt h sh ⟨.ref 124, some sd, .plain, #[]⟩ 124 (some (dictOf [⟨e0, .str (Str.ofString "name") t0, .str nm t1⟩, ⟨e1, .str (Str.ofString "kind") t2, .str kind t3⟩, ⟨e2, .str (Str.ofString "opcode") t4, .int opc t5⟩, ⟨e3, .str (Str.ofString "third") t6, .int thi t7⟩, ⟨e4, .str (Str.ofString "seventh") t8, .int sev t9⟩] n))) : ShapeI h sh nm kind opc thi sev
structure ShapeF (w : World) (h : Heap) (nm kind : Str) (sh : Addr) (opc thi sev : Int) : Prop where
  name : sFind w 731 nm = some (.ref sh)
  inst : ShapeI h sh nm kind opc thi sev
  opc0 : 0 ≤ opc
  opc1 : opc < 4294967296
  thi0 : 0 ≤ thi
  thi1 : thi < 8
  sev0 : 0 ≤ sev
  sev1 : sev < 128
theorem InstAt.up {h h' : Heap} {x C : Addr} {o : Obj} {od : Option Obj} (I : InstAt h x o C od) (hk : ∀ b o, h.get? b = some o → h'.get? b = some o) : InstAt h' x o C od := by
  obtain ⟨h1, h2, h3, h4⟩ := I
  refine ⟨hk _ _ h1, h2, h3, ?_⟩
  revert h4
  cases o.dict <;> cases od <;> simp
  exact fun q => hk _ _ q
theorem ShapeF.up {w : World} {h h' : Heap} {nm kind : Str} {sh : Addr} {opc thi sev : Int} (k : ShapeF w h nm kind sh opc thi sev) (hk : ∀ b o, h.get? b = some o → h'.get? b = some o) : ShapeF w h' nm kind sh opc thi sev :=
  ⟨k.name, by
    cases k.inst with
    | mk sd n e0 e1 e2 e3 e4 t0 t1 t2 t3 t4 t5 t6 t7 t8 t9 i => exact .mk sd n e0 e1 e2 e3 e4 t0 t1 t2 t3 t4 t5 t6 t7 t8 t9 (Mine.InstAt.up i hk), k.opc0, k.opc1, k.thi0, k.thi1, k.sev0, k.sev1⟩
end Mine
-- part BITS
namespace Mine
theorem resetBITS : True := by
  w_top off
  k_with_none
  k_with "omega" => lia
  exact True.intro
open PySem PySem.W PyProof.Rows PySem.Calls PySem.Spec
theorem and_zero (a : Int) : Builtin.bitAnd a 0 = 0 := by
  have h := bitAnd_range a (y := 0) (by decide)
  omega
theorem pow_s (n : Nat) : (2 : Int) ^ (n + 1) = 2 * 2 ^ n := by rw [Int.pow_succ, Int.mul_comm]
theorem and_above : ∀ (n : Nat) (a m : Int), a % 2 ^ n = 0 → 0 ≤ m → m < 2 ^ n → Builtin.bitAnd a m = 0
  | 0, a, m, _, h0, h1 => by
    have : m = 0 := by simp at h1; omega
    rw [this, and_zero]
  | n + 1, a, m, ha, h0, h1 => by
    rw [pow_s] at ha h1
    generalize hp : (2 : Int) ^ n = p at ha h1
    have hp0 : 0 < p := hp ▸ Int.pow_pos (by decide)
    obtain ⟨c, hc⟩ := Int.dvd_of_emod_eq_zero ha
    have e2 : a = 2 * (p * c) := by rw [hc, Int.mul_assoc]
    have e1 : a / 2 = p * c := by omega
    have e3 : a % 2 = 0 := by omega
    rw [kbt_halves, and_above n (a / 2) (m / 2) (by rw [hp, e1, Int.mul_emod_right]) (by omega) (by rw [hp]; omega), if_neg (by omega)]
    rfl
theorem and_shift : ∀ (k n : Nat) (a m : Int), a % 2 ^ (k + n) < 2 ^ k → 0 ≤ m → m < 2 ^ n → Builtin.bitAnd a (m * 2 ^ k) = 0
  | 0, n, a, m, ha, h0, h1 => by
    have hp0 : (0 : Int) < 2 ^ n := Int.pow_pos (by decide)
    rw [Nat.zero_add] at ha
    have := Int.emod_nonneg a (Int.ne_of_gt hp0)
    rw [show m * 2 ^ 0 = m by simp]
    exact and_above n a m (by simp at ha; omega) h0 h1
  | k + 1, n, a, m, ha, h0, h1 => by
    rw [show k + 1 + n = (k + n) + 1 by omega, pow_s, pow_s] at ha
    have e : m * 2 ^ (k + 1) = 2 * (m * 2 ^ k) := by rw [pow_s, Int.mul_left_comm]
    have ih := and_shift k n (a / 2) m (by
      have hp0 : (0 : Int) < 2 ^ (k + n) := Int.pow_pos (by decide)
      generalize (2 : Int) ^ (k + n) = p at ha hp0 ⊢
      generalize (2 : Int) ^ k = q at ha ⊢
      have h1 := Int.emod_add_mul_ediv a (2 * p)
      have h2 := Int.emod_nonneg a (show 2 * p ≠ 0 by omega)
      have h3 := Int.emod_lt_of_pos a (show 0 < 2 * p by omega)
      generalize a % (2 * p) = r at *
      generalize hc : a / (2 * p) = c at *
      have e1 : a / 2 = r / 2 + p * c := by
        have : a = r + 2 * (p * c) := by rw [← Int.mul_assoc]; omega
        omega
      rw [e1, Int.add_mul_emod_self_left, Int.emod_eq_of_lt (by omega) (by omega)]
      omega) h0 h1
    rw [kbt_halves, e, show 2 * (m * 2 ^ k) / 2 = m * 2 ^ k by omega, ih, if_neg (by omega)]
    rfl
theorem bor_add (k n : Nat) (a m : Int) (ha : a % 2 ^ (k + n) < 2 ^ k) (h0 : 0 ≤ m) (h1 : m < 2 ^ n) : Builtin.bitOr a (m * 2 ^ k) = a + m * 2 ^ k := by
  rw [bitOr_and, and_shift k n a m ha h0 h1, Int.sub_zero]
theorem and_split : ∀ (k : Nat) (x lo hi : Int), 0 ≤ lo → lo < 2 ^ k → Builtin.bitAnd x (lo + 2 ^ k * hi) = Builtin.bitAnd x lo + 2 ^ k * Builtin.bitAnd (x / 2 ^ k) hi
  | 0, x, lo, hi, h0, h1 => by
    have : lo = 0 := by simp at h1; omega
    subst this
    rw [and_zero]
    simp
  | k + 1, x, lo, hi, h0, h1 => by
    rw [pow_s] at h1 ⊢
    rw [kbt_halves x (lo + 2 * 2 ^ k * hi), kbt_halves x lo]
    have e1 : (lo + 2 * 2 ^ k * hi) / 2 = lo / 2 + 2 ^ k * hi := by rw [Int.mul_assoc]; omega
    have e2 : (lo + 2 * 2 ^ k * hi) % 2 = lo % 2 := by rw [Int.mul_assoc]; omega
    rw [e1, e2, and_split k (x / 2) (lo / 2) hi (by omega) (by omega), Int.ediv_ediv_of_nonneg (by decide), Int.mul_assoc]
    omega
theorem and_third (x : Int) : Builtin.bitAnd x 28799 = x % 128 + 4096 * (x / 4096 % 8) := by
  have := and_split 12 x 127 7 (by decide) (by decide)
  rw [show (127 : Int) + 2 ^ 12 * 7 = 28799 by decide, bitAnd_m7, bitAnd_m3] at this
  exact this
theorem and_seventh (x : Int) : Builtin.bitAnd x 4261441663 = x % 128 + 4096 * (x / 4096 % 8) + 33554432 * (x / 33554432 % 128) := by
  have h1 := and_split 12 x 127 1040391 (by decide) (by decide)
  have h2 := and_split 13 (x / 4096) 7 127 (by decide) (by decide)
  rw [show (127 : Int) + 2 ^ 12 * 1040391 = 4261441663 by decide, bitAnd_m7] at h1
  rw [show (7 : Int) + 2 ^ 13 * 127 = 1040391 by decide, bitAnd_m3, bitAnd_m7] at h2
  rw [h1, show (2:Int) ^ 12 = 4096 by decide, h2]
  omega
end Mine
-- part RTA
namespace Mine
theorem resetRTA : True := by
  w_top off
  k_with_none
  k_with "omega" => lia
  exact True.intro
open PySem PySem.W PyProof.Rows PySem.Calls PySem.Spec
theorem bor_at {a m : Int} (k n : Nat) (K N : Int) (hK : (2 : Int) ^ k = K) (hN : (2 : Int) ^ n = N) (ha : a % (K * N) < K) (h0 : 0 ≤ m) (h1 : m < N) : Builtin.bitOr a (m * 2 ^ k) = a + m * K := by
  subst hK hN
  exact bor_add k n a m (by rw [Int.pow_add]; exact ha) h0 h1
theorem bor_low {a m : Int} (n : Nat) (N : Int) (hN : (2 : Int) ^ n = N) (ha : a % N < 1) (h0 : 0 ≤ m) (h1 : m < N) : Builtin.bitOr a m = a + m := by
  have := bor_at (a := a) (m := m) 0 n 1 N rfl hN (by rw [Int.one_mul]; exact ha) h0 h1
  simpa using this
theorem sum_at {x y a b : Int} (k n : Nat) (K N : Int) (hK : (2 : Int) ^ k = K) (hN : (2 : Int) ^ n = N) (hx : x = a) (hy : y = b) (ha : a % (K * N) < K) (h0 : 0 ≤ b) (h1 : b < N) : Builtin.bitOr x (y * 2 ^ k) = a + b * K := by
  subst hx hy
  exact bor_at k n K N hK hN ha h0 h1
theorem found_sum {opc thi sev y1 y2 y3 : Int} (o0 : 0 ≤ opc) (o1 : opc < 128) (t0 : 0 ≤ thi) (t1 : thi < 8) (s0 : 0 ≤ sev) (s1 : sev < 128) (a1 : 0 ≤ y1 ∧ y1 < 32) (a2 : 0 ≤ y2 ∧ y2 < 32) (a3 : 0 ≤ y3 ∧ y3 < 32) :
    Builtin.bitOr (Builtin.bitOr (Builtin.bitOr (Builtin.bitOr (Builtin.bitOr (sev * 2 ^ Int.toNat 25) (thi * 2 ^ Int.toNat 12)) opc) (y1 * 2 ^ Int.toNat 7)) (y2 * 2 ^ Int.toNat 15)) (y3 * 2 ^ Int.toNat 20) = opc + 128 * y1 + 4096 * thi + 32768 * y2 + 1048576 * y3 + 33554432 * sev := by
  have e1 : Builtin.bitOr (sev * 2 ^ Int.toNat 25) (thi * 2 ^ Int.toNat 12) = 33554432 * sev + thi * 4096 :=
    sum_at 12 3 4096 8 rfl rfl (by rw [show (2 : Int) ^ Int.toNat 25 = 33554432 from rfl]; omega) rfl (by omega) t0 t1
  have e2 : Builtin.bitOr (Builtin.bitOr (sev * 2 ^ Int.toNat 25) (thi * 2 ^ Int.toNat 12)) opc = 33554432 * sev + thi * 4096 + opc := by
    rw [e1]
    exact bor_low 7 128 rfl (by omega) o0 o1
  have e3 := sum_at 7 5 128 32 rfl rfl e2 (rfl : y1 = y1) (by omega) a1.1 a1.2
  have e4 := sum_at 15 5 32768 32 rfl rfl e3 (rfl : y2 = y2) (by omega) a2.1 a2.2
  have e5 := sum_at 20 5 1048576 32 rfl rfl e4 (rfl : y3 = y3) (by omega) a3.1 a3.2
  refine e5.trans ?_
  omega
end Mine
-- part ENC
namespace Mine
theorem resetENC : True := by
  w_top off
  k_with_none
  k_with "omega" => lia
  exact True.intro
open PySem PySem.W PyProof.Rows PySem.Calls PySem.Spec
theorem and_small (x : Int) {y : Int} (h0 : 0 ≤ y) (h1 : y < 9223372036854775808) : (Builtin.bitAnd x y).natAbs < 2 ^ 64 := by
  have h := bitAnd_range x h0
  omega

theorem field_int {v : Value} {y : Int} (f : Field v (.int y)) : ∃ t, v = .int y t := f.flat.int_inv
theorem okV_reg_bnd {ys : List Str} {lo hi st : Int} (nm : Str) {d : PyData} (h : okV ys lo hi st nm d) (h1 : nm ≠ Str.ofString "imm") (h2 : nm ≠ Str.ofString "csr") : ∃ y, d = .int y ∧ 0 ≤ y ∧ y < 32 := by
  obtain ⟨y, e, q⟩ := h
  refine ⟨y, e, ?_⟩
  by_cases hb : ys.any (· == nm) = true
  · rw [if_pos hb, if_neg h1, if_neg h2] at q; exact q
  · rw [if_neg hb] at q; omega
theorem okV_imm_bnd {ys : List Str} {lo hi st : Int} {d : PyData} (h : okV ys lo hi st (Str.ofString "imm") d) (l : -2097152 < lo) (r : hi < 2097152) : ∃ y, d = .int y ∧ -2097152 < y ∧ y < 2097152 := by
  obtain ⟨y, e, q⟩ := h
  refine ⟨y, e, ?_⟩
  by_cases hb : ys.any (· == Str.ofString "imm") = true
  · rw [if_pos hb, if_pos rfl] at q; omega
  · rw [if_neg hb] at q; omega
theorem okV_csr_bnd {ys : List Str} {lo hi st : Int} {d : PyData} (h : okV ys lo hi st (Str.ofString "csr") d) : ∃ y, d = .int y ∧ 0 ≤ y ∧ y < 4096 := by
  obtain ⟨y, e, q⟩ := h
  refine ⟨y, e, ?_⟩
  by_cases hb : ys.any (· == Str.ofString "csr") = true
  · rw [if_pos hb, if_neg (by decide), if_pos rfl] at q; exact q
  · rw [if_neg hb] at q; omega
theorem all_bnd {ys : List Str} {lo hi st : Int} {d1 d2 d3 d4 d5 : PyData} (h : ∀ p ∈ sp5 d1 d2 d3 d4 d5, okV ys lo hi st p.1 p.2) (l : -2097152 < lo) (r : hi < 2097152) :
    ∃ y1 y2 y3 y4 y5, d1 = .int y1 ∧ d2 = .int y2 ∧ d3 = .int y3 ∧ d4 = .int y4 ∧ d5 = .int y5 ∧ (0 ≤ y1 ∧ y1 < 32) ∧ (0 ≤ y2 ∧ y2 < 32) ∧ (0 ≤ y3 ∧ y3 < 32) ∧ (-2097152 < y4 ∧ y4 < 2097152) ∧ (0 ≤ y5 ∧ y5 < 4096) := by
  obtain ⟨y1, e1, b1⟩ := okV_reg_bnd (Str.ofString "rd") (h _ (.head _)) (by decide) (by decide)
  obtain ⟨y2, e2, b2⟩ := okV_reg_bnd (Str.ofString "rs1") (h _ (.tail _ (.head _))) (by decide) (by decide)
  obtain ⟨y3, e3, b3⟩ := okV_reg_bnd (Str.ofString "rs2") (h _ (.tail _ (.tail _ (.head _)))) (by decide) (by decide)
  obtain ⟨y4, e4, b4⟩ := okV_imm_bnd (h _ (.tail _ (.tail _ (.tail _ (.head _))))) l r
  obtain ⟨y5, e5, b5⟩ := okV_csr_bnd (h _ (.tail _ (.tail _ (.tail _ (.tail _ (.head _))))))
  exact ⟨y1, y2, y3, y4, y5, e1, e2, e3, e4, e5, b1, b2, b3, b4, b5⟩
noncomputable def foundI (opc thi sev y1 y2 y3 : Int) : Int := Builtin.bitOr (Builtin.bitOr (Builtin.bitOr (Builtin.bitOr (Builtin.bitOr (sev * 2 ^ Int.toNat 25) (thi * 2 ^ Int.toNat 12)) opc) (y1 * 2 ^ Int.toNat 7)) (y2 * 2 ^ Int.toNat 15)) (y3 * 2 ^ Int.toNat 20)
noncomputable def branchI (y4 : Int) : Int := Builtin.bitOr (Builtin.bitOr (Builtin.bitOr (Builtin.bitAnd (y4.fdiv (2 ^ Int.toNat 12)) 1 * 2 ^ Int.toNat 31) (Builtin.bitAnd (y4.fdiv (2 ^ Int.toNat 5)) 63 * 2 ^ Int.toNat 25)) (Builtin.bitAnd (y4.fdiv (2 ^ Int.toNat 1)) 15 * 2 ^ Int.toNat 8)) (Builtin.bitAnd (y4.fdiv (2 ^ Int.toNat 11)) 1 * 2 ^ Int.toNat 7)
noncomputable def jumpI (y4 : Int) : Int := Builtin.bitOr (Builtin.bitOr (Builtin.bitOr (Builtin.bitAnd (y4.fdiv (2 ^ Int.toNat 20)) 1 * 2 ^ Int.toNat 31) (Builtin.bitAnd (y4.fdiv (2 ^ Int.toNat 1)) 1023 * 2 ^ Int.toNat 21)) (Builtin.bitAnd (y4.fdiv (2 ^ Int.toNat 11)) 1 * 2 ^ Int.toNat 20)) (Builtin.bitAnd (y4.fdiv (2 ^ Int.toNat 12)) 255 * 2 ^ Int.toNat 12)
noncomputable def encI (kind : Str) (opc thi sev y1 y2 y3 y4 y5 : Int) : Int :=
  cond ([Str.ofString "I", Str.ofString "shift", Str.ofString "fence"].any fun x => x == kind) (Builtin.bitOr (foundI opc thi sev y1 y2 y3) (Builtin.bitAnd y4 4095 * 2 ^ Int.toNat 20))
  (cond (kind == Str.ofString "S") (Builtin.bitOr (Builtin.bitOr (foundI opc thi sev y1 y2 y3) (Builtin.bitAnd (y4.fdiv (2 ^ Int.toNat 5)) 127 * 2 ^ Int.toNat 25)) (Builtin.bitAnd y4 31 * 2 ^ Int.toNat 7))
  (cond (kind == Str.ofString "B") (Builtin.bitOr (foundI opc thi sev y1 y2 y3) (branchI y4))
  (cond (kind == Str.ofString "U") (Builtin.bitOr (foundI opc thi sev y1 y2 y3) (y4 * 2 ^ Int.toNat 12))
  (cond (kind == Str.ofString "J") (Builtin.bitOr (foundI opc thi sev y1 y2 y3) (jumpI y4))
  (cond (kind == Str.ofString "CSR") (Builtin.bitOr (foundI opc thi sev y1 y2 y3) (y5 * 2 ^ Int.toNat 20))
  (cond (kind == Str.ofString "CSRI") (Builtin.bitOr (Builtin.bitOr (foundI opc thi sev y1 y2 y3) (y5 * 2 ^ Int.toNat 20)) (y4 * 2 ^ Int.toNat 15))
  (foundI opc thi sev y1 y2 y3)))))))
theorem fin_int {Q : Value → Shared → Prop} {a b : Int} {t : Tok} {s : Shared} (e : a = b) (h : Q (.int a t) s) : Q (.int b t) s := e ▸ h

set_option maxHeartbeats 0 in
theorem enc_c : ∀ {w : World} {loose : List Str} {mean : ExcName → Option Value} {mg mb : Str → Option Value} (dp un : Nat) (gd : Option (List Code)) (cn : Str) (cs : Scope) (a : Addr) (ccd : Value) (cl : List (Str × Addr)) (outer : List Env) (A₀ : Around) (base h₀ : Heap) (L : Addr) (m : Str → Option Value) (s : Shared) (Q E : Value → Shared → Prop) (news : List (Addr × Obj)) (x d : Addr) (sl : Array (Option Value)) (n : Nat) (h0 h1 h2 h3 h4 h5 : Int) (k0 k1 k2 k3 k4 k5 : Tok) (v1 v2 v3 v4 v5 : Value) (nm : Str) (tk0 : Tok) (kind : Str) (sh : Addr) (opc thi sev : Int) (ys : List Str) (d1 d2 d3 d4 d5 : PyData) (lo hi st : Int),
    (Below A₀ base outer h₀) →
    (Fr h₀ L s.heap m) →
    ((hd.heap_1 w.params).In h₀) →
    (News h₀ L s.heap news) →
    (Top hd.view_1 loose mean mg mb h₀) →
    (cs.kind = .function) →
    (dp + 2 < recursionLimit) →
    (un + 16 < cLine) →
    ((x, (⟨.ref 95, some d, .plain, sl⟩ : Obj)) ∈ news) →
    ((d, dictOf [⟨h0, .str (Str.ofString "name") k0, .str nm tk0⟩, ⟨h1, .str (Str.ofString "rd") k1, v1⟩, ⟨h2, .str (Str.ofString "rs1") k2, v2⟩, ⟨h3, .str (Str.ofString "rs2") k3, v3⟩, ⟨h4, .str (Str.ofString "imm") k4, v4⟩, ⟨h5, .str (Str.ofString "csr") k5, v5⟩] n) ∈ news) →
    (ShapeF w h₀ nm kind sh opc thi sev) →
    (KindF w h₀ kind ys lo hi st) →
    (Field v1 d1) →
    (Field v2 d2) →
    (Field v3 d3) →
    (Field v4 d4) →
    (Field v5 d5) →
    (h₀.get? 0 = some (o0 w.params)) →
    (dp = 303 ∨ dp = 304) →
    (∀ y1 y2 y3 y4 y5, d1 = .int y1 → d2 = .int y2 → d3 = .int y3 → d4 = .int y4 → d5 = .int y5 → (∀ p ∈ sp5 d1 d2 d3 d4 d5, okV ys lo hi st p.1 p.2) → ∀ t h' tk', Fr h₀ L h' m → News h₀ L h' news → Q (.int (encI kind opc thi sev y1 y2 y3 y4 y5) t) { s with heap := h', toks := tk' }) →
    ((¬ ∀ p ∈ sp5 d1 d2 d3 d4 d5, okV ys lo hi st p.1 p.2) → ∀ e g h' tk', Fr h₀ L g m → RaisedSN base g (envX cn cs L a ccd cl :: outer) e (.ref 45) news h' → g.UpToSlots h' → E (.ref e) { s with heap := h', toks := tk' }) →
    wpAny (model PySem.Challenge.rw_pq0900_01.row.prog w) (ktrTop dp un gd cn cs L a ccd cl outer) (call (.ref 1046) [.ref x]) Q E s := by
  k_with_none
  k_with "omega" => (lia)
  k_with "k_mem" => (first | assumption | (refine List.Mem.tail _ ?_; k_mem))
  k_with "k_handed" => (exact Field.handed (by assumption))
  k_with "k_inst" => (first | exact instK (by assumption) (by assumption) | exact instK (instK (by assumption) (by assumption)) (by assumption))
  k_with "m:execs cons" => (k_here; (try dsimp only); k_gentoks)
  k_with "m:eval Call" => (k_here; (try dsimp only); k_gentoks)
  k_with "m:eval Compare" => (k_here; (try dsimp only); k_gentoks)
  k_with "m:eval Tuple" => (k_here; (try dsimp only); k_gentoks)
  k_with "m:eval Name" => (k_here; (try dsimp only); k_gentoks)
  k_with "m:eval BinOp" => (k_here; (try dsimp only); k_gentoks)
  k_with "m:eval Attribute Name" => (k_here; (try dsimp only); k_gentoks)
  k_with "m:isTrue BoolOp" => (k_here; (try dsimp only); k_gentoks)
  k_with "m:binaryOp LShift int int" => (k_here; (with_reducible refine lshift_int_small ?w0ka ?w0kb ?w0kc ?_); (case w0ka => decide); (case w0kb => decide); (case w0kc => exact and_small _ (by decide) (by decide)))
  k_with "m:eval BinOp" => (k_here; (try dsimp only); k_gentoks)
  k_with "m:eval Attribute Name" => (k_here; (try dsimp only); k_gentoks)
  k_with "m:call ref" => (k_here; (first | (with_reducible show wpAny _ _ (call (Value.ref 1018) _) _ _ _) | (with_reducible show wpAny _ _ (call (Value.ref 121) _) _ _ _) | (with_reducible show wpAny _ _ (call (Value.ref 1032) _) _ _ _) | (with_reducible show wpAny _ _ (call (Value.ref 1039) _) _ _ _)); refine wpAny_call ?_; k_dflt cell_enter)
  k_with "m:compareOp NotIn" => (k_here; (with_reducible show wpAny _ _ (compareOp CmpOp.NotIn (Value.str _ _) (Value.ref 731)) _ _ _); (refine' strNotIn ?w4k1 (isD731 _) (keys731 _) (by decide) ?w4k2 ?_; (case w4k1 => k_in); (case w4k2 => assumption); k_whole))
  k_with "m:subscriptTail" => (k_here; (with_reducible show wpAny _ _ (subscriptTail _ _ (Value.ref 731) (Value.str _ _)) _ _ _); (with_unfolding_all refine' strItem ?w5k1 (isD731 _) (keys731 _) ?w5k2 ?_ ?w5k3; (case w5k1 => k_in); (case w5k2 => assumption); (case w5k3 => with_unfolding_all rfl); k_whole))
  k_with "m:call ref" => (k_here; (with_reducible show wpAny _ _ (call (Value.ref 1025) [Value.ref _, Value.str _ _]) _ _ _); (refine' check_use ?w6B ?w6F ?w6X ?w6N ?w6T ?w6hk ?w6hd ?w6hu ?w6hx ?w6hdd ?w6kf ?w6f1 ?w6f2 ?w6f3 ?w6f4 ?w6f5 ?w6z ?w6hdp ?w6hret ?w6hexc; (case w6B => assumption); (case w6F => assumption); (case w6X => assumption); (case w6N => assumption); (case w6T => assumption); (case w6hk => exact rfl); (case w6hd => ktr_room); (case w6hu => ktr_units); (case w6hx => k_mem); (case w6hdd => k_mem); (case w6kf => assumption); (case w6f1 => assumption); (case w6f2 => assumption); (case w6f3 => assumption); (case w6f4 => assumption); (case w6f5 => assumption); (case w6z => assumption); (case w6hdp => assumption); (case w6hexc => (intro nh; exact (nh (by assumption)).elim)); intro _ h' tk' F' N'))
  k_fill
  intro w loose mean mg mb dp un gd cn cs a ccd cl outer A₀ base h₀ L m s Q E news x d sl n h0 h1 h2 h3 h4 h5 k0 k1 k2 k3 k4 k5 v1 v2 v3 v4 v5 nm tk0 kind sh opc thi sev ys d1 d2 d3 d4 d5 lo hi st B F X N T hk hdp hun hx hdd sf kf f1 f2 f3 f4 f5 z hdp4 hret hexc
  refine wpAny_call ?_
  k_dflt cell_enter
  rename_i g₁ L₁ h₁ FG₁ F₁ N₁ B₁ X₁ T₁
  have z₁ := FG₁.keep _ _ z
  have hdpc : dp + 1 = 304 ∨ dp + 1 = 305 := hdp4.imp (congrArg Nat.succ) (congrArg Nat.succ)
  have hrf : ScopeKind.function = ScopeKind.function := rfl
  have kf₁ := kf.up FG₁.keep
  obtain ⟨hname, ⟨sd, n', e0, e1, e2, e3, e4, t0, t1, t2, t3, t4, t5, t6, t7, t8, t9, I⟩, c1, c2, c3, c4, c5, c6⟩ := sf.up FG₁.keep
  have l0 := kf.lo0
  have l1 := kf.hi0
  by_cases hall : ∀ p ∈ sp5 d1 d2 d3 d4 d5, okV ys lo hi st p.1 p.2
  · obtain ⟨y1, y2, y3, y4, y5, q1, q2, q3, q4, q5, b1, b2, b3, b4, b5⟩ := all_bnd hall l0 l1
    have hret' := hret y1 y2 y3 y4 y5 q1 q2 q3 q4 q5 hall
    subst q1 q2 q3 q4 q5
    obtain ⟨u1, rfl⟩ := field_int f1
    obtain ⟨u2, rfl⟩ := field_int f2
    obtain ⟨u3, rfl⟩ := field_int f3
    obtain ⟨u4, rfl⟩ := field_int f4
    obtain ⟨u5, rfl⟩ := field_int f5
    k_steps
    all_goals (
      refine fin_int (a := encI kind opc thi sev y1 y2 y3 y4 y5) ?fe (hret' _ _ _ ‹Fr h₀ L _ m› ?fn)
      (case fn => (first | assumption | (intro p hp; refine ‹News h₀ L _ _› p ?_; repeat (first | assumption | refine List.Mem.tail _ ?_))))
      (case fe =>
       unfold encI
       (try rw [show ([Str.ofString "I", Str.ofString "shift", Str.ofString "fence"].any fun x => x == kind) = true from by assumption])
       (try rw [show ([Str.ofString "I", Str.ofString "shift", Str.ofString "fence"].any fun x => x == kind) = false from by assumption])
       (try rw [show (kind == Str.ofString "S") = true from by assumption])
       (try rw [show (kind == Str.ofString "S") = false from by assumption])
       (try rw [show (kind == Str.ofString "B") = true from by assumption])
       (try rw [show (kind == Str.ofString "B") = false from by assumption])
       (try rw [show (kind == Str.ofString "U") = true from by assumption])
       (try rw [show (kind == Str.ofString "U") = false from by assumption])
       (try rw [show (kind == Str.ofString "J") = true from by assumption])
       (try rw [show (kind == Str.ofString "J") = false from by assumption])
       (try rw [show (kind == Str.ofString "CSR") = true from by assumption])
       (try rw [show (kind == Str.ofString "CSR") = false from by assumption])
       (try rw [show (kind == Str.ofString "CSRI") = true from by assumption])
       (try rw [show (kind == Str.ofString "CSRI") = false from by assumption])
       rfl))
  · k_steps
    refine' check_use ?B ?F ?X ?N ?T ?hk ?hd ?hu ?hx ?hdd ?kf ?f1 ?f2 ?f3 ?f4 ?f5 ?z ?hdp ?hret ?hexc
    (case B => assumption); (case F => assumption); (case X => assumption); (case N => assumption); (case T => assumption); (case hk => exact rfl); (case hd => ktr_room); (case hu => ktr_units); (case hx => k_mem); (case hdd => k_mem); (case kf => assumption); (case f1 => assumption); (case f2 => assumption); (case f3 => assumption); (case f4 => assumption); (case f5 => assumption); (case z => assumption); (case hdp => assumption)
    (case hret => exact fun h => absurd h hall)
    intro _ e' g' h' tk' FG' R' U'
    k_unfold
    refine leave_onSN B₁ FG' R' U' ?_
    intro h'' R'' RN'' U''
    exact hexc hall _ _ _ _ FG₁ (Mine.RaisedSN.sub R'' (fun q hq => by repeat (first | exact hq | refine List.Mem.tail _ ?_))) U''
theorem enc_use {w : World} {loose : List Str} {mean : ExcName → Option Value} {mg mb : Str → Option Value} {dp un : Nat} {gd : Option (List Code)} {cn : Str} {cs : Scope} {a : Addr} {ccd : Value} {cl : List (Str × Addr)} {outer : List Env} {A₀ : Around} {base h₀ : Heap} {L : Addr} {m : Str → Option Value} {s : Shared} {Q E : Value → Shared → Prop} {news : List (Addr × Obj)} {x d : Addr} {sl : Array (Option Value)} {n : Nat} {h0 h1 h2 h3 h4 h5 : Int} {k0 k1 k2 k3 k4 k5 : Tok} {v1 v2 v3 v4 v5 : Value} {nm : Str} {tk0 : Tok} {kind : Str} {sh : Addr} {opc thi sev : Int} {ys : List Str} {d1 d2 d3 d4 d5 : PyData} {lo hi st : Int}
    (B : Below A₀ base outer h₀)
    (F : Fr h₀ L s.heap m)
    (X : (hd.heap_1 w.params).In h₀)
    (N : News h₀ L s.heap news)
    (T : Top hd.view_1 loose mean mg mb h₀)
    (hk : cs.kind = .function)
    (hdp : dp + 2 < recursionLimit)
    (hun : un + 16 < cLine)
    (hx : (x, (⟨.ref 95, some d, .plain, sl⟩ : Obj)) ∈ news)
    (hdd : (d, dictOf [⟨h0, .str (Str.ofString "name") k0, .str nm tk0⟩, ⟨h1, .str (Str.ofString "rd") k1, v1⟩, ⟨h2, .str (Str.ofString "rs1") k2, v2⟩, ⟨h3, .str (Str.ofString "rs2") k3, v3⟩, ⟨h4, .str (Str.ofString "imm") k4, v4⟩, ⟨h5, .str (Str.ofString "csr") k5, v5⟩] n) ∈ news)
    (sf : ShapeF w h₀ nm kind sh opc thi sev)
    (kf : KindF w h₀ kind ys lo hi st)
    (f1 : Field v1 d1)
    (f2 : Field v2 d2)
    (f3 : Field v3 d3)
    (f4 : Field v4 d4)
    (f5 : Field v5 d5)
    (z : h₀.get? 0 = some (o0 w.params))
    (hdp4 : dp = 303 ∨ dp = 304)
    (hret : ∀ y1 y2 y3 y4 y5, d1 = .int y1 → d2 = .int y2 → d3 = .int y3 → d4 = .int y4 → d5 = .int y5 → (∀ p ∈ sp5 d1 d2 d3 d4 d5, okV ys lo hi st p.1 p.2) → ∀ t h' tk', Fr h₀ L h' m → News h₀ L h' news → Q (.int (encI kind opc thi sev y1 y2 y3 y4 y5) t) { s with heap := h', toks := tk' })
    (hexc : (¬ ∀ p ∈ sp5 d1 d2 d3 d4 d5, okV ys lo hi st p.1 p.2) → ∀ e g h' tk', Fr h₀ L g m → RaisedSN base g (envX cn cs L a ccd cl :: outer) e (.ref 45) news h' → g.UpToSlots h' → E (.ref e) { s with heap := h', toks := tk' }) :
    wpAny (model PySem.Challenge.rw_pq0900_01.row.prog w) (ktrTop dp un gd cn cs L a ccd cl outer) (call (.ref 1046) [.ref x]) Q E s :=
  enc_c _ _ _ _ _ _ _ _ _ _ _ _ _ _ _ _ _ _ _ _ _ _ _ _ _ _ _ _ _ _ _ _ _ _ _ _ _ _ _ _ _ _ _ _ _ _ _ _ _ _ _ _ _ _ _ B F X N T hk hdp hun hx hdd sf kf f1 f2 f3 f4 f5 z hdp4 hret hexc
end Mine
-- part CSR
namespace Mine
theorem resetCSR : True := by
  w_top off
  k_with_none
  k_with "omega" => lia
  exact True.intro
open PySem PySem.W PyProof.Rows PySem.Calls PySem.Spec
noncomputable section
noncomputable def csrL : List (Str × Int) := [(Str.ofString "sstatus", 256), (Str.ofString "sie", 260), (Str.ofString "stvec", 261), (Str.ofString "scounteren", 262), (Str.ofString "sscratch", 320), (Str.ofString "sepc", 321), (Str.ofString "scause", 322), (Str.ofString "stval", 323), (Str.ofString "sip", 324), (Str.ofString "satp", 384), (Str.ofString "mstatus", 768), (Str.ofString "misa", 769), (Str.ofString "medeleg", 770), (Str.ofString "mideleg", 771), (Str.ofString "mie", 772), (Str.ofString "mtvec", 773), (Str.ofString "mcounteren", 774), (Str.ofString "mscratch", 832), (Str.ofString "mepc", 833), (Str.ofString "mcause", 834), (Str.ofString "mtval", 835), (Str.ofString "mip", 836), (Str.ofString "mcycle", 2816), (Str.ofString "minstret", 2818), (Str.ofString "mcycleh", 2944), (Str.ofString "minstreth", 2946), (Str.ofString "cycle", 3072), (Str.ofString "time", 3073), (Str.ofString "instret", 3074), (Str.ofString "cycleh", 3200), (Str.ofString "timeh", 3201), (Str.ofString "instreth", 3202), (Str.ofString "mvendorid", 3857), (Str.ofString "marchid", 3858), (Str.ofString "mimpid", 3859), (Str.ofString "mhartid", 3860)]
noncomputable def csrF (l : List (Str × Int)) (y : Int) : Str := match l with
  | [] => PySem.baseText "0x" 16 y
  | p :: r => if p.2 = y then p.1 else csrF r y
noncomputable def csrS (y : Int) : Str := csrF csrL y
noncomputable def csrD : List (Str × PyData) := csrL.map fun p => (p.1, PyData.int p.2)
theorem csr_tab {w : World} {h : Heap} (X : (hd.heap_1 w.params).In h) : TabAt (PySem.strKind rwp w) PyData.str h 68 (csrD.map fun p => (PyData.str p.1, p.2)) :=
  kt_tab_in rwp w X (D := csrD) (by kernel_rfl) (by decide +kernel) (by kernel_rfl)
section
variable {prog : Program} {w : World} {A : Around} {E : Value → Shared → Prop} {s : Shared} {env : Env} {h₀ : Heap} {body : List Stmt} {Q : Flow → Shared → Prop} {K : Type} [DecidableEq K] {knd : KeyKind prog w K} {enc : K → PyData} {D : List (PyData × PyData)}
/-- the items of a dict that stands at the top, turn by turn -/
theorem top_items {elts : List PySem.Expr} {kk : Nat} {pos : Pos} {d vw : Addr} {xs : List Itm} {m₀ : Str → Option Value} {news : List (Addr × Obj)}
    (hh : A.handled = none) (F : Fr h₀ env.locals s.heap m₀) (N : News h₀ env.locals s.heap news) (hvw : ∃ ov, s.heap.get? vw = some ov ∧ ov.cls = .type "dict_items" ∧ ov.data = .fields #[.ref d]) (T : TabAt knd enc h₀ d D)
    (hkey : ∀ k v, knd.is k v = true → ∃ t, v = kyVal (enc k) t) (hx : D.map (fun p => Itm.pairF (kyVal p.1) p.2) = xs)
    (rest₀ : ∀ I : Addr, (∀ p ∈ news, p.1 < I) → ItemsRest prog w A E h₀ env (.Tuple elts kk pos) body Q s [(I, "dict_itemiterator")] [] xs m₀ news) :
    wpAny (model prog w) A (pyIter (.ref vw)) (fun it s₂ => TurnsAt prog w A h₀ env (.Tuple elts kk pos) body Q E it s₂) E s := by
  subst hx
  obtain ⟨_, kvs, hdo, hf⟩ := T
  obtain ⟨od, hod, _⟩ := Heap.dictOf_iff.mp hdo
  obtain ⟨ep, hat⟩ := (hdo.keep F.keep).dictAt
  have hne : d ≠ s.heap.objs.size := Nat.ne_of_lt hat.lt_size
  refine wpAny_pyIter_items hvw hat ?_
  refine ktg_core (tk0 := s.toks) (keep := []) (kti_itemsTurns (knd := knd) hh s.heap.objs.size d hne kvs ep) (by rw [List.length_map]; exact hf.length.symm) ?_ ?_ ?_ ?_ ?_ ?_ ?_ ?_ (F.push _) (fun p hp => ⟨Heap.get?_push_of_some _ (N p hp).1, (N p hp).2⟩) trivial (rest₀ _ fun p hp => Heap.lt_size (N p hp).1)
  · rintro i v h ⟨T', key, k, x, rfl, hx, hk, hT⟩
    obtain ⟨dv, hD, hfl⟩ := hf.at hx
    obtain ⟨t, rfl⟩ := hkey k key hk
    exact ⟨.pairF (kyVal (enc k)) dv, by rw [List.getElem?_map, hD]; rfl, T', t, x, rfl, hfl, hT⟩
  · rintro i h ⟨⟨ok, ov, he⟩, _⟩
    have e1 : ∃ o : Obj, h.get? s.heap.objs.size = some o ∧ o.cls = .type "dict_itemiterator" := ⟨_, he, rfl⟩
    obtain ⟨oi, g, c⟩ := e1
    exact ⟨[(s.heap.objs.size, oi)], ⟨⟨rfl, c⟩, trivial⟩, fun p hp => by rw [List.mem_singleton.mp hp]; exact g⟩
  · intro b hb
    have hb' : b = s.heap.objs.size := by simpa using hb
    rw [hb']
    exact ⟨List.mem_cons_self .., next_is_new F⟩
  · intro b hb
    simpa using hb
  · intro b hb
    have hb' : b = s.heap.objs.size ∨ b = d := by simpa using hb
    rcases hb' with e | e
    · exact .inl (by simp [e])
    · exact .inr (.inr ⟨od, by rw [e]; exact hod⟩)
  · intro hI
    have hb' : env.locals = s.heap.objs.size ∨ env.locals = d := by simpa using hI
    rcases hb' with e | e
    · exact absurd F.ns.lt (e ▸ Nat.lt_irrefl _)
    · exact absurd (Heap.lt_size hod) (Nat.not_lt.mpr (e ▸ F.above))
  · intro p hp hI
    exact absurd (Heap.lt_size (N p hp).1) ((List.mem_singleton.mp hI) ▸ Nat.lt_irrefl _)
  · exact ⟨⟨.none, .none, Heap.get?_push_size _ rfl⟩, hat.push _⟩
end
theorem csr_all {prog : Program} {w : World} {A : Around} {E : Value → Shared → Prop} {h₀ : Heap} {env : Env} {target : PySem.Expr} {body : List Stmt} {Q : Flow → Shared → Prop} {s : Shared} {ws : List (Addr × String)} {keep news : List (Addr × Obj)}
    {y : Int} {R : Str} {P : (Str → Option Value) → Prop} : ∀ {l : List (Str × Int)} {m₀ : Str → Option Value}, P m₀ → csrF l y = R →
    (∀ nm v r m, P m → csrF ((nm, v) :: r) y = R → (∀ m', P m' → csrF r y = R → ItemsRest prog w A E h₀ env target body Q s ws keep (r.map fun p => Itm.pairF (fun t => .str p.1 t) (.int p.2)) m' news) → ItemsRest prog w A E h₀ env target body Q s ws keep (.pairF (fun t => .str nm t) (.int v) :: r.map fun p => Itm.pairF (fun t => .str p.1 t) (.int p.2)) m news) →
    (∀ m', P m' → csrF [] y = R → ItemsRest prog w A E h₀ env target body Q s ws keep [] m' news) →
    ItemsRest prog w A E h₀ env target body Q s ws keep (l.map fun p => Itm.pairF (fun t => .str p.1 t) (.int p.2)) m₀ news
  | [], _, hP, e, _, fin => fin _ hP e
  | (nm, v) :: r, _, hP, e, turn, fin => turn nm v r _ hP e fun m' hP' e' => csr_all hP' e' turn fin
theorem turn_end0 {h₀ : Heap} {L : Addr} {s₁ : Shared} {i : Addr} {o : Obj} {news : List (Addr × Obj)} {R : (Str → Option Value) → List (Addr × Obj) → Prop} {h' : Heap} {tk : Nat} {m' : Str → Option Value} (F : Fr h₀ L h' m') (N : News h₀ L h' ((i, o) :: news)) (lt : ∀ p ∈ news, p.1 < i) (r : R m' news) :
    UnrEndW h₀ L s₁ [(i, o)] (fun m' n' => SubL [] n' ∧ R m' n') { s₁ with heap := h', toks := tk } :=
  ⟨h', tk, m', news, rfl, F, N, fun p hp q hq => by rw [List.mem_singleton.mp hq]; exact Nat.ne_of_lt (lt p hp), trivial, r⟩
theorem fin_str {Q : Value → Shared → Prop} {a b : Str} {t : Tok} {s : Shared} (e : a = b) (h : Q (.str a t) s) : Q (.str b t) s := e ▸ h
set_option maxHeartbeats 0 in
theorem csr_c : ∀ {w : World} {loose : List Str} {mean : ExcName → Option Value} {mg mb : Str → Option Value} (dp un : Nat) (gd : Option (List Code)) (cn : Str) (cs : Scope) (a : Addr) (ccd : Value) (cl : List (Str × Addr)) (outer : List Env) (A₀ : Around) (base h₀ : Heap) (L : Addr) (m : Str → Option Value) (s : Shared) (Q E : Value → Shared → Prop) (news : List (Addr × Obj)) (y : Int) (ty : Tok),
    (Below A₀ base outer h₀) →
    (Fr h₀ L s.heap m) →
    ((hd.heap_1 w.params).In h₀) →
    (News h₀ L s.heap news) →
    (Top hd.view_1 loose mean mg mb h₀) →
    (cs.kind = .function) →
    (dp + 1 < recursionLimit) →
    (un + 8 < cLine) →
    (0 ≤ y) →
    (y < 4096) →
    (∀ t h' tk', Fr h₀ L h' m → News h₀ L h' news → Q (.str (csrS y) t) { s with heap := h', toks := tk' }) →
    wpAny (model PySem.Challenge.rw_pq0900_01.row.prog w) (ktrTop dp un gd cn cs L a ccd cl outer) (call (.ref 1081) [.int y ty]) Q E s := by
  k_with_none
  k_with "omega" => (lia)
  k_with "k_mem" => (first | assumption | (refine List.Mem.tail _ ?_; k_mem))
  k_with "k_handed" => (exact Field.handed (by assumption))
  k_with "k_inst" => (first | exact instK (by assumption) (by assumption) | exact instK (instK (by assumption) (by assumption)) (by assumption))
  k_with "m:execs cons" => (k_here; (try dsimp only); k_gentoks)
  k_with "m:eval Call" => (k_here; (try dsimp only); k_gentoks)
  k_with "m:eval Compare" => (k_here; (try dsimp only); k_gentoks)
  k_with "m:eval Tuple" => (k_here; (try dsimp only); k_gentoks)
  k_with "m:eval Name" => (k_here; (try dsimp only); k_gentoks)
  k_with "m:eval BinOp" => (k_here; (try dsimp only); k_gentoks)
  k_with "m:eval Attribute Name" => (k_here; (try dsimp only); k_gentoks)
  k_with "m:eval FormattedValue" => (k_here; (try dsimp only); k_gentoks)
  k_with "m:joinParts" => (k_here; (try dsimp only); k_gentoks)
  k_with "m:isTrue BoolOp" => (k_here; (try dsimp only); k_gentoks)
  k_with "m:call ref" => (k_here; (first | (with_reducible show wpAny _ _ (call (Value.ref 1018) _) _ _ _) | (with_reducible show wpAny _ _ (call (Value.ref 121) _) _ _ _) | (with_reducible show wpAny _ _ (call (Value.ref 1032) _) _ _ _) | (with_reducible show wpAny _ _ (call (Value.ref 1039) _) _ _ _)); refine wpAny_call ?_; k_dflt cell_enter)
  k_with "m:compareOp NotIn" => (k_here; (with_reducible show wpAny _ _ (compareOp CmpOp.NotIn (Value.str _ _) (Value.ref 731)) _ _ _); (refine' strNotIn ?w6k1 (isD731 _) (keys731 _) (by decide) ?w6k2 ?_; (case w6k1 => k_in); (case w6k2 => assumption); k_whole))
  k_with "m:subscriptTail" => (k_here; (with_reducible show wpAny _ _ (subscriptTail _ _ (Value.ref 731) (Value.str _ _)) _ _ _); (with_unfolding_all refine' strItem ?w7k1 (isD731 _) (keys731 _) ?w7k2 ?_ ?w7k3; (case w7k1 => k_in); (case w7k2 => assumption); (case w7k3 => with_unfolding_all rfl); k_whole))
  k_with "m:eval Name" => (k_here; k_dflt (refine' ld ?w8k1 ?w8k2 ?_; (case w8k1 => k_asm); (case w8k2 => assumption); k_whole))
  k_fill
  intro w loose mean mg mb dp un gd cn cs a ccd cl outer A₀ base h₀ L m s Q E news y ty B F X N T hk hdp hun y0 y1 hret
  refine wpAny_call ?_
  k_dflt cell_enter
  rename_i g₁ L₁ h₁ FG₁ F₁ N₁ B₁ X₁ T₁
  k_steps
  (rename Fr _ _ _ _ => lF'); (rename News _ _ _ _ => lN')
  with_unfolding_all refine' For_turns lF' ?_
  k_whole
  refine MethodCall_ ?_
  refine name_K lF' X₁ (topRead_of T₁) (v := .ref 68) ?kn ?_ rfl rfl (by decide)
  (case kn => k_is)
  refine getMethod_tab (knd := PySem.strKind _ _) (enc := PyData.str) PySem.F.slot_dict_items PySem.F.type_dict_items ((csr_tab X₁).keep lF'.keep) ?_
  refine callWith_method0 ?_
  refine call_items_tab (knd := PySem.strKind _ _) (enc := PyData.str) ((csr_tab X₁).keep lF'.keep) lF' lN' ?_
  intro h' o' hv' F' N'
  replace N' := kti_tail N'
  refine top_items (knd := PySem.strKind _ _) (enc := PyData.str) (xs := csrL.map fun p => Itm.pairF (fun t => .str p.1 t) (.int p.2)) (by rfl) F' N' hv' (csr_tab X₁) (fun _ _ h => Value.isStrOf_shape h) (by kernel_rfl) ?_
  intro i' l1
  refine csr_all (y := y) (R := csrS y) (P := fun m => m (Str.ofString "number") = some (.int y ty)) (by k_dflt (exact rfl)) rfl ?_ ?_
  · intro nm v r m2 hm1 he next
    clear lF' lN' F' N' hv'
    k_steps
    all_goals first
      | (refine fin_str (a := csrS y) ?_ (hret _ _ _ ‹Fr h₀ L _ m› (by (first | assumption | (intro p hp; refine ‹News h₀ L _ _› p ?_; repeat (first | assumption | refine List.Mem.tail _ ?_)))))
         rw [← he]
         show (if v = y then nm else csrF r y) = nm
         exact if_pos ‹v = y›)
      | (refine' turn_end0 ?tF ?tN l1 ?tr
         (case tF => assumption)
         (case tN => assumption)
         (case tr =>
          refine next _ (by k_dflt (exact hm1)) ?_
          rw [← he]
          show csrF r y = (if v = y then nm else csrF r y)
          exact (if_neg ‹v ≠ y›).symm))
  · intro m' hm1 he
    k_steps
    all_goals (
      refine fin_str (a := csrS y) ?_ (hret _ _ _ ‹Fr h₀ L _ m› (by (first | assumption | (intro p hp; refine ‹News h₀ L _ _› p ?_; repeat (first | assumption | refine List.Mem.tail _ ?_)))))
      exact he.symm)
theorem csr_use {w : World} {loose : List Str} {mean : ExcName → Option Value} {mg mb : Str → Option Value} {dp un : Nat} {gd : Option (List Code)} {cn : Str} {cs : Scope} {a : Addr} {ccd : Value} {cl : List (Str × Addr)} {outer : List Env} {A₀ : Around} {base h₀ : Heap} {L : Addr} {m : Str → Option Value} {s : Shared} {Q E : Value → Shared → Prop} {news : List (Addr × Obj)} {y : Int} {ty : Tok}
    (B : Below A₀ base outer h₀)
    (F : Fr h₀ L s.heap m)
    (X : (hd.heap_1 w.params).In h₀)
    (N : News h₀ L s.heap news)
    (T : Top hd.view_1 loose mean mg mb h₀)
    (hk : cs.kind = .function)
    (hdp : dp + 1 < recursionLimit)
    (hun : un + 8 < cLine)
    (y0 : 0 ≤ y)
    (y1 : y < 4096)
    (hret : ∀ t h' tk', Fr h₀ L h' m → News h₀ L h' news → Q (.str (csrS y) t) { s with heap := h', toks := tk' }) :
    wpAny (model PySem.Challenge.rw_pq0900_01.row.prog w) (ktrTop dp un gd cn cs L a ccd cl outer) (call (.ref 1081) [.int y ty]) Q E s :=
  csr_c _ _ _ _ _ _ _ _ _ _ _ _ _ _ _ _ _ _ _ _ B F X N T hk hdp hun y0 y1 hret
theorem csrF_len {y : Int} (h : (PySem.baseText "0x" 16 y).length ≤ 5000) : ∀ l : List (Str × Int), l.all (fun p => Nat.ble p.1.length 16) = true → (csrF l y).length ≤ 5000
  | [], _ => h
  | p :: r, hl => by
    rw [List.all_cons, Bool.and_eq_true] at hl
    show (if p.2 = y then p.1 else csrF r y).length ≤ 5000
    split
    · exact Nat.le_trans (Nat.le_of_ble_eq_true hl.1) (by decide)
    · exact csrF_len h r hl.2
theorem csrS_len {y : Int} (h0 : 0 ≤ y) (h1 : y < 4096) : (csrS y).length ≤ 5000 := csrF_len (by
  have q := (baseText_length "0x" 16 y).2
  have e : (Str.ofString "0x").length = 2 := by decide
  omega) csrL (by decide +kernel)
theorem csr_use2 {w : World} {loose : List Str} {mean : ExcName → Option Value} {mg mb : Str → Option Value} {dp un : Nat} {gd : Option (List Code)} {cn : Str} {cs : Scope} {a : Addr} {ccd : Value} {cl : List (Str × Addr)} {outer : List Env} {A₀ : Around} {base h₀ : Heap} {L : Addr} {m : Str → Option Value} {s : Shared} {Q E : Value → Shared → Prop} {news : List (Addr × Obj)} {y : Int} {ty : Tok}
    (B : Below A₀ base outer h₀)
    (F : Fr h₀ L s.heap m)
    (X : (hd.heap_1 w.params).In h₀)
    (N : News h₀ L s.heap news)
    (T : Top hd.view_1 loose mean mg mb h₀)
    (hk : cs.kind = .function)
    (hdp : dp + 1 < recursionLimit)
    (hun : un + 8 < cLine)
    (y0 : 0 ≤ y)
    (y1 : y < 4096)
    (hret : ∀ r t h' tk', csrS y = r → r.length ≤ 5000 → Fr h₀ L h' m → News h₀ L h' news → Q (.str r t) { s with heap := h', toks := tk' }) :
    wpAny (model PySem.Challenge.rw_pq0900_01.row.prog w) (ktrTop dp un gd cn cs L a ccd cl outer) (call (.ref 1081) [.int y ty]) Q E s :=
  csr_use B F X N T hk hdp hun y0 y1 fun t h' tk' => hret _ t h' tk' rfl (csrS_len y0 y1)
end
end Mine
-- part TXT
namespace Mine
theorem resetTXT : True := by
  w_top off
  k_with_none
  k_with "omega" => lia
  exact True.intro
open PySem PySem.W PyProof.Rows PySem.Calls PySem.Spec
noncomputable section
noncomputable def tIt (w : World) (a : Addr) : List Value := match (hd.heap_1 w.params).lookup a with
  | some ⟨_, _, .seq xs _, _⟩ => xs.toList
  | _ => []
noncomputable def strOf (v : Value) : Option Str := match v with
  | .str x _ => some x
  | _ => none
theorem strsAre_of : ∀ l : List Value, l.all (fun v => (strOf v).isSome) = true → StrsAre l (l.filterMap strOf)
  | [], _ => .nil
  | .str x t :: r, h => .cons x t (strsAre_of r (by simpa [strOf] using h))
  | .none :: _, h | .ellipsis :: _, h | .notImplemented :: _, h | .bool _ :: _, h | .int _ _ :: _, h | .float _ _ :: _, h | .bytes _ _ :: _, h | .type _ :: _, h | .builtin _ :: _, h | .ref _ :: _, h => by simp [strOf] at h
noncomputable def abiS (w : World) : List Str := (tIt w 67).filterMap strOf
theorem abi_strs (w : World) : StrsAre (tIt w 67) (abiS w) := strsAre_of _ (by kernel_rfl)
theorem abi_len (w : World) : (abiS w).length = 32 := by kernel_rfl
noncomputable def tN (w : World) (a : Addr) : Nat := match (hd.heap_1 w.params).lookup a with
  | some ⟨_, _, .seq _ n, _⟩ => n
  | _ => 0
theorem abi_at (w : World) : (hd.heap_1 w.params).lookup 67 = some ⟨.type "tuple", none, .seq (tIt w 67).toArray (tN w 67), #[]⟩ := by kernel_rfl
theorem abi_tup {w : World} {h : Heap} (X : (hd.heap_1 w.params).In h) : IsTup h 67 (tIt w 67).toArray := ⟨_, X _ _ (abi_at w), rfl, _, rfl⟩
noncomputable def abiAt (w : World) (y : Int) : Str := (abiS w).getD y.toNat Str.empty
theorem abi_all (w : World) : (abiS w).all (fun x => Nat.ble x.length 16) = true := by kernel_rfl
theorem abi_short (w : World) (k : Int) : (abiAt w k).length ≤ 16 := by
  unfold abiAt
  rw [List.getD_eq_getElem?_getD]
  cases q : (abiS w)[k.toNat]? with
  | none => decide
  | some x => exact Nat.le_of_ble_eq_true (List.all_eq_true.mp (abi_all w) x (List.mem_of_getElem? q))
theorem abi_item {w : World} {A : Around} {E : Value → Shared → Prop} {s : Shared} {value slice : PySem.Expr} {k : Int} {u : Tok} {Q : Value → Shared → Prop} (X : (hd.heap_1 w.params).In s.heap) (h0 : 0 ≤ k) (h1 : k < 32) (h : ∀ r t', abiAt w k = r → r.length ≤ 16 → Q (.str r t') s)
    (hs : subscripted slice false (.ref 67) (.int k u) = operate [.ref 67, .int k u] (getItem (.ref 67) (.int k u)) := by with_unfolding_all rfl) (hg : ∀ r, letTemporaryGo value (.ref 67) r = pure () := by intro _; with_unfolding_all rfl) :
    wpAny (model rwp w) A (subscriptTail value slice (.ref 67) (.int k u)) Q E s := item_strsTu (abi_tup X) (abi_strs w) h0 (by rw [abi_len]; exact h1) (by omega) (fun t' => h _ t' rfl (abi_short w k)) hs hg
theorem beq_other {x y z : Str} (h : (x == y) = true) (hne : ¬ y = z) : (x == z) = false := by
  have e := eq_of_beq h
  subst e
  exact beq_no hne
theorem any_true {x y : Str} {l : List Str} (h : (x == y) = true) (hl : l.any (fun z => z == y) = true) : l.any (fun z => z == x) = true := by
  have e := eq_of_beq h
  subst e
  exact hl
theorem any_false {x y : Str} {l : List Str} (h : (x == y) = true) (hl : l.any (fun z => z == y) = false) : l.any (fun z => z == x) = false := by
  have e := eq_of_beq h
  subst e
  exact hl
noncomputable def txtS (w : World) (kind nm : Str) (opc y1 y2 y3 y4 y5 : Int) : Str :=
  cond (kind == Str.ofString "R") (Str.empty ++ nm ++ Str.ofString " " ++ abiAt w y1 ++ Str.ofString ", " ++ abiAt w y2 ++ Str.ofString ", " ++ abiAt w y3)
  (cond ((kind == Str.ofString "I") && ((nm == Str.ofString "jalr") || decide (opc = 3))) (Str.empty ++ nm ++ Str.ofString " " ++ abiAt w y1 ++ Str.ofString ", " ++ Str.ofString (toString y4) ++ Str.ofString "(" ++ abiAt w y2 ++ Str.ofString ")")
  (cond ([Str.ofString "I", Str.ofString "shift"].any fun x => x == kind) (Str.empty ++ nm ++ Str.ofString " " ++ abiAt w y1 ++ Str.ofString ", " ++ abiAt w y2 ++ Str.ofString ", " ++ Str.ofString (toString y4))
  (cond (kind == Str.ofString "S") (Str.empty ++ nm ++ Str.ofString " " ++ abiAt w y3 ++ Str.ofString ", " ++ Str.ofString (toString y4) ++ Str.ofString "(" ++ abiAt w y2 ++ Str.ofString ")")
  (cond (kind == Str.ofString "B") (Str.empty ++ nm ++ Str.ofString " " ++ abiAt w y2 ++ Str.ofString ", " ++ abiAt w y3 ++ Str.ofString ", " ++ Str.ofString (toString y4))
  (cond (kind == Str.ofString "U") (Str.empty ++ nm ++ Str.ofString " " ++ abiAt w y1 ++ Str.ofString ", " ++ PySem.baseText "0x" 16 y4)
  (cond (kind == Str.ofString "J") (Str.empty ++ nm ++ Str.ofString " " ++ abiAt w y1 ++ Str.ofString ", " ++ Str.ofString (toString y4))
  (cond (kind == Str.ofString "CSR") (Str.empty ++ nm ++ Str.ofString " " ++ abiAt w y1 ++ Str.ofString ", " ++ csrS y5 ++ Str.ofString ", " ++ abiAt w y2)
  (cond (kind == Str.ofString "CSRI") (Str.empty ++ nm ++ Str.ofString " " ++ abiAt w y1 ++ Str.ofString ", " ++ csrS y5 ++ Str.ofString ", " ++ Str.ofString (toString y4))
  (cond (kind == Str.ofString "flush") (Str.empty ++ nm ++ Str.ofString " " ++ abiAt w y2 ++ Str.ofString ", " ++ abiAt w y3)
  nm)))))))))
theorem len_app {a b : Str} {m n : Nat} (ha : a.length ≤ m) (hb : b.length ≤ n) : (a ++ b).length ≤ m + n := by
  rw [Str.length_append]
  exact Nat.add_le_add ha hb
theorem len_fits {a : Str} {m : Nat} (h : a.length ≤ m) (k : Nat.ble m 16777216 = true) : a.length ≤ sizeLine := Nat.le_trans h (Nat.le_trans (Nat.le_of_ble_eq_true k) (by rw [sizeLine_eq]; exact Nat.le_refl _))
theorem len_int {y : Int} (h : -2097152 < y ∧ y < 2097152) : (Str.ofString (toString y)).length ≤ 12 := by
  obtain ⟨h0, h1⟩ := h
  rw [PySem.ofString_length]
  exact int_text_length_le10 (k := 11) (by decide) (by omega)
theorem len_hex {y : Int} (h : -2097152 < y ∧ y < 2097152) : (PySem.baseText "0x" 16 y).length ≤ 2097200 := by
  obtain ⟨h0, h1⟩ := h
  have q := (baseText_length "0x" 16 y).2
  have e : (Str.ofString "0x").length = 2 := by decide
  omega
theorem lt0 : Str.empty.length ≤ 0 := by decide
theorem lt1 : (Str.ofString " ").length ≤ 1 := by decide
theorem lt2 : (Str.ofString ", ").length ≤ 2 := by decide
theorem lt3 : (Str.ofString "(").length ≤ 1 := by decide
theorem lt4 : (Str.ofString ")").length ≤ 1 := by decide
set_option maxHeartbeats 0 in
theorem txt_c : ∀ {w : World} {loose : List Str} {mean : ExcName → Option Value} {mg mb : Str → Option Value} (dp un : Nat) (gd : Option (List Code)) (cn : Str) (cs : Scope) (a : Addr) (ccd : Value) (cl : List (Str × Addr)) (outer : List Env) (A₀ : Around) (base h₀ : Heap) (L : Addr) (m : Str → Option Value) (s : Shared) (Q E : Value → Shared → Prop) (news : List (Addr × Obj)) (x d : Addr) (sl : Array (Option Value)) (n : Nat) (h0 h1 h2 h3 h4 h5 : Int) (k0 k1 k2 k3 k4 k5 : Tok) (v1 v2 v3 v4 v5 : Value) (nm : Str) (tk0 : Tok) (kind : Str) (sh : Addr) (opc thi sev : Int) (ys : List Str) (d1 d2 d3 d4 d5 : PyData) (lo hi st : Int),
    (Below A₀ base outer h₀) →
    (Fr h₀ L s.heap m) →
    ((hd.heap_1 w.params).In h₀) →
    (News h₀ L s.heap news) →
    (Top hd.view_1 loose mean mg mb h₀) →
    (cs.kind = .function) →
    (dp + 2 < recursionLimit) →
    (un + 16 < cLine) →
    ((x, (⟨.ref 95, some d, .plain, sl⟩ : Obj)) ∈ news) →
    ((d, dictOf [⟨h0, .str (Str.ofString "name") k0, .str nm tk0⟩, ⟨h1, .str (Str.ofString "rd") k1, v1⟩, ⟨h2, .str (Str.ofString "rs1") k2, v2⟩, ⟨h3, .str (Str.ofString "rs2") k3, v3⟩, ⟨h4, .str (Str.ofString "imm") k4, v4⟩, ⟨h5, .str (Str.ofString "csr") k5, v5⟩] n) ∈ news) →
    (ShapeF w h₀ nm kind sh opc thi sev) →
    (KindF w h₀ kind ys lo hi st) →
    (Field v1 d1) →
    (Field v2 d2) →
    (Field v3 d3) →
    (Field v4 d4) →
    (Field v5 d5) →
    (h₀.get? 0 = some (o0 w.params)) →
    (dp = 303 ∨ dp = 304) →
    ((kind == Str.ofString "fence") = false ∨ ¬ ∀ p ∈ sp5 d1 d2 d3 d4 d5, okV ys lo hi st p.1 p.2) →
    (nm.length ≤ 16) →
    (∀ y1 y2 y3 y4 y5, d1 = .int y1 → d2 = .int y2 → d3 = .int y3 → d4 = .int y4 → d5 = .int y5 → (∀ p ∈ sp5 d1 d2 d3 d4 d5, okV ys lo hi st p.1 p.2) → ∀ t h' tk', Fr h₀ L h' m → News h₀ L h' news → Q (.str (txtS w kind nm opc y1 y2 y3 y4 y5) t) { s with heap := h', toks := tk' }) →
    ((¬ ∀ p ∈ sp5 d1 d2 d3 d4 d5, okV ys lo hi st p.1 p.2) → ∀ e g h' tk', Fr h₀ L g m → RaisedSN base g (envX cn cs L a ccd cl :: outer) e (.ref 45) news h' → g.UpToSlots h' → E (.ref e) { s with heap := h', toks := tk' }) →
    wpAny (model PySem.Challenge.rw_pq0900_01.row.prog w) (ktrTop dp un gd cn cs L a ccd cl outer) (call (.ref 1100) [.ref x]) Q E s := by
  k_with_none
  k_with "omega" => (lia)
  k_with "k_mem" => (first | assumption | (refine List.Mem.tail _ ?_; k_mem))
  k_with "k_handed" => (exact Field.handed (by assumption))
  k_with "k_inst" => (first | exact instK (by assumption) (by assumption) | exact instK (instK (by assumption) (by assumption)) (by assumption))
  k_with "fits" =>
    with_reducible apply len_fits
    · repeat' (first | with_reducible apply len_app | with_reducible assumption | with_reducible exact lt0 | with_reducible exact lt1 | with_reducible exact lt2 | with_reducible exact lt3 | with_reducible exact lt4 | with_reducible exact len_int ‹_› | with_reducible exact len_hex ‹_›)
    · with_unfolding_all exact rfl
  k_with "m:le" =>
    with_reducible apply len_fits
    · repeat' (first | with_reducible apply len_app | with_reducible assumption | with_reducible exact lt0 | with_reducible exact lt1 | with_reducible exact lt2 | with_reducible exact lt3 | with_reducible exact lt4 | with_reducible exact len_int ‹_› | with_reducible exact len_hex ‹_›)
    · with_unfolding_all exact rfl
  k_with "m:And" =>
    with_reducible apply And.intro
    · with_reducible apply len_fits
      · repeat' (first | with_reducible apply len_app | with_reducible assumption | with_reducible exact lt0 | with_reducible exact lt1 | with_reducible exact lt2 | with_reducible exact lt3 | with_reducible exact lt4 | with_reducible exact len_int ‹_› | with_reducible exact len_hex ‹_›)
      · with_unfolding_all exact rfl
  k_with "m:eval BinOp" => (k_here; (try dsimp only); k_gentoks)
  k_with "m:eval Attribute Name" => (k_here; (try dsimp only); k_gentoks)
  k_with "m:eval FormattedValue" => (k_here; (try dsimp only); k_gentoks)
  k_with "m:joinParts" => (first | (with_reducible refine joinParts_consE ?_; with_reducible refine joinParts_cons ?_) | (with_reducible show wpAny _ _ (joinParts _ (_ :: _)) _ _ _; with_reducible refine joinParts_cons ?_))
  k_with "m:joinParts" => (k_here; (try dsimp only); k_gentoks)
  k_with "m:isTrue BoolOp" => (k_here; (try dsimp only); k_gentoks)
  k_with "m:execs cons" => (k_here; (try dsimp only); k_gentoks)
  k_with "m:eval Call" => (k_here; (try dsimp only); k_gentoks)
  k_with "m:eval Compare" => (k_here; (try dsimp only); k_gentoks)
  k_with "m:eval Tuple" => (k_here; (try dsimp only); k_gentoks)
  k_with "m:eval Name" => (k_here; (try dsimp only); k_gentoks)
  k_with "m:call ref" => (k_here; (first | (with_reducible show wpAny _ _ (call (Value.ref 1018) _) _ _ _) | (with_reducible show wpAny _ _ (call (Value.ref 121) _) _ _ _) | (with_reducible show wpAny _ _ (call (Value.ref 1032) _) _ _ _) | (with_reducible show wpAny _ _ (call (Value.ref 1039) _) _ _ _)); refine wpAny_call ?_; k_dflt cell_enter)
  k_with "m:compareOp NotIn" => (k_here; (with_reducible show wpAny _ _ (compareOp CmpOp.NotIn (Value.str _ _) (Value.ref 731)) _ _ _); (refine' strNotIn ?w6k1 (isD731 _) (keys731 _) (by decide) ?w6k2 ?_; (case w6k1 => k_in); (case w6k2 => assumption); k_whole))
  k_with "m:subscriptTail" => (k_here; (with_reducible show wpAny _ _ (subscriptTail _ _ (Value.ref 731) (Value.str _ _)) _ _ _); (with_unfolding_all refine' strItem ?w7k1 (isD731 _) (keys731 _) ?w7k2 ?_ ?w7k3; (case w7k1 => k_in); (case w7k2 => assumption); (case w7k3 => with_unfolding_all rfl); k_whole))
  k_with "m:call ref" => (k_here; (with_reducible show wpAny _ _ (call (Value.ref 1025) [Value.ref _, Value.str _ _]) _ _ _); (refine' check_use ?w8B ?w8F ?w8X ?w8N ?w8T ?w8hk ?w8hd ?w8hu ?w8hx ?w8hdd ?w8kf ?w8f1 ?w8f2 ?w8f3 ?w8f4 ?w8f5 ?w8z ?w8hdp ?w8hret ?w8hexc; (case w8B => assumption); (case w8F => assumption); (case w8X => assumption); (case w8N => assumption); (case w8T => assumption); (case w8hk => exact rfl); (case w8hd => ktr_room); (case w8hu => ktr_units); (case w8hx => k_mem); (case w8hdd => k_mem); (case w8kf => assumption); (case w8f1 => assumption); (case w8f2 => assumption); (case w8f3 => assumption); (case w8f4 => assumption); (case w8f5 => assumption); (case w8z => assumption); (case w8hdp => assumption); (case w8hexc => (intro nh; exact (nh (by assumption)).elim)); intro _ h' tk' F' N'))
  k_with "m:subscriptTail" => (k_here; (with_reducible show wpAny _ _ (subscriptTail _ _ (Value.ref 67) (Value.int _ _)) _ _ _); (with_unfolding_all refine' abi_item ?w9k1 ?w9k2 ?w9k3 ?_ ?w9k4 ?w9k5; (case w9k1 => k_in); (case w9k2 => omega); (case w9k3 => omega); (case w9k4 => with_unfolding_all rfl); (case w9k5 => intro _; with_unfolding_all rfl); k_whole); intro r' t' hr' hl')
  k_with "m:call ref" => (k_here; (with_reducible show wpAny _ _ (call (Value.ref 1081) _) _ _ _); (refine' csr_use2 ?w10B ?w10F ?w10X ?w10N ?w10T ?w10hk ?w10hd ?w10hu ?w10y0 ?w10y1 ?_; (case w10B => assumption); (case w10F => assumption); (case w10X => assumption); (case w10N => assumption); (case w10T => assumption); (case w10hk => exact rfl); (case w10hd => ktr_room); (case w10hu => ktr_units); (case w10y0 => assumption); (case w10y1 => assumption); intro r' t' h' tk' hr' hl' F' N'))
  k_with "m:compareOp Eq str str" => (k_here; (with_reducible show wpAny _ _ (compareOp CmpOp.Eq (Value.str _ _) (Value.str _ _)) _ _ _); k_dflt (refine' eq_name ?w11k1 ?_; (case w11k1 => first | with_reducible assumption | exact beq_other (by with_reducible assumption) (by decide)); k_whole))
  k_with "m:truthy bool" => (k_here; (with_reducible show wpAny _ _ (truthy (Value.bool (List.any _ _))) _ _ _); k_dflt (first | rw [any_true (by assumption) (by decide)] | rw [any_false (by assumption) (by decide)]))
  k_fill
  intro w loose mean mg mb dp un gd cn cs a ccd cl outer A₀ base h₀ L m s Q E news x d sl n h0 h1 h2 h3 h4 h5 k0 k1 k2 k3 k4 k5 v1 v2 v3 v4 v5 nm tk0 kind sh opc thi sev ys d1 d2 d3 d4 d5 lo hi st B F X N T hk hdp hun hx hdd sf kf f1 f2 f3 f4 f5 z hdp4 hfe hnl hret hexc
  refine wpAny_call ?_
  k_dflt cell_enter
  rename_i g₁ L₁ h₁ FG₁ F₁ N₁ B₁ X₁ T₁
  have z₁ := FG₁.keep _ _ z
  have hdpc : dp + 1 = 304 ∨ dp + 1 = 305 := hdp4.imp (congrArg Nat.succ) (congrArg Nat.succ)
  have hrf : ScopeKind.function = ScopeKind.function := rfl
  have kf₁ := kf.up FG₁.keep
  obtain ⟨hname, ⟨sd, n', e0, e1, e2, e3, e4, t0, t1, t2, t3, t4, t5, t6, t7, t8, t9, I⟩, c1, c2, c3, c4, c5, c6⟩ := sf.up FG₁.keep
  have l0 := kf.lo0
  have l1 := kf.hi0
  by_cases hall : ∀ p ∈ sp5 d1 d2 d3 d4 d5, okV ys lo hi st p.1 p.2
  · have hfe' : (kind == Str.ofString "fence") = false := hfe.resolve_right (fun q => q hall)
    obtain ⟨y1, y2, y3, y4, y5, q1, q2, q3, q4, q5, b1, b2, b3, b4, ⟨b5, b6⟩⟩ := all_bnd hall l0 l1
    have hret' := hret y1 y2 y3 y4 y5 q1 q2 q3 q4 q5 hall
    subst q1 q2 q3 q4 q5
    obtain ⟨u1, rfl⟩ := field_int f1
    obtain ⟨u2, rfl⟩ := field_int f2
    obtain ⟨u3, rfl⟩ := field_int f3
    obtain ⟨u4, rfl⟩ := field_int f4
    obtain ⟨u5, rfl⟩ := field_int f5
    k_steps
    all_goals first
      | (refine fin_str (a := txtS w kind nm opc y1 y2 y3 y4 y5) ?_ (hret' _ _ _ ‹Fr h₀ L _ m› (by (first | assumption | (intro p hp; refine ‹News h₀ L _ _› p ?_; repeat (first | assumption | refine List.Mem.tail _ ?_))))); unfold txtS; (try rw [show abiAt w y1 = _ from by assumption]); (try rw [show abiAt w y2 = _ from by assumption]); (try rw [show abiAt w y3 = _ from by assumption]); (try rw [show csrS y5 = _ from by assumption]); (first | (rw [show (kind == Str.ofString "R") = false from by assumption]; rw [cond_false]; (first | (rw [show (kind == Str.ofString "I") = false from by assumption]; rw [Bool.false_and]; (first | (rw [show ([Str.ofString "I", Str.ofString "shift"].any fun x => x == kind) = false from by assumption]; rw [cond_false]; (first | (rw [show (kind == Str.ofString "S") = false from by assumption]; rw [cond_false]; (first | (rw [show (kind == Str.ofString "B") = false from by assumption]; rw [cond_false]; (first | (rw [show (kind == Str.ofString "U") = false from by assumption]; rw [cond_false]; (first | (rw [show (kind == Str.ofString "J") = false from by assumption]; rw [cond_false]; (first | (rw [show (kind == Str.ofString "CSR") = false from by assumption]; rw [cond_false]; (first | (rw [show (kind == Str.ofString "CSRI") = false from by assumption]; rw [cond_false]; (first | (rw [show (kind == Str.ofString "flush") = false from by assumption]; rw [cond_false]; rfl) | (rw [show (kind == Str.ofString "flush") = true from by assumption]; rfl))) | (rw [show (kind == Str.ofString "CSRI") = true from by assumption]; rfl))) | (rw [show (kind == Str.ofString "CSR") = true from by assumption]; rfl))) | (rw [show (kind == Str.ofString "J") = true from by assumption]; rfl))) | (rw [show (kind == Str.ofString "U") = true from by assumption]; rfl))) | (rw [show (kind == Str.ofString "B") = true from by assumption]; rfl))) | (rw [show (kind == Str.ofString "S") = true from by assumption]; rfl))) | (rw [show ([Str.ofString "I", Str.ofString "shift"].any fun x => x == kind) = true from by assumption]; rfl))) | (rw [show (kind == Str.ofString "I") = true from by assumption]; first | (rw [show (nm == Str.ofString "jalr") = true from by assumption]; rfl) | (rw [show (nm == Str.ofString "jalr") = false from by assumption]; first | (rw [show decide (opc = 3) = true from decide_eq_true (by assumption)]; rfl) | (rw [show decide (opc = 3) = false from decide_eq_false (by assumption)]; rw [any_true (l := [Str.ofString "I", Str.ofString "shift"]) (y := Str.ofString "I") (by assumption) (by decide)]; rfl))))) | (rw [show (kind == Str.ofString "R") = true from by assumption]; rfl)))
      | (refine csr_use2 (by assumption) (by assumption) (by assumption) (by assumption) (by assumption) (by exact rfl) (by ktr_room) (by ktr_units) (by assumption) (by assumption) ?_
         intro r' t' h' tk' hr' hl' F' N'
         k_steps
         (refine fin_str (a := txtS w kind nm opc y1 y2 y3 y4 y5) ?_ (hret' _ _ _ ‹Fr h₀ L _ m› (by (first | assumption | (intro p hp; refine ‹News h₀ L _ _› p ?_; repeat (first | assumption | refine List.Mem.tail _ ?_))))); unfold txtS; (try rw [show abiAt w y1 = _ from by assumption]); (try rw [show abiAt w y2 = _ from by assumption]); (try rw [show abiAt w y3 = _ from by assumption]); (try rw [show csrS y5 = _ from by assumption]); (first | (rw [show (kind == Str.ofString "R") = false from by assumption]; rw [cond_false]; (first | (rw [show (kind == Str.ofString "I") = false from by assumption]; rw [Bool.false_and]; (first | (rw [show ([Str.ofString "I", Str.ofString "shift"].any fun x => x == kind) = false from by assumption]; rw [cond_false]; (first | (rw [show (kind == Str.ofString "S") = false from by assumption]; rw [cond_false]; (first | (rw [show (kind == Str.ofString "B") = false from by assumption]; rw [cond_false]; (first | (rw [show (kind == Str.ofString "U") = false from by assumption]; rw [cond_false]; (first | (rw [show (kind == Str.ofString "J") = false from by assumption]; rw [cond_false]; (first | (rw [show (kind == Str.ofString "CSR") = false from by assumption]; rw [cond_false]; (first | (rw [show (kind == Str.ofString "CSRI") = false from by assumption]; rw [cond_false]; (first | (rw [show (kind == Str.ofString "flush") = false from by assumption]; rw [cond_false]; rfl) | (rw [show (kind == Str.ofString "flush") = true from by assumption]; rfl))) | (rw [show (kind == Str.ofString "CSRI") = true from by assumption]; rfl))) | (rw [show (kind == Str.ofString "CSR") = true from by assumption]; rfl))) | (rw [show (kind == Str.ofString "J") = true from by assumption]; rfl))) | (rw [show (kind == Str.ofString "U") = true from by assumption]; rfl))) | (rw [show (kind == Str.ofString "B") = true from by assumption]; rfl))) | (rw [show (kind == Str.ofString "S") = true from by assumption]; rfl))) | (rw [show ([Str.ofString "I", Str.ofString "shift"].any fun x => x == kind) = true from by assumption]; rfl))) | (rw [show (kind == Str.ofString "I") = true from by assumption]; first | (rw [show (nm == Str.ofString "jalr") = true from by assumption]; rfl) | (rw [show (nm == Str.ofString "jalr") = false from by assumption]; first | (rw [show decide (opc = 3) = true from decide_eq_true (by assumption)]; rfl) | (rw [show decide (opc = 3) = false from decide_eq_false (by assumption)]; rw [any_true (l := [Str.ofString "I", Str.ofString "shift"]) (y := Str.ofString "I") (by assumption) (by decide)]; rfl))))) | (rw [show (kind == Str.ofString "R") = true from by assumption]; rfl))))
  · k_steps
    refine' check_use ?B ?F ?X ?N ?T ?hk ?hd ?hu ?hx ?hdd ?kf ?f1 ?f2 ?f3 ?f4 ?f5 ?z ?hdp ?hret ?hexc
    (case B => assumption); (case F => assumption); (case X => assumption); (case N => assumption); (case T => assumption); (case hk => exact rfl); (case hd => ktr_room); (case hu => ktr_units); (case hx => k_mem); (case hdd => k_mem); (case kf => assumption); (case f1 => assumption); (case f2 => assumption); (case f3 => assumption); (case f4 => assumption); (case f5 => assumption); (case z => assumption); (case hdp => assumption)
    (case hret => exact fun h => absurd h hall)
    intro _ e' g' h' tk' FG' R' U'
    k_unfold
    refine leave_onSN B₁ FG' R' U' ?_
    intro h'' R'' RN'' U''
    exact hexc hall _ _ _ _ FG₁ (Mine.RaisedSN.sub R'' (fun q hq => by repeat (first | exact hq | refine List.Mem.tail _ ?_))) U''
theorem txt_use {w : World} {loose : List Str} {mean : ExcName → Option Value} {mg mb : Str → Option Value} {dp un : Nat} {gd : Option (List Code)} {cn : Str} {cs : Scope} {a : Addr} {ccd : Value} {cl : List (Str × Addr)} {outer : List Env} {A₀ : Around} {base h₀ : Heap} {L : Addr} {m : Str → Option Value} {s : Shared} {Q E : Value → Shared → Prop} {news : List (Addr × Obj)} {x d : Addr} {sl : Array (Option Value)} {n : Nat} {h0 h1 h2 h3 h4 h5 : Int} {k0 k1 k2 k3 k4 k5 : Tok} {v1 v2 v3 v4 v5 : Value} {nm : Str} {tk0 : Tok} {kind : Str} {sh : Addr} {opc thi sev : Int} {ys : List Str} {d1 d2 d3 d4 d5 : PyData} {lo hi st : Int}
    (B : Below A₀ base outer h₀)
    (F : Fr h₀ L s.heap m)
    (X : (hd.heap_1 w.params).In h₀)
    (N : News h₀ L s.heap news)
    (T : Top hd.view_1 loose mean mg mb h₀)
    (hk : cs.kind = .function)
    (hdp : dp + 2 < recursionLimit)
    (hun : un + 16 < cLine)
    (hx : (x, (⟨.ref 95, some d, .plain, sl⟩ : Obj)) ∈ news)
    (hdd : (d, dictOf [⟨h0, .str (Str.ofString "name") k0, .str nm tk0⟩, ⟨h1, .str (Str.ofString "rd") k1, v1⟩, ⟨h2, .str (Str.ofString "rs1") k2, v2⟩, ⟨h3, .str (Str.ofString "rs2") k3, v3⟩, ⟨h4, .str (Str.ofString "imm") k4, v4⟩, ⟨h5, .str (Str.ofString "csr") k5, v5⟩] n) ∈ news)
    (sf : ShapeF w h₀ nm kind sh opc thi sev)
    (kf : KindF w h₀ kind ys lo hi st)
    (f1 : Field v1 d1)
    (f2 : Field v2 d2)
    (f3 : Field v3 d3)
    (f4 : Field v4 d4)
    (f5 : Field v5 d5)
    (z : h₀.get? 0 = some (o0 w.params))
    (hdp4 : dp = 303 ∨ dp = 304)
    (hfe : (kind == Str.ofString "fence") = false ∨ ¬ ∀ p ∈ sp5 d1 d2 d3 d4 d5, okV ys lo hi st p.1 p.2)
    (hnl : nm.length ≤ 16)
    (hret : ∀ y1 y2 y3 y4 y5, d1 = .int y1 → d2 = .int y2 → d3 = .int y3 → d4 = .int y4 → d5 = .int y5 → (∀ p ∈ sp5 d1 d2 d3 d4 d5, okV ys lo hi st p.1 p.2) → ∀ t h' tk', Fr h₀ L h' m → News h₀ L h' news → Q (.str (txtS w kind nm opc y1 y2 y3 y4 y5) t) { s with heap := h', toks := tk' })
    (hexc : (¬ ∀ p ∈ sp5 d1 d2 d3 d4 d5, okV ys lo hi st p.1 p.2) → ∀ e g h' tk', Fr h₀ L g m → RaisedSN base g (envX cn cs L a ccd cl :: outer) e (.ref 45) news h' → g.UpToSlots h' → E (.ref e) { s with heap := h', toks := tk' }) :
    wpAny (model PySem.Challenge.rw_pq0900_01.row.prog w) (ktrTop dp un gd cn cs L a ccd cl outer) (call (.ref 1100) [.ref x]) Q E s :=
  txt_c _ _ _ _ _ _ _ _ _ _ _ _ _ _ _ _ _ _ _ _ _ _ _ _ _ _ _ _ _ _ _ _ _ _ _ _ _ _ _ _ _ _ _ _ _ _ _ _ _ _ _ _ _ _ _ B F X N T hk hdp hun hx hdd sf kf f1 f2 f3 f4 f5 z hdp4 hfe hnl hret hexc
end
end Mine
-- part RFD
namespace Mine
theorem resetRFD : True := by
  w_top off
  k_with_none
  k_with "omega" => lia
  exact True.intro
open PySem PySem.W PyProof.Rows PySem.Calls PySem.Spec
noncomputable section
set_option maxHeartbeats 0 in
theorem rfdE_c : ∀ {w : World} {loose : List Str} {mean : ExcName → Option Value} {mg mb : Str → Option Value} (dp un : Nat) (gd : Option (List Code)) (cn : Str) (cs : Scope) (a : Addr) (ccd : Value) (outer : List Env) (A₀ : Around) (base h₀ : Heap) (L : Addr) (m : Str → Option Value) (s : Shared) (Q E : Value → Shared → Prop) (news : List (Addr × Obj)) (x d : Addr) (sl : Array (Option Value)) (n : Nat) (h0 h1 h2 h3 h4 h5 : Int) (k0 k1 k2 k3 k4 k5 : Tok) (v1 v2 v3 v4 v5 : Value) (nm : Str) (tk0 : Tok) (kind : Str) (sh : Addr) (opc thi sev : Int) (ys : List Str) (d1 d2 d3 d4 d5 : PyData) (lo hi st : Int),
    (Below A₀ base outer h₀) →
    (Fr h₀ L s.heap m) →
    ((hd.heap_1 w.params).In h₀) →
    (News h₀ L s.heap news) →
    (Top hd.view_1 loose mean mg mb h₀) →
    (cs.kind = .function) →
    (dp + 3 < recursionLimit) →
    (un + 24 < cLine) →
    ((x, (⟨.ref 95, some d, .plain, sl⟩ : Obj)) ∈ news) →
    ((d, dictOf [⟨h0, .str (Str.ofString "name") k0, .str nm tk0⟩, ⟨h1, .str (Str.ofString "rd") k1, v1⟩, ⟨h2, .str (Str.ofString "rs1") k2, v2⟩, ⟨h3, .str (Str.ofString "rs2") k3, v3⟩, ⟨h4, .str (Str.ofString "imm") k4, v4⟩, ⟨h5, .str (Str.ofString "csr") k5, v5⟩] n) ∈ news) →
    (ShapeF w h₀ nm kind sh opc thi sev) →
    (KindF w h₀ kind ys lo hi st) →
    (Field v1 d1) →
    (Field v2 d2) →
    (Field v3 d3) →
    (Field v4 d4) →
    (Field v5 d5) →
    (h₀.get? 0 = some (o0 w.params)) →
    (dp = 302 ∨ dp = 303) →
    ((hd.heap_1 w.params).In base) →
    (Top hd.view_1 loose mean mg mb base) →
    (KtsDicts (outer.filterMap (·.frame)) h₀) →
    (¬ ∀ p ∈ sp5 d1 d2 d3 d4 d5, okV ys lo hi st p.1 p.2) →
    (nm.length ≤ 16) →
    (∀ h₀' h' tk', KtsTurn (outer.filterMap (·.frame)) h₀ h₀' → Fr h₀' L h' m → News h₀' L h' news → Below A₀ base outer h₀' → (hd.heap_1 w.params).In h₀' → Top hd.view_1 loose mean mg mb h₀' → KtsDicts (outer.filterMap (·.frame)) h₀' → Q (.bool true) { s with heap := h', toks := tk' }) →
    wpAny (model PySem.Challenge.rw_pq0900_01.row.prog w) (ktrTop dp un gd cn cs L a ccd [] outer) (call (.ref 1140) [.ref 1046, .ref x]) Q E s := by
  k_with_none
  k_with "omega" => (lia)
  k_fill
  intro w loose mean mg mb dp un gd cn cs a ccd outer A₀ base h₀ L m s Q E news x d sl n h0 h1 h2 h3 h4 h5 k0 k1 k2 k3 k4 k5 v1 v2 v3 v4 v5 nm tk0 kind sh opc thi sev ys d1 d2 d3 d4 d5 lo hi st B F X N T hk hdp hun hx hdd sf kf f1 f2 f3 f4 f5 z hdp4 XB TB D hbad hnl hret
  refine wpAny_call ?_
  k_dflt (refine' code_defS ?k1 ?k2 ?k3 ?k4 ?k5 ?x1 ?x2 ?x3 ?x4 ?kA ?k6 ?k7 ?k8 ?k9 ?kB ?_ ?kK ?c2 ?c3 ?c4 ?c5; (case kA => exact rfl); (case kK => assumption); (case k1 => k_asm); (case k2 => k_asm); (case k3 => k_asm); (case k4 => k_asm); (case k5 => k_asm); (case x1 => assumption); (case x2 => assumption); (case x3 => assumption); (case x4 => exact KtsTurn.refl); (case k6 => k_is); (case k7 => k_is); (case k8 => ktr_room); (case k9 => exact BindsTo.of_eq rfl); (case c5 => decide); (case kB => exact locs rfl); (case c2 => exact rfl); (case c3 => exact rfl); (case c4 => exact rfl); k_whole)
  intro g₁ L₁ h₁ FG₁ F₁ N₁ B₁ X₁ T₁ D₁
  (try dsimp only)
  (try k_fold)
  have z₁ := FG₁.keep _ _ z
  have kf₁ := kf.up FG₁.keep
  have sf₁ := sf.up FG₁.keep
  have hdpc : dp + 1 = 303 ∨ dp + 1 = 304 := hdp4.imp (congrArg Nat.succ) (congrArg Nat.succ)
  have hrf : ScopeKind.function = ScopeKind.function := rfl
  k_steps
  refine enc_use (by assumption) (by assumption) (by assumption) (by assumption) (by assumption) (by exact rfl) (by ktr_room) (by ktr_units) (by assumption) (by assumption) (by assumption) (by assumption) f1 f2 f3 f4 f5 (by assumption) (by assumption) (fun y1 y2 y3 y4 y5 _ _ _ _ _ hall => absurd hall hbad) ?_
  intro _ e' g' h' tk' FG' R' U'
  (try dsimp only)
  refine caught_bad R' FG' B₁ U' XB TB D₁ KtsTurn.refl ?_
  intro h'' g'' T' F' N' B' X' P' D'
  k_steps
  exact hret _ _ _ (by assumption) (by assumption) (by assumption) (by assumption) (by assumption) (by assumption) (by assumption)
theorem rfdE_use {w : World} {loose : List Str} {mean : ExcName → Option Value} {mg mb : Str → Option Value} {dp un : Nat} {gd : Option (List Code)} {cn : Str} {cs : Scope} {a : Addr} {ccd : Value} {outer : List Env} {A₀ : Around} {base h₀ : Heap} {L : Addr} {m : Str → Option Value} {s : Shared} {Q E : Value → Shared → Prop} {news : List (Addr × Obj)} {x d : Addr} {sl : Array (Option Value)} {n : Nat} {h0 h1 h2 h3 h4 h5 : Int} {k0 k1 k2 k3 k4 k5 : Tok} {v1 v2 v3 v4 v5 : Value} {nm : Str} {tk0 : Tok} {kind : Str} {sh : Addr} {opc thi sev : Int} {ys : List Str} {d1 d2 d3 d4 d5 : PyData} {lo hi st : Int}
    (B : Below A₀ base outer h₀)
    (F : Fr h₀ L s.heap m)
    (X : (hd.heap_1 w.params).In h₀)
    (N : News h₀ L s.heap news)
    (T : Top hd.view_1 loose mean mg mb h₀)
    (hk : cs.kind = .function)
    (hdp : dp + 3 < recursionLimit)
    (hun : un + 24 < cLine)
    (hx : (x, (⟨.ref 95, some d, .plain, sl⟩ : Obj)) ∈ news)
    (hdd : (d, dictOf [⟨h0, .str (Str.ofString "name") k0, .str nm tk0⟩, ⟨h1, .str (Str.ofString "rd") k1, v1⟩, ⟨h2, .str (Str.ofString "rs1") k2, v2⟩, ⟨h3, .str (Str.ofString "rs2") k3, v3⟩, ⟨h4, .str (Str.ofString "imm") k4, v4⟩, ⟨h5, .str (Str.ofString "csr") k5, v5⟩] n) ∈ news)
    (sf : ShapeF w h₀ nm kind sh opc thi sev)
    (kf : KindF w h₀ kind ys lo hi st)
    (f1 : Field v1 d1)
    (f2 : Field v2 d2)
    (f3 : Field v3 d3)
    (f4 : Field v4 d4)
    (f5 : Field v5 d5)
    (z : h₀.get? 0 = some (o0 w.params))
    (hdp4 : dp = 302 ∨ dp = 303)
    (XB : (hd.heap_1 w.params).In base)
    (TB : Top hd.view_1 loose mean mg mb base)
    (D : KtsDicts (outer.filterMap (·.frame)) h₀)
    (hbad : ¬ ∀ p ∈ sp5 d1 d2 d3 d4 d5, okV ys lo hi st p.1 p.2)
    (hnl : nm.length ≤ 16)
    (hret : ∀ h₀' h' tk', KtsTurn (outer.filterMap (·.frame)) h₀ h₀' → Fr h₀' L h' m → News h₀' L h' news → Below A₀ base outer h₀' → (hd.heap_1 w.params).In h₀' → Top hd.view_1 loose mean mg mb h₀' → KtsDicts (outer.filterMap (·.frame)) h₀' → Q (.bool true) { s with heap := h', toks := tk' }) :
    wpAny (model PySem.Challenge.rw_pq0900_01.row.prog w) (ktrTop dp un gd cn cs L a ccd [] outer) (call (.ref 1140) [.ref 1046, .ref x]) Q E s :=
  rfdE_c _ _ _ _ _ _ _ _ _ _ _ _ _ _ _ _ _ _ _ _ _ _ _ _ _ _ _ _ _ _ _ _ _ _ _ _ _ _ _ _ _ _ _ _ _ _ _ _ _ _ _ _ _ _ B F X N T hk hdp hun hx hdd sf kf f1 f2 f3 f4 f5 z hdp4 XB TB D hbad hnl hret
set_option maxHeartbeats 0 in
theorem rfdT_c : ∀ {w : World} {loose : List Str} {mean : ExcName → Option Value} {mg mb : Str → Option Value} (dp un : Nat) (gd : Option (List Code)) (cn : Str) (cs : Scope) (a : Addr) (ccd : Value) (outer : List Env) (A₀ : Around) (base h₀ : Heap) (L : Addr) (m : Str → Option Value) (s : Shared) (Q E : Value → Shared → Prop) (news : List (Addr × Obj)) (x d : Addr) (sl : Array (Option Value)) (n : Nat) (h0 h1 h2 h3 h4 h5 : Int) (k0 k1 k2 k3 k4 k5 : Tok) (v1 v2 v3 v4 v5 : Value) (nm : Str) (tk0 : Tok) (kind : Str) (sh : Addr) (opc thi sev : Int) (ys : List Str) (d1 d2 d3 d4 d5 : PyData) (lo hi st : Int),
    (Below A₀ base outer h₀) →
    (Fr h₀ L s.heap m) →
    ((hd.heap_1 w.params).In h₀) →
    (News h₀ L s.heap news) →
    (Top hd.view_1 loose mean mg mb h₀) →
    (cs.kind = .function) →
    (dp + 3 < recursionLimit) →
    (un + 24 < cLine) →
    ((x, (⟨.ref 95, some d, .plain, sl⟩ : Obj)) ∈ news) →
    ((d, dictOf [⟨h0, .str (Str.ofString "name") k0, .str nm tk0⟩, ⟨h1, .str (Str.ofString "rd") k1, v1⟩, ⟨h2, .str (Str.ofString "rs1") k2, v2⟩, ⟨h3, .str (Str.ofString "rs2") k3, v3⟩, ⟨h4, .str (Str.ofString "imm") k4, v4⟩, ⟨h5, .str (Str.ofString "csr") k5, v5⟩] n) ∈ news) →
    (ShapeF w h₀ nm kind sh opc thi sev) →
    (KindF w h₀ kind ys lo hi st) →
    (Field v1 d1) →
    (Field v2 d2) →
    (Field v3 d3) →
    (Field v4 d4) →
    (Field v5 d5) →
    (h₀.get? 0 = some (o0 w.params)) →
    (dp = 302 ∨ dp = 303) →
    ((hd.heap_1 w.params).In base) →
    (Top hd.view_1 loose mean mg mb base) →
    (KtsDicts (outer.filterMap (·.frame)) h₀) →
    (¬ ∀ p ∈ sp5 d1 d2 d3 d4 d5, okV ys lo hi st p.1 p.2) →
    (nm.length ≤ 16) →
    (∀ h₀' h' tk', KtsTurn (outer.filterMap (·.frame)) h₀ h₀' → Fr h₀' L h' m → News h₀' L h' news → Below A₀ base outer h₀' → (hd.heap_1 w.params).In h₀' → Top hd.view_1 loose mean mg mb h₀' → KtsDicts (outer.filterMap (·.frame)) h₀' → Q (.bool true) { s with heap := h', toks := tk' }) →
    wpAny (model PySem.Challenge.rw_pq0900_01.row.prog w) (ktrTop dp un gd cn cs L a ccd [] outer) (call (.ref 1140) [.ref 1100, .ref x]) Q E s := by
  k_fill
  intro w loose mean mg mb dp un gd cn cs a ccd outer A₀ base h₀ L m s Q E news x d sl n h0 h1 h2 h3 h4 h5 k0 k1 k2 k3 k4 k5 v1 v2 v3 v4 v5 nm tk0 kind sh opc thi sev ys d1 d2 d3 d4 d5 lo hi st B F X N T hk hdp hun hx hdd sf kf f1 f2 f3 f4 f5 z hdp4 XB TB D hbad hnl hret
  refine wpAny_call ?_
  k_dflt (refine' code_defS ?k1 ?k2 ?k3 ?k4 ?k5 ?x1 ?x2 ?x3 ?x4 ?kA ?k6 ?k7 ?k8 ?k9 ?kB ?_ ?kK ?c2 ?c3 ?c4 ?c5; (case kA => exact rfl); (case kK => assumption); (case k1 => k_asm); (case k2 => k_asm); (case k3 => k_asm); (case k4 => k_asm); (case k5 => k_asm); (case x1 => assumption); (case x2 => assumption); (case x3 => assumption); (case x4 => exact KtsTurn.refl); (case k6 => k_is); (case k7 => k_is); (case k8 => ktr_room); (case k9 => exact BindsTo.of_eq rfl); (case c5 => decide); (case kB => exact locs rfl); (case c2 => exact rfl); (case c3 => exact rfl); (case c4 => exact rfl); k_whole)
  intro g₁ L₁ h₁ FG₁ F₁ N₁ B₁ X₁ T₁ D₁
  (try dsimp only)
  (try k_fold)
  have z₁ := FG₁.keep _ _ z
  have kf₁ := kf.up FG₁.keep
  have sf₁ := sf.up FG₁.keep
  have hdpc : dp + 1 = 303 ∨ dp + 1 = 304 := hdp4.imp (congrArg Nat.succ) (congrArg Nat.succ)
  have hrf : ScopeKind.function = ScopeKind.function := rfl
  k_steps
  refine txt_use (by assumption) (by assumption) (by assumption) (by assumption) (by assumption) (by exact rfl) (by ktr_room) (by ktr_units) (by assumption) (by assumption) (by assumption) (by assumption) f1 f2 f3 f4 f5 (by assumption) (by assumption) (.inr hbad) hnl (fun y1 y2 y3 y4 y5 _ _ _ _ _ hall => absurd hall hbad) ?_
  intro _ e' g' h' tk' FG' R' U'
  (try dsimp only)
  refine caught_bad R' FG' B₁ U' XB TB D₁ KtsTurn.refl ?_
  intro h'' g'' T' F' N' B' X' P' D'
  k_steps
  exact hret _ _ _ (by assumption) (by assumption) (by assumption) (by assumption) (by assumption) (by assumption) (by assumption)
theorem rfdT_use {w : World} {loose : List Str} {mean : ExcName → Option Value} {mg mb : Str → Option Value} {dp un : Nat} {gd : Option (List Code)} {cn : Str} {cs : Scope} {a : Addr} {ccd : Value} {outer : List Env} {A₀ : Around} {base h₀ : Heap} {L : Addr} {m : Str → Option Value} {s : Shared} {Q E : Value → Shared → Prop} {news : List (Addr × Obj)} {x d : Addr} {sl : Array (Option Value)} {n : Nat} {h0 h1 h2 h3 h4 h5 : Int} {k0 k1 k2 k3 k4 k5 : Tok} {v1 v2 v3 v4 v5 : Value} {nm : Str} {tk0 : Tok} {kind : Str} {sh : Addr} {opc thi sev : Int} {ys : List Str} {d1 d2 d3 d4 d5 : PyData} {lo hi st : Int}
    (B : Below A₀ base outer h₀)
    (F : Fr h₀ L s.heap m)
    (X : (hd.heap_1 w.params).In h₀)
    (N : News h₀ L s.heap news)
    (T : Top hd.view_1 loose mean mg mb h₀)
    (hk : cs.kind = .function)
    (hdp : dp + 3 < recursionLimit)
    (hun : un + 24 < cLine)
    (hx : (x, (⟨.ref 95, some d, .plain, sl⟩ : Obj)) ∈ news)
    (hdd : (d, dictOf [⟨h0, .str (Str.ofString "name") k0, .str nm tk0⟩, ⟨h1, .str (Str.ofString "rd") k1, v1⟩, ⟨h2, .str (Str.ofString "rs1") k2, v2⟩, ⟨h3, .str (Str.ofString "rs2") k3, v3⟩, ⟨h4, .str (Str.ofString "imm") k4, v4⟩, ⟨h5, .str (Str.ofString "csr") k5, v5⟩] n) ∈ news)
    (sf : ShapeF w h₀ nm kind sh opc thi sev)
    (kf : KindF w h₀ kind ys lo hi st)
    (f1 : Field v1 d1)
    (f2 : Field v2 d2)
    (f3 : Field v3 d3)
    (f4 : Field v4 d4)
    (f5 : Field v5 d5)
    (z : h₀.get? 0 = some (o0 w.params))
    (hdp4 : dp = 302 ∨ dp = 303)
    (XB : (hd.heap_1 w.params).In base)
    (TB : Top hd.view_1 loose mean mg mb base)
    (D : KtsDicts (outer.filterMap (·.frame)) h₀)
    (hbad : ¬ ∀ p ∈ sp5 d1 d2 d3 d4 d5, okV ys lo hi st p.1 p.2)
    (hnl : nm.length ≤ 16)
    (hret : ∀ h₀' h' tk', KtsTurn (outer.filterMap (·.frame)) h₀ h₀' → Fr h₀' L h' m → News h₀' L h' news → Below A₀ base outer h₀' → (hd.heap_1 w.params).In h₀' → Top hd.view_1 loose mean mg mb h₀' → KtsDicts (outer.filterMap (·.frame)) h₀' → Q (.bool true) { s with heap := h', toks := tk' }) :
    wpAny (model PySem.Challenge.rw_pq0900_01.row.prog w) (ktrTop dp un gd cn cs L a ccd [] outer) (call (.ref 1140) [.ref 1100, .ref x]) Q E s :=
  rfdT_c _ _ _ _ _ _ _ _ _ _ _ _ _ _ _ _ _ _ _ _ _ _ _ _ _ _ _ _ _ _ _ _ _ _ _ _ _ _ _ _ _ _ _ _ _ _ _ _ _ _ _ _ _ _ B F X N T hk hdp hun hx hdd sf kf f1 f2 f3 f4 f5 z hdp4 XB TB D hbad hnl hret
end
end Mine
-- part TAKE
namespace Mine
theorem resetTAKE : True := by
  w_top off
  k_with_none
  k_with "omega" => lia
  exact True.intro
open PySem PySem.W PyProof.Rows PySem.Calls PySem.Spec
noncomputable section
/-- the tape: a list of the script's cells and the place -/
noncomputable abbrev tapeO (l : Addr) (n : Nat) (i : Int) (t : Tok) : Obj := W.listOf #[Value.ref l, Value.int i t] n
structure TapeOk (l tp : Addr) (vs : List Value) (n : Nat) (nw : Obj → List (Addr × Obj)) : Prop where
  upd : ∀ o o', Upd tp o o' (nw o) (nw o')
  tape : ∀ o, (tp, o) ∈ nw o
  cells : ∀ o, (l, W.listOf vs.toArray n) ∈ nw o
section
variable {prog : Program} {w : World} {A : Around} {E : Value → Shared → Prop} {s : Shared} {h₀ : Heap} {L D : Addr} {m : Str → Option Value} {news news' : List (Addr × Obj)} {vs : List Value} {n : Nat} {k : Int} {v : Value} {t : Tok}
theorem my_set {Q : Unit → Shared → Prop} (F : Fr h₀ L s.heap m) (N : News h₀ L s.heap news) (U : Upd D (W.listOf vs.toArray n) (W.listOf (vs.set k.toNat v).toArray n) news news') (h0 : 0 ≤ k) (h1 : k < vs.length) (hfit : k < 2 ^ 63)
    (h : ∀ h', Fr h₀ L h' m → News h₀ L h' news' → Q () { s with heap := h' }) :
    wpAny (model prog w) A (setItem (.ref D) (.int k t) v) Q E s := by
  obtain ⟨pre, post, rfl, rfl, a, b⟩ := U.split
  have z := N (D, W.listOf vs.toArray n) (List.mem_append.mpr (.inr (.head _)))
  have hs : vs.toArray.size = vs.length := by simp
  have hj : k.toNat < vs.length := by omega
  refine ki_setAt z.1 h0 hfit (by omega) (h _ (F.change (Heap.SameBut.update ..) z.2.1 z.2.2) (ki_turn _ N a b ?_ ?_))
  · show vs.toArray.setIfInBounds k.toNat v = (vs.set k.toNat v).toArray
    apply Array.toList_inj.mp
    simp
  · simp
end
theorem cells_len {prog : Program} {w : World} {A : Around} {E : Value → Shared → Prop} {s : Shared} {h₀ : Heap} {L D : Addr} {news : List (Addr × Obj)} {vs : List Value} {ns : List Int} {n : Nat} {Q : Value → Shared → Prop} (N : News h₀ L s.heap news) (hm : (D, W.listOf vs.toArray n) ∈ news) (hi : IntsAre vs ns) (hl : ns.length < 64) (h : Q (.int ns.length (s.toks + 1)) { s with toks := s.toks + 1 + 1 }) :
    wpAny (model prog w) A (call (.builtin "len") [.ref D]) Q E s := by
  have e : (List.toArray vs).size = ns.length := by rw [List.size_toArray]; exact hi.length
  exact call_len_list (PySem.IsL.isList (n := n) (N _ hm).1) (by rw [e]; omega) (by rw [e]; exact h)
theorem tape_item {prog : Program} {w : World} {A : Around} {E : Value → Shared → Prop} {s : Shared} {h₀ : Heap} {L D : Addr} {news : List (Addr × Obj)} {vs : List Value} {n : Nat} {value slice : PySem.Expr} {k : Int} {u : Tok} {v : Value} {Q : Value → Shared → Prop} (N : News h₀ L s.heap news) (hm : (D, W.listOf vs.toArray n) ∈ news) (h0 : 0 ≤ k) (hhi : k < 2 ^ 63) (hx : vs[k.toNat]? = some v) (h : Q v s)
    (hs : subscripted slice false (.ref D) (.int k u) = operate [.ref D, .int k u] (getItem (.ref D) (.int k u)) := by with_unfolding_all rfl) :
    wpAny (model prog w) A (subscriptTail value slice (.ref D) (.int k u)) Q E s :=
  tail_any (PySem.IsL.isList (n := n) (N _ hm).1).typeIs slot_list_getitem.lookup (wpAny_getItem_list (PySem.IsL.isList (n := n) (N _ hm).1) h0 hhi (by simpa using hx) h) hs
theorem TapeOk.set {l tp : Addr} {vs : List Value} {n n' : Nat} {nw : Obj → List (Addr × Obj)} (hT : TapeOk l tp vs n nw) {i : Int} {t : Tok} {v : Value} : Upd tp (W.listOf [Value.ref l, Value.int i t].toArray n') (W.listOf ([Value.ref l, Value.int i t].set (Int.toNat 1) v).toArray n') (nw (tapeO l n' i t)) (nw (W.listOf #[Value.ref l, v] n')) := hT.upd _ _
set_option maxHeartbeats 0 in
theorem take_c : ∀ {w : World} {loose : List Str} {mean : ExcName → Option Value} {mg mb : Str → Option Value} (dp un : Nat) (gd : Option (List Code)) (cn : Str) (cs : Scope) (a : Addr) (ccd : Value) (cl : List (Str × Addr)) (outer : List Env) (A₀ : Around) (base h₀ : Heap) (L : Addr) (m : Str → Option Value) (s : Shared) (Q E : Value → Shared → Prop) (news : List (Addr × Obj)) (l tp : Addr) (vs : List Value) (ns : List Int) (n n' : Nat) (nw : Obj → List (Addr × Obj)) (at' many : Int) (tk tk2 : Tok),
    (Below A₀ base outer h₀) →
    (Fr h₀ L s.heap m) →
    ((hd.heap_1 w.params).In h₀) →
    (News h₀ L s.heap news) →
    (Top hd.view_1 loose mean mg mb h₀) →
    (cs.kind = .function) →
    (dp + 1 < recursionLimit) →
    (un + 8 < cLine) →
    (news = nw (tapeO l n' at' tk)) →
    (TapeOk l tp vs n nw) →
    (IntsAre vs ns) →
    (ns.length < 64) →
    (0 ≤ at') →
    (at' < 10000) →
    (0 < many) →
    (many < 1073741824) →
    (∀ r t h' tk' t2, 0 ≤ r → r < many → Fr h₀ L h' m → News h₀ L h' (nw (tapeO l n' (at' + 1) t2)) → Q (.int r t) { s with heap := h', toks := tk' }) →
    wpAny (model PySem.Challenge.rw_pq0900_01.row.prog w) (ktrTop dp un gd cn cs L a ccd cl outer) (call (.ref 1107) [.ref tp, .int many tk2]) Q E s := by
  k_with_none
  k_with "omega" => (lia)
  k_with "k_mem" => (first | assumption | exact TapeOk.tape (by assumption) _ | exact TapeOk.cells (by assumption) _ | (refine List.Mem.tail _ ?_; k_mem))
  k_with "m:execs cons" => (k_here; (try dsimp only); k_gentoks)
  k_with "m:eval Call" => (k_here; (try dsimp only); k_gentoks)
  k_with "m:eval Compare" => (k_here; (try dsimp only); k_gentoks)
  k_with "m:eval Tuple" => (k_here; (try dsimp only); k_gentoks)
  k_with "m:eval Name" => (k_here; (try dsimp only); k_gentoks)
  k_with "m:eval BinOp" => (k_here; (try dsimp only); k_gentoks)
  k_with "m:eval Attribute Name" => (k_here; (try dsimp only); k_gentoks)
  k_with "m:eval FormattedValue" => (k_here; (try dsimp only); k_gentoks)
  k_with "m:joinParts" => (k_here; (try dsimp only); k_gentoks)
  k_with "m:isTrue BoolOp" => (k_here; (try dsimp only); k_gentoks)
  k_with "m:call ref" => (k_here; (first | (with_reducible show wpAny _ _ (call (Value.ref 1018) _) _ _ _) | (with_reducible show wpAny _ _ (call (Value.ref 121) _) _ _ _) | (with_reducible show wpAny _ _ (call (Value.ref 1032) _) _ _ _) | (with_reducible show wpAny _ _ (call (Value.ref 1039) _) _ _ _)); refine wpAny_call ?_; k_dflt cell_enter)
  k_with "m:setItem ref int int" => (k_here; (with_reducible show wpAny _ _ (setItem (Value.ref _) (Value.int _ _) _) _ _ _); k_dflt (refine' my_set (vs := [_, _]) ?k1 ?k2 ?k3 ?k4 ?k5 ?k6 ?_; (case k1 => k_asm); (case k2 => k_asm); (case k3 => exact TapeOk.set (by assumption)); (case k4 => decide); (case k5 => (show (1 : Int) < 2; decide)); (case k6 => decide); k_whole); intro h' F' N'; (try dsimp only at N'); (try k_sweep))
  k_with "m:subscriptTail" => (k_here; (with_reducible show wpAny _ _ (subscriptTail _ _ (Value.ref _) (Value.int _ _)) _ _ _); (with_unfolding_all refine' tape_item (vs := [_, _]) ?k1 ?k2 ?k3 ?k4 ?k5 ?_ ?k6; (case k1 => k_asm); (case k2 => exact TapeOk.tape (by assumption) _); (case k3 => decide); (case k4 => decide); (case k5 => rfl); (case k6 => with_unfolding_all rfl); k_whole))
  k_with "m:subscriptTail" => (k_here; (with_reducible show wpAny _ _ (subscriptTail _ _ (Value.ref _) (Value.int _ _)) _ _ _); (with_unfolding_all refine' ksa_sub ?k1 ?k2 ?k3 ?k4 ?k5 ?k6 ?_ ?k7; (case k1 => k_asm); (case k2 => exact TapeOk.cells (by assumption) _); (case k3 => assumption); (case k4 => omega); (case k5 => omega); (case k6 => omega); (case k7 => with_unfolding_all rfl); k_whole); intro _)
  k_with "m:call builtin:len" => (k_here; (with_reducible show wpAny _ _ (call (Value.builtin "len") [Value.ref _]) _ _ _); k_dflt (refine' cells_len ?k1 ?k2 ?k3 ?k4 ?_; (case k1 => k_asm); (case k2 => exact TapeOk.cells (by assumption) _); (case k3 => assumption); (case k4 => assumption); k_whole))
  k_fill
  intro w loose mean mg mb dp un gd cn cs a ccd cl outer A₀ base h₀ L m s Q E news l tp vs ns n n' nw at' many tk tk2 B F X N T hk hdp hun hnw hT hi hl h0 h1 hm0 hm1 hret
  subst hnw
  refine wpAny_call ?_
  k_dflt cell_enter
  rename_i g₁ L₁ h₁ FG₁ F₁ N₁ B₁ X₁ T₁
  k_steps
  all_goals exact hret _ _ _ _ _ (Int.fmod_nonneg_of_pos _ hm0) (Int.fmod_lt_of_pos _ hm0) ‹Fr h₀ L _ m› ‹News h₀ L _ (nw _)›
theorem take_use {w : World} {loose : List Str} {mean : ExcName → Option Value} {mg mb : Str → Option Value} {dp un : Nat} {gd : Option (List Code)} {cn : Str} {cs : Scope} {a : Addr} {ccd : Value} {cl : List (Str × Addr)} {outer : List Env} {A₀ : Around} {base h₀ : Heap} {L : Addr} {m : Str → Option Value} {s : Shared} {Q E : Value → Shared → Prop} {news : List (Addr × Obj)} {l tp : Addr} {vs : List Value} {ns : List Int} {n n' : Nat} {nw : Obj → List (Addr × Obj)} {at' many : Int} {tk tk2 : Tok}
    (B : Below A₀ base outer h₀)
    (F : Fr h₀ L s.heap m)
    (X : (hd.heap_1 w.params).In h₀)
    (N : News h₀ L s.heap news)
    (T : Top hd.view_1 loose mean mg mb h₀)
    (hk : cs.kind = .function)
    (hdp : dp + 1 < recursionLimit)
    (hun : un + 8 < cLine)
    (hnw : news = nw (tapeO l n' at' tk))
    (hT : TapeOk l tp vs n nw)
    (hi : IntsAre vs ns)
    (hl : ns.length < 64)
    (h0 : 0 ≤ at')
    (h1 : at' < 10000)
    (hm0 : 0 < many)
    (hm1 : many < 1073741824)
    (hret : ∀ r t h' tk' t2, 0 ≤ r → r < many → Fr h₀ L h' m → News h₀ L h' (nw (tapeO l n' (at' + 1) t2)) → Q (.int r t) { s with heap := h', toks := tk' }) :
    wpAny (model PySem.Challenge.rw_pq0900_01.row.prog w) (ktrTop dp un gd cn cs L a ccd cl outer) (call (.ref 1107) [.ref tp, .int many tk2]) Q E s :=
  take_c _ _ _ _ _ _ _ _ _ _ _ _ _ _ _ _ _ _ _ _ _ _ _ _ _ _ _ _ _ B F X N T hk hdp hun hnw hT hi hl h0 h1 hm0 hm1 hret
end
end Mine
-- part NUM
namespace Mine
theorem resetNUM : True := by
  w_top off
  k_with_none
  k_with "omega" => lia
  exact True.intro
open PySem PySem.W PyProof.Rows PySem.Calls PySem.Spec
noncomputable section
theorem way2 {r : Int} (_ : r < 24) : r.fmod 2 = 0 ∨ r.fmod 2 = 1 := by
  rw [Int.fmod_eq_emod_of_nonneg _ (by decide)]
  omega
theorem fm_em {a st : Int} (hst : st = 1 ∨ st = 2) (h : a.fmod st = 0) : a % st = 0 := by
  rcases hst with rfl | rfl
  · rw [← Int.fmod_eq_emod_of_nonneg _ (by decide)]; exact h
  · rw [← Int.fmod_eq_emod_of_nonneg _ (by decide)]; exact h
theorem way4 {r : Int} (h1 : r < 24) (h0 : 20 ≤ r) : r = 20 ∨ r = 21 ∨ r = 22 ∨ r = 23 := by omega
noncomputable def NumRes (low high step : Int) (v : Value) (b : Bool) : Prop := (b = true ∧ ∃ x t, v = .int x t ∧ low ≤ x ∧ x ≤ high ∧ (x - low).fmod step = 0) ∨ (b = false ∧ (v = .bool true ∨ ∃ x t, v = .int x t ∧ ¬ (low ≤ x ∧ x ≤ high ∧ (x - low).fmod step = 0)))
theorem num_fin {low high step at' : Int} {h₀ : Heap} {L l : Addr} {n' : Nat} {m : Str → Option Value} {nw : Obj → List (Addr × Obj)} {s : Shared} {Q : Value → Shared → Prop}
    (hret : ∀ r v b h' tk' at2 t2, at' ≤ at2 → at2 ≤ at' + 2 → NumRes low high step v b → IsTup h' r #[v, .bool b] → Fr h₀ L h' m → News h₀ L h' (nw (tapeO l n' at2 t2)) → Q (.ref r) { s with heap := h', toks := tk' })
    {r : Addr} {v : Value} {b : Bool} {h' : Heap} {tk' : Nat} {at2 : Int} {t2 : Tok} (fr : Fr h₀ L h' m) (nws : News h₀ L h' (nw (tapeO l n' at2 t2))) (tup : IsTup h' r #[v, .bool b]) (res : NumRes low high step v b) (a1 : at' ≤ at2) (a2 : at2 ≤ at' + 2) : Q (.ref r) { s with heap := h', toks := tk' } := hret _ _ _ _ _ _ _ a1 a2 res tup fr nws
theorem res_in {low high step x : Int} {t : Tok} {b : Bool} (hs : 0 ≤ step) (hb : b = true) (h1 : low ≤ x) (h2 : x ≤ high) (h3 : (x - low) % step = 0) : NumRes low high step (.int x t) b := .inl ⟨hb, x, t, rfl, h1, h2, by rw [Int.fmod_eq_emod_of_nonneg _ hs]; exact h3⟩
theorem res_out {low high step x : Int} {t : Tok} {b : Bool} (hs : 0 ≤ step) (hb : b = false) (h : ¬ (low ≤ x ∧ x ≤ high ∧ (x - low) % step = 0)) : NumRes low high step (.int x t) b := .inr ⟨hb, .inr ⟨x, t, rfl, by rw [Int.fmod_eq_emod_of_nonneg _ hs]; exact h⟩⟩
theorem res_bool {low high step : Int} {b : Bool} (hb : b = false) : NumRes low high step (.bool true) b := .inr ⟨hb, .inl rfl⟩
set_option maxHeartbeats 0 in
theorem num_c : ∀ {w : World} {loose : List Str} {mean : ExcName → Option Value} {mg mb : Str → Option Value} (dp un : Nat) (gd : Option (List Code)) (cn : Str) (cs : Scope) (a : Addr) (ccd : Value) (cl : List (Str × Addr)) (outer : List Env) (A₀ : Around) (base h₀ : Heap) (L : Addr) (m : Str → Option Value) (s : Shared) (Q E : Value → Shared → Prop) (news : List (Addr × Obj)) (l tp : Addr) (vs : List Value) (ns : List Int) (n n' : Nat) (nw : Obj → List (Addr × Obj)) (at' low high step : Int) (tk ta tb tc : Tok),
    (Below A₀ base outer h₀) →
    (Fr h₀ L s.heap m) →
    ((hd.heap_1 w.params).In h₀) →
    (News h₀ L s.heap news) →
    (Top hd.view_1 loose mean mg mb h₀) →
    (cs.kind = .function) →
    (dp + 2 < recursionLimit) →
    (un + 16 < cLine) →
    (news = nw (tapeO l n' at' tk)) →
    (TapeOk l tp vs n nw) →
    (IntsAre vs ns) →
    (ns.length < 64) →
    (0 ≤ at') →
    (at' < 9990) →
    (step = 1 ∨ step = 2) →
    (-2097152 < low) →
    (low < high) →
    (high < 2097152) →
    ((high - low).fmod step = 0) →
    (∀ r v b h' tk' at2 t2, at' ≤ at2 → at2 ≤ at' + 2 → NumRes low high step v b → IsTup h' r #[v, .bool b] → Fr h₀ L h' m → News h₀ L h' (nw (tapeO l n' at2 t2)) → Q (.ref r) { s with heap := h', toks := tk' }) →
    wpAny (model PySem.Challenge.rw_pq0900_01.row.prog w) (ktrTop dp un gd cn cs L a ccd cl outer) (call (.ref 1121) [.ref tp, .int low ta, .int high tb, .int step tc]) Q E s := by
  k_with_none
  k_with "omega" => (lia)
  k_with "m:execs cons" => (k_here; (try dsimp only); k_gentoks)
  k_with "m:eval Call" => (k_here; (try dsimp only); k_gentoks)
  k_with "m:eval Compare" => (k_here; (try dsimp only); k_gentoks)
  k_with "m:eval Tuple" => (k_here; (try dsimp only); k_gentoks)
  k_with "m:eval Name" => (k_here; (try dsimp only); k_gentoks)
  k_with "m:eval BinOp" => (k_here; (try dsimp only); k_gentoks)
  k_with "m:eval Attribute Name" => (k_here; (try dsimp only); k_gentoks)
  k_with "m:eval FormattedValue" => (k_here; (try dsimp only); k_gentoks)
  k_with "m:joinParts" => (k_here; (try dsimp only); k_gentoks)
  k_with "m:isTrue BoolOp" => (k_here; (try dsimp only); k_gentoks)
  k_with "m:call ref" => (k_here; (first | (with_reducible show wpAny _ _ (call (Value.ref 1018) _) _ _ _) | (with_reducible show wpAny _ _ (call (Value.ref 121) _) _ _ _) | (with_reducible show wpAny _ _ (call (Value.ref 1032) _) _ _ _) | (with_reducible show wpAny _ _ (call (Value.ref 1039) _) _ _ _)); refine wpAny_call ?_; k_dflt cell_enter)
  k_with "m:call ref" => (k_here; (with_reducible show wpAny _ _ (call (Value.ref 1107) [Value.ref _, Value.int _ _]) _ _ _); (fail_if_success (with_reducible show wpAny _ _ (call (Value.ref 1107) [Value.ref _, Value.int 24 _]) _ _ _)); (refine' take_use ?B ?F ?X ?N ?T ?hk ?hd ?hu ?hnw ?hT ?hi ?hl ?h0 ?h1 ?hm0 ?hm1 ?_; (case B => assumption); (case F => assumption); (case X => assumption); (case N => assumption); (case T => assumption); (case hk => exact rfl); (case hd => ktr_room); (case hu => ktr_units); (case hnw => exact rfl); (case hT => assumption); (case hi => assumption); (case hl => assumption); (case h0 => omega); (case h1 => omega); (case hm0 => first | decide | omega); (case hm1 => first | decide | omega); intro r' t' h' tk' t2' hr0 hr1 F' N'))
  k_with "m:call ref" => (k_here; (with_reducible show wpAny _ _ (call (Value.ref 1107) [Value.ref _, Value.int 24 _]) _ _ _); (refine' take_use ?B ?F ?X ?N ?T ?hk ?hd ?hu ?hnw ?hT ?hi ?hl ?h0 ?h1 ?hm0 ?hm1 ?_; (case B => assumption); (case F => assumption); (case X => assumption); (case N => assumption); (case T => assumption); (case hk => exact rfl); (case hd => ktr_room); (case hu => ktr_units); (case hnw => exact rfl); (case hT => assumption); (case hi => assumption); (case hl => assumption); (case h0 => omega); (case h1 => omega); (case hm0 => first | decide | omega); (case hm1 => first | decide | omega); intro r' t' h' tk' t2' hr0 hr1 F' N'))
  k_with "m:binaryOp FloorDiv int int" => (k_here; (obtain e | e := (by assumption : (_ : Int) = 1 ∨ _ = 2)) <;> (subst e; have e1 := Int.fdiv_eq_ediv_of_nonneg (high - low) (by decide : (0 : Int) ≤ _)))
  k_with "m:subscriptTail" => (k_here; (with_reducible show wpAny _ _ (subscriptTail _ _ (Value.ref _) (Value.int (Int.fmod _ 2) _)) _ _ _); (obtain e | e := way2 (by assumption : @LT.lt Int _ _ 24)) <;> rw [e])
  k_with "m:subscriptTail" => (k_here; (with_reducible show wpAny _ _ (subscriptTail _ _ (Value.ref _) (Value.int (_ - 20) _)) _ _ _); (obtain e | e | e | e := way4 (by assumption : @LT.lt Int _ _ 24) (by omega)) <;> subst e)
  k_fill
  intro w loose mean mg mb dp un gd cn cs a ccd cl outer A₀ base h₀ L m s Q E news l tp vs ns n n' nw at' low high step tk ta tb tc B F X N T hk hdp hun hnw hT hi hl h0 h1 hst hlo hlh hhi hdv hret
  subst hnw
  refine wpAny_call ?_
  k_dflt cell_enter
  rename_i g₁ L₁ h₁ FG₁ F₁ N₁ B₁ X₁ T₁
  have hrf : ScopeKind.function = ScopeKind.function := rfl
  have e0 := fm_em hst hdv
  k_steps
  all_goals refine num_fin hret ‹Fr h₀ L _ m› (by intro p hp; exact ‹News h₀ L _ _› p (by first | exact hp | exact .tail _ hp | exact .tail _ (.tail _ hp) | exact .tail _ (.tail _ (.tail _ hp)))) (News.isTup ‹News h₀ L _ _› (List.Mem.head _)) ?_ (by omega) (by omega)
  all_goals (first | exact res_bool (by decide) | (try (rcases hst with rfl | rfl)))
  all_goals first
    | exact res_bool (by decide)
    | exact res_in (by decide) (by decide) (by omega) (by omega) (by omega)
    | exact res_out (by decide) (by decide) (by omega)
theorem num_use {w : World} {loose : List Str} {mean : ExcName → Option Value} {mg mb : Str → Option Value} {dp un : Nat} {gd : Option (List Code)} {cn : Str} {cs : Scope} {a : Addr} {ccd : Value} {cl : List (Str × Addr)} {outer : List Env} {A₀ : Around} {base h₀ : Heap} {L : Addr} {m : Str → Option Value} {s : Shared} {Q E : Value → Shared → Prop} {news : List (Addr × Obj)} {l tp : Addr} {vs : List Value} {ns : List Int} {n n' : Nat} {nw : Obj → List (Addr × Obj)} {at' low high step : Int} {tk ta tb tc : Tok}
    (B : Below A₀ base outer h₀)
    (F : Fr h₀ L s.heap m)
    (X : (hd.heap_1 w.params).In h₀)
    (N : News h₀ L s.heap news)
    (T : Top hd.view_1 loose mean mg mb h₀)
    (hk : cs.kind = .function)
    (hdp : dp + 2 < recursionLimit)
    (hun : un + 16 < cLine)
    (hnw : news = nw (tapeO l n' at' tk))
    (hT : TapeOk l tp vs n nw)
    (hi : IntsAre vs ns)
    (hl : ns.length < 64)
    (h0 : 0 ≤ at')
    (h1 : at' < 9990)
    (hst : step = 1 ∨ step = 2)
    (hlo : -2097152 < low)
    (hlh : low < high)
    (hhi : high < 2097152)
    (hdv : (high - low).fmod step = 0)
    (hret : ∀ r v b h' tk' at2 t2, at' ≤ at2 → at2 ≤ at' + 2 → NumRes low high step v b → IsTup h' r #[v, .bool b] → Fr h₀ L h' m → News h₀ L h' (nw (tapeO l n' at2 t2)) → Q (.ref r) { s with heap := h', toks := tk' }) :
    wpAny (model PySem.Challenge.rw_pq0900_01.row.prog w) (ktrTop dp un gd cn cs L a ccd cl outer) (call (.ref 1121) [.ref tp, .int low ta, .int high tb, .int step tc]) Q E s :=
  num_c _ _ _ _ _ _ _ _ _ _ _ _ _ _ _ _ _ _ _ _ _ _ _ _ _ _ _ _ _ _ _ _ _ B F X N T hk hdp hun hnw hT hi hl h0 h1 hst hlo hlh hhi hdv hret
end
end Mine
-- part FLD
namespace Mine
theorem resetFLD : True := by
  w_top off
  k_with_none
  exact True.intro

open PySem PySem.W PyProof.Rows PySem.Calls PySem.Spec
noncomputable section
theorem upd_lt {d b : Addr} {o o' : Obj} {l l' : List (Addr × Obj)} (U : Upd d o o' l l') (h : ∀ p ∈ l, p.1 < b) : ∀ p ∈ l', p.1 < b := by
  obtain ⟨pre, post, rfl, rfl, _, _⟩ := U.split
  intro p hp
  rcases List.mem_append.mp hp with hp | hp
  · exact h p (List.mem_append_left _ hp)
  · rcases List.mem_cons.mp hp with rfl | hp
    · exact h (d, o) (List.mem_append_right _ (.head _))
    · exact h p (List.mem_append_right _ (.tail _ hp))
theorem TapeOk.lt {l tp b : Addr} {vs : List Value} {n : Nat} {nw : Obj → List (Addr × Obj)} (hT : TapeOk l tp vs n nw) {o : Obj} (h : ∀ p ∈ nw o, p.1 < b) : ∀ o', ∀ p ∈ nw o', p.1 < b := fun o' => upd_lt (hT.upd o o') h
theorem TapeOk.cons {l tp : Addr} {vs : List Value} {n : Nat} {nw : Obj → List (Addr × Obj)} (hT : TapeOk l tp vs n nw) {x : Addr × Obj} (h : ∀ o, ∀ p ∈ nw o, p.1 < x.1) : TapeOk l tp vs n (fun o => x :: nw o) :=
  ⟨fun o o' => .tail (fun e => Nat.lt_irrefl tp (e ▸ (h o _ (hT.tape o) : tp < x.1))) (hT.upd o o'), fun o => .tail _ (hT.tape o), fun o => .tail _ (hT.cells o)⟩
theorem TapeOk.consN {l tp : Addr} {vs : List Value} {n : Nat} {nw : Obj → List (Addr × Obj)} (hT : TapeOk l tp vs n nw) {x : Addr × Obj} (h : tp < x.1) : TapeOk l tp vs n (fun o => x :: nw o) :=
  ⟨fun o o' => .tail (fun e => Nat.lt_irrefl tp (e ▸ h)) (hT.upd o o'), fun o => .tail _ (hT.tape o), fun o => .tail _ (hT.cells o)⟩
theorem nwlt_ne {nw : Obj → List (Addr × Obj)} {f : Addr} {o : Obj} (h : ∀ o, ∀ p ∈ nw o, p.1 < f) : ∀ p ∈ nw o, p.1 ≠ f := fun p hp => Nat.ne_of_lt (h o p hp)
structure BndOk (nw : Obj → List (Addr × Obj)) (bnd : Addr) (lo hi st : Int) : Prop where
  mem : ∃ t1 t2 t3 n, ∀ o, (bnd, (⟨.type "tuple", none, .seq #[.int lo t1, .int hi t2, .int st t3] n, #[]⟩ : Obj)) ∈ nw o
noncomputable def usedT (fe hb : Bool) (wr : Str) : Str := cond fe (Str.ofString "rd rs1 imm") (wr ++ Txt.mul (Str.ofString " imm") (if hb = true then 1 else 0))
noncomputable def UsedP (U : Str) (s : Shared) (v : Value) (s' : Shared) : Prop := ∃ t k, v = .str U t ∧ s' = { s with toks := k }
noncomputable def UseIs (U : Str) : Prop := True
theorem used_join {M : Model} {A : Around} {x : Sem Value} {Q E : Value → Shared → Prop} {s : Shared} {U : Str} (_ : UseIs U) (h : wpAny M A x (UsedP U s) E s) (k : ∀ t tk, Q (.str U t) { s with toks := tk }) : wpAny M A x Q E s :=
  wpAny_mono h (fun v s' ⟨t, tk, e1, e2⟩ => by subst e1; subst e2; exact k t tk) fun _ _ e => e
noncomputable def SpotOk (ys : List Str) (lo hi st : Int) (nm : Str) (v : Value) (d : PyData) (b : Bool) : Prop := Field v d ∧ (b = true ↔ okV ys lo hi st nm d)
noncomputable def BV (hb : Bool) (bv : Value) (nw : Obj → List (Addr × Obj)) (lo hh st : Int) : Prop := (hb = false ∧ bv = .none) ∨ (hb = true ∧ ∃ bnd, bv = .ref bnd ∧ BndOk nw bnd lo hh st)
theorem bv_or {hb : Bool} {bv : Value} {nw : Obj → List (Addr × Obj)} {lo hh st : Int} (h : BV hb bv nw lo hh st) : (hb = false ∧ bv = .none) ∨ (hb = true ∧ ∃ bnd, bv = .ref bnd ∧ BndOk nw bnd lo hh st) := h
theorem in_used {w : World} {A : Around} {E : Value → Shared → Prop} {s : Shared} {x y : Str} {t u : Tok} {b : Bool} {Q : Value → Shared → Prop} (hb : Txt.contains x y = b) (h : Q (.bool b) s) :
    wpAny (model rwp w) A (compareOp .In (.str y u) (.str x t)) Q E s := SB.contains (by rw [hb]; exact h)
theorem vals_all {β σ : Type} {prog : Program} {w : World} {A : Around} {E : Value → Shared → Prop} {h₀ : Heap} {env : Env} {target : PySem.Expr} {body : List Stmt} {Q : Flow → Shared → Prop} {s : Shared} {ws : List (Addr × String)} {keep : List (Addr × Obj)}
    {Inv : σ → List β → (Str → Option Value) → List (Addr × Obj) → Prop} {val : β → Value} : ∀ {l : List β} {x : σ} {m : Str → Option Value} {news : List (Addr × Obj)}, Inv x l m news →
    (∀ x a r m news, Inv x (a :: r) m news → (∀ x' m' news', Inv x' r m' news' → ItemsRest prog w A E h₀ env target body Q s ws keep (r.map fun a => .val (val a)) m' news') → ItemsRest prog w A E h₀ env target body Q s ws keep (.val (val a) :: r.map fun a => .val (val a)) m news) →
    (∀ x m news, Inv x [] m news → ItemsRest prog w A E h₀ env target body Q s ws keep [] m news) →
    ItemsRest prog w A E h₀ env target body Q s ws keep (l.map fun a => .val (val a)) m news
  | [], _, _, _, hI, _, fin => fin _ _ _ hI
  | a :: r, x, m, news, hI, turn, fin => turn x a r m news hI fun x' m' news' hI' => vals_all hI' turn fin
structure FInv (ys : List Str) (lo hh st : Int) (sp f tp l : Addr) (spO : Obj) (n' : Nat) (nw : Obj → List (Addr × Obj)) (at' : Int) (bv : Value) (U : Str) (tU : Tok) (x : List (Str × Value × PyData) × Bool × Int × Tok × Array Value × Nat) (r : List (Str × Tok)) (m : Str → Option Value) (news : List (Addr × Obj)) : Prop where
  m1 : m (Str.ofString "tape") = some (.ref tp)
  m2 : m (Str.ofString "bounds") = some bv
  m3 : m (Str.ofString "used") = some (.str U tU)
  m4 : m (Str.ofString "found") = some (.ref f)
  m5 : m (Str.ofString "is_let") = some (.bool x.2.1)
  field : ∀ p ∈ x.1, Field p.2.1 p.2.2
  flag : x.2.1 = true ↔ ∀ p ∈ x.1, okV ys lo hh st p.1 p.2.2
  order : x.1.map (·.1) ++ r.map (·.1) = [Str.ofString "rd", Str.ofString "rs1", Str.ofString "rs2", Str.ofString "imm", Str.ofString "csr"]
  at1 : at' ≤ x.2.2.1
  at2 : x.2.2.1 + 2 * (r.length : Int) ≤ at' + 10
  vals : x.2.2.2.2.1.toList = x.1.map (·.2.1)
  led : news = (sp, spO) :: (f, W.listOf x.2.2.2.2.1 x.2.2.2.2.2) :: nw (tapeO l n' x.2.2.1 x.2.2.2.1)
theorem append_S {prog : Program} {w : World} {A : Around} {E : Value → Shared → Prop} {s : Shared} {h₀ : Heap} {L D : Addr} {m : Str → Option Value} {news news' : List (Addr × Obj)} {its : Array Value} {n : Nat} {x : Value} {Q : Value → Shared → Prop} (F : Fr h₀ L s.heap m) (N : News h₀ L s.heap news) (U : Upd D (W.listOf its n) (W.listOf (its.push x) (n + 1)) news news')
    (hz : its.size ≤ 5) (h : ∀ h', Fr h₀ L h' m → News h₀ L h' news' → Q .none { s with heap := h' }) : wpAny (model prog w) A (call (.builtin "list.append") [.ref D, x]) Q E s :=
  append_K F N U h (Nat.le_trans hz (by decide))
theorem newsTail {h₀ : Heap} {L : Addr} {h : Heap} {a : Addr × Obj} {r : List (Addr × Obj)} (N : News h₀ L h (a :: r)) : News h₀ L h r := fun p hp => N p (.tail _ hp)
theorem drop2 {h₀ : Heap} {L : Addr} {h : Heap} {a b : Addr × Obj} {r : List (Addr × Obj)} (N : News h₀ L h (a :: b :: r)) : News h₀ L h (a :: r) := fun p hp => N p (by
  rcases List.mem_cons.mp hp with rfl | hp
  · exact .head _
  · exact .tail _ (.tail _ hp))
theorem upd_f {I sp f : Addr} {a b o o' t : Obj} {nw : Obj → List (Addr × Obj)} (h1 : @LT.lt Nat _ f I) (h2 : @LT.lt Nat _ f sp) (h3 : ∀ o, ∀ p ∈ nw o, p.1 < f) : Upd f o o' ((I, a) :: (sp, b) :: (f, o) :: nw t) ((I, a) :: (sp, b) :: (f, o') :: nw t) :=
  .tail (fun e => Nat.lt_irrefl f (by have e' : I = f := e; rw [e'] at h1; exact h1)) (.tail (fun e => Nat.lt_irrefl f (by have e' : sp = f := e; rw [e'] at h2; exact h2)) (.head (nwlt_ne h3)))
theorem spf_ne {h₀ : Heap} {L : Addr} {h : Heap} {sp f : Addr} {a b c d e : Value} {n k : Nat} {r : List (Addr × Obj)} (N : News h₀ L h ((sp, W.listOf #[a, b, c, d, e] n) :: (f, W.listOf #[] k) :: r)) : @Ne Nat sp f := fun q => by
  have h1 := (N _ (.head _)).1
  have h2 := (N _ (.tail _ (.head _))).1
  have q' : sp = f := q
  subst q'
  have h3 := h1.symm.trans h2
  cases h3
theorem ltI {l tp I sp f : Addr} {vs : List Value} {n : Nat} {nw : Obj → List (Addr × Obj)} {a b t : Obj} (hT : TapeOk l tp vs n nw) (h : ∀ p ∈ (sp, a) :: (f, b) :: nw t, p.1 < I) : ∀ b' t', ∀ p ∈ (sp, a) :: (f, b') :: nw t', p.1 < I := fun b' t' p hp => by
  rcases List.mem_cons.mp hp with rfl | hp
  · exact h (sp, a) (.head _)
  · rcases List.mem_cons.mp hp with rfl | hp
    · exact h (f, b) (.tail _ (.head _))
    · exact hT.lt (o := t) (fun q hq => h q (.tail _ (.tail _ hq))) t' p hp
theorem num_field {low high step : Int} {v : Value} {b : Bool} (h : NumRes low high step v b) : ∃ d, Field v d ∧ ((b = false ∧ d = .bool true) ∨ ∃ y, d = .int y ∧ (b = true ↔ low ≤ y ∧ y ≤ high ∧ (y - low).fmod step = 0)) := by
  rcases h with ⟨rfl, x, t, rfl, h⟩ | ⟨rfl, rfl | ⟨x, t, rfl, h⟩⟩
  · exact ⟨.int x, ⟨.int _ _, .inl ⟨x, rfl⟩, rfl⟩, .inr ⟨x, rfl, ⟨fun _ => h, fun _ => rfl⟩⟩⟩
  · exact ⟨.bool true, ⟨.bool _, .inr rfl, rfl⟩, .inl ⟨rfl, rfl⟩⟩
  · exact ⟨.int x, ⟨.int _ _, .inl ⟨x, rfl⟩, rfl⟩, .inr ⟨x, rfl, ⟨fun e => (nomatch e), fun e => absurd e h⟩⟩⟩
theorem tape3 {h₀ : Heap} {L : Addr} {h : Heap} {l tp I sp f : Addr} {vs : List Value} {n : Nat} {nw : Obj → List (Addr × Obj)} {a b c t : Obj} (_N : News h₀ L h ((I, a) :: (sp, b) :: (f, c) :: nw t)) (hT : TapeOk l tp vs n nw) (hnf : ∀ o, ∀ p ∈ nw o, p.1 < f) (hfs : @LT.lt Nat _ f sp) (hfI : @LT.lt Nat _ f I) : TapeOk l tp vs n (fun o => (I, a) :: (sp, b) :: (f, c) :: nw o) :=
  have htf : @LT.lt Nat _ tp f := hnf _ _ (hT.tape t)
  ((hT.cons (x := (f, c)) hnf).consN (x := (sp, b)) (Nat.lt_trans htf hfs)).consN (x := (I, a)) (Nat.lt_trans htf hfI)
theorem l3 {h₀ : Heap} {L : Addr} {h : Heap} {I sp f : Addr} {a b c t : Obj} {nw : Obj → List (Addr × Obj)} (N : News h₀ L h ((I, a) :: (sp, b) :: (f, c) :: nw t)) : News h₀ L h ((I, a) :: (sp, b) :: (f, c) :: nw t) := N
theorem bv_some {bv : Value} {nw : Obj → List (Addr × Obj)} {lo hh st : Int} (h : BV true bv nw lo hh st) : ∃ bnd, bv = .ref bnd ∧ ∃ t1 t2 t3 n, ∀ o, (bnd, (⟨.type "tuple", none, .seq #[.int lo t1, .int hh t2, .int st t3] n, #[]⟩ : Obj)) ∈ nw o := by
  rcases h with ⟨h, _⟩ | ⟨_, bnd, e, ⟨h⟩⟩
  · cases h
  · exact ⟨bnd, e, h⟩
theorem fld_fin {ys : List Str} {lo hh st : Int} {done : List (Str × Value × PyData)} {b : Bool} {vals : Array Value} (ior : done.map (·.1) ++ ([] : List (Str × Tok)).map (·.1) = [Str.ofString "rd", Str.ofString "rs1", Str.ofString "rs2", Str.ofString "imm", Str.ofString "csr"]) (ivl : vals.toList = done.map (·.2.1))
    (ifd : ∀ p ∈ done, Field p.2.1 p.2.2) (ifl : b = true ↔ ∀ p ∈ done, okV ys lo hh st p.1 p.2.2) : ∃ v1 v2 v3 v4 v5 d1 d2 d3 d4 d5, vals = #[v1, v2, v3, v4, v5] ∧ Field v1 d1 ∧ Field v2 d2 ∧ Field v3 d3 ∧ Field v4 d4 ∧ Field v5 d5 ∧ (b = true ↔ ∀ p ∈ sp5 d1 d2 d3 d4 d5, okV ys lo hh st p.1 p.2) := by
  rw [List.map_nil, List.append_nil] at ior
  obtain ⟨⟨n1, v1, d1⟩, l1, rfl, q1, ior⟩ := List.map_eq_cons_iff.mp ior
  obtain ⟨⟨n2, v2, d2⟩, l2, rfl, q2, ior⟩ := List.map_eq_cons_iff.mp ior
  obtain ⟨⟨n3, v3, d3⟩, l3, rfl, q3, ior⟩ := List.map_eq_cons_iff.mp ior
  obtain ⟨⟨n4, v4, d4⟩, l4, rfl, q4, ior⟩ := List.map_eq_cons_iff.mp ior
  obtain ⟨⟨n5, v5, d5⟩, l5, rfl, q5, ior⟩ := List.map_eq_cons_iff.mp ior
  cases List.map_eq_nil_iff.mp ior
  have q1 : n1 = _ := q1
  subst q1
  have q2 : n2 = _ := q2
  subst q2
  have q3 : n3 = _ := q3
  subst q3
  have q4 : n4 = _ := q4
  subst q4
  have q5 : n5 = _ := q5
  subst q5
  refine ⟨v1, v2, v3, v4, v5, d1, d2, d3, d4, d5, Array.toList_inj.mp ivl, ifd _ (.head _), ifd _ (.tail _ (.head _)), ifd _ (.tail _ (.tail _ (.head _))), ifd _ (.tail _ (.tail _ (.tail _ (.head _)))), ifd _ (.tail _ (.tail _ (.tail _ (.tail _ (.head _))))), ifl.trans ?_⟩
  simp only [sp5, List.forall_mem_cons, List.not_mem_nil, false_implies, implies_true]
theorem bnd_mem {x : Addr × Obj} {nw : Obj → List (Addr × Obj)} {o : Obj} (h : ∀ o, x ∈ nw o) : x ∈ nw o := h o
theorem fld_ends {h₀ : Heap} {L : Addr} {s₁ : Shared} {i : Addr} {o : Obj} {keep news : List (Addr × Obj)} {R : (Str → Option Value) → List (Addr × Obj) → Prop} {h' : Heap} {tk : Nat} {m' : Str → Option Value} (F : Fr h₀ L h' m') (N : News h₀ L h' ((i, o) :: news)) (lt : ∀ p ∈ news, p.1 < i) (k : SubL keep news) (r : R m' news) :
    UnrEndW h₀ L s₁ [(i, o)] (fun m' n' => SubL keep n' ∧ R m' n') { s₁ with heap := h', toks := tk } := turn_end F N lt k r
theorem spot_imm {ys : List Str} {lo hh st : Int} {v : Value} {b : Bool} (hb : ys.any (· == Str.ofString "imm") = true) (h : NumRes lo hh st v b) (hst : st = 1 ∨ st = 2) (hlm : lo.fmod st = 0) : ∃ d, SpotOk ys lo hh st (Str.ofString "imm") v d b := by
  obtain ⟨d, f, ⟨rfl, rfl⟩ | ⟨y, rfl, q⟩⟩ := num_field h
  · exact ⟨_, f, ⟨fun e => (nomatch e), fun e => absurd e okV_bool⟩⟩
  · refine ⟨_, f, q.trans ((okV_imm hb).trans ⟨fun z => ?_, fun z => ?_⟩).symm⟩
    · obtain ⟨z1, z2, z3⟩ := z
      rcases hst with rfl | rfl
      · rw [Int.fmod_eq_emod_of_nonneg _ (by decide)]; omega
      · rw [Int.fmod_eq_emod_of_nonneg _ (by decide)] at *; omega
    · obtain ⟨z1, z2, z3⟩ := z
      rcases hst with rfl | rfl
      · rw [Int.fmod_eq_emod_of_nonneg _ (by decide)]; omega
      · rw [Int.fmod_eq_emod_of_nonneg _ (by decide)] at *; omega
theorem spot_csr {ys : List Str} {lo hh st : Int} {v : Value} {b : Bool} (hb : ys.any (· == Str.ofString "csr") = true) (h : NumRes 0 4095 1 v b) : ∃ d, SpotOk ys lo hh st (Str.ofString "csr") v d b := by
  obtain ⟨d, f, ⟨rfl, rfl⟩ | ⟨y, rfl, q⟩⟩ := num_field h
  · exact ⟨_, f, ⟨fun e => (nomatch e), fun e => absurd e okV_bool⟩⟩
  · refine ⟨_, f, q.trans ((okV_csr hb).trans ?_).symm⟩
    rw [Int.fmod_eq_emod_of_nonneg _ (by decide)]
    omega
theorem spot_reg {ys : List Str} {lo hh st : Int} {nm : Str} {v : Value} {b : Bool} (hb : ys.any (· == nm) = true) (h1 : ¬ nm = Str.ofString "imm") (h2 : ¬ nm = Str.ofString "csr") (h : NumRes 0 31 1 v b) : ∃ d, SpotOk ys lo hh st nm v d b := by
  obtain ⟨d, f, ⟨rfl, rfl⟩ | ⟨y, rfl, q⟩⟩ := num_field h
  · exact ⟨_, f, ⟨fun e => (nomatch e), fun e => absurd e okV_bool⟩⟩
  · refine ⟨_, f, q.trans ((okV_reg hb h1 h2).trans ?_).symm⟩
    rw [Int.fmod_eq_emod_of_nonneg _ (by decide)]
    omega
theorem spot_no {ys : List Str} {lo hh st : Int} {nm : Str} {y : Int} {t : Tok} (hb : ys.any (· == nm) = false) : ∃ d, SpotOk ys lo hh st nm (.int y t) d (y == 0) :=
  ⟨.int y, ⟨.int _ _, .inl ⟨y, rfl⟩, rfl⟩, by rw [okV_no hb]; exact beq_iff_eq⟩
theorem FInv.next {ys : List Str} {lo hh st : Int} {sp f tp l : Addr} {spO : Obj} {n' : Nat} {nw : Obj → List (Addr × Obj)} {at' : Int} {bv : Value} {U : Str} {tU : Tok} {done : List (Str × Value × PyData)} {b : Bool} {at1 : Int} {tq : Tok} {vals : Array Value} {k : Nat} {nm : Str} {tk : Tok} {r : List (Str × Tok)} {m m' : Str → Option Value} {news : List (Addr × Obj)}
    (hI : FInv ys lo hh st sp f tp l spO n' nw at' bv U tU (done, b, at1, tq, vals, k) ((nm, tk) :: r) m news) {v : Value} {b2 b' : Bool} {at2 : Int} {t2 : Tok} (m1 : m' (Str.ofString "tape") = some (.ref tp)) (m2 : m' (Str.ofString "bounds") = some bv) (m3 : m' (Str.ofString "used") = some (.str U tU)) (m4 : m' (Str.ofString "found") = some (.ref f)) (m5 : m' (Str.ofString "is_let") = some (.bool b'))
    (hs : ∃ d, SpotOk ys lo hh st nm v d b2) (hb : b' = (b && b2)) (h1 : at1 ≤ at2) (h2 : at2 ≤ at1 + 2) :
    ∃ x, FInv ys lo hh st sp f tp l spO n' nw at' bv U tU x r m' ((sp, spO) :: (f, W.listOf (vals.push v) (k + 1)) :: nw (tapeO l n' at2 t2)) := by
  have q1 := hI.at1
  have q2 := hI.at2
  simp only [List.length_cons, Int.natCast_add, Int.natCast_one] at q1 q2
  obtain ⟨d, hs⟩ := hs
  refine ⟨(done ++ [(nm, v, d)], b', at2, t2, vals.push v, k + 1), m1, m2, m3, m4, m5, fun p hp => ?_, ?_, ?_, ?_, ?_, ?_, rfl⟩
  · rcases List.mem_append.mp hp with hp | hp
    · exact hI.field p hp
    · rw [List.mem_singleton.mp hp]; exact hs.1
  · show b' = true ↔ _
    rw [hb, Bool.and_eq_true, hI.flag, hs.2]
    constructor
    · rintro ⟨a, c⟩ p hp
      rcases List.mem_append.mp hp with hp | hp
      · exact a p hp
      · rw [List.mem_singleton.mp hp]; exact c
    · intro a
      exact ⟨fun p hp => a p (List.mem_append_left _ hp), a (nm, v, d) (List.mem_append_right _ (.head _))⟩
  · have := hI.order
    simpa using this
  · show at' ≤ at2
    omega
  · show at2 + 2 * (r.length : Int) ≤ at' + 10
    omega
  · have := hI.vals
    simp only at this
    simp [this]
set_option maxHeartbeats 0 in
theorem fld_c : ∀ {w : World} {loose : List Str} {mean : ExcName → Option Value} {mg mb : Str → Option Value} (dp un : Nat) (gd : Option (List Code)) (cn : Str) (cs : Scope) (a : Addr) (ccd : Value) (cl : List (Str × Addr)) (outer : List Env) (A₀ : Around) (base h₀ : Heap) (L : Addr) (m : Str → Option Value) (s : Shared) (Q E : Value → Shared → Prop) (news : List (Addr × Obj)) (l tp : Addr) (vs : List Value) (ns : List Int) (n n' : Nat) (nw : Obj → List (Addr × Obj)) (at' : Int) (tk t1 t2 : Tok) (nm wr U : Str) (bv : Value) (fe hb : Bool) (ys : List Str) (lo hh st : Int),
    (Below A₀ base outer h₀) →
    (Fr h₀ L s.heap m) →
    ((hd.heap_1 w.params).In h₀) →
    (News h₀ L s.heap news) →
    (Top hd.view_1 loose mean mg mb h₀) →
    (cs.kind = .function) →
    (dp + 3 < recursionLimit) →
    (un + 24 < cLine) →
    (news = nw (tapeO l n' at' tk)) →
    (TapeOk l tp vs n nw) →
    (IntsAre vs ns) →
    (ns.length < 64) →
    (0 ≤ at') →
    (at' < 9900) →
    ((nm == Str.ofString "fence") = fe) →
    (BV hb bv nw lo hh st) →
    (wr.length ≤ 32) →
    (usedT fe hb wr = U) →
    (∀ x ∈ [Str.ofString "rd", Str.ofString "rs1", Str.ofString "rs2", Str.ofString "imm", Str.ofString "csr"], Txt.contains U x = ys.any (· == x)) →
    (ys.any (· == Str.ofString "imm") = true → hb = true) →
    (st = 1 ∨ st = 2) →
    (-2097152 < lo) →
    (lo < hh) →
    (hh < 2097152) →
    ((hh - lo).fmod st = 0) →
    (lo.fmod st = 0) →
    (∀ r f v1 v2 v3 v4 v5 d1 d2 d3 d4 d5 b h' tk' at2 tq nf, at' ≤ at2 → at2 ≤ at' + 10 → Field v1 d1 → Field v2 d2 → Field v3 d3 → Field v4 d4 → Field v5 d5 → (b = true ↔ ∀ p ∈ sp5 d1 d2 d3 d4 d5, okV ys lo hh st p.1 p.2) → IsTup h' r #[.ref f, .bool b] → Fr h₀ L h' m → News h₀ L h' ((f, W.listOf #[v1, v2, v3, v4, v5] nf) :: nw (tapeO l n' at2 tq)) → (∀ p ∈ nw (tapeO l n' at2 tq), p.1 < f) → Q (.ref r) { s with heap := h', toks := tk' }) →
    wpAny (model PySem.Challenge.rw_pq0900_01.row.prog w) (ktrTop dp un gd cn cs L a ccd cl outer) (call (.ref 1128) [.ref tp, .str nm t1, .str wr t2, bv]) Q E s := by
  k_with_none
  k_with "k_all" => (exact nwlt_ne (by assumption))
  k_with "k_mem" => (first | exact List.Mem.head _ | exact bnd_mem (by assumption) | (refine List.Mem.tail _ ?_; k_mem))
  k_with "k_handed" => (exact Field.handed (by assumption))
  k_with "m:eval BinOp" => (k_here; (try dsimp only); k_gentoks)
  k_with "m:eval Attribute Name" => (k_here; (try dsimp only); k_gentoks)
  k_with "m:eval FormattedValue" => (k_here; (try dsimp only); k_gentoks)
  k_with "m:joinParts" => (k_here; (try dsimp only); k_gentoks)
  k_with "m:isTrue BoolOp" => (k_here; (try dsimp only); k_gentoks)
  k_with "m:execs cons" => (k_here; (try dsimp only); k_gentoks)
  k_with "m:eval Call" => (k_here; (try dsimp only); k_gentoks)
  k_with "m:eval Compare" => (k_here; (try dsimp only); k_gentoks)
  k_with "m:eval Tuple" => (k_here; (try dsimp only); k_gentoks)
  k_with "m:eval Name" => (k_here; (try dsimp only); k_gentoks)
  k_with "m:call builtin:list.append" => (k_here; (with_reducible show wpAny _ _ (call (Value.builtin _) [Value.ref _, _]) _ _ _); k_dflt (refine' append_S ?k1 ?k2 ?k3 ?k4 ?_; (case k1 => k_asm); (case k2 => k_asm); (case k3 => first | exact upd_f (by assumption) (by assumption) (by assumption) | k_upd); (case k4 => assumption); k_whole); intro h' F' N')
  k_with "m:compareOp In str str" => (k_here; (with_reducible show wpAny _ _ (compareOp CmpOp.In (Value.str _ _) (Value.str _ _)) _ _ _); (refine' in_used ?k1 ?_; (case k1 => with_reducible assumption); k_whole))
  k_with "m:call ref" => (k_here; (with_reducible show wpAny _ _ (call (Value.ref 1107) [Value.ref _, Value.int _ _]) _ _ _); (refine' take_use ?B ?F ?X ?N ?T ?hk ?hd ?hu ?hnw ?hT ?hi ?hl ?h0 ?h1 ?hm0 ?hm1 ?_; (case B => assumption); (case F => assumption); (case X => assumption); (case hT => assumption); (case hnw => exact rfl); (case N => first | assumption | exact newsTail (by assumption) | exact newsTail (newsTail (by assumption))); (case T => assumption); (case hk => exact rfl); (case hd => ktr_room); (case hu => ktr_units); (case hi => assumption); (case hl => assumption); (case h0 => omega); (case h1 => omega); (case hm0 => decide); (case hm1 => decide)); intro r' t' h' tk' t2' hr0 hr1 F' N'; (try dsimp only at N'))
  k_with "m:call ref" => (k_here; (with_reducible show wpAny _ _ (call (Value.ref 1121) [Value.ref _, Value.int _ _, Value.int _ _, Value.int _ _]) _ _ _); (refine' num_use ?B ?F ?X ?N ?T ?hk ?hd ?hu ?hnw ?hT ?hi ?hl ?h0 ?h1 ?hst ?hlo ?hlh ?hhi ?hdv ?_; (case B => assumption); (case F => assumption); (case X => assumption); (case hT => assumption); (case hnw => exact rfl); (case N => first | assumption | exact newsTail (by assumption) | exact newsTail (newsTail (by assumption))); (case T => assumption); (case hk => exact rfl); (case hd => ktr_room); (case hu => ktr_units); (case hi => assumption); (case hl => assumption); (case h0 => omega); (case h1 => omega); (case hst => first | assumption | exact .inl rfl); (case hlo => first | assumption | decide); (case hlh => first | assumption | decide); (case hhi => first | assumption | decide); (case hdv => first | assumption | decide)); intro r' v' b' h' tk' at2' t2' hr0 hr1 hres tup F' N'; (try dsimp only at N'); (obtain ⟨_, fd', _⟩ := num_field hres))
  k_with "m:eval Name" => (k_here; k_dflt (refine' ld ?k1 ?k2 ?_; (case k1 => k_asm); (case k2 => assumption); k_whole))
  k_with "m:eval IfExp" => (k_here; refine' used_join ?hU ?_ ?_; (case hU => assumption); ((rcases bv_or (by assumption) with ⟨q1, q2⟩ | ⟨q1, _, q2, _⟩) <;> (k_dflt (subst q1 q2))))
  k_with "m:exec For Name List cons nil" => (k_here; refine my_stop ?_)
  k_with "m:pyIter ref" => (k_here; refine my_stop ?_)
  k_with "m:compareOp Eq str str" => (k_here; (with_reducible show wpAny _ _ (compareOp CmpOp.Eq (Value.str _ _) (Value.str _ _)) _ _ _); k_dflt (refine' eq_name ?k1 ?_; (case k1 => with_reducible assumption); k_whole))
  k_fill
  intro w loose mean mg mb dp un gd cn cs a ccd cl outer A₀ base h₀ L m s Q E news l tp vs ns n n' nw at' tk t1 t2 nm wr U bv fe hb ys lo hh st B F X N T hk hdp hun hnw hT hi hl h0 h1 hfe hbv hwl hU hcu himm hst hlo hlh hhi hdv hlm hret
  subst hnw
  refine wpAny_call ?_
  k_dflt cell_enter
  rename_i g₁ L₁ h₁ FG₁ F₁ N₁ B₁ X₁ T₁
  have hrf : ScopeKind.function = ScopeKind.function := rfl
  have hUi : UseIs U := trivial
  k_steps
  any_goals first
    | exact ⟨_, _, congrArg (Value.str · _) (by rw [← hU, show fe = true from by assumption]; rfl), rfl⟩
    | exact ⟨_, _, congrArg (Value.str · _) (by rw [← hU, show fe = false from by assumption]; rfl), rfl⟩
    | skip
  (rename Fr _ _ _ _ => lF')
  unfold Stop
  with_unfolding_all refine' For_turns lF' ?_
  k_whole
  k_steps
  have hnf := hT.lt ‹∀ p ∈ nw _, p.1 < _›
  have N3 := drop2 ‹News g₁ L₁ _ (_ :: _ :: _)›
  have hfs := (‹@LT.lt Nat _ _ _ ∧ @LT.lt Nat _ _ _ ∧ AllLt _ _›).2.1
  unfold Stop
  refine iter_listTurns rfl ‹Fr g₁ L₁ _ _› N3 (List.Mem.head _) rfl rfl ?_
  intro I hI
  have hfI : @LT.lt Nat _ _ I := hI _ (.tail _ (.head _))
  have hlt := ltI hT hI
  clear hI N3 hUi
  refine vals_all (l := [(Str.ofString "rd", _), (Str.ofString "rs1", _), (Str.ofString "rs2", _), (Str.ofString "imm", _), (Str.ofString "csr", _)]) (val := fun a => Value.str a.1 a.2) (Inv := FInv ys lo hh st _ _ tp l _ n' nw at' bv U _) (x := ([], true, at', _, #[], 0)) ⟨by k_dflt (exact rfl), by k_dflt (exact rfl), by k_dflt (exact rfl), by k_dflt (exact rfl), by k_dflt (exact rfl), (fun _ h => nomatch h), ⟨fun _ _ h => (nomatch h), fun _ => rfl⟩, rfl, Int.le_refl _, Int.le_refl _, rfl, rfl⟩ ?_ ?_
  · rintro ⟨done, b, at1, tq, vals, k⟩ ⟨nm, tk⟩ r m1 news1 hI next
    obtain ⟨im1, im2, im3, im4, im5, ifd, ifl, ior, ia1, ia2, ivl, ild⟩ := id hI
    dsimp only at im5 ifl ia1 ia2 ivl ild
    subst ild
    simp only [List.length_cons, Int.natCast_add, Int.natCast_one] at ia2
    have hq0 : 0 ≤ at1 := by omega
    have hq1 : at1 < 9990 := by omega
    have hmem : nm ∈ [Str.ofString "rd", Str.ofString "rs1", Str.ofString "rs2", Str.ofString "imm", Str.ofString "csr"] := ior ▸ (List.mem_append_right _ (.head _))
    have hz : vals.size ≤ 5 := by
      have z1 := congrArg List.length ior
      have z2 := congrArg List.length ivl
      simp at z1 z2
      omega
    show ItemsRest _ _ _ _ _ _ _ _ _ _ _ _ (Itm.val (Value.str nm tk) :: _) _ _
    refine ItemsRest.val (fun h₂ tk₂ F₂ => ?_)
    refine AllObj.cons (fun o₂ hc₂ => ?_)
    refine AllObj.nil (fun N₂ => ?_)
    dsimp only [List.cons_append, List.nil_append] at N₂
    have hT3 := tape3 N₂ hT hnf hfs hfI
    cases hy : ys.any (· == nm)
    · have hc : Txt.contains U nm = false := (hcu nm hmem).trans hy
      clear hcu
      k_steps
      all_goals (refine turn_end ‹Fr g₁ L₁ _ _› (l3 (by assumption)) (hlt _ _) ⟨List.Mem.head _, trivial⟩ (Exists.elim (hI.next (by k_dflt (exact im1)) (by k_dflt (exact im2)) (by k_dflt (exact im3)) (by k_dflt (exact im4)) (by k_dflt (exact rfl)) (spot_no hy) (by first | (rw [show b = true from by assumption]; rfl) | (rw [show b = false from by assumption]; rfl)) (by omega) (by omega)) fun x' hx' => next x' _ _ hx'))
    · have hc : Txt.contains U nm = true := (hcu nm hmem).trans hy
      clear hcu
      by_cases e1 : nm = Str.ofString "imm"
      · subst e1
        obtain rfl := himm hy
        obtain ⟨bnd, rfl, t3, t4, t5, n3, hbm⟩ := bv_some hbv
        k_steps
        all_goals (refine turn_end ‹Fr g₁ L₁ _ _› (l3 (by assumption)) (hlt _ _) ⟨List.Mem.head _, trivial⟩ (Exists.elim (hI.next (by k_dflt (exact im1)) (by k_dflt (exact im2)) (by k_dflt (exact im3)) (by k_dflt (exact im4)) (by k_dflt (exact rfl)) (spot_imm hy ‹NumRes _ _ _ _ _› hst hlm) (by first | (rw [show b = true from by assumption]; rfl) | (rw [show b = false from by assumption]; rfl)) (by omega) (by omega)) fun x' hx' => next x' _ _ hx'))
      · have q1 := beq_no e1
        by_cases e2 : nm = Str.ofString "csr"
        · subst e2
          k_steps
          all_goals (refine turn_end ‹Fr g₁ L₁ _ _› (l3 (by assumption)) (hlt _ _) ⟨List.Mem.head _, trivial⟩ (Exists.elim (hI.next (by k_dflt (exact im1)) (by k_dflt (exact im2)) (by k_dflt (exact im3)) (by k_dflt (exact im4)) (by k_dflt (exact rfl)) (spot_csr hy ‹NumRes _ _ _ _ _›) (by first | (rw [show b = true from by assumption]; rfl) | (rw [show b = false from by assumption]; rfl)) (by omega) (by omega)) fun x' hx' => next x' _ _ hx'))
        · have q2 := beq_no e2
          k_steps
          all_goals (refine turn_end ‹Fr g₁ L₁ _ _› (l3 (by assumption)) (hlt _ _) ⟨List.Mem.head _, trivial⟩ (Exists.elim (hI.next (by k_dflt (exact im1)) (by k_dflt (exact im2)) (by k_dflt (exact im3)) (by k_dflt (exact im4)) (by k_dflt (exact rfl)) (spot_reg hy e1 e2 ‹NumRes _ _ _ _ _›) (by first | (rw [show b = true from by assumption]; rfl) | (rw [show b = false from by assumption]; rfl)) (by omega) (by omega)) fun x' hx' => next x' _ _ hx'))
  · rintro ⟨done, b, at1, tq, vals, k⟩ m1 news1 hI
    obtain ⟨im1, im2, im3, im4, im5, ifd, ifl, ior, ia1, ia2, ivl, ild⟩ := hI
    dsimp only at im5 ifl ia1 ia2 ivl ild ior ifd
    subst ild
    refine ItemsRest.zero (fun h₂ tk₂ F₂ N₂ => ?_)
    obtain ⟨v1, v2, v3, v4, v5, d1, d2, d3, d4, d5, rfl, z1, z2, z3, z4, z5, zb⟩ := fld_fin ior ivl ifd ifl
    have N₃ := newsTail N₂
    k_steps
    exact hret _ _ _ _ _ _ _ _ _ _ _ _ _ _ _ _ _ _ ia1 (by simp only [List.length_nil, Int.ofNat_zero, Int.natCast_zero] at ia2; omega) z1 z2 z3 z4 z5 zb (News.isTup ‹News h₀ L _ (_ :: _)› (List.Mem.head _)) ‹Fr h₀ L _ m› (by first | exact newsTail (by assumption) | exact newsTail (newsTail (by assumption)) | exact newsTail (newsTail (newsTail (by assumption)))) (hnf _)
theorem fld_use {w : World} {loose : List Str} {mean : ExcName → Option Value} {mg mb : Str → Option Value} {dp un : Nat} {gd : Option (List Code)} {cn : Str} {cs : Scope} {a : Addr} {ccd : Value} {cl : List (Str × Addr)} {outer : List Env} {A₀ : Around} {base h₀ : Heap} {L : Addr} {m : Str → Option Value} {s : Shared} {Q E : Value → Shared → Prop} {news : List (Addr × Obj)} {l tp : Addr} {vs : List Value} {ns : List Int} {n n' : Nat} {nw : Obj → List (Addr × Obj)} {at' : Int} {tk t1 t2 : Tok} {nm wr U : Str} {bv : Value} {fe hb : Bool} {ys : List Str} {lo hh st : Int}
    (B : Below A₀ base outer h₀)
    (F : Fr h₀ L s.heap m)
    (X : (hd.heap_1 w.params).In h₀)
    (N : News h₀ L s.heap news)
    (T : Top hd.view_1 loose mean mg mb h₀)
    (hk : cs.kind = .function)
    (hdp : dp + 3 < recursionLimit)
    (hun : un + 24 < cLine)
    (hnw : news = nw (tapeO l n' at' tk))
    (hT : TapeOk l tp vs n nw)
    (hi : IntsAre vs ns)
    (hl : ns.length < 64)
    (h0 : 0 ≤ at')
    (h1 : at' < 9900)
    (hfe : (nm == Str.ofString "fence") = fe)
    (hbv : BV hb bv nw lo hh st)
    (hwl : wr.length ≤ 32)
    (hU : usedT fe hb wr = U)
    (hcu : ∀ x ∈ [Str.ofString "rd", Str.ofString "rs1", Str.ofString "rs2", Str.ofString "imm", Str.ofString "csr"], Txt.contains U x = ys.any (· == x))
    (himm : ys.any (· == Str.ofString "imm") = true → hb = true)
    (hst : st = 1 ∨ st = 2)
    (hlo : -2097152 < lo)
    (hlh : lo < hh)
    (hhi : hh < 2097152)
    (hdv : (hh - lo).fmod st = 0)
    (hlm : lo.fmod st = 0)
    (hret : ∀ r f v1 v2 v3 v4 v5 d1 d2 d3 d4 d5 b h' tk' at2 tq nf, at' ≤ at2 → at2 ≤ at' + 10 → Field v1 d1 → Field v2 d2 → Field v3 d3 → Field v4 d4 → Field v5 d5 → (b = true ↔ ∀ p ∈ sp5 d1 d2 d3 d4 d5, okV ys lo hh st p.1 p.2) → IsTup h' r #[.ref f, .bool b] → Fr h₀ L h' m → News h₀ L h' ((f, W.listOf #[v1, v2, v3, v4, v5] nf) :: nw (tapeO l n' at2 tq)) → (∀ p ∈ nw (tapeO l n' at2 tq), p.1 < f) → Q (.ref r) { s with heap := h', toks := tk' }) :
    wpAny (model PySem.Challenge.rw_pq0900_01.row.prog w) (ktrTop dp un gd cn cs L a ccd cl outer) (call (.ref 1128) [.ref tp, .str nm t1, .str wr t2, bv]) Q E s :=
  fld_c _ _ _ _ _ _ _ _ _ _ _ _ _ _ _ _ _ _ _ _ _ _ _ _ _ _ _ _ _ _ _ _ _ _ _ _ _ _ _ B F X N T hk hdp hun hnw hT hi hl h0 h1 hfe hbv hwl hU hcu himm hst hlo hlh hhi hdv hlm hret
end
end Mine
-- part FND
namespace Mine
theorem resetFND : True := by
  w_top off
  k_with_none
  k_with "omega" => lia
  exact True.intro
open PySem PySem.W PyProof.Rows PySem.Calls PySem.Spec
noncomputable section
theorem whole_method {w : World} {A : Around} {E : Value → Shared → Prop} {s : Shared} {pl : Sem Bool} {Q : Value × List Value → Shared → Prop} (X : (hd.heap_1 w.params).In s.heap) (h : Q (.builtin "dict.get", [.ref 979]) s) :
    wpAny (model rwp w) A (getMethod (.ref 979) (Str.ofString "get") pl) Q E s :=
  getMethod_builtin (intMap X (isD979 w) (keys979 w)).typeIs PySem.F.plainAttrs_dict PySem.F.slot_dict_get PySem.F.type_dict_get (intMap X (isD979 w) (keys979 w)).noDict h
theorem whole_get {w : World} {A : Around} {E : Value → Shared → Prop} {s : Shared} {word : Int} {t : Tok} {v : Value} {Q : Value → Shared → Prop} (X : (hd.heap_1 w.params).In s.heap) (hv : iFind w 979 word = some v) (h : Q v { s with toks := s.toks + 1 }) :
    wpAny (model rwp w) A (call (.builtin "dict.get") [.ref 979, .int word t]) Q E s :=
  call_meetsIn PySem.F.slot_dict_get (intMap X (isD979 w) (keys979 w)).typeIs PySem.F.entry_dict_get (PySem.F.args_dict_get_2 _ _) (meets_dict_get (PySem.intKind rwp w) 979 (intKind_is _ _ _ _) (by decide)) ⟨_, intMap X (isD979 w) (keys979 w), by rw [hv]; exact h⟩
inductive Found (w : World) (word : Int) (kind : Str) (sh : Addr) : Prop
  | opc : iFind w 736 (Builtin.bitAnd word 127) = some (.ref sh) → Found w word kind sh
  | third : iFind w 736 (Builtin.bitAnd word 127) = none → iFind w 800 (Builtin.bitAnd word 28799) = some (.ref sh) → Found w word kind sh
  | seventh : iFind w 736 (Builtin.bitAnd word 127) = none → iFind w 800 (Builtin.bitAnd word 28799) = none → iFind w 893 (Builtin.bitAnd word 4261441663) = some (.ref sh) → ((kind == Str.ofString "flush") = false ∨ Builtin.bitAnd (word.fdiv (2 ^ Int.toNat 7)) 31 = 0) → Found w word kind sh
  | whole : iFind w 736 (Builtin.bitAnd word 127) = none → iFind w 800 (Builtin.bitAnd word 28799) = none → iFind w 893 (Builtin.bitAnd word 4261441663) = none → iFind w 979 word = some (.ref sh) → Found w word kind sh
set_option maxHeartbeats 0 in
theorem fnd_c : ∀ {w : World} {loose : List Str} {mean : ExcName → Option Value} {mg mb : Str → Option Value} (dp un : Nat) (gd : Option (List Code)) (cn : Str) (cs : Scope) (a : Addr) (ccd : Value) (cl : List (Str × Addr)) (outer : List Env) (A₀ : Around) (base h₀ : Heap) (L : Addr) (m : Str → Option Value) (s : Shared) (Q E : Value → Shared → Prop) (news : List (Addr × Obj)) (word : Int) (tw : Tok) (nm kind : Str) (sh : Addr) (opc thi sev : Int),
    (Below A₀ base outer h₀) →
    (Fr h₀ L s.heap m) →
    ((hd.heap_1 w.params).In h₀) →
    (News h₀ L s.heap news) →
    (Top hd.view_1 loose mean mg mb h₀) →
    (cs.kind = .function) →
    (dp + 1 < recursionLimit) →
    (un + 8 < cLine) →
    (ShapeF w h₀ nm kind sh opc thi sev) →
    (Found w word kind sh) →
    (∀ h' tk', Fr h₀ L h' m → News h₀ L h' news → Q (.ref sh) { s with heap := h', toks := tk' }) →
    wpAny (model PySem.Challenge.rw_pq0900_01.row.prog w) (ktrTop dp un gd cn cs L a ccd cl outer) (call (.ref 1067) [.int word tw]) Q E s := by
  k_with_none
  k_with "omega" => (lia)
  k_with "k_inst" => (first | exact instK (by assumption) (by assumption) | exact instK (instK (by assumption) (by assumption)) (by assumption))
  k_with "m:execs cons" => (k_here; (try dsimp only); k_gentoks)
  k_with "m:eval Call" => (k_here; (try dsimp only); k_gentoks)
  k_with "m:eval Compare" => (k_here; (try dsimp only); k_gentoks)
  k_with "m:eval Tuple" => (k_here; (try dsimp only); k_gentoks)
  k_with "m:eval Name" => (k_here; (try dsimp only); k_gentoks)
  k_with "m:eval BinOp" => (k_here; (try dsimp only); k_gentoks)
  k_with "m:eval Attribute Name" => (k_here; (try dsimp only); k_gentoks)
  k_with "m:eval FormattedValue" => (k_here; (try dsimp only); k_gentoks)
  k_with "m:joinParts" => (k_here; (try dsimp only); k_gentoks)
  k_with "m:isTrue BoolOp" => (k_here; (try dsimp only); k_gentoks)
  k_with "m:call ref" => (k_here; (first | (with_reducible show wpAny _ _ (call (Value.ref 1018) _) _ _ _) | (with_reducible show wpAny _ _ (call (Value.ref 121) _) _ _ _) | (with_reducible show wpAny _ _ (call (Value.ref 1032) _) _ _ _) | (with_reducible show wpAny _ _ (call (Value.ref 1039) _) _ _ _)); refine wpAny_call ?_; k_dflt cell_enter)
  k_with "m:compareOp In int ref" => (k_here; (with_reducible show wpAny _ _ (compareOp CmpOp.In (Value.int _ _) (Value.ref 736)) _ _ _); k_dflt (first | (refine' intInT ?k1 (isD736 _) (keys736 _) (by decide) ?k2 ?_; (case k1 => k_in); (case k2 => with_reducible assumption); k_whole) | (refine' intInF ?k1 (isD736 _) (keys736 _) (by decide) ?k2 ?_; (case k1 => k_in); (case k2 => with_reducible assumption); k_whole)))
  k_with "m:subscriptTail" => (k_here; (with_reducible show wpAny _ _ (subscriptTail _ _ (Value.ref 736) (Value.int _ _)) _ _ _); (with_unfolding_all refine' intItem ?k1 (isD736 _) (keys736 _) ?k2 ?_ ?k3; (case k1 => k_in); (case k2 => with_reducible assumption); (case k3 => with_unfolding_all rfl); k_whole))
  k_with "m:compareOp In int ref" => (k_here; (with_reducible show wpAny _ _ (compareOp CmpOp.In (Value.int _ _) (Value.ref 800)) _ _ _); k_dflt (first | (refine' intInT ?k1 (isD800 _) (keys800 _) (by decide) ?k2 ?_; (case k1 => k_in); (case k2 => with_reducible assumption); k_whole) | (refine' intInF ?k1 (isD800 _) (keys800 _) (by decide) ?k2 ?_; (case k1 => k_in); (case k2 => with_reducible assumption); k_whole)))
  k_with "m:subscriptTail" => (k_here; (with_reducible show wpAny _ _ (subscriptTail _ _ (Value.ref 800) (Value.int _ _)) _ _ _); (with_unfolding_all refine' intItem ?k1 (isD800 _) (keys800 _) ?k2 ?_ ?k3; (case k1 => k_in); (case k2 => with_reducible assumption); (case k3 => with_unfolding_all rfl); k_whole))
  k_with "m:compareOp In int ref" => (k_here; (with_reducible show wpAny _ _ (compareOp CmpOp.In (Value.int _ _) (Value.ref 893)) _ _ _); k_dflt (first | (refine' intInT ?k1 (isD893 _) (keys893 _) (by decide) ?k2 ?_; (case k1 => k_in); (case k2 => with_reducible assumption); k_whole) | (refine' intInF ?k1 (isD893 _) (keys893 _) (by decide) ?k2 ?_; (case k1 => k_in); (case k2 => with_reducible assumption); k_whole)))
  k_with "m:subscriptTail" => (k_here; (with_reducible show wpAny _ _ (subscriptTail _ _ (Value.ref 893) (Value.int _ _)) _ _ _); (with_unfolding_all refine' intItem ?k1 (isD893 _) (keys893 _) ?k2 ?_ ?k3; (case k1 => k_in); (case k2 => with_reducible assumption); (case k3 => with_unfolding_all rfl); k_whole))
  k_with "m:getMethod ref" => (k_here; (with_reducible show wpAny _ _ (getMethod (Value.ref 979) _ _) _ _ _); k_dflt (refine' whole_method ?k1 ?_; (case k1 => k_in); k_whole))
  k_with "m:call builtin:dict.get" => (k_here; (with_reducible show wpAny _ _ (call (Value.builtin "dict.get") [Value.ref 979, Value.int _ _]) _ _ _); k_dflt (refine' whole_get ?k1 ?k2 ?_; (case k1 => k_in); (case k2 => with_reducible assumption); k_whole))
  k_fill
  intro w loose mean mg mb dp un gd cn cs a ccd cl outer A₀ base h₀ L m s Q E news word tw nm kind sh opc thi sev B F X N T hk hdp hun sf hf hret
  refine wpAny_call ?_
  k_dflt cell_enter
  rename_i g₁ L₁ h₁ FG₁ F₁ N₁ B₁ X₁ T₁
  have hrf : ScopeKind.function = ScopeKind.function := rfl
  obtain ⟨hname, ⟨sd, n', e0, e1, e2, e3, e4, t0, t1, t2, t3, t4, t5, t6, t7, t8, t9, I⟩, c1, c2, c3, c4, c5, c6⟩ := sf.up FG₁.keep
  rcases hf with q1 | ⟨q1, q2⟩ | ⟨q1, q2, q3, q4⟩ | ⟨q1, q2, q3, q4⟩
  · k_steps
    all_goals exact hret _ _ ‹Fr h₀ L _ m› (by (first | assumption | (intro p hp; refine ‹News h₀ L _ _› p ?_; repeat (first | assumption | refine List.Mem.tail _ ?_))))
  · k_steps
    all_goals exact hret _ _ ‹Fr h₀ L _ m› (by (first | assumption | (intro p hp; refine ‹News h₀ L _ _› p ?_; repeat (first | assumption | refine List.Mem.tail _ ?_))))
  · rcases q4 with q4 | q4
    · k_steps
      all_goals first | exact hret _ _ ‹Fr h₀ L _ m› (by (first | assumption | (intro p hp; refine ‹News h₀ L _ _› p ?_; repeat (first | assumption | refine List.Mem.tail _ ?_)))) | exact absurd q4 (by assumption)
    · k_steps
      all_goals first | exact hret _ _ ‹Fr h₀ L _ m› (by (first | assumption | (intro p hp; refine ‹News h₀ L _ _› p ?_; repeat (first | assumption | refine List.Mem.tail _ ?_)))) | exact absurd q4 (by assumption)
  · k_steps
    all_goals exact hret _ _ ‹Fr h₀ L _ m› (by (first | assumption | (intro p hp; refine ‹News h₀ L _ _› p ?_; repeat (first | assumption | refine List.Mem.tail _ ?_))))
theorem fnd_use {w : World} {loose : List Str} {mean : ExcName → Option Value} {mg mb : Str → Option Value} {dp un : Nat} {gd : Option (List Code)} {cn : Str} {cs : Scope} {a : Addr} {ccd : Value} {cl : List (Str × Addr)} {outer : List Env} {A₀ : Around} {base h₀ : Heap} {L : Addr} {m : Str → Option Value} {s : Shared} {Q E : Value → Shared → Prop} {news : List (Addr × Obj)} {word : Int} {tw : Tok} {nm kind : Str} {sh : Addr} {opc thi sev : Int}
    (B : Below A₀ base outer h₀)
    (F : Fr h₀ L s.heap m)
    (X : (hd.heap_1 w.params).In h₀)
    (N : News h₀ L s.heap news)
    (T : Top hd.view_1 loose mean mg mb h₀)
    (hk : cs.kind = .function)
    (hdp : dp + 1 < recursionLimit)
    (hun : un + 8 < cLine)
    (sf : ShapeF w h₀ nm kind sh opc thi sev)
    (hf : Found w word kind sh)
    (hret : ∀ h' tk', Fr h₀ L h' m → News h₀ L h' news → Q (.ref sh) { s with heap := h', toks := tk' }) :
    wpAny (model PySem.Challenge.rw_pq0900_01.row.prog w) (ktrTop dp un gd cn cs L a ccd cl outer) (call (.ref 1067) [.int word tw]) Q E s :=
  fnd_c _ _ _ _ _ _ _ _ _ _ _ _ _ _ _ _ _ _ _ _ _ _ _ _ _ _ B F X N T hk hdp hun sf hf hret
end
end Mine
-- part INS
namespace Mine
theorem resetINS : True := by
  w_top off
  k_with_none
  k_with "omega" => lia
  exact True.intro
open PySem PySem.W PyProof.Rows PySem.Calls PySem.Spec
noncomputable section
theorem all_ne {l : List (Addr × Obj)} {d : Addr} (h : ∀ p ∈ l, p.1 < d) : ∀ p ∈ l, p.1 ≠ d := fun p hp => Nat.ne_of_lt (h p hp)
noncomputable def insF (P : Params) : Option FuncData := match (hd.heap_1 P).lookup 85 with
  | some ⟨_, _, .func f, _⟩ => some f
  | _ => none
set_option maxHeartbeats 0 in
theorem insG_c : ∀ {w : World} {loose : List Str} {mean : ExcName → Option Value} {mg mb : Str → Option Value} (dp un : Nat) (gd : Option (List Code)) (cn : Str) (cs : Scope) (a : Addr) (ccd : Value) (cl : List (Str × Addr)) (outer : List Env) (A₀ : Around) (base h₀ : Heap) (L : Addr) (m : Str → Option Value) (s : Shared) (Q E : Value → Shared → Prop) (news : List (Addr × Obj)) (v0 v1 v2 v3 v4 v5 : Value) (as : List Value),
    (Below A₀ base outer h₀) →
    (Fr h₀ L s.heap m) →
    ((hd.heap_1 w.params).In h₀) →
    (News h₀ L s.heap news) →
    (Top hd.view_1 loose mean mg mb h₀) →
    (cs.kind = .function) →
    (dp + 2 < recursionLimit) →
    (un + 16 < cLine) →
    (∀ (x : Addr) (s' : Shared) (f : FuncData), (hd.heap_1 w.params).In s'.heap → insF w.params = some f → BindsTo s' f ⟨.ref x :: as, []⟩ [(Str.ofString "self", .ref x), (Str.ofString "name", v0), (Str.ofString "rd", v1), (Str.ofString "rs1", v2), (Str.ofString "rs2", v3), (Str.ofString "imm", v4), (Str.ofString "csr", v5)]) →
    (∀ x d sl n h0 h1 h2 h3 h4 h5 k0 k1 k2 k3 k4 k5  h' tk', Fr h₀ L h' m → News h₀ L h' ((x, (⟨.ref 95, some d, .plain, sl⟩ : Obj)) :: (d, dictOf [⟨h0, .str (Str.ofString "name") k0, v0⟩, ⟨h1, .str (Str.ofString "rd") k1, v1⟩, ⟨h2, .str (Str.ofString "rs1") k2, v2⟩, ⟨h3, .str (Str.ofString "rs2") k3, v3⟩, ⟨h4, .str (Str.ofString "imm") k4, v4⟩, ⟨h5, .str (Str.ofString "csr") k5, v5⟩] n) :: news) → (∀ p ∈ news, p.1 < d) → d ≠ x → Q (.ref x) { s with heap := h', toks := tk' }) →
    wpAny (model PySem.Challenge.rw_pq0900_01.row.prog w) (ktrTop dp un gd cn cs L a ccd cl outer) (call (.ref 95) as) Q E s := by
  k_with_none
  k_with "omega" => (lia)
  k_with "k_all" => (exact all_ne (by assumption))
  k_fill
  intro w loose mean mg mb dp un gd cn cs a ccd cl outer A₀ base h₀ L m s Q E news v0 v1 v2 v3 v4 v5 as B F X N T hk hdp hun hb hret
  k_dflt (refine' call_cls ?k1 ?k2 ?k3 ?k4 ?k5 ?k6 ?_; (case k1 => k_asm); (case k2 => k_asm); (case k3 => k_asm); (case k4 => k_is); (case k5 => k_is); (case k6 => k_is); k_whole)
  intro x' d' h' F' N' l1 l2
  have l2n : @LT.lt Nat _ d' x' := l2
  k_dflt (refine' code_def ?k1 ?k2 ?k3 ?k4 ?k5 ?kA ?kF ?kK ?k6 ?k7 ?k8 ?k9 ?kB ?_ ?c2 ?c3 ?c4 ?c5; (case kA => exact rfl); (case kF => exact rfl); (case kK => assumption); (case k1 => k_asm); (case k2 => k_asm); (case k3 => k_asm); (case k4 => k_asm); (case k5 => k_asm); (case k6 => k_is); (case k7 => k_is); (case k8 => ktr_room); (case k9 => exact hb _ _ _ (by k_in) (by with_unfolding_all rfl)); (case c5 => decide); (case kB => exact locs rfl); (case c2 => exact rfl); (case c3 => exact rfl); (case c4 => exact rfl); k_whole; intro g' L' h' FG' F' N' B' X' T'; (try dsimp only); (try k_fold))
  k_steps
  all_goals exact hret _ _ _ _ _ _ _ _ _ _ _ _ _ _ _ _ _ _ ‹Fr h₀ L _ m› (by assumption) l1 (Nat.ne_of_lt l2)
theorem ins1_use {w : World} {loose : List Str} {mean : ExcName → Option Value} {mg mb : Str → Option Value} {dp un : Nat} {gd : Option (List Code)} {cn : Str} {cs : Scope} {a : Addr} {ccd : Value} {cl : List (Str × Addr)} {outer : List Env} {A₀ : Around} {base h₀ : Heap} {L : Addr} {m : Str → Option Value} {s : Shared} {Q E : Value → Shared → Prop} {news : List (Addr × Obj)} {v0 : Value}
    (B : Below A₀ base outer h₀)
    (F : Fr h₀ L s.heap m)
    (X : (hd.heap_1 w.params).In h₀)
    (N : News h₀ L s.heap news)
    (T : Top hd.view_1 loose mean mg mb h₀)
    (hk : cs.kind = .function)
    (hdp : dp + 2 < recursionLimit)
    (hun : un + 16 < cLine)
    (hret : ∀ x d sl n h0 h1 h2 h3 h4 h5 k0 k1 k2 k3 k4 k5 u1 u2 u3 u4 u5 h' tk', Fr h₀ L h' m → News h₀ L h' ((x, (⟨.ref 95, some d, .plain, sl⟩ : Obj)) :: (d, dictOf [⟨h0, .str (Str.ofString "name") k0, v0⟩, ⟨h1, .str (Str.ofString "rd") k1, .int 0 u1⟩, ⟨h2, .str (Str.ofString "rs1") k2, .int 0 u2⟩, ⟨h3, .str (Str.ofString "rs2") k3, .int 0 u3⟩, ⟨h4, .str (Str.ofString "imm") k4, .int 0 u4⟩, ⟨h5, .str (Str.ofString "csr") k5, .int 0 u5⟩] n) :: news) → (∀ p ∈ news, p.1 < d) → d ≠ x → Q (.ref x) { s with heap := h', toks := tk' }) :
    wpAny (model PySem.Challenge.rw_pq0900_01.row.prog w) (ktrTop dp un gd cn cs L a ccd cl outer) (call (.ref 95) [v0]) Q E s :=
  insG_c _ _ _ _ _ _ _ _ _ _ _ _ _ _ _ _ _ _ (v0) (.int 0 _) (.int 0 _) (.int 0 _) (.int 0 _) (.int 0 _) _ B F X N T hk hdp hun (fun x s' f X hf => by obtain rfl := Option.some.inj (show some _ = some f from hf); exact binds_K X rfl (by k_is) rfl rfl rfl) (fun x d sl n h0 h1 h2 h3 h4 h5 k0 k1 k2 k3 k4 k5 h' tk' p1 p2 p3 p4 => hret x d sl n h0 h1 h2 h3 h4 h5 k0 k1 k2 k3 k4 k5 _ _ _ _ _ h' tk' p1 p2 p3 p4)
theorem ins2_use {w : World} {loose : List Str} {mean : ExcName → Option Value} {mg mb : Str → Option Value} {dp un : Nat} {gd : Option (List Code)} {cn : Str} {cs : Scope} {a : Addr} {ccd : Value} {cl : List (Str × Addr)} {outer : List Env} {A₀ : Around} {base h₀ : Heap} {L : Addr} {m : Str → Option Value} {s : Shared} {Q E : Value → Shared → Prop} {news : List (Addr × Obj)} {v0 v1 : Value}
    (B : Below A₀ base outer h₀)
    (F : Fr h₀ L s.heap m)
    (X : (hd.heap_1 w.params).In h₀)
    (N : News h₀ L s.heap news)
    (T : Top hd.view_1 loose mean mg mb h₀)
    (hk : cs.kind = .function)
    (hdp : dp + 2 < recursionLimit)
    (hun : un + 16 < cLine)
    (hret : ∀ x d sl n h0 h1 h2 h3 h4 h5 k0 k1 k2 k3 k4 k5 u2 u3 u4 u5 h' tk', Fr h₀ L h' m → News h₀ L h' ((x, (⟨.ref 95, some d, .plain, sl⟩ : Obj)) :: (d, dictOf [⟨h0, .str (Str.ofString "name") k0, v0⟩, ⟨h1, .str (Str.ofString "rd") k1, v1⟩, ⟨h2, .str (Str.ofString "rs1") k2, .int 0 u2⟩, ⟨h3, .str (Str.ofString "rs2") k3, .int 0 u3⟩, ⟨h4, .str (Str.ofString "imm") k4, .int 0 u4⟩, ⟨h5, .str (Str.ofString "csr") k5, .int 0 u5⟩] n) :: news) → (∀ p ∈ news, p.1 < d) → d ≠ x → Q (.ref x) { s with heap := h', toks := tk' }) :
    wpAny (model PySem.Challenge.rw_pq0900_01.row.prog w) (ktrTop dp un gd cn cs L a ccd cl outer) (call (.ref 95) [v0, v1]) Q E s :=
  insG_c _ _ _ _ _ _ _ _ _ _ _ _ _ _ _ _ _ _ (v0) (v1) (.int 0 _) (.int 0 _) (.int 0 _) (.int 0 _) _ B F X N T hk hdp hun (fun x s' f X hf => by obtain rfl := Option.some.inj (show some _ = some f from hf); exact binds_K X rfl (by k_is) rfl rfl rfl) (fun x d sl n h0 h1 h2 h3 h4 h5 k0 k1 k2 k3 k4 k5 h' tk' p1 p2 p3 p4 => hret x d sl n h0 h1 h2 h3 h4 h5 k0 k1 k2 k3 k4 k5 _ _ _ _ h' tk' p1 p2 p3 p4)
theorem ins3_use {w : World} {loose : List Str} {mean : ExcName → Option Value} {mg mb : Str → Option Value} {dp un : Nat} {gd : Option (List Code)} {cn : Str} {cs : Scope} {a : Addr} {ccd : Value} {cl : List (Str × Addr)} {outer : List Env} {A₀ : Around} {base h₀ : Heap} {L : Addr} {m : Str → Option Value} {s : Shared} {Q E : Value → Shared → Prop} {news : List (Addr × Obj)} {v0 v1 v2 : Value}
    (B : Below A₀ base outer h₀)
    (F : Fr h₀ L s.heap m)
    (X : (hd.heap_1 w.params).In h₀)
    (N : News h₀ L s.heap news)
    (T : Top hd.view_1 loose mean mg mb h₀)
    (hk : cs.kind = .function)
    (hdp : dp + 2 < recursionLimit)
    (hun : un + 16 < cLine)
    (hret : ∀ x d sl n h0 h1 h2 h3 h4 h5 k0 k1 k2 k3 k4 k5 u3 u4 u5 h' tk', Fr h₀ L h' m → News h₀ L h' ((x, (⟨.ref 95, some d, .plain, sl⟩ : Obj)) :: (d, dictOf [⟨h0, .str (Str.ofString "name") k0, v0⟩, ⟨h1, .str (Str.ofString "rd") k1, v1⟩, ⟨h2, .str (Str.ofString "rs1") k2, v2⟩, ⟨h3, .str (Str.ofString "rs2") k3, .int 0 u3⟩, ⟨h4, .str (Str.ofString "imm") k4, .int 0 u4⟩, ⟨h5, .str (Str.ofString "csr") k5, .int 0 u5⟩] n) :: news) → (∀ p ∈ news, p.1 < d) → d ≠ x → Q (.ref x) { s with heap := h', toks := tk' }) :
    wpAny (model PySem.Challenge.rw_pq0900_01.row.prog w) (ktrTop dp un gd cn cs L a ccd cl outer) (call (.ref 95) [v0, v1, v2]) Q E s :=
  insG_c _ _ _ _ _ _ _ _ _ _ _ _ _ _ _ _ _ _ (v0) (v1) (v2) (.int 0 _) (.int 0 _) (.int 0 _) _ B F X N T hk hdp hun (fun x s' f X hf => by obtain rfl := Option.some.inj (show some _ = some f from hf); exact binds_K X rfl (by k_is) rfl rfl rfl) (fun x d sl n h0 h1 h2 h3 h4 h5 k0 k1 k2 k3 k4 k5 h' tk' p1 p2 p3 p4 => hret x d sl n h0 h1 h2 h3 h4 h5 k0 k1 k2 k3 k4 k5 _ _ _ h' tk' p1 p2 p3 p4)
theorem ins4_use {w : World} {loose : List Str} {mean : ExcName → Option Value} {mg mb : Str → Option Value} {dp un : Nat} {gd : Option (List Code)} {cn : Str} {cs : Scope} {a : Addr} {ccd : Value} {cl : List (Str × Addr)} {outer : List Env} {A₀ : Around} {base h₀ : Heap} {L : Addr} {m : Str → Option Value} {s : Shared} {Q E : Value → Shared → Prop} {news : List (Addr × Obj)} {v0 v1 v2 v3 : Value}
    (B : Below A₀ base outer h₀)
    (F : Fr h₀ L s.heap m)
    (X : (hd.heap_1 w.params).In h₀)
    (N : News h₀ L s.heap news)
    (T : Top hd.view_1 loose mean mg mb h₀)
    (hk : cs.kind = .function)
    (hdp : dp + 2 < recursionLimit)
    (hun : un + 16 < cLine)
    (hret : ∀ x d sl n h0 h1 h2 h3 h4 h5 k0 k1 k2 k3 k4 k5 u4 u5 h' tk', Fr h₀ L h' m → News h₀ L h' ((x, (⟨.ref 95, some d, .plain, sl⟩ : Obj)) :: (d, dictOf [⟨h0, .str (Str.ofString "name") k0, v0⟩, ⟨h1, .str (Str.ofString "rd") k1, v1⟩, ⟨h2, .str (Str.ofString "rs1") k2, v2⟩, ⟨h3, .str (Str.ofString "rs2") k3, v3⟩, ⟨h4, .str (Str.ofString "imm") k4, .int 0 u4⟩, ⟨h5, .str (Str.ofString "csr") k5, .int 0 u5⟩] n) :: news) → (∀ p ∈ news, p.1 < d) → d ≠ x → Q (.ref x) { s with heap := h', toks := tk' }) :
    wpAny (model PySem.Challenge.rw_pq0900_01.row.prog w) (ktrTop dp un gd cn cs L a ccd cl outer) (call (.ref 95) [v0, v1, v2, v3]) Q E s :=
  insG_c _ _ _ _ _ _ _ _ _ _ _ _ _ _ _ _ _ _ (v0) (v1) (v2) (v3) (.int 0 _) (.int 0 _) _ B F X N T hk hdp hun (fun x s' f X hf => by obtain rfl := Option.some.inj (show some _ = some f from hf); exact binds_K X rfl (by k_is) rfl rfl rfl) (fun x d sl n h0 h1 h2 h3 h4 h5 k0 k1 k2 k3 k4 k5 h' tk' p1 p2 p3 p4 => hret x d sl n h0 h1 h2 h3 h4 h5 k0 k1 k2 k3 k4 k5 _ _ h' tk' p1 p2 p3 p4)
theorem ins5_use {w : World} {loose : List Str} {mean : ExcName → Option Value} {mg mb : Str → Option Value} {dp un : Nat} {gd : Option (List Code)} {cn : Str} {cs : Scope} {a : Addr} {ccd : Value} {cl : List (Str × Addr)} {outer : List Env} {A₀ : Around} {base h₀ : Heap} {L : Addr} {m : Str → Option Value} {s : Shared} {Q E : Value → Shared → Prop} {news : List (Addr × Obj)} {v0 v1 v2 v3 v4 : Value}
    (B : Below A₀ base outer h₀)
    (F : Fr h₀ L s.heap m)
    (X : (hd.heap_1 w.params).In h₀)
    (N : News h₀ L s.heap news)
    (T : Top hd.view_1 loose mean mg mb h₀)
    (hk : cs.kind = .function)
    (hdp : dp + 2 < recursionLimit)
    (hun : un + 16 < cLine)
    (hret : ∀ x d sl n h0 h1 h2 h3 h4 h5 k0 k1 k2 k3 k4 k5 u5 h' tk', Fr h₀ L h' m → News h₀ L h' ((x, (⟨.ref 95, some d, .plain, sl⟩ : Obj)) :: (d, dictOf [⟨h0, .str (Str.ofString "name") k0, v0⟩, ⟨h1, .str (Str.ofString "rd") k1, v1⟩, ⟨h2, .str (Str.ofString "rs1") k2, v2⟩, ⟨h3, .str (Str.ofString "rs2") k3, v3⟩, ⟨h4, .str (Str.ofString "imm") k4, v4⟩, ⟨h5, .str (Str.ofString "csr") k5, .int 0 u5⟩] n) :: news) → (∀ p ∈ news, p.1 < d) → d ≠ x → Q (.ref x) { s with heap := h', toks := tk' }) :
    wpAny (model PySem.Challenge.rw_pq0900_01.row.prog w) (ktrTop dp un gd cn cs L a ccd cl outer) (call (.ref 95) [v0, v1, v2, v3, v4]) Q E s :=
  insG_c _ _ _ _ _ _ _ _ _ _ _ _ _ _ _ _ _ _ (v0) (v1) (v2) (v3) (v4) (.int 0 _) _ B F X N T hk hdp hun (fun x s' f X hf => by obtain rfl := Option.some.inj (show some _ = some f from hf); exact binds_K X rfl (by k_is) rfl rfl rfl) (fun x d sl n h0 h1 h2 h3 h4 h5 k0 k1 k2 k3 k4 k5 h' tk' p1 p2 p3 p4 => hret x d sl n h0 h1 h2 h3 h4 h5 k0 k1 k2 k3 k4 k5 _ h' tk' p1 p2 p3 p4)
theorem ins6_use {w : World} {loose : List Str} {mean : ExcName → Option Value} {mg mb : Str → Option Value} {dp un : Nat} {gd : Option (List Code)} {cn : Str} {cs : Scope} {a : Addr} {ccd : Value} {cl : List (Str × Addr)} {outer : List Env} {A₀ : Around} {base h₀ : Heap} {L : Addr} {m : Str → Option Value} {s : Shared} {Q E : Value → Shared → Prop} {news : List (Addr × Obj)} {v0 v1 v2 v3 v4 v5 : Value}
    (B : Below A₀ base outer h₀)
    (F : Fr h₀ L s.heap m)
    (X : (hd.heap_1 w.params).In h₀)
    (N : News h₀ L s.heap news)
    (T : Top hd.view_1 loose mean mg mb h₀)
    (hk : cs.kind = .function)
    (hdp : dp + 2 < recursionLimit)
    (hun : un + 16 < cLine)
    (hret : ∀ x d sl n h0 h1 h2 h3 h4 h5 k0 k1 k2 k3 k4 k5  h' tk', Fr h₀ L h' m → News h₀ L h' ((x, (⟨.ref 95, some d, .plain, sl⟩ : Obj)) :: (d, dictOf [⟨h0, .str (Str.ofString "name") k0, v0⟩, ⟨h1, .str (Str.ofString "rd") k1, v1⟩, ⟨h2, .str (Str.ofString "rs1") k2, v2⟩, ⟨h3, .str (Str.ofString "rs2") k3, v3⟩, ⟨h4, .str (Str.ofString "imm") k4, v4⟩, ⟨h5, .str (Str.ofString "csr") k5, v5⟩] n) :: news) → (∀ p ∈ news, p.1 < d) → d ≠ x → Q (.ref x) { s with heap := h', toks := tk' }) :
    wpAny (model PySem.Challenge.rw_pq0900_01.row.prog w) (ktrTop dp un gd cn cs L a ccd cl outer) (call (.ref 95) [v0, v1, v2, v3, v4, v5]) Q E s :=
  insG_c _ _ _ _ _ _ _ _ _ _ _ _ _ _ _ _ _ _ (v0) (v1) (v2) (v3) (v4) (v5) _ B F X N T hk hdp hun (fun x s' f X hf => by obtain rfl := Option.some.inj (show some _ = some f from hf); exact binds_K X rfl (by k_is) rfl rfl rfl) (fun x d sl n h0 h1 h2 h3 h4 h5 k0 k1 k2 k3 k4 k5 h' tk' p1 p2 p3 p4 => hret x d sl n h0 h1 h2 h3 h4 h5 k0 k1 k2 k3 k4 k5 h' tk' p1 p2 p3 p4)
end
end Mine
-- part DEC
namespace Mine
theorem resetDEC : True := by
  w_top off
  k_with_none
  k_with "omega" => lia
  exact True.intro
open PySem PySem.W PyProof.Rows PySem.Calls PySem.Spec
noncomputable section
inductive DecR (w : Int) (kind : Str) : Int → Int → Int → Int → Int → Prop
  | I1' : (kind == Str.ofString "I") = true → Builtin.bitAnd (w.fdiv (2 ^ Int.toNat 20)) 2048 ≠ 0 → DecR w kind (Builtin.bitAnd (w.fdiv (2 ^ Int.toNat 7)) 31) (Builtin.bitAnd (w.fdiv (2 ^ Int.toNat 15)) 31) (0) (w.fdiv (2 ^ Int.toNat 20) - 4096) (0)
  | I0' : (kind == Str.ofString "I") = true → Builtin.bitAnd (w.fdiv (2 ^ Int.toNat 20)) 2048 = 0 → DecR w kind (Builtin.bitAnd (w.fdiv (2 ^ Int.toNat 7)) 31) (Builtin.bitAnd (w.fdiv (2 ^ Int.toNat 15)) 31) (0) (w.fdiv (2 ^ Int.toNat 20)) (0)
  | R' : (kind == Str.ofString "R") = true → DecR w kind (Builtin.bitAnd (w.fdiv (2 ^ Int.toNat 7)) 31) (Builtin.bitAnd (w.fdiv (2 ^ Int.toNat 15)) 31) (Builtin.bitAnd (w.fdiv (2 ^ Int.toNat 20)) 31) (0) (0)
  | B1' : (kind == Str.ofString "B") = true → w.fdiv (2 ^ Int.toNat 31) ≠ 0 → DecR w kind (0) (Builtin.bitAnd (w.fdiv (2 ^ Int.toNat 15)) 31) (Builtin.bitAnd (w.fdiv (2 ^ Int.toNat 20)) 31) (Builtin.bitOr (Builtin.bitOr (Builtin.bitAnd (w.fdiv (2 ^ Int.toNat 7)) 1 * 2 ^ Int.toNat 11) (Builtin.bitAnd (w.fdiv (2 ^ Int.toNat 8)) 15 * 2 ^ Int.toNat 1)) (Builtin.bitAnd (w.fdiv (2 ^ Int.toNat 25)) 63 * 2 ^ Int.toNat 5) - 4096) (0)
  | B0' : (kind == Str.ofString "B") = true → w.fdiv (2 ^ Int.toNat 31) = 0 → DecR w kind (0) (Builtin.bitAnd (w.fdiv (2 ^ Int.toNat 15)) 31) (Builtin.bitAnd (w.fdiv (2 ^ Int.toNat 20)) 31) (Builtin.bitOr (Builtin.bitOr (Builtin.bitAnd (w.fdiv (2 ^ Int.toNat 7)) 1 * 2 ^ Int.toNat 11) (Builtin.bitAnd (w.fdiv (2 ^ Int.toNat 8)) 15 * 2 ^ Int.toNat 1)) (Builtin.bitAnd (w.fdiv (2 ^ Int.toNat 25)) 63 * 2 ^ Int.toNat 5)) (0)
  | S1' : (kind == Str.ofString "S") = true → w.fdiv (2 ^ Int.toNat 31) ≠ 0 → DecR w kind (0) (Builtin.bitAnd (w.fdiv (2 ^ Int.toNat 15)) 31) (Builtin.bitAnd (w.fdiv (2 ^ Int.toNat 20)) 31) (Builtin.bitOr (w.fdiv (2 ^ Int.toNat 25) * 2 ^ Int.toNat 5) (Builtin.bitAnd (w.fdiv (2 ^ Int.toNat 7)) 31) - 4096) (0)
  | S0' : (kind == Str.ofString "S") = true → w.fdiv (2 ^ Int.toNat 31) = 0 → DecR w kind (0) (Builtin.bitAnd (w.fdiv (2 ^ Int.toNat 15)) 31) (Builtin.bitAnd (w.fdiv (2 ^ Int.toNat 20)) 31) (Builtin.bitOr (w.fdiv (2 ^ Int.toNat 25) * 2 ^ Int.toNat 5) (Builtin.bitAnd (w.fdiv (2 ^ Int.toNat 7)) 31)) (0)
  | U' : (kind == Str.ofString "U") = true → DecR w kind (Builtin.bitAnd (w.fdiv (2 ^ Int.toNat 7)) 31) (0) (0) (w.fdiv (2 ^ Int.toNat 12)) (0)
  | J1' : (kind == Str.ofString "J") = true → w.fdiv (2 ^ Int.toNat 31) ≠ 0 → DecR w kind (Builtin.bitAnd (w.fdiv (2 ^ Int.toNat 7)) 31) (0) (0) (Builtin.bitOr (Builtin.bitOr (Builtin.bitAnd (w.fdiv (2 ^ Int.toNat 12)) 255 * 2 ^ Int.toNat 12) (Builtin.bitAnd (w.fdiv (2 ^ Int.toNat 20)) 1 * 2 ^ Int.toNat 11)) (Builtin.bitAnd (w.fdiv (2 ^ Int.toNat 21)) 1023 * 2 ^ Int.toNat 1) - 1048576) (0)
  | J0' : (kind == Str.ofString "J") = true → w.fdiv (2 ^ Int.toNat 31) = 0 → DecR w kind (Builtin.bitAnd (w.fdiv (2 ^ Int.toNat 7)) 31) (0) (0) (Builtin.bitOr (Builtin.bitOr (Builtin.bitAnd (w.fdiv (2 ^ Int.toNat 12)) 255 * 2 ^ Int.toNat 12) (Builtin.bitAnd (w.fdiv (2 ^ Int.toNat 20)) 1 * 2 ^ Int.toNat 11)) (Builtin.bitAnd (w.fdiv (2 ^ Int.toNat 21)) 1023 * 2 ^ Int.toNat 1)) (0)
  | shift' : (kind == Str.ofString "shift") = true → DecR w kind (Builtin.bitAnd (w.fdiv (2 ^ Int.toNat 7)) 31) (Builtin.bitAnd (w.fdiv (2 ^ Int.toNat 15)) 31) (0) (Builtin.bitAnd (w.fdiv (2 ^ Int.toNat 20)) 31) (0)
  | fence' : (kind == Str.ofString "fence") = true → DecR w kind (Builtin.bitAnd (w.fdiv (2 ^ Int.toNat 7)) 31) (Builtin.bitAnd (w.fdiv (2 ^ Int.toNat 15)) 31) (0) (w.fdiv (2 ^ Int.toNat 20)) (0)
  | CSR' : (kind == Str.ofString "CSR") = true → DecR w kind (Builtin.bitAnd (w.fdiv (2 ^ Int.toNat 7)) 31) (Builtin.bitAnd (w.fdiv (2 ^ Int.toNat 15)) 31) (0) (0) (w.fdiv (2 ^ Int.toNat 20))
  | CSRI' : (kind == Str.ofString "CSRI") = true → DecR w kind (Builtin.bitAnd (w.fdiv (2 ^ Int.toNat 7)) 31) (0) (0) (Builtin.bitAnd (w.fdiv (2 ^ Int.toNat 15)) 31) (w.fdiv (2 ^ Int.toNat 20))
  | flush' : (kind == Str.ofString "flush") = true → DecR w kind (0) (Builtin.bitAnd (w.fdiv (2 ^ Int.toNat 15)) 31) (Builtin.bitAnd (w.fdiv (2 ^ Int.toNat 20)) 31) (0) (0)
  | none' : (kind == Str.ofString "I") = false → (kind == Str.ofString "R") = false → (kind == Str.ofString "B") = false → (kind == Str.ofString "S") = false → (kind == Str.ofString "U") = false → (kind == Str.ofString "J") = false → (kind == Str.ofString "shift") = false → (kind == Str.ofString "fence") = false → (kind == Str.ofString "CSR") = false → (kind == Str.ofString "CSRI") = false → (kind == Str.ofString "flush") = false → DecR w kind (0) (0) (0) (0) (0)
theorem fdiv_small {w : Int} (h0 : 0 ≤ w) (h1 : w < 4294967296) : (w.fdiv (2 ^ Int.toNat 25)).natAbs < 2 ^ 64 := by
  rw [show (2 : Int) ^ Int.toNat 25 = 33554432 from rfl, Int.fdiv_eq_ediv_of_nonneg _ (by decide)]
  omega
theorem drop3 {h₀ : Heap} {L : Addr} {h : Heap} {a b c : Addr × Obj} {r : List (Addr × Obj)} (N : News h₀ L h (a :: b :: c :: r)) : News h₀ L h (a :: b :: r) := fun p hp => N p (by
  rcases List.mem_cons.mp hp with rfl | hp
  · exact .head _
  · rcases List.mem_cons.mp hp with rfl | hp
    · exact .tail _ (.head _)
    · exact .tail _ (.tail _ (.tail _ hp)))
theorem drop3l {d : Addr} {c : Addr × Obj} {r : List (Addr × Obj)} (h : ∀ p ∈ c :: r, p.1 < d) : ∀ p ∈ r, p.1 < d := fun p hp => h p (.tail _ hp)
set_option maxHeartbeats 0 in
theorem dec_c : ∀ {w : World} {loose : List Str} {mean : ExcName → Option Value} {mg mb : Str → Option Value} (dp un : Nat) (gd : Option (List Code)) (cn : Str) (cs : Scope) (a : Addr) (ccd : Value) (cl : List (Str × Addr)) (outer : List Env) (A₀ : Around) (base h₀ : Heap) (L : Addr) (m : Str → Option Value) (s : Shared) (Q E : Value → Shared → Prop) (news : List (Addr × Obj)) (word : Int) (tw : Tok) (nm kind : Str) (sh : Addr) (opc thi sev : Int),
    (Below A₀ base outer h₀) →
    (Fr h₀ L s.heap m) →
    ((hd.heap_1 w.params).In h₀) →
    (News h₀ L s.heap news) →
    (Top hd.view_1 loose mean mg mb h₀) →
    (cs.kind = .function) →
    (dp + 4 < recursionLimit) →
    (un + 32 < cLine) →
    (ShapeF w h₀ nm kind sh opc thi sev) →
    (Found w word kind sh) →
    (0 ≤ word) →
    (word < 4294967296) →
    (∀ z1 z2 z3 z4 z5, DecR word kind z1 z2 z3 z4 z5 → ∀ x d sl n h0 h1 h2 h3 h4 h5 k0 k1 k2 k3 k4 k5 tn u1 u2 u3 u4 u5 h' tk', Fr h₀ L h' m → News h₀ L h' ((x, (⟨.ref 95, some d, .plain, sl⟩ : Obj)) :: (d, dictOf [⟨h0, .str (Str.ofString "name") k0, .str nm tn⟩, ⟨h1, .str (Str.ofString "rd") k1, .int z1 u1⟩, ⟨h2, .str (Str.ofString "rs1") k2, .int z2 u2⟩, ⟨h3, .str (Str.ofString "rs2") k3, .int z3 u3⟩, ⟨h4, .str (Str.ofString "imm") k4, .int z4 u4⟩, ⟨h5, .str (Str.ofString "csr") k5, .int z5 u5⟩] n) :: news) → (∀ p ∈ news, p.1 < d) → d ≠ x → Q (.ref x) { s with heap := h', toks := tk' }) →
    wpAny (model PySem.Challenge.rw_pq0900_01.row.prog w) (ktrTop dp un gd cn cs L a ccd cl outer) (call (.ref 1074) [.int word tw]) Q E s := by
  k_with_none
  k_with "omega" => (lia)
  k_with "k_inst" => (first | exact instK (by assumption) (by assumption) | exact instK (instK (by assumption) (by assumption)) (by assumption))
  k_with "m:binaryOp LShift int int" => (k_here; (with_reducible refine lshift_int_small ?w0ka ?w0kb ?w0kc ?_); (case w0ka => decide); (case w0kb => decide); (case w0kc => first | exact and_small _ (by decide) (by decide) | exact fdiv_small (by assumption) (by assumption)))
  k_with "m:eval BinOp" => (k_here; (try dsimp only); k_gentoks)
  k_with "m:eval Attribute Name" => (k_here; (try dsimp only); k_gentoks)
  k_with "m:eval FormattedValue" => (k_here; (try dsimp only); k_gentoks)
  k_with "m:joinParts" => (k_here; (try dsimp only); k_gentoks)
  k_with "m:isTrue BoolOp" => (k_here; (try dsimp only); k_gentoks)
  k_with "m:execs cons" => (k_here; (try dsimp only); k_gentoks)
  k_with "m:eval Call" => (k_here; (try dsimp only); k_gentoks)
  k_with "m:eval Compare" => (k_here; (try dsimp only); k_gentoks)
  k_with "m:eval Tuple" => (k_here; (try dsimp only); k_gentoks)
  k_with "m:eval Name" => (k_here; (try dsimp only); k_gentoks)
  k_with "m:call ref" => (k_here; (first | (with_reducible show wpAny _ _ (call (Value.ref 1018) _) _ _ _) | (with_reducible show wpAny _ _ (call (Value.ref 121) _) _ _ _) | (with_reducible show wpAny _ _ (call (Value.ref 1032) _) _ _ _) | (with_reducible show wpAny _ _ (call (Value.ref 1039) _) _ _ _)); refine wpAny_call ?_; k_dflt cell_enter)
  k_with "m:call ref" => (k_here; (with_reducible show wpAny _ _ (call (Value.ref 1067) [Value.int _ _]) _ _ _); k_dflt (refine' fnd_use ?w7B ?w7F ?w7X ?w7N ?w7T ?w7hk ?w7hd ?w7hu ?w7sf ?w7hf ?_; (case w7B => assumption); (case w7F => assumption); (case w7X => assumption); (case w7N => assumption); (case w7T => assumption); (case w7hk => exact rfl); (case w7hd => ktr_room); (case w7hu => ktr_units); (case w7sf => assumption); (case w7hf => assumption); intro h' tk' F' N'))
  k_with "m:call ref" => (k_here; (with_reducible show wpAny _ _ (call (Value.ref 95) [_, _, _, _, _, _]) _ _ _); k_dflt (refine' ins6_use ?w8B ?w8F ?w8X ?w8N ?w8T ?w8hk ?w8hd ?w8hu ?_; (case w8B => assumption); (case w8F => assumption); (case w8X => assumption); (case w8N => assumption); (case w8T => assumption); (case w8hk => exact rfl); (case w8hd => ktr_room); (case w8hu => ktr_units); intro x' d' sl' n' e0' e1' e2' e3' e4' e5' t0' t1' t2' t3' t4' t5'  h' tk' F' N' l1' l2'))
  k_with "m:call ref" => (k_here; (with_reducible show wpAny _ _ (call (Value.ref 95) [_, _, _, _, _]) _ _ _); k_dflt (refine' ins5_use ?w9B ?w9F ?w9X ?w9N ?w9T ?w9hk ?w9hd ?w9hu ?_; (case w9B => assumption); (case w9F => assumption); (case w9X => assumption); (case w9N => assumption); (case w9T => assumption); (case w9hk => exact rfl); (case w9hd => ktr_room); (case w9hu => ktr_units); intro x' d' sl' n' e0' e1' e2' e3' e4' e5' t0' t1' t2' t3' t4' t5' u5' h' tk' F' N' l1' l2'))
  k_with "m:call ref" => (k_here; (with_reducible show wpAny _ _ (call (Value.ref 95) [_, _, _, _]) _ _ _); k_dflt (refine' ins4_use ?w10B ?w10F ?w10X ?w10N ?w10T ?w10hk ?w10hd ?w10hu ?_; (case w10B => assumption); (case w10F => assumption); (case w10X => assumption); (case w10N => assumption); (case w10T => assumption); (case w10hk => exact rfl); (case w10hd => ktr_room); (case w10hu => ktr_units); intro x' d' sl' n' e0' e1' e2' e3' e4' e5' t0' t1' t2' t3' t4' t5' u4' u5' h' tk' F' N' l1' l2'))
  k_with "m:call ref" => (k_here; (with_reducible show wpAny _ _ (call (Value.ref 95) [_]) _ _ _); k_dflt (refine' ins1_use ?w11B ?w11F ?w11X ?w11N ?w11T ?w11hk ?w11hd ?w11hu ?_; (case w11B => assumption); (case w11F => assumption); (case w11X => assumption); (case w11N => assumption); (case w11T => assumption); (case w11hk => exact rfl); (case w11hd => ktr_room); (case w11hu => ktr_units); intro x' d' sl' n' e0' e1' e2' e3' e4' e5' t0' t1' t2' t3' t4' t5' u1' u2' u3' u4' u5' h' tk' F' N' l1' l2'))
  k_with "m:call ref" => (k_here; (first | (with_reducible show wpAny _ _ (call (Value.ref 1053) _) _ _ _) | (with_reducible show wpAny _ _ (call (Value.ref 1060) _) _ _ _)); refine wpAny_call ?_; k_dflt cell_enter)
  k_fill
  intro w loose mean mg mb dp un gd cn cs a ccd cl outer A₀ base h₀ L m s Q E news word tw nm kind sh opc thi sev B F X N T hk hdp hun sf hf hw0 hw2 hret
  refine wpAny_call ?_
  k_dflt cell_enter
  rename_i g₁ L₁ h₁ FG₁ F₁ N₁ B₁ X₁ T₁
  have hrf : ScopeKind.function = ScopeKind.function := rfl
  have sf₁ := sf.up FG₁.keep
  have hw1 : word.fdiv (2 ^ Int.toNat 32) = 0 := by
    rw [show (2 : Int) ^ Int.toNat 32 = 4294967296 from rfl, Int.fdiv_eq_ediv_of_nonneg _ (by decide)]
    omega
  obtain ⟨hname, ⟨sd, n', e0, e1, e2, e3, e4, t0, t1, t2, t3, t4, t5, t6, t7, t8, t9, I⟩, c1, c2, c3, c4, c5, c6⟩ := sf.up FG₁.keep
  k_steps
  all_goals first
    | exact absurd hw1 (by assumption)
    | exact hret _ _ _ _ _ (.I1' (by assumption) (by assumption) ) _ _ _ _ _ _ _ _ _ _ _ _ _ _ _ _ _ _ _ _ _ _ _ _ ‹Fr h₀ L _ m› (drop3 (by assumption)) (drop3l (by assumption)) (by assumption)
    | exact hret _ _ _ _ _ (.I0' (by assumption) (by assumption) ) _ _ _ _ _ _ _ _ _ _ _ _ _ _ _ _ _ _ _ _ _ _ _ _ ‹Fr h₀ L _ m› (drop3 (by assumption)) (drop3l (by assumption)) (by assumption)
    | exact hret _ _ _ _ _ (.R' (by assumption) ) _ _ _ _ _ _ _ _ _ _ _ _ _ _ _ _ _ _ _ _ _ _ _ _ ‹Fr h₀ L _ m› (drop3 (by assumption)) (drop3l (by assumption)) (by assumption)
    | exact hret _ _ _ _ _ (.B1' (by assumption) (by assumption) ) _ _ _ _ _ _ _ _ _ _ _ _ _ _ _ _ _ _ _ _ _ _ _ _ ‹Fr h₀ L _ m› (drop3 (by assumption)) (drop3l (by assumption)) (by assumption)
    | exact hret _ _ _ _ _ (.B0' (by assumption) (by assumption) ) _ _ _ _ _ _ _ _ _ _ _ _ _ _ _ _ _ _ _ _ _ _ _ _ ‹Fr h₀ L _ m› (drop3 (by assumption)) (drop3l (by assumption)) (by assumption)
    | exact hret _ _ _ _ _ (.S1' (by assumption) (by assumption) ) _ _ _ _ _ _ _ _ _ _ _ _ _ _ _ _ _ _ _ _ _ _ _ _ ‹Fr h₀ L _ m› (drop3 (by assumption)) (drop3l (by assumption)) (by assumption)
    | exact hret _ _ _ _ _ (.S0' (by assumption) (by assumption) ) _ _ _ _ _ _ _ _ _ _ _ _ _ _ _ _ _ _ _ _ _ _ _ _ ‹Fr h₀ L _ m› (drop3 (by assumption)) (drop3l (by assumption)) (by assumption)
    | exact hret _ _ _ _ _ (.U' (by assumption) ) _ _ _ _ _ _ _ _ _ _ _ _ _ _ _ _ _ _ _ _ _ _ _ _ ‹Fr h₀ L _ m› (drop3 (by assumption)) (drop3l (by assumption)) (by assumption)
    | exact hret _ _ _ _ _ (.J1' (by assumption) (by assumption) ) _ _ _ _ _ _ _ _ _ _ _ _ _ _ _ _ _ _ _ _ _ _ _ _ ‹Fr h₀ L _ m› (drop3 (by assumption)) (drop3l (by assumption)) (by assumption)
    | exact hret _ _ _ _ _ (.J0' (by assumption) (by assumption) ) _ _ _ _ _ _ _ _ _ _ _ _ _ _ _ _ _ _ _ _ _ _ _ _ ‹Fr h₀ L _ m› (drop3 (by assumption)) (drop3l (by assumption)) (by assumption)
    | exact hret _ _ _ _ _ (.shift' (by assumption) ) _ _ _ _ _ _ _ _ _ _ _ _ _ _ _ _ _ _ _ _ _ _ _ _ ‹Fr h₀ L _ m› (drop3 (by assumption)) (drop3l (by assumption)) (by assumption)
    | exact hret _ _ _ _ _ (.fence' (by assumption) ) _ _ _ _ _ _ _ _ _ _ _ _ _ _ _ _ _ _ _ _ _ _ _ _ ‹Fr h₀ L _ m› (drop3 (by assumption)) (drop3l (by assumption)) (by assumption)
    | exact hret _ _ _ _ _ (.CSR' (by assumption) ) _ _ _ _ _ _ _ _ _ _ _ _ _ _ _ _ _ _ _ _ _ _ _ _ ‹Fr h₀ L _ m› (drop3 (by assumption)) (drop3l (by assumption)) (by assumption)
    | exact hret _ _ _ _ _ (.CSRI' (by assumption) ) _ _ _ _ _ _ _ _ _ _ _ _ _ _ _ _ _ _ _ _ _ _ _ _ ‹Fr h₀ L _ m› (drop3 (by assumption)) (drop3l (by assumption)) (by assumption)
    | exact hret _ _ _ _ _ (.flush' (by assumption) ) _ _ _ _ _ _ _ _ _ _ _ _ _ _ _ _ _ _ _ _ _ _ _ _ ‹Fr h₀ L _ m› (drop3 (by assumption)) (drop3l (by assumption)) (by assumption)
    | exact hret _ _ _ _ _ (.none' (by assumption) (by assumption) (by assumption) (by assumption) (by assumption) (by assumption) (by assumption) (by assumption) (by assumption) (by assumption) (by assumption) ) _ _ _ _ _ _ _ _ _ _ _ _ _ _ _ _ _ _ _ _ _ _ _ _ ‹Fr h₀ L _ m› (drop3 (by assumption)) (drop3l (by assumption)) (by assumption)
theorem dec_use {w : World} {loose : List Str} {mean : ExcName → Option Value} {mg mb : Str → Option Value} {dp un : Nat} {gd : Option (List Code)} {cn : Str} {cs : Scope} {a : Addr} {ccd : Value} {cl : List (Str × Addr)} {outer : List Env} {A₀ : Around} {base h₀ : Heap} {L : Addr} {m : Str → Option Value} {s : Shared} {Q E : Value → Shared → Prop} {news : List (Addr × Obj)} {word : Int} {tw : Tok} {nm kind : Str} {sh : Addr} {opc thi sev : Int}
    (B : Below A₀ base outer h₀)
    (F : Fr h₀ L s.heap m)
    (X : (hd.heap_1 w.params).In h₀)
    (N : News h₀ L s.heap news)
    (T : Top hd.view_1 loose mean mg mb h₀)
    (hk : cs.kind = .function)
    (hdp : dp + 4 < recursionLimit)
    (hun : un + 32 < cLine)
    (sf : ShapeF w h₀ nm kind sh opc thi sev)
    (hf : Found w word kind sh)
    (hw0 : 0 ≤ word)
    (hw2 : word < 4294967296)
    (hret : ∀ z1 z2 z3 z4 z5, DecR word kind z1 z2 z3 z4 z5 → ∀ x d sl n h0 h1 h2 h3 h4 h5 k0 k1 k2 k3 k4 k5 tn u1 u2 u3 u4 u5 h' tk', Fr h₀ L h' m → News h₀ L h' ((x, (⟨.ref 95, some d, .plain, sl⟩ : Obj)) :: (d, dictOf [⟨h0, .str (Str.ofString "name") k0, .str nm tn⟩, ⟨h1, .str (Str.ofString "rd") k1, .int z1 u1⟩, ⟨h2, .str (Str.ofString "rs1") k2, .int z2 u2⟩, ⟨h3, .str (Str.ofString "rs2") k3, .int z3 u3⟩, ⟨h4, .str (Str.ofString "imm") k4, .int z4 u4⟩, ⟨h5, .str (Str.ofString "csr") k5, .int z5 u5⟩] n) :: news) → (∀ p ∈ news, p.1 < d) → d ≠ x → Q (.ref x) { s with heap := h', toks := tk' }) :
    wpAny (model PySem.Challenge.rw_pq0900_01.row.prog w) (ktrTop dp un gd cn cs L a ccd cl outer) (call (.ref 1074) [.int word tw]) Q E s :=
  dec_c _ _ _ _ _ _ _ _ _ _ _ _ _ _ _ _ _ _ _ _ _ _ _ _ _ _ B F X N T hk hdp hun sf hf hw0 hw2 hret
end
end Mine
-- part RTB
namespace Mine
theorem resetRTB : True := by
  w_top off
  k_with_none
  k_with "omega" => lia
  exact True.intro
open PySem PySem.W PyProof.Rows PySem.Calls PySem.Spec
theorem mask12 (y : Int) : Builtin.bitAnd y 4095 = y % 4096 := kbt_mask y 12
theorem mask10 (y : Int) : Builtin.bitAnd y 1023 = y % 1024 := kbt_mask y 10
theorem fd (y : Int) (k : Nat) (K : Int) (hk : (2 : Int) ^ k = K) (h : 0 ≤ K) : y.fdiv (2 ^ k) = y / K := by rw [hk, Int.fdiv_eq_ediv_of_nonneg _ h]
theorem enc_i {kind : Str} (hk : ([Str.ofString "I", Str.ofString "shift", Str.ofString "fence"].any fun x => x == kind) = true) {opc thi y1 y2 y4 y5 : Int} (o0 : 0 ≤ opc) (o1 : opc < 128) (t0 : 0 ≤ thi) (t1 : thi < 8) (a1 : 0 ≤ y1 ∧ y1 < 32) (a2 : 0 ≤ y2 ∧ y2 < 32) :
    encI kind opc thi 0 y1 y2 0 y4 y5 = opc + 128 * y1 + 4096 * thi + 32768 * y2 + 1048576 * (y4 % 4096) := by
  unfold encI
  rw [hk, cond_true]
  refine (sum_at 20 12 1048576 4096 rfl rfl (found_sum o0 o1 t0 t1 (by decide) (by decide) a1 a2 ⟨by decide, by decide⟩) (mask12 y4) (by omega) (by omega) (by omega)).trans ?_
  omega
theorem enc_s {opc thi y2 y3 y4 y5 : Int} (o0 : 0 ≤ opc) (o1 : opc < 128) (t0 : 0 ≤ thi) (t1 : thi < 8) (a2 : 0 ≤ y2 ∧ y2 < 32) (a3 : 0 ≤ y3 ∧ y3 < 32) :
    encI (Str.ofString "S") opc thi 0 0 y2 y3 y4 y5 = opc + 128 * (y4 % 32) + 4096 * thi + 32768 * y2 + 1048576 * y3 + 33554432 * (y4 / 32 % 128) := by
  unfold encI
  rw [show ([Str.ofString "I", Str.ofString "shift", Str.ofString "fence"].any fun x => x == Str.ofString "S") = false by decide +kernel, cond_false, show (Str.ofString "S" == Str.ofString "S") = true by decide +kernel, cond_true]
  refine (sum_at 7 5 128 32 rfl rfl (sum_at 25 7 33554432 128 rfl rfl (found_sum o0 o1 t0 t1 (by decide) (by decide) ⟨by decide, by decide⟩ a2 a3) ((bitAnd_m7 _).trans (congrArg (· % 128) (fd y4 5 32 rfl (by decide)))) (by omega) (by omega) (by omega)) (bitAnd_m5 y4) (by omega) (by omega) (by omega)).trans ?_
  omega
theorem branch_sum (y4 : Int) : branchI y4 = (y4 / 2 % 16 * 2 + y4 / 2048 % 2) * 128 + 33554432 * (y4 / 32 % 64 + 64 * (y4 / 4096 % 2)) := by
  have e1 : Builtin.bitAnd (y4.fdiv (2 ^ Int.toNat 12)) 1 * 2 ^ Int.toNat 31 = y4 / 4096 % 2 * 2147483648 := by
    rw [bitAnd_m1]; exact congrArg (· % 2 * 2147483648) (fd y4 12 4096 rfl (by decide))
  refine (sum_at 7 1 128 2 rfl rfl (sum_at 8 4 256 16 rfl rfl (sum_at 25 6 33554432 64 rfl rfl e1 ((bitAnd_m6 _).trans (congrArg (· % 64) (fd y4 5 32 rfl (by decide)))) (by omega) (by omega) (by omega)) ((bitAnd_m4 _).trans (congrArg (· % 16) (fd y4 1 2 rfl (by decide)))) (by omega) (by omega) (by omega)) ((bitAnd_m1 _).trans (congrArg (· % 2) (fd y4 11 2048 rfl (by decide)))) (by omega) (by omega) (by omega)).trans ?_
  omega
theorem enc_b {opc thi y2 y3 y4 y5 : Int} (o0 : 0 ≤ opc) (o1 : opc < 128) (t0 : 0 ≤ thi) (t1 : thi < 8) (a2 : 0 ≤ y2 ∧ y2 < 32) (a3 : 0 ≤ y3 ∧ y3 < 32) :
    encI (Str.ofString "B") opc thi 0 0 y2 y3 y4 y5 = opc + 4096 * thi + 32768 * y2 + 1048576 * y3 + ((y4 / 2 % 16 * 2 + y4 / 2048 % 2) * 128 + 33554432 * (y4 / 32 % 64 + 64 * (y4 / 4096 % 2))) := by
  unfold encI
  rw [show ([Str.ofString "I", Str.ofString "shift", Str.ofString "fence"].any fun x => x == Str.ofString "B") = false by decide +kernel, cond_false, show (Str.ofString "B" == Str.ofString "S") = false by decide +kernel, cond_false, show (Str.ofString "B" == Str.ofString "B") = true by decide +kernel, cond_true]
  have hf : foundI opc thi 0 0 y2 y3 = opc + 128 * 0 + 4096 * thi + 32768 * y2 + 1048576 * y3 + 33554432 * 0 := found_sum o0 o1 t0 t1 (by decide) (by decide) ⟨by decide, by decide⟩ a2 a3
  rw [branch_sum, hf, bitOr_and, show (33554432 : Int) = 2 ^ 25 from rfl, and_split 25 _ _ _ (by omega) (by omega)]
  have z1 := and_shift 7 5 (opc + 128 * 0 + 4096 * thi + 32768 * y2 + 1048576 * y3 + 2 ^ 25 * 0) (y4 / 2 % 16 * 2 + y4 / 2048 % 2) (by omega) (by omega) (by omega)
  rw [show (128 : Int) = 2 ^ 7 from rfl] at z1 ⊢
  rw [z1, show (opc + 2 ^ 7 * 0 + 4096 * thi + 32768 * y2 + 1048576 * y3 + 2 ^ 25 * 0) / 2 ^ 25 = 0 by omega, bitAnd_comm, and_zero]
  omega
theorem jump_sum (y4 : Int) : jumpI y4 = (y4 / 4096 % 256 + 256 * (y4 / 2048 % 2) + 512 * (y4 / 2 % 1024) + 524288 * (y4 / 1048576 % 2)) * 4096 := by
  have e1 : Builtin.bitAnd (y4.fdiv (2 ^ Int.toNat 20)) 1 * 2 ^ Int.toNat 31 = y4 / 1048576 % 2 * 2147483648 := by
    rw [bitAnd_m1]; exact congrArg (· % 2 * 2147483648) (fd y4 20 1048576 rfl (by decide))
  refine (sum_at 12 8 4096 256 rfl rfl (sum_at 20 1 1048576 2 rfl rfl (sum_at 21 10 2097152 1024 rfl rfl e1 ((mask10 _).trans (congrArg (· % 1024) (fd y4 1 2 rfl (by decide)))) (by omega) (by omega) (by omega)) ((bitAnd_m1 _).trans (congrArg (· % 2) (fd y4 11 2048 rfl (by decide)))) (by omega) (by omega) (by omega)) ((bitAnd_m8 _).trans (congrArg (· % 256) (fd y4 12 4096 rfl (by decide)))) (by omega) (by omega) (by omega)).trans ?_
  omega
theorem enc_j {opc y1 y4 y5 : Int} (o0 : 0 ≤ opc) (o1 : opc < 128) (a1 : 0 ≤ y1 ∧ y1 < 32) :
    encI (Str.ofString "J") opc 0 0 y1 0 0 y4 y5 = opc + 128 * y1 + 4096 * (y4 / 4096 % 256 + 256 * (y4 / 2048 % 2) + 512 * (y4 / 2 % 1024) + 524288 * (y4 / 1048576 % 2)) := by
  unfold encI
  rw [show ([Str.ofString "I", Str.ofString "shift", Str.ofString "fence"].any fun x => x == Str.ofString "J") = false by decide +kernel, cond_false, show (Str.ofString "J" == Str.ofString "S") = false by decide +kernel, cond_false, show (Str.ofString "J" == Str.ofString "B") = false by decide +kernel, cond_false, show (Str.ofString "J" == Str.ofString "U") = false by decide +kernel, cond_false, show (Str.ofString "J" == Str.ofString "J") = true by decide +kernel, cond_true]
  have hf : foundI opc 0 0 y1 0 0 = opc + 128 * y1 + 4096 * 0 + 32768 * 0 + 1048576 * 0 + 33554432 * 0 := found_sum o0 o1 (by decide) (by decide) (by decide) (by decide) a1 ⟨by decide, by decide⟩ ⟨by decide, by decide⟩
  rw [jump_sum]
  refine (bor_at (a := foundI opc 0 0 y1 0 0) 12 20 4096 1048576 rfl rfl (by rw [hf]; omega) (by omega) (by omega)).trans ?_
  rw [hf]
  omega
theorem enc_u {opc y1 y4 y5 : Int} (o0 : 0 ≤ opc) (o1 : opc < 128) (a1 : 0 ≤ y1 ∧ y1 < 32) (a4 : 0 ≤ y4 ∧ y4 < 1048576) :
    encI (Str.ofString "U") opc 0 0 y1 0 0 y4 y5 = opc + 128 * y1 + 4096 * y4 := by
  unfold encI
  rw [show ([Str.ofString "I", Str.ofString "shift", Str.ofString "fence"].any fun x => x == Str.ofString "U") = false by decide +kernel, cond_false, show (Str.ofString "U" == Str.ofString "S") = false by decide +kernel, cond_false, show (Str.ofString "U" == Str.ofString "B") = false by decide +kernel, cond_false, show (Str.ofString "U" == Str.ofString "U") = true by decide +kernel, cond_true]
  refine (sum_at 12 20 4096 1048576 rfl rfl (found_sum o0 o1 (by decide) (by decide) (by decide) (by decide) a1 ⟨by decide, by decide⟩ ⟨by decide, by decide⟩) (rfl : y4 = y4) (by omega) (by omega) (by omega)).trans ?_
  omega
theorem enc_csr {opc thi y1 y2 y4 y5 : Int} (o0 : 0 ≤ opc) (o1 : opc < 128) (t0 : 0 ≤ thi) (t1 : thi < 8) (a1 : 0 ≤ y1 ∧ y1 < 32) (a2 : 0 ≤ y2 ∧ y2 < 32) (a5 : 0 ≤ y5 ∧ y5 < 4096) :
    encI (Str.ofString "CSR") opc thi 0 y1 y2 0 y4 y5 = opc + 128 * y1 + 4096 * thi + 32768 * y2 + 1048576 * y5 := by
  unfold encI
  rw [show ([Str.ofString "I", Str.ofString "shift", Str.ofString "fence"].any fun x => x == Str.ofString "CSR") = false by decide +kernel, cond_false, show (Str.ofString "CSR" == Str.ofString "S") = false by decide +kernel, cond_false, show (Str.ofString "CSR" == Str.ofString "B") = false by decide +kernel, cond_false, show (Str.ofString "CSR" == Str.ofString "U") = false by decide +kernel, cond_false, show (Str.ofString "CSR" == Str.ofString "J") = false by decide +kernel, cond_false, show (Str.ofString "CSR" == Str.ofString "CSR") = true by decide +kernel, cond_true]
  refine (sum_at 20 12 1048576 4096 rfl rfl (found_sum o0 o1 t0 t1 (by decide) (by decide) a1 a2 ⟨by decide, by decide⟩) (rfl : y5 = y5) (by omega) (by omega) (by omega)).trans ?_
  omega
theorem enc_csri {opc thi y1 y4 y5 : Int} (o0 : 0 ≤ opc) (o1 : opc < 128) (t0 : 0 ≤ thi) (t1 : thi < 8) (a1 : 0 ≤ y1 ∧ y1 < 32) (a4 : 0 ≤ y4 ∧ y4 < 32) (a5 : 0 ≤ y5 ∧ y5 < 4096) :
    encI (Str.ofString "CSRI") opc thi 0 y1 0 0 y4 y5 = opc + 128 * y1 + 4096 * thi + 32768 * y4 + 1048576 * y5 := by
  unfold encI
  rw [show ([Str.ofString "I", Str.ofString "shift", Str.ofString "fence"].any fun x => x == Str.ofString "CSRI") = false by decide +kernel, cond_false, show (Str.ofString "CSRI" == Str.ofString "S") = false by decide +kernel, cond_false, show (Str.ofString "CSRI" == Str.ofString "B") = false by decide +kernel, cond_false, show (Str.ofString "CSRI" == Str.ofString "U") = false by decide +kernel, cond_false, show (Str.ofString "CSRI" == Str.ofString "J") = false by decide +kernel, cond_false, show (Str.ofString "CSRI" == Str.ofString "CSR") = false by decide +kernel, cond_false, show (Str.ofString "CSRI" == Str.ofString "CSRI") = true by decide +kernel, cond_true]
  refine (sum_at 15 5 32768 32 rfl rfl (sum_at 20 12 1048576 4096 rfl rfl (found_sum o0 o1 t0 t1 (by decide) (by decide) a1 ⟨by decide, by decide⟩ ⟨by decide, by decide⟩) (rfl : y5 = y5) (by omega) (by omega) (by omega)) (rfl : y4 = y4) (by omega) (by omega) (by omega)).trans ?_
  omega
theorem enc_o {kind : Str} (h1 : ([Str.ofString "I", Str.ofString "shift", Str.ofString "fence"].any fun x => x == kind) = false) (h2 : (kind == Str.ofString "S") = false) (h3 : (kind == Str.ofString "B") = false) (h4 : (kind == Str.ofString "U") = false) (h5 : (kind == Str.ofString "J") = false) (h6 : (kind == Str.ofString "CSR") = false) (h7 : (kind == Str.ofString "CSRI") = false)
    {opc thi sev y1 y2 y3 y4 y5 : Int} (o0 : 0 ≤ opc) (o1 : opc < 128) (t0 : 0 ≤ thi) (t1 : thi < 8) (s0 : 0 ≤ sev) (s1 : sev < 128) (a1 : 0 ≤ y1 ∧ y1 < 32) (a2 : 0 ≤ y2 ∧ y2 < 32) (a3 : 0 ≤ y3 ∧ y3 < 32) :
    encI kind opc thi sev y1 y2 y3 y4 y5 = opc + 128 * y1 + 4096 * thi + 32768 * y2 + 1048576 * y3 + 33554432 * sev := by
  unfold encI
  rw [h1, h2, h3, h4, h5, h6, h7]
  exact found_sum o0 o1 t0 t1 s0 s1 a1 a2 a3
end Mine
-- part RTC
namespace Mine
theorem resetRTC : True := by
  w_top off
  k_with_none
  k_with "omega" => lia
  exact True.intro
open PySem PySem.W PyProof.Rows PySem.Calls PySem.Spec
theorem q7 (x : Int) : x.fdiv (2 ^ Int.toNat 7) = x / 128 := fd x 7 128 rfl (by decide)
theorem q15 (x : Int) : x.fdiv (2 ^ Int.toNat 15) = x / 32768 := fd x 15 32768 rfl (by decide)
theorem q20 (x : Int) : x.fdiv (2 ^ Int.toNat 20) = x / 1048576 := fd x 20 1048576 rfl (by decide)
theorem q12 (x : Int) : x.fdiv (2 ^ Int.toNat 12) = x / 4096 := fd x 12 4096 rfl (by decide)
theorem q25 (x : Int) : x.fdiv (2 ^ Int.toNat 25) = x / 33554432 := fd x 25 33554432 rfl (by decide)
theorem q31 (x : Int) : x.fdiv (2 ^ Int.toNat 31) = x / 2147483648 := fd x 31 2147483648 rfl (by decide)
theorem q8 (x : Int) : x.fdiv (2 ^ Int.toNat 8) = x / 256 := fd x 8 256 rfl (by decide)
theorem q21 (x : Int) : x.fdiv (2 ^ Int.toNat 21) = x / 2097152 := fd x 21 2097152 rfl (by decide)
theorem q1 (x : Int) : x.fdiv (2 ^ Int.toNat 1) = x / 2 := fd x 1 2 rfl (by decide)
theorem q5 (x : Int) : x.fdiv (2 ^ Int.toNat 5) = x / 32 := fd x 5 32 rfl (by decide)
theorem q11 (x : Int) : x.fdiv (2 ^ Int.toNat 11) = x / 2048 := fd x 11 2048 rfl (by decide)
theorem m2048 (x : Int) : Builtin.bitAnd x 2048 = x / 2048 % 2 * 2048 := kbt_bit x 11
theorem mod_hi {K p r : Int} (h0 : 0 ≤ r) (h1 : r < K) : (K * p + r) % K = r := by
  rw [Int.add_comm, Int.add_mul_emod_self_left]
  exact Int.emod_eq_of_lt h0 h1
theorem gb_sum (w : Int) : Builtin.bitOr (Builtin.bitOr (Builtin.bitAnd (w.fdiv (2 ^ Int.toNat 7)) 1 * 2 ^ Int.toNat 11) (Builtin.bitAnd (w.fdiv (2 ^ Int.toNat 8)) 15 * 2 ^ Int.toNat 1)) (Builtin.bitAnd (w.fdiv (2 ^ Int.toNat 25)) 63 * 2 ^ Int.toNat 5) = w / 128 % 2 * 2048 + w / 256 % 16 * 2 + w / 33554432 % 64 * 32 := by
  simp only [q7, q8, q25, bitAnd_m1, bitAnd_m4, bitAnd_m6]
  have h1 : 0 ≤ w / 256 % 16 ∧ w / 256 % 16 < 16 := by omega
  refine sum_at 5 6 32 64 rfl rfl (sum_at 1 4 2 16 rfl rfl (rfl : w / 128 % 2 * 2 ^ Int.toNat 11 = w / 128 % 2 * 2048) rfl (by omega) (by omega) (by omega)) rfl ?_ (by omega) (by omega)
  generalize w / 256 % 16 = y at *
  generalize w / 128 % 2 = x at *
  rw [show x * 2048 + y * 2 = 2048 * x + y * 2 by omega, show (32 * 64 : Int) = 2048 by decide, mod_hi (by omega) (by omega)]
  omega
theorem gs_sum (w : Int) : Builtin.bitOr (w.fdiv (2 ^ Int.toNat 25) * 2 ^ Int.toNat 5) (Builtin.bitAnd (w.fdiv (2 ^ Int.toNat 7)) 31) = w / 33554432 * 32 + w / 128 % 32 := by
  simp only [q7, q25, bitAnd_m5]
  exact bor_low (a := w / 33554432 * 32) 5 32 rfl (by omega) (by omega) (by omega)
theorem gj_sum (w : Int) : Builtin.bitOr (Builtin.bitOr (Builtin.bitAnd (w.fdiv (2 ^ Int.toNat 12)) 255 * 2 ^ Int.toNat 12) (Builtin.bitAnd (w.fdiv (2 ^ Int.toNat 20)) 1 * 2 ^ Int.toNat 11)) (Builtin.bitAnd (w.fdiv (2 ^ Int.toNat 21)) 1023 * 2 ^ Int.toNat 1) = w / 4096 % 256 * 4096 + w / 1048576 % 2 * 2048 + w / 2097152 % 1024 * 2 := by
  simp only [q12, q20, q21, bitAnd_m1, bitAnd_m8, mask10]
  exact sum_at 1 10 2 1024 rfl rfl (sum_at 11 1 2048 2 rfl rfl (rfl : w / 4096 % 256 * 2 ^ Int.toNat 12 = w / 4096 % 256 * 4096) rfl (by omega) (by omega) (by omega)) rfl (by omega) (by omega) (by omega)
noncomputable def sg (c x k : Int) : Int := if c = 0 then x else x - k
noncomputable def fA (w : Int) : Int := Builtin.bitAnd (w.fdiv (2 ^ Int.toNat 7)) 31
noncomputable def fB (w : Int) : Int := Builtin.bitAnd (w.fdiv (2 ^ Int.toNat 15)) 31
noncomputable def fC (w : Int) : Int := Builtin.bitAnd (w.fdiv (2 ^ Int.toNat 20)) 31
noncomputable def fH (w : Int) : Int := w.fdiv (2 ^ Int.toNat 20)
noncomputable def fT (w : Int) : Int := w.fdiv (2 ^ Int.toNat 31)
noncomputable def gB (w : Int) : Int := Builtin.bitOr (Builtin.bitOr (Builtin.bitAnd (w.fdiv (2 ^ Int.toNat 7)) 1 * 2 ^ Int.toNat 11) (Builtin.bitAnd (w.fdiv (2 ^ Int.toNat 8)) 15 * 2 ^ Int.toNat 1)) (Builtin.bitAnd (w.fdiv (2 ^ Int.toNat 25)) 63 * 2 ^ Int.toNat 5)
noncomputable def gS (w : Int) : Int := Builtin.bitOr (w.fdiv (2 ^ Int.toNat 25) * 2 ^ Int.toNat 5) (Builtin.bitAnd (w.fdiv (2 ^ Int.toNat 7)) 31)
noncomputable def gJ (w : Int) : Int := Builtin.bitOr (Builtin.bitOr (Builtin.bitAnd (w.fdiv (2 ^ Int.toNat 12)) 255 * 2 ^ Int.toNat 12) (Builtin.bitAnd (w.fdiv (2 ^ Int.toNat 20)) 1 * 2 ^ Int.toNat 11)) (Builtin.bitAnd (w.fdiv (2 ^ Int.toNat 21)) 1023 * 2 ^ Int.toNat 1)
noncomputable def decF (w : Int) (kind : Str) : Int × Int × Int × Int × Int :=
  cond (kind == Str.ofString "I") (fA w, fB w, 0, sg (Builtin.bitAnd (fH w) 2048) (fH w) 4096, 0) (
  cond (kind == Str.ofString "R") (fA w, fB w, fC w, 0, 0) (
  cond (kind == Str.ofString "B") (0, fB w, fC w, sg (fT w) (gB w) 4096, 0) (
  cond (kind == Str.ofString "S") (0, fB w, fC w, sg (fT w) (gS w) 4096, 0) (
  cond (kind == Str.ofString "U") (fA w, 0, 0, w.fdiv (2 ^ Int.toNat 12), 0) (
  cond (kind == Str.ofString "J") (fA w, 0, 0, sg (fT w) (gJ w) 1048576, 0) (
  cond (kind == Str.ofString "shift") (fA w, fB w, 0, fC w, 0) (
  cond (kind == Str.ofString "fence") (fA w, fB w, 0, fH w, 0) (
  cond (kind == Str.ofString "CSR") (fA w, fB w, 0, 0, fH w) (
  cond (kind == Str.ofString "CSRI") (fA w, 0, 0, fB w, fH w) (
  cond (kind == Str.ofString "flush") (0, fB w, fC w, 0, 0) (
  (0, 0, 0, 0, 0))))))))))))
theorem sg0 {c x k : Int} (h : c = 0) : x = sg c x k := (if_pos h).symm
theorem sg1 {c x k : Int} (h : c ≠ 0) : x - k = sg c x k := (if_neg h).symm
theorem at4 {a b c d d' e : Int} (h : d = d') : (a, b, c, d, e) = (a, b, c, d', e) := by rw [h]
theorem decF_I (w : Int) : decF w (Str.ofString "I") = (fA w, fB w, 0, sg (Builtin.bitAnd (fH w) 2048) (fH w) 4096, 0) := by kernel_rfl
theorem decF_R (w : Int) : decF w (Str.ofString "R") = (fA w, fB w, fC w, 0, 0) := by kernel_rfl
theorem decF_B (w : Int) : decF w (Str.ofString "B") = (0, fB w, fC w, sg (fT w) (gB w) 4096, 0) := by kernel_rfl
theorem decF_S (w : Int) : decF w (Str.ofString "S") = (0, fB w, fC w, sg (fT w) (gS w) 4096, 0) := by kernel_rfl
theorem decF_U (w : Int) : decF w (Str.ofString "U") = (fA w, 0, 0, w.fdiv (2 ^ Int.toNat 12), 0) := by kernel_rfl
theorem decF_J (w : Int) : decF w (Str.ofString "J") = (fA w, 0, 0, sg (fT w) (gJ w) 1048576, 0) := by kernel_rfl
theorem decF_shift (w : Int) : decF w (Str.ofString "shift") = (fA w, fB w, 0, fC w, 0) := by kernel_rfl
theorem decF_fence (w : Int) : decF w (Str.ofString "fence") = (fA w, fB w, 0, fH w, 0) := by kernel_rfl
theorem decF_CSR (w : Int) : decF w (Str.ofString "CSR") = (fA w, fB w, 0, 0, fH w) := by kernel_rfl
theorem decF_CSRI (w : Int) : decF w (Str.ofString "CSRI") = (fA w, 0, 0, fB w, fH w) := by kernel_rfl
theorem decF_flush (w : Int) : decF w (Str.ofString "flush") = (0, fB w, fC w, 0, 0) := by kernel_rfl
theorem decF_system (w : Int) : decF w (Str.ofString "system") = (0, 0, 0, 0, 0) := by kernel_rfl
theorem dec_eq {w : Int} {kind : Str} {z1 z2 z3 z4 z5 : Int} (h : DecR w kind z1 z2 z3 z4 z5) : (z1, z2, z3, z4, z5) = decF w kind := by
  cases h with
  | I1' q c => rw [eq_of_beq q, decF_I]; exact at4 (sg1 c)
  | I0' q c => rw [eq_of_beq q, decF_I]; exact at4 (sg0 c)
  | R' q => rw [eq_of_beq q, decF_R]; rfl
  | B1' q c => rw [eq_of_beq q, decF_B]; exact at4 (sg1 c)
  | B0' q c => rw [eq_of_beq q, decF_B]; exact at4 (sg0 c)
  | S1' q c => rw [eq_of_beq q, decF_S]; exact at4 (sg1 c)
  | S0' q c => rw [eq_of_beq q, decF_S]; exact at4 (sg0 c)
  | U' q => rw [eq_of_beq q, decF_U]; rfl
  | J1' q c => rw [eq_of_beq q, decF_J]; exact at4 (sg1 c)
  | J0' q c => rw [eq_of_beq q, decF_J]; exact at4 (sg0 c)
  | shift' q => rw [eq_of_beq q, decF_shift]; rfl
  | fence' q => rw [eq_of_beq q, decF_fence]; rfl
  | CSR' q => rw [eq_of_beq q, decF_CSR]; rfl
  | CSRI' q => rw [eq_of_beq q, decF_CSRI]; rfl
  | flush' q => rw [eq_of_beq q, decF_flush]; rfl
  | none' q1 q2 q3 q4 q5 q6 q7 q8 q9 q10 q11 => unfold decF; rw [q1, q2, q3, q4, q5, q6, q7, q8, q9, q10, q11]; rfl
theorem inv5 {w : Int} {kind : Str} {z1 z2 z3 z4 z5 x1 x2 x3 x4 x5 : Int} (h : DecR w kind z1 z2 z3 z4 z5) (e : decF w kind = (x1, x2, x3, x4, x5)) : z1 = x1 ∧ z2 = x2 ∧ z3 = x3 ∧ z4 = x4 ∧ z5 = x5 := by
  have q := (dec_eq h).trans e
  exact ⟨congrArg (·.1) q, congrArg (·.2.1) q, congrArg (·.2.2.1) q, congrArg (·.2.2.2.1) q, congrArg (·.2.2.2.2) q⟩
theorem tup5 {a b c d e a' b' c' d' e' : Int} (h1 : a = a') (h2 : b = b') (h3 : c = c') (h4 : d = d') (h5 : e = e') : (a, b, c, d, e) = (a', b', c', d', e') := by rw [h1, h2, h3, h4, h5]
structure Dig (W o a t b c d : Int) : Prop where
  e : W = o + 128 * (a + 32 * (t + 8 * (b + 32 * (c + 32 * d))))
  o0 : 0 ≤ o
  o1 : o < 128
  a0 : 0 ≤ a
  a1 : a < 32
  t0 : 0 ≤ t
  t1 : t < 8
  b0 : 0 ≤ b
  b1 : b < 32
  c0 : 0 ≤ c
  c1 : c < 32
  d0 : 0 ≤ d
  d1 : d < 128
theorem Dig.of {W o a t b c d : Int} (e : W = o + 128 * a + 4096 * t + 32768 * b + 1048576 * c + 33554432 * d) (o0 : 0 ≤ o) (o1 : o < 128) (a1 : 0 ≤ a ∧ a < 32) (t0 : 0 ≤ t) (t1 : t < 8) (b1 : 0 ≤ b ∧ b < 32) (c1 : 0 ≤ c ∧ c < 32) (d1 : 0 ≤ d ∧ d < 128) : Dig W o a t b c d :=
  ⟨by omega, o0, o1, a1.1, a1.2, t0, t1, b1.1, b1.2, c1.1, c1.2, d1.1, d1.2⟩
theorem dv {K r X : Int} (h0 : 0 ≤ r) (h1 : r < K) : (r + K * X) / K = X := by
  rw [Int.add_mul_ediv_left _ _ (Int.ne_of_gt (Int.lt_of_le_of_lt h0 h1)), Int.ediv_eq_zero_of_lt h0 h1, Int.zero_add]
theorem md {K r X : Int} (h0 : 0 ≤ r) (h1 : r < K) : (r + K * X) % K = r := by
  rw [Int.add_mul_emod_self_left, Int.emod_eq_of_lt h0 h1]
theorem dd {K L W X : Int} (hK : 0 ≤ K) (h : W / K = X) : W / (K * L) = X / L := by
  rw [← Int.ediv_ediv_of_nonneg hK, h]
theorem mr (x : Int) {K : Int} (h : 0 < K) : 0 ≤ x % K ∧ x % K < K := ⟨Int.emod_nonneg _ (Int.ne_of_gt h), Int.emod_lt_of_pos _ h⟩
section
variable {W o a t b c d : Int}
theorem Dig.bnd (D : Dig W o a t b c d) : 0 ≤ W ∧ W < 4294967296 := by
  obtain ⟨e, o0, o1, a0, a1, t0, t1, b0, b1, c0, c1, d0, d1⟩ := D
  omega
theorem Dig.op (D : Dig W o a t b c d) : W % 128 = o := by rw [D.e]; exact md D.o0 D.o1
theorem Dig.s1 (D : Dig W o a t b c d) : W / 128 = a + 32 * (t + 8 * (b + 32 * (c + 32 * d))) := by rw [D.e]; exact dv D.o0 D.o1
theorem Dig.s2 (D : Dig W o a t b c d) : W / 4096 = t + 8 * (b + 32 * (c + 32 * d)) := (dd (K := 128) (L := 32) (by decide) D.s1).trans (dv D.a0 D.a1)
theorem Dig.s3 (D : Dig W o a t b c d) : W / 32768 = b + 32 * (c + 32 * d) := (dd (K := 4096) (L := 8) (by decide) D.s2).trans (dv D.t0 D.t1)
theorem Dig.x1048576 (D : Dig W o a t b c d) : W / 1048576 = c + 32 * d := (dd (K := 32768) (L := 32) (by decide) D.s3).trans (dv D.b0 D.b1)
theorem Dig.x33554432 (D : Dig W o a t b c d) : W / 33554432 = d := (dd (K := 1048576) (L := 32) (by decide) D.x1048576).trans (dv D.c0 D.c1)
theorem Dig.x4096_8 (D : Dig W o a t b c d) : W / 4096 % 8 = t := by rw [D.s2]; exact md D.t0 D.t1
theorem Dig.x33554432_128 (D : Dig W o a t b c d) : W / 33554432 % 128 = d := by rw [D.x33554432, Int.emod_eq_of_lt D.d0 D.d1]
theorem Dig.x128_32 (D : Dig W o a t b c d) : W / 128 % 32 = a := by rw [D.s1]; exact md D.a0 D.a1
theorem Dig.x32768_32 (D : Dig W o a t b c d) : W / 32768 % 32 = b := by rw [D.s3]; exact md D.b0 D.b1
theorem Dig.x1048576_32 (D : Dig W o a t b c d) : W / 1048576 % 32 = c := by rw [D.x1048576]; exact md D.c0 D.c1
theorem Dig.A (D : Dig W o a t b c d) : fA W = a := by unfold fA; rw [q7, bitAnd_m5]; exact D.x128_32
theorem Dig.B (D : Dig W o a t b c d) : fB W = b := by unfold fB; rw [q15, bitAnd_m5]; exact D.x32768_32
theorem Dig.C (D : Dig W o a t b c d) : fC W = c := by unfold fC; rw [q20, bitAnd_m5]; exact D.x1048576_32
theorem Dig.H (D : Dig W o a t b c d) : fH W = c + 32 * d := by unfold fH; rw [q20]; exact D.x1048576
theorem Dig.T (D : Dig W o a t b c d) : fT W = d / 64 := by unfold fT; rw [q31]; exact dd (K := 33554432) (L := 64) (by decide) D.x33554432
theorem sg_top {x k d : Int} (h0 : 0 ≤ d) (h1 : d < 128) : sg (d / 64) x k = x - d / 64 * k := by
  have : d / 64 = 0 ∨ d / 64 = 1 := by omega
  unfold sg
  rcases this with h | h
  · rw [if_pos h, h, Int.zero_mul, Int.sub_zero]
  · rw [if_neg (by rw [h]; decide), h, Int.one_mul]
theorem Dig.h256 (D : Dig W o a t b c d) : W / 256 = (a + 32 * (t + 8 * (b + 32 * (c + 32 * d)))) / 2 := dd (K := 128) (L := 2) (by decide) D.s1
theorem Dig.h21 (D : Dig W o a t b c d) : W / 2097152 = (c + 32 * d) / 2 := dd (K := 1048576) (L := 2) (by decide) D.x1048576
theorem ev {a X : Int} (h0 : 0 ≤ a) (h1 : a < 32) : (a + 32 * X) / 2 % 16 = a / 2 ∧ (a + 32 * X) % 2 = a % 2 := by omega
theorem tb {t b X : Int} (h0 : 0 ≤ t) (h1 : t < 8) (h2 : 0 ≤ b) (h3 : b < 32) : (t + 8 * (b + 32 * X)) % 256 = t + 8 * b := by omega
theorem cd {c d : Int} (h0 : 0 ≤ c) (h1 : c < 32) : (c + 32 * d) % 2 = c % 2 ∧ (c + 32 * d) / 2 % 1024 = c / 2 + 16 * (d % 64) := by omega
theorem Dig.gb (D : Dig W o a t b c d) : gB W = a % 2 * 2048 + a / 2 * 2 + d % 64 * 32 := by
  unfold gB
  rw [gb_sum, D.x33554432, D.h256, D.s1, (ev D.a0 D.a1).1, (ev D.a0 D.a1).2]
theorem Dig.gs (D : Dig W o a t b c d) : gS W = d * 32 + a := by unfold gS; rw [gs_sum, D.x33554432, D.x128_32]
theorem Dig.gj (D : Dig W o a t b c d) : gJ W = (t + 8 * b) * 4096 + c % 2 * 2048 + (c / 2 + 16 * (d % 64)) * 2 := by
  unfold gJ
  rw [gj_sum, D.h21, D.x1048576, D.s2, tb D.t0 D.t1 D.b0 D.b1, (cd D.c0 D.c1).1, (cd D.c0 D.c1).2]
theorem lo12 (y : Int) : y % 32 + 32 * (y / 32 % 128) = y % 4096 := by omega
theorem sgn12 {y : Int} (h : -2048 ≤ y ∧ y ≤ 2047) : y % 4096 - y / 32 % 128 / 64 * 4096 = y := by omega
theorem sgI (D : Dig W o a t b c d) : sg (Builtin.bitAnd (fH W) 2048) (fH W) 4096 = c + 32 * d - d / 64 * 4096 := by
  rw [D.H, m2048]
  have h0 := D.c0
  have h1 := D.c1
  have e : (c + 32 * d) / 2048 % 2 = d / 64 := by
    have := D.d0
    have := D.d1
    omega
  rw [e]
  have : d / 64 = 0 ∨ d / 64 = 1 := by
    have := D.d0
    have := D.d1
    omega
  unfold sg
  rcases this with h | h
  · rw [h, Int.zero_mul, if_pos rfl, Int.zero_mul, Int.sub_zero]
  · rw [h, Int.one_mul, if_neg (by decide), Int.one_mul]
theorem z32 : (0 : Int) ≤ 0 ∧ (0 : Int) < 32 := by decide
theorem dg_I {opc thi y1 y2 y4 : Int} (o0 : 0 ≤ opc) (o1 : opc < 128) (t0 : 0 ≤ thi) (t1 : thi < 8) (a1 : 0 ≤ y1 ∧ y1 < 32) (a2 : 0 ≤ y2 ∧ y2 < 32) (a4 : -2048 ≤ y4 ∧ y4 ≤ 2047) : ∃ a t b c d, Dig (encI (Str.ofString "I") opc thi 0 y1 y2 0 y4 0) opc a t b c d ∧ t = thi ∧ ∀ z1 z2 z3 z4 z5, DecR (encI (Str.ofString "I") opc thi 0 y1 y2 0 y4 0) (Str.ofString "I") z1 z2 z3 z4 z5 → z1 = y1 ∧ z2 = y2 ∧ z3 = 0 ∧ z4 = y4 ∧ z5 = 0 := by
  have D : Dig (encI (Str.ofString "I") opc thi 0 y1 y2 0 y4 0) opc y1 thi y2 (y4 % 32) (y4 / 32 % 128) := .of (by rw [enc_i (by decide +kernel) o0 o1 t0 t1 a1 a2, ← lo12 y4, Int.mul_add, ← Int.mul_assoc, ← Int.add_assoc]; rfl) o0 o1 a1 t0 t1 a2 (mr _ (by decide)) (mr _ (by decide))
  exact ⟨_, _, _, _, _, D, rfl, fun z1 z2 z3 z4 z5 h => inv5 h ((decF_I _).trans (tup5 D.A D.B rfl ((sgI D).trans ((congrArg (· - _) (lo12 y4)).trans (sgn12 a4))) rfl))⟩
theorem dg_shift {opc thi y1 y2 y4 : Int} (o0 : 0 ≤ opc) (o1 : opc < 128) (t0 : 0 ≤ thi) (t1 : thi < 8) (a1 : 0 ≤ y1 ∧ y1 < 32) (a2 : 0 ≤ y2 ∧ y2 < 32) (a4 : 0 ≤ y4 ∧ y4 < 32) : ∃ a t b c d, Dig (encI (Str.ofString "shift") opc thi 0 y1 y2 0 y4 0) opc a t b c d ∧ t = thi ∧ d = 0 ∧ ∀ z1 z2 z3 z4 z5, DecR (encI (Str.ofString "shift") opc thi 0 y1 y2 0 y4 0) (Str.ofString "shift") z1 z2 z3 z4 z5 → z1 = y1 ∧ z2 = y2 ∧ z3 = 0 ∧ z4 = y4 ∧ z5 = 0 := by
  have D : Dig (encI (Str.ofString "shift") opc thi 0 y1 y2 0 y4 0) opc y1 thi y2 y4 0 := .of (by rw [enc_i (by decide +kernel) o0 o1 t0 t1 a1 a2, Int.emod_eq_of_lt a4.1 (Int.lt_trans a4.2 (by decide)), Int.mul_zero, Int.add_zero]) o0 o1 a1 t0 t1 a2 a4 (by decide)
  exact ⟨_, _, _, _, _, D, rfl, rfl, fun z1 z2 z3 z4 z5 h => inv5 h ((decF_shift _).trans (tup5 D.A D.B rfl D.C rfl))⟩
theorem dg_fence {opc thi y1 y2 y4 : Int} (o0 : 0 ≤ opc) (o1 : opc < 128) (t0 : 0 ≤ thi) (t1 : thi < 8) (a1 : 0 ≤ y1 ∧ y1 < 32) (a2 : 0 ≤ y2 ∧ y2 < 32) (a4 : 0 ≤ y4 ∧ y4 ≤ 4095) : ∃ a t b c d, Dig (encI (Str.ofString "fence") opc thi 0 y1 y2 0 y4 0) opc a t b c d ∧ t = thi ∧ ∀ z1 z2 z3 z4 z5, DecR (encI (Str.ofString "fence") opc thi 0 y1 y2 0 y4 0) (Str.ofString "fence") z1 z2 z3 z4 z5 → z1 = y1 ∧ z2 = y2 ∧ z3 = 0 ∧ z4 = y4 ∧ z5 = 0 := by
  have D : Dig (encI (Str.ofString "fence") opc thi 0 y1 y2 0 y4 0) opc y1 thi y2 (y4 % 32) (y4 / 32 % 128) := .of (by rw [enc_i (by decide +kernel) o0 o1 t0 t1 a1 a2, ← lo12 y4, Int.mul_add, ← Int.mul_assoc, ← Int.add_assoc]; rfl) o0 o1 a1 t0 t1 a2 (mr _ (by decide)) (mr _ (by decide))
  exact ⟨_, _, _, _, _, D, rfl, fun z1 z2 z3 z4 z5 h => inv5 h ((decF_fence _).trans (tup5 D.A D.B rfl (D.H.trans ((lo12 y4).trans (Int.emod_eq_of_lt a4.1 (Int.lt_of_le_of_lt a4.2 (by decide))))) rfl))⟩
theorem sgn12' {y : Int} (h : -2048 ≤ y ∧ y ≤ 2047) : y / 32 % 128 * 32 + y % 32 - y / 32 % 128 / 64 * 4096 = y := by omega
theorem dg_S {opc thi y2 y3 y4 : Int} (o0 : 0 ≤ opc) (o1 : opc < 128) (t0 : 0 ≤ thi) (t1 : thi < 8) (a2 : 0 ≤ y2 ∧ y2 < 32) (a3 : 0 ≤ y3 ∧ y3 < 32) (a4 : -2048 ≤ y4 ∧ y4 ≤ 2047) : ∃ a t b c d, Dig (encI (Str.ofString "S") opc thi 0 0 y2 y3 y4 0) opc a t b c d ∧ t = thi ∧ ∀ z1 z2 z3 z4 z5, DecR (encI (Str.ofString "S") opc thi 0 0 y2 y3 y4 0) (Str.ofString "S") z1 z2 z3 z4 z5 → z1 = 0 ∧ z2 = y2 ∧ z3 = y3 ∧ z4 = y4 ∧ z5 = 0 := by
  have D : Dig (encI (Str.ofString "S") opc thi 0 0 y2 y3 y4 0) opc (y4 % 32) thi y2 y3 (y4 / 32 % 128) := .of (enc_s o0 o1 t0 t1 a2 a3) o0 o1 (mr _ (by decide)) t0 t1 a2 a3 (mr _ (by decide))
  exact ⟨_, _, _, _, _, D, rfl, fun z1 z2 z3 z4 z5 h => inv5 h ((decF_S _).trans (tup5 rfl D.B D.C ((by rw [D.T, D.gs] : sg (fT _) (gS _) 4096 = _).trans ((sg_top D.d0 D.d1).trans (sgn12' a4))) rfl))⟩
theorem br1 (y : Int) : (0 ≤ y / 2 % 16 * 2 + y / 2048 % 2 ∧ y / 2 % 16 * 2 + y / 2048 % 2 < 32) ∧ (0 ≤ y / 32 % 64 + 64 * (y / 4096 % 2) ∧ y / 32 % 64 + 64 * (y / 4096 % 2) < 128) := by omega
theorem br2 (y : Int) : (y / 2 % 16 * 2 + y / 2048 % 2) % 2 = y / 2048 % 2 ∧ (y / 2 % 16 * 2 + y / 2048 % 2) / 2 = y / 2 % 16 := by
  have h0 := Int.emod_nonneg (y / 2048) (b := 2) (by decide)
  have h1 := Int.emod_lt_of_pos (y / 2048) (b := 2) (by decide)
  generalize y / 2048 % 2 = p at *
  generalize y / 2 % 16 = q at *
  omega
theorem br3 (y : Int) : (y / 32 % 64 + 64 * (y / 4096 % 2)) % 64 = y / 32 % 64 ∧ (y / 32 % 64 + 64 * (y / 4096 % 2)) / 64 = y / 4096 % 2 := by
  have h0 := Int.emod_nonneg (y / 32) (b := 64) (by decide)
  have h1 := Int.emod_lt_of_pos (y / 32) (b := 64) (by decide)
  generalize y / 32 % 64 = p at *
  generalize y / 4096 % 2 = q at *
  omega
theorem br4 {y : Int} (h : -4096 ≤ y ∧ y ≤ 4094 ∧ y % 2 = 0) : y / 2048 % 2 * 2048 + y / 2 % 16 * 2 + y / 32 % 64 * 32 - y / 4096 % 2 * 4096 = y := by
  obtain ⟨x, rfl⟩ : ∃ x, y = 2 * x := ⟨y / 2, by omega⟩
  omega
theorem dg_B {opc thi y2 y3 y4 : Int} (o0 : 0 ≤ opc) (o1 : opc < 128) (t0 : 0 ≤ thi) (t1 : thi < 8) (a2 : 0 ≤ y2 ∧ y2 < 32) (a3 : 0 ≤ y3 ∧ y3 < 32) (a4 : -4096 ≤ y4 ∧ y4 ≤ 4094 ∧ y4 % 2 = 0) : ∃ a t b c d, Dig (encI (Str.ofString "B") opc thi 0 0 y2 y3 y4 0) opc a t b c d ∧ t = thi ∧ ∀ z1 z2 z3 z4 z5, DecR (encI (Str.ofString "B") opc thi 0 0 y2 y3 y4 0) (Str.ofString "B") z1 z2 z3 z4 z5 → z1 = 0 ∧ z2 = y2 ∧ z3 = y3 ∧ z4 = y4 ∧ z5 = 0 := by
  have D : Dig (encI (Str.ofString "B") opc thi 0 0 y2 y3 y4 0) opc (y4 / 2 % 16 * 2 + y4 / 2048 % 2) thi y2 y3 (y4 / 32 % 64 + 64 * (y4 / 4096 % 2)) := .of (by
    rw [enc_b o0 o1 t0 t1 a2 a3]
    generalize y4 / 2 % 16 * 2 + y4 / 2048 % 2 = x
    generalize y4 / 32 % 64 + 64 * (y4 / 4096 % 2) = z
    omega) o0 o1 (br1 y4).1 t0 t1 a2 a3 (br1 y4).2
  exact ⟨_, _, _, _, _, D, rfl, fun z1 z2 z3 z4 z5 h => inv5 h ((decF_B _).trans (tup5 rfl D.B D.C ((by rw [D.T, D.gb] : sg (fT _) (gB _) 4096 = _).trans ((sg_top D.d0 D.d1).trans (by rw [(br2 y4).1, (br2 y4).2, (br3 y4).1, (br3 y4).2]; exact br4 a4))) rfl))⟩
theorem j1 {r q p v : Int} (r1 : 0 ≤ r ∧ r < 256) (q1 : 0 ≤ q ∧ q < 2) (p1 : 0 ≤ p ∧ p < 1024) (v1 : 0 ≤ v ∧ v < 2) : (0 ≤ r / 8 ∧ r / 8 < 32) ∧ (0 ≤ q + 2 * (p % 16) ∧ q + 2 * (p % 16) < 32) ∧ (0 ≤ p / 16 + 64 * v ∧ p / 16 + 64 * v < 128) := by omega
theorem j2 {r q p v : Int} (q1 : 0 ≤ q ∧ q < 2) (p1 : 0 ≤ p ∧ p < 1024) : r % 8 + 8 * (r / 8) = r ∧ (q + 2 * (p % 16)) % 2 = q ∧ (q + 2 * (p % 16)) / 2 + 16 * ((p / 16 + 64 * v) % 64) = p ∧ (p / 16 + 64 * v) / 64 = v := by omega
theorem j3 {y : Int} (h : -1048576 ≤ y ∧ y ≤ 1048574 ∧ y % 2 = 0) : y / 4096 % 256 * 4096 + y / 2048 % 2 * 2048 + y / 2 % 1024 * 2 - y / 1048576 % 2 * 1048576 = y := by
  obtain ⟨x, rfl⟩ : ∃ x, y = 2 * x := ⟨y / 2, by omega⟩
  omega
theorem dg_J {opc y1 y4 : Int} (o0 : 0 ≤ opc) (o1 : opc < 128) (a1 : 0 ≤ y1 ∧ y1 < 32) (a4 : -1048576 ≤ y4 ∧ y4 ≤ 1048574 ∧ y4 % 2 = 0) : ∃ a t b c d, Dig (encI (Str.ofString "J") opc 0 0 y1 0 0 y4 0) opc a t b c d ∧ ∀ z1 z2 z3 z4 z5, DecR (encI (Str.ofString "J") opc 0 0 y1 0 0 y4 0) (Str.ofString "J") z1 z2 z3 z4 z5 → z1 = y1 ∧ z2 = 0 ∧ z3 = 0 ∧ z4 = y4 ∧ z5 = 0 := by
  have e := enc_j (y4 := y4) (y5 := 0) o0 o1 a1
  have f := j3 a4
  have r1 := mr (y4 / 4096) (K := 256) (by decide)
  have q1 := mr (y4 / 2048) (K := 2) (by decide)
  have p1 := mr (y4 / 2) (K := 1024) (by decide)
  have v1 := mr (y4 / 1048576) (K := 2) (by decide)
  generalize y4 / 4096 % 256 = r at *
  generalize y4 / 2048 % 2 = q at *
  generalize y4 / 2 % 1024 = p at *
  generalize y4 / 1048576 % 2 = v at *
  obtain ⟨k1, k2, k3⟩ := j1 r1 q1 p1 v1
  obtain ⟨m1, m2, m3, m4⟩ := j2 (r := r) (v := v) q1 p1
  have D : Dig (encI (Str.ofString "J") opc 0 0 y1 0 0 y4 0) opc y1 (r % 8) (r / 8) (q + 2 * (p % 16)) (p / 16 + 64 * v) := .of (by rw [e]; omega) o0 o1 a1 (mr r (K := 8) (by decide)).1 (mr r (K := 8) (by decide)).2 k1 k2 k3
  refine ⟨_, _, _, _, _, D, fun z1 z2 z3 z4 z5 h => inv5 h ((decF_J _).trans (tup5 D.A rfl rfl ((by rw [D.T, D.gj] : sg (fT _) (gJ _) 1048576 = _).trans ((sg_top D.d0 D.d1).trans ?_)) rfl))⟩
  rw [m1, m2, m3, m4]
  exact f
theorem u1 (y : Int) : y % 8 + 8 * (y / 8 % 32 + 32 * (y / 256 % 32 + 32 * (y / 8192))) = y := by omega
theorem u2 {y : Int} (h : 0 ≤ y ∧ y < 1048576) : 0 ≤ y / 8192 ∧ y / 8192 < 128 := by omega
theorem dg_U {opc y1 y4 : Int} (o0 : 0 ≤ opc) (o1 : opc < 128) (a1 : 0 ≤ y1 ∧ y1 < 32) (a4 : 0 ≤ y4 ∧ y4 < 1048576) : ∃ a t b c d, Dig (encI (Str.ofString "U") opc 0 0 y1 0 0 y4 0) opc a t b c d ∧ ∀ z1 z2 z3 z4 z5, DecR (encI (Str.ofString "U") opc 0 0 y1 0 0 y4 0) (Str.ofString "U") z1 z2 z3 z4 z5 → z1 = y1 ∧ z2 = 0 ∧ z3 = 0 ∧ z4 = y4 ∧ z5 = 0 := by
  have D : Dig (encI (Str.ofString "U") opc 0 0 y1 0 0 y4 0) opc y1 (y4 % 8) (y4 / 8 % 32) (y4 / 256 % 32) (y4 / 8192) := .of (by
    rw [enc_u o0 o1 a1 a4]
    have := u1 y4
    generalize y4 % 8 = p at *
    generalize y4 / 8 % 32 = q at *
    generalize y4 / 256 % 32 = r at *
    generalize y4 / 8192 = s at *
    omega) o0 o1 a1 (mr _ (K := 8) (by decide)).1 (mr _ (K := 8) (by decide)).2 (mr _ (by decide)) (mr _ (by decide)) (u2 a4)
  exact ⟨_, _, _, _, _, D, fun z1 z2 z3 z4 z5 h => inv5 h ((decF_U _).trans (tup5 D.A rfl rfl ((q12 _).trans (D.s2.trans (u1 y4))) rfl))⟩
theorem c1 {y : Int} (h : 0 ≤ y ∧ y < 4096) : (0 ≤ y / 32 ∧ y / 32 < 128) ∧ y % 32 + 32 * (y / 32) = y := by omega
theorem dg_CSR {opc thi y1 y2 y5 : Int} (o0 : 0 ≤ opc) (o1 : opc < 128) (t0 : 0 ≤ thi) (t1 : thi < 8) (a1 : 0 ≤ y1 ∧ y1 < 32) (a2 : 0 ≤ y2 ∧ y2 < 32) (a5 : 0 ≤ y5 ∧ y5 < 4096) : ∃ a t b c d, Dig (encI (Str.ofString "CSR") opc thi 0 y1 y2 0 0 y5) opc a t b c d ∧ t = thi ∧ ∀ z1 z2 z3 z4 z5, DecR (encI (Str.ofString "CSR") opc thi 0 y1 y2 0 0 y5) (Str.ofString "CSR") z1 z2 z3 z4 z5 → z1 = y1 ∧ z2 = y2 ∧ z3 = 0 ∧ z4 = 0 ∧ z5 = y5 := by
  have D : Dig (encI (Str.ofString "CSR") opc thi 0 y1 y2 0 0 y5) opc y1 thi y2 (y5 % 32) (y5 / 32) := .of (by
    rw [enc_csr o0 o1 t0 t1 a1 a2 a5]
    have := (c1 a5).2
    generalize y5 % 32 = p at *
    generalize y5 / 32 = q at *
    omega) o0 o1 a1 t0 t1 a2 (mr _ (by decide)) (c1 a5).1
  exact ⟨_, _, _, _, _, D, rfl, fun z1 z2 z3 z4 z5 h => inv5 h ((decF_CSR _).trans (tup5 D.A D.B rfl rfl (D.H.trans (c1 a5).2)))⟩
theorem dg_CSRI {opc thi y1 y4 y5 : Int} (o0 : 0 ≤ opc) (o1 : opc < 128) (t0 : 0 ≤ thi) (t1 : thi < 8) (a1 : 0 ≤ y1 ∧ y1 < 32) (a4 : 0 ≤ y4 ∧ y4 < 32) (a5 : 0 ≤ y5 ∧ y5 < 4096) : ∃ a t b c d, Dig (encI (Str.ofString "CSRI") opc thi 0 y1 0 0 y4 y5) opc a t b c d ∧ t = thi ∧ ∀ z1 z2 z3 z4 z5, DecR (encI (Str.ofString "CSRI") opc thi 0 y1 0 0 y4 y5) (Str.ofString "CSRI") z1 z2 z3 z4 z5 → z1 = y1 ∧ z2 = 0 ∧ z3 = 0 ∧ z4 = y4 ∧ z5 = y5 := by
  have D : Dig (encI (Str.ofString "CSRI") opc thi 0 y1 0 0 y4 y5) opc y1 thi y4 (y5 % 32) (y5 / 32) := .of (by
    rw [enc_csri o0 o1 t0 t1 a1 a4 a5]
    have := (c1 a5).2
    generalize y5 % 32 = p at *
    generalize y5 / 32 = q at *
    omega) o0 o1 a1 t0 t1 a4 (mr _ (by decide)) (c1 a5).1
  exact ⟨_, _, _, _, _, D, rfl, fun z1 z2 z3 z4 z5 h => inv5 h ((decF_CSRI _).trans (tup5 D.A rfl rfl D.B (D.H.trans (c1 a5).2)))⟩
theorem dg_R {opc thi sev y1 y2 y3 : Int} (o0 : 0 ≤ opc) (o1 : opc < 128) (t0 : 0 ≤ thi) (t1 : thi < 8) (s0 : 0 ≤ sev) (s1 : sev < 128) (a1 : 0 ≤ y1 ∧ y1 < 32) (a2 : 0 ≤ y2 ∧ y2 < 32) (a3 : 0 ≤ y3 ∧ y3 < 32) : ∃ a t b c d, Dig (encI (Str.ofString "R") opc thi sev y1 y2 y3 0 0) opc a t b c d ∧ t = thi ∧ d = sev ∧ ∀ z1 z2 z3 z4 z5, DecR (encI (Str.ofString "R") opc thi sev y1 y2 y3 0 0) (Str.ofString "R") z1 z2 z3 z4 z5 → z1 = y1 ∧ z2 = y2 ∧ z3 = y3 ∧ z4 = 0 ∧ z5 = 0 := by
  have D : Dig (encI (Str.ofString "R") opc thi sev y1 y2 y3 0 0) opc y1 thi y2 y3 sev := .of (enc_o (by decide +kernel) (by decide +kernel) (by decide +kernel) (by decide +kernel) (by decide +kernel) (by decide +kernel) (by decide +kernel) o0 o1 t0 t1 s0 s1 a1 a2 a3) o0 o1 a1 t0 t1 a2 a3 ⟨s0, s1⟩
  exact ⟨_, _, _, _, _, D, rfl, rfl, fun z1 z2 z3 z4 z5 h => inv5 h ((decF_R _).trans (tup5 D.A D.B D.C rfl rfl))⟩
theorem dg_flush {opc thi sev y2 y3 : Int} (o0 : 0 ≤ opc) (o1 : opc < 128) (t0 : 0 ≤ thi) (t1 : thi < 8) (s0 : 0 ≤ sev) (s1 : sev < 128) (a2 : 0 ≤ y2 ∧ y2 < 32) (a3 : 0 ≤ y3 ∧ y3 < 32) : ∃ a t b c d, Dig (encI (Str.ofString "flush") opc thi sev 0 y2 y3 0 0) opc a t b c d ∧ t = thi ∧ d = sev ∧ a = 0 ∧ ∀ z1 z2 z3 z4 z5, DecR (encI (Str.ofString "flush") opc thi sev 0 y2 y3 0 0) (Str.ofString "flush") z1 z2 z3 z4 z5 → z1 = 0 ∧ z2 = y2 ∧ z3 = y3 ∧ z4 = 0 ∧ z5 = 0 := by
  have D : Dig (encI (Str.ofString "flush") opc thi sev 0 y2 y3 0 0) opc 0 thi y2 y3 sev := .of (enc_o (by decide +kernel) (by decide +kernel) (by decide +kernel) (by decide +kernel) (by decide +kernel) (by decide +kernel) (by decide +kernel) o0 o1 t0 t1 s0 s1 z32 a2 a3) o0 o1 z32 t0 t1 a2 a3 ⟨s0, s1⟩
  exact ⟨_, _, _, _, _, D, rfl, rfl, rfl, fun z1 z2 z3 z4 z5 h => inv5 h ((decF_flush _).trans (tup5 rfl D.B D.C rfl rfl))⟩
theorem dg_system {opc thi sev : Int} (o0 : 0 ≤ opc) (o1 : opc < 128) (t0 : 0 ≤ thi) (t1 : thi < 8) (s0 : 0 ≤ sev) (s1 : sev < 128) : ∃ a t b c d, Dig (encI (Str.ofString "system") opc thi sev 0 0 0 0 0) opc a t b c d ∧ t = thi ∧ d = sev ∧ a = 0 ∧ b = 0 ∧ c = 0 ∧ ∀ z1 z2 z3 z4 z5, DecR (encI (Str.ofString "system") opc thi sev 0 0 0 0 0) (Str.ofString "system") z1 z2 z3 z4 z5 → z1 = 0 ∧ z2 = 0 ∧ z3 = 0 ∧ z4 = 0 ∧ z5 = 0 := by
  have D : Dig (encI (Str.ofString "system") opc thi sev 0 0 0 0 0) opc 0 thi 0 0 sev := .of (enc_o (by decide +kernel) (by decide +kernel) (by decide +kernel) (by decide +kernel) (by decide +kernel) (by decide +kernel) (by decide +kernel) o0 o1 t0 t1 s0 s1 z32 z32 z32) o0 o1 z32 t0 t1 z32 z32 ⟨s0, s1⟩
  exact ⟨_, _, _, _, _, D, rfl, rfl, rfl, rfl, rfl, fun z1 z2 z3 z4 z5 h => inv5 h (decF_system _)⟩
end
end Mine
-- part LTD
namespace Mine
theorem resetLTD : True := by
  w_top off
  k_with_none
  k_with "omega" => lia
  exact True.intro
open PySem PySem.W PyProof.Rows PySem.Calls PySem.Spec
noncomputable section
theorem own_abi (w : World) : Txt.split (Str.ofString "zero ra sp gp tp t0 t1 t2 s0 s1 a0 a1 a2 a3 a4 a5 a6 a7 s2 s3 s4 s5 s6 s7 s8 s9 s10 s11 t3 t4 t5 t6") (Str.ofString " ") = abiS w := by kernel_rfl
theorem own_item {w : World} {A : Around} {E : Value → Shared → Prop} {s : Shared} {h₀ : Heap} {L D : Addr} {news : List (Addr × Obj)} {l : List (Str × Tok)} {n : Nat} {value slice : PySem.Expr} {k : Int} {u : Tok} {Q : Value → Shared → Prop} (N : News h₀ L s.heap news) (hm : (D, W.listOf (strValues l).toArray n) ∈ news)
    (e : l.map (·.1) = Txt.split (Str.ofString "zero ra sp gp tp t0 t1 t2 s0 s1 a0 a1 a2 a3 a4 a5 a6 a7 s2 s3 s4 s5 s6 s7 s8 s9 s10 s11 t3 t4 t5 t6") (Str.ofString " ")) (a : StrsAre (strValues l) (l.map (·.1))) (h0 : 0 ≤ k) (h1 : k < 32) (h : ∀ r t', abiAt w k = r → r.length ≤ 16 → Q (.str r t') s)
    (hs : subscripted slice false (.ref D) (.int k u) = operate [.ref D, .int k u] (getItem (.ref D) (.int k u)) := by with_unfolding_all rfl) :
    wpAny (model rwp w) A (subscriptTail value slice (.ref D) (.int k u)) Q E s := by
  rw [e, own_abi w] at a
  exact item_strsR (PySem.IsL.isList (n := n) (N _ hm).1) a h0 (by rw [abi_len]; exact h1) (by omega) (fun t' => h _ t' rfl (abi_short w k)) hs
theorem comp_end {h₀ : Heap} {L I C D : Addr} {m : Str → Option Value} {s₁ : Shared} {oI oC oD : Obj} {S : List (Addr × Obj) → Prop} {rest : Value → List (Addr × Obj) → Prop} {y : Value} {h' : Heap} {tk : Nat} {news' : List (Addr × Obj)}
    (F : Fr h₀ L h' m) (N : News h₀ L h' ((I, oI) :: (C, oC) :: (D, oD) :: news')) (off : LCg.Off3 I C D news') (hS : S news') (r : rest y news') :
    LCg.CompEnd h₀ L m s₁ I oI C oC D oD S rest y { s₁ with heap := h', toks := tk } := LCg.CompEnd.intro F N news' (fun _ h => h) off hS r
inductive StopI (P : Prop) : Prop
  | mk : P → StopI P
theorem my_stopI {P : Prop} (h : StopI P) : P := by cases h with | mk h => exact h
noncomputable def NoStop : Prop := 0 = 0
noncomputable def knownL : List (Int × Str) := [(256, Str.ofString "sstatus"), (321, Str.ofString "sepc"), (384, Str.ofString "satp"), (768, Str.ofString "mstatus"), (836, Str.ofString "mip"), (3072, Str.ofString "cycle")]
noncomputable def knownS (y : Int) : Str := match (knownL.find? fun p => decide (p.1 = y)) with
  | some p => p.2
  | none => PySem.baseText "0x" 16 y
noncomputable def KRel : List (Int × Value) → List (Int × Str) → Prop
  | [], [] => True
  | p :: r, q :: l => (p.1 = q.1 ∧ ∃ t, p.2 = .str q.2 t) ∧ KRel r l
  | _, _ => False
theorem krel_at {y : Int} {d : Str} {t : Tok} : ∀ {kvs : List (Int × Value)} {l : List (Int × Str)}, KRel kvs l → ∃ t', (valueAt kvs y).getD (.str d t) = .str (match (l.find? fun p => decide (p.1 = y)) with | some p => p.2 | none => d) t'
  | [], [], _ => ⟨t, rfl⟩
  | p :: r, q :: l, h => by
    obtain ⟨⟨e, u, e2⟩, h⟩ := h
    obtain ⟨t', ih⟩ := krel_at (y := y) (d := d) (t := t) h
    by_cases hy : q.1 = y
    · refine ⟨u, ?_⟩
      simp only [valueAt, List.find?_cons, e, hy, decide_true, Option.map_some, Option.getD_some, e2]
    · refine ⟨t', ?_⟩
      simp only [valueAt, List.find?_cons, e, hy, decide_false] at ih ⊢
      exact ih
  | [], _ :: _, h => h.elim
  | _ :: _, [], h => h.elim
theorem hex_short {y : Int} (h : -2097152 < y ∧ y < 2097152) : (PySem.baseText "0x" 16 y).length ≤ 9 := by
  unfold PySem.baseText
  rw [Str.length_append, Str.length_append]
  have h4 := ofString_ofList_length (Nat.toDigits 16 y.natAbs)
  have h1 := PySem.StrLaws.toDigits_len (k := 6) (n := y.natAbs) (by decide) (by omega)
  have h2 : (Str.ofString "0x").length = 2 := by decide
  have h3 : (Str.ofString (if y < 0 then "-" else "")).length ≤ 1 := by split <;> decide
  omega
theorem knownS_short {y : Int} (h0 : 0 ≤ y) (h1 : y < 4096) : (knownS y).length ≤ 16 := by
  have q := hex_short (y := y) ⟨by omega, by omega⟩
  unfold knownS
  split
  · next p hp =>
    have hm := List.mem_of_find?_eq_some hp
    have H : (knownL.all fun p => Nat.ble p.2.length 16) = true := by decide +kernel
    exact Nat.le_of_ble_eq_true (List.all_eq_true.mp H p hm)
  · omega
theorem known_get {w : World} {A : Around} {E : Value → Shared → Prop} {s : Shared} {h₀ : Heap} {L d : Addr} {o : Obj} {news : List (Addr × Obj)} {kvs : List (Int × Value)} {y : Int} {t t2 : Tok} {Q : Value → Shared → Prop} (N : News h₀ L s.heap news) (hp : (d, o) ∈ news) (hd : o.IsDictOf (PySem.intKind rwp w) kvs) (lo : (d == sysModules) = false) (hr : KRel kvs knownL)
    (h0 : 0 ≤ y) (h1 : y < 4096) (h : ∀ r t', knownS y = r → r.length ≤ 16 → Q (.str r t') { s with toks := s.toks + 1 }) : wpAny (model rwp w) A (call (.builtin "dict.get") [.ref d, .int y t, .str (PySem.baseText "0x" 16 y) t2]) Q E s := by
  obtain ⟨t', e⟩ := krel_at (y := y) (d := PySem.baseText "0x" 16 y) (t := t2) hr
  refine kdg_get2 N hp hd lo (intKind_is _ _ _ _) _ rfl ?_
  rw [e]
  exact h _ _ rfl (knownS_short h0 h1)
noncomputable def SRel : List (Str × Value) → List (Str × Str) → Prop
  | [], [] => True
  | p :: r, q :: l => (p.1 = q.1 ∧ ∃ t, p.2 = .str q.2 t) ∧ SRel r l
  | _, _ => False
noncomputable def rowOf (rl : List (Str × Str)) (k : Str) : Option Str := (rl.find? fun p => decide (p.1 = k)).map (·.2)
noncomputable def rowAt (rl : List (Str × Str)) (k : Str) : Str := (rowOf rl k).getD Str.empty
theorem srel_at {k : Str} : ∀ {kvs : List (Str × Value)} {l : List (Str × Str)}, SRel kvs l → (rowOf l k).isSome = true → ∃ t, valueAt kvs k = some (.str (rowAt l k) t)
  | [], [], _, h => by cases h
  | p :: r, q :: l, hr, h => by
    obtain ⟨⟨e, u, e2⟩, hr⟩ := hr
    by_cases hy : q.1 = k
    · refine ⟨u, ?_⟩
      simp only [valueAt, rowAt, rowOf, List.find?_cons, e, hy, decide_true, Option.map_some, Option.getD_some, e2]
    · have h' : (rowOf l k).isSome = true := by
        simp only [rowOf, List.find?_cons, hy, decide_false] at h ⊢
        exact h
      obtain ⟨t', ih⟩ := srel_at hr h'
      refine ⟨t', ?_⟩
      simp only [valueAt, rowAt, rowOf, List.find?_cons, e, hy, decide_false] at ih ⊢
      exact ih
  | [], _ :: _, hr, _ => hr.elim
  | _ :: _, [], hr, _ => hr.elim
noncomputable def rowsL (w : World) (y1 y2 y3 y4 y5 : Int) : List (Str × Str) := [(Str.ofString "rd", abiAt w y1), (Str.ofString "rs1", abiAt w y2), (Str.ofString "rs2", abiAt w y3), (Str.ofString "imm", Str.ofString (toString y4)), (Str.ofString "hex", PySem.baseText "0x" 16 y4), (Str.ofString "csr", knownS y5), (Str.ofString "imm(rs1)", Str.ofString (toString y4) ++ Str.ofString "(" ++ abiAt w y2 ++ Str.ofString ")")]
theorem text_short {y : Int} (h : -2097152 < y ∧ y < 2097152) : (Str.ofString (toString y)).length ≤ 1921 := int_text_len_1921 (by
  by_cases e : y.natAbs = 0
  · rw [e]; decide
  · exact Nat.lt_of_lt_of_le ((Nat.log2_lt e).mpr (show y.natAbs < 2 ^ 21 by omega)) (by decide))
theorem rows_short (w : World) {y1 y2 y3 y4 y5 : Int} (b4 : -2097152 < y4 ∧ y4 < 2097152) (b5 : 0 ≤ y5 ∧ y5 < 4096) : ∀ p ∈ rowsL w y1 y2 y3 y4 y5, p.2.length ≤ 2000 := by
  have q1 := abi_short w y1
  have q2 := abi_short w y2
  have q3 := abi_short w y3
  have q4 := text_short b4
  have q5 := knownS_short b5.1 b5.2
  have q6 := hex_short b4
  have q7 := Str.length_append (Str.ofString (toString y4)) (Str.ofString "(")
  have q8 := Str.length_append (Str.ofString (toString y4) ++ Str.ofString "(") (abiAt w y2)
  have q9 := Str.length_append (Str.ofString (toString y4) ++ Str.ofString "(" ++ abiAt w y2) (Str.ofString ")")
  have e1 : (Str.ofString "(").length = 1 := by decide
  have e2 : (Str.ofString ")").length = 1 := by decide
  intro p hp
  simp only [rowsL, List.mem_cons, List.not_mem_nil, or_false] at hp
  rcases hp with rfl | rfl | rfl | rfl | rfl | rfl | rfl <;> dsimp only <;> omega
theorem rowAt_short {rl : List (Str × Str)} {B : Nat} (h : ∀ p ∈ rl, p.2.length ≤ B) (k : Str) : (rowAt rl k).length ≤ B := by
  unfold rowAt rowOf
  cases q : rl.find? fun p => decide (p.1 = k) with
  | none => exact Nat.zero_le _
  | some p => exact h p (List.mem_of_find?_eq_some q)
theorem sum_short {B : Nat} : ∀ {ys : List Str}, (∀ y ∈ ys, y.length ≤ B) → (ys.map (·.length)).sum ≤ ys.length * B
  | [], _ => Nat.zero_le _
  | y :: r, h => by
    have h1 := h y (.head _)
    have h2 := sum_short fun z hz => h z (.tail _ hz)
    simp only [List.map_cons, List.sum_cons, List.length_cons, Nat.succ_mul]
    omega
theorem rows_item {w : World} {A : Around} {E : Value → Shared → Prop} {s : Shared} {h₀ : Heap} {L d : Addr} {o : Obj} {news : List (Addr × Obj)} {value slice : PySem.Expr} {kvs : List (Str × Value)} {rl : List (Str × Str)} {k : Str} {t : Tok} {Q : Value → Shared → Prop} (N : News h₀ L s.heap news) (hp : (d, o) ∈ news) (hd : o.IsDictOf (PySem.strKind rwp w) kvs) (hr : SRel kvs rl) (hk : (rowOf rl k).isSome = true)
    (h : ∀ t', Q (.str (rowAt rl k) t') { s with toks := s.toks + 1 }) (hs : subscripted slice false (.ref d) (.str k t) = operate [.ref d, .str k t] (getItem (.ref d) (.str k t)) := by with_unfolding_all rfl) (hg : ∀ r, letTemporaryGo value (.ref d) r = pure () := by intro _; with_unfolding_all rfl) :
    wpAny (model rwp w) A (subscriptTail value slice (.ref d) (.str k t)) Q E s := by
  obtain ⟨t', e⟩ := srel_at hr hk
  exact kda_item N hp hd (strKind_is _ _ _ _) e (h t') hs hg
theorem comp_texts {prog : Program} {w : World} {A : Around} {h₀ : Heap} {L : Addr} {m : Str → Option Value} {env : Env} {elt : PySem.Expr} {x : Str} {scope : Scope} {cl : List (Str × Addr)} {s : Shared} {S : List (Addr × Obj) → Prop} {Fin : List Value → List (Addr × Obj) → Prop} {news : List (Addr × Obj)} {l : List (Str × Tok)} {f : Str → Str}
    (turn : ∀ (p : Str) (t : Tok) (rest : Value → List (Addr × Obj) → Prop), p ∈ l.map (·.1) → (∀ t', rest (.str (f p) t') news) → ∀ ys I oI C oC D m₂ h tk (E' : Value → Shared → Prop), LCg.NsObj oC m₂ → m₂ x = some (.str p t) → Fr h₀ L h m → News h₀ L h ((I, oI) :: (C, oC) :: (D, LCg.lst ys) :: news) → LCg.Off3 I C D news → ((@Ne Nat I C) ∧ (@Ne Nat I D) ∧ (@Ne Nat C D)) →
      wpAny (model prog w) A (eval elt (compEnvC scope cl C env)) (LCg.CompEnd h₀ L m { s with heap := h, toks := tk } I oI C oC D (LCg.lst ys) S rest) E' { s with heap := h, toks := tk })
    (fin : ∀ l' : List (Str × Tok), l'.map (·.1) = l.map (fun p => f p.1) → Fin (strValues l') news) {k : Nat} (hk : k = l.length) :
    LCg.CompRest prog w A h₀ L m env elt x scope cl s S (fun i v => (strValues l).toArray[i]? = some v) Fin k 0 [] news := by
  subst hk
  suffices H : ∀ (k i : Nat) (done : List (Str × Tok)), i + k = l.length → done.map (·.1) = (l.take i).map (fun p => f p.1) →
      LCg.CompRest prog w A h₀ L m env elt x scope cl s S (fun i v => (strValues l).toArray[i]? = some v) Fin k i (strValues done) news by
    exact H l.length 0 [] (Nat.zero_add _) rfl
  intro k
  induction k with
  | zero =>
    intro i done hi hd
    refine LCg.CompRest.zero (fin done ?_)
    rw [hd, List.take_of_length_le (by omega)]
  | succ k ih =>
    intro i done hi hd
    refine LCg.CompRest.succ ?_
    intro v I oI C oC D m₂ h tk E' hP hNs hx F N off ne
    have hlt : i < l.length := by omega
    have hv : v = .str l[i].1 l[i].2 := by
      have : (strValues l).toArray[i]? = some (Value.str l[i].1 l[i].2) := by simp [strValues, hlt]
      rw [this] at hP
      exact (Option.some.inj hP).symm
    subst hv
    refine turn l[i].1 l[i].2 _ (List.mem_map_of_mem (List.getElem_mem hlt)) (fun t' => ?_) _ I oI C oC D m₂ h tk E' hNs hx F N off ne
    have := ih (i + 1) (done ++ [(f l[i].1, t')]) (by omega) (by
      rw [List.map_append, hd, List.take_succ_eq_append_getElem hlt, List.map_append]
      rfl)
    rw [show strValues done ++ [Value.str (f l[i].1) t'] = strValues (done ++ [(f l[i].1, t')]) by simp [strValues]]
    exact this
theorem rows_rel {w : World} {y1 y2 y3 y4 y5 : Int} {r1 r2 r3 r5 r6 : Str} {k1 k2 k3 k4 k5 k6 t1 t2 t3 t4 t5 t6 t7 : Tok} (h1 : abiAt w y1 = r1) (h2 : abiAt w y2 = r2) (h3 : abiAt w y3 = r3) (h5 : knownS y5 = r5) (h6 : abiAt w y2 = r6) :
    SRel (stored (strPairs [(.str (Str.ofString "rd") k1, .str r1 t1), (.str (Str.ofString "rs1") k2, .str r2 t2), (.str (Str.ofString "rs2") k3, .str r3 t3), (.str (Str.ofString "imm") k4, .str (Str.ofString (toString y4)) t4), (.str (Str.ofString "hex") k5, .str (PySem.baseText "0x" 16 y4) t5), (.str (Str.ofString "csr") k6, .str r5 t6)]) (Str.ofString "imm(rs1)") (.str (Str.ofString (toString y4) ++ Str.ofString "(" ++ r6 ++ Str.ofString ")") t7)) (rowsL w y1 y2 y3 y4 y5) := by
  subst h1 h2 h3 h5 h6
  unfold stored
  split
  · next h => exact Bool.noConfusion (show false = true from h)
  exact ⟨⟨rfl, _, rfl⟩, ⟨rfl, _, rfl⟩, ⟨rfl, _, rfl⟩, ⟨rfl, _, rfl⟩, ⟨rfl, _, rfl⟩, ⟨rfl, _, rfl⟩, ⟨rfl, _, rfl⟩, trivial⟩
theorem strs_values : ∀ l : List (Str × Tok), StrsAre (strValues l) (l.map (·.1))
  | [] => .nil
  | (x, t) :: r => .cons x t (strs_values r)
theorem join_ok {w : World} {parts ys : List Str} {y1 y2 y3 y4 y5 : Int} (b4 : -2097152 < y4 ∧ y4 < 2097152) (b5 : 0 ≤ y5 ∧ y5 < 4096) (hp : parts.length ≤ 4) (e : ys = parts.map (rowAt (rowsL w y1 y2 y3 y4 y5))) :
    (ys.map (·.length)).sum + ys.length ≤ 8004 ∧ (Txt.join (Str.ofString ", ") ys).length ≤ 40000 := by
  have h1 : ∀ y ∈ ys, y.length ≤ 2000 := by
    intro y hy
    rw [e] at hy
    obtain ⟨p, _, rfl⟩ := List.mem_map.mp hy
    exact rowAt_short (rows_short w b4 b5) p
  have h2 := sum_short h1
  have h3 : ys.length ≤ 4 := by rw [e, List.length_map]; exact hp
  have h4 : (ys.map (·.length)).sum + ys.length ≤ 8004 := by
    have := Nat.mul_le_mul_right 2000 h3
    omega
  exact ⟨h4, Nat.le_trans (len_join_le (n := 8004) (show _ ≤ _ by omega) (by decide)) (by decide)⟩
theorem parts_size {l : List (Str × Tok)} {z parts : List Str} (h : l.map (·.1) = z) (e : z = parts) (hp : parts.length ≤ 4) : (strValues l).toArray.size ≤ sizeLine := by
  have h2 := congrArg List.length (h.trans e)
  simp only [List.length_map] at h2
  simp only [strValues, List.size_toArray, List.length_map]
  rw [h2]
  exact Nat.le_trans hp (by decide)
theorem short32 {x : Str} (h : x.length ≤ 32) : x.length + 2 ≤ sizeLine := Nat.le_trans (Nat.add_le_add_right h 2) (by decide)
theorem lst_isList {h₀ : Heap} {L D : Addr} {h : Heap} {ys : List Value} {r : List (Addr × Obj)} (N : News h₀ L h ((D, LCg.lst ys) :: r)) : h.IsList D ys.toArray := ⟨_, (N _ (.head _)).1, rfl, _, rfl⟩
theorem parts_mem {l : List (Str × Tok)} {z parts : List Str} {p : Str} (hp : p ∈ l.map (·.1)) (h : l.map (·.1) = z) (e : z = parts) : p ∈ parts := e ▸ h ▸ hp
theorem parts_map {l l' : List (Str × Tok)} {z parts : List Str} {f : Str → Str} (hl : l'.map (·.1) = l.map (fun p => f p.1)) (h : l.map (·.1) = z) (e : z = parts) : l'.map (·.1) = parts.map f := by
  rw [hl, ← e, ← h, List.map_map]
  rfl
noncomputable def ltxS (w : World) (nm wr : Str) (parts : List Str) (y1 y2 y3 y4 y5 : Int) : Str := cond (wr == Str.ofString "") nm (nm ++ Str.ofString " " ++ Txt.join (Str.ofString ", ") (parts.map (rowAt (rowsL w y1 y2 y3 y4 y5))))
end
end Mine
-- part LTX
namespace Mine
theorem resetLTX : True := by
  w_top off
  k_with_none
  k_with "omega" => lia
  exact True.intro
open PySem PySem.W PyProof.Rows PySem.Calls PySem.Spec
noncomputable section
set_option maxHeartbeats 0 in
theorem ltx_c : ∀ {w : World} {loose : List Str} {mean : ExcName → Option Value} {mg mb : Str → Option Value} (dp un : Nat) (gd : Option (List Code)) (cn : Str) (cs : Scope) (a : Addr) (ccd : Value) (cl : List (Str × Addr)) (outer : List Env) (A₀ : Around) (base h₀ : Heap) (L : Addr) (m : Str → Option Value) (s : Shared) (Q E : Value → Shared → Prop) (news : List (Addr × Obj)) (f : Addr) (nf : Nat) (nm wr : Str) (t1 t2 : Tok) (y1 y2 y3 y4 y5 : Int) (u1 u2 u3 u4 u5 : Tok) (parts : List Str) (eb : Bool),
    (Below A₀ base outer h₀) →
    (Fr h₀ L s.heap m) →
    ((hd.heap_1 w.params).In h₀) →
    (News h₀ L s.heap news) →
    (Top hd.view_1 loose mean mg mb h₀) →
    (cs.kind = .function) →
    (dp + 1 < recursionLimit) →
    (un + 8 < cLine) →
    ((f, W.listOf #[.int y1 u1, .int y2 u2, .int y3 u3, .int y4 u4, .int y5 u5] nf) ∈ news) →
    (0 ≤ y1 ∧ y1 < 32) →
    (0 ≤ y2 ∧ y2 < 32) →
    (0 ≤ y3 ∧ y3 < 32) →
    (-2097152 < y4 ∧ y4 < 2097152) →
    (0 ≤ y5 ∧ y5 < 4096) →
    (nm.length ≤ 16) →
    (wr.length ≤ 32) →
    ((wr == Str.ofString "") = eb) →
    (Txt.split wr (Str.ofString " ") = parts) →
    (parts.length ≤ 4) →
    (eb = false → ∀ p ∈ parts, ∀ w y1 y2 y3 y4 y5, (rowOf (rowsL w y1 y2 y3 y4 y5) p).isSome = true) →
    (∀ t h' tk', Fr h₀ L h' m → News h₀ L h' news → Q (.str (ltxS w nm wr parts y1 y2 y3 y4 y5) t) { s with heap := h', toks := tk' }) →
    wpAny (model PySem.Challenge.rw_pq0900_01.row.prog w) (ktrTop dp un gd cn cs L a ccd cl outer) (call (.ref 1133) [.str nm t1, .str wr t2, .ref f]) Q E s := by
  k_with_none
  k_with "omega" => (lia)
  k_with "k_mem" => (first | assumption | exact List.Mem.head _ | (refine List.Mem.tail _ ?_; k_mem))
  k_with "m:eval BinOp" => (k_here; (try dsimp only); k_gentoks)
  k_with "m:eval Attribute Name" => (k_here; (try dsimp only); k_gentoks)
  k_with "m:eval FormattedValue" => (k_here; (try dsimp only); k_gentoks)
  k_with "m:joinParts" => (k_here; (try dsimp only); k_gentoks)
  k_with "m:isTrue BoolOp" => (k_here; (try dsimp only); k_gentoks)
  k_with "m:execs cons" => (k_here; (try dsimp only); k_gentoks)
  k_with "m:eval Call" => (k_here; (try dsimp only); k_gentoks)
  k_with "m:eval Compare" => (k_here; (try dsimp only); k_gentoks)
  k_with "m:eval Tuple" => (k_here; (try dsimp only); k_gentoks)
  k_with "m:eval Name" => (k_here; (try dsimp only); k_gentoks)
  k_with "m:subscriptTail" => (k_here; (with_reducible show wpAny _ _ (subscriptTail _ _ (Value.ref _) (Value.int _ _)) _ _ _); (with_unfolding_all refine' own_item ?w5k1 ?w5k2 ?w5k3 ?w5k4 ?w5k5 ?w5k6 ?_ ?w5k7; (case w5k1 => k_asm); (case w5k2 => k_mem); (case w5k3 => with_reducible assumption); (case w5k4 => with_reducible assumption); (case w5k5 => omega); (case w5k6 => omega); (case w5k7 => with_unfolding_all rfl); k_whole); intro r' t' hr' hl')
  k_with "m:call builtin:dict.get" => (k_here; (with_reducible show wpAny _ _ (call (Value.builtin "dict.get") [Value.ref _, Value.int _ _, Value.str _ _]) _ _ _); k_dflt (refine' known_get ?w6k1 ?w6k2 ?w6k3 ?w6k4 ?w6k5 ?w6k6 ?w6k7 ?_; (case w6k1 => k_asm); (case w6k2 => k_mem); (case w6k3 => k_asm); (case w6k4 => assumption); (case w6k5 => exact ⟨⟨rfl, _, rfl⟩, ⟨rfl, _, rfl⟩, ⟨rfl, _, rfl⟩, ⟨rfl, _, rfl⟩, ⟨rfl, _, rfl⟩, ⟨rfl, _, rfl⟩, trivial⟩); (case w6k6 => omega); (case w6k7 => omega); k_whole); intro r' t' hr' hl')
  k_with "m:setItem" => (k_here; (try dsimp only); k_gentoks)
  k_with "m:setItem ref" => (k_here; (try dsimp only); k_gentoks)
  k_with "m:setItem ref str" => (k_here; (try dsimp only); k_gentoks)
  k_with "m:CompEnd" => (refine comp_end (by assumption) (by assumption) (by first | assumption | (simp only [LCg.Off3, and_true]; assumption)) (by lcg_src) ?_)
  k_with "m:CompSrc" => (k_here; (with_reducible rename NoStop => noStop); k_dflt (refine' LCg.CompSrc.ledger ?w11c1 ?w11c2 ?w11c3 ?w11c4 ?w11c5 ?_; (case w11c1 => rfl); (case w11c2 => k_asm); (case w11c3 => k_asm); (case w11c4 => k_mem); (case w11c5 => exact parts_size (by assumption) (by assumption) (by assumption)); k_whole); intro g'; refine my_stopI ?_)
  k_with "m:call builtin:str.split" => (k_here; (with_reducible rename NoStop => noStop); (with_reducible show wpAny _ _ (call (Value.builtin "str.split") [Value.str _ _, Value.str _ _]) _ _ _); (refine KSpl.split1 (by k_asm) (by k_asm) (by decide) ?_ (by exact short32 (by assumption))); intro D' l' h' k' e' a' F' N' l1; (try k_lt l1))
  k_with "m:call builtin:str.join" => (k_here; (with_reducible show wpAny _ _ (call (Value.builtin "str.join") [Value.str _ _, Value.ref _]) _ _ _); k_dflt (refine' join_listW ?w13j1 ?w13j2 ?w13j3 ?w13j4 ?_; (case w13j1 => exact lst_isList (by assumption)); (case w13j2 => exact strs_values _); (case w13j3 => decide +kernel); (case w13j4 => exact Nat.le_trans (by with_reducible assumption) (by decide : 8004 ≤ 1048576)); k_whole); intro _ _)
  k_with "m:subscriptTail" => (k_here; (with_reducible show wpAny _ _ (subscriptTail _ _ (Value.ref _) (Value.str _ _)) _ _ _); (with_unfolding_all refine' rows_item ?w14k1 ?w14k2 ?w14k3 ?w14k4 ?w14k5 ?_ ?w14k6 ?w14k7; (case w14k1 => k_asm); (case w14k2 => k_mem); (case w14k3 => with_reducible assumption); (case w14k4 => with_reducible assumption); (case w14k5 => with_reducible assumption); (case w14k6 => with_unfolding_all rfl); (case w14k7 => intro _; with_unfolding_all rfl); k_whole); intro t')
  k_with "m:eval ListComp" => (k_here; (with_reducible rename NoStop => noStop); (try dsimp only); lcg_calm; k_dflt (refine LCg.ListComp_U (F₀ := by k_asm) (by with_unfolding_all rfl) (by decide) (by rfl) (by decide) (by rfl) ?_))
  k_with "m:compareOp Eq str str" => (k_here; (with_reducible show wpAny _ _ (compareOp CmpOp.Eq (Value.str _ _) (Value.str _ _)) _ _ _); k_dflt (refine' eq_name ?w16k1 ?_; (case w16k1 => with_reducible assumption); k_whole))
  k_with "m:eval IfExp" => (k_here; (fail_if_success (have := ‹NoStop›)); refine my_stopI ?_)
  k_fill
  intro w loose mean mg mb dp un gd cn cs a ccd cl outer A₀ base h₀ L m s Q E news f nf nm wr t1 t2 y1 y2 y3 y4 y5 u1 u2 u3 u4 u5 parts eb B F X N T hk hdp hun hf b1 b2 b3 b4 b5 hnl hwl heb hsp hpl hpk hret
  refine wpAny_call ?_
  k_dflt (refine' code_defC ?k1 ?k2 ?k3 ?k4 ?k5 ?kA ?kF ?kK ?k6 ?k7 ?k8 ?k9 ?kB ?kD ?_ ?c2 ?c3 ?c4; (case kA => exact rfl); (case kF => exact rfl); (case kK => assumption); (case k1 => k_asm); (case k2 => k_asm); (case k3 => k_asm); (case k4 => k_asm); (case k5 => k_asm); (case k6 => k_is); (case k7 => k_is); (case k8 => ktr_room); (case k9 => exact BindsTo.of_eq rfl); (case kB => exact rfl); (case kD => decide +kernel); (case c2 => exact rfl); (case c3 => exact rfl); (case c4 => exact rfl); k_whole)
  intro g₁ L₁ h₁ tk₁ cells FG₁ F₁ N₁ Y B₁ X₁ T₁ l1
  k_cells Y
  (try simp only [List.cons_append, List.nil_append] at N₁)
  (try dsimp only)
  (try k_fold)
  have l1c : ∀ p ∈ news, p.1 < L₁ + 1 := fun p hp => Nat.lt_succ_of_lt (l1 p hp)
  have hrf : ScopeKind.function = ScopeKind.function := rfl
  k_steps
  refine StopI.mk ?_
  have noStop : NoStop := rfl
  obtain ⟨kvs, hdk, hrl⟩ : ∃ kvs, Obj.IsDictOf (PySem.strKind PySem.Challenge.rw_pq0900_01.row.prog w) _ kvs ∧ SRel kvs (rowsL w y1 y2 y3 y4 y5) := by
    refine ⟨_, ‹Obj.IsDictOf (PySem.strKind PySem.Challenge.rw_pq0900_01.row.prog w) _ (stored _ _ _)›, ?_⟩
    exact rows_rel (by assumption) (by assumption) (by assumption) (by assumption) (by assumption)
  cases eb
  · k_steps
    refine StopI.mk ?_
    refine comp_texts (f := rowAt (rowsL w y1 y2 y3 y4 y5)) ?_ ?_ (by simp [strValues])
    · intro p t rest hp hrest ys I oI C oC D m₂ h tk E' hNs hx F N off ne
      have hps := hpk rfl p (parts_mem hp (by assumption) hsp) w y1 y2 y3 y4 y5
      k_steps
      exact hrest _
    · intro l' hl'
      have hl2 := parts_map hl' (by assumption) hsp
      obtain ⟨hj1, hj2⟩ := join_ok b4 b5 hpl hl2
      k_steps
      refine fin_str (a := ltxS w nm wr parts y1 y2 y3 y4 y5) ?_ (hret _ _ _ ‹Fr h₀ L _ m› (by (first | assumption | (intro p hp; refine ‹News h₀ L _ _› p ?_; repeat (first | assumption | refine List.Mem.tail _ ?_)))))
      unfold ltxS
      rw [heb, cond_false, hl2]
  · k_steps
    refine fin_str (a := ltxS w nm wr parts y1 y2 y3 y4 y5) ?_ (hret _ _ _ ‹Fr h₀ L _ m› (by (first | assumption | (intro p hp; refine ‹News h₀ L _ _› p ?_; repeat (first | assumption | refine List.Mem.tail _ ?_)))))
    unfold ltxS
    rw [heb, cond_true]
theorem ltx_use {w : World} {loose : List Str} {mean : ExcName → Option Value} {mg mb : Str → Option Value} {dp un : Nat} {gd : Option (List Code)} {cn : Str} {cs : Scope} {a : Addr} {ccd : Value} {cl : List (Str × Addr)} {outer : List Env} {A₀ : Around} {base h₀ : Heap} {L : Addr} {m : Str → Option Value} {s : Shared} {Q E : Value → Shared → Prop} {news : List (Addr × Obj)} {f : Addr} {nf : Nat} {nm wr : Str} {t1 t2 : Tok} {y1 y2 y3 y4 y5 : Int} {u1 u2 u3 u4 u5 : Tok} {parts : List Str} {eb : Bool}
    (B : Below A₀ base outer h₀)
    (F : Fr h₀ L s.heap m)
    (X : (hd.heap_1 w.params).In h₀)
    (N : News h₀ L s.heap news)
    (T : Top hd.view_1 loose mean mg mb h₀)
    (hk : cs.kind = .function)
    (hdp : dp + 1 < recursionLimit)
    (hun : un + 8 < cLine)
    (hf : (f, W.listOf #[.int y1 u1, .int y2 u2, .int y3 u3, .int y4 u4, .int y5 u5] nf) ∈ news)
    (b1 : 0 ≤ y1 ∧ y1 < 32)
    (b2 : 0 ≤ y2 ∧ y2 < 32)
    (b3 : 0 ≤ y3 ∧ y3 < 32)
    (b4 : -2097152 < y4 ∧ y4 < 2097152)
    (b5 : 0 ≤ y5 ∧ y5 < 4096)
    (hnl : nm.length ≤ 16)
    (hwl : wr.length ≤ 32)
    (heb : (wr == Str.ofString "") = eb)
    (hsp : Txt.split wr (Str.ofString " ") = parts)
    (hpl : parts.length ≤ 4)
    (hpk : eb = false → ∀ p ∈ parts, ∀ w y1 y2 y3 y4 y5, (rowOf (rowsL w y1 y2 y3 y4 y5) p).isSome = true)
    (hret : ∀ t h' tk', Fr h₀ L h' m → News h₀ L h' news → Q (.str (ltxS w nm wr parts y1 y2 y3 y4 y5) t) { s with heap := h', toks := tk' }) :
    wpAny (model PySem.Challenge.rw_pq0900_01.row.prog w) (ktrTop dp un gd cn cs L a ccd cl outer) (call (.ref 1133) [.str nm t1, .str wr t2, .ref f]) Q E s :=
  ltx_c _ _ _ _ _ _ _ _ _ _ _ _ _ _ _ _ _ _ _ _ _ _ _ _ _ _ _ _ _ _ _ _ _ _ _ _ B F X N T hk hdp hun hf b1 b2 b3 b4 b5 hnl hwl heb hsp hpl hpk hret
end
end Mine
-- part FRM
namespace Mine
theorem resetFRM : True := by
  w_top off
  k_with_none
  k_with "omega" => lia
  exact True.intro
open PySem PySem.W PyProof.Rows PySem.Calls PySem.Spec
noncomputable section
noncomputable def csr9 : List Int := [256, 321, 384, 768, 836, 3072, 2047, 0, 4095]
structure FormOk (w : World) (nm wr kind U : Str) (sh : Addr) (opc thi sev lo hh st : Int) (ys parts : List Str) (fe hb cb eb : Bool) : Prop where
  sf : ∀ h, (hd.heap_1 w.params).In h → ShapeF w h nm kind sh opc thi sev
  kf : ∀ h, (hd.heap_1 w.params).In h → KindF w h kind ys lo hh st
  hfe : (nm == Str.ofString "fence") = fe
  hke : (kind == Str.ofString "fence") = fe
  hnl : nm.length ≤ 16
  hok : PyData.strOk nm = true
  hwl : wr.length ≤ 32
  hU : usedT fe hb wr = U
  hcu : ∀ x ∈ [Str.ofString "rd", Str.ofString "rs1", Str.ofString "rs2", Str.ofString "imm", Str.ofString "csr"], Txt.contains U x = ys.any (· == x)
  himm : ys.any (· == Str.ofString "imm") = true → hb = true
  hst : st = 1 ∨ st = 2
  hlo : -2097152 < lo
  hlh : lo < hh
  hhi : hh < 2097152
  hdv : (hh - lo).fmod st = 0
  hlm : lo.fmod st = 0
  heb : (wr == Str.ofString "") = eb
  hsp : Txt.split wr (Str.ofString " ") = parts
  hpl : parts.length ≤ 4
  hpk : eb = false → ∀ p ∈ parts, ∀ w y1 y2 y3 y4 y5, (rowOf (rowsL w y1 y2 y3 y4 y5) p).isSome = true
  hcs : Txt.contains wr (Str.ofString "csr") = cb
  hcy : ys.any (· == Str.ofString "csr") = cb
  good : ∀ y1 y2 y3 y4 y5, (∀ p ∈ sp5 (.int y1) (.int y2) (.int y3) (.int y4) (.int y5), okV ys lo hh st p.1 p.2) → (0 ≤ encI kind opc thi sev y1 y2 y3 y4 y5 ∧ encI kind opc thi sev y1 y2 y3 y4 y5 < 4294967296) ∧ Found w (encI kind opc thi sev y1 y2 y3 y4 y5) kind sh ∧ ∀ z1 z2 z3 z4 z5, DecR (encI kind opc thi sev y1 y2 y3 y4 y5) kind z1 z2 z3 z4 z5 → z1 = y1 ∧ z2 = y2 ∧ z3 = y3 ∧ z4 = y4 ∧ z5 = y5
  text : fe = false → ∀ y1 y2 y3 y4 y5, (∀ p ∈ sp5 (.int y1) (.int y2) (.int y3) (.int y4) (.int y5), okV ys lo hh st p.1 p.2) → (cb = true → y5 ∈ csr9) → txtS w kind nm opc y1 y2 y3 y4 y5 = ltxS w nm wr parts y1 y2 y3 y4 y5
noncomputable def IfMark : Prop := 1 = 1
structure StayEnd (s : Shared) (h₀ : Heap) (L : Addr) (m : Str → Option Value) (news : List (Addr × Obj)) (fl : Flow) (s' : Shared) : Prop where
  e : fl = .next
  ex : ∃ h2 tk2, s' = { s with heap := h2, toks := tk2 } ∧ Fr h₀ L h2 m ∧ News h₀ L h2 news
theorem if_stay {prog : Program} {w : World} {A : Around} {E : Value → Shared → Prop} {s : Shared} {h₀ : Heap} {L : Addr} {m : Str → Option Value} {news : List (Addr × Obj)} {x : Sem Flow} {Q : Flow → Shared → Prop} (F : Fr h₀ L s.heap m) (N : News h₀ L s.heap news)
    (h : wpAny (model prog w) A x (StayEnd s h₀ L m news) E s) (k : ∀ h2 tk2, Fr h₀ L h2 m → News h₀ L h2 news → Q .next { s with heap := h2, toks := tk2 }) : wpAny (model prog w) A x Q E s :=
  wpAny_mono h (fun fl s' q => by
    obtain ⟨rfl, h2, tk2, rfl, F, N⟩ := q
    exact k _ _ F N) fun _ _ e => e
structure FldEnd (s : Shared) (h₀ : Heap) (L : Addr) (m : Str → Option Value) (f : Addr) (v1 v2 v3 v4 : Value) (nf : Nat) (nwx : List (Addr × Obj)) (R : Value → Prop) (fl : Flow) (s' : Shared) : Prop where
  e : fl = .next
  ex : ∃ h2 tk2 v, s' = { s with heap := h2, toks := tk2 } ∧ Fr h₀ L h2 m ∧ News h₀ L h2 ((f, W.listOf #[v1, v2, v3, v4, v] nf) :: nwx) ∧ R v
theorem if_fields {prog : Program} {w : World} {A : Around} {E : Value → Shared → Prop} {s : Shared} {h₀ : Heap} {L f : Addr} {m : Str → Option Value} {v1 v2 v3 v4 v5 : Value} {nf : Nat} {nwx : List (Addr × Obj)} {x : Sem Flow} {Q : Flow → Shared → Prop} (F : Fr h₀ L s.heap m) (N : News h₀ L s.heap ((f, W.listOf #[v1, v2, v3, v4, v5] nf) :: nwx)) (R : Value → Prop)
    (h : wpAny (model prog w) A x (FldEnd s h₀ L m f v1 v2 v3 v4 nf nwx R) E s) (k : ∀ h2 tk2 v, R v → Fr h₀ L h2 m → News h₀ L h2 ((f, W.listOf #[v1, v2, v3, v4, v] nf) :: nwx) → Q .next { s with heap := h2, toks := tk2 }) : wpAny (model prog w) A x Q E s :=
  wpAny_mono h (fun fl s' q => by
    obtain ⟨rfl, h2, tk2, v, rfl, F, N, r⟩ := q
    exact k _ _ _ r F N) fun _ _ e => e
inductive StopF (P : Prop) : Prop
  | mk : P → StopF P
theorem my_stopF {P : Prop} (h : StopF P) : P := by cases h with | mk h => exact h
theorem csr_pick {y1 y2 y3 y4 y5 : Int} (h : 0 ≤ y5) : ([256, 321, 384, 768, 836, 3072, 2047, 0, 4095] : List Int).getD (([y1, y2, y3, y4, y5].getD (Int.toNat 4) 0).fmod 9).toNat 0 ∈ csr9 := by
  have e : ([y1, y2, y3, y4, y5].getD (Int.toNat 4) 0) = y5 := rfl
  rw [e, Int.fmod_eq_emod_of_nonneg _ (by decide)]
  have h1 : (y5 % 9).toNat < 9 := by omega
  generalize (y5 % 9).toNat = k at h1
  match k, h1 with
  | 0, _ | 1, _ | 2, _ | 3, _ | 4, _ | 5, _ | 6, _ | 7, _ | 8, _ => decide
theorem csr9_bnd {y : Int} (h : y ∈ csr9) : 0 ≤ y ∧ y < 4096 := by
  simp only [csr9, List.mem_cons, List.not_mem_nil, or_false] at h
  omega
theorem all6 {ys : List Str} {lo hh st : Int} {a b c d e : PyData} {y : Int} (hall : ∀ p ∈ sp5 a b c d e, okV ys lo hh st p.1 p.2) (hcy : ys.any (· == Str.ofString "csr") = true) (h : 0 ≤ y ∧ y < 4096) : ∀ p ∈ sp5 a b c d (.int y), okV ys lo hh st p.1 p.2 := by
  simp only [sp5, List.forall_mem_cons, List.not_mem_nil, false_implies, implies_true, and_true] at hall ⊢
  exact ⟨hall.1, hall.2.1, hall.2.2.1, hall.2.2.2.1, (okV_csr hcy).mpr h⟩
theorem tup_shaped {nm : Str} (h : PyData.strOk nm = true) (a b c d e : Int) : SeqAt.shaped (.tuple [.str nm, .int a, .int b, .int c, .int d, .int e]) = true := by
  simp [SeqAt.shaped, PyData.canLay0, PyData.canLayAll0, PyData.depth, PyData.depthAll, h]
theorem tup_eqv (nm : Str) (a b c d e : Int) : PyData.eqv (.tuple [.str nm, .int a, .int b, .int c, .int d, .int e]) (.tuple [.str nm, .int a, .int b, .int c, .int d, .int e]) = true := by
  simp [PyData.eqv, PyData.eqvAll]
theorem fi (y : Int) (u : Tok) : Field (.int y u) (.int y) := ⟨.int _ _, .inl ⟨y, rfl⟩, rfl⟩
theorem ne_name {w : World} {A : Around} {E : Value → Shared → Prop} {s : Shared} {x y : Str} {t u : Tok} {b : Bool} {Q : Value → Shared → Prop} (hb : (x == y) = b) (h : Q (.bool (!b)) s) :
    wpAny (model rwp w) A (compareOp .NotEq (.str x t) (.str y u)) Q E s := by
  refine ne_str ?_
  show Q (.bool (!(x == y))) s
  rw [hb]
  exact h
theorem beq_of {a b x y : Str} (h1 : a = x) (h2 : b = y) (h : a = b) : (x == y) = true := by
  subst h1 h2 h
  exact beq_self_eq_true a
theorem good_at {w : World} {nm wr kind U : Str} {sh : Addr} {opc thi sev lo hh st : Int} {ys parts : List Str} {fe hb cb eb : Bool} (FO : FormOk w nm wr kind U sh opc thi sev lo hh st ys parts fe hb cb eb) {y1 y2 y3 y4 y5 W : Int} (hall : (∀ p ∈ sp5 (.int y1) (.int y2) (.int y3) (.int y4) (.int y5), okV ys lo hh st p.1 p.2)) (e : encI kind opc thi sev y1 y2 y3 y4 y5 = W) :
    0 ≤ W ∧ W < 4294967296 ∧ Found w W kind sh ∧ ∀ z1 z2 z3 z4 z5, DecR W kind z1 z2 z3 z4 z5 → z1 = y1 ∧ z2 = y2 ∧ z3 = y3 ∧ z4 = y4 ∧ z5 = y5 := by
  subst e
  obtain ⟨⟨h1, h2⟩, h3, h4⟩ := FO.good _ _ _ _ _ hall
  exact ⟨h1, h2, h3, h4⟩
theorem enc_good {w : World} {loose : List Str} {mean : ExcName → Option Value} {mg mb : Str → Option Value} {dp un : Nat} {gd : Option (List Code)} {cn : Str} {cs : Scope} {a : Addr} {ccd : Value} {cl : List (Str × Addr)} {outer : List Env} {A₀ : Around} {base h₀ : Heap} {L : Addr} {m : Str → Option Value} {s : Shared} {Q E : Value → Shared → Prop} {news : List (Addr × Obj)} {x d : Addr} {sl : Array (Option Value)} {n : Nat} {h0 h1 h2 h3 h4 h5 : Int} {k0 k1 k2 k3 k4 k5 : Tok} {nm : Str} {tk0 : Tok} {kind : Str} {sh : Addr} {opc thi sev : Int} {ys : List Str} {lo hh st : Int} {y1 y2 y3 y4 y5 : Int} {u1 u2 u3 u4 u5 : Tok}
    (B : Below A₀ base outer h₀)
    (F : Fr h₀ L s.heap m)
    (X : (hd.heap_1 w.params).In h₀)
    (N : News h₀ L s.heap news)
    (T : Top hd.view_1 loose mean mg mb h₀)
    (hk : cs.kind = .function)
    (hdp : dp + 2 < recursionLimit)
    (hun : un + 16 < cLine)
    (hx : (x, (⟨.ref 95, some d, .plain, sl⟩ : Obj)) ∈ news)
    (hdd : (d, dictOf [⟨h0, .str (Str.ofString "name") k0, .str nm tk0⟩, ⟨h1, .str (Str.ofString "rd") k1, .int y1 u1⟩, ⟨h2, .str (Str.ofString "rs1") k2, .int y2 u2⟩, ⟨h3, .str (Str.ofString "rs2") k3, .int y3 u3⟩, ⟨h4, .str (Str.ofString "imm") k4, .int y4 u4⟩, ⟨h5, .str (Str.ofString "csr") k5, .int y5 u5⟩] n) ∈ news)
    (sf : ShapeF w h₀ nm kind sh opc thi sev)
    (kf : KindF w h₀ kind ys lo hh st)
    (hall : ∀ p ∈ sp5 (.int y1) (.int y2) (.int y3) (.int y4) (.int y5), okV ys lo hh st p.1 p.2)
    (z : h₀.get? 0 = some (o0 w.params))
    (hdp4 : dp = 303 ∨ dp = 304)
    (hret : ∀ r t h' tk', encI kind opc thi sev y1 y2 y3 y4 y5 = r → Fr h₀ L h' m → News h₀ L h' news → Q (.int r t) { s with heap := h', toks := tk' }) :
    wpAny (model PySem.Challenge.rw_pq0900_01.row.prog w) (ktrTop dp un gd cn cs L a ccd cl outer) (call (.ref 1046) [.ref x]) Q E s :=
  enc_use B F X N T hk hdp hun hx hdd sf kf (fi _ _) (fi _ _) (fi _ _) (fi _ _) (fi _ _) z hdp4 (fun a1 a2 a3 a4 a5 e1 e2 e3 e4 e5 _ t h' tk' F' N' => by
    cases e1; cases e2; cases e3; cases e4; cases e5
    exact hret _ t h' tk' rfl F' N') (fun nh => absurd hall nh)
theorem txt_good {w : World} {loose : List Str} {mean : ExcName → Option Value} {mg mb : Str → Option Value} {dp un : Nat} {gd : Option (List Code)} {cn : Str} {cs : Scope} {a : Addr} {ccd : Value} {cl : List (Str × Addr)} {outer : List Env} {A₀ : Around} {base h₀ : Heap} {L : Addr} {m : Str → Option Value} {s : Shared} {Q E : Value → Shared → Prop} {news : List (Addr × Obj)} {x d : Addr} {sl : Array (Option Value)} {n : Nat} {h0 h1 h2 h3 h4 h5 : Int} {k0 k1 k2 k3 k4 k5 : Tok} {nm : Str} {tk0 : Tok} {kind : Str} {sh : Addr} {opc thi sev : Int} {ys : List Str} {lo hh st : Int} {y1 y2 y3 y4 y5 : Int} {u1 u2 u3 u4 u5 : Tok}
    (B : Below A₀ base outer h₀)
    (F : Fr h₀ L s.heap m)
    (X : (hd.heap_1 w.params).In h₀)
    (N : News h₀ L s.heap news)
    (T : Top hd.view_1 loose mean mg mb h₀)
    (hk : cs.kind = .function)
    (hdp : dp + 2 < recursionLimit)
    (hun : un + 16 < cLine)
    (hx : (x, (⟨.ref 95, some d, .plain, sl⟩ : Obj)) ∈ news)
    (hdd : (d, dictOf [⟨h0, .str (Str.ofString "name") k0, .str nm tk0⟩, ⟨h1, .str (Str.ofString "rd") k1, .int y1 u1⟩, ⟨h2, .str (Str.ofString "rs1") k2, .int y2 u2⟩, ⟨h3, .str (Str.ofString "rs2") k3, .int y3 u3⟩, ⟨h4, .str (Str.ofString "imm") k4, .int y4 u4⟩, ⟨h5, .str (Str.ofString "csr") k5, .int y5 u5⟩] n) ∈ news)
    (sf : ShapeF w h₀ nm kind sh opc thi sev)
    (kf : KindF w h₀ kind ys lo hh st)
    (hall : ∀ p ∈ sp5 (.int y1) (.int y2) (.int y3) (.int y4) (.int y5), okV ys lo hh st p.1 p.2)
    (z : h₀.get? 0 = some (o0 w.params))
    (hdp4 : dp = 303 ∨ dp = 304)
    (hfe : (kind == Str.ofString "fence") = false)
    (hnl : nm.length ≤ 16)
    (hret : ∀ r t h' tk', txtS w kind nm opc y1 y2 y3 y4 y5 = r → Fr h₀ L h' m → News h₀ L h' news → Q (.str r t) { s with heap := h', toks := tk' }) :
    wpAny (model PySem.Challenge.rw_pq0900_01.row.prog w) (ktrTop dp un gd cn cs L a ccd cl outer) (call (.ref 1100) [.ref x]) Q E s :=
  txt_use B F X N T hk hdp hun hx hdd sf kf (fi _ _) (fi _ _) (fi _ _) (fi _ _) (fi _ _) z hdp4 (.inl hfe) hnl (fun a1 a2 a3 a4 a5 e1 e2 e3 e4 e5 _ t h' tk' F' N' => by
    cases e1; cases e2; cases e3; cases e4; cases e5
    exact hret _ t h' tk' rfl F' N') (fun nh => absurd hall nh)
theorem ltx_use2 {w : World} {loose : List Str} {mean : ExcName → Option Value} {mg mb : Str → Option Value} {dp un : Nat} {gd : Option (List Code)} {cn : Str} {cs : Scope} {a : Addr} {ccd : Value} {cl : List (Str × Addr)} {outer : List Env} {A₀ : Around} {base h₀ : Heap} {L : Addr} {m : Str → Option Value} {s : Shared} {Q E : Value → Shared → Prop} {news : List (Addr × Obj)} {f : Addr} {nf : Nat} {nm wr kind U : Str} {t1 t2 : Tok} {sh : Addr} {opc thi sev lo hh st : Int} {ys parts : List Str} {fe hb cb eb : Bool} {y1 y2 y3 y4 y5 : Int} {u1 u2 u3 u4 u5 : Tok}
    (FO : FormOk w nm wr kind U sh opc thi sev lo hh st ys parts fe hb cb eb) (hall : (∀ p ∈ sp5 (.int y1) (.int y2) (.int y3) (.int y4) (.int y5), okV ys lo hh st p.1 p.2))
    (B : Below A₀ base outer h₀)
    (F : Fr h₀ L s.heap m)
    (X : (hd.heap_1 w.params).In h₀)
    (N : News h₀ L s.heap news)
    (T : Top hd.view_1 loose mean mg mb h₀)
    (hk : cs.kind = .function)
    (hdp : dp + 1 < recursionLimit)
    (hun : un + 8 < cLine)
    (hf : (f, W.listOf #[.int y1 u1, .int y2 u2, .int y3 u3, .int y4 u4, .int y5 u5] nf) ∈ news) (hret : ∀ r t h' tk', ltxS w nm wr parts y1 y2 y3 y4 y5 = r → Fr h₀ L h' m → News h₀ L h' news → Q (.str r t) { s with heap := h', toks := tk' }) :
    wpAny (model PySem.Challenge.rw_pq0900_01.row.prog w) (ktrTop dp un gd cn cs L a ccd cl outer) (call (.ref 1133) [.str nm t1, .str wr t2, .ref f]) Q E s := by
  obtain ⟨a1, a2, a3, a4, a5, e1, e2, e3, e4, e5, b1, b2, b3, b4, b5⟩ := all_bnd hall FO.hlo FO.hhi
  cases e1; cases e2; cases e3; cases e4; cases e5
  exact ltx_use B F X N T hk hdp hun hf b1 b2 b3 b4 b5 FO.hnl FO.hwl FO.heb FO.hsp FO.hpl FO.hpk fun t h' tk' => hret _ t h' tk' rfl
set_option maxHeartbeats 0 in
theorem frm_c : ∀ {w : World} {loose : List Str} {mean : ExcName → Option Value} {mg mb : Str → Option Value} (dp un : Nat) (gd : Option (List Code)) (cn : Str) (cs : Scope) (a : Addr) (ccd : Value) (outer : List Env) (A₀ : Around) (base h₀ : Heap) (L : Addr) (m : Str → Option Value) (s : Shared) (Q E : Value → Shared → Prop) (news : List (Addr × Obj)) (l tp : Addr) (vs : List Value) (ns : List Int) (n n' : Nat) (nw : Obj → List (Addr × Obj)) (at' : Int) (tk t1 t2 : Tok) (nm wr kind U : Str) (sh : Addr) (opc thi sev lo hh st : Int) (ys parts : List Str) (fe hb cb eb : Bool) (bv : Value),
    (Below A₀ base outer h₀) →
    (Fr h₀ L s.heap m) →
    ((hd.heap_1 w.params).In h₀) →
    (News h₀ L s.heap news) →
    (Top hd.view_1 loose mean mg mb h₀) →
    (cs.kind = .function) →
    (dp + 20 < recursionLimit) →
    (un + 160 < cLine) →
    (news = nw (tapeO l n' at' tk)) →
    (TapeOk l tp vs n nw) →
    (IntsAre vs ns) →
    (ns.length < 64) →
    (0 ≤ at') →
    (at' < 9900) →
    (BV hb bv nw lo hh st) →
    (FormOk w nm wr kind U sh opc thi sev lo hh st ys parts fe hb cb eb) →
    (dp = 302) →
    ((hd.heap_1 w.params).In base) →
    (Top hd.view_1 loose mean mg mb base) →
    (base.get? 0 = some (o0 w.params)) →
    (KtsDicts (outer.filterMap (·.frame)) h₀) →
    (∀ h₀' h' tk' at2 tq, at' ≤ at2 → at2 ≤ at' + 10 → KtsTurn (outer.filterMap (·.frame)) h₀ h₀' → Fr h₀' L h' m → News h₀' L h' (nw (tapeO l n' at2 tq)) → Below A₀ base outer h₀' → (hd.heap_1 w.params).In h₀' → Top hd.view_1 loose mean mg mb h₀' → KtsDicts (outer.filterMap (·.frame)) h₀' → Q (.bool true) { s with heap := h', toks := tk' }) →
    wpAny (model PySem.Challenge.rw_pq0900_01.row.prog w) (ktrTop dp un gd cn cs L a ccd [] outer) (call (.ref 1147) [.ref tp, .str nm t1, .str wr t2, bv]) Q E s := by
  k_with_none
  k_with "omega" => (lia)
  k_with "k_mem" => (first | exact List.Mem.head _ | assumption | (refine List.Mem.tail _ ?_; k_mem))
  k_with "k_all" => (exact all_ne (by assumption))
  k_with "k_handed" => (exact Field.handed (by assumption))
  k_with "m:eval BinOp" => (k_here; (try dsimp only); k_gentoks)
  k_with "m:eval Attribute Name" => (k_here; (try dsimp only); k_gentoks)
  k_with "m:eval FormattedValue" => (k_here; (try dsimp only); k_gentoks)
  k_with "m:joinParts" => (k_here; (try dsimp only); k_gentoks)
  k_with "m:isTrue BoolOp" => (k_here; (try dsimp only); k_gentoks)
  k_with "m:execs cons" => (k_here; (try dsimp only); k_gentoks)
  k_with "m:eval Call" => (k_here; (try dsimp only); k_gentoks)
  k_with "m:eval Compare" => (k_here; (try dsimp only); k_gentoks)
  k_with "m:eval Tuple" => (k_here; (try dsimp only); k_gentoks)
  k_with "m:eval Name" => (k_here; (try dsimp only); k_gentoks)
  k_with "m:compareOp In str str" => (k_here; (with_reducible show wpAny _ _ (compareOp CmpOp.In (Value.str _ _) (Value.str _ _)) _ _ _); (refine' in_used ?w5k1 ?_; (case w5k1 => with_reducible assumption); k_whole))
  k_with "m:setItem ref int" => (k_here; (try dsimp only); k_gentoks)
  k_with "m:subscriptTail" => (k_here; (with_reducible show wpAny _ _ (subscriptTail _ _ (Value.ref _) (Value.int (Int.fmod _ _) _)) _ _ _); (with_unfolding_all refine' item_anyK ?w7k1 ?w7k2 ?w7k3 ?w7k4 ?w7k5 ?_ ?w7k6; (case w7k1 => is_list); (case w7k2 => l_ints); (case w7k3 => l_idx); (case w7k4 => l_idx); (case w7k5 => l_idx); (case w7k6 => with_unfolding_all rfl); k_whole); intro _)
  k_with "m:exec If" => (k_here; (with_reducible rename IfMark => ifMark); (with_reducible show wpAny _ _ (exec (Stmt.If (Expr.BoolOp _ _ _) _ _ _) _) _ _ _); refine my_stopF ?_)
  k_with "m:call ref" => (k_here; (with_reducible show wpAny _ _ (call (Value.ref 1128) [Value.ref _, Value.str _ _, Value.str _ _, _]) _ _ _); refine my_stopF ?_)
  k_with "m:call ref" => (k_here; (with_reducible show wpAny _ _ (call (Value.ref 95) [_, _, _, _, _, _]) _ _ _); k_dflt (refine' ins6_use ?w10B ?w10F ?w10X ?w10N ?w10T ?w10hk ?w10hd ?w10hu ?_; (case w10F => assumption); (case w10B => assumption); (case w10X => assumption); (case w10N => assumption); (case w10T => assumption); (case w10hk => exact rfl); (case w10hd => ktr_room); (case w10hu => ktr_units); intro x' d' sl' n' e0' e1' e2' e3' e4' e5' t0' t1' t2' t3' t4' t5' h' tk' F' N' l1' l2'))
  k_with "m:call ref" => (k_here; (with_reducible show wpAny _ _ (call (Value.ref 1140) [Value.ref 1046, Value.ref _]) _ _ _); k_dflt (refine' rfdE_use ?w11B ?w11F ?w11X ?w11N ?w11T ?w11hk ?w11hd ?w11hu ?w11hx ?w11hdd ?w11sf ?w11kf ?w11f1 ?w11f2 ?w11f3 ?w11f4 ?w11f5 ?w11z ?w11hdp ?w11XB ?w11TB ?w11D ?w11hbad ?w11hnl ?_; (case w11F => assumption); (case w11B => assumption); (case w11X => assumption); (case w11N => assumption); (case w11T => assumption); (case w11hk => exact rfl); (case w11hd => ktr_room); (case w11hu => ktr_units); (case w11hx => k_mem); (case w11hdd => k_mem); (case w11sf => assumption); (case w11kf => assumption); (case w11f1 => assumption); (case w11f2 => assumption); (case w11f3 => assumption); (case w11f4 => assumption); (case w11f5 => assumption); (case w11z => assumption); (case w11hdp => assumption); (case w11XB => assumption); (case w11TB => assumption); (case w11D => assumption); (case w11hbad => assumption); (case w11hnl => assumption); intro h₀' h' tk' T' F' N' B' X' P' D'; (have zz' := Below.stays B' _ _ (by assumption)); (have sf' := FormOk.sf (by assumption) _ X'); (have kf' := FormOk.kf (by assumption) _ X')))
  k_with "m:call ref" => (k_here; (with_reducible show wpAny _ _ (call (Value.ref 1140) [Value.ref 1100, Value.ref _]) _ _ _); k_dflt (refine' rfdT_use ?w12B ?w12F ?w12X ?w12N ?w12T ?w12hk ?w12hd ?w12hu ?w12hx ?w12hdd ?w12sf ?w12kf ?w12f1 ?w12f2 ?w12f3 ?w12f4 ?w12f5 ?w12z ?w12hdp ?w12XB ?w12TB ?w12D ?w12hbad ?w12hnl ?_; (case w12F => assumption); (case w12B => assumption); (case w12X => assumption); (case w12N => assumption); (case w12T => assumption); (case w12hk => exact rfl); (case w12hd => ktr_room); (case w12hu => ktr_units); (case w12hx => k_mem); (case w12hdd => k_mem); (case w12sf => assumption); (case w12kf => assumption); (case w12f1 => assumption); (case w12f2 => assumption); (case w12f3 => assumption); (case w12f4 => assumption); (case w12f5 => assumption); (case w12z => assumption); (case w12hdp => assumption); (case w12XB => assumption); (case w12TB => assumption); (case w12D => assumption); (case w12hbad => assumption); (case w12hnl => assumption); intro h₀' h' tk' T' F' N' B' X' P' D'; (have TT' := KtsTurn.trans (by assumption) T')))
  k_with "m:compareOp Eq ref ref" => (k_here; (with_reducible show wpAny _ _ (compareOp CmpOp.Eq (Value.ref _) (Value.ref _)) _ _ _); k_dflt (refine eq_dataH (by ke_read) (by ke_read) (tup_shaped (by assumption) _ _ _ _ _) (tup_shaped (by assumption) _ _ _ _ _) (by ke_room) ?_; rw [tup_eqv]))
  k_with "m:call ref" => (k_here; (with_reducible show wpAny _ _ (call (Value.ref 1046) [Value.ref _]) _ _ _); k_dflt (refine' enc_good ?w14B ?w14F ?w14X ?w14N ?w14T ?w14hk ?w14hd ?w14hu ?w14hx ?w14hdd ?w14sf ?w14kf ?w14hall ?w14z ?w14hdp ?_; (case w14F => assumption); (case w14B => assumption); (case w14X => assumption); (case w14N => assumption); (case w14T => assumption); (case w14hk => exact rfl); (case w14hd => ktr_room); (case w14hu => ktr_units); (case w14hx => k_mem); (case w14hdd => k_mem); (case w14sf => assumption); (case w14kf => assumption); (case w14hall => assumption); (case w14z => assumption); (case w14hdp => assumption); intro r' t' h' tk' hr' F' N'; (obtain ⟨hw0, hw2, hfd, hdc⟩ := good_at (by assumption) (by assumption) hr')))
  k_with "m:call ref" => (k_here; (with_reducible show wpAny _ _ (call (Value.ref 1100) [Value.ref _]) _ _ _); k_dflt (refine' txt_good ?w15B ?w15F ?w15X ?w15N ?w15T ?w15hk ?w15hd ?w15hu ?w15hx ?w15hdd ?w15sf ?w15kf ?w15hall ?w15z ?w15hdp ?w15hfe ?w15hnl ?_; (case w15F => assumption); (case w15B => assumption); (case w15X => assumption); (case w15N => assumption); (case w15T => assumption); (case w15hk => exact rfl); (case w15hd => ktr_room); (case w15hu => ktr_units); (case w15hx => k_mem); (case w15hdd => k_mem); (case w15sf => assumption); (case w15kf => assumption); (case w15hall => assumption); (case w15z => assumption); (case w15hdp => assumption); (case w15hfe => assumption); (case w15hnl => assumption); intro r' t' h' tk' hr' F' N'))
  k_with "m:call ref" => (k_here; (with_reducible show wpAny _ _ (call (Value.ref 1133) [Value.str _ _, Value.str _ _, Value.ref _]) _ _ _); k_dflt (refine' ltx_use2 ?w16FO ?w16hall ?w16B ?w16F ?w16X ?w16N ?w16T ?w16hk ?w16hd ?w16hu ?w16hf ?_; (case w16FO => assumption); (case w16F => assumption); (case w16B => assumption); (case w16X => assumption); (case w16N => assumption); (case w16T => assumption); (case w16hk => exact rfl); (case w16hd => ktr_room); (case w16hu => ktr_units); (case w16hf => k_mem); (case w16hall => assumption); intro r' t' h' tk' hr' F' N'))
  k_with "m:call ref" => (k_here; (with_reducible show wpAny _ _ (call (Value.ref 1074) [Value.int _ _]) _ _ _); k_dflt (refine' dec_use ?w17B ?w17F ?w17X ?w17N ?w17T ?w17hk ?w17hd ?w17hu ?w17sf ?w17hf ?w17hw0 ?w17hw2 ?_; (case w17F => assumption); (case w17B => assumption); (case w17X => assumption); (case w17N => assumption); (case w17T => assumption); (case w17hk => exact rfl); (case w17hd => ktr_room); (case w17hu => ktr_units); (case w17sf => assumption); (case w17hf => assumption); (case w17hw0 => assumption); (case w17hw2 => assumption); intro z1 z2 z3 z4 z5 hz x' d' sl' n' e0' e1' e2' e3' e4' e5' t0' t1' t2' t3' t4' t5' tn' u1' u2' u3' u4' u5' h' tk' F' N' l1' l2'; (obtain ⟨ez1, ez2, ez3, ez4, ez5⟩ := (by assumption : ∀ z1 z2 z3 z4 z5, DecR _ _ z1 z2 z3 z4 z5 → _) _ _ _ _ _ hz); subst ez1 ez2 ez3 ez4 ez5))
  k_with "m:compareOp NotEq str str" => (k_here; (with_reducible show wpAny _ _ (compareOp CmpOp.NotEq (Value.str _ _) (Value.str _ _)) _ _ _); k_dflt (refine' ne_name ?w18k1 ?_; (case w18k1 => first | with_reducible assumption | (with_reducible exact beq_of (by assumption) (by assumption) (by assumption))); k_whole))
  k_fill
  intro w loose mean mg mb dp un gd cn cs a ccd outer A₀ base h₀ L m s Q E news l tp vs ns n n' nw at' tk t1 t2 nm wr kind U sh opc thi sev lo hh st ys parts fe hb cb eb bv B F X N T hk hdp hun hnw hT hi hl h0 h1 hbv FO hdp1 XB TB ZB D hret
  subst hnw hdp1
  refine wpAny_call ?_
  k_dflt (refine' code_defS ?k1 ?k2 ?k3 ?k4 ?k5 ?x1 ?x2 ?x3 ?x4 ?kA ?k6 ?k7 ?k8 ?k9 ?kB ?_ ?kK ?c2 ?c3 ?c4 ?c5; (case kA => exact rfl); (case kK => assumption); (case k1 => k_asm); (case k2 => k_asm); (case k3 => k_asm); (case k4 => k_asm); (case k5 => k_asm); (case x1 => assumption); (case x2 => assumption); (case x3 => assumption); (case x4 => exact KtsTurn.refl); (case k6 => k_is); (case k7 => k_is); (case k8 => ktr_room); (case k9 => exact BindsTo.of_eq rfl); (case c5 => decide); (case kB => exact locs rfl); (case c2 => exact rfl); (case c3 => exact rfl); (case c4 => exact rfl); k_whole)
  intro g₁ L₁ h₁ FG₁ F₁ N₁ B₁ X₁ T₁ D₁
  (try dsimp only)
  (try k_fold)
  have z₁ := B₁.stays _ _ ZB
  have kf₁ := FO.kf _ X₁
  have sf₁ := FO.sf _ X₁
  have hdpc : 302 + 1 = 302 ∨ 302 + 1 = 303 := .inr rfl
  have hdpd : 302 + 1 = 303 ∨ 302 + 1 = 304 := .inl rfl
  have hrf : ScopeKind.function = ScopeKind.function := rfl
  have hnl := FO.hnl
  k_steps
  refine StopF.mk ?_
  refine fld_use (nw := nw) (by assumption) (by assumption) (by assumption) (by assumption) (by assumption) (by exact rfl) (by ktr_room) (by ktr_units) rfl hT hi hl h0 h1 FO.hfe hbv FO.hwl FO.hU FO.hcu FO.himm FO.hst FO.hlo FO.hlh FO.hhi FO.hdv FO.hlm ?_
  intro r f v1 v2 v3 v4 v5 d1 d2 d3 d4 d5 b h' tk' at2 tq nf q1 q2 f1 f2 f3 f4 f5 hb' tup F' N' hlt
  (try dsimp only)
  have hcs := FO.hcs
  have ifMark : IfMark := rfl
  cases b
  · have hbad : ¬ ∀ p ∈ sp5 d1 d2 d3 d4 d5, okV ys lo hh st p.1 p.2 := fun hall => Bool.noConfusion (hb'.mpr hall)
    k_steps
    refine StopF.mk ?_
    refine if_stay (news := (f, W.listOf #[v1, v2, v3, v4, v5] nf) :: nw (tapeO l n' at2 tq)) (by assumption) (by assumption) ?_ ?_
    · (rename IfMark => iM); clear iM
      cases cb <;> (k_steps; exact ⟨rfl, _, _, rfl, by assumption, by assumption⟩)
    · (rename IfMark => iM); clear iM
      intro h2 tk2 F2 N2
      (try dsimp only)
      k_steps
      exact hret _ _ _ _ _ q1 q2 (by assumption) (by assumption) (newsTail (newsTail (newsTail (by assumption)))) (by assumption) (by assumption) (by assumption) (by assumption)
  · have hall := hb'.mp rfl
    obtain ⟨y1, y2, y3, y4, y5, rfl, rfl, rfl, rfl, rfl, b1, b2, b3, b4, b5⟩ := all_bnd hall FO.hlo FO.hhi
    obtain ⟨u1, rfl⟩ := field_int f1
    obtain ⟨u2, rfl⟩ := field_int f2
    obtain ⟨u3, rfl⟩ := field_int f3
    obtain ⟨u4, rfl⟩ := field_int f4
    obtain ⟨u5, rfl⟩ := field_int f5
    have hfe := FO.hfe
    have hke := FO.hke
    have hok := FO.hok
    k_steps
    refine StopF.mk ?_
    refine if_fields (f := f) (v5 := .int y5 u5) (nwx := nw (tapeO l n' at2 tq)) (by assumption) (by assumption) (fun v => ∃ y6 u6, v = .int y6 u6 ∧ (∀ p ∈ sp5 (.int y1) (.int y2) (.int y3) (.int y4) (.int y6), okV ys lo hh st p.1 p.2) ∧ (cb = true → y6 ∈ csr9)) ?_ ?_
    · (rename IfMark => iM); clear iM
      cases cb
      · k_steps
        exact ⟨rfl, _, _, _, rfl, by assumption, by assumption, _, _, rfl, hall, fun h => nomatch h⟩
      · have h6 := csr_pick b5.1 (y1 := y1) (y2 := y2) (y3 := y3) (y4 := y4)
        have hall6 := all6 hall FO.hcy (csr9_bnd h6)
        k_steps
        exact ⟨rfl, _, _, _, rfl, by assumption, newsTail (by assumption), _, _, rfl, hall6, fun _ => h6⟩
    · intro h2 tk2 v hv F2 N2
      obtain ⟨y6, u6, rfl, hall6, h6⟩ := hv
      clear hall hb' f5 b5
      (try dsimp only)
      k_steps
      refine StopF.mk ?_
      refine if_stay (by assumption) (by assumption) ?_ ?_
      · (rename IfMark => iM); clear iM
        cases fe
        · have htxt := FO.text rfl _ _ _ _ _ hall6 h6
          k_steps
          exact ⟨rfl, _, _, rfl, by assumption, by assumption⟩
        · k_steps
          exact ⟨rfl, _, _, rfl, by assumption, by assumption⟩
      · (rename IfMark => iM); clear iM
        intro h3 tk3 F3 N3
        (try dsimp only)
        k_steps
        exact hret _ _ _ _ _ q1 q2 KtsTurn.refl ‹Fr h₀ L _ m› (newsTail (newsTail (newsTail (newsTail (newsTail (newsTail (newsTail (by assumption)))))))) B X T D
theorem frm_use {w : World} {loose : List Str} {mean : ExcName → Option Value} {mg mb : Str → Option Value} {dp un : Nat} {gd : Option (List Code)} {cn : Str} {cs : Scope} {a : Addr} {ccd : Value} {outer : List Env} {A₀ : Around} {base h₀ : Heap} {L : Addr} {m : Str → Option Value} {s : Shared} {Q E : Value → Shared → Prop} {news : List (Addr × Obj)} {l tp : Addr} {vs : List Value} {ns : List Int} {n n' : Nat} {nw : Obj → List (Addr × Obj)} {at' : Int} {tk t1 t2 : Tok} {nm wr kind U : Str} {sh : Addr} {opc thi sev lo hh st : Int} {ys parts : List Str} {fe hb cb eb : Bool} {bv : Value}
    (B : Below A₀ base outer h₀)
    (F : Fr h₀ L s.heap m)
    (X : (hd.heap_1 w.params).In h₀)
    (N : News h₀ L s.heap news)
    (T : Top hd.view_1 loose mean mg mb h₀)
    (hk : cs.kind = .function)
    (hdp : dp + 20 < recursionLimit)
    (hun : un + 160 < cLine)
    (hnw : news = nw (tapeO l n' at' tk))
    (hT : TapeOk l tp vs n nw)
    (hi : IntsAre vs ns)
    (hl : ns.length < 64)
    (h0 : 0 ≤ at')
    (h1 : at' < 9900)
    (hbv : BV hb bv nw lo hh st)
    (FO : FormOk w nm wr kind U sh opc thi sev lo hh st ys parts fe hb cb eb)
    (hdp1 : dp = 302)
    (XB : (hd.heap_1 w.params).In base)
    (TB : Top hd.view_1 loose mean mg mb base)
    (ZB : base.get? 0 = some (o0 w.params))
    (D : KtsDicts (outer.filterMap (·.frame)) h₀)
    (hret : ∀ h₀' h' tk' at2 tq, at' ≤ at2 → at2 ≤ at' + 10 → KtsTurn (outer.filterMap (·.frame)) h₀ h₀' → Fr h₀' L h' m → News h₀' L h' (nw (tapeO l n' at2 tq)) → Below A₀ base outer h₀' → (hd.heap_1 w.params).In h₀' → Top hd.view_1 loose mean mg mb h₀' → KtsDicts (outer.filterMap (·.frame)) h₀' → Q (.bool true) { s with heap := h', toks := tk' }) :
    wpAny (model PySem.Challenge.rw_pq0900_01.row.prog w) (ktrTop dp un gd cn cs L a ccd [] outer) (call (.ref 1147) [.ref tp, .str nm t1, .str wr t2, bv]) Q E s :=
  frm_c _ _ _ _ _ _ _ _ _ _ _ _ _ _ _ _ _ _ _ _ _ _ _ _ _ _ _ _ _ _ _ _ _ _ _ _ _ _ _ _ _ _ _ _ _ _ B F X N T hk hdp hun hnw hT hi hl h0 h1 hbv FO hdp1 XB TB ZB D hret
end
end Mine
-- part FORMS
namespace Mine
theorem resetFORMS : True := by
  w_top off
  k_with_none
  exact True.intro
open PySem PySem.W PyProof.Rows PySem.Calls PySem.Spec
noncomputable def kh (P : Params) (x : String) : Int := PyData.keyHash P (Str.ofString x)
theorem tupS {w : World} {h : Heap} {a : Addr} {ys : List Str} (X : (hd.heap_1 w.params).In h) (h1 : (hd.heap_1 w.params).lookup a = some ⟨.type "tuple", none, .seq (tIt w a).toArray (tN w a), #[]⟩) (h2 : (tIt w a).all (fun v => (strOf v).isSome) = true) (h3 : (tIt w a).filterMap strOf = ys) :
    IsTup h a (tIt w a).toArray ∧ StrsAre (tIt w a).toArray.toList ys := ⟨⟨_, X _ _ h1, rfl, _, rfl⟩, h3 ▸ strsAre_of _ h2⟩
theorem str_assoc (a b c : Str) : a ++ b ++ c = a ++ (b ++ c) := congrArg Str.mk Array.append_assoc
theorem empty_app (a : Str) : Str.empty ++ a = a := congrArg Str.mk (Array.empty_append (xs := a.cps))
theorem join1 (s a : Str) : Txt.join s [a] = a := rfl
theorem join2 (s a b : Str) : Txt.join s [a, b] = a ++ s ++ b := rfl
theorem join3 (s a b c : Str) : Txt.join s [a, b, c] = a ++ s ++ b ++ s ++ c := rfl
theorem row0 (w : World) (y1 y2 y3 y4 y5 : Int) : rowOf (rowsL w y1 y2 y3 y4 y5) (Str.ofString "rd") = some (abiAt w y1) := rfl
theorem rowA0 (w : World) (y1 y2 y3 y4 y5 : Int) : rowAt (rowsL w y1 y2 y3 y4 y5) (Str.ofString "rd") = abiAt w y1 := rfl
theorem row1 (w : World) (y1 y2 y3 y4 y5 : Int) : rowOf (rowsL w y1 y2 y3 y4 y5) (Str.ofString "rs1") = some (abiAt w y2) := rfl
theorem rowA1 (w : World) (y1 y2 y3 y4 y5 : Int) : rowAt (rowsL w y1 y2 y3 y4 y5) (Str.ofString "rs1") = abiAt w y2 := rfl
theorem row2 (w : World) (y1 y2 y3 y4 y5 : Int) : rowOf (rowsL w y1 y2 y3 y4 y5) (Str.ofString "rs2") = some (abiAt w y3) := rfl
theorem rowA2 (w : World) (y1 y2 y3 y4 y5 : Int) : rowAt (rowsL w y1 y2 y3 y4 y5) (Str.ofString "rs2") = abiAt w y3 := rfl
theorem row3 (w : World) (y1 y2 y3 y4 y5 : Int) : rowOf (rowsL w y1 y2 y3 y4 y5) (Str.ofString "imm") = some (Str.ofString (toString y4)) := rfl
theorem rowA3 (w : World) (y1 y2 y3 y4 y5 : Int) : rowAt (rowsL w y1 y2 y3 y4 y5) (Str.ofString "imm") = Str.ofString (toString y4) := rfl
theorem row4 (w : World) (y1 y2 y3 y4 y5 : Int) : rowOf (rowsL w y1 y2 y3 y4 y5) (Str.ofString "hex") = some (PySem.baseText "0x" 16 y4) := rfl
theorem rowA4 (w : World) (y1 y2 y3 y4 y5 : Int) : rowAt (rowsL w y1 y2 y3 y4 y5) (Str.ofString "hex") = PySem.baseText "0x" 16 y4 := rfl
theorem row5 (w : World) (y1 y2 y3 y4 y5 : Int) : rowOf (rowsL w y1 y2 y3 y4 y5) (Str.ofString "csr") = some (knownS y5) := rfl
theorem rowA5 (w : World) (y1 y2 y3 y4 y5 : Int) : rowAt (rowsL w y1 y2 y3 y4 y5) (Str.ofString "csr") = knownS y5 := rfl
theorem row6 (w : World) (y1 y2 y3 y4 y5 : Int) : rowOf (rowsL w y1 y2 y3 y4 y5) (Str.ofString "imm(rs1)") = some (Str.ofString (toString y4) ++ Str.ofString "(" ++ abiAt w y2 ++ Str.ofString ")") := rfl
theorem rowA6 (w : World) (y1 y2 y3 y4 y5 : Int) : rowAt (rowsL w y1 y2 y3 y4 y5) (Str.ofString "imm(rs1)") = Str.ofString (toString y4) ++ Str.ofString "(" ++ abiAt w y2 ++ Str.ofString ")" := rfl
theorem csr_same : ∀ y ∈ csr9, csrS y = knownS y := by decide +kernel
theorem tup_991 {w : World} {h : Heap} (X : (hd.heap_1 w.params).In h) : IsTup h 991 (tIt w 991).toArray ∧ StrsAre (tIt w 991).toArray.toList [(Str.ofString "rd"), (Str.ofString "rs1"), (Str.ofString "rs2")] := tupS X (by kernel_rfl) (by kernel_rfl) (by kernel_rfl)
theorem kf_R {w : World} {h : Heap} (X : (hd.heap_1 w.params).In h) : KindF w h (Str.ofString "R") [(Str.ofString "rd"), (Str.ofString "rs1"), (Str.ofString "rs2")] (0) (1) 1 := ⟨⟨991, _, by kernel_rfl, tup_991 X⟩, fun q => absurd q (by decide +kernel), by decide, by decide, by decide, by decide⟩
theorem tup_992 {w : World} {h : Heap} (X : (hd.heap_1 w.params).In h) : IsTup h 992 (tIt w 992).toArray ∧ StrsAre (tIt w 992).toArray.toList [(Str.ofString "rd"), (Str.ofString "rs1"), (Str.ofString "imm")] := tupS X (by kernel_rfl) (by kernel_rfl) (by kernel_rfl)
theorem kf_I {w : World} {h : Heap} (X : (hd.heap_1 w.params).In h) : KindF w h (Str.ofString "I") [(Str.ofString "rd"), (Str.ofString "rs1"), (Str.ofString "imm")] (-2048) (2047) 1 := ⟨⟨992, _, by kernel_rfl, tup_992 X⟩, fun _ => ⟨1004, 4024, 4025, 4026, by kernel_rfl, ⟨_, X _ _ (show (hd.heap_1 w.params).lookup 1004 = some ⟨.type "tuple", none, .seq #[.int (-2048) 4024, .int (2047) 4025, .int (1) 4026] 0, #[]⟩ by kernel_rfl), rfl, _, rfl⟩⟩, by decide, by decide, by decide, by decide⟩
theorem tup_993 {w : World} {h : Heap} (X : (hd.heap_1 w.params).In h) : IsTup h 993 (tIt w 993).toArray ∧ StrsAre (tIt w 993).toArray.toList [(Str.ofString "rs1"), (Str.ofString "rs2"), (Str.ofString "imm")] := tupS X (by kernel_rfl) (by kernel_rfl) (by kernel_rfl)
theorem kf_S {w : World} {h : Heap} (X : (hd.heap_1 w.params).In h) : KindF w h (Str.ofString "S") [(Str.ofString "rs1"), (Str.ofString "rs2"), (Str.ofString "imm")] (-2048) (2047) 1 := ⟨⟨993, _, by kernel_rfl, tup_993 X⟩, fun _ => ⟨1005, 4029, 4030, 4031, by kernel_rfl, ⟨_, X _ _ (show (hd.heap_1 w.params).lookup 1005 = some ⟨.type "tuple", none, .seq #[.int (-2048) 4029, .int (2047) 4030, .int (1) 4031] 0, #[]⟩ by kernel_rfl), rfl, _, rfl⟩⟩, by decide, by decide, by decide, by decide⟩
theorem tup_994 {w : World} {h : Heap} (X : (hd.heap_1 w.params).In h) : IsTup h 994 (tIt w 994).toArray ∧ StrsAre (tIt w 994).toArray.toList [(Str.ofString "rs1"), (Str.ofString "rs2"), (Str.ofString "imm")] := tupS X (by kernel_rfl) (by kernel_rfl) (by kernel_rfl)
theorem kf_B {w : World} {h : Heap} (X : (hd.heap_1 w.params).In h) : KindF w h (Str.ofString "B") [(Str.ofString "rs1"), (Str.ofString "rs2"), (Str.ofString "imm")] (-4096) (4094) 2 := ⟨⟨994, _, by kernel_rfl, tup_994 X⟩, fun _ => ⟨1006, 4034, 4035, 4036, by kernel_rfl, ⟨_, X _ _ (show (hd.heap_1 w.params).lookup 1006 = some ⟨.type "tuple", none, .seq #[.int (-4096) 4034, .int (4094) 4035, .int (2) 4036] 0, #[]⟩ by kernel_rfl), rfl, _, rfl⟩⟩, by decide, by decide, by decide, by decide⟩
theorem tup_1002 {w : World} {h : Heap} (X : (hd.heap_1 w.params).In h) : IsTup h 1002 (tIt w 1002).toArray ∧ StrsAre (tIt w 1002).toArray.toList [] := tupS X (by kernel_rfl) (by kernel_rfl) (by kernel_rfl)
theorem kf_system {w : World} {h : Heap} (X : (hd.heap_1 w.params).In h) : KindF w h (Str.ofString "system") [] (0) (1) 1 := ⟨⟨1002, _, by kernel_rfl, tup_1002 X⟩, fun q => absurd q (by decide +kernel), by decide, by decide, by decide, by decide⟩
theorem tup_996 {w : World} {h : Heap} (X : (hd.heap_1 w.params).In h) : IsTup h 996 (tIt w 996).toArray ∧ StrsAre (tIt w 996).toArray.toList [(Str.ofString "rd"), (Str.ofString "imm")] := tupS X (by kernel_rfl) (by kernel_rfl) (by kernel_rfl)
theorem kf_J {w : World} {h : Heap} (X : (hd.heap_1 w.params).In h) : KindF w h (Str.ofString "J") [(Str.ofString "rd"), (Str.ofString "imm")] (-1048576) (1048574) 2 := ⟨⟨996, _, by kernel_rfl, tup_996 X⟩, fun _ => ⟨1008, 4043, 4044, 4045, by kernel_rfl, ⟨_, X _ _ (show (hd.heap_1 w.params).lookup 1008 = some ⟨.type "tuple", none, .seq #[.int (-1048576) 4043, .int (1048574) 4044, .int (2) 4045] 0, #[]⟩ by kernel_rfl), rfl, _, rfl⟩⟩, by decide, by decide, by decide, by decide⟩
theorem tup_995 {w : World} {h : Heap} (X : (hd.heap_1 w.params).In h) : IsTup h 995 (tIt w 995).toArray ∧ StrsAre (tIt w 995).toArray.toList [(Str.ofString "rd"), (Str.ofString "imm")] := tupS X (by kernel_rfl) (by kernel_rfl) (by kernel_rfl)
theorem kf_U {w : World} {h : Heap} (X : (hd.heap_1 w.params).In h) : KindF w h (Str.ofString "U") [(Str.ofString "rd"), (Str.ofString "imm")] (0) (1048575) 1 := ⟨⟨995, _, by kernel_rfl, tup_995 X⟩, fun _ => ⟨1007, 4038, 4039, 4040, by kernel_rfl, ⟨_, X _ _ (show (hd.heap_1 w.params).lookup 1007 = some ⟨.type "tuple", none, .seq #[.int (0) 4038, .int (1048575) 4039, .int (1) 4040] 0, #[]⟩ by kernel_rfl), rfl, _, rfl⟩⟩, by decide, by decide, by decide, by decide⟩
theorem tup_997 {w : World} {h : Heap} (X : (hd.heap_1 w.params).In h) : IsTup h 997 (tIt w 997).toArray ∧ StrsAre (tIt w 997).toArray.toList [(Str.ofString "rd"), (Str.ofString "rs1"), (Str.ofString "imm")] := tupS X (by kernel_rfl) (by kernel_rfl) (by kernel_rfl)
theorem kf_shift {w : World} {h : Heap} (X : (hd.heap_1 w.params).In h) : KindF w h (Str.ofString "shift") [(Str.ofString "rd"), (Str.ofString "rs1"), (Str.ofString "imm")] (0) (31) 1 := ⟨⟨997, _, by kernel_rfl, tup_997 X⟩, fun _ => ⟨1009, 4047, 4048, 4049, by kernel_rfl, ⟨_, X _ _ (show (hd.heap_1 w.params).lookup 1009 = some ⟨.type "tuple", none, .seq #[.int (0) 4047, .int (31) 4048, .int (1) 4049] 0, #[]⟩ by kernel_rfl), rfl, _, rfl⟩⟩, by decide, by decide, by decide, by decide⟩
theorem tup_999 {w : World} {h : Heap} (X : (hd.heap_1 w.params).In h) : IsTup h 999 (tIt w 999).toArray ∧ StrsAre (tIt w 999).toArray.toList [(Str.ofString "rd"), (Str.ofString "rs1"), (Str.ofString "csr")] := tupS X (by kernel_rfl) (by kernel_rfl) (by kernel_rfl)
theorem kf_CSR {w : World} {h : Heap} (X : (hd.heap_1 w.params).In h) : KindF w h (Str.ofString "CSR") [(Str.ofString "rd"), (Str.ofString "rs1"), (Str.ofString "csr")] (0) (1) 1 := ⟨⟨999, _, by kernel_rfl, tup_999 X⟩, fun q => absurd q (by decide +kernel), by decide, by decide, by decide, by decide⟩
theorem tup_1000 {w : World} {h : Heap} (X : (hd.heap_1 w.params).In h) : IsTup h 1000 (tIt w 1000).toArray ∧ StrsAre (tIt w 1000).toArray.toList [(Str.ofString "rd"), (Str.ofString "imm"), (Str.ofString "csr")] := tupS X (by kernel_rfl) (by kernel_rfl) (by kernel_rfl)
theorem kf_CSRI {w : World} {h : Heap} (X : (hd.heap_1 w.params).In h) : KindF w h (Str.ofString "CSRI") [(Str.ofString "rd"), (Str.ofString "imm"), (Str.ofString "csr")] (0) (31) 1 := ⟨⟨1000, _, by kernel_rfl, tup_1000 X⟩, fun _ => ⟨1011, 4055, 4056, 4057, by kernel_rfl, ⟨_, X _ _ (show (hd.heap_1 w.params).lookup 1011 = some ⟨.type "tuple", none, .seq #[.int (0) 4055, .int (31) 4056, .int (1) 4057] 0, #[]⟩ by kernel_rfl), rfl, _, rfl⟩⟩, by decide, by decide, by decide, by decide⟩
theorem tup_1001 {w : World} {h : Heap} (X : (hd.heap_1 w.params).In h) : IsTup h 1001 (tIt w 1001).toArray ∧ StrsAre (tIt w 1001).toArray.toList [(Str.ofString "rs1"), (Str.ofString "rs2")] := tupS X (by kernel_rfl) (by kernel_rfl) (by kernel_rfl)
theorem kf_flush {w : World} {h : Heap} (X : (hd.heap_1 w.params).In h) : KindF w h (Str.ofString "flush") [(Str.ofString "rs1"), (Str.ofString "rs2")] (0) (1) 1 := ⟨⟨1001, _, by kernel_rfl, tup_1001 X⟩, fun q => absurd q (by decide +kernel), by decide, by decide, by decide, by decide⟩
theorem tup_998 {w : World} {h : Heap} (X : (hd.heap_1 w.params).In h) : IsTup h 998 (tIt w 998).toArray ∧ StrsAre (tIt w 998).toArray.toList [(Str.ofString "rd"), (Str.ofString "rs1"), (Str.ofString "imm")] := tupS X (by kernel_rfl) (by kernel_rfl) (by kernel_rfl)
theorem kf_fence {w : World} {h : Heap} (X : (hd.heap_1 w.params).In h) : KindF w h (Str.ofString "fence") [(Str.ofString "rd"), (Str.ofString "rs1"), (Str.ofString "imm")] (0) (4095) 1 := ⟨⟨998, _, by kernel_rfl, tup_998 X⟩, fun _ => ⟨1010, 4051, 4052, 4053, by kernel_rfl, ⟨_, X _ _ (show (hd.heap_1 w.params).lookup 1010 = some ⟨.type "tuple", none, .seq #[.int (0) 4051, .int (4095) 4052, .int (1) 4053] 0, #[]⟩ by kernel_rfl), rfl, _, rfl⟩⟩, by decide, by decide, by decide, by decide⟩
theorem sf_add {w : World} {h : Heap} (X : (hd.heap_1 w.params).In h) : ShapeF w h (Str.ofString "add") (Str.ofString "R") 434 51 0 0 := ⟨by kernel_rfl, ⟨433, 5, kh w.params "name", kh w.params "kind", kh w.params "opcode", kh w.params "third", kh w.params "seventh", 1260, 1241, 1262, 1234, 1264, 412, 1266, 1249, 1268, 523, ⟨X _ _ (by kernel_rfl), rfl, rfl, X 433 (dictOf [⟨kh w.params "name", .str (Str.ofString "name") 1260, .str (Str.ofString "add") 1241⟩, ⟨kh w.params "kind", .str (Str.ofString "kind") 1262, .str (Str.ofString "R") 1234⟩, ⟨kh w.params "opcode", .str (Str.ofString "opcode") 1264, .int 51 412⟩, ⟨kh w.params "third", .str (Str.ofString "third") 1266, .int 0 1249⟩, ⟨kh w.params "seventh", .str (Str.ofString "seventh") 1268, .int 0 523⟩] 5) (by kernel_rfl)⟩⟩, by decide, by decide, by decide, by decide, by decide, by decide⟩
theorem sf_addi {w : World} {h : Heap} (X : (hd.heap_1 w.params).In h) : ShapeF w h (Str.ofString "addi") (Str.ofString "I") 306 19 0 0 := ⟨by kernel_rfl, ⟨305, 5, kh w.params "name", kh w.params "kind", kh w.params "opcode", kh w.params "third", kh w.params "seventh", 991, 972, 993, 965, 995, 406, 997, 980, 999, 523, ⟨X _ _ (by kernel_rfl), rfl, rfl, X 305 (dictOf [⟨kh w.params "name", .str (Str.ofString "name") 991, .str (Str.ofString "addi") 972⟩, ⟨kh w.params "kind", .str (Str.ofString "kind") 993, .str (Str.ofString "I") 965⟩, ⟨kh w.params "opcode", .str (Str.ofString "opcode") 995, .int 19 406⟩, ⟨kh w.params "third", .str (Str.ofString "third") 997, .int 0 980⟩, ⟨kh w.params "seventh", .str (Str.ofString "seventh") 999, .int 0 523⟩] 5) (by kernel_rfl)⟩⟩, by decide, by decide, by decide, by decide, by decide, by decide⟩
theorem sf_lw {w : World} {h : Heap} (X : (hd.heap_1 w.params).In h) : ShapeF w h (Str.ofString "lw") (Str.ofString "I") 246 3 2 0 := ⟨by kernel_rfl, ⟨245, 5, kh w.params "name", kh w.params "kind", kh w.params "opcode", kh w.params "third", kh w.params "seventh", 840, 785, 842, 776, 844, 402, 846, 829, 848, 523, ⟨X _ _ (by kernel_rfl), rfl, rfl, X 245 (dictOf [⟨kh w.params "name", .str (Str.ofString "name") 840, .str (Str.ofString "lw") 785⟩, ⟨kh w.params "kind", .str (Str.ofString "kind") 842, .str (Str.ofString "I") 776⟩, ⟨kh w.params "opcode", .str (Str.ofString "opcode") 844, .int 3 402⟩, ⟨kh w.params "third", .str (Str.ofString "third") 846, .int 2 829⟩, ⟨kh w.params "seventh", .str (Str.ofString "seventh") 848, .int 0 523⟩] 5) (by kernel_rfl)⟩⟩, by decide, by decide, by decide, by decide, by decide, by decide⟩
theorem sf_sb {w : World} {h : Heap} (X : (hd.heap_1 w.params).In h) : ShapeF w h (Str.ofString "sb") (Str.ofString "S") 278 35 0 0 := ⟨by kernel_rfl, ⟨277, 5, kh w.params "name", kh w.params "kind", kh w.params "opcode", kh w.params "third", kh w.params "seventh", 915, 901, 917, 894, 919, 410, 921, 904, 923, 523, ⟨X _ _ (by kernel_rfl), rfl, rfl, X 277 (dictOf [⟨kh w.params "name", .str (Str.ofString "name") 915, .str (Str.ofString "sb") 901⟩, ⟨kh w.params "kind", .str (Str.ofString "kind") 917, .str (Str.ofString "S") 894⟩, ⟨kh w.params "opcode", .str (Str.ofString "opcode") 919, .int 35 410⟩, ⟨kh w.params "third", .str (Str.ofString "third") 921, .int 0 904⟩, ⟨kh w.params "seventh", .str (Str.ofString "seventh") 923, .int 0 523⟩] 5) (by kernel_rfl)⟩⟩, by decide, by decide, by decide, by decide, by decide, by decide⟩
theorem sf_bne {w : World} {h : Heap} (X : (hd.heap_1 w.params).In h) : ShapeF w h (Str.ofString "bne") (Str.ofString "B") 182 99 1 0 := ⟨by kernel_rfl, ⟨181, 5, kh w.params "name", kh w.params "kind", kh w.params "opcode", kh w.params "third", kh w.params "seventh", 678, 640, 680, 632, 682, 416, 684, 667, 686, 523, ⟨X _ _ (by kernel_rfl), rfl, rfl, X 181 (dictOf [⟨kh w.params "name", .str (Str.ofString "name") 678, .str (Str.ofString "bne") 640⟩, ⟨kh w.params "kind", .str (Str.ofString "kind") 680, .str (Str.ofString "B") 632⟩, ⟨kh w.params "opcode", .str (Str.ofString "opcode") 682, .int 99 416⟩, ⟨kh w.params "third", .str (Str.ofString "third") 684, .int 1 667⟩, ⟨kh w.params "seventh", .str (Str.ofString "seventh") 686, .int 0 523⟩] 5) (by kernel_rfl)⟩⟩, by decide, by decide, by decide, by decide, by decide, by decide⟩
theorem sf_ecall {w : World} {h : Heap} (X : (hd.heap_1 w.params).In h) : ShapeF w h (Str.ofString "ecall") (Str.ofString "system") 702 115 0 0 := ⟨by kernel_rfl, ⟨701, 5, kh w.params "name", kh w.params "kind", kh w.params "opcode", kh w.params "third", kh w.params "seventh", 1922, 1899, 1924, 1911, 1926, 1914, 1928, 489, 1930, 490, ⟨X _ _ (by kernel_rfl), rfl, rfl, X 701 (dictOf [⟨kh w.params "name", .str (Str.ofString "name") 1922, .str (Str.ofString "ecall") 1899⟩, ⟨kh w.params "kind", .str (Str.ofString "kind") 1924, .str (Str.ofString "system") 1911⟩, ⟨kh w.params "opcode", .str (Str.ofString "opcode") 1926, .int 115 1914⟩, ⟨kh w.params "third", .str (Str.ofString "third") 1928, .int 0 489⟩, ⟨kh w.params "seventh", .str (Str.ofString "seventh") 1930, .int 0 490⟩] 5) (by kernel_rfl)⟩⟩, by decide, by decide, by decide, by decide, by decide, by decide⟩
theorem sf_jal {w : World} {h : Heap} (X : (hd.heap_1 w.params).In h) : ShapeF w h (Str.ofString "jal") (Str.ofString "J") 159 111 0 0 := ⟨by kernel_rfl, ⟨158, 5, kh w.params "name", kh w.params "kind", kh w.params "opcode", kh w.params "third", kh w.params "seventh", 603, 594, 605, 595, 607, 420, 609, 489, 611, 490, ⟨X _ _ (by kernel_rfl), rfl, rfl, X 158 (dictOf [⟨kh w.params "name", .str (Str.ofString "name") 603, .str (Str.ofString "jal") 594⟩, ⟨kh w.params "kind", .str (Str.ofString "kind") 605, .str (Str.ofString "J") 595⟩, ⟨kh w.params "opcode", .str (Str.ofString "opcode") 607, .int 111 420⟩, ⟨kh w.params "third", .str (Str.ofString "third") 609, .int 0 489⟩, ⟨kh w.params "seventh", .str (Str.ofString "seventh") 611, .int 0 490⟩] 5) (by kernel_rfl)⟩⟩, by decide, by decide, by decide, by decide, by decide, by decide⟩
theorem sf_lui {w : World} {h : Heap} (X : (hd.heap_1 w.params).In h) : ShapeF w h (Str.ofString "lui") (Str.ofString "U") 153 55 0 0 := ⟨by kernel_rfl, ⟨152, 5, kh w.params "name", kh w.params "kind", kh w.params "opcode", kh w.params "third", kh w.params "seventh", 567, 558, 569, 559, 571, 414, 573, 489, 575, 490, ⟨X _ _ (by kernel_rfl), rfl, rfl, X 152 (dictOf [⟨kh w.params "name", .str (Str.ofString "name") 567, .str (Str.ofString "lui") 558⟩, ⟨kh w.params "kind", .str (Str.ofString "kind") 569, .str (Str.ofString "U") 559⟩, ⟨kh w.params "opcode", .str (Str.ofString "opcode") 571, .int 55 414⟩, ⟨kh w.params "third", .str (Str.ofString "third") 573, .int 0 489⟩, ⟨kh w.params "seventh", .str (Str.ofString "seventh") 575, .int 0 490⟩] 5) (by kernel_rfl)⟩⟩, by decide, by decide, by decide, by decide, by decide, by decide⟩
theorem sf_slli {w : World} {h : Heap} (X : (hd.heap_1 w.params).In h) : ShapeF w h (Str.ofString "slli") (Str.ofString "shift") 367 19 1 0 := ⟨by kernel_rfl, ⟨366, 5, kh w.params "name", kh w.params "kind", kh w.params "opcode", kh w.params "third", kh w.params "seventh", 1137, 1117, 1139, 1109, 1141, 406, 1143, 1126, 1145, 523, ⟨X _ _ (by kernel_rfl), rfl, rfl, X 366 (dictOf [⟨kh w.params "name", .str (Str.ofString "name") 1137, .str (Str.ofString "slli") 1117⟩, ⟨kh w.params "kind", .str (Str.ofString "kind") 1139, .str (Str.ofString "shift") 1109⟩, ⟨kh w.params "opcode", .str (Str.ofString "opcode") 1141, .int 19 406⟩, ⟨kh w.params "third", .str (Str.ofString "third") 1143, .int 1 1126⟩, ⟨kh w.params "seventh", .str (Str.ofString "seventh") 1145, .int 0 523⟩] 5) (by kernel_rfl)⟩⟩, by decide, by decide, by decide, by decide, by decide, by decide⟩
theorem sf_csrrw {w : World} {h : Heap} (X : (hd.heap_1 w.params).In h) : ShapeF w h (Str.ofString "csrrw") (Str.ofString "CSR") 622 115 1 0 := ⟨by kernel_rfl, ⟨621, 5, kh w.params "name", kh w.params "kind", kh w.params "opcode", kh w.params "third", kh w.params "seventh", 1734, 1716, 1736, 1708, 1738, 422, 1740, 1723, 1742, 523, ⟨X _ _ (by kernel_rfl), rfl, rfl, X 621 (dictOf [⟨kh w.params "name", .str (Str.ofString "name") 1734, .str (Str.ofString "csrrw") 1716⟩, ⟨kh w.params "kind", .str (Str.ofString "kind") 1736, .str (Str.ofString "CSR") 1708⟩, ⟨kh w.params "opcode", .str (Str.ofString "opcode") 1738, .int 115 422⟩, ⟨kh w.params "third", .str (Str.ofString "third") 1740, .int 1 1723⟩, ⟨kh w.params "seventh", .str (Str.ofString "seventh") 1742, .int 0 523⟩] 5) (by kernel_rfl)⟩⟩, by decide, by decide, by decide, by decide, by decide, by decide⟩
theorem sf_csrrsi {w : World} {h : Heap} (X : (hd.heap_1 w.params).In h) : ShapeF w h (Str.ofString "csrrsi") (Str.ofString "CSRI") 677 115 6 0 := ⟨by kernel_rfl, ⟨676, 5, kh w.params "name", kh w.params "kind", kh w.params "opcode", kh w.params "third", kh w.params "seventh", 1850, 1797, 1852, 1784, 1854, 422, 1856, 1839, 1858, 523, ⟨X _ _ (by kernel_rfl), rfl, rfl, X 676 (dictOf [⟨kh w.params "name", .str (Str.ofString "name") 1850, .str (Str.ofString "csrrsi") 1797⟩, ⟨kh w.params "kind", .str (Str.ofString "kind") 1852, .str (Str.ofString "CSRI") 1784⟩, ⟨kh w.params "opcode", .str (Str.ofString "opcode") 1854, .int 115 422⟩, ⟨kh w.params "third", .str (Str.ofString "third") 1856, .int 6 1839⟩, ⟨kh w.params "seventh", .str (Str.ofString "seventh") 1858, .int 0 523⟩] 5) (by kernel_rfl)⟩⟩, by decide, by decide, by decide, by decide, by decide, by decide⟩
theorem sf_sfence_vma {w : World} {h : Heap} (X : (hd.heap_1 w.params).In h) : ShapeF w h (Str.ofString "sfence.vma") (Str.ofString "flush") 689 115 0 9 := ⟨by kernel_rfl, ⟨688, 5, kh w.params "name", kh w.params "kind", kh w.params "opcode", kh w.params "third", kh w.params "seventh", 1890, 1879, 1892, 1880, 1894, 422, 1896, 1881, 1898, 1882, ⟨X _ _ (by kernel_rfl), rfl, rfl, X 688 (dictOf [⟨kh w.params "name", .str (Str.ofString "name") 1890, .str (Str.ofString "sfence.vma") 1879⟩, ⟨kh w.params "kind", .str (Str.ofString "kind") 1892, .str (Str.ofString "flush") 1880⟩, ⟨kh w.params "opcode", .str (Str.ofString "opcode") 1894, .int 115 422⟩, ⟨kh w.params "third", .str (Str.ofString "third") 1896, .int 0 1881⟩, ⟨kh w.params "seventh", .str (Str.ofString "seventh") 1898, .int 9 1882⟩] 5) (by kernel_rfl)⟩⟩, by decide, by decide, by decide, by decide, by decide, by decide⟩
theorem sf_jalr {w : World} {h : Heap} (X : (hd.heap_1 w.params).In h) : ShapeF w h (Str.ofString "jalr") (Str.ofString "I") 162 103 0 0 := ⟨by kernel_rfl, ⟨161, 5, kh w.params "name", kh w.params "kind", kh w.params "opcode", kh w.params "third", kh w.params "seventh", 621, 612, 623, 613, 625, 418, 627, 489, 629, 490, ⟨X _ _ (by kernel_rfl), rfl, rfl, X 161 (dictOf [⟨kh w.params "name", .str (Str.ofString "name") 621, .str (Str.ofString "jalr") 612⟩, ⟨kh w.params "kind", .str (Str.ofString "kind") 623, .str (Str.ofString "I") 613⟩, ⟨kh w.params "opcode", .str (Str.ofString "opcode") 625, .int 103 418⟩, ⟨kh w.params "third", .str (Str.ofString "third") 627, .int 0 489⟩, ⟨kh w.params "seventh", .str (Str.ofString "seventh") 629, .int 0 490⟩] 5) (by kernel_rfl)⟩⟩, by decide, by decide, by decide, by decide, by decide, by decide⟩
theorem sf_fence {w : World} {h : Heap} (X : (hd.heap_1 w.params).In h) : ShapeF w h (Str.ofString "fence") (Str.ofString "fence") 597 15 0 0 := ⟨by kernel_rfl, ⟨596, 5, kh w.params "name", kh w.params "kind", kh w.params "opcode", kh w.params "third", kh w.params "seventh", 1678, 1665, 1680, 1658, 1682, 404, 1684, 1667, 1686, 523, ⟨X _ _ (by kernel_rfl), rfl, rfl, X 596 (dictOf [⟨kh w.params "name", .str (Str.ofString "name") 1678, .str (Str.ofString "fence") 1665⟩, ⟨kh w.params "kind", .str (Str.ofString "kind") 1680, .str (Str.ofString "fence") 1658⟩, ⟨kh w.params "opcode", .str (Str.ofString "opcode") 1682, .int 15 404⟩, ⟨kh w.params "third", .str (Str.ofString "third") 1684, .int 0 1667⟩, ⟨kh w.params "seventh", .str (Str.ofString "seventh") 1686, .int 0 523⟩] 5) (by kernel_rfl)⟩⟩, by decide, by decide, by decide, by decide, by decide, by decide⟩
theorem sf_sub {w : World} {h : Heap} (X : (hd.heap_1 w.params).In h) : ShapeF w h (Str.ofString "sub") (Str.ofString "R") 497 51 0 32 := ⟨by kernel_rfl, ⟨496, 5, kh w.params "name", kh w.params "kind", kh w.params "opcode", kh w.params "third", kh w.params "seventh", 1435, 1418, 1437, 1410, 1439, 412, 1441, 1424, 1443, 1411, ⟨X _ _ (by kernel_rfl), rfl, rfl, X 496 (dictOf [⟨kh w.params "name", .str (Str.ofString "name") 1435, .str (Str.ofString "sub") 1418⟩, ⟨kh w.params "kind", .str (Str.ofString "kind") 1437, .str (Str.ofString "R") 1410⟩, ⟨kh w.params "opcode", .str (Str.ofString "opcode") 1439, .int 51 412⟩, ⟨kh w.params "third", .str (Str.ofString "third") 1441, .int 0 1424⟩, ⟨kh w.params "seventh", .str (Str.ofString "seventh") 1443, .int 32 1411⟩] 5) (by kernel_rfl)⟩⟩, by decide, by decide, by decide, by decide, by decide, by decide⟩
theorem sf_xor {w : World} {h : Heap} (X : (hd.heap_1 w.params).In h) : ShapeF w h (Str.ofString "xor") (Str.ofString "R") 462 51 4 0 := ⟨by kernel_rfl, ⟨461, 5, kh w.params "name", kh w.params "kind", kh w.params "opcode", kh w.params "third", kh w.params "seventh", 1340, 1245, 1342, 1234, 1344, 412, 1346, 1329, 1348, 523, ⟨X _ _ (by kernel_rfl), rfl, rfl, X 461 (dictOf [⟨kh w.params "name", .str (Str.ofString "name") 1340, .str (Str.ofString "xor") 1245⟩, ⟨kh w.params "kind", .str (Str.ofString "kind") 1342, .str (Str.ofString "R") 1234⟩, ⟨kh w.params "opcode", .str (Str.ofString "opcode") 1344, .int 51 412⟩, ⟨kh w.params "third", .str (Str.ofString "third") 1346, .int 4 1329⟩, ⟨kh w.params "seventh", .str (Str.ofString "seventh") 1348, .int 0 523⟩] 5) (by kernel_rfl)⟩⟩, by decide, by decide, by decide, by decide, by decide, by decide⟩
theorem good_add (w : World) : ∀ y1 y2 y3 y4 y5, (∀ p ∈ sp5 (.int y1) (.int y2) (.int y3) (.int y4) (.int y5), okV [(Str.ofString "rd"), (Str.ofString "rs1"), (Str.ofString "rs2")] (0) (1) 1 p.1 p.2) → (0 ≤ encI (Str.ofString "R") 51 0 0 y1 y2 y3 y4 y5 ∧ encI (Str.ofString "R") 51 0 0 y1 y2 y3 y4 y5 < 4294967296) ∧ Found w (encI (Str.ofString "R") 51 0 0 y1 y2 y3 y4 y5) (Str.ofString "R") 434 ∧ ∀ z1 z2 z3 z4 z5, DecR (encI (Str.ofString "R") 51 0 0 y1 y2 y3 y4 y5) (Str.ofString "R") z1 z2 z3 z4 z5 → z1 = y1 ∧ z2 = y2 ∧ z3 = y3 ∧ z4 = y4 ∧ z5 = y5 := by
  intro y1 y2 y3 y4 y5 hall
  simp only [sp5, List.forall_mem_cons, List.not_mem_nil, false_implies, implies_true, and_true] at hall
  obtain ⟨h1, h2, h3, h4, h5⟩ := hall
  have a1 := (okV_reg (by decide +kernel) (by decide) (by decide)).mp h1
  have a2 := (okV_reg (by decide +kernel) (by decide) (by decide)).mp h2
  have a3 := (okV_reg (by decide +kernel) (by decide) (by decide)).mp h3
  obtain rfl := (okV_no (by decide +kernel)).mp h4
  obtain rfl := (okV_no (by decide +kernel)).mp h5
  obtain ⟨a, t, b, c, d, D, rfl, rfl, hz⟩ := dg_R (opc := 51) (thi := 0) (sev := 0) (by decide) (by decide) (by decide) (by decide) (by decide) (by decide) a1 a2 a3
  exact ⟨D.bnd, .seventh (by rw [bitAnd_m7, D.op]; kernel_rfl) (by rw [and_third, D.op, D.x4096_8]; kernel_rfl) (by rw [and_seventh, D.op, D.x4096_8, D.x33554432_128]; kernel_rfl) (.inl (by decide +kernel)), hz⟩
theorem text_add (w : World) : false = false → ∀ y1 y2 y3 y4 y5, (∀ p ∈ sp5 (.int y1) (.int y2) (.int y3) (.int y4) (.int y5), okV [(Str.ofString "rd"), (Str.ofString "rs1"), (Str.ofString "rs2")] (0) (1) 1 p.1 p.2) → (false = true → y5 ∈ csr9) → txtS w (Str.ofString "R") (Str.ofString "add") 51 y1 y2 y3 y4 y5 = ltxS w (Str.ofString "add") (Str.ofString "rd rs1 rs2") [(Str.ofString "rd"), (Str.ofString "rs1"), (Str.ofString "rs2")] y1 y2 y3 y4 y5 := by
  intro _ y1 y2 y3 y4 y5 _ hc
  unfold txtS ltxS
  rw [show ((Str.ofString "R") == (Str.ofString "R")) = true from by decide +kernel, cond_true, show ((Str.ofString "rd rs1 rs2") == (Str.ofString "")) = false from by decide +kernel, cond_false]
  simp only [List.map_cons, List.map_nil, rowA0, rowA1, rowA2, join3, str_assoc, empty_app]
theorem fo_add (w : World) : FormOk w (Str.ofString "add") (Str.ofString "rd rs1 rs2") (Str.ofString "R") (Str.ofString "rd rs1 rs2") 434 51 0 0 (0) (1) 1 [(Str.ofString "rd"), (Str.ofString "rs1"), (Str.ofString "rs2")] [(Str.ofString "rd"), (Str.ofString "rs1"), (Str.ofString "rs2")] false false false false where
  sf := fun _ X => sf_add X
  kf := fun _ X => kf_R X
  hfe := by decide +kernel
  hke := by decide +kernel
  hnl := by decide +kernel
  hok := by decide +kernel
  hwl := by decide +kernel
  hU := by decide +kernel
  hcu := by decide +kernel
  himm := by decide +kernel
  hst := by decide
  hlo := by decide
  hlh := by decide
  hhi := by decide
  hdv := by decide
  hlm := by decide
  heb := by decide +kernel
  hsp := by decide +kernel
  hpl := by decide
  hpk := fun _ p hp => by
    simp only [List.mem_cons, List.not_mem_nil, or_false] at hp
    rcases hp with rfl | rfl | rfl <;> intros <;> rfl
  hcs := by decide +kernel
  hcy := by decide +kernel
  good := good_add w
  text := text_add w
theorem good_addi (w : World) : ∀ y1 y2 y3 y4 y5, (∀ p ∈ sp5 (.int y1) (.int y2) (.int y3) (.int y4) (.int y5), okV [(Str.ofString "rd"), (Str.ofString "rs1"), (Str.ofString "imm")] (-2048) (2047) 1 p.1 p.2) → (0 ≤ encI (Str.ofString "I") 19 0 0 y1 y2 y3 y4 y5 ∧ encI (Str.ofString "I") 19 0 0 y1 y2 y3 y4 y5 < 4294967296) ∧ Found w (encI (Str.ofString "I") 19 0 0 y1 y2 y3 y4 y5) (Str.ofString "I") 306 ∧ ∀ z1 z2 z3 z4 z5, DecR (encI (Str.ofString "I") 19 0 0 y1 y2 y3 y4 y5) (Str.ofString "I") z1 z2 z3 z4 z5 → z1 = y1 ∧ z2 = y2 ∧ z3 = y3 ∧ z4 = y4 ∧ z5 = y5 := by
  intro y1 y2 y3 y4 y5 hall
  simp only [sp5, List.forall_mem_cons, List.not_mem_nil, false_implies, implies_true, and_true] at hall
  obtain ⟨h1, h2, h3, h4, h5⟩ := hall
  have a1 := (okV_reg (by decide +kernel) (by decide) (by decide)).mp h1
  have a2 := (okV_reg (by decide +kernel) (by decide) (by decide)).mp h2
  obtain rfl := (okV_no (by decide +kernel)).mp h3
  have a4 := (okV_imm (by decide +kernel)).mp h4
  rw [Int.fmod_eq_emod_of_nonneg _ (by decide)] at a4
  obtain rfl := (okV_no (by decide +kernel)).mp h5
  replace a4 := And.intro a4.1 a4.2.1
  obtain ⟨a, t, b, c, d, D, rfl, hz⟩ := dg_I (opc := 19) (thi := 0) (by decide) (by decide) (by decide) (by decide) a1 a2 a4
  exact ⟨D.bnd, .third (by rw [bitAnd_m7, D.op]; kernel_rfl) (by rw [and_third, D.op, D.x4096_8]; kernel_rfl), hz⟩
theorem text_addi (w : World) : false = false → ∀ y1 y2 y3 y4 y5, (∀ p ∈ sp5 (.int y1) (.int y2) (.int y3) (.int y4) (.int y5), okV [(Str.ofString "rd"), (Str.ofString "rs1"), (Str.ofString "imm")] (-2048) (2047) 1 p.1 p.2) → (false = true → y5 ∈ csr9) → txtS w (Str.ofString "I") (Str.ofString "addi") 19 y1 y2 y3 y4 y5 = ltxS w (Str.ofString "addi") (Str.ofString "rd rs1 imm") [(Str.ofString "rd"), (Str.ofString "rs1"), (Str.ofString "imm")] y1 y2 y3 y4 y5 := by
  intro _ y1 y2 y3 y4 y5 _ hc
  unfold txtS ltxS
  rw [show ((Str.ofString "I") == (Str.ofString "R")) = false from by decide +kernel, cond_false, show (((Str.ofString "I") == (Str.ofString "I")) && (((Str.ofString "addi") == (Str.ofString "jalr")) || decide ((19 : Int) = 3))) = false from by decide +kernel, cond_false, show ([(Str.ofString "I"), (Str.ofString "shift")].any fun x => x == (Str.ofString "I")) = true from by decide +kernel, cond_true, show ((Str.ofString "rd rs1 imm") == (Str.ofString "")) = false from by decide +kernel, cond_false]
  simp only [List.map_cons, List.map_nil, rowA0, rowA1, rowA3, join3, str_assoc, empty_app]
theorem fo_addi (w : World) : FormOk w (Str.ofString "addi") (Str.ofString "rd rs1 imm") (Str.ofString "I") (Str.ofString "rd rs1 imm imm") 306 19 0 0 (-2048) (2047) 1 [(Str.ofString "rd"), (Str.ofString "rs1"), (Str.ofString "imm")] [(Str.ofString "rd"), (Str.ofString "rs1"), (Str.ofString "imm")] false true false false where
  sf := fun _ X => sf_addi X
  kf := fun _ X => kf_I X
  hfe := by decide +kernel
  hke := by decide +kernel
  hnl := by decide +kernel
  hok := by decide +kernel
  hwl := by decide +kernel
  hU := by decide +kernel
  hcu := by decide +kernel
  himm := by decide +kernel
  hst := by decide
  hlo := by decide
  hlh := by decide
  hhi := by decide
  hdv := by decide
  hlm := by decide
  heb := by decide +kernel
  hsp := by decide +kernel
  hpl := by decide
  hpk := fun _ p hp => by
    simp only [List.mem_cons, List.not_mem_nil, or_false] at hp
    rcases hp with rfl | rfl | rfl <;> intros <;> rfl
  hcs := by decide +kernel
  hcy := by decide +kernel
  good := good_addi w
  text := text_addi w
theorem good_lw (w : World) : ∀ y1 y2 y3 y4 y5, (∀ p ∈ sp5 (.int y1) (.int y2) (.int y3) (.int y4) (.int y5), okV [(Str.ofString "rd"), (Str.ofString "rs1"), (Str.ofString "imm")] (-2048) (2047) 1 p.1 p.2) → (0 ≤ encI (Str.ofString "I") 3 2 0 y1 y2 y3 y4 y5 ∧ encI (Str.ofString "I") 3 2 0 y1 y2 y3 y4 y5 < 4294967296) ∧ Found w (encI (Str.ofString "I") 3 2 0 y1 y2 y3 y4 y5) (Str.ofString "I") 246 ∧ ∀ z1 z2 z3 z4 z5, DecR (encI (Str.ofString "I") 3 2 0 y1 y2 y3 y4 y5) (Str.ofString "I") z1 z2 z3 z4 z5 → z1 = y1 ∧ z2 = y2 ∧ z3 = y3 ∧ z4 = y4 ∧ z5 = y5 := by
  intro y1 y2 y3 y4 y5 hall
  simp only [sp5, List.forall_mem_cons, List.not_mem_nil, false_implies, implies_true, and_true] at hall
  obtain ⟨h1, h2, h3, h4, h5⟩ := hall
  have a1 := (okV_reg (by decide +kernel) (by decide) (by decide)).mp h1
  have a2 := (okV_reg (by decide +kernel) (by decide) (by decide)).mp h2
  obtain rfl := (okV_no (by decide +kernel)).mp h3
  have a4 := (okV_imm (by decide +kernel)).mp h4
  rw [Int.fmod_eq_emod_of_nonneg _ (by decide)] at a4
  obtain rfl := (okV_no (by decide +kernel)).mp h5
  replace a4 := And.intro a4.1 a4.2.1
  obtain ⟨a, t, b, c, d, D, rfl, hz⟩ := dg_I (opc := 3) (thi := 2) (by decide) (by decide) (by decide) (by decide) a1 a2 a4
  exact ⟨D.bnd, .third (by rw [bitAnd_m7, D.op]; kernel_rfl) (by rw [and_third, D.op, D.x4096_8]; kernel_rfl), hz⟩
theorem text_lw (w : World) : false = false → ∀ y1 y2 y3 y4 y5, (∀ p ∈ sp5 (.int y1) (.int y2) (.int y3) (.int y4) (.int y5), okV [(Str.ofString "rd"), (Str.ofString "rs1"), (Str.ofString "imm")] (-2048) (2047) 1 p.1 p.2) → (false = true → y5 ∈ csr9) → txtS w (Str.ofString "I") (Str.ofString "lw") 3 y1 y2 y3 y4 y5 = ltxS w (Str.ofString "lw") (Str.ofString "rd imm(rs1)") [(Str.ofString "rd"), (Str.ofString "imm(rs1)")] y1 y2 y3 y4 y5 := by
  intro _ y1 y2 y3 y4 y5 _ hc
  unfold txtS ltxS
  rw [show ((Str.ofString "I") == (Str.ofString "R")) = false from by decide +kernel, cond_false, show (((Str.ofString "I") == (Str.ofString "I")) && (((Str.ofString "lw") == (Str.ofString "jalr")) || decide ((3 : Int) = 3))) = true from by decide +kernel, cond_true, show ((Str.ofString "rd imm(rs1)") == (Str.ofString "")) = false from by decide +kernel, cond_false]
  simp only [List.map_cons, List.map_nil, rowA0, rowA6, join2, str_assoc, empty_app]
theorem fo_lw (w : World) : FormOk w (Str.ofString "lw") (Str.ofString "rd imm(rs1)") (Str.ofString "I") (Str.ofString "rd imm(rs1) imm") 246 3 2 0 (-2048) (2047) 1 [(Str.ofString "rd"), (Str.ofString "rs1"), (Str.ofString "imm")] [(Str.ofString "rd"), (Str.ofString "imm(rs1)")] false true false false where
  sf := fun _ X => sf_lw X
  kf := fun _ X => kf_I X
  hfe := by decide +kernel
  hke := by decide +kernel
  hnl := by decide +kernel
  hok := by decide +kernel
  hwl := by decide +kernel
  hU := by decide +kernel
  hcu := by decide +kernel
  himm := by decide +kernel
  hst := by decide
  hlo := by decide
  hlh := by decide
  hhi := by decide
  hdv := by decide
  hlm := by decide
  heb := by decide +kernel
  hsp := by decide +kernel
  hpl := by decide
  hpk := fun _ p hp => by
    simp only [List.mem_cons, List.not_mem_nil, or_false] at hp
    rcases hp with rfl | rfl <;> intros <;> rfl
  hcs := by decide +kernel
  hcy := by decide +kernel
  good := good_lw w
  text := text_lw w
theorem good_sb (w : World) : ∀ y1 y2 y3 y4 y5, (∀ p ∈ sp5 (.int y1) (.int y2) (.int y3) (.int y4) (.int y5), okV [(Str.ofString "rs1"), (Str.ofString "rs2"), (Str.ofString "imm")] (-2048) (2047) 1 p.1 p.2) → (0 ≤ encI (Str.ofString "S") 35 0 0 y1 y2 y3 y4 y5 ∧ encI (Str.ofString "S") 35 0 0 y1 y2 y3 y4 y5 < 4294967296) ∧ Found w (encI (Str.ofString "S") 35 0 0 y1 y2 y3 y4 y5) (Str.ofString "S") 278 ∧ ∀ z1 z2 z3 z4 z5, DecR (encI (Str.ofString "S") 35 0 0 y1 y2 y3 y4 y5) (Str.ofString "S") z1 z2 z3 z4 z5 → z1 = y1 ∧ z2 = y2 ∧ z3 = y3 ∧ z4 = y4 ∧ z5 = y5 := by
  intro y1 y2 y3 y4 y5 hall
  simp only [sp5, List.forall_mem_cons, List.not_mem_nil, false_implies, implies_true, and_true] at hall
  obtain ⟨h1, h2, h3, h4, h5⟩ := hall
  obtain rfl := (okV_no (by decide +kernel)).mp h1
  have a2 := (okV_reg (by decide +kernel) (by decide) (by decide)).mp h2
  have a3 := (okV_reg (by decide +kernel) (by decide) (by decide)).mp h3
  have a4 := (okV_imm (by decide +kernel)).mp h4
  rw [Int.fmod_eq_emod_of_nonneg _ (by decide)] at a4
  obtain rfl := (okV_no (by decide +kernel)).mp h5
  replace a4 := And.intro a4.1 a4.2.1
  obtain ⟨a, t, b, c, d, D, rfl, hz⟩ := dg_S (opc := 35) (thi := 0) (by decide) (by decide) (by decide) (by decide) a2 a3 a4
  exact ⟨D.bnd, .third (by rw [bitAnd_m7, D.op]; kernel_rfl) (by rw [and_third, D.op, D.x4096_8]; kernel_rfl), hz⟩
theorem text_sb (w : World) : false = false → ∀ y1 y2 y3 y4 y5, (∀ p ∈ sp5 (.int y1) (.int y2) (.int y3) (.int y4) (.int y5), okV [(Str.ofString "rs1"), (Str.ofString "rs2"), (Str.ofString "imm")] (-2048) (2047) 1 p.1 p.2) → (false = true → y5 ∈ csr9) → txtS w (Str.ofString "S") (Str.ofString "sb") 35 y1 y2 y3 y4 y5 = ltxS w (Str.ofString "sb") (Str.ofString "rs2 imm(rs1)") [(Str.ofString "rs2"), (Str.ofString "imm(rs1)")] y1 y2 y3 y4 y5 := by
  intro _ y1 y2 y3 y4 y5 _ hc
  unfold txtS ltxS
  rw [show ((Str.ofString "S") == (Str.ofString "R")) = false from by decide +kernel, cond_false, show (((Str.ofString "S") == (Str.ofString "I")) && (((Str.ofString "sb") == (Str.ofString "jalr")) || decide ((35 : Int) = 3))) = false from by decide +kernel, cond_false, show ([(Str.ofString "I"), (Str.ofString "shift")].any fun x => x == (Str.ofString "S")) = false from by decide +kernel, cond_false, show ((Str.ofString "S") == (Str.ofString "S")) = true from by decide +kernel, cond_true, show ((Str.ofString "rs2 imm(rs1)") == (Str.ofString "")) = false from by decide +kernel, cond_false]
  simp only [List.map_cons, List.map_nil, rowA2, rowA6, join2, str_assoc, empty_app]
theorem fo_sb (w : World) : FormOk w (Str.ofString "sb") (Str.ofString "rs2 imm(rs1)") (Str.ofString "S") (Str.ofString "rs2 imm(rs1) imm") 278 35 0 0 (-2048) (2047) 1 [(Str.ofString "rs1"), (Str.ofString "rs2"), (Str.ofString "imm")] [(Str.ofString "rs2"), (Str.ofString "imm(rs1)")] false true false false where
  sf := fun _ X => sf_sb X
  kf := fun _ X => kf_S X
  hfe := by decide +kernel
  hke := by decide +kernel
  hnl := by decide +kernel
  hok := by decide +kernel
  hwl := by decide +kernel
  hU := by decide +kernel
  hcu := by decide +kernel
  himm := by decide +kernel
  hst := by decide
  hlo := by decide
  hlh := by decide
  hhi := by decide
  hdv := by decide
  hlm := by decide
  heb := by decide +kernel
  hsp := by decide +kernel
  hpl := by decide
  hpk := fun _ p hp => by
    simp only [List.mem_cons, List.not_mem_nil, or_false] at hp
    rcases hp with rfl | rfl <;> intros <;> rfl
  hcs := by decide +kernel
  hcy := by decide +kernel
  good := good_sb w
  text := text_sb w
theorem good_bne (w : World) : ∀ y1 y2 y3 y4 y5, (∀ p ∈ sp5 (.int y1) (.int y2) (.int y3) (.int y4) (.int y5), okV [(Str.ofString "rs1"), (Str.ofString "rs2"), (Str.ofString "imm")] (-4096) (4094) 2 p.1 p.2) → (0 ≤ encI (Str.ofString "B") 99 1 0 y1 y2 y3 y4 y5 ∧ encI (Str.ofString "B") 99 1 0 y1 y2 y3 y4 y5 < 4294967296) ∧ Found w (encI (Str.ofString "B") 99 1 0 y1 y2 y3 y4 y5) (Str.ofString "B") 182 ∧ ∀ z1 z2 z3 z4 z5, DecR (encI (Str.ofString "B") 99 1 0 y1 y2 y3 y4 y5) (Str.ofString "B") z1 z2 z3 z4 z5 → z1 = y1 ∧ z2 = y2 ∧ z3 = y3 ∧ z4 = y4 ∧ z5 = y5 := by
  intro y1 y2 y3 y4 y5 hall
  simp only [sp5, List.forall_mem_cons, List.not_mem_nil, false_implies, implies_true, and_true] at hall
  obtain ⟨h1, h2, h3, h4, h5⟩ := hall
  obtain rfl := (okV_no (by decide +kernel)).mp h1
  have a2 := (okV_reg (by decide +kernel) (by decide) (by decide)).mp h2
  have a3 := (okV_reg (by decide +kernel) (by decide) (by decide)).mp h3
  have a4 := (okV_imm (by decide +kernel)).mp h4
  rw [Int.fmod_eq_emod_of_nonneg _ (by decide)] at a4
  obtain rfl := (okV_no (by decide +kernel)).mp h5
  have a4 := a4
  obtain ⟨a, t, b, c, d, D, rfl, hz⟩ := dg_B (opc := 99) (thi := 1) (by decide) (by decide) (by decide) (by decide) a2 a3 a4
  exact ⟨D.bnd, .third (by rw [bitAnd_m7, D.op]; kernel_rfl) (by rw [and_third, D.op, D.x4096_8]; kernel_rfl), hz⟩
theorem text_bne (w : World) : false = false → ∀ y1 y2 y3 y4 y5, (∀ p ∈ sp5 (.int y1) (.int y2) (.int y3) (.int y4) (.int y5), okV [(Str.ofString "rs1"), (Str.ofString "rs2"), (Str.ofString "imm")] (-4096) (4094) 2 p.1 p.2) → (false = true → y5 ∈ csr9) → txtS w (Str.ofString "B") (Str.ofString "bne") 99 y1 y2 y3 y4 y5 = ltxS w (Str.ofString "bne") (Str.ofString "rs1 rs2 imm") [(Str.ofString "rs1"), (Str.ofString "rs2"), (Str.ofString "imm")] y1 y2 y3 y4 y5 := by
  intro _ y1 y2 y3 y4 y5 _ hc
  unfold txtS ltxS
  rw [show ((Str.ofString "B") == (Str.ofString "R")) = false from by decide +kernel, cond_false, show (((Str.ofString "B") == (Str.ofString "I")) && (((Str.ofString "bne") == (Str.ofString "jalr")) || decide ((99 : Int) = 3))) = false from by decide +kernel, cond_false, show ([(Str.ofString "I"), (Str.ofString "shift")].any fun x => x == (Str.ofString "B")) = false from by decide +kernel, cond_false, show ((Str.ofString "B") == (Str.ofString "S")) = false from by decide +kernel, cond_false, show ((Str.ofString "B") == (Str.ofString "B")) = true from by decide +kernel, cond_true, show ((Str.ofString "rs1 rs2 imm") == (Str.ofString "")) = false from by decide +kernel, cond_false]
  simp only [List.map_cons, List.map_nil, rowA1, rowA2, rowA3, join3, str_assoc, empty_app]
theorem fo_bne (w : World) : FormOk w (Str.ofString "bne") (Str.ofString "rs1 rs2 imm") (Str.ofString "B") (Str.ofString "rs1 rs2 imm imm") 182 99 1 0 (-4096) (4094) 2 [(Str.ofString "rs1"), (Str.ofString "rs2"), (Str.ofString "imm")] [(Str.ofString "rs1"), (Str.ofString "rs2"), (Str.ofString "imm")] false true false false where
  sf := fun _ X => sf_bne X
  kf := fun _ X => kf_B X
  hfe := by decide +kernel
  hke := by decide +kernel
  hnl := by decide +kernel
  hok := by decide +kernel
  hwl := by decide +kernel
  hU := by decide +kernel
  hcu := by decide +kernel
  himm := by decide +kernel
  hst := by decide
  hlo := by decide
  hlh := by decide
  hhi := by decide
  hdv := by decide
  hlm := by decide
  heb := by decide +kernel
  hsp := by decide +kernel
  hpl := by decide
  hpk := fun _ p hp => by
    simp only [List.mem_cons, List.not_mem_nil, or_false] at hp
    rcases hp with rfl | rfl | rfl <;> intros <;> rfl
  hcs := by decide +kernel
  hcy := by decide +kernel
  good := good_bne w
  text := text_bne w
theorem good_ecall (w : World) : ∀ y1 y2 y3 y4 y5, (∀ p ∈ sp5 (.int y1) (.int y2) (.int y3) (.int y4) (.int y5), okV [] (0) (1) 1 p.1 p.2) → (0 ≤ encI (Str.ofString "system") 115 0 0 y1 y2 y3 y4 y5 ∧ encI (Str.ofString "system") 115 0 0 y1 y2 y3 y4 y5 < 4294967296) ∧ Found w (encI (Str.ofString "system") 115 0 0 y1 y2 y3 y4 y5) (Str.ofString "system") 702 ∧ ∀ z1 z2 z3 z4 z5, DecR (encI (Str.ofString "system") 115 0 0 y1 y2 y3 y4 y5) (Str.ofString "system") z1 z2 z3 z4 z5 → z1 = y1 ∧ z2 = y2 ∧ z3 = y3 ∧ z4 = y4 ∧ z5 = y5 := by
  intro y1 y2 y3 y4 y5 hall
  simp only [sp5, List.forall_mem_cons, List.not_mem_nil, false_implies, implies_true, and_true] at hall
  obtain ⟨h1, h2, h3, h4, h5⟩ := hall
  obtain rfl := (okV_no (by decide +kernel)).mp h1
  obtain rfl := (okV_no (by decide +kernel)).mp h2
  obtain rfl := (okV_no (by decide +kernel)).mp h3
  obtain rfl := (okV_no (by decide +kernel)).mp h4
  obtain rfl := (okV_no (by decide +kernel)).mp h5
  obtain ⟨a, t, b, c, d, D, rfl, rfl, rfl, rfl, rfl, hz⟩ := dg_system (opc := 115) (thi := 0) (sev := 0) (by decide) (by decide) (by decide) (by decide) (by decide) (by decide) 
  exact ⟨D.bnd, .whole (by rw [bitAnd_m7, D.op]; kernel_rfl) (by rw [and_third, D.op, D.x4096_8]; kernel_rfl) (by rw [and_seventh, D.op, D.x4096_8, D.x33554432_128]; kernel_rfl) (by rw [D.e]; kernel_rfl), hz⟩
theorem text_ecall (w : World) : false = false → ∀ y1 y2 y3 y4 y5, (∀ p ∈ sp5 (.int y1) (.int y2) (.int y3) (.int y4) (.int y5), okV [] (0) (1) 1 p.1 p.2) → (false = true → y5 ∈ csr9) → txtS w (Str.ofString "system") (Str.ofString "ecall") 115 y1 y2 y3 y4 y5 = ltxS w (Str.ofString "ecall") (Str.ofString "") [(Str.ofString "")] y1 y2 y3 y4 y5 := by
  intro _ y1 y2 y3 y4 y5 _ hc
  unfold txtS ltxS
  rw [show ((Str.ofString "system") == (Str.ofString "R")) = false from by decide +kernel, cond_false, show (((Str.ofString "system") == (Str.ofString "I")) && (((Str.ofString "ecall") == (Str.ofString "jalr")) || decide ((115 : Int) = 3))) = false from by decide +kernel, cond_false, show ([(Str.ofString "I"), (Str.ofString "shift")].any fun x => x == (Str.ofString "system")) = false from by decide +kernel, cond_false, show ((Str.ofString "system") == (Str.ofString "S")) = false from by decide +kernel, cond_false, show ((Str.ofString "system") == (Str.ofString "B")) = false from by decide +kernel, cond_false, show ((Str.ofString "system") == (Str.ofString "U")) = false from by decide +kernel, cond_false, show ((Str.ofString "system") == (Str.ofString "J")) = false from by decide +kernel, cond_false, show ((Str.ofString "system") == (Str.ofString "CSR")) = false from by decide +kernel, cond_false, show ((Str.ofString "system") == (Str.ofString "CSRI")) = false from by decide +kernel, cond_false, show ((Str.ofString "system") == (Str.ofString "flush")) = false from by decide +kernel, cond_false, show ((Str.ofString "") == (Str.ofString "")) = true from by decide +kernel, cond_true]
theorem fo_ecall (w : World) : FormOk w (Str.ofString "ecall") (Str.ofString "") (Str.ofString "system") (Str.ofString "") 702 115 0 0 (0) (1) 1 [] [(Str.ofString "")] false false false true where
  sf := fun _ X => sf_ecall X
  kf := fun _ X => kf_system X
  hfe := by decide +kernel
  hke := by decide +kernel
  hnl := by decide +kernel
  hok := by decide +kernel
  hwl := by decide +kernel
  hU := by decide +kernel
  hcu := by decide +kernel
  himm := by decide +kernel
  hst := by decide
  hlo := by decide
  hlh := by decide
  hhi := by decide
  hdv := by decide
  hlm := by decide
  heb := by decide +kernel
  hsp := by decide +kernel
  hpl := by decide
  hpk := fun h => nomatch h
  hcs := by decide +kernel
  hcy := by decide +kernel
  good := good_ecall w
  text := text_ecall w
theorem good_jal (w : World) : ∀ y1 y2 y3 y4 y5, (∀ p ∈ sp5 (.int y1) (.int y2) (.int y3) (.int y4) (.int y5), okV [(Str.ofString "rd"), (Str.ofString "imm")] (-1048576) (1048574) 2 p.1 p.2) → (0 ≤ encI (Str.ofString "J") 111 0 0 y1 y2 y3 y4 y5 ∧ encI (Str.ofString "J") 111 0 0 y1 y2 y3 y4 y5 < 4294967296) ∧ Found w (encI (Str.ofString "J") 111 0 0 y1 y2 y3 y4 y5) (Str.ofString "J") 159 ∧ ∀ z1 z2 z3 z4 z5, DecR (encI (Str.ofString "J") 111 0 0 y1 y2 y3 y4 y5) (Str.ofString "J") z1 z2 z3 z4 z5 → z1 = y1 ∧ z2 = y2 ∧ z3 = y3 ∧ z4 = y4 ∧ z5 = y5 := by
  intro y1 y2 y3 y4 y5 hall
  simp only [sp5, List.forall_mem_cons, List.not_mem_nil, false_implies, implies_true, and_true] at hall
  obtain ⟨h1, h2, h3, h4, h5⟩ := hall
  have a1 := (okV_reg (by decide +kernel) (by decide) (by decide)).mp h1
  obtain rfl := (okV_no (by decide +kernel)).mp h2
  obtain rfl := (okV_no (by decide +kernel)).mp h3
  have a4 := (okV_imm (by decide +kernel)).mp h4
  rw [Int.fmod_eq_emod_of_nonneg _ (by decide)] at a4
  obtain rfl := (okV_no (by decide +kernel)).mp h5
  have a4 := a4
  obtain ⟨a, t, b, c, d, D, hz⟩ := dg_J (opc := 111) (by decide) (by decide) a1 a4
  exact ⟨D.bnd, .opc (by rw [bitAnd_m7, D.op]; kernel_rfl), hz⟩
theorem text_jal (w : World) : false = false → ∀ y1 y2 y3 y4 y5, (∀ p ∈ sp5 (.int y1) (.int y2) (.int y3) (.int y4) (.int y5), okV [(Str.ofString "rd"), (Str.ofString "imm")] (-1048576) (1048574) 2 p.1 p.2) → (false = true → y5 ∈ csr9) → txtS w (Str.ofString "J") (Str.ofString "jal") 111 y1 y2 y3 y4 y5 = ltxS w (Str.ofString "jal") (Str.ofString "rd imm") [(Str.ofString "rd"), (Str.ofString "imm")] y1 y2 y3 y4 y5 := by
  intro _ y1 y2 y3 y4 y5 _ hc
  unfold txtS ltxS
  rw [show ((Str.ofString "J") == (Str.ofString "R")) = false from by decide +kernel, cond_false, show (((Str.ofString "J") == (Str.ofString "I")) && (((Str.ofString "jal") == (Str.ofString "jalr")) || decide ((111 : Int) = 3))) = false from by decide +kernel, cond_false, show ([(Str.ofString "I"), (Str.ofString "shift")].any fun x => x == (Str.ofString "J")) = false from by decide +kernel, cond_false, show ((Str.ofString "J") == (Str.ofString "S")) = false from by decide +kernel, cond_false, show ((Str.ofString "J") == (Str.ofString "B")) = false from by decide +kernel, cond_false, show ((Str.ofString "J") == (Str.ofString "U")) = false from by decide +kernel, cond_false, show ((Str.ofString "J") == (Str.ofString "J")) = true from by decide +kernel, cond_true, show ((Str.ofString "rd imm") == (Str.ofString "")) = false from by decide +kernel, cond_false]
  simp only [List.map_cons, List.map_nil, rowA0, rowA3, join2, str_assoc, empty_app]
theorem fo_jal (w : World) : FormOk w (Str.ofString "jal") (Str.ofString "rd imm") (Str.ofString "J") (Str.ofString "rd imm imm") 159 111 0 0 (-1048576) (1048574) 2 [(Str.ofString "rd"), (Str.ofString "imm")] [(Str.ofString "rd"), (Str.ofString "imm")] false true false false where
  sf := fun _ X => sf_jal X
  kf := fun _ X => kf_J X
  hfe := by decide +kernel
  hke := by decide +kernel
  hnl := by decide +kernel
  hok := by decide +kernel
  hwl := by decide +kernel
  hU := by decide +kernel
  hcu := by decide +kernel
  himm := by decide +kernel
  hst := by decide
  hlo := by decide
  hlh := by decide
  hhi := by decide
  hdv := by decide
  hlm := by decide
  heb := by decide +kernel
  hsp := by decide +kernel
  hpl := by decide
  hpk := fun _ p hp => by
    simp only [List.mem_cons, List.not_mem_nil, or_false] at hp
    rcases hp with rfl | rfl <;> intros <;> rfl
  hcs := by decide +kernel
  hcy := by decide +kernel
  good := good_jal w
  text := text_jal w
theorem good_lui (w : World) : ∀ y1 y2 y3 y4 y5, (∀ p ∈ sp5 (.int y1) (.int y2) (.int y3) (.int y4) (.int y5), okV [(Str.ofString "rd"), (Str.ofString "imm")] (0) (1048575) 1 p.1 p.2) → (0 ≤ encI (Str.ofString "U") 55 0 0 y1 y2 y3 y4 y5 ∧ encI (Str.ofString "U") 55 0 0 y1 y2 y3 y4 y5 < 4294967296) ∧ Found w (encI (Str.ofString "U") 55 0 0 y1 y2 y3 y4 y5) (Str.ofString "U") 153 ∧ ∀ z1 z2 z3 z4 z5, DecR (encI (Str.ofString "U") 55 0 0 y1 y2 y3 y4 y5) (Str.ofString "U") z1 z2 z3 z4 z5 → z1 = y1 ∧ z2 = y2 ∧ z3 = y3 ∧ z4 = y4 ∧ z5 = y5 := by
  intro y1 y2 y3 y4 y5 hall
  simp only [sp5, List.forall_mem_cons, List.not_mem_nil, false_implies, implies_true, and_true] at hall
  obtain ⟨h1, h2, h3, h4, h5⟩ := hall
  have a1 := (okV_reg (by decide +kernel) (by decide) (by decide)).mp h1
  obtain rfl := (okV_no (by decide +kernel)).mp h2
  obtain rfl := (okV_no (by decide +kernel)).mp h3
  have a4 := (okV_imm (by decide +kernel)).mp h4
  rw [Int.fmod_eq_emod_of_nonneg _ (by decide)] at a4
  obtain rfl := (okV_no (by decide +kernel)).mp h5
  replace a4 := And.intro a4.1 a4.2.1
  replace a4 := And.intro a4.1 (Int.lt_of_le_of_lt a4.2 (by decide : (1048575 : Int) < 1048576))
  obtain ⟨a, t, b, c, d, D, hz⟩ := dg_U (opc := 55) (by decide) (by decide) a1 a4
  exact ⟨D.bnd, .opc (by rw [bitAnd_m7, D.op]; kernel_rfl), hz⟩
theorem text_lui (w : World) : false = false → ∀ y1 y2 y3 y4 y5, (∀ p ∈ sp5 (.int y1) (.int y2) (.int y3) (.int y4) (.int y5), okV [(Str.ofString "rd"), (Str.ofString "imm")] (0) (1048575) 1 p.1 p.2) → (false = true → y5 ∈ csr9) → txtS w (Str.ofString "U") (Str.ofString "lui") 55 y1 y2 y3 y4 y5 = ltxS w (Str.ofString "lui") (Str.ofString "rd hex") [(Str.ofString "rd"), (Str.ofString "hex")] y1 y2 y3 y4 y5 := by
  intro _ y1 y2 y3 y4 y5 _ hc
  unfold txtS ltxS
  rw [show ((Str.ofString "U") == (Str.ofString "R")) = false from by decide +kernel, cond_false, show (((Str.ofString "U") == (Str.ofString "I")) && (((Str.ofString "lui") == (Str.ofString "jalr")) || decide ((55 : Int) = 3))) = false from by decide +kernel, cond_false, show ([(Str.ofString "I"), (Str.ofString "shift")].any fun x => x == (Str.ofString "U")) = false from by decide +kernel, cond_false, show ((Str.ofString "U") == (Str.ofString "S")) = false from by decide +kernel, cond_false, show ((Str.ofString "U") == (Str.ofString "B")) = false from by decide +kernel, cond_false, show ((Str.ofString "U") == (Str.ofString "U")) = true from by decide +kernel, cond_true, show ((Str.ofString "rd hex") == (Str.ofString "")) = false from by decide +kernel, cond_false]
  simp only [List.map_cons, List.map_nil, rowA0, rowA4, join2, str_assoc, empty_app]
theorem fo_lui (w : World) : FormOk w (Str.ofString "lui") (Str.ofString "rd hex") (Str.ofString "U") (Str.ofString "rd hex imm") 153 55 0 0 (0) (1048575) 1 [(Str.ofString "rd"), (Str.ofString "imm")] [(Str.ofString "rd"), (Str.ofString "hex")] false true false false where
  sf := fun _ X => sf_lui X
  kf := fun _ X => kf_U X
  hfe := by decide +kernel
  hke := by decide +kernel
  hnl := by decide +kernel
  hok := by decide +kernel
  hwl := by decide +kernel
  hU := by decide +kernel
  hcu := by decide +kernel
  himm := by decide +kernel
  hst := by decide
  hlo := by decide
  hlh := by decide
  hhi := by decide
  hdv := by decide
  hlm := by decide
  heb := by decide +kernel
  hsp := by decide +kernel
  hpl := by decide
  hpk := fun _ p hp => by
    simp only [List.mem_cons, List.not_mem_nil, or_false] at hp
    rcases hp with rfl | rfl <;> intros <;> rfl
  hcs := by decide +kernel
  hcy := by decide +kernel
  good := good_lui w
  text := text_lui w
theorem good_slli (w : World) : ∀ y1 y2 y3 y4 y5, (∀ p ∈ sp5 (.int y1) (.int y2) (.int y3) (.int y4) (.int y5), okV [(Str.ofString "rd"), (Str.ofString "rs1"), (Str.ofString "imm")] (0) (31) 1 p.1 p.2) → (0 ≤ encI (Str.ofString "shift") 19 1 0 y1 y2 y3 y4 y5 ∧ encI (Str.ofString "shift") 19 1 0 y1 y2 y3 y4 y5 < 4294967296) ∧ Found w (encI (Str.ofString "shift") 19 1 0 y1 y2 y3 y4 y5) (Str.ofString "shift") 367 ∧ ∀ z1 z2 z3 z4 z5, DecR (encI (Str.ofString "shift") 19 1 0 y1 y2 y3 y4 y5) (Str.ofString "shift") z1 z2 z3 z4 z5 → z1 = y1 ∧ z2 = y2 ∧ z3 = y3 ∧ z4 = y4 ∧ z5 = y5 := by
  intro y1 y2 y3 y4 y5 hall
  simp only [sp5, List.forall_mem_cons, List.not_mem_nil, false_implies, implies_true, and_true] at hall
  obtain ⟨h1, h2, h3, h4, h5⟩ := hall
  have a1 := (okV_reg (by decide +kernel) (by decide) (by decide)).mp h1
  have a2 := (okV_reg (by decide +kernel) (by decide) (by decide)).mp h2
  obtain rfl := (okV_no (by decide +kernel)).mp h3
  have a4 := (okV_imm (by decide +kernel)).mp h4
  rw [Int.fmod_eq_emod_of_nonneg _ (by decide)] at a4
  obtain rfl := (okV_no (by decide +kernel)).mp h5
  replace a4 := And.intro a4.1 a4.2.1
  replace a4 := And.intro a4.1 (Int.lt_of_le_of_lt a4.2 (by decide : (31 : Int) < 32))
  obtain ⟨a, t, b, c, d, D, rfl, rfl, hz⟩ := dg_shift (opc := 19) (thi := 1) (by decide) (by decide) (by decide) (by decide) a1 a2 a4
  exact ⟨D.bnd, .seventh (by rw [bitAnd_m7, D.op]; kernel_rfl) (by rw [and_third, D.op, D.x4096_8]; kernel_rfl) (by rw [and_seventh, D.op, D.x4096_8, D.x33554432_128]; kernel_rfl) (.inl (by decide +kernel)), hz⟩
theorem text_slli (w : World) : false = false → ∀ y1 y2 y3 y4 y5, (∀ p ∈ sp5 (.int y1) (.int y2) (.int y3) (.int y4) (.int y5), okV [(Str.ofString "rd"), (Str.ofString "rs1"), (Str.ofString "imm")] (0) (31) 1 p.1 p.2) → (false = true → y5 ∈ csr9) → txtS w (Str.ofString "shift") (Str.ofString "slli") 19 y1 y2 y3 y4 y5 = ltxS w (Str.ofString "slli") (Str.ofString "rd rs1 imm") [(Str.ofString "rd"), (Str.ofString "rs1"), (Str.ofString "imm")] y1 y2 y3 y4 y5 := by
  intro _ y1 y2 y3 y4 y5 _ hc
  unfold txtS ltxS
  rw [show ((Str.ofString "shift") == (Str.ofString "R")) = false from by decide +kernel, cond_false, show (((Str.ofString "shift") == (Str.ofString "I")) && (((Str.ofString "slli") == (Str.ofString "jalr")) || decide ((19 : Int) = 3))) = false from by decide +kernel, cond_false, show ([(Str.ofString "I"), (Str.ofString "shift")].any fun x => x == (Str.ofString "shift")) = true from by decide +kernel, cond_true, show ((Str.ofString "rd rs1 imm") == (Str.ofString "")) = false from by decide +kernel, cond_false]
  simp only [List.map_cons, List.map_nil, rowA0, rowA1, rowA3, join3, str_assoc, empty_app]
theorem fo_slli (w : World) : FormOk w (Str.ofString "slli") (Str.ofString "rd rs1 imm") (Str.ofString "shift") (Str.ofString "rd rs1 imm imm") 367 19 1 0 (0) (31) 1 [(Str.ofString "rd"), (Str.ofString "rs1"), (Str.ofString "imm")] [(Str.ofString "rd"), (Str.ofString "rs1"), (Str.ofString "imm")] false true false false where
  sf := fun _ X => sf_slli X
  kf := fun _ X => kf_shift X
  hfe := by decide +kernel
  hke := by decide +kernel
  hnl := by decide +kernel
  hok := by decide +kernel
  hwl := by decide +kernel
  hU := by decide +kernel
  hcu := by decide +kernel
  himm := by decide +kernel
  hst := by decide
  hlo := by decide
  hlh := by decide
  hhi := by decide
  hdv := by decide
  hlm := by decide
  heb := by decide +kernel
  hsp := by decide +kernel
  hpl := by decide
  hpk := fun _ p hp => by
    simp only [List.mem_cons, List.not_mem_nil, or_false] at hp
    rcases hp with rfl | rfl | rfl <;> intros <;> rfl
  hcs := by decide +kernel
  hcy := by decide +kernel
  good := good_slli w
  text := text_slli w
theorem good_csrrw (w : World) : ∀ y1 y2 y3 y4 y5, (∀ p ∈ sp5 (.int y1) (.int y2) (.int y3) (.int y4) (.int y5), okV [(Str.ofString "rd"), (Str.ofString "rs1"), (Str.ofString "csr")] (0) (1) 1 p.1 p.2) → (0 ≤ encI (Str.ofString "CSR") 115 1 0 y1 y2 y3 y4 y5 ∧ encI (Str.ofString "CSR") 115 1 0 y1 y2 y3 y4 y5 < 4294967296) ∧ Found w (encI (Str.ofString "CSR") 115 1 0 y1 y2 y3 y4 y5) (Str.ofString "CSR") 622 ∧ ∀ z1 z2 z3 z4 z5, DecR (encI (Str.ofString "CSR") 115 1 0 y1 y2 y3 y4 y5) (Str.ofString "CSR") z1 z2 z3 z4 z5 → z1 = y1 ∧ z2 = y2 ∧ z3 = y3 ∧ z4 = y4 ∧ z5 = y5 := by
  intro y1 y2 y3 y4 y5 hall
  simp only [sp5, List.forall_mem_cons, List.not_mem_nil, false_implies, implies_true, and_true] at hall
  obtain ⟨h1, h2, h3, h4, h5⟩ := hall
  have a1 := (okV_reg (by decide +kernel) (by decide) (by decide)).mp h1
  have a2 := (okV_reg (by decide +kernel) (by decide) (by decide)).mp h2
  obtain rfl := (okV_no (by decide +kernel)).mp h3
  obtain rfl := (okV_no (by decide +kernel)).mp h4
  have a5 := (okV_csr (by decide +kernel)).mp h5
  obtain ⟨a, t, b, c, d, D, rfl, hz⟩ := dg_CSR (opc := 115) (thi := 1) (by decide) (by decide) (by decide) (by decide) a1 a2 a5
  exact ⟨D.bnd, .third (by rw [bitAnd_m7, D.op]; kernel_rfl) (by rw [and_third, D.op, D.x4096_8]; kernel_rfl), hz⟩
theorem text_csrrw (w : World) : false = false → ∀ y1 y2 y3 y4 y5, (∀ p ∈ sp5 (.int y1) (.int y2) (.int y3) (.int y4) (.int y5), okV [(Str.ofString "rd"), (Str.ofString "rs1"), (Str.ofString "csr")] (0) (1) 1 p.1 p.2) → (true = true → y5 ∈ csr9) → txtS w (Str.ofString "CSR") (Str.ofString "csrrw") 115 y1 y2 y3 y4 y5 = ltxS w (Str.ofString "csrrw") (Str.ofString "rd csr rs1") [(Str.ofString "rd"), (Str.ofString "csr"), (Str.ofString "rs1")] y1 y2 y3 y4 y5 := by
  intro _ y1 y2 y3 y4 y5 _ hc
  unfold txtS ltxS
  rw [show ((Str.ofString "CSR") == (Str.ofString "R")) = false from by decide +kernel, cond_false, show (((Str.ofString "CSR") == (Str.ofString "I")) && (((Str.ofString "csrrw") == (Str.ofString "jalr")) || decide ((115 : Int) = 3))) = false from by decide +kernel, cond_false, show ([(Str.ofString "I"), (Str.ofString "shift")].any fun x => x == (Str.ofString "CSR")) = false from by decide +kernel, cond_false, show ((Str.ofString "CSR") == (Str.ofString "S")) = false from by decide +kernel, cond_false, show ((Str.ofString "CSR") == (Str.ofString "B")) = false from by decide +kernel, cond_false, show ((Str.ofString "CSR") == (Str.ofString "U")) = false from by decide +kernel, cond_false, show ((Str.ofString "CSR") == (Str.ofString "J")) = false from by decide +kernel, cond_false, show ((Str.ofString "CSR") == (Str.ofString "CSR")) = true from by decide +kernel, cond_true, show ((Str.ofString "rd csr rs1") == (Str.ofString "")) = false from by decide +kernel, cond_false]
  rw [csr_same _ (hc rfl)]
  simp only [List.map_cons, List.map_nil, rowA0, rowA1, rowA5, join3, str_assoc, empty_app]
theorem fo_csrrw (w : World) : FormOk w (Str.ofString "csrrw") (Str.ofString "rd csr rs1") (Str.ofString "CSR") (Str.ofString "rd csr rs1") 622 115 1 0 (0) (1) 1 [(Str.ofString "rd"), (Str.ofString "rs1"), (Str.ofString "csr")] [(Str.ofString "rd"), (Str.ofString "csr"), (Str.ofString "rs1")] false false true false where
  sf := fun _ X => sf_csrrw X
  kf := fun _ X => kf_CSR X
  hfe := by decide +kernel
  hke := by decide +kernel
  hnl := by decide +kernel
  hok := by decide +kernel
  hwl := by decide +kernel
  hU := by decide +kernel
  hcu := by decide +kernel
  himm := by decide +kernel
  hst := by decide
  hlo := by decide
  hlh := by decide
  hhi := by decide
  hdv := by decide
  hlm := by decide
  heb := by decide +kernel
  hsp := by decide +kernel
  hpl := by decide
  hpk := fun _ p hp => by
    simp only [List.mem_cons, List.not_mem_nil, or_false] at hp
    rcases hp with rfl | rfl | rfl <;> intros <;> rfl
  hcs := by decide +kernel
  hcy := by decide +kernel
  good := good_csrrw w
  text := text_csrrw w
theorem good_csrrsi (w : World) : ∀ y1 y2 y3 y4 y5, (∀ p ∈ sp5 (.int y1) (.int y2) (.int y3) (.int y4) (.int y5), okV [(Str.ofString "rd"), (Str.ofString "imm"), (Str.ofString "csr")] (0) (31) 1 p.1 p.2) → (0 ≤ encI (Str.ofString "CSRI") 115 6 0 y1 y2 y3 y4 y5 ∧ encI (Str.ofString "CSRI") 115 6 0 y1 y2 y3 y4 y5 < 4294967296) ∧ Found w (encI (Str.ofString "CSRI") 115 6 0 y1 y2 y3 y4 y5) (Str.ofString "CSRI") 677 ∧ ∀ z1 z2 z3 z4 z5, DecR (encI (Str.ofString "CSRI") 115 6 0 y1 y2 y3 y4 y5) (Str.ofString "CSRI") z1 z2 z3 z4 z5 → z1 = y1 ∧ z2 = y2 ∧ z3 = y3 ∧ z4 = y4 ∧ z5 = y5 := by
  intro y1 y2 y3 y4 y5 hall
  simp only [sp5, List.forall_mem_cons, List.not_mem_nil, false_implies, implies_true, and_true] at hall
  obtain ⟨h1, h2, h3, h4, h5⟩ := hall
  have a1 := (okV_reg (by decide +kernel) (by decide) (by decide)).mp h1
  obtain rfl := (okV_no (by decide +kernel)).mp h2
  obtain rfl := (okV_no (by decide +kernel)).mp h3
  have a4 := (okV_imm (by decide +kernel)).mp h4
  rw [Int.fmod_eq_emod_of_nonneg _ (by decide)] at a4
  have a5 := (okV_csr (by decide +kernel)).mp h5
  replace a4 := And.intro a4.1 a4.2.1
  replace a4 := And.intro a4.1 (Int.lt_of_le_of_lt a4.2 (by decide : (31 : Int) < 32))
  obtain ⟨a, t, b, c, d, D, rfl, hz⟩ := dg_CSRI (opc := 115) (thi := 6) (by decide) (by decide) (by decide) (by decide) a1 a4 a5
  exact ⟨D.bnd, .third (by rw [bitAnd_m7, D.op]; kernel_rfl) (by rw [and_third, D.op, D.x4096_8]; kernel_rfl), hz⟩
theorem text_csrrsi (w : World) : false = false → ∀ y1 y2 y3 y4 y5, (∀ p ∈ sp5 (.int y1) (.int y2) (.int y3) (.int y4) (.int y5), okV [(Str.ofString "rd"), (Str.ofString "imm"), (Str.ofString "csr")] (0) (31) 1 p.1 p.2) → (true = true → y5 ∈ csr9) → txtS w (Str.ofString "CSRI") (Str.ofString "csrrsi") 115 y1 y2 y3 y4 y5 = ltxS w (Str.ofString "csrrsi") (Str.ofString "rd csr imm") [(Str.ofString "rd"), (Str.ofString "csr"), (Str.ofString "imm")] y1 y2 y3 y4 y5 := by
  intro _ y1 y2 y3 y4 y5 _ hc
  unfold txtS ltxS
  rw [show ((Str.ofString "CSRI") == (Str.ofString "R")) = false from by decide +kernel, cond_false, show (((Str.ofString "CSRI") == (Str.ofString "I")) && (((Str.ofString "csrrsi") == (Str.ofString "jalr")) || decide ((115 : Int) = 3))) = false from by decide +kernel, cond_false, show ([(Str.ofString "I"), (Str.ofString "shift")].any fun x => x == (Str.ofString "CSRI")) = false from by decide +kernel, cond_false, show ((Str.ofString "CSRI") == (Str.ofString "S")) = false from by decide +kernel, cond_false, show ((Str.ofString "CSRI") == (Str.ofString "B")) = false from by decide +kernel, cond_false, show ((Str.ofString "CSRI") == (Str.ofString "U")) = false from by decide +kernel, cond_false, show ((Str.ofString "CSRI") == (Str.ofString "J")) = false from by decide +kernel, cond_false, show ((Str.ofString "CSRI") == (Str.ofString "CSR")) = false from by decide +kernel, cond_false, show ((Str.ofString "CSRI") == (Str.ofString "CSRI")) = true from by decide +kernel, cond_true, show ((Str.ofString "rd csr imm") == (Str.ofString "")) = false from by decide +kernel, cond_false]
  rw [csr_same _ (hc rfl)]
  simp only [List.map_cons, List.map_nil, rowA0, rowA3, rowA5, join3, str_assoc, empty_app]
theorem fo_csrrsi (w : World) : FormOk w (Str.ofString "csrrsi") (Str.ofString "rd csr imm") (Str.ofString "CSRI") (Str.ofString "rd csr imm imm") 677 115 6 0 (0) (31) 1 [(Str.ofString "rd"), (Str.ofString "imm"), (Str.ofString "csr")] [(Str.ofString "rd"), (Str.ofString "csr"), (Str.ofString "imm")] false true true false where
  sf := fun _ X => sf_csrrsi X
  kf := fun _ X => kf_CSRI X
  hfe := by decide +kernel
  hke := by decide +kernel
  hnl := by decide +kernel
  hok := by decide +kernel
  hwl := by decide +kernel
  hU := by decide +kernel
  hcu := by decide +kernel
  himm := by decide +kernel
  hst := by decide
  hlo := by decide
  hlh := by decide
  hhi := by decide
  hdv := by decide
  hlm := by decide
  heb := by decide +kernel
  hsp := by decide +kernel
  hpl := by decide
  hpk := fun _ p hp => by
    simp only [List.mem_cons, List.not_mem_nil, or_false] at hp
    rcases hp with rfl | rfl | rfl <;> intros <;> rfl
  hcs := by decide +kernel
  hcy := by decide +kernel
  good := good_csrrsi w
  text := text_csrrsi w
theorem good_sfence_vma (w : World) : ∀ y1 y2 y3 y4 y5, (∀ p ∈ sp5 (.int y1) (.int y2) (.int y3) (.int y4) (.int y5), okV [(Str.ofString "rs1"), (Str.ofString "rs2")] (0) (1) 1 p.1 p.2) → (0 ≤ encI (Str.ofString "flush") 115 0 9 y1 y2 y3 y4 y5 ∧ encI (Str.ofString "flush") 115 0 9 y1 y2 y3 y4 y5 < 4294967296) ∧ Found w (encI (Str.ofString "flush") 115 0 9 y1 y2 y3 y4 y5) (Str.ofString "flush") 689 ∧ ∀ z1 z2 z3 z4 z5, DecR (encI (Str.ofString "flush") 115 0 9 y1 y2 y3 y4 y5) (Str.ofString "flush") z1 z2 z3 z4 z5 → z1 = y1 ∧ z2 = y2 ∧ z3 = y3 ∧ z4 = y4 ∧ z5 = y5 := by
  intro y1 y2 y3 y4 y5 hall
  simp only [sp5, List.forall_mem_cons, List.not_mem_nil, false_implies, implies_true, and_true] at hall
  obtain ⟨h1, h2, h3, h4, h5⟩ := hall
  obtain rfl := (okV_no (by decide +kernel)).mp h1
  have a2 := (okV_reg (by decide +kernel) (by decide) (by decide)).mp h2
  have a3 := (okV_reg (by decide +kernel) (by decide) (by decide)).mp h3
  obtain rfl := (okV_no (by decide +kernel)).mp h4
  obtain rfl := (okV_no (by decide +kernel)).mp h5
  obtain ⟨a, t, b, c, d, D, rfl, rfl, rfl, hz⟩ := dg_flush (opc := 115) (thi := 0) (sev := 9) (by decide) (by decide) (by decide) (by decide) (by decide) (by decide) a2 a3
  exact ⟨D.bnd, .seventh (by rw [bitAnd_m7, D.op]; kernel_rfl) (by rw [and_third, D.op, D.x4096_8]; kernel_rfl) (by rw [and_seventh, D.op, D.x4096_8, D.x33554432_128]; kernel_rfl) (.inr (by rw [q7, bitAnd_m5, D.x128_32])), hz⟩
theorem text_sfence_vma (w : World) : false = false → ∀ y1 y2 y3 y4 y5, (∀ p ∈ sp5 (.int y1) (.int y2) (.int y3) (.int y4) (.int y5), okV [(Str.ofString "rs1"), (Str.ofString "rs2")] (0) (1) 1 p.1 p.2) → (false = true → y5 ∈ csr9) → txtS w (Str.ofString "flush") (Str.ofString "sfence.vma") 115 y1 y2 y3 y4 y5 = ltxS w (Str.ofString "sfence.vma") (Str.ofString "rs1 rs2") [(Str.ofString "rs1"), (Str.ofString "rs2")] y1 y2 y3 y4 y5 := by
  intro _ y1 y2 y3 y4 y5 _ hc
  unfold txtS ltxS
  rw [show ((Str.ofString "flush") == (Str.ofString "R")) = false from by decide +kernel, cond_false, show (((Str.ofString "flush") == (Str.ofString "I")) && (((Str.ofString "sfence.vma") == (Str.ofString "jalr")) || decide ((115 : Int) = 3))) = false from by decide +kernel, cond_false, show ([(Str.ofString "I"), (Str.ofString "shift")].any fun x => x == (Str.ofString "flush")) = false from by decide +kernel, cond_false, show ((Str.ofString "flush") == (Str.ofString "S")) = false from by decide +kernel, cond_false, show ((Str.ofString "flush") == (Str.ofString "B")) = false from by decide +kernel, cond_false, show ((Str.ofString "flush") == (Str.ofString "U")) = false from by decide +kernel, cond_false, show ((Str.ofString "flush") == (Str.ofString "J")) = false from by decide +kernel, cond_false, show ((Str.ofString "flush") == (Str.ofString "CSR")) = false from by decide +kernel, cond_false, show ((Str.ofString "flush") == (Str.ofString "CSRI")) = false from by decide +kernel, cond_false, show ((Str.ofString "flush") == (Str.ofString "flush")) = true from by decide +kernel, cond_true, show ((Str.ofString "rs1 rs2") == (Str.ofString "")) = false from by decide +kernel, cond_false]
  simp only [List.map_cons, List.map_nil, rowA1, rowA2, join2, str_assoc, empty_app]
theorem fo_sfence_vma (w : World) : FormOk w (Str.ofString "sfence.vma") (Str.ofString "rs1 rs2") (Str.ofString "flush") (Str.ofString "rs1 rs2") 689 115 0 9 (0) (1) 1 [(Str.ofString "rs1"), (Str.ofString "rs2")] [(Str.ofString "rs1"), (Str.ofString "rs2")] false false false false where
  sf := fun _ X => sf_sfence_vma X
  kf := fun _ X => kf_flush X
  hfe := by decide +kernel
  hke := by decide +kernel
  hnl := by decide +kernel
  hok := by decide +kernel
  hwl := by decide +kernel
  hU := by decide +kernel
  hcu := by decide +kernel
  himm := by decide +kernel
  hst := by decide
  hlo := by decide
  hlh := by decide
  hhi := by decide
  hdv := by decide
  hlm := by decide
  heb := by decide +kernel
  hsp := by decide +kernel
  hpl := by decide
  hpk := fun _ p hp => by
    simp only [List.mem_cons, List.not_mem_nil, or_false] at hp
    rcases hp with rfl | rfl <;> intros <;> rfl
  hcs := by decide +kernel
  hcy := by decide +kernel
  good := good_sfence_vma w
  text := text_sfence_vma w
theorem good_jalr (w : World) : ∀ y1 y2 y3 y4 y5, (∀ p ∈ sp5 (.int y1) (.int y2) (.int y3) (.int y4) (.int y5), okV [(Str.ofString "rd"), (Str.ofString "rs1"), (Str.ofString "imm")] (-2048) (2047) 1 p.1 p.2) → (0 ≤ encI (Str.ofString "I") 103 0 0 y1 y2 y3 y4 y5 ∧ encI (Str.ofString "I") 103 0 0 y1 y2 y3 y4 y5 < 4294967296) ∧ Found w (encI (Str.ofString "I") 103 0 0 y1 y2 y3 y4 y5) (Str.ofString "I") 162 ∧ ∀ z1 z2 z3 z4 z5, DecR (encI (Str.ofString "I") 103 0 0 y1 y2 y3 y4 y5) (Str.ofString "I") z1 z2 z3 z4 z5 → z1 = y1 ∧ z2 = y2 ∧ z3 = y3 ∧ z4 = y4 ∧ z5 = y5 := by
  intro y1 y2 y3 y4 y5 hall
  simp only [sp5, List.forall_mem_cons, List.not_mem_nil, false_implies, implies_true, and_true] at hall
  obtain ⟨h1, h2, h3, h4, h5⟩ := hall
  have a1 := (okV_reg (by decide +kernel) (by decide) (by decide)).mp h1
  have a2 := (okV_reg (by decide +kernel) (by decide) (by decide)).mp h2
  obtain rfl := (okV_no (by decide +kernel)).mp h3
  have a4 := (okV_imm (by decide +kernel)).mp h4
  rw [Int.fmod_eq_emod_of_nonneg _ (by decide)] at a4
  obtain rfl := (okV_no (by decide +kernel)).mp h5
  replace a4 := And.intro a4.1 a4.2.1
  obtain ⟨a, t, b, c, d, D, rfl, hz⟩ := dg_I (opc := 103) (thi := 0) (by decide) (by decide) (by decide) (by decide) a1 a2 a4
  exact ⟨D.bnd, .third (by rw [bitAnd_m7, D.op]; kernel_rfl) (by rw [and_third, D.op, D.x4096_8]; kernel_rfl), hz⟩
theorem text_jalr (w : World) : false = false → ∀ y1 y2 y3 y4 y5, (∀ p ∈ sp5 (.int y1) (.int y2) (.int y3) (.int y4) (.int y5), okV [(Str.ofString "rd"), (Str.ofString "rs1"), (Str.ofString "imm")] (-2048) (2047) 1 p.1 p.2) → (false = true → y5 ∈ csr9) → txtS w (Str.ofString "I") (Str.ofString "jalr") 103 y1 y2 y3 y4 y5 = ltxS w (Str.ofString "jalr") (Str.ofString "rd imm(rs1)") [(Str.ofString "rd"), (Str.ofString "imm(rs1)")] y1 y2 y3 y4 y5 := by
  intro _ y1 y2 y3 y4 y5 _ hc
  unfold txtS ltxS
  rw [show ((Str.ofString "I") == (Str.ofString "R")) = false from by decide +kernel, cond_false, show (((Str.ofString "I") == (Str.ofString "I")) && (((Str.ofString "jalr") == (Str.ofString "jalr")) || decide ((103 : Int) = 3))) = true from by decide +kernel, cond_true, show ((Str.ofString "rd imm(rs1)") == (Str.ofString "")) = false from by decide +kernel, cond_false]
  simp only [List.map_cons, List.map_nil, rowA0, rowA6, join2, str_assoc, empty_app]
theorem fo_jalr (w : World) : FormOk w (Str.ofString "jalr") (Str.ofString "rd imm(rs1)") (Str.ofString "I") (Str.ofString "rd imm(rs1) imm") 162 103 0 0 (-2048) (2047) 1 [(Str.ofString "rd"), (Str.ofString "rs1"), (Str.ofString "imm")] [(Str.ofString "rd"), (Str.ofString "imm(rs1)")] false true false false where
  sf := fun _ X => sf_jalr X
  kf := fun _ X => kf_I X
  hfe := by decide +kernel
  hke := by decide +kernel
  hnl := by decide +kernel
  hok := by decide +kernel
  hwl := by decide +kernel
  hU := by decide +kernel
  hcu := by decide +kernel
  himm := by decide +kernel
  hst := by decide
  hlo := by decide
  hlh := by decide
  hhi := by decide
  hdv := by decide
  hlm := by decide
  heb := by decide +kernel
  hsp := by decide +kernel
  hpl := by decide
  hpk := fun _ p hp => by
    simp only [List.mem_cons, List.not_mem_nil, or_false] at hp
    rcases hp with rfl | rfl <;> intros <;> rfl
  hcs := by decide +kernel
  hcy := by decide +kernel
  good := good_jalr w
  text := text_jalr w
theorem good_fence (w : World) : ∀ y1 y2 y3 y4 y5, (∀ p ∈ sp5 (.int y1) (.int y2) (.int y3) (.int y4) (.int y5), okV [(Str.ofString "rd"), (Str.ofString "rs1"), (Str.ofString "imm")] (0) (4095) 1 p.1 p.2) → (0 ≤ encI (Str.ofString "fence") 15 0 0 y1 y2 y3 y4 y5 ∧ encI (Str.ofString "fence") 15 0 0 y1 y2 y3 y4 y5 < 4294967296) ∧ Found w (encI (Str.ofString "fence") 15 0 0 y1 y2 y3 y4 y5) (Str.ofString "fence") 597 ∧ ∀ z1 z2 z3 z4 z5, DecR (encI (Str.ofString "fence") 15 0 0 y1 y2 y3 y4 y5) (Str.ofString "fence") z1 z2 z3 z4 z5 → z1 = y1 ∧ z2 = y2 ∧ z3 = y3 ∧ z4 = y4 ∧ z5 = y5 := by
  intro y1 y2 y3 y4 y5 hall
  simp only [sp5, List.forall_mem_cons, List.not_mem_nil, false_implies, implies_true, and_true] at hall
  obtain ⟨h1, h2, h3, h4, h5⟩ := hall
  have a1 := (okV_reg (by decide +kernel) (by decide) (by decide)).mp h1
  have a2 := (okV_reg (by decide +kernel) (by decide) (by decide)).mp h2
  obtain rfl := (okV_no (by decide +kernel)).mp h3
  have a4 := (okV_imm (by decide +kernel)).mp h4
  rw [Int.fmod_eq_emod_of_nonneg _ (by decide)] at a4
  obtain rfl := (okV_no (by decide +kernel)).mp h5
  replace a4 := And.intro a4.1 a4.2.1
  obtain ⟨a, t, b, c, d, D, rfl, hz⟩ := dg_fence (opc := 15) (thi := 0) (by decide) (by decide) (by decide) (by decide) a1 a2 a4
  exact ⟨D.bnd, .third (by rw [bitAnd_m7, D.op]; kernel_rfl) (by rw [and_third, D.op, D.x4096_8]; kernel_rfl), hz⟩
theorem text_fence (w : World) : true = false → ∀ y1 y2 y3 y4 y5, (∀ p ∈ sp5 (.int y1) (.int y2) (.int y3) (.int y4) (.int y5), okV [(Str.ofString "rd"), (Str.ofString "rs1"), (Str.ofString "imm")] (0) (4095) 1 p.1 p.2) → (false = true → y5 ∈ csr9) → txtS w (Str.ofString "fence") (Str.ofString "fence") 15 y1 y2 y3 y4 y5 = ltxS w (Str.ofString "fence") (Str.ofString "") [(Str.ofString "")] y1 y2 y3 y4 y5 := fun h => nomatch h
theorem fo_fence (w : World) : FormOk w (Str.ofString "fence") (Str.ofString "") (Str.ofString "fence") (Str.ofString "rd rs1 imm") 597 15 0 0 (0) (4095) 1 [(Str.ofString "rd"), (Str.ofString "rs1"), (Str.ofString "imm")] [(Str.ofString "")] true true false true where
  sf := fun _ X => sf_fence X
  kf := fun _ X => kf_fence X
  hfe := by decide +kernel
  hke := by decide +kernel
  hnl := by decide +kernel
  hok := by decide +kernel
  hwl := by decide +kernel
  hU := by decide +kernel
  hcu := by decide +kernel
  himm := by decide +kernel
  hst := by decide
  hlo := by decide
  hlh := by decide
  hhi := by decide
  hdv := by decide
  hlm := by decide
  heb := by decide +kernel
  hsp := by decide +kernel
  hpl := by decide
  hpk := fun h => nomatch h
  hcs := by decide +kernel
  hcy := by decide +kernel
  good := good_fence w
  text := text_fence w
end Mine
-- part HM
namespace Mine
open PySem PySem.W PyProof.Rows
noncomputable section
noncomputable def H1 (P : Params) : Heap := ⟨#[PySem.W.boot_o_0 P, PySem.W.boot_o_1 P, PySem.W.boot_o_2 P, o3v36 (mk P), PySem.W.boot_o_4 P, PySem.W.boot_o_5 P, PySem.W.boot_o_6 P, PySem.W.boot_o_7 P, PySem.W.boot_o_8 P, PySem.W.boot_o_9 P, PySem.W.boot_o_10 P, o11 (mk P), o12v36 (mk P), o13 (mk P), o14 (mk P), o15 (mk P), o16 (mk P), o17 (mk P), o18 (mk P), o19 (mk P), o20 (mk P), o21 (mk P), o22 (mk P), o23 (mk P), o24 (mk P), o25 (mk P), o26 (mk P), o27 (mk P), o28 (mk P), o29 (mk P), o30 (mk P), o31 (mk P), o32 (mk P), o33 (mk P), o34 (mk P), o35 (mk P), o36 (mk P), o37 (mk P), o38 (mk P), o39 (mk P), o40 (mk P), o41 (mk P), o42 (mk P), o43 (mk P), o44 (mk P), o45 (mk P), o46 (mk P), o47 (mk P), o48 (mk P), o49 (mk P), o50 (mk P), o51 (mk P), o52 (mk P), o53 (mk P), o54 (mk P), o55 (mk P), o56 (mk P), o57 (mk P), o58 (mk P), o59 (mk P), o60 (mk P), o61 (mk P), o62 (mk P), o63 (mk P), o64 (mk P), o65 (mk P), o66 (mk P), o67 (mk P), o68 (mk P), o69 (mk P), o70 (mk P), o71 (mk P), o72 (mk P), o73 (mk P), o74 (mk P), o75 (mk P), o76 (mk P), o77 (mk P), o78 (mk P), o79 (mk P), o80 (mk P), o81 (mk P), o82 (mk P), o83 (mk P), o84 (mk P), o85 (mk P), o86 (mk P), o87 (mk P), o88 (mk P), o89 (mk P), o90 (mk P), o91 (mk P), o92 (mk P), o93 (mk P), o94 (mk P), o95 (mk P), o96 (mk P), o97 (mk P), o98 (mk P), o99 (mk P), o100 (mk P), o101 (mk P), o102 (mk P), o103 (mk P), o104 (mk P), o105 (mk P), o106 (mk P), o107 (mk P), o108 (mk P), o109 (mk P), o110 (mk P), o111 (mk P), o112 (mk P), o113 (mk P), o114 (mk P), o115 (mk P), o116 (mk P), o117 (mk P), o118 (mk P), o119 (mk P), o120 (mk P), o121 (mk P), o122 (mk P), o123 (mk P), o124 (mk P), o125 (mk P), o126 (mk P), o127 (mk P), o128 (mk P), o129 (mk P), o130 (mk P), o131 (mk P), o132 (mk P), o133 (mk P), o134 (mk P), o135 (mk P), o136 (mk P), o137 (mk P), o138 (mk P), o139 (mk P), o140 (mk P), o141 (mk P), o142 (mk P), o143 (mk P), o144 (mk P), o145 (mk P), o146v36 (mk P), o147 (mk P), o148 (mk P), o149 (mk P), o150 (mk P), o151v25 (mk P), o152 (mk P), o153 (mk P), o154 (mk P), o155 (mk P), o156 (mk P), o157 (mk P), o158 (mk P), o159 (mk P), o160 (mk P), o161 (mk P), o162 (mk P), o163 (mk P), o164v25 (mk P), o165 (mk P), o166 (mk P), o167 (mk P), o168 (mk P), o169 (mk P), o170 (mk P), o171 (mk P), o172 (mk P), o173 (mk P), o174 (mk P), o175 (mk P), o176 (mk P), o177 (mk P), o178 (mk P), o179 (mk P), o180 (mk P), o181 (mk P), o182 (mk P), o183 (mk P), o184 (mk P), o185 (mk P), o186 (mk P), o187 (mk P), o188 (mk P), o189 (mk P), o190 (mk P), o191 (mk P), o192 (mk P), o193 (mk P), o194 (mk P), o195 (mk P), o196 (mk P), o197 (mk P), o198 (mk P), o199 (mk P), o200 (mk P), o201 (mk P), o202 (mk P), o203 (mk P), o204 (mk P), o205 (mk P), o206 (mk P), o207 (mk P), o208 (mk P), o209 (mk P), o210 (mk P), o211 (mk P), o212 (mk P), o213 (mk P), o214 (mk P), o215 (mk P), o216 (mk P), o217 (mk P), o218 (mk P), o219 (mk P), o220 (mk P), o221 (mk P), o222 (mk P), o223 (mk P), o224 (mk P), o225 (mk P), o226 (mk P), o227 (mk P), o228 (mk P), o229 (mk P), o230 (mk P), o231 (mk P), o232 (mk P), o233 (mk P), o234 (mk P), o235 (mk P), o236 (mk P), o237 (mk P), o238 (mk P), o239 (mk P), o240 (mk P), o241 (mk P), o242 (mk P), o243 (mk P), o244 (mk P), o245 (mk P), o246 (mk P), o247 (mk P), o248 (mk P), o249 (mk P), o250 (mk P), o251 (mk P), o252 (mk P), o253 (mk P), o254 (mk P), o255 (mk P), o256 (mk P), o257 (mk P), o258 (mk P), o259 (mk P), o260 (mk P), o261 (mk P), o262 (mk P), o263 (mk P), o264 (mk P), o265 (mk P), o266 (mk P), o267 (mk P), o268 (mk P), o269 (mk P), o270 (mk P), o271 (mk P), o272 (mk P), o273 (mk P), o274 (mk P), o275 (mk P), o276 (mk P), o277 (mk P), o278 (mk P), o279 (mk P), o280 (mk P), o281 (mk P), o282 (mk P), o283 (mk P), o284 (mk P), o285 (mk P), o286 (mk P), o287 (mk P), o288 (mk P), o289 (mk P), o290 (mk P), o291 (mk P), o292 (mk P), o293 (mk P), o294 (mk P), o295 (mk P), o296 (mk P), o297 (mk P), o298 (mk P), o299 (mk P), o300 (mk P), o301 (mk P), o302 (mk P), o303 (mk P), o304 (mk P), o305 (mk P), o306 (mk P), o307 (mk P), o308 (mk P), o309 (mk P), o310 (mk P), o311 (mk P), o312 (mk P), o313 (mk P), o314 (mk P), o315 (mk P), o316 (mk P), o317 (mk P), o318 (mk P), o319 (mk P), o320 (mk P), o321 (mk P), o322 (mk P), o323 (mk P), o324 (mk P), o325 (mk P), o326 (mk P), o327 (mk P), o328 (mk P), o329 (mk P), o330 (mk P), o331 (mk P), o332 (mk P), o333 (mk P), o334 (mk P), o335 (mk P), o336 (mk P), o337 (mk P), o338 (mk P), o339 (mk P), o340 (mk P), o341 (mk P), o342 (mk P), o343 (mk P), o344 (mk P), o345 (mk P), o346 (mk P), o347 (mk P), o348 (mk P), o349 (mk P), o350 (mk P), o351 (mk P), o352 (mk P), o353 (mk P), o354 (mk P), o355 (mk P), o356 (mk P), o357 (mk P), o358 (mk P), o359 (mk P), o360 (mk P), o361 (mk P), o362 (mk P), o363 (mk P), o364 (mk P), o365 (mk P), o366 (mk P), o367 (mk P), o368 (mk P), o369 (mk P), o370 (mk P), o371 (mk P), o372 (mk P), o373 (mk P), o374 (mk P), o375 (mk P), o376 (mk P), o377 (mk P), o378 (mk P), o379 (mk P), o380 (mk P), o381 (mk P), o382 (mk P), o383 (mk P), o384 (mk P), o385 (mk P), o386 (mk P), o387 (mk P), o388 (mk P), o389 (mk P), o390 (mk P), o391 (mk P), o392 (mk P), o393 (mk P), o394 (mk P), o395 (mk P), o396 (mk P), o397 (mk P), o398 (mk P), o399 (mk P), o400 (mk P), o401 (mk P), o402 (mk P), o403 (mk P), o404 (mk P), o405 (mk P), o406 (mk P), o407 (mk P), o408 (mk P), o409 (mk P), o410 (mk P), o411 (mk P), o412 (mk P), o413 (mk P), o414 (mk P), o415 (mk P), o416 (mk P), o417 (mk P), o418 (mk P), o419 (mk P), o420 (mk P), o421 (mk P), o422 (mk P), o423 (mk P), o424 (mk P), o425 (mk P), o426 (mk P), o427 (mk P), o428 (mk P), o429 (mk P), o430 (mk P), o431 (mk P), o432 (mk P), o433 (mk P), o434 (mk P), o435 (mk P), o436 (mk P), o437 (mk P), o438 (mk P), o439 (mk P), o440 (mk P), o441 (mk P), o442 (mk P), o443 (mk P), o444 (mk P), o445 (mk P), o446 (mk P), o447 (mk P), o448 (mk P), o449 (mk P), o450 (mk P), o451 (mk P), o452 (mk P), o453 (mk P), o454 (mk P), o455 (mk P), o456 (mk P), o457 (mk P), o458 (mk P), o459 (mk P), o460 (mk P), o461 (mk P), o462 (mk P), o463 (mk P), o464 (mk P), o465 (mk P), o466 (mk P), o467 (mk P), o468 (mk P), o469 (mk P), o470 (mk P), o471 (mk P), o472 (mk P), o473 (mk P), o474 (mk P), o475 (mk P), o476 (mk P), o477 (mk P), o478 (mk P), o479 (mk P), o480 (mk P), o481 (mk P), o482 (mk P), o483 (mk P), o484 (mk P), o485 (mk P), o486 (mk P), o487 (mk P), o488 (mk P), o489 (mk P), o490 (mk P), o491 (mk P), o492 (mk P), o493 (mk P), o494 (mk P), o495 (mk P), o496 (mk P), o497 (mk P), o498 (mk P), o499 (mk P), o500 (mk P), o501 (mk P), o502 (mk P), o503 (mk P), o504 (mk P), o505 (mk P), o506 (mk P), o507 (mk P), o508 (mk P), o509 (mk P), o510 (mk P), o511 (mk P), o512 (mk P), o513 (mk P), o514 (mk P), o515 (mk P), o516 (mk P), o517 (mk P), o518 (mk P), o519 (mk P), o520 (mk P), o521 (mk P), o522 (mk P), o523 (mk P), o524 (mk P), o525 (mk P), o526 (mk P), o527 (mk P), o528 (mk P), o529 (mk P), o530 (mk P), o531 (mk P), o532 (mk P), o533 (mk P), o534 (mk P), o535 (mk P), o536 (mk P), o537 (mk P), o538 (mk P), o539 (mk P), o540 (mk P), o541 (mk P), o542 (mk P), o543 (mk P), o544 (mk P), o545 (mk P), o546 (mk P), o547 (mk P), o548 (mk P), o549 (mk P), o550 (mk P), o551 (mk P), o552 (mk P), o553 (mk P), o554 (mk P), o555 (mk P), o556 (mk P), o557 (mk P), o558 (mk P), o559 (mk P), o560 (mk P), o561 (mk P), o562 (mk P), o563 (mk P), o564 (mk P), o565 (mk P), o566 (mk P), o567 (mk P), o568 (mk P), o569 (mk P), o570 (mk P), o571 (mk P), o572 (mk P), o573 (mk P), o574 (mk P), o575 (mk P), o576 (mk P), o577 (mk P), o578 (mk P), o579 (mk P), o580 (mk P), o581 (mk P), o582 (mk P), o583 (mk P), o584 (mk P), o585 (mk P), o586 (mk P), o587 (mk P), o588 (mk P), o589 (mk P), o590 (mk P), o591 (mk P), o592 (mk P), o593 (mk P), o594 (mk P), o595 (mk P), o596 (mk P), o597 (mk P), o598 (mk P), o599 (mk P), o600 (mk P), o601 (mk P), o602 (mk P), o603 (mk P), o604 (mk P), o605 (mk P), o606 (mk P), o607 (mk P), o608 (mk P), o609 (mk P), o610 (mk P), o611 (mk P), o612 (mk P), o613 (mk P), o614 (mk P), o615 (mk P), o616 (mk P), o617 (mk P), o618 (mk P), o619 (mk P), o620 (mk P), o621 (mk P), o622 (mk P), o623 (mk P), o624 (mk P), o625 (mk P), o626 (mk P), o627 (mk P), o628 (mk P), o629 (mk P), o630 (mk P), o631 (mk P), o632 (mk P), o633 (mk P), o634 (mk P), o635 (mk P), o636 (mk P), o637 (mk P), o638 (mk P), o639 (mk P), o640 (mk P), o641 (mk P), o642 (mk P), o643 (mk P), o644 (mk P), o645 (mk P), o646 (mk P), o647 (mk P), o648 (mk P), o649 (mk P), o650 (mk P), o651 (mk P), o652 (mk P), o653 (mk P), o654 (mk P), o655 (mk P), o656 (mk P), o657 (mk P), o658 (mk P), o659 (mk P), o660 (mk P), o661 (mk P), o662 (mk P), o663 (mk P), o664 (mk P), o665 (mk P), o666 (mk P), o667 (mk P), o668 (mk P), o669 (mk P), o670 (mk P), o671 (mk P), o672 (mk P), o673 (mk P), o674 (mk P), o675 (mk P), o676 (mk P), o677 (mk P), o678 (mk P), o679 (mk P), o680 (mk P), o681 (mk P), o682 (mk P), o683 (mk P), o684 (mk P), o685 (mk P), o686 (mk P), o687 (mk P), o688 (mk P), o689 (mk P), o690 (mk P), o691 (mk P), o692 (mk P), o693 (mk P), o694 (mk P), o695 (mk P), o696 (mk P), o697 (mk P), o698 (mk P), o699 (mk P), o700 (mk P), o701 (mk P), o702 (mk P), o703 (mk P), o704 (mk P), o705 (mk P), o706 (mk P), o707 (mk P), o708 (mk P), o709 (mk P), o710 (mk P), o711 (mk P), o712 (mk P), o713 (mk P), o714 (mk P), o715 (mk P), o716 (mk P), o717 (mk P), o718 (mk P), o719 (mk P), o720 (mk P), o721 (mk P), o722 (mk P), o723 (mk P), o724 (mk P), o725 (mk P), o726 (mk P), o727 (mk P), o728 (mk P), o729 (mk P), o730v27 (mk P), o731v27 (mk P), o732v28 (mk P), o733 (mk P), o734 (mk P), o735v29 (mk P), o736v29 (mk P), o737v30 (mk P), o738 (mk P), o739 (mk P), o740 (mk P), o741 (mk P), o742 (mk P), o743 (mk P), o744 (mk P), o745 (mk P), o746 (mk P), o747 (mk P), o748 (mk P), o749 (mk P), o750 (mk P), o751 (mk P), o752 (mk P), o753 (mk P), o754 (mk P), o755 (mk P), o756 (mk P), o757 (mk P), o758 (mk P), o759 (mk P), o760 (mk P), o761 (mk P), o762 (mk P), o763 (mk P), o764 (mk P), o765 (mk P), o766 (mk P), o767 (mk P), o768 (mk P), o769 (mk P), o770 (mk P), o771 (mk P), o772 (mk P), o773 (mk P), o774 (mk P), o775 (mk P), o776 (mk P), o777 (mk P), o778 (mk P), o779 (mk P), o780 (mk P), o781 (mk P), o782 (mk P), o783 (mk P), o784 (mk P), o785 (mk P), o786 (mk P), o787 (mk P), o788 (mk P), o789 (mk P), o790 (mk P), o791 (mk P), o792 (mk P), o793 (mk P), o794 (mk P), o795 (mk P), o796 (mk P), o797 (mk P), o798 (mk P), o799v31 (mk P), o800v31 (mk P), o801v32 (mk P), o802 (mk P), o803 (mk P), o804 (mk P), o805 (mk P), o806 (mk P), o807 (mk P), o808 (mk P), o809 (mk P), o810 (mk P), o811 (mk P), o812 (mk P), o813 (mk P), o814 (mk P), o815 (mk P), o816 (mk P), o817 (mk P), o818 (mk P), o819 (mk P), o820 (mk P), o821 (mk P), o822 (mk P), o823 (mk P), o824 (mk P), o825 (mk P), o826 (mk P), o827 (mk P), o828 (mk P), o829 (mk P), o830 (mk P), o831 (mk P), o832 (mk P), o833 (mk P), o834 (mk P), o835 (mk P), o836 (mk P), o837 (mk P), o838 (mk P), o839 (mk P), o840 (mk P), o841 (mk P), o842 (mk P), o843 (mk P), o844 (mk P), o845 (mk P), o846 (mk P), o847 (mk P), o848 (mk P), o849 (mk P), o850 (mk P), o851 (mk P), o852 (mk P), o853 (mk P), o854 (mk P), o855 (mk P), o856 (mk P), o857 (mk P), o858 (mk P), o859 (mk P), o860 (mk P), o861 (mk P), o862 (mk P), o863 (mk P), o864 (mk P), o865 (mk P), o866 (mk P), o867 (mk P), o868 (mk P), o869 (mk P), o870 (mk P), o871 (mk P), o872 (mk P), o873 (mk P), o874 (mk P), o875 (mk P), o876 (mk P), o877 (mk P), o878 (mk P), o879 (mk P), o880 (mk P), o881 (mk P), o882 (mk P), o883 (mk P), o884 (mk P), o885 (mk P), o886 (mk P), o887 (mk P), o888 (mk P), o889 (mk P), o890 (mk P), o891 (mk P), o892v33 (mk P), o893v33 (mk P), o894v34 (mk P), o895 (mk P), o896 (mk P), o897 (mk P), o898 (mk P), o899 (mk P), o900 (mk P), o901 (mk P), o902 (mk P), o903 (mk P), o904 (mk P), o905 (mk P), o906 (mk P), o907 (mk P), o908 (mk P), o909 (mk P), o910 (mk P), o911 (mk P), o912 (mk P), o913 (mk P), o914 (mk P), o915 (mk P), o916 (mk P), o917 (mk P), o918 (mk P), o919 (mk P), o920 (mk P), o921 (mk P), o922 (mk P), o923 (mk P), o924 (mk P), o925 (mk P), o926 (mk P), o927 (mk P), o928 (mk P), o929 (mk P), o930 (mk P), o931 (mk P), o932 (mk P), o933 (mk P), o934 (mk P), o935 (mk P), o936 (mk P), o937 (mk P), o938 (mk P), o939 (mk P), o940 (mk P), o941 (mk P), o942 (mk P), o943 (mk P), o944 (mk P), o945 (mk P), o946 (mk P), o947 (mk P), o948 (mk P), o949 (mk P), o950 (mk P), o951 (mk P), o952 (mk P), o953 (mk P), o954 (mk P), o955 (mk P), o956 (mk P), o957 (mk P), o958 (mk P), o959 (mk P), o960 (mk P), o961 (mk P), o962 (mk P), o963 (mk P), o964 (mk P), o965 (mk P), o966 (mk P), o967 (mk P), o968 (mk P), o969 (mk P), o970 (mk P), o971 (mk P), o972 (mk P), o973 (mk P), o974 (mk P), o975 (mk P), o976 (mk P), o977 (mk P), o978v35 (mk P), o979v35 (mk P), o980v36 (mk P), o981 (mk P), o982 (mk P), o983 (mk P), o984 (mk P), o985 (mk P), o986 (mk P), o987 (mk P), o988 (mk P), o989 (mk P), o990 (mk P), o991 (mk P), o992 (mk P), o993 (mk P), o994 (mk P), o995 (mk P), o996 (mk P), o997 (mk P), o998 (mk P), o999 (mk P), o1000 (mk P), o1001 (mk P), o1002 (mk P), o1003 (mk P), o1004 (mk P), o1005 (mk P), o1006 (mk P), o1007 (mk P), o1008 (mk P), o1009 (mk P), o1010 (mk P), o1011 (mk P), o1012 (mk P), o1013 (mk P), o1014 (mk P), o1015 (mk P), o1016 (mk P), o1017 (mk P), o1018 (mk P), o1019 (mk P), o1020 (mk P), o1021 (mk P), o1022 (mk P), o1023 (mk P), o1024 (mk P), o1025 (mk P), o1026 (mk P), o1027 (mk P), o1028 (mk P), o1029 (mk P), o1030 (mk P), o1031 (mk P), o1032 (mk P), o1033 (mk P), o1034 (mk P), o1035 (mk P), o1036 (mk P), o1037 (mk P), o1038 (mk P), o1039 (mk P), o1040 (mk P), o1041 (mk P), o1042 (mk P), o1043 (mk P), o1044 (mk P), o1045 (mk P), o1046 (mk P), o1047 (mk P), o1048 (mk P), o1049 (mk P), o1050 (mk P), o1051 (mk P), o1052 (mk P), o1053 (mk P), o1054 (mk P), o1055 (mk P), o1056 (mk P), o1057 (mk P), o1058 (mk P), o1059 (mk P), o1060 (mk P), o1061 (mk P), o1062 (mk P), o1063 (mk P), o1064 (mk P), o1065 (mk P), o1066 (mk P), o1067 (mk P), o1068 (mk P), o1069 (mk P), o1070 (mk P), o1071 (mk P), o1072 (mk P), o1073 (mk P), o1074 (mk P), o1075 (mk P), o1076 (mk P), o1077 (mk P), o1078 (mk P), o1079 (mk P), o1080 (mk P), o1081 (mk P), o1082 (mk P), o1083 (mk P), o1084 (mk P), o1085 (mk P), o1086 (mk P), o1087 (mk P), o1088 (mk P), o1089 (mk P), o1090 (mk P), o1091 (mk P), o1092 (mk P), o1093 (mk P), o1094 (mk P), o1095 (mk P), o1096 (mk P), o1097 (mk P), o1098 (mk P), o1099 (mk P), o1100 (mk P), o1101 (mk P), o1102 (mk P), o1103 (mk P), o1104 (mk P), o1105 (mk P), o1106 (mk P), o1107 (mk P), o1108 (mk P), o1109 (mk P), o1110 (mk P), o1111 (mk P), o1112 (mk P), o1113 (mk P), o1114 (mk P), o1115 (mk P), o1116 (mk P), o1117 (mk P), o1118 (mk P), o1119 (mk P), o1120 (mk P), o1121 (mk P), o1122 (mk P), o1123 (mk P), o1124 (mk P), o1125 (mk P), o1126 (mk P), o1127 (mk P), o1128 (mk P), o1129 (mk P), o1130 (mk P), o1131 (mk P), o1132 (mk P), o1133 (mk P), o1134 (mk P), o1135 (mk P), o1136 (mk P), o1137 (mk P), o1138 (mk P), o1139 (mk P), o1140 (mk P), o1141 (mk P), o1142 (mk P), o1143 (mk P), o1144 (mk P), o1145 (mk P), o1146 (mk P), o1147 (mk P), o1148 (mk P), o1149 (mk P), o1150 (mk P), o1151 (mk P), o1152 (mk P)], {}⟩
theorem H1_eq (P : Params) : absHeap (t36 (mk P)) 1153 {} = H1 P := by kernel_rfl
theorem size_eq (w : World) : ((boot_heap w.params).isNs mainGlobals && (Array.mk [] : Array GenState).size == 0, (boot_heap w.params).objs.size, (boot_heap w.params).nsMap mainGlobals "__annotations__") = (true, 11, some (Value.ref 6)) := by kernel_rfl
theorem open_eq {N : Nat} (hN : Nat.ble 600 N = true) : ∀ w : World, (fencedOpening treeTable pw w N).map (fun s => (s.heap, s.gens, s.drawn, s.toks)) = some (boot_heap w.params, Array.mk [], boot_drawn, boot_toks) :=
  boot_open (by kernel_rfl) hN (fun s => by kernel_rfl)
noncomputable def sE (P : Params) (os : OsState) : Shared := ⟨H1 P, #[], boot_drawn, 4271, os⟩
noncomputable def looseL : List Str := [Str.ofString "BoardError", Str.ofString "CSRS", Str.ofString "numbered", Str.ofString "Known", Str.ofString "USED", Str.ofString "RANGES"]
noncomputable def lk1L (P : Params) (os : OsState) : Bool := staticsOk (importedModules pw.main.body) (boot_heap P) (H1 P) && namesBound pw (H1 P) && gensDone (sE P os) && laidKept (boot_heap P) (H1 P)
noncomputable def lk2L (P : Params) (os : OsState) := seen ((recsOf hd.view_1).map (·.name)) (ownsOf hd.view_1) [] { sE P os with gens := #[] }
noncomputable def lk2R := expectedOf hd.view_1
noncomputable def lk3L (P : Params) (os : OsState) := (sE P os).heap.bltView
noncomputable def lk4L (P : Params) (os : OsState) : Bool := (sE P os).heap.keysOk (looseW hd.view_1 looseL) ((recsOf hd.view_1).map (·.name)) ((litsOf hd.view_1).map (·.1)) ((clssOf hd.view_1 (looseW hd.view_1 looseL)).map (·.name)) && (sE P os).heap.accountedOkI (importedModules pw.main.body) && (sE P os).heap.isNs mainGlobals && (sE P os).heap.isNs builtinsNs && tablesOk hd.view_1 (sE P os).heap && (xlAt hd.view_1 [] (sE P os) && recOk PySem.Challenge.rw_pq0900_01.row.records (sE P os)) && (if true = true then (sE P os).gens.size == 0 else !leftWithCleanup (sE P os).gens)
noncomputable def lk5L (P : Params) (os : OsState) := tabsOk hd.view_1 (sE P os)
noncomputable def lk6L (P : Params) (os : OsState) := pinSeenD hd.view_1 (drecsOf hd.view_1) (sE P os)
noncomputable def lk6R := pinGoodD (drecsOf hd.view_1)
noncomputable def lk7L (P : Params) (os : OsState) := plainSeenE hd.view_1 (looseW hd.view_1 looseL) (sE P os)
noncomputable def lk7R := plainGoodE hd.view_1 (looseW hd.view_1 looseL)
noncomputable def lk8L (P : Params) (os : OsState) := plainSeenD hd.view_1 looseL (sE P os)
noncomputable def lk8R := plainGoodD hd.view_1 looseL
noncomputable def lk9L (P : Params) (os : OsState) := wideSeen hd.view_1 (sE P os)
noncomputable def lk9R := wideGood hd.view_1
noncomputable def lk10L (P : Params) (os : OsState) := clsSeenW hd.view_1 looseL (sE P os)
noncomputable def lk10R := clsGoodW hd.view_1 looseL
theorem lk1 (P : Params) (os : OsState) : lk1L P os = true := by kernel_rfl
theorem lk2 (P : Params) (os : OsState) : lk2L P os = lk2R := by kernel_rfl
theorem lk3 (P : Params) (os : OsState) : lk3L P os = bltViewBooted := by kernel_rfl
theorem lk4 (P : Params) (os : OsState) : lk4L P os = true := by kernel_rfl
theorem lk5 (P : Params) (os : OsState) : lk5L P os = true := by kernel_rfl
theorem lk6 (P : Params) (os : OsState) : lk6L P os = lk6R := by kernel_rfl
theorem lk7 (P : Params) (os : OsState) : lk7L P os = lk7R := by kernel_rfl
theorem lk8 (P : Params) (os : OsState) : lk8L P os = lk8R := by kernel_rfl
theorem lk9 (P : Params) (os : OsState) : lk9L P os = lk9R := by kernel_rfl
theorem lk10 (P : Params) (os : OsState) : lk10L P os = lk10R := by kernel_rfl
noncomputable def fstOf {A B C : Prop} (_ : A ∧ B → C) : Prop := A
noncomputable def sndOf {A B C : Prop} (_ : A ∧ B → C) : Prop := B
set_option maxHeartbeats 0 in
theorem left_of (M : Nat) (run : ∀ (w : World) (os : OsState), topRun treeTable pw w 11 (some (.ref 6)) M ⟨boot_heap w.params, #[], boot_drawn, boot_toks, os⟩ (topStub pw) = some ⟨absHeap (t36 (mk w.params)) 1153 {}, #[], boot_drawn, 4271, os⟩) : fstOf hd := by
  unfold fstOf
  refine ⟨M + 600, ?_⟩
  refine LeftO.of_pieces (N := M + 600) (p := pw) (H₀ := boot_heap) (H₁ := H1) (gs₁ := #[]) (d₁ := boot_drawn) (k₁ := 4271) (M := M) (open_eq (Nat.ble_eq.mpr (by omega))) size_eq (fun w os => (run w os).trans ?_) (Nat.ble_eq.mpr (by omega)) ?_
  · rw [H1_eq]
  · intro w
    funext os
    refine congr (congrArg Prod.mk ?_) (congr (congrArg Prod.mk ?_) ?_)
    · exact lk1 w.params os
    · unfold openSeen openGood
      refine congr (congrArg Prod.mk ?_) (congr (congrArg Prod.mk ?_) (congr (congrArg Prod.mk ?_) (congr (congrArg Prod.mk ?_) (congr (congrArg Prod.mk ?_) (congr (congrArg Prod.mk ?_) (congr (congrArg Prod.mk ?_) (congr (congrArg Prod.mk ?_) ?_)))))))
      · exact lk2 w.params os
      · exact lk3 w.params os
      · exact lk4 w.params os
      · exact lk5 w.params os
      · exact lk6 w.params os
      · exact lk7 w.params os
      · exact lk8 w.params os
      · exact lk9 w.params os
      · exact lk10 w.params os
    · kernel_rfl
end
end Mine
-- part LAW
namespace Mine
theorem resetLAW : True := by
  w_top off
  k_with_none
  k_with "omega" => lia
  exact True.intro
local macro_rules | `(tactic| k_qdec) => `(tactic| decide +kernel)
open PySem PySem.W PyProof.Rows PySem.Calls PySem.Spec
noncomputable section

inductive StopL (P : Prop) : Prop
  | mk : P → StopL P
theorem my_stopL {P : Prop} (h : StopL P) : P := by cases h with | mk h => exact h
noncomputable def MarkC : Prop := 2 = 2
theorem turn_nil {h₀ h₀' h : Heap} {L : Addr} {m : Str → Option Value} {news : List (Addr × Obj)} (T : KtsTurn [] h₀ h₀') (F : Fr h₀' L h m) (N : News h₀' L h news) : Fr h₀ L h m ∧ News h₀ L h news :=
  ⟨⟨F.ns, fun b o e => F.keep b o (T.other b o e List.not_mem_nil), T.size ▸ F.above⟩, fun p hp => ⟨(N p hp).1, (N p hp).2.1, by
    cases q : h₀.get? p.1 with
    | none => rfl
    | some o =>
      have h1 := T.other p.1 o q List.not_mem_nil
      rw [(N p hp).2.2] at h1
      cases h1⟩⟩

inductive BadAt (w : World) (news : List (Addr × Obj)) (x : Addr) : Prop
  | mk {d : Addr} {sl : Array (Option Value)} {n : Nat} {h0 h1 h2 h3 h4 h5 : Int} {k0 k1 k2 k3 k4 k5 : Tok} {nm : Str} {tk0 : Tok} {y1 y2 y3 y4 y5 : Int} {u1 u2 u3 u4 u5 : Tok} {kind : Str} {sh : Addr} {opc thi sev : Int} {ys : List Str} {lo hi st : Int}
    (hx : (x, (⟨.ref 95, some d, .plain, sl⟩ : Obj)) ∈ news) (hdd : (d, dictOf [⟨h0, .str (Str.ofString "name") k0, .str nm tk0⟩, ⟨h1, .str (Str.ofString "rd") k1, .int y1 u1⟩, ⟨h2, .str (Str.ofString "rs1") k2, .int y2 u2⟩, ⟨h3, .str (Str.ofString "rs2") k3, .int y3 u3⟩, ⟨h4, .str (Str.ofString "imm") k4, .int y4 u4⟩, ⟨h5, .str (Str.ofString "csr") k5, .int y5 u5⟩] n) ∈ news)
    (sf : ∀ h, (hd.heap_1 w.params).In h → ShapeF w h nm kind sh opc thi sev) (kf : ∀ h, (hd.heap_1 w.params).In h → KindF w h kind ys lo hi st) (hb : ¬ ∀ p ∈ sp5 (.int y1) (.int y2) (.int y3) (.int y4) (.int y5), okV ys lo hi st p.1 p.2) (hl : nm.length ≤ 16) : BadAt w news x
theorem BadAt.tail {w : World} {news : List (Addr × Obj)} {x : Addr} {p : Addr × Obj} (h : BadAt w news x) : BadAt w (p :: news) x := by
  cases h with
  | mk hx hdd sf kf hb hl => exact .mk (.tail _ hx) (.tail _ hdd) sf kf hb hl
theorem bad_rd {ys : List Str} {lo hi st y1 : Int} {b c d e : PyData} (q : ys.any (· == Str.ofString "rd") = true) (hn : ¬ (0 ≤ y1 ∧ y1 < 32)) : ¬ ∀ p ∈ sp5 (.int y1) b c d e, okV ys lo hi st p.1 p.2 := fun h => hn ((okV_reg q (by decide) (by decide)).mp (h (Str.ofString "rd", .int y1) (.head _)))
theorem bad_rs1 {ys : List Str} {lo hi st y1 : Int} {a c d e : PyData} (q : ys.any (· == Str.ofString "rs1") = true) (hn : ¬ (0 ≤ y1 ∧ y1 < 32)) : ¬ ∀ p ∈ sp5 a (.int y1) c d e, okV ys lo hi st p.1 p.2 := fun h => hn ((okV_reg q (by decide) (by decide)).mp (h (Str.ofString "rs1", .int y1) (.tail _ (.head _))))
theorem bad_rs2 {ys : List Str} {lo hi st y1 : Int} {a b d e : PyData} (q : ys.any (· == Str.ofString "rs2") = true) (hn : ¬ (0 ≤ y1 ∧ y1 < 32)) : ¬ ∀ p ∈ sp5 a b (.int y1) d e, okV ys lo hi st p.1 p.2 := fun h => hn ((okV_reg q (by decide) (by decide)).mp (h (Str.ofString "rs2", .int y1) (.tail _ (.tail _ (.head _)))))
theorem bad_csr {ys : List Str} {lo hi st y1 : Int} {a b c d : PyData} (q : ys.any (· == Str.ofString "csr") = true) (hn : ¬ (0 ≤ y1 ∧ y1 < 4096)) : ¬ ∀ p ∈ sp5 a b c d (.int y1), okV ys lo hi st p.1 p.2 := fun h => hn ((okV_csr q).mp (h (Str.ofString "csr", .int y1) (.tail _ (.tail _ (.tail _ (.tail _ (.head _)))))))
structure BInv (w : World) (tp l : Addr) (vs : List Value) (t : Tok) (small : Bool) (kp : Addr × Obj) (I : Addr) (_x : Unit) (r : List Addr) (m : Str → Option Value) (news : List (Addr × Obj)) : Prop where
  m1 : m (Str.ofString "tape") = some (.ref tp)
  m2 : m (Str.ofString "small") = some (.bool small)
  mt : (tp, tapeO l 0 0 t) ∈ news
  mc : (l, W.listOf vs.toArray 0) ∈ news
  mkp : kp ∈ news
  lt : ∀ p ∈ news, p.1 < I
  bad : ∀ x ∈ r, BadAt w news x
theorem rfdE_law {w : World} {loose : List Str} {mean : ExcName → Option Value} {mg mb : Str → Option Value} {un : Nat} {gd : Option (List Code)} {cn : Str} {cs : Scope} {a : Addr} {ccd : Value} {base : Heap} {L : Addr} {m : Str → Option Value} {s : Shared} {Q E : Value → Shared → Prop} {news : List (Addr × Obj)} {x : Addr} {A₀ : Around}
    (B : Below A₀ base [] base) (F : Fr base L s.heap m) (X : (hd.heap_1 w.params).In base) (N : News base L s.heap news) (T : Top hd.view_1 loose mean mg mb base) (hk : cs.kind = .function) (hun : un + 24 < cLine) (z : base.get? 0 = some (o0 w.params)) (hb : BadAt w news x)
    (hret : ∀ h' tk', Fr base L h' m → News base L h' news → Q (.bool true) { s with heap := h', toks := tk' }) :
    wpAny (model rwp w) (ktrTop 302 un gd cn cs L a ccd [] []) (call (.ref 1140) [.ref 1046, .ref x]) Q E s := by
  cases hb with
  | mk hx hdd sf kf hb hl => exact rfdE_use B F X N T hk (by decide) hun hx hdd (sf _ X) (kf _ X) (fi _ _) (fi _ _) (fi _ _) (fi _ _) (fi _ _) z (.inl rfl) X T (fun _ hb => nomatch hb) hb hl fun h₀' h' tk' T' F' N' _ _ _ _ => hret _ _ (turn_nil T' F' N').1 (turn_nil T' F' N').2
theorem rfdT_law {w : World} {loose : List Str} {mean : ExcName → Option Value} {mg mb : Str → Option Value} {un : Nat} {gd : Option (List Code)} {cn : Str} {cs : Scope} {a : Addr} {ccd : Value} {base : Heap} {L : Addr} {m : Str → Option Value} {s : Shared} {Q E : Value → Shared → Prop} {news : List (Addr × Obj)} {x : Addr} {A₀ : Around}
    (B : Below A₀ base [] base) (F : Fr base L s.heap m) (X : (hd.heap_1 w.params).In base) (N : News base L s.heap news) (T : Top hd.view_1 loose mean mg mb base) (hk : cs.kind = .function) (hun : un + 24 < cLine) (z : base.get? 0 = some (o0 w.params)) (hb : BadAt w news x)
    (hret : ∀ h' tk', Fr base L h' m → News base L h' news → Q (.bool true) { s with heap := h', toks := tk' }) :
    wpAny (model rwp w) (ktrTop 302 un gd cn cs L a ccd [] []) (call (.ref 1140) [.ref 1100, .ref x]) Q E s := by
  cases hb with
  | mk hx hdd sf kf hb hl => exact rfdT_use B F X N T hk (by decide) hun hx hdd (sf _ X) (kf _ X) (fi _ _) (fi _ _) (fi _ _) (fi _ _) (fi _ _) z (.inl rfl) X T (fun _ hb => nomatch hb) hb hl fun h₀' h' tk' T' F' N' _ _ _ _ => hret _ _ (turn_nil T' F' N').1 (turn_nil T' F' N').2
theorem BV.tail {hb : Bool} {bv : Value} {nw : Obj → List (Addr × Obj)} {lo hh st : Int} {p : Addr × Obj} (h : BV hb bv nw lo hh st) : BV hb bv (fun o => p :: nw o) lo hh st := by
  rcases h with h | ⟨h, bnd, e, t1, t2, t3, n, hm⟩
  · exact .inl h
  · exact .inr ⟨h, bnd, e, ⟨t1, t2, t3, n, fun o => .tail _ (hm o)⟩⟩
inductive ItemF (w : World) (nw : Obj → List (Addr × Obj)) (x : Addr) : Prop
  | mk (nm wr : Str) (bv : Value) (t1 t2 : Tok) (k : Nat) (kind U : Str) (sh : Addr) (opc thi sev lo hh st : Int) (ys parts : List Str) (fe hb cb eb : Bool) (hm : ∀ o, (x, (⟨.type "tuple", none, .seq #[.str nm t1, .str wr t2, bv] k, #[]⟩ : Obj)) ∈ nw o) (hbv : BV hb bv nw lo hh st) (FO : FormOk w nm wr kind U sh opc thi sev lo hh st ys parts fe hb cb eb) : ItemF w nw x
theorem frm_law {w : World} {loose : List Str} {mean : ExcName → Option Value} {mg mb : Str → Option Value} {un : Nat} {gd : Option (List Code)} {cn : Str} {cs : Scope} {a : Addr} {ccd : Value} {base : Heap} {L : Addr} {m : Str → Option Value} {s : Shared} {Q E : Value → Shared → Prop} {news : List (Addr × Obj)} {l tp : Addr} {vs : List Value} {ns : List Int} {n n' : Nat} {nw : Obj → List (Addr × Obj)} {at' : Int} {tk t1 t2 : Tok} {nm wr kind U : Str} {sh : Addr} {opc thi sev lo hh st : Int} {ys parts : List Str} {fe hb cb eb : Bool} {bv : Value} {A₀ : Around}
    (B : Below A₀ base [] base) (F : Fr base L s.heap m) (X : (hd.heap_1 w.params).In base) (N : News base L s.heap news) (T : Top hd.view_1 loose mean mg mb base) (hk : cs.kind = .function) (hun : un + 160 < cLine) (z : base.get? 0 = some (o0 w.params))
    (hnw : news = nw (tapeO l n' at' tk)) (hT : TapeOk l tp vs n nw) (hi : IntsAre vs ns) (hl : ns.length < 64) (h0 : 0 ≤ at') (h1 : at' < 9900) (hbv : BV hb bv nw lo hh st) (FO : FormOk w nm wr kind U sh opc thi sev lo hh st ys parts fe hb cb eb)
    (hret : ∀ h' tk' at2 tq, at' ≤ at2 → at2 ≤ at' + 10 → Fr base L h' m → News base L h' (nw (tapeO l n' at2 tq)) → Q (.bool true) { s with heap := h', toks := tk' }) :
    wpAny (model rwp w) (ktrTop 302 un gd cn cs L a ccd [] []) (call (.ref 1147) [.ref tp, .str nm t1, .str wr t2, bv]) Q E s :=
  frm_use B F X N T hk (by decide) hun hnw hT hi hl h0 h1 hbv FO rfl X T z (fun _ hb => nomatch hb) fun h₀' h' tk' at2 tq q1 q2 T' F' N' _ _ _ _ => hret _ _ _ _ q1 q2 (turn_nil T' F' N').1 (turn_nil T' F' N').2

theorem item_f {w : World} {nw : Obj → List (Addr × Obj)} {x : Addr} {nm wr : Str} {bv : Value} {t1 t2 : Tok} {k : Nat} {kind U : Str} {sh : Addr} {opc thi sev lo hh st : Int} {ys parts : List Str} {fe hb cb eb : Bool} (FO : FormOk w nm wr kind U sh opc thi sev lo hh st ys parts fe hb cb eb) (hm : ∀ o, (x, (⟨.type "tuple", none, .seq #[.str nm t1, .str wr t2, bv] k, #[]⟩ : Obj)) ∈ nw o) (hbv : BV hb bv nw lo hh st) : ItemF w nw x :=
  ⟨_, _, _, _, _, _, _, _, _, _, _, _, _, _, _, _, _, _, _, _, _, hm, hbv, FO⟩
theorem bv_no {nw : Obj → List (Addr × Obj)} {lo hh st : Int} : BV false .none nw lo hh st := .inl ⟨rfl, rfl⟩
theorem bv_yes {nw : Obj → List (Addr × Obj)} {lo hh st : Int} {b : Addr} {t1 t2 t3 : Tok} {n : Nat} (hm : ∀ o, (b, (⟨.type "tuple", none, .seq #[.int lo t1, .int hh t2, .int st t3] n, #[]⟩ : Obj)) ∈ nw o) : BV true (.ref b) nw lo hh st := .inr ⟨rfl, b, rfl, ⟨t1, t2, t3, n, hm⟩⟩
theorem tape_two {l tp : Addr} {vs : List Value} {n : Nat} (h : @LT.lt Nat _ l tp) : TapeOk l tp vs n (fun o => [(tp, o), (l, W.listOf vs.toArray n)]) :=
  ⟨fun o o' => .head (fun p hp => by
    rw [List.mem_singleton.mp hp]
    exact Nat.ne_of_lt h), fun o => .head _, fun o => .tail _ (.head _)⟩
theorem tape_pre {l tp : Addr} {vs : List Value} {n : Nat} (hl : @LT.lt Nat _ l tp) : ∀ {pre : List (Addr × Obj)}, (∀ p ∈ pre, tp < p.1) → TapeOk l tp vs n (fun o => pre ++ [(tp, o), (l, W.listOf vs.toArray n)])
  | [], _ => tape_two hl
  | p :: r, h => (tape_pre hl (fun q hq => h q (.tail _ hq))).consN (x := p) (h p (.head _))
noncomputable def preN (pre : List (Addr × Obj)) (tp l : Addr) (c : Obj) : Obj → List (Addr × Obj) := fun o => pre ++ [(tp, o), (l, c)]
theorem pre_mem {pre : List (Addr × Obj)} {tp l : Addr} {c : Obj} {p : Addr × Obj} (h : p ∈ pre) : ∀ o, p ∈ preN pre tp l c o := fun _ => List.mem_append_left _ h
structure LInv (w : World) (tp l : Addr) (vs : List Value) (kp : Addr × Obj) (I : Addr) (x : (Obj → List (Addr × Obj)) × Int × Tok) (r : List Addr) (m : Str → Option Value) (news : List (Addr × Obj)) : Prop where
  m1 : m (Str.ofString "tape") = some (.ref tp)
  led : news = x.1 (tapeO l 0 x.2.1 x.2.2)
  tok : TapeOk l tp vs 0 x.1
  kp : ∀ o, kp ∈ x.1 o
  lt : ∀ o, ∀ p ∈ x.1 o, p.1 < I
  items : ∀ a ∈ r, ItemF w x.1 a
  a0 : 0 ≤ x.2.1
  a1 : x.2.1 + 10 * (r.length : Int) ≤ 140
theorem pk0 {Q R : Prop} (h :  Q ∧ R) : Q := h.1
theorem pk1 {P0 Q R : Prop} (h : P0 ∧ Q ∧ R) : Q := h.2.1
theorem pk2 {P0 P1 Q R : Prop} (h : P0 ∧ P1 ∧ Q ∧ R) : Q := h.2.2.1
theorem pk3 {P0 P1 P2 Q R : Prop} (h : P0 ∧ P1 ∧ P2 ∧ Q ∧ R) : Q := h.2.2.2.1
theorem pk4 {P0 P1 P2 P3 Q R : Prop} (h : P0 ∧ P1 ∧ P2 ∧ P3 ∧ Q ∧ R) : Q := h.2.2.2.2.1
theorem pk5 {P0 P1 P2 P3 P4 Q R : Prop} (h : P0 ∧ P1 ∧ P2 ∧ P3 ∧ P4 ∧ Q ∧ R) : Q := h.2.2.2.2.2.1
theorem pk6 {P0 P1 P2 P3 P4 P5 Q R : Prop} (h : P0 ∧ P1 ∧ P2 ∧ P3 ∧ P4 ∧ P5 ∧ Q ∧ R) : Q := h.2.2.2.2.2.2.1
theorem pk7 {P0 P1 P2 P3 P4 P5 P6 Q R : Prop} (h : P0 ∧ P1 ∧ P2 ∧ P3 ∧ P4 ∧ P5 ∧ P6 ∧ Q ∧ R) : Q := h.2.2.2.2.2.2.2.1
theorem pk8 {P0 P1 P2 P3 P4 P5 P6 P7 Q R : Prop} (h : P0 ∧ P1 ∧ P2 ∧ P3 ∧ P4 ∧ P5 ∧ P6 ∧ P7 ∧ Q ∧ R) : Q := h.2.2.2.2.2.2.2.2.1
theorem pk9 {P0 P1 P2 P3 P4 P5 P6 P7 P8 Q R : Prop} (h : P0 ∧ P1 ∧ P2 ∧ P3 ∧ P4 ∧ P5 ∧ P6 ∧ P7 ∧ P8 ∧ Q ∧ R) : Q := h.2.2.2.2.2.2.2.2.2.1
theorem pk10 {P0 P1 P2 P3 P4 P5 P6 P7 P8 P9 Q R : Prop} (h : P0 ∧ P1 ∧ P2 ∧ P3 ∧ P4 ∧ P5 ∧ P6 ∧ P7 ∧ P8 ∧ P9 ∧ Q ∧ R) : Q := h.2.2.2.2.2.2.2.2.2.2.1
theorem pk11 {P0 P1 P2 P3 P4 P5 P6 P7 P8 P9 P10 Q R : Prop} (h : P0 ∧ P1 ∧ P2 ∧ P3 ∧ P4 ∧ P5 ∧ P6 ∧ P7 ∧ P8 ∧ P9 ∧ P10 ∧ Q ∧ R) : Q := h.2.2.2.2.2.2.2.2.2.2.2.1
theorem pk12 {P0 P1 P2 P3 P4 P5 P6 P7 P8 P9 P10 P11 Q R : Prop} (h : P0 ∧ P1 ∧ P2 ∧ P3 ∧ P4 ∧ P5 ∧ P6 ∧ P7 ∧ P8 ∧ P9 ∧ P10 ∧ P11 ∧ Q ∧ R) : Q := h.2.2.2.2.2.2.2.2.2.2.2.2.1
theorem pk13 {P0 P1 P2 P3 P4 P5 P6 P7 P8 P9 P10 P11 P12 Q R : Prop} (h : P0 ∧ P1 ∧ P2 ∧ P3 ∧ P4 ∧ P5 ∧ P6 ∧ P7 ∧ P8 ∧ P9 ∧ P10 ∧ P11 ∧ P12 ∧ Q ∧ R) : Q := h.2.2.2.2.2.2.2.2.2.2.2.2.2.1
theorem pk14 {P0 P1 P2 P3 P4 P5 P6 P7 P8 P9 P10 P11 P12 P13 Q R : Prop} (h : P0 ∧ P1 ∧ P2 ∧ P3 ∧ P4 ∧ P5 ∧ P6 ∧ P7 ∧ P8 ∧ P9 ∧ P10 ∧ P11 ∧ P12 ∧ P13 ∧ Q ∧ R) : Q := h.2.2.2.2.2.2.2.2.2.2.2.2.2.2.1
theorem pk15 {P0 P1 P2 P3 P4 P5 P6 P7 P8 P9 P10 P11 P12 P13 P14 Q R : Prop} (h : P0 ∧ P1 ∧ P2 ∧ P3 ∧ P4 ∧ P5 ∧ P6 ∧ P7 ∧ P8 ∧ P9 ∧ P10 ∧ P11 ∧ P12 ∧ P13 ∧ P14 ∧ Q ∧ R) : Q := h.2.2.2.2.2.2.2.2.2.2.2.2.2.2.2.1
theorem pk16 {P0 P1 P2 P3 P4 P5 P6 P7 P8 P9 P10 P11 P12 P13 P14 P15 Q R : Prop} (h : P0 ∧ P1 ∧ P2 ∧ P3 ∧ P4 ∧ P5 ∧ P6 ∧ P7 ∧ P8 ∧ P9 ∧ P10 ∧ P11 ∧ P12 ∧ P13 ∧ P14 ∧ P15 ∧ Q ∧ R) : Q := h.2.2.2.2.2.2.2.2.2.2.2.2.2.2.2.2.1
theorem pk17 {P0 P1 P2 P3 P4 P5 P6 P7 P8 P9 P10 P11 P12 P13 P14 P15 P16 Q R : Prop} (h : P0 ∧ P1 ∧ P2 ∧ P3 ∧ P4 ∧ P5 ∧ P6 ∧ P7 ∧ P8 ∧ P9 ∧ P10 ∧ P11 ∧ P12 ∧ P13 ∧ P14 ∧ P15 ∧ P16 ∧ Q ∧ R) : Q := h.2.2.2.2.2.2.2.2.2.2.2.2.2.2.2.2.2.1
theorem pk18 {P0 P1 P2 P3 P4 P5 P6 P7 P8 P9 P10 P11 P12 P13 P14 P15 P16 P17 Q R : Prop} (h : P0 ∧ P1 ∧ P2 ∧ P3 ∧ P4 ∧ P5 ∧ P6 ∧ P7 ∧ P8 ∧ P9 ∧ P10 ∧ P11 ∧ P12 ∧ P13 ∧ P14 ∧ P15 ∧ P16 ∧ P17 ∧ Q ∧ R) : Q := h.2.2.2.2.2.2.2.2.2.2.2.2.2.2.2.2.2.2.1
theorem pk19 {P0 P1 P2 P3 P4 P5 P6 P7 P8 P9 P10 P11 P12 P13 P14 P15 P16 P17 P18 Q R : Prop} (h : P0 ∧ P1 ∧ P2 ∧ P3 ∧ P4 ∧ P5 ∧ P6 ∧ P7 ∧ P8 ∧ P9 ∧ P10 ∧ P11 ∧ P12 ∧ P13 ∧ P14 ∧ P15 ∧ P16 ∧ P17 ∧ P18 ∧ Q ∧ R) : Q := h.2.2.2.2.2.2.2.2.2.2.2.2.2.2.2.2.2.2.2.1
theorem pk20 {P0 P1 P2 P3 P4 P5 P6 P7 P8 P9 P10 P11 P12 P13 P14 P15 P16 P17 P18 P19 Q R : Prop} (h : P0 ∧ P1 ∧ P2 ∧ P3 ∧ P4 ∧ P5 ∧ P6 ∧ P7 ∧ P8 ∧ P9 ∧ P10 ∧ P11 ∧ P12 ∧ P13 ∧ P14 ∧ P15 ∧ P16 ∧ P17 ∧ P18 ∧ P19 ∧ Q ∧ R) : Q := h.2.2.2.2.2.2.2.2.2.2.2.2.2.2.2.2.2.2.2.2.1
theorem pk21 {P0 P1 P2 P3 P4 P5 P6 P7 P8 P9 P10 P11 P12 P13 P14 P15 P16 P17 P18 P19 P20 Q R : Prop} (h : P0 ∧ P1 ∧ P2 ∧ P3 ∧ P4 ∧ P5 ∧ P6 ∧ P7 ∧ P8 ∧ P9 ∧ P10 ∧ P11 ∧ P12 ∧ P13 ∧ P14 ∧ P15 ∧ P16 ∧ P17 ∧ P18 ∧ P19 ∧ P20 ∧ Q ∧ R) : Q := h.2.2.2.2.2.2.2.2.2.2.2.2.2.2.2.2.2.2.2.2.2.1
theorem pk22 {P0 P1 P2 P3 P4 P5 P6 P7 P8 P9 P10 P11 P12 P13 P14 P15 P16 P17 P18 P19 P20 P21 Q R : Prop} (h : P0 ∧ P1 ∧ P2 ∧ P3 ∧ P4 ∧ P5 ∧ P6 ∧ P7 ∧ P8 ∧ P9 ∧ P10 ∧ P11 ∧ P12 ∧ P13 ∧ P14 ∧ P15 ∧ P16 ∧ P17 ∧ P18 ∧ P19 ∧ P20 ∧ P21 ∧ Q ∧ R) : Q := h.2.2.2.2.2.2.2.2.2.2.2.2.2.2.2.2.2.2.2.2.2.2.1
theorem pk23 {P0 P1 P2 P3 P4 P5 P6 P7 P8 P9 P10 P11 P12 P13 P14 P15 P16 P17 P18 P19 P20 P21 P22 Q R : Prop} (h : P0 ∧ P1 ∧ P2 ∧ P3 ∧ P4 ∧ P5 ∧ P6 ∧ P7 ∧ P8 ∧ P9 ∧ P10 ∧ P11 ∧ P12 ∧ P13 ∧ P14 ∧ P15 ∧ P16 ∧ P17 ∧ P18 ∧ P19 ∧ P20 ∧ P21 ∧ P22 ∧ Q ∧ R) : Q := h.2.2.2.2.2.2.2.2.2.2.2.2.2.2.2.2.2.2.2.2.2.2.2.1
theorem pk24 {P0 P1 P2 P3 P4 P5 P6 P7 P8 P9 P10 P11 P12 P13 P14 P15 P16 P17 P18 P19 P20 P21 P22 P23 Q R : Prop} (h : P0 ∧ P1 ∧ P2 ∧ P3 ∧ P4 ∧ P5 ∧ P6 ∧ P7 ∧ P8 ∧ P9 ∧ P10 ∧ P11 ∧ P12 ∧ P13 ∧ P14 ∧ P15 ∧ P16 ∧ P17 ∧ P18 ∧ P19 ∧ P20 ∧ P21 ∧ P22 ∧ P23 ∧ Q ∧ R) : Q := h.2.2.2.2.2.2.2.2.2.2.2.2.2.2.2.2.2.2.2.2.2.2.2.2.1
theorem all_cons {tp x : Addr} {o : Obj} {r : List (Addr × Obj)} (h : tp < x) (t : ∀ p ∈ r, tp < p.1) : ∀ p ∈ (x, o) :: r, tp < p.1 := List.forall_mem_cons.mpr ⟨h, t⟩
theorem in_two {h₀ h : Heap} {L x I : Addr} {o t : Obj} {nw : Obj → List (Addr × Obj)} {its : Array Value} {k : Nat} (N : News h₀ L h ((I, o) :: nw t)) (hm : ∀ o, (x, (⟨.type "tuple", none, .seq its k, #[]⟩ : Obj)) ∈ nw o) : (x, (⟨.type "tuple", none, .seq its k, #[]⟩ : Obj)) ∈ (I, o) :: nw t ∧ IsTup h x its :=
  ⟨.tail _ (hm t), News.isTup N (.tail _ (hm t))⟩
theorem linv_init {w : World} {tp l : Addr} {vs : List Value} {t : Tok} {kp : Addr × Obj} {I : Addr} {pre : List (Addr × Obj)} {as : List Addr} {k : Nat} {m : Str → Option Value} (h1 : m (Str.ofString "tape") = some (.ref tp)) (hl : @LT.lt Nat _ l tp) (hpre : ∀ p ∈ pre, tp < p.1)
    (hI : ∀ p ∈ preN pre tp l (W.listOf vs.toArray 0) (tapeO l 0 0 t), p.1 < I) (hk : kp ∈ pre) (items : ∀ a ∈ as, ItemF w (preN pre tp l (W.listOf vs.toArray 0)) a) (hlen : as.length ≤ 14) :
    LInv w tp l vs kp I (preN pre tp l (W.listOf vs.toArray 0), 0, t) (as.drop k) m (preN pre tp l (W.listOf vs.toArray 0) (tapeO l 0 0 t)) :=
  have hT : TapeOk l tp vs 0 (preN pre tp l (W.listOf vs.toArray 0)) := tape_pre hl hpre
  ⟨h1, rfl, hT, pre_mem hk, fun o => hT.lt hI o, fun a ha => items a (List.mem_of_mem_drop ha), Int.le_refl _, by
    have : (as.drop k).length ≤ 14 := by rw [List.length_drop]; omega
    dsimp only
    omega⟩
theorem at_lt {a : Int} {x : Addr} {r : List Addr} (h : a + 10 * ((x :: r).length : Int) ≤ 140) : a < 9900 ∧ ∀ b, b ≤ a + 10 → b + 10 * (r.length : Int) ≤ 140 := by
  simp only [List.length_cons, Int.natCast_add, Int.natCast_one] at h
  exact ⟨by omega, fun b hb => by omega⟩
theorem len_lt {c n : Nat} (h : c = min 60 n) : c < 64 := by omega
theorem drop_seq {its : List Value} {small : Bool} {x : Int} (e : x = ((cond small 7 0 : Nat) : Int)) : Data.seq (slicePick its.toArray (some x) none none) 0 = Data.seq ((its.drop (cond small 7 0)).toArray) 0 := by
  subst e
  rw [slicePick_from']
theorem iter_refs {prog : Program} {w : World} {A : Around} {E : Value → Shared → Prop} {s : Shared} {env : Env} {h₀ : Heap} {target : PySem.Expr} {body : List Stmt} {Q : Flow → Shared → Prop} {ax : Addr} {lo : Obj} {as : List Addr} {k n : Nat} {m₀ : Str → Option Value} {news : List (Addr × Obj)}
    (hh : A.handled = none) (F : Fr h₀ env.locals s.heap m₀) (N : News h₀ env.locals s.heap news) (hm : (ax, lo) ∈ news) (hc : lo.cls = .type "list") (hd : lo.data = .seq ((as.map Value.ref).drop k).toArray n)
    (rest₀ : ∀ I : Addr, (∀ p ∈ news, p.1 < I) → ItemsRest prog w A E h₀ env target body Q s [(I, "list_iterator")] [(ax, lo)] ((as.drop k).map fun a => .val (.ref a)) m₀ news) :
    wpAny (model prog w) A (pyIter (.ref ax)) (fun it s₂ => TurnsAt prog w A h₀ env target body Q E it s₂) E s := by
  refine iter_listTurns hh F N hm hc hd ?_
  rw [← List.map_drop, List.map_map]
  exact rest₀

theorem ints_size {vs : List Value} {ns : List Int} (h : IntsAre vs ns) (hl : ¬ 63 < ns.length) : vs.toArray.size ≤ sizeLine := by
  rw [List.size_toArray, ← h.length] at *
  exact Nat.le_trans (Nat.le_of_not_lt hl) (by decide)



set_option maxHeartbeats 0 in
theorem walk_ok : sndOf hd := by
  k_with_none
  k_with "omega" => (lia)
  k_with "m:eval BinOp" => (k_here; (try dsimp only); k_gentoks)
  k_with "m:eval Attribute Name" => (k_here; (try dsimp only); k_gentoks)
  k_with "m:eval FormattedValue" => (k_here; (try dsimp only); k_gentoks)
  k_with "m:joinParts" => (k_here; (try dsimp only); k_gentoks)
  k_with "m:isTrue BoolOp" => (k_here; (try dsimp only); k_gentoks)
  k_with "m:eval Tuple" => (k_here; (try dsimp only); k_gentoks)
  k_with "m:newTuple" => (k_here; (try dsimp only); k_gentoks)
  k_with "m:eval Call" => (k_here; (try dsimp only); k_gentoks)
  k_with "m:execs cons" => (k_here; (try dsimp only); k_gentoks)
  k_with "m:subscriptTail Call Name nil nil Slice ref ref" => (k_here; (with_reducible show wpAny _ _ (subscriptTail _ (PySem.Expr.Slice _ _ none _) (Value.ref _) (Value.ref _)) _ _ _); k_dflt (refine kba_turn (value' := PySem.Expr.Name (PySem.Str.ofString "_") ⟨0, 0, 0, 0⟩) (fun _ => rfl) ?_; refine' kmk_slice ?w5ksF ?w5ksN ?w5ksl ?w5ksp ?w5ksq ?_ ?w5kss ?w5kst ?w5ksz; (case w5ksF => k_asm); (case w5ksN => k_asm); (case w5ksl => kmk_list); (case w5ksp => kmk_part); (case w5ksq => kmk_part); (case w5kss => with_unfolding_all rfl); (case w5kst => kmk_pure); (case w5ksz => kmk_size)); intro D' h' F' N' l1)
  k_with "m:call ref" => (k_here; (with_reducible show wpAny _ _ (call (Value.ref 1147) [_, _, _, _]) _ _ _); refine my_stopL ?_)
  k_with "m:call ref" => (k_here; (with_reducible show wpAny _ _ (call (Value.ref 1140) [Value.ref 1046, Value.ref _]) _ _ _); k_dflt (refine' rfdE_law ?w7B ?w7F ?w7X ?w7N ?w7T ?w7hk ?w7hu ?w7z ?w7hb ?_; (case w7F => assumption); (case w7B => exact below_caller _); (case w7X => assumption); (case w7N => assumption); (case w7T => assumption); (case w7hk => exact rfl); (case w7hu => decide); (case w7z => assumption); (case w7hb => exact BadAt.tail (by assumption)); intro h' tk' F' N'))
  k_with "m:call ref" => (k_here; (with_reducible show wpAny _ _ (call (Value.ref 1140) [Value.ref 1100, Value.ref _]) _ _ _); k_dflt (refine' rfdT_law ?w8B ?w8F ?w8X ?w8N ?w8T ?w8hk ?w8hu ?w8z ?w8hb ?_; (case w8F => assumption); (case w8B => exact below_caller _); (case w8X => assumption); (case w8N => assumption); (case w8T => assumption); (case w8hk => exact rfl); (case w8hu => decide); (case w8z => assumption); (case w8hb => exact BadAt.tail (by assumption)); intro h' tk' F' N'))
  k_with "m:eval Name" => (k_here; k_dflt (refine' ld ?w9k1 ?w9k2 ?_; (case w9k1 => k_asm); (case w9k2 => assumption); k_whole))
  k_with "m:eval ListComp" => (k_here; (with_reducible rename MarkC => mC); (try dsimp only); lcg_calm; k_dflt (refine LCg.ListComp_U (F₀ := by k_asm) (by with_unfolding_all rfl) (by decide) (by rfl) (by decide) (by rfl) ?_))
  k_with "m:CompSrc" => (k_here; (with_reducible rename MarkC => mC); k_dflt (refine' LCg.CompSrc.base ?w11c1 ?w11c2 ?w11c3 ?w11c4 ?w11c5 ?_; (case w11c1 => rfl); (case w11c2 => k_asm); (case w11c3 => k_asm); (case w11c4 => assumption); (case w11c5 => exact ints_size (by assumption) (by omega)); k_whole); intro g'; refine my_stopL ?_)
  k_with "m:newTuple" => (k_here; (with_reducible rename MarkC => mC); (with_reducible show wpAny _ _ (newTuple [Value.ref _, Value.bool (decide _)]) _ _ _); refine my_stopL ?_)
  k_with "m:exec For Name List cons nil" => (k_here; refine my_stopL ?_)
  k_with "m:pyIter ref" => (k_here; refine my_stopL ?_)
  k_with "m:call ref" => (k_here; (with_reducible show wpAny _ _ (call (Value.ref 95) [_, _]) _ _ _); k_dflt (refine' ins2_use ?w15B ?w15F ?w15X ?w15N ?w15T ?w15hk ?w15hd ?w15hu ?_; (case w15F => assumption); (case w15B => exact below_caller _); (case w15X => assumption); (case w15N => assumption); (case w15T => assumption); (case w15hk => exact rfl); (case w15hd => decide); (case w15hu => decide); intro x' d' sl' n' e0' e1' e2' e3' e4' e5' t0' t1' t2' t3' t4' t5' u2' u3' u4' u5' h' tk' F' N' l1' l2'))
  k_with "m:call ref" => (k_here; (with_reducible show wpAny _ _ (call (Value.ref 95) [_, _, _]) _ _ _); k_dflt (refine' ins3_use ?w16B ?w16F ?w16X ?w16N ?w16T ?w16hk ?w16hd ?w16hu ?_; (case w16F => assumption); (case w16B => exact below_caller _); (case w16X => assumption); (case w16N => assumption); (case w16T => assumption); (case w16hk => exact rfl); (case w16hd => decide); (case w16hu => decide); intro x' d' sl' n' e0' e1' e2' e3' e4' e5' t0' t1' t2' t3' t4' t5' u3' u4' u5' h' tk' F' N' l1' l2'))
  k_with "m:call ref" => (k_here; (with_reducible show wpAny _ _ (call (Value.ref 95) [_, _, _, _]) _ _ _); k_dflt (refine' ins4_use ?w17B ?w17F ?w17X ?w17N ?w17T ?w17hk ?w17hd ?w17hu ?_; (case w17F => assumption); (case w17B => exact below_caller _); (case w17X => assumption); (case w17N => assumption); (case w17T => assumption); (case w17hk => exact rfl); (case w17hd => decide); (case w17hu => decide); intro x' d' sl' n' e0' e1' e2' e3' e4' e5' t0' t1' t2' t3' t4' t5' u4' u5' h' tk' F' N' l1' l2'))
  k_with "m:call ref" => (k_here; (with_reducible show wpAny _ _ (call (Value.ref 95) [_, _, _, _, _, _]) _ _ _); k_dflt (refine' ins6_use ?w18B ?w18F ?w18X ?w18N ?w18T ?w18hk ?w18hd ?w18hu ?_; (case w18F => assumption); (case w18B => exact below_caller _); (case w18X => assumption); (case w18N => assumption); (case w18T => assumption); (case w18hk => exact rfl); (case w18hd => decide); (case w18hu => decide); intro x' d' sl' n' e0' e1' e2' e3' e4' e5' t0' t1' t2' t3' t4' t5'  h' tk' F' N' l1' l2'))
  unfold sndOf
  k_fill
  intro w s₀ s₁ mg mb G Y fa o pm cd doc dV kV ho hd hcd hD hmg hg args vals as hpre hlay hrd hwl hlo
  obtain ⟨Y, Z0⟩ := Y
  have KX := kIn_of Y
  k_behind G ho hd hcd hD hmg hpre hlay hrd hwl hlo cd
  have mC : MarkC := rfl
  k_steps
  refine StopL.mk ?_
  refine kcf_list (fun k => (k.natAbs : Int)) (by assumption) ?_ ?_
  · intro k t I oI C oC D m₂ ys h tk E' hk hC hx F N off ne mk
    k_steps
    exact kcf_el (by split <;> omega) rfl rfl
  · intro ys hys
    k_steps
    refine StopL.mk ?_
    generalize decide ((List.map (fun k : Int => (k.natAbs : Int)) _).sum < 2) = small
    (rename MarkC => mX); clear mX
    k_steps
    refine StopL.mk ?_
    with_unfolding_all refine' For_turns ‹Fr s₁.heap _ _ _› ?_
    k_whole
    k_steps
    refine StopL.mk ?_
    (rename News _ _ _ _ => NN)
    (rename Fr _ _ _ _ => FF)
    refine iter_listTurns rfl FF NN (List.Mem.head _) rfl rfl ?_
    intro I hI
    refine vals_all (l := [_, _, _, _]) (val := Value.ref) (Inv := BInv w _ _ _ _ small _ I) (x := ()) ⟨by k_dflt (exact rfl), by k_dflt (exact rfl), (by k_dflt (repeat (first | exact List.Mem.head _ | refine List.Mem.tail _ ?_))), (by k_dflt (repeat (first | exact List.Mem.head _ | refine List.Mem.tail _ ?_))), List.Mem.head _, hI, ?_⟩ ?_ ?_
    · simp only [List.forall_mem_cons, List.not_mem_nil, false_implies, implies_true, and_true]
      exact ⟨BadAt.mk (by k_dflt (repeat (first | exact List.Mem.head _ | refine List.Mem.tail _ ?_))) (by k_dflt (repeat (first | exact List.Mem.head _ | refine List.Mem.tail _ ?_))) (fun _ => sf_add) (fun _ => kf_R) (bad_rd rfl (by decide)) (by decide), BadAt.mk (by k_dflt (repeat (first | exact List.Mem.head _ | refine List.Mem.tail _ ?_))) (by k_dflt (repeat (first | exact List.Mem.head _ | refine List.Mem.tail _ ?_))) (fun _ => sf_sub) (fun _ => kf_R) (bad_rs1 rfl (by decide)) (by decide), BadAt.mk (by k_dflt (repeat (first | exact List.Mem.head _ | refine List.Mem.tail _ ?_))) (by k_dflt (repeat (first | exact List.Mem.head _ | refine List.Mem.tail _ ?_))) (fun _ => sf_xor) (fun _ => kf_R) (bad_rs2 rfl (by decide)) (by decide), BadAt.mk (by k_dflt (repeat (first | exact List.Mem.head _ | refine List.Mem.tail _ ?_))) (by k_dflt (repeat (first | exact List.Mem.head _ | refine List.Mem.tail _ ?_))) (fun _ => sf_csrrw) (fun _ => kf_CSR) (bad_csr rfl (by decide)) (by decide)⟩
    · clear hI NN FF
      rintro ⟨⟩ x r m1 news1 hI next
      have hb := hI.bad x (.head _)
      have hm1 := hI.m1
      have hm2 := hI.m2
      show ItemsRest _ _ _ _ _ _ _ _ _ _ _ _ (Itm.val (Value.ref x) :: _) _ _
      refine ItemsRest.val (fun h₂ tk₂ F₂ => ?_)
      refine AllObj.cons (fun o₂ hc₂ => ?_)
      refine AllObj.nil (fun N₂ => ?_)
      dsimp only [List.cons_append, List.nil_append] at N₂
      k_steps
      refine turn_end ‹Fr s₁.heap _ _ _› (by assumption) hI.lt ⟨hI.mkp, trivial⟩ (next () _ _ ⟨by k_dflt (exact hm1), by k_dflt (exact hm2), hI.mt, hI.mc, hI.mkp, hI.lt, fun y hy => hI.bad y (.tail _ hy)⟩)
    · clear hI NN FF
      rintro ⟨⟩ m1 news1 hI
      have hm1 := hI.m1
      have hm2 := hI.m2
      refine ItemsRest.zero (fun h₂ tk₂ F₂ N₂ => ?_)
      have N₃ : News s₁.heap _ h₂ [_, _] := fun p hp => N₂ p (by
        rcases List.mem_cons.mp hp with rfl | hp
        · exact hI.mt
        · rcases List.mem_cons.mp hp with rfl | hp
          · exact hI.mc
          · cases hp)
      clear N₂ hI
      iterate 2 (try any_goals (first | (k_unfold; (try dsimp only)) | (k_end; wrow_close) | walk1 | (dsimp only; walk1) | (leave1; try dsimp only)))
      with_unfolding_all refine' For_turns ‹Fr s₁.heap _ _ _› ?_
      k_whole
      k_steps
      refine StopL.mk ?_
      (rename News _ _ _ _ => NN)
      (rename Fr _ _ _ _ => FF)
      (rename ∀ p : Addr × Obj, p ∈ _ → p.1 < _ => lD)
      refine iter_refs (as := [_, _, _, _, _, _, _, _, _, _, _, _, _, _]) (k := cond small 7 0) rfl FF NN (List.Mem.head _) rfl (drop_seq (by cases small <;> rfl)) ?_
      intro I hI
      refine vals_all (val := Value.ref) (Inv := LInv w _ _ _ _ I) (x := (preN [_, _, _, _, _, _, _, _, _, _, _, _, _, _, _, _, _, _, _, _, _, _, _, _, _, _] _ _ (W.listOf (List.toArray _) 0), 0, _)) (linv_init hm1 (by assumption) ?_ hI (List.Mem.head _) ?_ (Nat.le_refl _)) ?_ ?_
      · clear hI NN FF
        refine all_cons (lD (_, tapeO _ 0 0 _) (by k_dflt (repeat (first | exact List.Mem.head _ | refine List.Mem.tail _ ?_)))) ?_
        refine all_cons (pk24 (by with_reducible assumption)) ?_
        refine all_cons (pk23 (by with_reducible assumption)) ?_
        refine all_cons (pk22 (by with_reducible assumption)) ?_
        refine all_cons (pk21 (by with_reducible assumption)) ?_
        refine all_cons (pk20 (by with_reducible assumption)) ?_
        refine all_cons (pk19 (by with_reducible assumption)) ?_
        refine all_cons (pk18 (by with_reducible assumption)) ?_
        refine all_cons (pk17 (by with_reducible assumption)) ?_
        refine all_cons (pk16 (by with_reducible assumption)) ?_
        refine all_cons (pk15 (by with_reducible assumption)) ?_
        refine all_cons (pk14 (by with_reducible assumption)) ?_
        refine all_cons (pk13 (by with_reducible assumption)) ?_
        refine all_cons (pk12 (by with_reducible assumption)) ?_
        refine all_cons (pk11 (by with_reducible assumption)) ?_
        refine all_cons (pk10 (by with_reducible assumption)) ?_
        refine all_cons (pk9 (by with_reducible assumption)) ?_
        refine all_cons (pk8 (by with_reducible assumption)) ?_
        refine all_cons (pk7 (by with_reducible assumption)) ?_
        refine all_cons (pk6 (by with_reducible assumption)) ?_
        refine all_cons (pk5 (by with_reducible assumption)) ?_
        refine all_cons (pk4 (by with_reducible assumption)) ?_
        refine all_cons (pk3 (by with_reducible assumption)) ?_
        refine all_cons (pk2 (by with_reducible assumption)) ?_
        refine all_cons (pk1 (by with_reducible assumption)) ?_
        refine all_cons (pk0 (by with_reducible assumption)) ?_
        exact List.forall_mem_nil _
      · clear hI NN FF lD
        simp only [List.forall_mem_cons, List.not_mem_nil, false_implies, implies_true, and_true]
        exact ⟨item_f (fo_add w) (pre_mem (by k_dflt (repeat (first | exact List.Mem.head _ | refine List.Mem.tail _ ?_)))) bv_no, item_f (fo_addi w) (pre_mem (by k_dflt (repeat (first | exact List.Mem.head _ | refine List.Mem.tail _ ?_)))) (bv_yes (pre_mem (by k_dflt (repeat (first | exact List.Mem.head _ | refine List.Mem.tail _ ?_))))), item_f (fo_lw w) (pre_mem (by k_dflt (repeat (first | exact List.Mem.head _ | refine List.Mem.tail _ ?_)))) (bv_yes (pre_mem (by k_dflt (repeat (first | exact List.Mem.head _ | refine List.Mem.tail _ ?_))))), item_f (fo_sb w) (pre_mem (by k_dflt (repeat (first | exact List.Mem.head _ | refine List.Mem.tail _ ?_)))) (bv_yes (pre_mem (by k_dflt (repeat (first | exact List.Mem.head _ | refine List.Mem.tail _ ?_))))), item_f (fo_bne w) (pre_mem (by k_dflt (repeat (first | exact List.Mem.head _ | refine List.Mem.tail _ ?_)))) (bv_yes (pre_mem (by k_dflt (repeat (first | exact List.Mem.head _ | refine List.Mem.tail _ ?_))))), item_f (fo_ecall w) (pre_mem (by k_dflt (repeat (first | exact List.Mem.head _ | refine List.Mem.tail _ ?_)))) bv_no, item_f (fo_jal w) (pre_mem (by k_dflt (repeat (first | exact List.Mem.head _ | refine List.Mem.tail _ ?_)))) (bv_yes (pre_mem (by k_dflt (repeat (first | exact List.Mem.head _ | refine List.Mem.tail _ ?_))))), item_f (fo_lui w) (pre_mem (by k_dflt (repeat (first | exact List.Mem.head _ | refine List.Mem.tail _ ?_)))) (bv_yes (pre_mem (by k_dflt (repeat (first | exact List.Mem.head _ | refine List.Mem.tail _ ?_))))), item_f (fo_slli w) (pre_mem (by k_dflt (repeat (first | exact List.Mem.head _ | refine List.Mem.tail _ ?_)))) (bv_yes (pre_mem (by k_dflt (repeat (first | exact List.Mem.head _ | refine List.Mem.tail _ ?_))))), item_f (fo_csrrw w) (pre_mem (by k_dflt (repeat (first | exact List.Mem.head _ | refine List.Mem.tail _ ?_)))) bv_no, item_f (fo_csrrsi w) (pre_mem (by k_dflt (repeat (first | exact List.Mem.head _ | refine List.Mem.tail _ ?_)))) (bv_yes (pre_mem (by k_dflt (repeat (first | exact List.Mem.head _ | refine List.Mem.tail _ ?_))))), item_f (fo_sfence_vma w) (pre_mem (by k_dflt (repeat (first | exact List.Mem.head _ | refine List.Mem.tail _ ?_)))) bv_no, item_f (fo_jalr w) (pre_mem (by k_dflt (repeat (first | exact List.Mem.head _ | refine List.Mem.tail _ ?_)))) (bv_yes (pre_mem (by k_dflt (repeat (first | exact List.Mem.head _ | refine List.Mem.tail _ ?_))))), item_f (fo_fence w) (pre_mem (by k_dflt (repeat (first | exact List.Mem.head _ | refine List.Mem.tail _ ?_)))) (bv_yes (pre_mem (by k_dflt (repeat (first | exact List.Mem.head _ | refine List.Mem.tail _ ?_)))))⟩
      · clear hI NN FF lD
        rintro ⟨nw, at1, tq⟩ x r m1 news1 hI next
        obtain ⟨hm1, hled, hT, hkp, hlt, hit, ha0, ha1⟩ := hI
        dsimp only at hled hT hkp hlt hit ha0 ha1
        subst hled
        obtain ⟨ha2, ha3⟩ := at_lt ha1
        obtain ⟨nm, wr, bv, t1, t2, k, kind, U, sh, opc, thi, sev, lo, hh, st, ys, parts, fe, hb, cb, eb, hmx, hbv, FO⟩ := hit x (.head _)
        show ItemsRest _ _ _ _ _ _ _ _ _ _ _ _ (Itm.val (Value.ref x) :: _) _ _
        refine ItemsRest.val (fun h₂ tk₂ F₂ => ?_)
        refine AllObj.cons (fun o₂ hc₂ => ?_)
        refine AllObj.nil (fun N₂ => ?_)
        dsimp only [List.cons_append, List.nil_append] at N₂
        obtain ⟨hx2, tup⟩ := in_two N₂ hmx
        have hT2 := hT.consN (x := (I, o₂)) (hlt o₂ _ (hT.tape o₂))
        have hbv2 := BV.tail (p := (I, o₂)) hbv
        k_steps
        refine StopL.mk ?_
        refine frm_law (nw := fun o => (I, o₂) :: nw o) (below_caller _) (by assumption) KX (by assumption) (by assumption) rfl (by decide) Z0 rfl hT2 (by assumption) (len_lt (by assumption)) ha0 ha2 hbv2 FO ?_
        intro h' tk' at2 tq2 q1 q2 F' N'
        (try dsimp only at N')
        k_steps
        refine turn_end ‹Fr s₁.heap _ _ _› N' (hlt _) ⟨hkp _, trivial⟩ (next (nw, at2, tq2) _ _ ⟨by k_dflt (exact hm1), rfl, hT, hkp, hlt, fun y hy => hit y (.tail _ hy), Int.le_trans ha0 q1, ha3 _ q2⟩)
      · clear hI NN FF lD
        rintro ⟨nw, at1, tq⟩ m1 news1 hI
        refine ItemsRest.zero (fun h₂ tk₂ F₂ N₂ => ?_)
        k_steps
end
end Mine

namespace Mine
theorem law_holds : PySem.Challenge.rw_pq0900_01.Holds := by
  obtain ⟨M, run⟩ := run_all
  exact hd ⟨left_of M run, walk_ok⟩
end Mine

theorem PySem.Challenge.cw_pq0900_01_holds : PySem.Challenge.rw_pq0900_01.Holds := by
  exact Mine.law_holds
