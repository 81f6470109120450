import PyProof.Rows.All
import Wide.All
import OpenK.AllK
import Wide.FinOn
import PySem.Challenge.RW_xw0114_01
open PySem PySem.W PyProof.Rows PySem.Calls
set_option Elab.async false
set_option maxRecDepth 100000
set_option maxHeartbeats 8000000
namespace Mine
def qv : Program := view (OpenLaw.prog PySem.Challenge.rw_xw0114_01) [1, 2, 3, 4, 5, 6, 7, 8, 9, 10, 11, 12, 13, 14, 15, 16, 17, 19, 20, 21, 22, 23, 25, 26, 27, 28, 29, 30, 31, 33, 34, 35, 36, 38, 39, 40, 41, 42, 43]
section
local macro_rules | `(tactic| o_head $H) => do
  let (hw, hc, hl) := (Lean.mkIdent `hw, Lean.mkIdent `hc, Lean.mkIdent `hl)
  `(tactic| ((refine holds_open (q := Mine.qv) (loose := []) (Xt := fun s => xlAt Mine.qv [] s && recOk (RowW.records (OpenRow.toRowW (OpenLaw.row PySem.Challenge.rw_xw0114_01))) s) (XP := XL Mine.qv []) (Yf := Hook.obs $H) (Ya := Hook.val $H) (YP := Hook.says $H) (N := 3856) ?$hl (Hook.of $H) (Hook.keeps $H) (fun s e => xl_of s (Bool.and_eq_true_iff.mp e).1) XL.keeps (by rfl) (by rfl) (by rfl) (fun s e => recFacts_of (Bool.and_eq_true_iff.mp e).2) (by rfl) (by first | assumption | decide +kernel) (by decide +kernel) ⟨rfl, rfl, rfl, rfl, rfl, by decide +kernel⟩ ?$hw ?$hc); (case $hl:ident => (intro w9; kernel_rfl)); (all_goals (rename_i z9; clear z9))))
open_top hd for PySem.Challenge.rw_xw0114_01
end
section
/-- what a run asks of its tree: one row a word -/
def RInv0 (M : Model) (Γ : Ctx) (p : Pos) (s : Shared) (e : End) (s' : Shared) : Sem Fin → Prop
  | .pure (.done f) => e = .ret (.ok f) ∧ s' = s
  | .pure (.again c) => Runs M (Γ.goto c) p (M.den c) [] s e s'
  | .raise x => e = .ret (.error x) ∧ s' = s
  | .rule _ k => Runs M Γ p (k ()) [] s e s'
  | .at p' k => Runs M Γ p' (k ()) [] s e s'
  | .load a _ k => ∃ o, s.heap.get? a = some o ∧ Runs M Γ p (k o) [] s e s'
  | .update a _ f k => Runs M Γ p (k ()) [] { s with heap := s.heap.update a f } e s'
  | .loadIfAlive a k => Runs M Γ p (k (s.heap.get? a)) [] s e s'
  | .point _ k => Runs M Γ p (k ()) [] s e s'
  | .alloc o k => Runs M Γ p (k s.heap.objs.size) [] { s with heap := s.heap.push o } e s'
  | .fresh k => Runs M Γ p (k s.toks) [] { s with toks := s.toks + 1 } e s'
  | .ask k => Runs M Γ p (k ⟨M.prog, M.w.params⟩) [] s e s'
  | .choose src n k => Runs M Γ p (k (M.w.draws src (s.drawn.get src) % n)) [] { s with drawn := s.drawn.bump src } e s'
  | .os q _ k => Runs M Γ p (k (Os.step s.os q).2) [] { s with os := (Os.step s.os q).1 } e s'
  | .handled own k => Runs M Γ p (k (if own then Γ.own else Γ.handled)) [] s e s'
  | .genState g k => ∃ st, s.gens[g]? = some st ∧ Runs M Γ p (k st.seen) [] s e s'
  | .stack k => Runs M Γ p (k ((Γ.code, p) :: Γ.below)) [] s e s'
  | .thread k => Runs M Γ p (k 0) [] s e s'
  | .newGen c k => Runs M Γ p (k s.gens.size) [] { s with gens := s.gens.push (.fresh c) } e s'
  | .call c h g l k => ∃ e₁ s₁, Runs M (Γ.enter c h p) p (M.den c) [] s e₁ s₁ ∧ (match e₁ with
      | .ret r => Runs M Γ p (k r) [] s₁ e s'
      | .susp v g₀ l₀ k₀ c₀ p₀ fs => e = .susp v g₀ l₀ k₀ c₀ p₀ (fs ++ [.ret k h g l Γ.code p []]) ∧ s' = s₁)
  | .yield v g l k => e = .susp v g l k Γ.code p [] ∧ s' = s
  | .resume g r _ k => ∃ st, s.gens[g]? = some st ∧ (match st with
      | .fresh c => (match r with
        | .throw x => Runs M Γ p (k (.raised x)) [] (s.setGen g .finished) e s'
        | .send v => (v = .none ∧ ∃ e₁ s₁, Runs M (Γ.wake c p) p (M.den c) [] (s.setGen g .running) e₁ s₁ ∧ Runs M Γ p (k e₁.result) [] (s₁.setGen g e₁.genState) e s') ∨ (v ≠ .none ∧ Runs M Γ p (k .justStarted) [] s e s'))
      | .suspended k₀ _ c₀ p₀ fs _ => ∃ e₁ s₁, Runs M (Γ.wake c₀ p) p₀ (k₀ r) fs (s.setGen g .running) e₁ s₁ ∧ Runs M Γ p (k e₁.result) [] (s₁.setGen g e₁.genState) e s'
      | .running => Runs M Γ p (k .running) [] s e s'
      | .finished => Runs M Γ p (k .finished) [] s e s')
  | _ => True
def RInv (M : Model) (Γ : Ctx) (p : Pos) (s : Shared) (e : End) (s' : Shared) (t : Sem Fin) : List Frame → Prop
  | [] => RInv0 M Γ p s e s' t
  | F :: fs => ∃ e₁ s₁, Runs M (Γ.over (F :: fs)) p t [] s e₁ s₁ ∧ (match e₁ with
      | .ret r => (match F with
        | .ret k _ _ _ c₁ p₁ _ => Runs M (Γ.goto c₁) p₁ (k r) fs s₁ e s'
        | .gen g k _ c₁ p₁ => Runs M (Γ.goto c₁) p₁ (k (End.ret r).result) fs (s₁.setGen g .finished) e s')
      | .susp v g₀ l₀ k₀ c₀ p₀ fs₀ => (match splitAtGen (F :: fs) with
        | none => e = .susp v g₀ l₀ k₀ c₀ p₀ (fs₀ ++ F :: fs) ∧ s' = s₁
        | some (pre, (g, k, c₁, p₁), rest) => Runs M (Γ.goto c₁) p₁ (k (.yielded v)) rest (s₁.setGen g (End.susp v g₀ l₀ k₀ c₀ p₀ (fs₀ ++ pre)).genState) e s'))
theorem runs_inv {M : Model} {Γ : Ctx} {p : Pos} {t : Sem Fin} {fs : List Frame} {s : Shared} {e : End} {s' : Shared} (h : Runs M Γ p t fs s e s') : RInv M Γ p s e s' t fs := by
  cases h with
  | done => exact ⟨rfl, rfl⟩
  | raise => exact ⟨rfl, rfl⟩
  | load a h => exact ⟨_, a, h⟩
  | update _ h => exact h
  | again _ h => exact h
  | choose _ h => exact h
  | genState a h => exact ⟨_, a, h⟩
  | call a b => exact ⟨_, _, a, b⟩
  | callSusp a => exact ⟨_, _, a, rfl, rfl⟩
  | yield => exact ⟨rfl, rfl⟩
  | resumeFresh a b _ c => exact ⟨_, a, .inl ⟨rfl, _, _, b, c⟩⟩
  | resumeSuspended a b _ c => exact ⟨_, a, _, _, b, c⟩
  | resumeJustStarted a n c => exact ⟨_, a, .inr ⟨n, c⟩⟩
  | resumeThrowFresh a c => exact ⟨_, a, c⟩
  | resumeRunning a c => exact ⟨_, a, c⟩
  | resumeFinished a c => exact ⟨_, a, c⟩
  | segRet a b => exact ⟨_, _, a, b⟩
  | segGen a b => exact ⟨_, _, a, b⟩
  | segSuspOut g a => exact ⟨_, _, a, by rw [g]; exact ⟨rfl, rfl⟩⟩
  | segSuspGen g a _ b => exact ⟨_, _, a, by rw [g]; exact b⟩
  | _ h => exact h
theorem runs_det {M : Model} {Γ : Ctx} {p : Pos} {t : Sem Fin} {fs : List Frame} {s : Shared} {e : End} {s' : Shared} (h : Runs M Γ p t fs s e s') : ∀ {e₂ : End} {s₂ : Shared}, Runs M Γ p t fs s e₂ s₂ → e = e₂ ∧ s' = s₂ := by
  induction h with
  | done => intro e₂ s₂ h; have i := runs_inv h; exact ⟨i.1.symm, i.2.symm⟩
  | raise => intro e₂ s₂ h; have i := runs_inv h; exact ⟨i.1.symm, i.2.symm⟩
  | yield => intro e₂ s₂ h; have i := runs_inv h; exact ⟨i.1.symm, i.2.symm⟩
  | load g _ ih => intro e₂ s₂ h; obtain ⟨o, a, i⟩ := runs_inv h; rw [g] at a; cases a; exact ih i
  | genState g _ ih => intro e₂ s₂ h; obtain ⟨o, a, i⟩ := runs_inv h; rw [g] at a; cases a; exact ih i
  | again _ _ ih => intro e₂ s₂ h; exact ih (runs_inv h)
  | update _ _ ih => intro e₂ s₂ h; exact ih (runs_inv h)
  | choose _ _ ih => intro e₂ s₂ h; exact ih (runs_inv h)
  | call _ _ ih1 ih2 =>
    intro e₂ s₂ h
    obtain ⟨e₁, s₁, a, b⟩ := runs_inv h
    obtain ⟨q1, q2⟩ := ih1 a
    subst q1; subst q2
    exact ih2 b
  | callSusp _ ih1 =>
    intro e₂ s₂ h
    obtain ⟨e₁, s₁, a, b⟩ := runs_inv h
    obtain ⟨q1, q2⟩ := ih1 a
    subst q1; subst q2
    exact ⟨b.1.symm, b.2.symm⟩
  | resumeFresh g _ _ _ ih1 ih2 =>
    intro e₂ s₂ h
    obtain ⟨st, a, b⟩ := runs_inv h
    rw [g] at a; cases a
    rcases b with ⟨_, e₁, s₁, b, c⟩ | ⟨n, _⟩
    · obtain ⟨q1, q2⟩ := ih1 b
      subst q1; subst q2
      exact ih2 c
    · exact absurd rfl n
  | resumeSuspended g _ _ _ ih1 ih2 =>
    intro e₂ s₂ h
    obtain ⟨st, a, b⟩ := runs_inv h
    rw [g] at a; cases a
    obtain ⟨e₁, s₁, b, c⟩ := b
    obtain ⟨q1, q2⟩ := ih1 b
    subst q1; subst q2
    exact ih2 c
  | resumeJustStarted g n _ ih =>
    intro e₂ s₂ h
    obtain ⟨st, a, b⟩ := runs_inv h
    rw [g] at a; cases a
    rcases b with ⟨e, _⟩ | ⟨_, c⟩
    · exact absurd e n
    · exact ih c
  | resumeThrowFresh g _ ih =>
    intro e₂ s₂ h
    obtain ⟨st, a, b⟩ := runs_inv h
    rw [g] at a; cases a
    exact ih b
  | resumeRunning g _ ih =>
    intro e₂ s₂ h
    obtain ⟨st, a, b⟩ := runs_inv h
    rw [g] at a; cases a
    exact ih b
  | resumeFinished g _ ih =>
    intro e₂ s₂ h
    obtain ⟨st, a, b⟩ := runs_inv h
    rw [g] at a; cases a
    exact ih b
  | segRet _ _ ih1 ih2 =>
    intro e₂ s₂ h
    obtain ⟨e₁, s₁, a, b⟩ := runs_inv h
    obtain ⟨q1, q2⟩ := ih1 a
    subst q1; subst q2
    exact ih2 b
  | segGen _ _ ih1 ih2 =>
    intro e₂ s₂ h
    obtain ⟨e₁, s₁, a, b⟩ := runs_inv h
    obtain ⟨q1, q2⟩ := ih1 a
    subst q1; subst q2
    exact ih2 b
  | segSuspOut g _ ih1 =>
    intro e₂ s₂ h
    obtain ⟨e₁, s₁, a, b⟩ := runs_inv h
    obtain ⟨q1, q2⟩ := ih1 a
    subst q1; subst q2
    dsimp only at b
    rw [g] at b
    exact ⟨b.1.symm, b.2.symm⟩
  | segSuspGen g _ _ _ ih1 ih2 =>
    intro e₂ s₂ h
    obtain ⟨e₁, s₁, a, b⟩ := runs_inv h
    obtain ⟨q1, q2⟩ := ih1 a
    subst q1; subst q2
    dsimp only at b
    rw [g] at b
    exact ih2 b
  | _ _ ih => intro e₂ s₂ h; exact ih (runs_inv h)
theorem wakes_det {M : Model} {Γ : Ctx} {p : Pos} {g : Nat} {r : Resume} {s : Shared} {x y : GenResult} {s₁ s₂ : Shared} (h : Wakes M Γ p g r s x s₁) (h' : Wakes M Γ p g r s y s₂) : x = y ∧ s₁ = s₂ := by
  unfold Wakes at h h'
  cases hg : s.gens[g]? with
  | none => rw [hg] at h; exact h.elim
  | some st =>
    rw [hg] at h h'
    cases st with
    | fresh c =>
      cases r with
      | throw x => exact ⟨h.1.trans h'.1.symm, h.2.trans h'.2.symm⟩
      | send v =>
        cases v with
        | none =>
          obtain ⟨e₁, t₁, a1, _, a3, a4⟩ := h
          obtain ⟨e₂, t₂, b1, _, b3, b4⟩ := h'
          obtain ⟨q1, q2⟩ := runs_det a1 b1
          subst q1; subst q2
          exact ⟨a3.trans b3.symm, a4.trans b4.symm⟩
        | _ => exact ⟨h.1.trans h'.1.symm, h.2.trans h'.2.symm⟩
    | suspended k₀ l₀ c₀ p₀ fs b =>
      obtain ⟨e₁, t₁, a1, _, a3, a4⟩ := h
      obtain ⟨e₂, t₂, b1, _, b3, b4⟩ := h'
      obtain ⟨q1, q2⟩ := runs_det a1 b1
      subst q1; subst q2
      exact ⟨a3.trans b3.symm, a4.trans b4.symm⟩
    | running => exact ⟨h.1.trans h'.1.symm, h.2.trans h'.2.symm⟩
    | finished => exact ⟨h.1.trans h'.1.symm, h.2.trans h'.2.symm⟩
theorem wp_and {α : Type} {M : Model} {Γ : Ctx} {Q Q' : α → Pos → Shared → Prop} {E E' : Value → Pos → Shared → Prop} : ∀ (t : Sem α) (p : Pos) (s : Shared), Sem.wp M Γ t Q E p s → Sem.wp M Γ t Q' E' p s → Sem.wp M Γ t (fun a p s => Q a p s ∧ Q' a p s) (fun a p s => E a p s ∧ E' a p s) p s := by
  intro t
  induction t with
  | pure a => exact fun p s a b => ⟨a, b⟩
  | raise a => exact fun p s a b => ⟨a, b⟩
  | unsupported => exact fun p s a b => a
  | finish => exact fun p s a b => a
  | rule _ k ih => exact fun p s => ih () p s
  | «at» p' k ih => exact fun p s => ih () p' s
  | load a _ k ih =>
    rintro p s ⟨o, e, h⟩ ⟨o', e', h'⟩
    rw [e] at e'; cases e'
    exact ⟨o, e, ih o p s h h'⟩
  | update a _ f k ih => exact fun p s h h' => ⟨h.1, ih () p _ h.2 h'.2⟩
  | loadIfAlive a k ih => exact fun p s => ih _ p s
  | point _ k ih => exact fun p s => ih () p s
  | register _ _ => exact fun p s a b => a
  | alloc o k ih => exact fun p s => ih _ p _
  | fresh k ih => exact fun p s => ih _ p _
  | ask k ih => exact fun p s => ih _ p _
  | choose src n k ih => exact fun p s h h' => ⟨h.1, ih _ p _ h.2 h'.2⟩
  | os q _ k ih => exact fun p s => ih _ p _
  | call c h _ _ k ih =>
    rintro p s ⟨r, s', e, q⟩ ⟨r', s'', e', q'⟩
    obtain ⟨q1, q2⟩ := runs_det e e'
    cases q1
    subst q2
    exact ⟨r, s', e, ih _ p s' q q'⟩
  | handled own k ih => exact fun p s => ih _ p _
  | genState g k ih =>
    rintro p s ⟨o, e, h⟩ ⟨o', e', h'⟩
    rw [e] at e'; cases e'
    exact ⟨o, e, ih _ p s h h'⟩
  | newGen c k ih => exact fun p s => ih _ p _
  | resume g r _ k ih =>
    rintro p s ⟨r, s', e, q⟩ ⟨r', s'', e', q'⟩
    obtain ⟨q1, q2⟩ := wakes_det e e'
    subst q1
    subst q2
    exact ⟨r, s', e, ih _ p s' q q'⟩
  | yield => exact fun p s a b => a
  | stack k ih => exact fun p s => ih _ p _
  | fork => exact fun p s a b => a
  | thread k ih => exact fun p s => ih _ p _
  | await => exact fun p s a b => a
theorem wpAny_and {α : Type} {M : Model} {A : Around} {t : Sem α} {Q Q' : α → Shared → Prop} {E E' : Value → Shared → Prop} {s : Shared} (h : wpAny M A t Q E s) (h' : wpAny M A t Q' E' s) : wpAny M A t (fun a s => Q a s ∧ Q' a s) (fun a s => E a s ∧ E' a s) s :=
  fun Γ p i => wp_and t p s (h Γ p i) (h' Γ p i)
theorem wpAny_all {α ι : Type} {M : Model} {A : Around} {t : Sem α} {Q₀ : α → Shared → Prop} {Q : ι → α → Shared → Prop} {E : Value → Shared → Prop} {s : Shared} (h₀ : wpAny M A t Q₀ E s) : ∀ (l : List ι), (∀ i ∈ l, wpAny M A t (Q i) E s) → wpAny M A t (fun a s => Q₀ a s ∧ ∀ i ∈ l, Q i a s) E s
  | [], _ => wpAny_mono h₀ (fun _ _ q => ⟨q, fun _ h => nomatch h⟩) fun _ _ e => e
  | i :: r, h => wpAny_mono (wpAny_and (h i (.head _)) (wpAny_all h₀ r fun j hj => h j (.tail _ hj))) (fun _ _ q => ⟨q.2.1, fun j hj => (List.mem_cons.mp hj).elim (fun e => e ▸ q.1) fun hj => q.2.2 j hj⟩) fun _ _ e => e.1
end
section

/-! digits -/
def digsF : Nat → Int → Int → List Int
  | 0, _, _ => []
  | f + 1, B, x => if x ≤ 0 then [] else x % B :: digsF f B (x / B)
def digs (B x : Int) : List Int := digsF x.toNat B x

theorem div_lt {B x : Int} (hB : 2 ≤ B) (hx : 0 < x) : x / B < x :=
  Int.ediv_lt_of_lt_mul (by omega) (by
    have h : x * 2 ≤ x * B := Int.mul_le_mul_of_nonneg_left hB (by omega)
    omega)
theorem div_nn {B x : Int} (hB : 2 ≤ B) (hx : 0 ≤ x) : 0 ≤ x / B := Int.ediv_nonneg hx (by omega)

theorem digsF_eq {B : Int} (hB : 2 ≤ B) : ∀ (f g : Nat) (x : Int), x.toNat ≤ f → x.toNat ≤ g → digsF f B x = digsF g B x := by
  intro f
  induction f with
  | zero =>
    intro g x h _
    have : x ≤ 0 := by omega
    cases g <;> simp [digsF, this]
  | succ f ih =>
    intro g x h hg
    by_cases hx : x ≤ 0
    · cases g <;> simp [digsF, hx]
    · cases g with
      | zero => omega
      | succ g =>
        simp only [digsF, hx, if_false]
        have h1 := div_lt hB (show 0 < x by omega)
        rw [ih g _ (by omega) (by omega)]
theorem digs_neg {B x : Int} (h : x ≤ 0) : digs B x = [] := by
  unfold digs
  have : x.toNat = 0 := by omega
  rw [this]; rfl
theorem digs_zero (B : Int) : digs B 0 = [] := rfl
theorem digs_pos {B x : Int} (hB : 2 ≤ B) (h : 0 < x) : digs B x = x % B :: digs B (x / B) := by
  unfold digs
  obtain ⟨k, hk⟩ : ∃ k, x.toNat = k + 1 := ⟨x.toNat - 1, by omega⟩
  have h1 := div_lt hB h
  rw [hk]
  have hx : ¬ x ≤ 0 := by omega
  simp only [digsF, hx, if_false]
  rw [digsF_eq hB k (x / B).toNat _ (by omega) (by omega)]
theorem digs_one {B x : Int} (hB : 2 ≤ B) (h : 0 < x) (h' : x < B) : digs B x = [x] := by
  rw [digs_pos hB h, Int.ediv_eq_zero_of_lt (by omega) h', Int.emod_eq_of_lt (by omega) h']; rfl

/-! contracts -/


/-- what a list-making def hands back -/
abbrev RetL (out : List Int) (h₀ : Heap) (L : Addr) (m : Str → Option Value) (news : List (Addr × Obj)) (s : Shared) (Q : Value → Shared → Prop) : Prop :=
  ∀ (D : Addr) (us : List Value) (c : Nat) (h' : Heap) (tk' : Nat), Fr h₀ L h' m → News h₀ L h' ((D, listOf us.toArray c) :: news) → AllLt D news → IntsAre us out → Q (.ref D) { s with heap := h', toks := tk' }
abbrev RetI (x : Int) (h₀ : Heap) (L : Addr) (m : Str → Option Value) (news : List (Addr × Obj)) (s : Shared) (Q : Value → Shared → Prop) : Prop :=
  ∀ (t : Tok) (h' : Heap) (tk' : Nat), Fr h₀ L h' m → News h₀ L h' news → Q (.int x t) { s with heap := h', toks := tk' }

abbrev Ctr (prog : Program) (w : World) (mean : ExcName → Option Value) (mg mb : Str → Option Value) (f : Addr) (k : Nat) (args : List (Addr × Obj)) (vs : List Value)
    (Ret : Heap → Addr → (Str → Option Value) → List (Addr × Obj) → Shared → (Value → Shared → Prop) → Prop) : Prop :=
  ∀ (dp un : Nat) (gd : Option (List Code)) (cn : Str) (cs : Scope) (a : Addr) (ccd : Value) (cl : List (Str × Addr)) (outer : List Env) (A₀ : Around) (base h₀ : Heap) (L : Addr) (m : Str → Option Value) (rest : List (Addr × Obj)) (s : Shared) (Q E : Value → Shared → Prop),
    Below A₀ base outer h₀ → Fr h₀ L s.heap m → (hd.heap_39 w.params).In h₀ → News h₀ L s.heap (args ++ rest) → Top qv (looseW qv []) mean mg mb h₀ → cs.kind = .function →
    dp + k < recursionLimit → un + 8 * k < cLine → Ret h₀ L m (args ++ rest) s Q →
    wpAny (model prog w) (ktrTop dp un gd cn cs L a ccd cl outer) (call (.ref f) vs) Q E s

section
variable {h₀ h' : Heap} {L : Addr} {m : Str → Option Value} {news news' : List (Addr × Obj)} {s : Shared} {Q : Value → Shared → Prop} {tk' : Nat}
theorem endL {out out' : List Int} {D : Addr} {us : List Value} {c : Nat} (hret : RetL out h₀ L m news s Q) (F : Fr h₀ L h' m) (N : News h₀ L h' news') (hD : (D, listOf us.toArray c) ∈ news') (hs : ∀ p ∈ news, p ∈ news') (hl : AllLt D news) (hi : IntsAre us out') (e : out' = out) :
    Q (.ref D) { s with heap := h', toks := tk' } := by
  subst e
  refine hret D us c h' tk' F (fun p hp => ?_) hl hi
  rcases List.mem_cons.mp hp with rfl | hp
  · exact N _ hD
  · exact N p (hs p hp)
end
end
section
theorem digs_len {B : Int} (hB : 2 ≤ B) : ∀ (k : Nat) (x : Int), x < k → (digs B x).length ≤ x.toNat := by
  intro k
  induction k with
  | zero => intro x h; rw [digs_neg (by omega)]; simp
  | succ k ih =>
    intro x h
    by_cases hx : x ≤ 0
    · rw [digs_neg hx]; simp
    · have h1 := div_lt hB (show 0 < x by omega)
      have h2 := div_nn hB (show 0 ≤ x by omega)
      rw [digs_pos hB (by omega), List.length_cons]
      have := ih (x / B) (by omega)
      omega
theorem digs_len' {B x : Int} (hB : 2 ≤ B) : (digs B x).length ≤ x.toNat := digs_len hB (x.toNat + 1) x (by omega)
theorem two_le {wd : Int} (hw : 8 ≤ wd) : (2 : Int) ≤ 2 ^ wd.toNat := by
  obtain ⟨k, hk⟩ : ∃ k, wd.toNat = k + 1 := ⟨wd.toNat - 1, by omega⟩
  rw [hk, Int.pow_succ]
  have := kbt_pos k
  omega
theorem pw_lo {wd : Int} (hw : 8 ≤ wd) : (256 : Int) ≤ 2 ^ wd.toNat := by
  obtain ⟨k, hk⟩ : ∃ k, wd.toNat = 8 + k := ⟨wd.toNat - 8, by omega⟩
  rw [hk, Int.pow_add]
  have := kbt_pos k
  have e : (2 : Int) ^ 8 = 256 := by decide
  rw [e]
  omega
theorem pw_mono {a b : Nat} (h : a ≤ b) : (2 : Int) ^ a ≤ 2 ^ b := by
  obtain ⟨k, rfl⟩ : ∃ k, b = a + k := ⟨b - a, by omega⟩
  rw [Int.pow_add]
  have h1 := kbt_pos k
  have h2 := kbt_pos a
  have : (2 : Int) ^ a * 1 ≤ 2 ^ a * 2 ^ k := Int.mul_le_mul_of_nonneg_left (by omega) (by omega)
  omega
theorem pw_hi {wd : Int} (hw : wd ≤ 12) : (2 : Int) ^ wd.toNat ≤ 4096 := by
  have := pw_mono (show wd.toNat ≤ 12 by omega)
  have e : (2 : Int) ^ 12 = 4096 := by decide
  omega

/-! the digits from the end -/
theorem digs_drop {B : Int} (hB : 2 ≤ B) : ∀ (j : Nat) (x : Int), 0 ≤ x → (digs B x).drop j = digs B (x / B ^ j) := by
  intro j
  induction j with
  | zero => intro x _; simp
  | succ j ih =>
    intro x hx
    by_cases h : x ≤ 0
    · have : x = 0 := by omega
      subst this
      simp [digs_zero]
    · rw [digs_pos hB (by omega), List.drop_succ_cons, ih _ (div_nn hB hx), Int.pow_succ, Int.mul_comm (B ^ j), ← Int.ediv_ediv_of_nonneg (by omega)]
theorem pow_pos' {B : Int} (hB : 2 ≤ B) (j : Nat) : 0 < B ^ j := pow_pos_of (by omega) j
theorem digs_at {B x : Int} (hB : 2 ≤ B) (hx : 0 ≤ x) {j : Nat} (h : j < (digs B x).length) : (digs B x)[j] = (x / B ^ j) % B ∧ 0 < x / B ^ j := by
  have e := digs_drop hB j x hx
  rw [List.drop_eq_getElem_cons h] at e
  by_cases hp : 0 < x / B ^ j
  · rw [digs_pos hB hp] at e
    exact ⟨(List.cons.inj e).1, hp⟩
  · have e2 := digs_neg (B := B) (show x / B ^ j ≤ 0 by omega)
    rw [e2] at e
    cases e
theorem div_pow_succ {B x : Int} (hB : 2 ≤ B) (j : Nat) : x / B ^ (j + 1) = x / B ^ j / B := by
  rw [Int.pow_succ, ← Int.ediv_ediv_of_nonneg (Int.le_of_lt (pow_pos' hB j))]
theorem div_pow_le {B x : Int} (hB : 2 ≤ B) (hx : 0 ≤ x) (j : Nat) : 0 ≤ x / B ^ j ∧ x / B ^ j ≤ x :=
  ⟨Int.ediv_nonneg hx (Int.le_of_lt (pow_pos' hB j)), Int.ediv_le_self _ hx⟩
theorem div_len {B : Int} (hB : 2 ≤ B) (x : Int) (hx : 0 ≤ x) : x / B ^ (digs B x).length = 0 := by
  have e := digs_drop hB (digs B x).length x hx
  rw [List.drop_length] at e
  have q := (div_pow_le hB hx (digs B x).length).1
  by_cases hp : 0 < x / B ^ (digs B x).length
  · rw [digs_pos hB hp] at e; cases e
  · omega

structure ToldInv (B x : Int) (pre : List Int) (found : Int) : Prop where
  eq : found = x / B ^ ((digs B x).length - pre.length)
abbrev ToldP (B x : Int) (pre : List Int) (found : Int) : Prop := 0 ≤ found ∧ found < 16777216 ∧ ToldInv B x pre found
theorem told_start {B x : Int} (hB : 2 ≤ B) (h0 : 0 ≤ x) : ToldP B x [] 0 := ⟨by omega, by omega, ⟨by rw [List.length_nil, Nat.sub_zero, div_len hB x h0]⟩⟩
theorem told_step {B x found n : Int} {pre post : List Int} (hB : 2 ≤ B) (h0 : 0 ≤ x) (h1 : x < 16777216) (h : ToldInv B x pre found) (e : (digs B x).reverse = pre ++ n :: post) : ToldP B x (pre ++ [n]) (found * B + n) := by
  obtain ⟨hf⟩ := h
  have hl : (digs B x).length = pre.length + (post.length + 1) := by
    have := congrArg List.length e
    simpa using this
  have hj : post.length < (digs B x).length := by omega
  have hd : (digs B x) = post.reverse ++ n :: pre.reverse := by
    have := congrArg List.reverse e
    simpa using this
  have hn : (digs B x)[post.length] = n := by
    have : (post.reverse ++ n :: pre.reverse)[post.length]? = some n := by
      rw [List.getElem?_append_right (by simp)]
      simp
    rw [← hd, List.getElem?_eq_getElem hj] at this
    exact Option.some.inj this
  have hat := (digs_at hB h0 hj).1
  rw [hn] at hat
  have q : found * B + n = x / B ^ post.length := by
    rw [hf, show (digs B x).length - pre.length = post.length + 1 by omega, div_pow_succ hB, hat, Int.mul_comm]
    exact Int.mul_ediv_add_emod _ _
  have r := div_pow_le hB h0 post.length
  rw [q]
  refine ⟨r.1, by omega, ⟨?_⟩⟩
  rw [show (digs B x).length - (pre ++ [n]).length = post.length by simp; omega]
theorem told_end {B x found : Int} (h : ToldInv B x (digs B x).reverse found) : found = x := by
  rw [h.eq, List.length_reverse, Nat.sub_self]; simp
theorem endI {h₀ h' : Heap} {L : Addr} {m : Str → Option Value} {news news' : List (Addr × Obj)} {s : Shared} {Q : Value → Shared → Prop} {tk' : Nat} {x y : Int} {t : Tok} (hret : RetI x h₀ L m news s Q) (F : Fr h₀ L h' m) (N : News h₀ L h' news') (hs : ∀ p ∈ news, p ∈ news') (e : y = x) :
    Q (.int y t) { s with heap := h', toks := tk' } := by
  subst e
  exact hret t h' tk' F (fun p hp => N p (hs p hp))

/-! _law_limbs, nat_of -/
structure LimbsInv (B n₀ n : Int) (found : List Int) : Prop where
  eq : found ++ digs B n = digs B n₀
abbrev LimbsP (wd n₀ n : Int) (found : List Int) : Prop := 0 ≤ n ∧ n ≤ n₀ ∧ n₀ < 16777216 ∧ (found.length : Int) ≤ n₀ - n ∧ 8 ≤ wd ∧ wd ≤ 12 ∧ LimbsInv (2 ^ wd.toNat) n₀ n found
theorem limbs_start {wd n : Int} (h0 : 0 ≤ n) (h1 : n < 16777216) (hw : 8 ≤ wd) (hw' : wd ≤ 12) : LimbsP wd n n [] := ⟨h0, by omega, h1, by simp, hw, hw', ⟨rfl⟩⟩
theorem limbs_step {wd n₀ n : Int} {found : List Int} (h : LimbsP wd n₀ n found) (hp : 0 < n) : LimbsP wd n₀ (n.fdiv (2 ^ wd.toNat)) (found ++ [n.fmod (2 ^ wd.toNat)]) := by
  obtain ⟨h0, h1, h2, h3, h4, h5, ⟨e⟩⟩ := h
  have hB := two_le h4
  have q1 := div_lt hB hp
  have q2 := div_nn hB h0
  rw [Int.fdiv_eq_ediv_of_nonneg _ (by omega), Int.fmod_eq_emod_of_nonneg _ (by omega)]
  refine ⟨q2, by omega, h2, ?_, h4, h5, ⟨?_⟩⟩
  · simp only [List.length_append, List.length_cons, List.length_nil]; omega
  · rw [← e, digs_pos hB hp, List.append_assoc]; rfl
theorem limbs_stepM {wd n₀ n : Int} {found : List Int} (h : LimbsP wd n₀ n found) (hp : 0 < n) : LimbsP wd n₀ (n.fdiv (2 ^ wd.toNat)) (found ++ [Builtin.bitAnd n (1 * 2 ^ wd.toNat - 1)]) := by
  rw [Int.one_mul, kbt_maskF]
  exact limbs_step h hp
theorem limbs_end {B n₀ n : Int} {found : List Int} (h : LimbsInv B n₀ n found) (hp : ¬ 0 < n) : found = digs B n₀ := by
  rw [← h.eq, digs_neg (by omega), List.append_nil]
theorem fdiv_less {wd n : Int} (hw : 8 ≤ wd) (hp : 0 < n) : (n.fdiv (2 ^ wd.toNat)).toNat < n.toNat := by
  have hB := two_le hw
  have q1 := div_lt hB hp
  have q2 := div_nn hB (show 0 ≤ n by omega)
  rw [Int.fdiv_eq_ediv_of_nonneg _ (by omega)]
  omega
end
section
variable {prog : Program} {w : World} {mean : ExcName → Option Value} {mg mb : Str → Option Value}
theorem c_told (x wd : Int) (tw : Tok) (l : Addr) (us : List Value) (c : Nat) (hi : IntsAre us (digs (2 ^ wd.toNat) x)) (h0 : 0 ≤ x) (h1 : x < 16777216) (hw : 8 ≤ wd) (hw' : wd ≤ 12) : Ctr prog w mean mg mb 282 1 [(l, listOf us.toArray c)] [.ref l, .int wd tw] (RetI x) := by
  w_top off
  have hf : (hd.heap_39 = hd.heap_39) ∧ (PySem.Challenge.rw_xw0114_01 = PySem.Challenge.rw_xw0114_01) := by
    k_fill
    exact ⟨rfl, rfl⟩
  clear hf
  intro dp un gd cn cs a ccd cl outer A₀ base h₀ L m rest s Q E B F X N T hk hd hu hret
  simp only [List.nil_append, List.cons_append] at N hret
  have mk := kstMark
  have i0 : IntsAre [] [] := .nil
  have hB : (2 : Int) ≤ 2 ^ wd.toNat := two_le hw
  have hlo := pw_lo hw
  have hhi := pw_hi hw'
  have husx := hi.length
  have hdlx := digs_len' (x := x) hB
  k_with_none
  k_with "pyIter ref" => k_state (fun pre found => ToldP (2 ^ wd.toNat) x pre found) "found"
  k_with "state" => first | exact told_start hB h0 | exact told_step hB h0 h1 (by assumption) (by assumption)
  refine wpAny_call ?_
  k_dflt cell_enter
  k_steps
  · refine' endI (Q := Q) (s := s) hret ?e1 ?e2 ?e3 ?e4
    case e1 => assumption
    case e2 => assumption
    case e3 => (intro p hp; repeat (first | exact hp | apply List.Mem.tail))
    case e4 => exact told_end (by assumption)

end
section
variable {prog : Program} {w : World} {mean : ExcName → Option Value} {mg mb : Str → Option Value}
theorem c_limbs (n wd : Int) (tn tw : Tok) (h0 : 0 ≤ n) (h1 : n < 16777216) (hw : 8 ≤ wd) (hw' : wd ≤ 12) : Ctr prog w mean mg mb 275 1 [] [.int n tn, .int wd tw] (RetL (digs (2 ^ wd.toNat) n)) := by
  w_top off
  have hf : (hd.heap_39 = hd.heap_39) ∧ (PySem.Challenge.rw_xw0114_01 = PySem.Challenge.rw_xw0114_01) := by
    k_fill
    exact ⟨rfl, rfl⟩
  clear hf
  intro dp un gd cn cs a ccd cl outer A₀ base h₀ L m rest s Q E B F X N T hk hd hu hret
  simp only [List.nil_append, List.cons_append] at N hret
  have mk := kstMark
  have i0 : IntsAre [] [] := .nil
  k_with_none
  k_with "exec While Compare cons nil" => k_while_given ["w", "number!"] (fun wd n₀ _ n found => LimbsP wd n₀ n found) (fun _ _ _ n _ => n.toNat) "number" "found"
  k_with "state" => first | exact limbs_start (by assumption) (by assumption) (by assumption) (by assumption) | exact limbs_step ⟨by assumption, by assumption, by assumption, by assumption, by assumption, by assumption, by assumption⟩ (by assumption)
  k_with "measure" => exact fdiv_less (by assumption) (by assumption)
  refine wpAny_call ?_
  k_dflt cell_enter
  k_steps
  · refine' endL (Q := Q) (s := s) hret ?e1 ?e2 ?e3 ?e4 ?e5 ?e6 ?e7
    case e1 => assumption
    case e2 => assumption
    case e3 => k_mem
    case e4 => (intro p hp; repeat (first | exact hp | apply List.Mem.tail))
    case e5 => first | assumption | exact allLt_of (by assumption) | ((simp only [AllLt, and_true]); omega) | ((simp only [AllLt, and_true]); (try simp only [AllLt, and_true] at *); simp_all)
    case e6 => first | assumption | exact intsPush (by assumption)
    case e7 => exact limbs_end (by assumption) (by assumption)

end
section
variable {prog : Program} {w : World} {mean : ExcName → Option Value} {mg mb : Str → Option Value}
theorem c_natof (n wd : Int) (tn tw : Tok) (h0 : 0 ≤ n) (h1 : n < 16777216) (hw : 8 ≤ wd) (hw' : wd ≤ 12) : Ctr prog w mean mg mb 65 1 [] [.int n tn, .int wd tw] (RetL (digs (2 ^ wd.toNat) n)) := by
  w_top off
  have hf : (hd.heap_39 = hd.heap_39) ∧ (PySem.Challenge.rw_xw0114_01 = PySem.Challenge.rw_xw0114_01) := by
    k_fill
    exact ⟨rfl, rfl⟩
  clear hf
  intro dp un gd cn cs a ccd cl outer A₀ base h₀ L m rest s Q E B F X N T hk hd hu hret
  simp only [List.nil_append, List.cons_append] at N hret
  have mk := kstMark
  have i0 : IntsAre [] [] := .nil
  k_with_none
  k_with "exec While Compare cons nil" => k_while_given ["w", "number!"] (fun wd n₀ _ n found => LimbsP wd n₀ n found) (fun _ _ _ n _ => n.toNat) "number" "found"
  k_with "state" => first | exact limbs_start (by assumption) (by assumption) (by assumption) (by assumption) | exact limbs_stepM ⟨by assumption, by assumption, by assumption, by assumption, by assumption, by assumption, by assumption⟩ (by assumption)
  k_with "measure" => exact fdiv_less (by assumption) (by assumption)
  refine wpAny_call ?_
  k_dflt cell_enter
  k_steps
  · refine' endL (Q := Q) (s := s) hret ?e1 ?e2 ?e3 ?e4 ?e5 ?e6 ?e7
    case e1 => assumption
    case e2 => assumption
    case e3 => k_mem
    case e4 => (intro p hp; repeat (first | exact hp | apply List.Mem.tail))
    case e5 => first | assumption | exact allLt_of (by assumption) | ((simp only [AllLt, and_true]); omega) | ((simp only [AllLt, and_true]); (try simp only [AllLt, and_true] at *); simp_all)
    case e6 => first | assumption | exact intsPush (by assumption)
    case e7 => exact limbs_end (by assumption) (by assumption)

end
section
/-! sqrt_small -/
structure SqD (X d : Int) : Prop where
  ex : (∃ k : Nat, d = 4 ^ k) ∧ (d ≤ X ∨ d = 1)
abbrev SqDP (X d : Int) : Prop := 1 ≤ d ∧ d ≤ 16777216 ∧ SqD X d
theorem sqd_start {X : Int} : SqDP X 1 := ⟨by omega, by omega, ⟨⟨0, by simp⟩, .inr rfl⟩⟩
theorem sqd_step {X d : Int} (hX : X < 16777216) (h0 : 1 ≤ d) (h : SqD X d) (ht : d * 4 ≤ X) : SqDP X (d * 4) := by
  obtain ⟨⟨k, hk⟩, _⟩ := h
  exact ⟨by omega, by omega, ⟨⟨k + 1, by rw [hk, Int.pow_succ]⟩, .inl ht⟩⟩
structure SqI (X n found d : Int) : Prop where
  ex : ∃ Q h : Int, 0 ≤ Q ∧ 0 ≤ n ∧ X - n = Q * Q ∧ (((∃ k : Nat, h = 2 ^ k) ∧ d = h * h ∧ found = 2 * (Q * h) ∧ X < (Q + 2 * h) * (Q + 2 * h)) ∨ (d = 0 ∧ found = Q ∧ X < (Q + 1) * (Q + 1)))
abbrev SqIP (X n found d : Int) : Prop := 0 ≤ d ∧ d ≤ 16777216 ∧ 0 ≤ n ∧ n ≤ X ∧ SqI X n found d
theorem sq_add (a b : Int) : (a + b) * (a + b) = a * a + 2 * (a * b) + b * b := by
  rw [Int.add_mul, Int.mul_add, Int.mul_add, Int.mul_comm b a]; omega
theorem sqi_start {X d : Int} (h0 : 0 ≤ X) (h1 : 1 ≤ d) (h2 : d ≤ 16777216) (h : SqD X d) (ht : ¬ d * 4 ≤ X) : SqIP X X 0 d := by
  obtain ⟨⟨k, hk⟩, _⟩ := h
  have e : d = 2 ^ k * 2 ^ k := by
    rw [hk]
    have : (4 : Int) = 2 * 2 := rfl
    rw [this, Int.mul_pow]
  refine ⟨by omega, h2, h0, by omega, ⟨0, 2 ^ k, by omega, h0, by omega, .inl ⟨⟨k, rfl⟩, e, by simp, ?_⟩⟩⟩
  rw [sq_add, Int.zero_mul, Int.zero_mul]
  have : (2 * (2 : Int) ^ k) * (2 * 2 ^ k) = 4 * (2 ^ k * 2 ^ k) := by
    rw [Int.mul_assoc, Int.mul_left_comm (2 ^ k) 2, ← Int.mul_assoc]; rfl
  rw [this, ← e]
  omega
theorem fdiv2 (a : Int) : a.fdiv (2 ^ (1 : Int).toNat) = a / 2 := Int.fdiv_eq_ediv_of_nonneg _ (by decide)
theorem fdiv4 (a : Int) : a.fdiv (2 ^ (2 : Int).toNat) = a / 4 := Int.fdiv_eq_ediv_of_nonneg _ (by decide)
theorem hh4 (h : Int) : (h * 2) * (h * 2) = (h * h) * 4 := by
  rw [Int.mul_assoc, Int.mul_left_comm 2 h, ← Int.mul_assoc]; omega
theorem two_half {Y h p : Int} (e : h = p * 2) : 2 * (Y * p) = Y * h := by rw [e, ← Int.mul_assoc Y, Int.mul_comm 2]
theorem sqi_yes {X n found d : Int} (hd : 0 < d) (hd' : d ≤ 16777216) (hn : n ≤ X) (h : SqI X n found d) (ht : found + d ≤ n) : SqIP X (n - found - d) (found.fdiv (2 ^ (1 : Int).toNat) + d) (d.fdiv (2 ^ (2 : Int).toNat)) := by
  obtain ⟨Q, h, hQ, hn0, hX, hc⟩ := h
  rw [fdiv2, fdiv4]
  rcases hc with ⟨⟨k, hk⟩, hd1, hf, hl⟩ | ⟨h0, _⟩
  · have hh : 0 < h := by rw [hk]; exact kbt_pos k
    have hQh : 0 ≤ Q * h := Int.mul_nonneg hQ (by omega)
    have e1 := sq_add Q h
    refine ⟨by omega, by omega, by omega, by omega, ⟨Q + h, h / 2, by omega, by omega, by omega, ?_⟩⟩
    cases k with
    | zero =>
      have h1 : h = 1 := by rw [hk]; simp
      subst h1
      refine .inr ⟨by omega, by omega, ?_⟩
      have : Q + 1 + 1 = Q + 2 * 1 := by omega
      rw [this]
      exact hl
    | succ k =>
      have e2 : h = 2 ^ k * 2 := by rw [hk, Int.pow_succ]
      have e3 : h / 2 = 2 ^ k := by omega
      rw [e3]
      have e4 := hh4 (2 ^ k)
      rw [← e2] at e4
      refine .inl ⟨⟨k, rfl⟩, by omega, ?_, ?_⟩
      · have : 2 * ((Q + h) * 2 ^ k) = (Q + h) * h := two_half e2
        rw [this, Int.add_mul]
        omega
      · have : Q + h + 2 * 2 ^ k = Q + 2 * h := by omega
        rw [this]
        exact hl
  · omega
theorem sqi_no {X n found d : Int} (hd : 0 < d) (hd' : d ≤ 16777216) (hn : n ≤ X) (h : SqI X n found d) (ht : ¬ found + d ≤ n) : SqIP X n (found.fdiv (2 ^ (1 : Int).toNat)) (d.fdiv (2 ^ (2 : Int).toNat)) := by
  obtain ⟨Q, h, hQ, hn0, hX, hc⟩ := h
  rw [fdiv2, fdiv4]
  rcases hc with ⟨⟨k, hk⟩, hd1, hf, hl⟩ | ⟨h0, _⟩
  · have hh : 0 < h := by rw [hk]; exact kbt_pos k
    have hQh : 0 ≤ Q * h := Int.mul_nonneg hQ (by omega)
    have e1 := sq_add Q h
    refine ⟨by omega, by omega, by omega, by omega, ⟨Q, h / 2, by omega, by omega, by omega, ?_⟩⟩
    cases k with
    | zero =>
      have h1 : h = 1 := by rw [hk]; simp
      subst h1
      exact .inr ⟨by omega, by omega, by omega⟩
    | succ k =>
      have e2 : h = 2 ^ k * 2 := by rw [hk, Int.pow_succ]
      have e3 : h / 2 = 2 ^ k := by omega
      rw [e3]
      have e4 := hh4 (2 ^ k)
      rw [← e2] at e4
      have e5 : 2 * (Q * 2 ^ k) = Q * h := two_half e2
      refine .inl ⟨⟨k, rfl⟩, by omega, by omega, ?_⟩
      have : Q + 2 * 2 ^ k = Q + h := by omega
      rw [this]
      omega
  · omega
theorem sq_mono {a b : Int} (ha : 0 ≤ a) (h : a ≤ b) : a * a ≤ b * b := Int.mul_le_mul h h ha (by omega)
theorem sq_uniq {X a b : Int} (ha : 0 ≤ a) (hb : 0 ≤ b) (a1 : a * a ≤ X) (a2 : X < (a + 1) * (a + 1)) (b1 : b * b ≤ X) (b2 : X < (b + 1) * (b + 1)) : a = b := by
  by_cases h : a < b
  · have := sq_mono (show 0 ≤ a + 1 by omega) (show a + 1 ≤ b by omega); omega
  · by_cases h' : b < a
    · have := sq_mono (show 0 ≤ b + 1 by omega) (show b + 1 ≤ a by omega); omega
    · omega
theorem sqi_end {X n found d r : Int} (h : SqI X n found d) (hd : ¬ 0 < d) (hr0 : 0 ≤ r) (hr1 : r * r ≤ X) (hr2 : X < (r + 1) * (r + 1)) : found = r := by
  obtain ⟨Q, h, hQ, hn0, hX, hc⟩ := h
  rcases hc with ⟨⟨k, hk⟩, hd1, hf, hl⟩ | ⟨h0, hf, hl⟩
  · have hh : 0 < h := by rw [hk]; exact kbt_pos k
    have := Int.mul_pos hh hh
    omega
  · rw [hf]
    exact sq_uniq hQ hr0 (by omega) hl hr1 hr2
theorem quarter_less {d : Int} (h : 0 < d) : (d.fdiv (2 ^ (2 : Int).toNat)).toNat < d.toNat := by rw [fdiv4]; omega
end
section
variable {prog : Program} {w : World} {mean : ExcName → Option Value} {mg mb : Str → Option Value}
theorem c_small (x r : Int) (tn : Tok) (h0 : 0 ≤ x) (h1 : x < 16777216) (hr0 : 0 ≤ r) (hr1 : r * r ≤ x) (hr2 : x < (r + 1) * (r + 1)) : Ctr prog w mean mg mb 156 1 [] [.int x tn] (RetI r) := by
  w_top off
  have hf : (hd.heap_39 = hd.heap_39) ∧ (PySem.Challenge.rw_xw0114_01 = PySem.Challenge.rw_xw0114_01) := by
    k_fill
    exact ⟨rfl, rfl⟩
  clear hf
  intro dp un gd cn cs a ccd cl outer A₀ base h₀ L m rest s Q E B F X N T hk hd hu hret
  simp only [List.nil_append, List.cons_append] at N hret
  have mk := kstMark
  have i0 : IntsAre [] [] := .nil
  k_with_none
  k_with "exec While Compare cons nil" => k_while (fun _ d => SqDP x d) (fun _ d => (20000000 - d).toNat) "digit"
  k_with "exec While Compare cons nil" => k_while (fun _ n found d => SqIP x n found d) (fun _ _ _ d => d.toNat) "n" "found" "digit"
  k_with "state" => first | exact sqd_start | exact sqd_step (by assumption) (by assumption) (by assumption) (by assumption) | exact sqi_start h0 (by assumption) (by assumption) (by assumption) (by assumption) | exact sqi_yes (by assumption) (by assumption) (by assumption) (by assumption) (by assumption) | exact sqi_no (by assumption) (by assumption) (by assumption) (by assumption) (by assumption)
  k_with "measure" => first | exact quarter_less (by assumption) | omega
  refine wpAny_call ?_
  k_dflt cell_enter
  k_steps
  · refine' endI (Q := Q) (s := s) hret ?e1 ?e2 ?e3 ?e4
    case e1 => assumption
    case e2 => assumption
    case e3 => (intro p hp; repeat (first | exact hp | apply List.Mem.tail))
    case e4 => exact sqi_end (by assumption) (by assumption) hr0 hr1 hr2

end
section
/-! normal -/
def normL : List Int → List Int
  | [] => []
  | n :: r => if normL r = [] ∧ n = 0 then [] else n :: normL r
theorem normL_snoc0 (l : List Int) : normL (l ++ [0]) = normL l := by
  induction l with
  | nil => simp [normL]
  | cons n r ih => simp only [List.cons_append, normL, ih]
theorem normL_snoc (l : List Int) {v : Int} (h : v ≠ 0) : normL (l ++ [v]) = l ++ [v] := by
  induction l with
  | nil => simp [normL, h]
  | cons n r ih =>
    simp only [List.cons_append, normL, ih]
    rw [if_neg]
    rintro ⟨q, _⟩
    simp at q
structure NormInv (ns : List Int) (e : Int) : Prop where
  eq : normL (ns.take e.toNat) = normL ns
abbrev NormP (ns : List Int) (e : Int) : Prop := 0 ≤ e ∧ e ≤ ns.length ∧ NormInv ns e
theorem norm_start {ns : List Int} {e : Int} (h : e = ns.length) : NormP ns e := ⟨by omega, by omega, ⟨by rw [h, Int.toNat_natCast, List.take_length]⟩⟩
theorem take_pred {ns : List Int} {e : Int} (h0 : 0 < e) (h1 : e ≤ ns.length) : ns.take e.toNat = ns.take (e - 1).toNat ++ [ns.getD (e - 1).toNat 0] := by
  obtain ⟨k, hk⟩ : ∃ k : Nat, e = k + 1 := ⟨(e - 1).toNat, by omega⟩
  subst hk
  have e1 : ((k : Int) + 1).toNat = k + 1 := by omega
  have e2 : ((k : Int) + 1 - 1).toNat = k := by omega
  rw [e1, e2, List.take_add_one]
  have hk : k < ns.length := by omega
  simp [List.getD, hk]
theorem norm_step {ns : List Int} {e : Int} (h0 : 0 < e) (h1 : e ≤ ns.length) (h : NormInv ns e) (hz : ns.getD (e - 1).toNat 0 = 0) : NormP ns (e - 1) := by
  refine ⟨by omega, by omega, ⟨?_⟩⟩
  have q := h.eq
  rw [take_pred h0 h1, hz, normL_snoc0] at q
  exact q
theorem norm_end0 {ns : List Int} {e : Int} (h : NormInv ns e) (h0 : ¬ 0 < e) : ns.take e.toNat = normL ns := by
  have : e.toNat = 0 := by omega
  have q := h.eq
  rw [this, List.take_zero] at q ⊢
  exact q
theorem norm_end1 {ns : List Int} {e : Int} (h0 : 0 < e) (h1 : e ≤ ns.length) (h : NormInv ns e) (hz : ¬ ns.getD (e - 1).toNat 0 = 0) : ns.take e.toNat = normL ns := by
  have q := h.eq
  rw [take_pred h0 h1, normL_snoc _ hz, ← take_pred h0 h1] at q
  exact q
/-- the value of a row of limbs -/
def val (B : Int) : List Int → Int
  | [] => 0
  | n :: r => n + B * val B r
theorem val_nn {B : Int} (hB : 2 ≤ B) : ∀ {ns : List Int}, (∀ v ∈ ns, 0 ≤ v ∧ v < B) → 0 ≤ val B ns
  | [], _ => by simp [val]
  | n :: r, h => by
    have h1 := h n (.head _)
    have h2 := val_nn hB (ns := r) fun v hv => h v (.tail _ hv)
    have := Int.mul_nonneg (show 0 ≤ B by omega) h2
    simp only [val]
    omega
theorem digs_mk {B n v : Int} (hB : 2 ≤ B) (h0 : 0 ≤ n) (h1 : n < B) (hv : 0 ≤ v) (hp : 0 < n ∨ 0 < v) : digs B (n + B * v) = n :: digs B v := by
  have hm := Int.mul_nonneg (show 0 ≤ B by omega) hv
  have hp' : 0 < n + B * v := by
    rcases hp with h | h
    · omega
    · have := Int.mul_pos (show 0 < B by omega) h
      omega
  rw [digs_pos hB hp', Int.add_mul_emod_self_left, Int.emod_eq_of_lt h0 h1, Int.add_mul_ediv_left _ _ (by omega), Int.ediv_eq_zero_of_lt h0 h1, Int.zero_add]
theorem normL_digs {B : Int} (hB : 2 ≤ B) : ∀ {ns : List Int}, (∀ v ∈ ns, 0 ≤ v ∧ v < B) → normL ns = digs B (val B ns)
  | [], _ => by simp [normL, val, digs_zero]
  | n :: r, h => by
    have h1 := h n (.head _)
    have h2 := val_nn hB (ns := r) fun v hv => h v (.tail _ hv)
    have ih := normL_digs hB (ns := r) fun v hv => h v (.tail _ hv)
    simp only [normL, val]
    rw [ih]
    by_cases hv : val B r = 0
    · rw [hv]
      by_cases hn : n = 0
      · subst hn; simp [digs_zero]
      · rw [if_neg (fun q => hn q.2), digs_mk hB h1.1 h1.2 (by omega) (.inl (by omega))]
    · rw [if_neg (fun q => ?_), digs_mk hB h1.1 h1.2 h2 (.inr (by omega))]
      rw [digs_pos hB (by omega)] at q
      cases q.1
end
section
variable {prog : Program} {w : World} {mean : ExcName → Option Value} {mg mb : Str → Option Value}
theorem c_norm (ns : List Int) (l : Addr) (us : List Value) (c : Nat) (hi : IntsAre us ns) (hn : ns.length < 1000) : Ctr prog w mean mg mb 58 1 [(l, listOf us.toArray c)] [.ref l] (RetL (normL ns)) := by
  w_top off
  have hf : (hd.heap_39 = hd.heap_39) ∧ (PySem.Challenge.rw_xw0114_01 = PySem.Challenge.rw_xw0114_01) := by
    k_fill
    exact ⟨rfl, rfl⟩
  clear hf
  intro dp un gd cn cs a ccd cl outer A₀ base h₀ L m rest s Q E B F X N T hk hd hu hret
  simp only [List.nil_append, List.cons_append] at N hret
  have mk := kstMark
  have i0 : IntsAre [] [] := .nil
  have hus := hi.length
  k_with_none
  k_with "exec While BoolOp cons nil" => k_while (fun _ e => NormP ns e) (fun _ e => e.toNat) "end"
  k_with "state" => first | exact norm_start rfl | exact norm_step (by assumption) (by assumption) (by assumption) (by assumption)
  refine wpAny_call ?_
  k_dflt cell_enter
  k_steps
  · refine' endL (Q := Q) (s := s) hret ?e1 ?e2 ?e3 ?e4 ?e5 ?e6 ?e7
    case e1 => assumption
    case e2 => assumption
    case e3 => k_mem
    case e4 => (intro p hp; repeat (first | exact hp | apply List.Mem.tail))
    case e5 => first | assumption | exact allLt_of (by assumption) | ((simp only [AllLt, and_true]); omega) | ((simp only [AllLt, and_true]); (try simp only [AllLt, and_true] at *); simp_all)
    case e6 => first | assumption | exact intsPush (by assumption)
    case e7 => first | exact norm_end0 (by assumption) (by assumption) | exact norm_end1 (by assumption) (by assumption) (by assumption) (by assumption)
  · refine' endL (Q := Q) (s := s) hret ?e1 ?e2 ?e3 ?e4 ?e5 ?e6 ?e7
    case e1 => assumption
    case e2 => assumption
    case e3 => k_mem
    case e4 => (intro p hp; repeat (first | exact hp | apply List.Mem.tail))
    case e5 => first | assumption | exact allLt_of (by assumption) | ((simp only [AllLt, and_true]); omega) | ((simp only [AllLt, and_true]); (try simp only [AllLt, and_true] at *); simp_all)
    case e6 => first | assumption | exact intsPush (by assumption)
    case e7 => first | exact norm_end0 (by assumption) (by assumption) | exact norm_end1 (by assumption) (by assumption) (by assumption) (by assumption)

end
section
section
variable {prog : Program} {w : World} {A : Around} {E : Value → Shared → Prop} {s : Shared} {Q : Value → Shared → Prop} {a b q : Int} {t u : Tok}
theorem fd_is (e : a.fdiv b = q) (h0 : 0 < b) (h1 : b < 1000) (h : Q (.int q s.toks) { s with toks := s.toks + 1 }) : wpAny (model prog w) A (binaryOp .FloorDiv (.int a t) (.int b u)) Q E s := by
  subst e
  exact floordiv_int (by omega) h (.inl (PyProof.noPylong_small (by omega)))
theorem fm_is (e : a.fmod b = q) (h0 : 0 < b) (h : Q (.int q s.toks) { s with toks := s.toks + 1 }) : wpAny (model prog w) A (binaryOp .Mod (.int a t) (.int b u)) Q E s := by
  subst e
  exact mod_int' (by omega) h
theorem ls_is (ha : 0 ≤ a ∧ a < 16777216) (h0 : 0 ≤ b) (h1 : b < 100) (h : Q (.int (a * 2 ^ b.toNat) s.toks) { s with toks := s.toks + 1 }) : wpAny (model prog w) A (binaryOp .LShift (.int a t) (.int b u)) Q E s :=
  lshift_int h0 (by
    have := PySem.intBits_le_64 (k := a) (by omega) (by omega)
    have e : (2 : Int) ^ 27 = 134217728 := by decide
    rw [e]
    omega) h
end
theorem limb_bnd {B x v : Int} (hB : 2 ≤ B) (hx : 0 ≤ x) (hv : v ∈ digs B x) : 0 ≤ v ∧ v < B := by
  obtain ⟨j, hj, rfl⟩ := List.getElem_of_mem hv
  rw [(digs_at hB hx hj).1]
  exact ⟨Int.emod_nonneg _ (by omega), Int.emod_lt_of_pos _ (by omega)⟩
theorem limb_small {wd x v : Int} (hv : v ∈ digs (2 ^ wd.toNat) x) (hw : 8 ≤ wd) (hw' : wd ≤ 12) (hx : 0 ≤ x) : 0 ≤ v ∧ v < 16777216 := by
  have h := limb_bnd (two_le hw) hx hv
  have := pw_hi hw'
  omega
theorem or_add {c n : Int} {k : Nat} (h0 : 0 ≤ c) (h1 : c < 2 ^ k) (hn : 0 ≤ n) : Builtin.bitOr c (n * 2 ^ k) = c + n * 2 ^ k := by
  have hp := kbt_pos k
  have hm := Int.mul_nonneg hn (Int.le_of_lt hp)
  rw [bitOr_and]
  have : Builtin.bitAnd c (n * 2 ^ k) = 0 := by
    rw [bitAnd_pp h0 hm]
    have e1 : (n * 2 ^ k).toNat = 2 ^ k * n.toNat := by
      have hc := kbt_cast k
      have : ((2 ^ k * n.toNat : Nat) : Int) = n * 2 ^ k := by
        rw [Int.natCast_mul, hc, Int.toNat_of_nonneg hn, Int.mul_comm]
      omega
    have e2 : c.toNat < 2 ^ k := by
      have hc := kbt_cast k
      omega
    have e3 := nat_or_add_and (2 ^ k * n.toNat) c.toNat
    rw [← Nat.two_pow_add_eq_or_of_lt e2, Nat.and_comm] at e3
    rw [e1]
    omega
  rw [this]
  omega
structure ShlInv (B F q x : Int) (pre : List Int) (carry : Int) (found : List Int) : Prop where
  eq : found ++ digs B (carry + x / B ^ pre.length * F) = List.replicate q.toNat 0 ++ digs B (x * F)
abbrev ShlP (B F q x : Int) (pre : List Int) (carry : Int) (found : List Int) : Prop := 0 ≤ carry ∧ carry < F ∧ (found.length : Int) = q + pre.length ∧ ShlInv B F q x pre carry found
theorem shl_start0 {B x : Int} {k : Nat} : ShlP B (2 ^ k) 0 x [] 0 [] := ⟨by omega, kbt_pos k, by simp, ⟨by simp⟩⟩
theorem shl_start1 {B x : Int} {k : Nat} : ShlP B (2 ^ k) 1 x [] 0 [0] := ⟨by omega, kbt_pos k, by simp, ⟨by simp⟩⟩
theorem shl_step {q x n carry : Int} {k wn : Nat} {pre post found : List Int} (hB : (2 : Int) ≤ 2 ^ wn) (hx : 0 ≤ x) (h0 : 0 ≤ carry) (h1 : carry < 2 ^ k) (hl : (found.length : Int) = q + pre.length) (h : ShlInv (2 ^ wn) (2 ^ k) q x pre carry found) (e : digs (2 ^ wn) x = pre ++ n :: post) :
    ShlP (2 ^ wn) (2 ^ k) q x (pre ++ [n]) ((Builtin.bitOr carry (n * 2 ^ k)).fdiv (2 ^ wn)) (found ++ [Builtin.bitAnd (Builtin.bitOr carry (n * 2 ^ k)) (1 * 2 ^ wn - 1)]) := by
  have hp := kbt_pos k
  have hj : pre.length < (digs (2 ^ wn) x).length := by rw [e]; simp
  have hat := digs_at hB hx hj
  have hn : (digs ((2 : Int) ^ wn) x)[pre.length] = n := by simp [e]
  rw [hn] at hat
  have hnb := limb_bnd hB hx (show n ∈ digs (2 ^ wn) x by rw [e]; simp)
  rw [or_add h0 h1 hnb.1, Int.one_mul, kbt_maskF, Int.fdiv_eq_ediv_of_nonneg _ (by omega), Int.fmod_eq_emod_of_nonneg _ (by omega)]
  generalize hBe : (2 : Int) ^ wn = B at *
  have hnF := Int.mul_nonneg hnb.1 (Int.le_of_lt hp)
  have hlt : carry + n * 2 ^ k < B * 2 ^ k := by
    have : (n + 1) * 2 ^ k ≤ B * 2 ^ k := Int.mul_le_mul_of_nonneg_right (by omega) (by omega)
    rw [Int.add_mul] at this
    omega
  refine ⟨Int.ediv_nonneg (by omega) (by omega), Int.ediv_lt_of_lt_mul (by omega) (by rw [Int.mul_comm (2 ^ k) B]; exact hlt), by simp; omega, ⟨?_⟩⟩
  rw [← h.eq, List.append_assoc]
  congr 1
  have hy : x / B ^ pre.length = n + B * (x / B ^ (pre.length + 1)) := by
    rw [div_pow_succ hB, hat.1, Int.add_comm]
    exact (Int.mul_ediv_add_emod _ _).symm
  have hy' := (div_pow_le hB hx (pre.length + 1)).1
  have e3 : carry + x / B ^ pre.length * 2 ^ k = (carry + n * 2 ^ k) + B * (x / B ^ (pre.length + 1) * 2 ^ k) := by
    rw [hy, Int.add_mul, Int.mul_assoc]; omega
  have hpos : 0 < carry + x / B ^ pre.length * 2 ^ k := by
    have := Int.mul_pos hat.2 hp
    omega
  rw [digs_pos hB hpos, e3, Int.add_mul_emod_self_left, Int.add_mul_ediv_left _ _ (by omega), List.length_append]
  rfl
theorem pw_split {n wd q few : Int} (hw : 0 < wd) (hn : 0 ≤ n) (hq : n.fdiv wd = q) (hf : n.fmod wd = few) (h : q = 0 ∨ q = 1) : (2 : Int) ^ n.toNat = 2 ^ few.toNat * (2 ^ wd.toNat) ^ q.toNat := by
  rw [Int.fdiv_eq_ediv_of_nonneg _ (by omega)] at hq
  rw [Int.fmod_eq_emod_of_nonneg _ (by omega)] at hf
  have e := Int.mul_ediv_add_emod n wd
  have e2 := Int.emod_nonneg n (show wd ≠ 0 by omega)
  rw [hq, hf] at e
  rcases h with rfl | rfl
  · rw [show n.toNat = few.toNat by omega]; simp
  · rw [show n.toNat = few.toNat + wd.toNat by omega, Int.pow_add, Int.toNat_one, Int.pow_one]
theorem digs_shift1 {B v : Int} (hB : 2 ≤ B) (hv : 0 < v) : digs B (v * B) = 0 :: digs B v := by
  have := digs_mk hB (show (0 : Int) ≤ 0 by omega) (by omega) (Int.le_of_lt hv) (.inr hv)
  rw [Int.zero_add, Int.mul_comm] at this
  exact this
theorem shl_out {n wd q few x : Int} (hw : 8 ≤ wd) (hn : 0 ≤ n) (hx : 0 < x) (hq : n.fdiv wd = q) (hf : n.fmod wd = few) (h : q = 0 ∨ q = 1) : List.replicate q.toNat 0 ++ digs (2 ^ wd.toNat) (x * 2 ^ few.toNat) = digs (2 ^ wd.toNat) (x * 2 ^ n.toNat) := by
  rw [pw_split (by omega) hn hq hf h]
  rcases h with h | h
  · rw [h]; simp
  · have hp := Int.mul_pos hx (kbt_pos few.toNat)
    rw [h, ← Int.mul_assoc]
    simp only [Int.toNat_one, Int.pow_succ, Int.pow_zero, Int.one_mul]
    rw [digs_shift1 (two_le hw) hp]
    rfl
theorem shl_endA {B F q x carry : Int} {found : List Int} (hB : 2 ≤ B) (hx : 0 ≤ x) (h0 : 0 ≤ carry) (h : ShlInv B F q x (digs B x) carry found) (hc : ¬ 0 < carry) : found = List.replicate q.toNat 0 ++ digs B (x * F) := by
  rw [← h.eq, div_len hB x hx, Int.zero_mul, Int.add_zero, digs_neg (by omega), List.append_nil]
theorem shl_endB {B F q x carry : Int} {found : List Int} (hB : 2 ≤ B) (hx : 0 ≤ x) (h1 : carry < F) (hF : F ≤ B) (h : ShlInv B F q x (digs B x) carry found) (hc : 0 < carry) : found ++ [carry] = List.replicate q.toNat 0 ++ digs B (x * F) := by
  rw [← h.eq, div_len hB x hx, Int.zero_mul, Int.add_zero, digs_one hB hc (by omega)]
theorem digs_ne {B x : Int} (hB : 2 ≤ B) (hx : 0 < x) : 1 ≤ (digs B x).length := by rw [digs_pos hB hx]; simp
theorem flat_rep (k : Nat) : (List.replicate k [(0 : Int)]).flatten = List.replicate k 0 := by
  induction k with
  | zero => rfl
  | succ k ih => rw [List.replicate_succ, List.flatten_cons, ih, List.replicate_succ]; rfl
theorem shl_start {B x q : Int} {k : Nat} (hq : 0 ≤ q) : ShlP B (2 ^ k) q x [] 0 (List.replicate q.toNat [0]).flatten := by
  rw [flat_rep]
  exact ⟨by omega, kbt_pos k, by simp; omega, ⟨by simp⟩⟩
theorem intsPush {us : List Value} {ns : List Int} {x : Int} {t : Tok} (h : IntsAre us ns) : IntsAre (us.toArray.toList.concat (.int x t)) (ns ++ [x]) := by
  rw [List.concat_eq_append]
  exact h.append (.cons _ _ .nil)
end
section
variable {prog : Program} {w : World} {mean : ExcName → Option Value} {mg mb : Str → Option Value}

local macro_rules | `(tactic| walk_at "binaryOp FloorDiv int int") => `(tactic| (k_here; (with_reducible refine' fd_is ?e9 ?h9 ?g9 ?_); (case e9 => with_reducible assumption); (case h9 => omega); (case g9 => omega)))
local macro_rules | `(tactic| walk_at "binaryOp Mod int int") => `(tactic| (k_here; (with_reducible refine' fm_is ?e9 ?h9 ?_); (case e9 => with_reducible assumption); (case h9 => omega)))
local macro_rules | `(tactic| walk_at "binaryOp LShift int int") => `(tactic| (k_here; (with_reducible refine ls_is ?e9 ?h9 ?g9 ?_); (case e9 => first | exact ⟨by omega, by omega⟩ | exact limb_small (by assumption) (by assumption) (by assumption) (by assumption)); (case h9 => omega); (case g9 => omega)))
local macro_rules | `(tactic| walk_at "call ref") => `(tactic| (k_extra "call ref"))
local macro_rules | `(tactic| k_room) => `(tactic| first | ((try dsimp only [ktrTop, Around.deeper]); omega) | ktr_room)
theorem c_shl (x n wd : Int) (tn tw : Tok) (l : Addr) (us : List Value) (c : Nat) (hi : IntsAre us (digs (2 ^ wd.toNat) x)) (h0 : 0 ≤ x) (hx : 0 < x) (h1 : x < 16777216) (hn : 0 ≤ n) (hf0 : 0 ≤ n.fmod wd) (hf1 : n.fmod wd < wd) (hq01 : n.fdiv wd = 0 ∨ n.fdiv wd = 1) (hw : 8 ≤ wd) (hw' : wd ≤ 12) : Ctr prog w mean mg mb 114 1 [(l, listOf us.toArray c)] [.ref l, .int n tn, .int wd tw] (RetL (digs (2 ^ wd.toNat) (x * 2 ^ n.toNat))) := by
  w_top off
  have hf : (hd.heap_39 = hd.heap_39) ∧ (PySem.Challenge.rw_xw0114_01 = PySem.Challenge.rw_xw0114_01) := by
    k_fill
    exact ⟨rfl, rfl⟩
  clear hf
  intro dp un gd cn cs a ccd cl outer A₀ base h₀ L m rest s Q E B F X N T hk hd hu hret
  simp only [List.nil_append, List.cons_append] at N hret
  have mk := kstMark
  have i0 : IntsAre [] [] := .nil
  have hB : (2 : Int) ≤ 2 ^ wd.toNat := two_le hw
  have hlo := pw_lo hw
  have hhi := pw_hi hw'
  have husx := hi.length
  have hdlx := digs_len' (x := x) hB
  have hne := digs_ne hB hx
  have hout := shl_out hw hn hx rfl rfl hq01
  have hF := pw_mono (show (n.fmod wd).toNat ≤ wd.toNat by omega)
  have hq0 : 0 ≤ n.fdiv wd := by omega
  k_with_none
  k_with "pyIter ref" => k_state (fun pre carry found => ShlP (2 ^ wd.toNat) (2 ^ (n.fmod wd).toNat) (n.fdiv wd) x pre carry found) "carry" "found"
  k_with "state" => first | exact shl_start hq0 | exact shl_step hB h0 (by assumption) (by assumption) (by assumption) (by assumption) (by assumption)
  refine wpAny_call ?_
  k_dflt cell_enter
  k_steps
  · exfalso; omega
  · refine' endL (Q := Q) (s := s) hret ?e1 ?e2 ?e3 ?e4 ?e5 ?e6 ?e7
    case e1 => assumption
    case e2 => assumption
    case e3 => k_mem
    case e4 => (intro p hp; repeat (first | exact hp | apply List.Mem.tail))
    case e5 => first | assumption | exact allLt_of (by assumption) | ((simp only [AllLt, and_true]); omega) | ((simp only [AllLt, and_true]); (try simp only [AllLt, and_true] at *); simp_all)
    case e6 => first | assumption | exact intsPush (by assumption)
    case e7 => exact (shl_endB hB h0 (by assumption) hF (by assumption) (by assumption)).trans hout
  · refine' endL (Q := Q) (s := s) hret ?e1 ?e2 ?e3 ?e4 ?e5 ?e6 ?e7
    case e1 => assumption
    case e2 => assumption
    case e3 => k_mem
    case e4 => (intro p hp; repeat (first | exact hp | apply List.Mem.tail))
    case e5 => first | assumption | exact allLt_of (by assumption) | ((simp only [AllLt, and_true]); omega) | ((simp only [AllLt, and_true]); (try simp only [AllLt, and_true] at *); simp_all)
    case e6 => first | assumption | exact intsPush (by assumption)
    case e7 => exact (shl_endA hB h0 (by assumption) (by assumption) (by assumption)).trans hout

end
section
/-- a contract at a ledger that holds one more object -/
abbrev CtrO (prog : Program) (w : World) (mean : ExcName → Option Value) (mg mb : Str → Option Value) (f : Addr) (k : Nat) (args : List (Addr × Obj)) (vs : List Value)
    (Ret : Heap → Addr → (Str → Option Value) → List (Addr × Obj) → Shared → (Value → Shared → Prop) → Prop) : Prop :=
  ∀ (dp un : Nat) (gd : Option (List Code)) (cn : Str) (cs : Scope) (a : Addr) (ccd : Value) (cl : List (Str × Addr)) (outer : List Env) (A₀ : Around) (base h₀ : Heap) (L : Addr) (m : Str → Option Value) (d : Addr) (o : Obj) (s : Shared) (Q E : Value → Shared → Prop),
    Below A₀ base outer h₀ → Fr h₀ L s.heap m → (hd.heap_39 w.params).In h₀ → News h₀ L s.heap (args ++ [(d, o)]) → Top qv (looseW qv []) mean mg mb h₀ → cs.kind = .function →
    dp + k < recursionLimit → un + 8 * k < cLine → Ret h₀ L m (args ++ [(d, o)]) s Q →
    wpAny (model prog w) (ktrTop dp un gd cn cs L a ccd cl outer) (call (.ref f) vs) Q E s
theorem allLt_get {d : Addr} : ∀ {l : List (Addr × Obj)}, AllLt d l → ∀ p ∈ l, p.1 < d
  | [], _, _, hp => (nomatch hp)
  | q :: r, h, p, hp => by
    rcases List.mem_cons.mp hp with rfl | hp
    · exact h.1
    · exact allLt_get h.2 p hp
section
variable {prog : Program} {w : World} {mean : ExcName → Option Value} {mg mb : Str → Option Value} {f : Addr} {k : Nat} {args : List (Addr × Obj)} {vs : List Value}
theorem liftL {out : List Int} (hne : args ≠ []) (C : CtrO prog w mean mg mb f k args vs (RetL out)) : Ctr prog w mean mg mb f k args vs (RetL out) := by
  intro dp un gd cn cs a ccd cl outer A₀ base h₀ L m rest s Q E B F X N T hk hd hu hret
  let R : (Addr × Obj) → Value → Shared → Prop := fun p v s' => ∃ (D : Addr) (us : List Value) (c : Nat) (h' : Heap) (tk' : Nat), v = .ref D ∧ s' = { s with heap := h', toks := tk' } ∧ Fr h₀ L h' m ∧ News h₀ L h' ((D, listOf us.toArray c) :: (args ++ [p])) ∧ AllLt D (args ++ [p]) ∧ IntsAre us out
  have one : ∀ p ∈ args ++ rest, wpAny (model prog w) (ktrTop dp un gd cn cs L a ccd cl outer) (call (.ref f) vs) (R p) E s := by
    rintro ⟨d, o⟩ hp
    refine C dp un gd cn cs a ccd cl outer A₀ base h₀ L m d o s (R (d, o)) E B F X (fun q hq => N q ?_) T hk hd hu ?_
    · rcases List.mem_append.mp hq with hq | hq
      · exact List.mem_append.mpr (.inl hq)
      · rw [List.mem_singleton.mp hq]; exact hp
    · intro D us c h' tk' F' N' hl hi
      exact ⟨D, us, c, h', tk', rfl, rfl, F', N', hl, hi⟩
  obtain ⟨p₀, hp₀⟩ : ∃ p₀, p₀ ∈ args ++ rest := by
    cases args with
    | nil => exact absurd rfl hne
    | cons p r => exact ⟨p, .head _⟩
  refine wpAny_mono (wpAny_all (one p₀ hp₀) (args ++ rest) one) (fun v s' q => ?_) fun _ _ e => e
  obtain ⟨⟨D, us, c, h', tk', rfl, rfl, F', N', hl, hi⟩, q⟩ := q
  have all : ∀ p ∈ args ++ rest, h'.get? p.1 = some p.2 ∧ p.1 < D := by
    intro p hp
    obtain ⟨D', us', c', h'', tk'', e1, e2, F'', N'', hl', hi'⟩ := q p hp
    cases e1
    have e3 : h' = h'' := congrArg Shared.heap e2
    subst e3
    exact ⟨(N'' p (.tail _ (List.mem_append.mpr (.inr (.head _))))).1, allLt_get hl' p (List.mem_append.mpr (.inr (.head _)))⟩
  refine hret D us c h' tk' F' (fun p hp => ?_) (allLt_of fun p hp => (all p hp).2) hi
  rcases List.mem_cons.mp hp with rfl | hp
  · exact N' _ (.head _)
  · exact ⟨(all p hp).1, (N p hp).2⟩
theorem liftI {x : Int} (hne : args ≠ []) (C : CtrO prog w mean mg mb f k args vs (RetI x)) : Ctr prog w mean mg mb f k args vs (RetI x) := by
  intro dp un gd cn cs a ccd cl outer A₀ base h₀ L m rest s Q E B F X N T hk hd hu hret
  let R : (Addr × Obj) → Value → Shared → Prop := fun p v s' => ∃ (t : Tok) (h' : Heap) (tk' : Nat), v = .int x t ∧ s' = { s with heap := h', toks := tk' } ∧ Fr h₀ L h' m ∧ News h₀ L h' (args ++ [p])
  have one : ∀ p ∈ args ++ rest, wpAny (model prog w) (ktrTop dp un gd cn cs L a ccd cl outer) (call (.ref f) vs) (R p) E s := by
    rintro ⟨d, o⟩ hp
    refine C dp un gd cn cs a ccd cl outer A₀ base h₀ L m d o s (R (d, o)) E B F X (fun q hq => N q ?_) T hk hd hu ?_
    · rcases List.mem_append.mp hq with hq | hq
      · exact List.mem_append.mpr (.inl hq)
      · rw [List.mem_singleton.mp hq]; exact hp
    · intro t h' tk' F' N'
      exact ⟨t, h', tk', rfl, rfl, F', N'⟩
  obtain ⟨p₀, hp₀⟩ : ∃ p₀, p₀ ∈ args ++ rest := by
    cases args with
    | nil => exact absurd rfl hne
    | cons p r => exact ⟨p, .head _⟩
  refine wpAny_mono (wpAny_all (one p₀ hp₀) (args ++ rest) one) (fun v s' q => ?_) fun _ _ e => e
  obtain ⟨⟨t, h', tk', rfl, rfl, F', N'⟩, q⟩ := q
  refine hret t h' tk' F' fun p hp => ?_
  obtain ⟨t', h'', tk'', e1, e2, F'', N''⟩ := q p hp
  have e3 : h' = h'' := congrArg Shared.heap e2
  subst e3
  exact ⟨(N'' p (List.mem_append.mpr (.inr (.head _)))).1, (N p hp).2⟩
end
end
section
section
variable {prog : Program} {w : World} {mean : ExcName → Option Value} {mg mb : Str → Option Value} {f : Addr} {k : Nat} {args : List (Addr × Obj)} {vs : List Value}
variable {dp un : Nat} {gd : Option (List Code)} {cn : Str} {cs : Scope} {a : Addr} {ccd : Value} {cl : List (Str × Addr)} {outer : List Env} {A₀ : Around} {base h₀ : Heap} {L : Addr} {m : Str → Option Value} {news : List (Addr × Obj)} {s : Shared} {Q E : Value → Shared → Prop}
theorem allLt_app {D : Addr} : ∀ {l r : List (Addr × Obj)}, AllLt D (l ++ r) → AllLt D r
  | [], _, h => h
  | _ :: _, _, h => allLt_app h.2
theorem news_args {h : Heap} (N : News h₀ L h news) (hm : ∀ p ∈ args, p ∈ news) : News h₀ L h (args ++ news) := fun p hp => N p ((List.mem_append.mp hp).elim (hm p) id)
theorem news_args' {h : Heap} {q : Addr × Obj} (N : News h₀ L h (q :: (args ++ news))) : News h₀ L h (q :: news) := fun p hp => N p ((List.mem_cons.mp hp).elim (fun e => e ▸ .head _) fun hp => .tail _ (List.mem_append.mpr (.inr hp)))
theorem useL {out : List Int} (C : Ctr prog w mean mg mb f k args vs (RetL out)) (B : Below A₀ base outer h₀) (F : Fr h₀ L s.heap m) (X : (hd.heap_39 w.params).In h₀) (N : News h₀ L s.heap news) (T : Top qv (looseW qv []) mean mg mb h₀) (hk : cs.kind = .function)
    (hm : ∀ p ∈ args, p ∈ news) (hd : dp + k < recursionLimit) (hu : un + 8 * k < cLine)
    (ret : ∀ (D : Addr) (us : List Value) (c : Nat) (h' : Heap) (tk' : Nat), Fr h₀ L h' m → News h₀ L h' ((D, listOf us.toArray c) :: news) → AllLt D news → IntsAre us out → Q (.ref D) { s with heap := h', toks := tk' }) :
    wpAny (model prog w) (ktrTop dp un gd cn cs L a ccd cl outer) (call (.ref f) vs) Q E s :=
  C dp un gd cn cs a ccd cl outer A₀ base h₀ L m news s Q E B F X (news_args N hm) T hk hd hu fun D us c h' tk' F' N' hl hi => ret D us c h' tk' F' (news_args' N') (allLt_app hl) hi
theorem useL1 {out : List Int} {x : Int} (C : Ctr prog w mean mg mb f k args vs (RetL out)) (e : out = [x]) (B : Below A₀ base outer h₀) (F : Fr h₀ L s.heap m) (X : (hd.heap_39 w.params).In h₀) (N : News h₀ L s.heap news) (T : Top qv (looseW qv []) mean mg mb h₀) (hk : cs.kind = .function)
    (hm : ∀ p ∈ args, p ∈ news) (hd : dp + k < recursionLimit) (hu : un + 8 * k < cLine)
    (ret : ∀ (D : Addr) (t : Tok) (c : Nat) (h' : Heap) (tk' : Nat), Fr h₀ L h' m → News h₀ L h' ((D, listOf [Value.int x t].toArray c) :: news) → AllLt D news → Q (.ref D) { s with heap := h', toks := tk' }) :
    wpAny (model prog w) (ktrTop dp un gd cn cs L a ccd cl outer) (call (.ref f) vs) Q E s := by
  subst e
  refine useL C B F X N T hk hm hd hu fun D us c h' tk' F' N' hl hi => ?_
  cases hi with
  | cons _ t hi => cases hi; exact ret D t c h' tk' F' N' hl
theorem useI {x : Int} (C : Ctr prog w mean mg mb f k args vs (RetI x)) (B : Below A₀ base outer h₀) (F : Fr h₀ L s.heap m) (X : (hd.heap_39 w.params).In h₀) (N : News h₀ L s.heap news) (T : Top qv (looseW qv []) mean mg mb h₀) (hk : cs.kind = .function)
    (hm : ∀ p ∈ args, p ∈ news) (hd : dp + k < recursionLimit) (hu : un + 8 * k < cLine)
    (ret : ∀ (t : Tok) (h' : Heap) (tk' : Nat), Fr h₀ L h' m → News h₀ L h' news → Q (.int x t) { s with heap := h', toks := tk' }) :
    wpAny (model prog w) (ktrTop dp un gd cn cs L a ccd cl outer) (call (.ref f) vs) Q E s :=
  C dp un gd cn cs a ccd cl outer A₀ base h₀ L m news s Q E B F X (news_args N hm) T hk hd hu fun t h' tk' F' N' => ret t h' tk' F' fun p hp => N' p (List.mem_append.mpr (.inr hp))
end

theorem bitOr_zero {y : Int} (h : 0 ≤ y) : Builtin.bitOr y 0 = y := by
  have := or_add (c := y) (n := 0) (k := y.toNat + 1) h (by
    have : y.toNat < 2 ^ (y.toNat + 1) := Nat.lt_of_lt_of_le Nat.lt_two_pow_self (Nat.pow_le_pow_right (by omega) (by omega))
    have hc := kbt_cast (y.toNat + 1)
    omega) (by omega)
  rw [Int.zero_mul, Int.add_zero] at this
  exact this
theorem normL_one {B y : Int} (hB : 2 ≤ B) (h : 0 ≤ y) (h' : y < B) : normL [y] = digs B y := by
  by_cases e : y = 0
  · subst e; simp [normL, digs_zero]
  · rw [digs_one hB (by omega) h']; simp [normL, e]
theorem shr_out {x n wd : Int} (h0 : 0 < x) (h1 : x < 2 ^ wd.toNat) (hw : 8 ≤ wd) : normL [Builtin.bitAnd (Builtin.bitOr (x.fdiv (2 ^ n.toNat)) (0 * 2 ^ (wd - n).toNat)) (1 * 2 ^ wd.toNat - 1)] = digs (2 ^ wd.toNat) (x / 2 ^ n.toNat) := by
  have hp := kbt_pos n.toNat
  have hB := two_le hw
  rw [Int.fdiv_eq_ediv_of_nonneg _ (by omega)]
  have q1 : 0 ≤ x / 2 ^ n.toNat := Int.ediv_nonneg (by omega) (by omega)
  have q2 : x / 2 ^ n.toNat ≤ x := Int.ediv_le_self _ (by omega)
  rw [Int.zero_mul, bitOr_zero q1, Int.one_mul, kbt_maskF, Int.fmod_eq_emod_of_nonneg _ (by omega), Int.emod_eq_of_lt q1 (by omega)]
  exact normL_one hB q1 (by omega)
end
section
variable {prog : Program} {w : World} {mean : ExcName → Option Value} {mg mb : Str → Option Value}

local macro_rules | `(tactic| walk_at "binaryOp FloorDiv int int") => `(tactic| (k_here; (with_reducible refine' fd_is ?e9 ?h9 ?g9 ?_); (case e9 => with_reducible assumption); (case h9 => omega); (case g9 => omega)))
local macro_rules | `(tactic| walk_at "binaryOp Mod int int") => `(tactic| (k_here; (with_reducible refine' fm_is ?e9 ?h9 ?_); (case e9 => with_reducible assumption); (case h9 => omega)))
local macro_rules | `(tactic| walk_at "binaryOp LShift int int") => `(tactic| (k_here; (with_reducible refine ls_is ?e9 ?h9 ?g9 ?_); (case e9 => first | exact ⟨by omega, by omega⟩ | exact limb_small (by assumption) (by assumption) (by assumption) (by assumption)); (case h9 => omega); (case g9 => omega)))
local macro_rules | `(tactic| walk_at "call ref") => `(tactic| (k_extra "call ref"))
local macro_rules | `(tactic| k_room) => `(tactic| first | ((try dsimp only [ktrTop, Around.deeper]); omega) | ktr_room)
theorem c_shr' (x n wd : Int) (tn tw tx : Tok) (l : Addr) (c : Nat) (h0 : 0 < x) (h1 : x < 2 ^ wd.toNat) (hn : 0 ≤ n) (hn' : n < wd) (hq : n.fdiv wd = 0) (hf : n.fmod wd = n) (hw : 8 ≤ wd) (hw' : wd ≤ 12) : CtrO prog w mean mg mb 121 2 [(l, listOf [Value.int x tx].toArray c)] [.ref l, .int n tn, .int wd tw] (RetL (digs (2 ^ wd.toNat) (x / 2 ^ n.toNat))) := by
  w_top off
  have hf : (hd.heap_39 = hd.heap_39) ∧ (PySem.Challenge.rw_xw0114_01 = PySem.Challenge.rw_xw0114_01) := by
    k_fill
    exact ⟨rfl, rfl⟩
  clear hf
  intro dp un gd cn cs a ccd cl outer A₀ base h₀ L m d o s Q E B F X N T hk hd hu hret
  simp only [List.nil_append, List.cons_append] at N hret
  have mk := kstMark
  have i0 : IntsAre [] [] := .nil
  have hB : (2 : Int) ≤ 2 ^ wd.toNat := two_le hw
  have hlo := pw_lo hw
  have hhi := pw_hi hw'
  k_with_none
  k_with "call ref" => first
    | k_dflt (k_here; (with_reducible show wpAny _ _ (call (Value.ref 58) _) _ _ _); (k_dflt (refine' useL (c_norm _ _ _ _ ?hi ?hn) ?kB ?kF ?kX ?kN ?kT ?kK ?km ?kd ?ku ?_)); (case kB => k_asm); (case kF => k_asm); (case kX => k_asm); (case kN => k_asm); (case kT => k_asm); (case kK => first | exact rfl | assumption); (case km => (repeat (first | exact List.forall_mem_nil _ | (refine List.forall_mem_cons.mpr ⟨by k_mem, ?_⟩)))); (case hi => first | assumption | exact .nil | exact .cons _ _ .nil | exact .cons _ _ (.cons _ _ .nil)); (case hn => first | assumption | decide | (simp; done) | (simp; omega)); (case kd => first | ((try dsimp only [ktrTop, Around.deeper]); omega) | ktr_room); (case ku => first | ((try dsimp only [ktrTop, Around.deeper]); omega) | ktr_units); intro D' us' c' h' tk' F' N' l1 iR'; (try simp only [AllLt, and_true] at l1); (try dsimp only); (try k_fold))
  refine wpAny_call ?_
  k_dflt cell_enter
  k_steps
  · refine' endL (Q := Q) (s := s) hret ?e1 ?e2 ?e3 ?e4 ?e5 ?e6 ?e7
    case e1 => assumption
    case e2 => assumption
    case e3 => k_mem
    case e4 => (intro p hp; repeat (first | exact hp | apply List.Mem.tail))
    case e5 => first | assumption | exact allLt_of (by assumption) | ((simp only [AllLt, and_true]); omega) | ((simp only [AllLt, and_true]); (try simp only [AllLt, and_true] at *); simp_all)
    case e6 => first | assumption | exact intsPush (by assumption)
    case e7 => exact shr_out h0 h1 hw

theorem c_shr (x n wd : Int) (tn tw tx : Tok) (l : Addr) (c : Nat) (h0 : 0 < x) (h1 : x < 2 ^ wd.toNat) (hn : 0 ≤ n) (hn' : n < wd) (hq : n.fdiv wd = 0) (hf : n.fmod wd = n) (hw : 8 ≤ wd) (hw' : wd ≤ 12) : Ctr prog w mean mg mb 121 2 [(l, listOf [Value.int x tx].toArray c)] [.ref l, .int n tn, .int wd tw] (RetL (digs (2 ^ wd.toNat) (x / 2 ^ n.toNat))) := liftL (List.cons_ne_nil _ _) (c_shr' x n wd tn tw tx l c h0 h1 hn hn' hq hf hw hw')
end
section
open PySem.Builtin.Int in
theorem bits_is {y : Int} {b : Nat} (h0 : (2 : Int) ^ b ≤ y) (h1 : y < 2 ^ (b + 1)) : intBits y = b + 1 := by
  have c1 := kbt_cast b
  have c2 := kbt_cast (b + 1)
  have q1 : intBits y ≤ b + 1 := intBits_le_iff.mpr (by omega)
  have q2 : ¬ intBits y ≤ b := fun h => by
    have := intBits_le_iff.mp h
    omega
  omega
theorem pow_lt_of {a b : Nat} (h : (2 : Int) ^ a < 2 ^ b) : a < b := by
  by_cases e : a < b
  · exact e
  · have := pw_mono (show b ≤ a by omega); omega
theorem bits_out {x wd : Int} {b : Nat} (hw : 8 ≤ wd) (h0 : 0 < x) (hb0 : (2 : Int) ^ b ≤ x) (hb1 : x < 2 ^ (b + 1)) : (((digs (2 ^ wd.toNat) x).length : Int) - 1) * wd + (Builtin.Int.intBits ((digs (2 ^ wd.toNat) x).getD (-1 + ((digs (2 ^ wd.toNat) x).length : Int)).toNat 0) : Int) = (b : Int) + 1 := by
  have hB := two_le hw
  have hne := digs_ne hB h0
  obtain ⟨j, hj⟩ : ∃ j, (digs (2 ^ wd.toNat) x).length = j + 1 := ⟨(digs (2 ^ wd.toNat) x).length - 1, by omega⟩
  have hz := div_len hB x (by omega)
  have hat := digs_at hB (show 0 ≤ x by omega) (show j < (digs (2 ^ wd.toNat) x).length by omega)
  have hg : (digs (2 ^ wd.toNat) x).getD (-1 + ((digs (2 ^ wd.toNat) x).length : Int)).toNat 0 = x / (2 ^ wd.toNat) ^ j := by
    rw [show (-1 + ((digs (2 ^ wd.toNat) x).length : Int)).toNat = j by omega, List.getD_eq_getElem?_getD, List.getElem?_eq_getElem (by omega), Option.getD_some, hat.1]
    rw [hj, div_pow_succ hB] at hz
    have hlt : x / (2 ^ wd.toNat) ^ j < 2 ^ wd.toNat := by
      by_cases q : x / (2 ^ wd.toNat) ^ j < 2 ^ wd.toNat
      · exact q
      · have := (Int.le_ediv_iff_mul_le (show 0 < (2 : Int) ^ wd.toNat by omega)).mpr (show 1 * 2 ^ wd.toNat ≤ x / (2 ^ wd.toNat) ^ j by omega)
        omega
    exact Int.emod_eq_of_lt (by omega) hlt
  rw [hg, hj]
  have hpos := hat.2
  rw [← Int.pow_mul] at hpos ⊢
  generalize he : wd.toNat * j = e at *
  have hwj : (((j + 1 : Nat) : Int) - 1) * wd = e := by
    rw [← he, Int.natCast_mul, Int.toNat_of_nonneg (by omega), Int.mul_comm]
    congr 1
    omega
  have hpe := kbt_pos e
  have hle : (2 : Int) ^ e ≤ x := by
    have := (Int.le_ediv_iff_mul_le hpe).mp (show 1 ≤ x / 2 ^ e by omega)
    omega
  have heb : e < b + 1 := pow_lt_of (by omega)
  obtain ⟨d, hd⟩ : ∃ d, b = d + e := ⟨b - e, by omega⟩
  subst hd
  have g0 : (2 : Int) ^ d ≤ x / 2 ^ e := (Int.le_ediv_iff_mul_le hpe).mpr (by rw [← Int.pow_add]; exact hb0)
  have g1 : x / 2 ^ e < (2 : Int) ^ (d + 1) := Int.ediv_lt_of_lt_mul hpe (by rw [← Int.pow_add, show d + 1 + e = d + e + 1 by omega]; exact hb1)
  rw [bits_is g0 g1, hwj]
  omega
end
section
variable {prog : Program} {w : World} {mean : ExcName → Option Value} {mg mb : Str → Option Value}

local macro_rules | `(tactic| walk_at "binaryOp FloorDiv int int") => `(tactic| (k_here; (with_reducible refine' fd_is ?e9 ?h9 ?g9 ?_); (case e9 => with_reducible assumption); (case h9 => omega); (case g9 => omega)))
local macro_rules | `(tactic| walk_at "binaryOp Mod int int") => `(tactic| (k_here; (with_reducible refine' fm_is ?e9 ?h9 ?_); (case e9 => with_reducible assumption); (case h9 => omega)))
local macro_rules | `(tactic| walk_at "binaryOp LShift int int") => `(tactic| (k_here; (with_reducible refine ls_is ?e9 ?h9 ?g9 ?_); (case e9 => first | exact ⟨by omega, by omega⟩ | exact limb_small (by assumption) (by assumption) (by assumption) (by assumption)); (case h9 => omega); (case g9 => omega)))
local macro_rules | `(tactic| walk_at "call ref") => `(tactic| (k_extra "call ref"))
local macro_rules | `(tactic| k_room) => `(tactic| first | ((try dsimp only [ktrTop, Around.deeper]); omega) | ktr_room)
theorem c_bits (x wd : Int) (b : Nat) (tw : Tok) (l : Addr) (us : List Value) (c : Nat) (hi : IntsAre us (digs (2 ^ wd.toNat) x)) (h0 : 0 < x) (h1 : x < 16777216) (hb0 : (2 : Int) ^ b ≤ x) (hb1 : x < 2 ^ (b + 1)) (hl2 : (digs (2 ^ wd.toNat) x).length ≤ 2) (hw : 8 ≤ wd) (hw' : wd ≤ 12) : Ctr prog w mean mg mb 128 1 [(l, listOf us.toArray c)] [.ref l, .int wd tw] (RetI ((b : Int) + 1)) := by
  w_top off
  have hf : (hd.heap_39 = hd.heap_39) ∧ (PySem.Challenge.rw_xw0114_01 = PySem.Challenge.rw_xw0114_01) := by
    k_fill
    exact ⟨rfl, rfl⟩
  clear hf
  intro dp un gd cn cs a ccd cl outer A₀ base h₀ L m rest s Q E B F X N T hk hd hu hret
  simp only [List.nil_append, List.cons_append] at N hret
  have mk := kstMark
  have i0 : IntsAre [] [] := .nil
  have hB : (2 : Int) ≤ 2 ^ wd.toNat := two_le hw
  have hlo := pw_lo hw
  have hhi := pw_hi hw'
  have husx := hi.length
  have hdlx := digs_len' (x := x) hB
  have hne := digs_ne hB h0
  k_with_none
  refine wpAny_call ?_
  k_dflt cell_enter
  k_steps
  · refine' endI (Q := Q) (s := s) hret ?e1 ?e2 ?e3 ?e4
    case e1 => assumption
    case e2 => assumption
    case e3 => (intro p hp; repeat (first | exact hp | apply List.Mem.tail))
    case e4 => exact bits_out hw h0 hb0 hb1

end
section
abbrev tupO (vs : List Value) : Obj := { cls := .type "tuple", data := .seq vs.toArray }
/-- a pair of lists comes back; the first is told -/
abbrev RetT2 (R : Int) (h₀ : Heap) (L : Addr) (m : Str → Option Value) (news : List (Addr × Obj)) (s : Shared) (Q : Value → Shared → Prop) : Prop :=
  ∀ (T D1 D0 : Addr) (t : Tok) (c1 : Nat) (h' : Heap) (tk' : Nat), Fr h₀ L h' m → News h₀ L h' ((T, tupO [.ref D1, .ref D0]) :: (D1, listOf [Value.int R t].toArray c1) :: news) → AllLt T ((D1, listOf [Value.int R t].toArray c1) :: news) → AllLt D1 news → Q (.ref T) { s with heap := h', toks := tk' }
/-- a pair of lists comes back; both are told -/
abbrev RetT (R : Int) (S : List Int) (h₀ : Heap) (L : Addr) (m : Str → Option Value) (news : List (Addr × Obj)) (s : Shared) (Q : Value → Shared → Prop) : Prop :=
  ∀ (T D1 D0 : Addr) (t : Tok) (us : List Value) (c1 c0 : Nat) (h' : Heap) (tk' : Nat), Fr h₀ L h' m → News h₀ L h' ((T, tupO [.ref D1, .ref D0]) :: (D0, listOf us.toArray c0) :: (D1, listOf [Value.int R t].toArray c1) :: news) → AllLt T ((D0, listOf us.toArray c0) :: (D1, listOf [Value.int R t].toArray c1) :: news) → AllLt D0 ((D1, listOf [Value.int R t].toArray c1) :: news) → AllLt D1 news → IntsAre us S → Q (.ref T) { s with heap := h', toks := tk' }
section
variable {prog : Program} {w : World} {mean : ExcName → Option Value} {mg mb : Str → Option Value} {f : Addr} {k : Nat} {args : List (Addr × Obj)} {vs : List Value}
theorem liftT2 {R : Int} (hne : args ≠ []) (C : CtrO prog w mean mg mb f k args vs (RetT2 R)) : Ctr prog w mean mg mb f k args vs (RetT2 R) := by
  intro dp un gd cn cs a ccd cl outer A₀ base h₀ L m rest s Q E B F X N T hk hd hu hret
  let P : (Addr × Obj) → Value → Shared → Prop := fun p v s' => ∃ (T D1 D0 : Addr) (t : Tok) (c1 : Nat) (h' : Heap) (tk' : Nat), v = .ref T ∧ s' = { s with heap := h', toks := tk' } ∧ Fr h₀ L h' m ∧ News h₀ L h' ((T, tupO [.ref D1, .ref D0]) :: (D1, listOf [Value.int R t].toArray c1) :: (args ++ [p])) ∧ AllLt T ((D1, listOf [Value.int R t].toArray c1) :: (args ++ [p])) ∧ AllLt D1 (args ++ [p])
  have one : ∀ p ∈ args ++ rest, wpAny (model prog w) (ktrTop dp un gd cn cs L a ccd cl outer) (call (.ref f) vs) (P p) E s := by
    rintro ⟨d, o⟩ hp
    refine C dp un gd cn cs a ccd cl outer A₀ base h₀ L m d o s (P (d, o)) E B F X (fun q hq => N q ?_) T hk hd hu ?_
    · rcases List.mem_append.mp hq with hq | hq
      · exact List.mem_append.mpr (.inl hq)
      · rw [List.mem_singleton.mp hq]; exact hp
    · intro T D1 D0 t c1 h' tk' F' N' hl hl'
      exact ⟨T, D1, D0, t, c1, h', tk', rfl, rfl, F', N', hl, hl'⟩
  obtain ⟨p₀, hp₀⟩ : ∃ p₀, p₀ ∈ args ++ rest := by
    cases args with
    | nil => exact absurd rfl hne
    | cons p r => exact ⟨p, .head _⟩
  refine wpAny_mono (wpAny_all (one p₀ hp₀) (args ++ rest) one) (fun v s' q => ?_) fun _ _ e => e
  obtain ⟨⟨T, D1, D0, t, c1, h', tk', rfl, rfl, F', N', hl, hl'⟩, q⟩ := q
  have all : ∀ p ∈ args ++ rest, h'.get? p.1 = some p.2 ∧ p.1 < T ∧ p.1 < D1 := by
    intro p hp
    obtain ⟨T', D1', D0', t', c1', h'', tk'', e1, e2, F'', N'', hl1, hl2⟩ := q p hp
    cases e1
    have e3 : h' = h'' := congrArg Shared.heap e2
    subst e3
    have g1 := (N' _ (.head _)).1
    have g2 := (N'' _ (.head _)).1
    rw [g1] at g2
    injection g2 with g3
    have g4 := congrArg Obj.data g3
    cases g4
    have hin : p ∈ args ++ [p] := List.mem_append.mpr (.inr (.head _))
    exact ⟨(N'' p (.tail _ (.tail _ hin))).1, allLt_get hl1 p (.tail _ hin), allLt_get hl2 p hin⟩
  refine hret T D1 D0 t c1 h' tk' F' (fun p hp => ?_) ⟨hl.1, allLt_of fun p hp => (all p hp).2.1⟩ (allLt_of fun p hp => (all p hp).2.2)
  rcases List.mem_cons.mp hp with rfl | hp
  · exact N' _ (.head _)
  · rcases List.mem_cons.mp hp with rfl | hp
    · exact N' _ (.tail _ (.head _))
    · exact ⟨(all p hp).1, (N p hp).2⟩
variable {dp un : Nat} {gd : Option (List Code)} {cn : Str} {cs : Scope} {a : Addr} {ccd : Value} {cl : List (Str × Addr)} {outer : List Env} {A₀ : Around} {base h₀ : Heap} {L : Addr} {m : Str → Option Value} {news : List (Addr × Obj)} {s : Shared} {Q E : Value → Shared → Prop}
theorem useT2 {R : Int} (C : Ctr prog w mean mg mb f k args vs (RetT2 R)) (B : Below A₀ base outer h₀) (F : Fr h₀ L s.heap m) (X : (hd.heap_39 w.params).In h₀) (N : News h₀ L s.heap news) (T : Top qv (looseW qv []) mean mg mb h₀) (hk : cs.kind = .function)
    (hm : ∀ p ∈ args, p ∈ news) (hd : dp + k < recursionLimit) (hu : un + 8 * k < cLine)
    (ret : ∀ (T D1 D0 : Addr) (t : Tok) (c1 : Nat) (h' : Heap) (tk' : Nat), Fr h₀ L h' m → News h₀ L h' ((T, tupO [.ref D1, .ref D0]) :: (D1, listOf [Value.int R t].toArray c1) :: news) → AllLt T ((D1, listOf [Value.int R t].toArray c1) :: news) → AllLt D1 news → Q (.ref T) { s with heap := h', toks := tk' }) :
    wpAny (model prog w) (ktrTop dp un gd cn cs L a ccd cl outer) (call (.ref f) vs) Q E s :=
  C dp un gd cn cs a ccd cl outer A₀ base h₀ L m news s Q E B F X (news_args N hm) T hk hd hu fun T D1 D0 t c1 h' tk' F' N' hl hl' => ret T D1 D0 t c1 h' tk' F' (fun p hp => N' p (by
    rcases List.mem_cons.mp hp with rfl | hp
    · exact .head _
    · rcases List.mem_cons.mp hp with rfl | hp
      · exact .tail _ (.head _)
      · exact .tail _ (.tail _ (List.mem_append.mpr (.inr hp))))) ⟨hl.1, allLt_app hl.2⟩ (allLt_app hl')
theorem useT {R : Int} {S : List Int} (C : Ctr prog w mean mg mb f k args vs (RetT R S)) (B : Below A₀ base outer h₀) (F : Fr h₀ L s.heap m) (X : (hd.heap_39 w.params).In h₀) (N : News h₀ L s.heap news) (T : Top qv (looseW qv []) mean mg mb h₀) (hk : cs.kind = .function)
    (hm : ∀ p ∈ args, p ∈ news) (hd : dp + k < recursionLimit) (hu : un + 8 * k < cLine)
    (ret : ∀ (T D1 D0 : Addr) (t : Tok) (us : List Value) (c1 c0 : Nat) (h' : Heap) (tk' : Nat), Fr h₀ L h' m → News h₀ L h' ((T, tupO [.ref D1, .ref D0]) :: (D0, listOf us.toArray c0) :: (D1, listOf [Value.int R t].toArray c1) :: news) → AllLt T ((D0, listOf us.toArray c0) :: (D1, listOf [Value.int R t].toArray c1) :: news) → AllLt D0 ((D1, listOf [Value.int R t].toArray c1) :: news) → AllLt D1 news → IntsAre us S → Q (.ref T) { s with heap := h', toks := tk' }) :
    wpAny (model prog w) (ktrTop dp un gd cn cs L a ccd cl outer) (call (.ref f) vs) Q E s :=
  C dp un gd cn cs a ccd cl outer A₀ base h₀ L m news s Q E B F X (news_args N hm) T hk hd hu fun T D1 D0 t us c1 c0 h' tk' F' N' hl hl' hl2 hi => ret T D1 D0 t us c1 c0 h' tk' F' (fun p hp => N' p (by
    rcases List.mem_cons.mp hp with rfl | hp
    · exact .head _
    · rcases List.mem_cons.mp hp with rfl | hp
      · exact .tail _ (.head _)
      · rcases List.mem_cons.mp hp with rfl | hp
        · exact .tail _ (.tail _ (.head _))
        · exact .tail _ (.tail _ (.tail _ (List.mem_append.mpr (.inr hp)))))) ⟨hl.1, hl.2.1, allLt_app hl.2.2⟩ ⟨hl'.1, allLt_app hl'.2⟩ (allLt_app hl2) hi
theorem endT2 {R : Int} {news' : List (Addr × Obj)} {h' : Heap} {tk' : Nat} {T D1 D0 : Addr} {t : Tok} {c1 : Nat} (hret : RetT2 R h₀ L m news s Q) (F : Fr h₀ L h' m) (N : News h₀ L h' news') (hT : (T, tupO [.ref D1, .ref D0]) ∈ news') (hD : (D1, listOf [Value.int R t].toArray c1) ∈ news') (hs : ∀ p ∈ news, p ∈ news')
    (hl : AllLt T ((D1, listOf [Value.int R t].toArray c1) :: news)) (hl' : AllLt D1 news) : Q (.ref T) { s with heap := h', toks := tk' } :=
  hret T D1 D0 t c1 h' tk' F (fun p hp => by
    rcases List.mem_cons.mp hp with rfl | hp
    · exact N _ hT
    · rcases List.mem_cons.mp hp with rfl | hp
      · exact N _ hD
      · exact N p (hs p hp)) hl hl'
theorem endT {R : Int} {S : List Int} {news' : List (Addr × Obj)} {h' : Heap} {tk' : Nat} {T D1 D0 : Addr} {t : Tok} {us : List Value} {c1 c0 : Nat} (hret : RetT R S h₀ L m news s Q) (F : Fr h₀ L h' m) (N : News h₀ L h' news') (hT : (T, tupO [.ref D1, .ref D0]) ∈ news') (hD0 : (D0, listOf us.toArray c0) ∈ news') (hD : (D1, listOf [Value.int R t].toArray c1) ∈ news') (hs : ∀ p ∈ news, p ∈ news')
    (hl : AllLt T ((D0, listOf us.toArray c0) :: (D1, listOf [Value.int R t].toArray c1) :: news)) (hl0 : AllLt D0 ((D1, listOf [Value.int R t].toArray c1) :: news)) (hl' : AllLt D1 news) (hi : IntsAre us S) : Q (.ref T) { s with heap := h', toks := tk' } :=
  hret T D1 D0 t us c1 c0 h' tk' F (fun p hp => by
    rcases List.mem_cons.mp hp with rfl | hp
    · exact N _ hT
    · rcases List.mem_cons.mp hp with rfl | hp
      · exact N _ hD0
      · rcases List.mem_cons.mp hp with rfl | hp
        · exact N _ hD
        · exact N p (hs p hp)) hl hl0 hl' hi
end
end
section
variable {prog : Program} {w : World} {mean : ExcName → Option Value} {mg mb : Str → Option Value}

local macro_rules | `(tactic| walk_at "binaryOp FloorDiv int int") => `(tactic| (k_here; (with_reducible refine' fd_is ?e9 ?h9 ?g9 ?_); (case e9 => with_reducible assumption); (case h9 => omega); (case g9 => omega)))
local macro_rules | `(tactic| walk_at "binaryOp Mod int int") => `(tactic| (k_here; (with_reducible refine' fm_is ?e9 ?h9 ?_); (case e9 => with_reducible assumption); (case h9 => omega)))
local macro_rules | `(tactic| walk_at "binaryOp LShift int int") => `(tactic| (k_here; (with_reducible refine ls_is ?e9 ?h9 ?g9 ?_); (case e9 => first | exact ⟨by omega, by omega⟩ | exact limb_small (by assumption) (by assumption) (by assumption) (by assumption)); (case h9 => omega); (case g9 => omega)))
local macro_rules | `(tactic| walk_at "call ref") => `(tactic| (k_extra "call ref"))
local macro_rules | `(tactic| k_room) => `(tactic| first | ((try dsimp only [ktrTop, Around.deeper]); omega) | ktr_room)
theorem c_two' (x lo hi wd R : Int) (tw t0 t1 : Tok) (l : Addr) (c : Nat) (hx : hi * 2 ^ wd.toNat + lo = x) (hlo0 : 0 ≤ lo) (hlo1 : lo < 2 ^ wd.toNat) (hhi0 : 0 ≤ hi) (hhi1 : hi < 2 ^ wd.toNat) (h0 : 0 ≤ x) (h1 : x < 16777216) (hr0 : 0 ≤ R) (hr1 : R * R ≤ x) (hr2 : x < (R + 1) * (R + 1)) (hrp : 0 < R) (hrb : R < 2 ^ wd.toNat) (hw : 8 ≤ wd) (hw' : wd ≤ 12) : CtrO prog w mean mg mb 170 2 [(l, listOf [Value.int lo t0, Value.int hi t1].toArray c)] [.ref l, .int wd tw] (RetT2 R) := by
  w_top off
  have hf : (hd.heap_39 = hd.heap_39) ∧ (PySem.Challenge.rw_xw0114_01 = PySem.Challenge.rw_xw0114_01) := by
    k_fill
    exact ⟨rfl, rfl⟩
  clear hf
  intro dp un gd cn cs a ccd cl outer A₀ base h₀ L m d o s Q E B F X N T hk hd hu hret
  simp only [List.nil_append, List.cons_append] at N hret
  have mk := kstMark
  have i0 : IntsAre [] [] := .nil
  have hB : (2 : Int) ≤ 2 ^ wd.toNat := two_le hw
  have hlo := pw_lo hw
  have hhi := pw_hi hw'
  have hx' : (0 * 2 ^ wd.toNat + hi) * 2 ^ wd.toNat + lo = x := by rw [Int.zero_mul, Int.zero_add]; exact hx
  have hR : R < 4096 := by omega
  have hRR : 0 ≤ R * R := Int.mul_nonneg hr0 hr0
  k_with_none
  k_with "call ref" => first
    | k_dflt (k_here; (with_reducible show wpAny _ _ (call (Value.ref 156) _) _ _ _); (k_dflt (refine' useI (c_small _ R _ ?h0 ?h1 ?hr0 ?hr1 ?hr2) ?kB ?kF ?kX ?kN ?kT ?kK ?km ?kd ?ku ?_)); (case kB => k_asm); (case kF => k_asm); (case kX => k_asm); (case kN => k_asm); (case kT => k_asm); (case kK => first | exact rfl | assumption); (case km => (repeat (first | exact List.forall_mem_nil _ | (refine List.forall_mem_cons.mpr ⟨by k_mem, ?_⟩)))); (case h0 => (rw [hx']; exact h0)); (case h1 => (rw [hx']; exact h1)); (case hr0 => exact hr0); (case hr1 => (rw [hx']; exact hr1)); (case hr2 => (rw [hx']; exact hr2)); (case kd => first | ((try dsimp only [ktrTop, Around.deeper]); omega) | ktr_room); (case ku => first | ((try dsimp only [ktrTop, Around.deeper]); omega) | ktr_units); intro t' h' tk' F' N'; (try dsimp only); (try k_fold))
    | k_dflt (k_here; (with_reducible show wpAny _ _ (call (Value.ref 65) _) _ _ _); (k_dflt (refine' useL1 (c_natof _ _ _ _ ?h0 ?h1 ?hw ?hw') ?e1 ?kB ?kF ?kX ?kN ?kT ?kK ?km ?kd ?ku ?_)); (case kB => k_asm); (case kF => k_asm); (case kX => k_asm); (case kN => k_asm); (case kT => k_asm); (case kK => first | exact rfl | assumption); (case km => (repeat (first | exact List.forall_mem_nil _ | (refine List.forall_mem_cons.mpr ⟨by k_mem, ?_⟩)))); (case h0 => first | assumption | omega); (case h1 => first | assumption | omega); (case hw => assumption); (case hw' => assumption); (case e1 => exact digs_one hB (by assumption) (by assumption)); (case kd => first | ((try dsimp only [ktrTop, Around.deeper]); omega) | ktr_room); (case ku => first | ((try dsimp only [ktrTop, Around.deeper]); omega) | ktr_units); intro D' t' c' h' tk' F' N' l1; (try simp only [AllLt, and_true] at l1); (try dsimp only); (try k_fold))
    | k_dflt (k_here; (with_reducible show wpAny _ _ (call (Value.ref 65) _) _ _ _); (k_dflt (refine' useL (c_natof _ _ _ _ ?h0 ?h1 ?hw ?hw') ?kB ?kF ?kX ?kN ?kT ?kK ?km ?kd ?ku ?_)); (case kB => k_asm); (case kF => k_asm); (case kX => k_asm); (case kN => k_asm); (case kT => k_asm); (case kK => first | exact rfl | assumption); (case km => (repeat (first | exact List.forall_mem_nil _ | (refine List.forall_mem_cons.mpr ⟨by k_mem, ?_⟩)))); (case h0 => (rw [hx']; omega)); (case h1 => (rw [hx']; omega)); (case hw => assumption); (case hw' => assumption); (case kd => first | ((try dsimp only [ktrTop, Around.deeper]); omega) | ktr_room); (case ku => first | ((try dsimp only [ktrTop, Around.deeper]); omega) | ktr_units); intro D' us' c' h' tk' F' N' l1 iR'; (try simp only [AllLt, and_true] at l1); (try dsimp only); (try k_fold))
  refine wpAny_call ?_
  k_dflt cell_enter
  k_steps
  · refine' endT2 (Q := Q) (s := s) hret ?e1 ?e2 ?e3 ?e4 ?e5 ?e6 ?e7
    case e1 => assumption
    case e2 => assumption
    case e3 => k_mem
    case e4 => k_mem
    case e5 => (intro p hp; repeat (first | exact hp | apply List.Mem.tail))
    case e6 => first | assumption | exact allLt_of (by assumption) | ((simp only [AllLt, and_true]); omega) | ((simp only [AllLt, and_true]); (try simp only [AllLt, and_true] at *); simp_all)
    case e7 => first | assumption | exact allLt_of (by assumption) | ((simp only [AllLt, and_true]); omega) | ((simp only [AllLt, and_true]); (try simp only [AllLt, and_true] at *); simp_all)

theorem c_two (x lo hi wd R : Int) (tw t0 t1 : Tok) (l : Addr) (c : Nat) (hx : hi * 2 ^ wd.toNat + lo = x) (hlo0 : 0 ≤ lo) (hlo1 : lo < 2 ^ wd.toNat) (hhi0 : 0 ≤ hi) (hhi1 : hi < 2 ^ wd.toNat) (h0 : 0 ≤ x) (h1 : x < 16777216) (hr0 : 0 ≤ R) (hr1 : R * R ≤ x) (hr2 : x < (R + 1) * (R + 1)) (hrp : 0 < R) (hrb : R < 2 ^ wd.toNat) (hw : 8 ≤ wd) (hw' : wd ≤ 12) : Ctr prog w mean mg mb 170 2 [(l, listOf [Value.int lo t0, Value.int hi t1].toArray c)] [.ref l, .int wd tw] (RetT2 R) := liftT2 (List.cons_ne_nil _ _) (c_two' x lo hi wd R tw t0 t1 l c hx hlo0 hlo1 hhi0 hhi1 h0 h1 hr0 hr1 hr2 hrp hrb hw hw')
end
section
theorem mul_lt {B x y : Int} (h0 : 0 ≤ x) (h1 : x < B) (g0 : 0 ≤ y) (g1 : y < B) : x * y < B * B := by
  have a : x * y ≤ x * B := Int.mul_le_mul_of_nonneg_left (by omega) h0
  have b : x * B < B * B := Int.mul_lt_mul_of_pos_right h1 (by omega)
  omega
theorem two_digs {B p : Int} (hB : 2 ≤ B) (h0 : 0 ≤ p) (h1 : p < B * B) : normL [p % B, p / B] = digs B p := by
  have hb : ∀ v ∈ [p % B, p / B], 0 ≤ v ∧ v < B := by
    intro v hv
    simp only [List.mem_cons, List.not_mem_nil, or_false] at hv
    rcases hv with rfl | rfl
    · exact ⟨Int.emod_nonneg _ (by omega), Int.emod_lt_of_pos _ (by omega)⟩
    · exact ⟨Int.ediv_nonneg h0 (by omega), Int.ediv_lt_of_lt_mul (by omega) h1⟩
  rw [normL_digs hB hb]
  congr 1
  simp only [val, Int.mul_zero, Int.add_zero]
  exact Int.emod_add_mul_ediv p B
theorem mul_out {x y wd : Int} (h0 : 0 < x) (h1 : x < 2 ^ wd.toNat) (g0 : 0 < y) (g1 : y < 2 ^ wd.toNat) (hB : (2 : Int) ≤ 2 ^ wd.toNat) : normL [Builtin.bitAnd (0 + (0 + x * y)) (1 * 2 ^ wd.toNat - 1), (0 + (0 + x * y)).fdiv (2 ^ wd.toNat)] = digs (2 ^ wd.toNat) (x * y) := by
  have hp := Int.mul_pos h0 g0
  rw [Int.one_mul, kbt_maskF, Int.zero_add, Int.zero_add, Int.fmod_eq_emod_of_nonneg _ (by omega), Int.fdiv_eq_ediv_of_nonneg _ (by omega)]
  exact two_digs hB (by omega) (mul_lt (by omega) h1 (by omega) g1)
theorem unrEnd0 {h₀ : Heap} {L I : Addr} {it : Obj} {rest : (Str → Option Value) → List (Addr × Obj) → Prop} {s₁ : Shared} {h' : Heap} {tk : Nat} {m' : Str → Option Value} {news' : List (Addr × Obj)} (F : Fr h₀ L h' m') (N : News h₀ L h' ((I, it) :: news')) (off : AllLt I news') (r : rest m' news') : UnrEnd h₀ L s₁ I it rest { s₁ with heap := h', toks := tk } :=
  UnrEnd.intro F N news' (fun _ hp => hp) (fun p hp => Nat.ne_of_lt (allLt_get off p hp)) r
def cmpI (x y : Int) : Int := if x = y then 0 else if x < y then -1 else 1
theorem cmpI_eq {x y : Int} (h : x = y) : (0 : Int) = cmpI x y := by simp [cmpI, h]
theorem cmpI_lt {x y : Int} (h : ¬ x = y) (h' : x < y) : -1 = cmpI x y := by simp [cmpI, h, h']
theorem cmpI_gt {x y : Int} (h : ¬ x = y) (h' : ¬ x < y) : 1 = cmpI x y := by simp [cmpI, h, h']
theorem cmpI_le {x y : Int} (h : y ≤ x) : 0 ≤ cmpI x y := by
  unfold cmpI
  split
  · omega
  · rw [if_neg (by omega)]; omega
def cmp2 (x x1 y y1 : Int) : Int := if x1 = y1 then cmpI x y else cmpI x1 y1
theorem cmp2_a {x x1 y y1 v : Int} (h : ¬ x1 = y1) (e : v = cmpI x1 y1) : v = cmp2 x x1 y y1 := by rw [e, cmp2, if_neg h]
theorem cmp2_b {x x1 y y1 v : Int} (h : x1 = y1) (e : v = cmpI x y) : v = cmp2 x x1 y y1 := by rw [e, cmp2, if_pos h]
theorem cmp2_le {B x x1 y y1 : Int} (hB : 2 ≤ B) (h0 : 0 ≤ x) (h1 : x < B) (g0 : 0 ≤ y) (g1 : y < B) (h : y + B * y1 ≤ x + B * x1) : 0 ≤ cmp2 x x1 y y1 := by
  unfold cmp2
  split
  · rename_i e
    subst e
    exact cmpI_le (by omega)
  · refine cmpI_le ?_
    by_cases q : y1 ≤ x1
    · exact q
    · have := Int.mul_le_mul_of_nonneg_left (show x1 + 1 ≤ y1 by omega) (show 0 ≤ B by omega)
      rw [Int.mul_add] at this
      omega
theorem of_val {B : Int} (hB : 2 ≤ B) {ns : List Int} {x : Int} (hb : ∀ v ∈ ns, 0 ≤ v ∧ v < B) (e : val B ns = x) : normL ns = digs B x := by rw [normL_digs hB hb, e]
theorem sub11_no {x y : Int} (h : x - 0 - y < 0) (g : y ≤ x) : False := by omega
theorem sub11_a {B x y : Int} (hB : 2 ≤ B) (h1 : x < B) (g0 : 0 ≤ y) (g1 : y ≤ x) : normL [x - 0 - y] = digs B (x - y) := by
  refine of_val hB ?_ (by simp [val])
  intro v hv
  rw [List.mem_singleton.mp hv]
  omega
theorem sub2_b {B x x1 y y1 : Int} (hB : 2 ≤ B) (h1 : x < B) (h1' : x1 < B) (g0 : 0 ≤ y) (g1 : y < B) (hx : 0 ≤ x) (g0' : 0 ≤ y1) (q : x - 0 - y < 0) (r : ¬ x1 - 1 - y1 < 0) : normL [x - 0 - y + 1 * B, x1 - 1 - y1] = digs B ((x + B * x1) - (y + B * y1)) := by
  refine of_val hB ?_ ?_
  · intro v hv
    simp only [List.mem_cons, List.not_mem_nil, or_false] at hv
    rcases hv with rfl | rfl <;> omega
  · simp only [val, Int.mul_zero, Int.add_zero, Int.mul_sub, Int.mul_one]; omega
theorem sub2_d {B x x1 y y1 : Int} (hB : 2 ≤ B) (h1 : x < B) (h1' : x1 < B) (g0 : 0 ≤ y) (g0' : 0 ≤ y1) (q : ¬ x - 0 - y < 0) (r : ¬ x1 - 0 - y1 < 0) : normL [x - 0 - y, x1 - 0 - y1] = digs B ((x + B * x1) - (y + B * y1)) := by
  refine of_val hB ?_ ?_
  · intro v hv
    simp only [List.mem_cons, List.not_mem_nil, or_false] at hv
    rcases hv with rfl | rfl <;> omega
  · simp only [val, Int.mul_zero, Int.add_zero, Int.mul_sub, Int.sub_zero]; omega
theorem sub2_noA {B x x1 y y1 : Int} (hB : 2 ≤ B) (h1 : x < B) (g0 : 0 ≤ y) (hx : 0 ≤ x) (hge : y + B * y1 ≤ x + B * x1) (q : x - 0 - y < 0) (r : x1 - 1 - y1 < 0) : False := by
  have := Int.mul_le_mul_of_nonneg_left (show x1 ≤ y1 by omega) (show 0 ≤ B by omega)
  omega
theorem sub2_noC {B x x1 y y1 : Int} (hB : 2 ≤ B) (h1 : x < B) (g0 : 0 ≤ y) (hx : 0 ≤ x) (hge : y + B * y1 ≤ x + B * x1) (r : x1 - 0 - y1 < 0) : False := by
  have := Int.mul_le_mul_of_nonneg_left (show x1 + 1 ≤ y1 by omega) (show 0 ≤ B by omega)
  rw [Int.mul_add] at this
  omega
end
section
variable {prog : Program} {w : World} {mean : ExcName → Option Value} {mg mb : Str → Option Value}

local macro_rules | `(tactic| walk_at "binaryOp FloorDiv int int") => `(tactic| (k_here; (with_reducible refine' fd_is ?e9 ?h9 ?g9 ?_); (case e9 => with_reducible assumption); (case h9 => omega); (case g9 => omega)))
local macro_rules | `(tactic| walk_at "binaryOp Mod int int") => `(tactic| (k_here; (with_reducible refine' fm_is ?e9 ?h9 ?_); (case e9 => with_reducible assumption); (case h9 => omega)))
local macro_rules | `(tactic| walk_at "binaryOp LShift int int") => `(tactic| (k_here; (with_reducible refine ls_is ?e9 ?h9 ?g9 ?_); (case e9 => first | exact ⟨by omega, by omega⟩ | exact limb_small (by assumption) (by assumption) (by assumption) (by assumption)); (case h9 => omega); (case g9 => omega)))
local macro_rules | `(tactic| walk_at "UnrEnd") => `(tactic| (k_here; (refine' unrEnd0 ?h8 ?h9 ?g9 ?_); (case h8 => assumption); (case h9 => assumption); (case g9 => first | (with_unfolding_all assumption) | ((simp only [AllLt, and_true]); omega))))
local macro_rules | `(tactic| walk_at "call ref") => `(tactic| (k_extra "call ref"))
local macro_rules | `(tactic| k_room) => `(tactic| first | ((try dsimp only [ktrTop, Around.deeper]); omega) | ktr_room)
theorem c_mul' (x y wd : Int) (tw tx ty : Tok) (l l2 : Addr) (c c2 : Nat) (h0 : 0 < x) (h1 : x < 2 ^ wd.toNat) (g0 : 0 < y) (g1 : y < 2 ^ wd.toNat) (hw : 8 ≤ wd) (hw' : wd ≤ 12) : CtrO prog w mean mg mb 191 2 [(l, listOf [Value.int x tx].toArray c), (l2, listOf [Value.int y ty].toArray c2)] [.ref l, .ref l2, .int wd tw] (RetL (digs (2 ^ wd.toNat) (x * y))) := by
  w_top off
  have hf : (hd.heap_39 = hd.heap_39) ∧ (PySem.Challenge.rw_xw0114_01 = PySem.Challenge.rw_xw0114_01) := by
    k_fill
    exact ⟨rfl, rfl⟩
  clear hf
  intro dp un gd cn cs a ccd cl outer A₀ base h₀ L m d o s Q E B F X N T hk hd hu hret
  simp only [List.nil_append, List.cons_append] at N hret
  have mk := kstMark
  have i0 : IntsAre [] [] := .nil
  have hB : (2 : Int) ≤ 2 ^ wd.toNat := two_le hw
  have hlo := pw_lo hw
  have hhi := pw_hi hw'
  k_with_none
  k_with "call ref" => first
    | k_dflt (k_here; (with_reducible show wpAny _ _ (call (Value.ref 58) _) _ _ _); (k_dflt (refine' useL (c_norm _ _ _ _ ?hi ?hn) ?kB ?kF ?kX ?kN ?kT ?kK ?km ?kd ?ku ?_)); (case kB => k_asm); (case kF => k_asm); (case kX => k_asm); (case kN => k_asm); (case kT => k_asm); (case kK => first | exact rfl | assumption); (case km => (repeat (first | exact List.forall_mem_nil _ | (refine List.forall_mem_cons.mpr ⟨by k_mem, ?_⟩)))); (case hi => first | assumption | exact .nil | exact .cons _ _ .nil | exact .cons _ _ (.cons _ _ .nil)); (case hn => first | assumption | decide | (simp; done) | (simp; omega)); (case kd => first | ((try dsimp only [ktrTop, Around.deeper]); omega) | ktr_room); (case ku => first | ((try dsimp only [ktrTop, Around.deeper]); omega) | ktr_units); intro D' us' c' h' tk' F' N' l1 iR'; (try simp only [AllLt, and_true] at l1); (try dsimp only); (try k_fold))
  refine wpAny_call ?_
  k_dflt cell_enter
  k_steps
  · refine' endL (Q := Q) (s := s) hret ?e1 ?e2 ?e3 ?e4 ?e5 ?e6 ?e7
    case e1 => assumption
    case e2 => assumption
    case e3 => k_mem
    case e4 => (intro p hp; repeat (first | exact hp | apply List.Mem.tail))
    case e5 => first | assumption | exact allLt_of (by assumption) | ((simp only [AllLt, and_true]); omega) | ((simp only [AllLt, and_true]); (try simp only [AllLt, and_true] at *); simp_all)
    case e6 => first | assumption | exact intsPush (by assumption)
    case e7 => exact mul_out h0 h1 g0 g1 hB

theorem c_mul (x y wd : Int) (tw tx ty : Tok) (l l2 : Addr) (c c2 : Nat) (h0 : 0 < x) (h1 : x < 2 ^ wd.toNat) (g0 : 0 < y) (g1 : y < 2 ^ wd.toNat) (hw : 8 ≤ wd) (hw' : wd ≤ 12) : Ctr prog w mean mg mb 191 2 [(l, listOf [Value.int x tx].toArray c), (l2, listOf [Value.int y ty].toArray c2)] [.ref l, .ref l2, .int wd tw] (RetL (digs (2 ^ wd.toNat) (x * y))) := liftL (List.cons_ne_nil _ _) (c_mul' x y wd tw tx ty l l2 c c2 h0 h1 g0 g1 hw hw')
end
section
variable {prog : Program} {w : World} {mean : ExcName → Option Value} {mg mb : Str → Option Value}

local macro_rules | `(tactic| walk_at "binaryOp FloorDiv int int") => `(tactic| (k_here; (with_reducible refine' fd_is ?e9 ?h9 ?g9 ?_); (case e9 => with_reducible assumption); (case h9 => omega); (case g9 => omega)))
local macro_rules | `(tactic| walk_at "binaryOp Mod int int") => `(tactic| (k_here; (with_reducible refine' fm_is ?e9 ?h9 ?_); (case e9 => with_reducible assumption); (case h9 => omega)))
local macro_rules | `(tactic| walk_at "binaryOp LShift int int") => `(tactic| (k_here; (with_reducible refine ls_is ?e9 ?h9 ?g9 ?_); (case e9 => first | exact ⟨by omega, by omega⟩ | exact limb_small (by assumption) (by assumption) (by assumption) (by assumption)); (case h9 => omega); (case g9 => omega)))
local macro_rules | `(tactic| walk_at "UnrEnd") => `(tactic| (k_here; (refine' unrEnd0 ?h8 ?h9 ?g9 ?_); (case h8 => assumption); (case h9 => assumption); (case g9 => first | (with_unfolding_all assumption) | ((simp only [AllLt, and_true]); omega))))
local macro_rules | `(tactic| walk_at "call ref") => `(tactic| (k_extra "call ref"))
local macro_rules | `(tactic| k_room) => `(tactic| first | ((try dsimp only [ktrTop, Around.deeper]); omega) | ktr_room)
theorem c_cmp11' (x y : Int) (tx ty : Tok) (l l2 : Addr) (c c2 : Nat) : CtrO prog w mean mg mb 72 1 [(l, listOf [Value.int x tx].toArray c), (l2, listOf [Value.int y ty].toArray c2)] [.ref l, .ref l2] (RetI (cmpI x y)) := by
  w_top off
  have hf : (hd.heap_39 = hd.heap_39) ∧ (PySem.Challenge.rw_xw0114_01 = PySem.Challenge.rw_xw0114_01) := by
    k_fill
    exact ⟨rfl, rfl⟩
  clear hf
  intro dp un gd cn cs a ccd cl outer A₀ base h₀ L m d o s Q E B F X N T hk hd hu hret
  simp only [List.nil_append, List.cons_append] at N hret
  have mk := kstMark
  have i0 : IntsAre [] [] := .nil
  k_with_none
  refine wpAny_call ?_
  k_dflt cell_enter
  k_steps
  all_goals first
    | (refine' endI (Q := Q) (s := s) hret ?e1 ?e2 ?e3 ?e4; (case e1 => assumption); (case e2 => assumption); (case e3 => (intro p hp; repeat (first | exact hp | apply List.Mem.tail))); (case e4 => first | exact cmpI_eq (by assumption) | exact cmpI_lt (by assumption) (by assumption) | exact cmpI_gt (by assumption) (by assumption)))
    | (exfalso; omega)

theorem c_cmp11 (x y : Int) (tx ty : Tok) (l l2 : Addr) (c c2 : Nat) : Ctr prog w mean mg mb 72 1 [(l, listOf [Value.int x tx].toArray c), (l2, listOf [Value.int y ty].toArray c2)] [.ref l, .ref l2] (RetI (cmpI x y)) := liftI (List.cons_ne_nil _ _) (c_cmp11' x y tx ty l l2 c c2)
end
section
variable {prog : Program} {w : World} {mean : ExcName → Option Value} {mg mb : Str → Option Value}

local macro_rules | `(tactic| walk_at "binaryOp FloorDiv int int") => `(tactic| (k_here; (with_reducible refine' fd_is ?e9 ?h9 ?g9 ?_); (case e9 => with_reducible assumption); (case h9 => omega); (case g9 => omega)))
local macro_rules | `(tactic| walk_at "binaryOp Mod int int") => `(tactic| (k_here; (with_reducible refine' fm_is ?e9 ?h9 ?_); (case e9 => with_reducible assumption); (case h9 => omega)))
local macro_rules | `(tactic| walk_at "binaryOp LShift int int") => `(tactic| (k_here; (with_reducible refine ls_is ?e9 ?h9 ?g9 ?_); (case e9 => first | exact ⟨by omega, by omega⟩ | exact limb_small (by assumption) (by assumption) (by assumption) (by assumption)); (case h9 => omega); (case g9 => omega)))
local macro_rules | `(tactic| walk_at "UnrEnd") => `(tactic| (k_here; (refine' unrEnd0 ?h8 ?h9 ?g9 ?_); (case h8 => assumption); (case h9 => assumption); (case g9 => first | (with_unfolding_all assumption) | ((simp only [AllLt, and_true]); omega))))
local macro_rules | `(tactic| walk_at "call ref") => `(tactic| (k_extra "call ref"))
local macro_rules | `(tactic| k_room) => `(tactic| first | ((try dsimp only [ktrTop, Around.deeper]); omega) | ktr_room)
theorem c_cmp21' (x x1 y : Int) (tx tx1 ty : Tok) (l l2 : Addr) (c c2 : Nat) : CtrO prog w mean mg mb 72 1 [(l, listOf [Value.int x tx, Value.int x1 tx1].toArray c), (l2, listOf [Value.int y ty].toArray c2)] [.ref l, .ref l2] (RetI 1) := by
  w_top off
  have hf : (hd.heap_39 = hd.heap_39) ∧ (PySem.Challenge.rw_xw0114_01 = PySem.Challenge.rw_xw0114_01) := by
    k_fill
    exact ⟨rfl, rfl⟩
  clear hf
  intro dp un gd cn cs a ccd cl outer A₀ base h₀ L m d o s Q E B F X N T hk hd hu hret
  simp only [List.nil_append, List.cons_append] at N hret
  have mk := kstMark
  have i0 : IntsAre [] [] := .nil
  k_with_none
  refine wpAny_call ?_
  k_dflt cell_enter
  k_steps
  all_goals first
    | (refine' endI (Q := Q) (s := s) hret ?e1 ?e2 ?e3 ?e4; (case e1 => assumption); (case e2 => assumption); (case e3 => (intro p hp; repeat (first | exact hp | apply List.Mem.tail))); (case e4 => rfl))
    | (exfalso; omega)

theorem c_cmp21 (x x1 y : Int) (tx tx1 ty : Tok) (l l2 : Addr) (c c2 : Nat) : Ctr prog w mean mg mb 72 1 [(l, listOf [Value.int x tx, Value.int x1 tx1].toArray c), (l2, listOf [Value.int y ty].toArray c2)] [.ref l, .ref l2] (RetI 1) := liftI (List.cons_ne_nil _ _) (c_cmp21' x x1 y tx tx1 ty l l2 c c2)
end
section
variable {prog : Program} {w : World} {mean : ExcName → Option Value} {mg mb : Str → Option Value}

local macro_rules | `(tactic| walk_at "binaryOp FloorDiv int int") => `(tactic| (k_here; (with_reducible refine' fd_is ?e9 ?h9 ?g9 ?_); (case e9 => with_reducible assumption); (case h9 => omega); (case g9 => omega)))
local macro_rules | `(tactic| walk_at "binaryOp Mod int int") => `(tactic| (k_here; (with_reducible refine' fm_is ?e9 ?h9 ?_); (case e9 => with_reducible assumption); (case h9 => omega)))
local macro_rules | `(tactic| walk_at "binaryOp LShift int int") => `(tactic| (k_here; (with_reducible refine ls_is ?e9 ?h9 ?g9 ?_); (case e9 => first | exact ⟨by omega, by omega⟩ | exact limb_small (by assumption) (by assumption) (by assumption) (by assumption)); (case h9 => omega); (case g9 => omega)))
local macro_rules | `(tactic| walk_at "UnrEnd") => `(tactic| (k_here; (refine' unrEnd0 ?h8 ?h9 ?g9 ?_); (case h8 => assumption); (case h9 => assumption); (case g9 => first | (with_unfolding_all assumption) | ((simp only [AllLt, and_true]); omega))))
local macro_rules | `(tactic| walk_at "call ref") => `(tactic| (k_extra "call ref"))
local macro_rules | `(tactic| k_room) => `(tactic| first | ((try dsimp only [ktrTop, Around.deeper]); omega) | ktr_room)
theorem c_cmp22' (x x1 y y1 : Int) (tx tx1 ty ty1 : Tok) (l l2 : Addr) (c c2 : Nat) : CtrO prog w mean mg mb 72 1 [(l, listOf [Value.int x tx, Value.int x1 tx1].toArray c), (l2, listOf [Value.int y ty, Value.int y1 ty1].toArray c2)] [.ref l, .ref l2] (RetI (cmp2 x x1 y y1)) := by
  w_top off
  have hf : (hd.heap_39 = hd.heap_39) ∧ (PySem.Challenge.rw_xw0114_01 = PySem.Challenge.rw_xw0114_01) := by
    k_fill
    exact ⟨rfl, rfl⟩
  clear hf
  intro dp un gd cn cs a ccd cl outer A₀ base h₀ L m d o s Q E B F X N T hk hd hu hret
  simp only [List.nil_append, List.cons_append] at N hret
  have mk := kstMark
  have i0 : IntsAre [] [] := .nil
  k_with_none
  refine wpAny_call ?_
  k_dflt cell_enter
  k_steps
  all_goals first
    | (refine' endI (Q := Q) (s := s) hret ?e1 ?e2 ?e3 ?e4; (case e1 => assumption); (case e2 => assumption); (case e3 => (intro p hp; repeat (first | exact hp | apply List.Mem.tail))); (case e4 => first | exact cmp2_a (by assumption) (cmpI_lt (by assumption) (by assumption)) | exact cmp2_a (by assumption) (cmpI_gt (by assumption) (by assumption)) | exact cmp2_b (by assumption) (cmpI_eq (by assumption)) | exact cmp2_b (by assumption) (cmpI_lt (by assumption) (by assumption)) | exact cmp2_b (by assumption) (cmpI_gt (by assumption) (by assumption))))
    | (exfalso; omega)

theorem c_cmp22 (x x1 y y1 : Int) (tx tx1 ty ty1 : Tok) (l l2 : Addr) (c c2 : Nat) : Ctr prog w mean mg mb 72 1 [(l, listOf [Value.int x tx, Value.int x1 tx1].toArray c), (l2, listOf [Value.int y ty, Value.int y1 ty1].toArray c2)] [.ref l, .ref l2] (RetI (cmp2 x x1 y y1)) := liftI (List.cons_ne_nil _ _) (c_cmp22' x x1 y y1 tx tx1 ty ty1 l l2 c c2)
end
section
variable {prog : Program} {w : World} {mean : ExcName → Option Value} {mg mb : Str → Option Value}

local macro_rules | `(tactic| walk_at "binaryOp FloorDiv int int") => `(tactic| (k_here; (with_reducible refine' fd_is ?e9 ?h9 ?g9 ?_); (case e9 => with_reducible assumption); (case h9 => omega); (case g9 => omega)))
local macro_rules | `(tactic| walk_at "binaryOp Mod int int") => `(tactic| (k_here; (with_reducible refine' fm_is ?e9 ?h9 ?_); (case e9 => with_reducible assumption); (case h9 => omega)))
local macro_rules | `(tactic| walk_at "binaryOp LShift int int") => `(tactic| (k_here; (with_reducible refine ls_is ?e9 ?h9 ?g9 ?_); (case e9 => first | exact ⟨by omega, by omega⟩ | exact limb_small (by assumption) (by assumption) (by assumption) (by assumption)); (case h9 => omega); (case g9 => omega)))
local macro_rules | `(tactic| walk_at "UnrEnd") => `(tactic| (k_here; (refine' unrEnd0 ?h8 ?h9 ?g9 ?_); (case h8 => assumption); (case h9 => assumption); (case g9 => first | (with_unfolding_all assumption) | ((simp only [AllLt, and_true]); omega))))
local macro_rules | `(tactic| walk_at "call ref") => `(tactic| (k_extra "call ref"))
local macro_rules | `(tactic| k_room) => `(tactic| first | ((try dsimp only [ktrTop, Around.deeper]); omega) | ktr_room)
theorem c_sub11' (x y wd : Int) (tw tx ty : Tok) (l l2 : Addr) (c c2 : Nat) (h1 : x < 2 ^ wd.toNat) (g0 : 0 ≤ y) (g1 : y ≤ x) (hw : 8 ≤ wd) (hw' : wd ≤ 12) : CtrO prog w mean mg mb 86 2 [(l, listOf [Value.int x tx].toArray c), (l2, listOf [Value.int y ty].toArray c2)] [.ref l, .ref l2, .int wd tw] (RetL (digs (2 ^ wd.toNat) (x - y))) := by
  w_top off
  have hf : (hd.heap_39 = hd.heap_39) ∧ (PySem.Challenge.rw_xw0114_01 = PySem.Challenge.rw_xw0114_01) := by
    k_fill
    exact ⟨rfl, rfl⟩
  clear hf
  intro dp un gd cn cs a ccd cl outer A₀ base h₀ L m d o s Q E B F X N T hk hd hu hret
  simp only [List.nil_append, List.cons_append] at N hret
  have mk := kstMark
  have i0 : IntsAre [] [] := .nil
  have hB : (2 : Int) ≤ 2 ^ wd.toNat := two_le hw
  have hlo := pw_lo hw
  have hhi := pw_hi hw'
  have hcmp := cmpI_le g1
  k_with_none
  k_with "call ref" => first
    | k_dflt (k_here; (with_reducible show wpAny _ _ (call (Value.ref 58) _) _ _ _); (k_dflt (refine' useL (c_norm _ _ _ _ ?hi ?hn) ?kB ?kF ?kX ?kN ?kT ?kK ?km ?kd ?ku ?_)); (case kB => k_asm); (case kF => k_asm); (case kX => k_asm); (case kN => k_asm); (case kT => k_asm); (case kK => first | exact rfl | assumption); (case km => (repeat (first | exact List.forall_mem_nil _ | (refine List.forall_mem_cons.mpr ⟨by k_mem, ?_⟩)))); (case hi => first | assumption | exact .nil | exact .cons _ _ .nil | exact .cons _ _ (.cons _ _ .nil)); (case hn => first | assumption | decide | (simp; done) | (simp; omega)); (case kd => first | ((try dsimp only [ktrTop, Around.deeper]); omega) | ktr_room); (case ku => first | ((try dsimp only [ktrTop, Around.deeper]); omega) | ktr_units); intro D' us' c' h' tk' F' N' l1 iR'; (try simp only [AllLt, and_true] at l1); (try dsimp only); (try k_fold))
    | k_dflt (k_here; (with_reducible show wpAny _ _ (call (Value.ref 72) _) _ _ _); (k_dflt (refine' useI (c_cmp11 _ _ _ _ _ _ _ _) ?kB ?kF ?kX ?kN ?kT ?kK ?km ?kd ?ku ?_)); (case kB => k_asm); (case kF => k_asm); (case kX => k_asm); (case kN => k_asm); (case kT => k_asm); (case kK => first | exact rfl | assumption); (case km => (repeat (first | exact List.forall_mem_nil _ | (refine List.forall_mem_cons.mpr ⟨by k_mem, ?_⟩)))); (case kd => first | ((try dsimp only [ktrTop, Around.deeper]); omega) | ktr_room); (case ku => first | ((try dsimp only [ktrTop, Around.deeper]); omega) | ktr_units); intro t' h' tk' F' N'; (try dsimp only); (try k_fold))
  refine wpAny_call ?_
  k_dflt cell_enter
  k_steps
  all_goals first
    | (refine' endL (Q := Q) (s := s) hret ?e1 ?e2 ?e3 ?e4 ?e5 ?e6 ?e7; (case e1 => assumption); (case e2 => assumption); (case e3 => k_mem); (case e4 => (intro p hp; repeat (first | exact hp | apply List.Mem.tail))); (case e5 => first | assumption | exact allLt_of (by assumption) | ((simp only [AllLt, and_true]); omega) | ((simp only [AllLt, and_true]); (try simp only [AllLt, and_true] at *); simp_all)); (case e6 => first | assumption | exact .cons _ _ .nil | exact intsPush (by assumption)); (case e7 => first | exact (sub11_no (by assumption) g1).elim | exact sub11_a hB h1 g0 g1))
    | (exfalso; omega)

theorem c_sub11 (x y wd : Int) (tw tx ty : Tok) (l l2 : Addr) (c c2 : Nat) (h1 : x < 2 ^ wd.toNat) (g0 : 0 ≤ y) (g1 : y ≤ x) (hw : 8 ≤ wd) (hw' : wd ≤ 12) : Ctr prog w mean mg mb 86 2 [(l, listOf [Value.int x tx].toArray c), (l2, listOf [Value.int y ty].toArray c2)] [.ref l, .ref l2, .int wd tw] (RetL (digs (2 ^ wd.toNat) (x - y))) := liftL (List.cons_ne_nil _ _) (c_sub11' x y wd tw tx ty l l2 c c2 h1 g0 g1 hw hw')
end
section
variable {prog : Program} {w : World} {mean : ExcName → Option Value} {mg mb : Str → Option Value}

local macro_rules | `(tactic| walk_at "binaryOp FloorDiv int int") => `(tactic| (k_here; (with_reducible refine' fd_is ?e9 ?h9 ?g9 ?_); (case e9 => with_reducible assumption); (case h9 => omega); (case g9 => omega)))
local macro_rules | `(tactic| walk_at "binaryOp Mod int int") => `(tactic| (k_here; (with_reducible refine' fm_is ?e9 ?h9 ?_); (case e9 => with_reducible assumption); (case h9 => omega)))
local macro_rules | `(tactic| walk_at "binaryOp LShift int int") => `(tactic| (k_here; (with_reducible refine ls_is ?e9 ?h9 ?g9 ?_); (case e9 => first | exact ⟨by omega, by omega⟩ | exact limb_small (by assumption) (by assumption) (by assumption) (by assumption)); (case h9 => omega); (case g9 => omega)))
local macro_rules | `(tactic| walk_at "UnrEnd") => `(tactic| (k_here; (refine' unrEnd0 ?h8 ?h9 ?g9 ?_); (case h8 => assumption); (case h9 => assumption); (case g9 => first | (with_unfolding_all assumption) | ((simp only [AllLt, and_true]); omega))))
local macro_rules | `(tactic| walk_at "call ref") => `(tactic| (k_extra "call ref"))
local macro_rules | `(tactic| k_room) => `(tactic| first | ((try dsimp only [ktrTop, Around.deeper]); omega) | ktr_room)
theorem c_sub21' (x x1 y wd : Int) (tw tx tx1 ty : Tok) (l l2 : Addr) (c c2 : Nat) (h0 : 0 ≤ x) (h1 : x < 2 ^ wd.toNat) (h0' : 0 < x1) (h1' : x1 < 2 ^ wd.toNat) (g0 : 0 ≤ y) (g1 : y < 2 ^ wd.toNat) (hw : 8 ≤ wd) (hw' : wd ≤ 12) : CtrO prog w mean mg mb 86 2 [(l, listOf [Value.int x tx, Value.int x1 tx1].toArray c), (l2, listOf [Value.int y ty].toArray c2)] [.ref l, .ref l2, .int wd tw] (RetL (digs (2 ^ wd.toNat) ((x + 2 ^ wd.toNat * x1) - (y + 2 ^ wd.toNat * 0)))) := by
  w_top off
  have hf : (hd.heap_39 = hd.heap_39) ∧ (PySem.Challenge.rw_xw0114_01 = PySem.Challenge.rw_xw0114_01) := by
    k_fill
    exact ⟨rfl, rfl⟩
  clear hf
  intro dp un gd cn cs a ccd cl outer A₀ base h₀ L m d o s Q E B F X N T hk hd hu hret
  simp only [List.nil_append, List.cons_append] at N hret
  have mk := kstMark
  have i0 : IntsAre [] [] := .nil
  have hB : (2 : Int) ≤ 2 ^ wd.toNat := two_le hw
  have hlo := pw_lo hw
  have hhi := pw_hi hw'
  have hge : y + 2 ^ wd.toNat * 0 ≤ x + 2 ^ wd.toNat * x1 := by
    have := Int.mul_le_mul_of_nonneg_left (show 1 ≤ x1 by omega) (show 0 ≤ (2 : Int) ^ wd.toNat by omega)
    omega
  k_with_none
  k_with "call ref" => first
    | k_dflt (k_here; (with_reducible show wpAny _ _ (call (Value.ref 58) _) _ _ _); (k_dflt (refine' useL (c_norm _ _ _ _ ?hi ?hn) ?kB ?kF ?kX ?kN ?kT ?kK ?km ?kd ?ku ?_)); (case kB => k_asm); (case kF => k_asm); (case kX => k_asm); (case kN => k_asm); (case kT => k_asm); (case kK => first | exact rfl | assumption); (case km => (repeat (first | exact List.forall_mem_nil _ | (refine List.forall_mem_cons.mpr ⟨by k_mem, ?_⟩)))); (case hi => first | assumption | exact .nil | exact .cons _ _ .nil | exact .cons _ _ (.cons _ _ .nil)); (case hn => first | assumption | decide | (simp; done) | (simp; omega)); (case kd => first | ((try dsimp only [ktrTop, Around.deeper]); omega) | ktr_room); (case ku => first | ((try dsimp only [ktrTop, Around.deeper]); omega) | ktr_units); intro D' us' c' h' tk' F' N' l1 iR'; (try simp only [AllLt, and_true] at l1); (try dsimp only); (try k_fold))
    | k_dflt (k_here; (with_reducible show wpAny _ _ (call (Value.ref 72) _) _ _ _); (k_dflt (refine' useI (c_cmp21 _ _ _ _ _ _ _ _ _ _) ?kB ?kF ?kX ?kN ?kT ?kK ?km ?kd ?ku ?_)); (case kB => k_asm); (case kF => k_asm); (case kX => k_asm); (case kN => k_asm); (case kT => k_asm); (case kK => first | exact rfl | assumption); (case km => (repeat (first | exact List.forall_mem_nil _ | (refine List.forall_mem_cons.mpr ⟨by k_mem, ?_⟩)))); (case kd => first | ((try dsimp only [ktrTop, Around.deeper]); omega) | ktr_room); (case ku => first | ((try dsimp only [ktrTop, Around.deeper]); omega) | ktr_units); intro t' h' tk' F' N'; (try dsimp only); (try k_fold))
  refine wpAny_call ?_
  k_dflt cell_enter
  k_steps
  all_goals first
    | (refine' endL (Q := Q) (s := s) hret ?e1 ?e2 ?e3 ?e4 ?e5 ?e6 ?e7; (case e1 => assumption); (case e2 => assumption); (case e3 => k_mem); (case e4 => (intro p hp; repeat (first | exact hp | apply List.Mem.tail))); (case e5 => first | assumption | exact allLt_of (by assumption) | ((simp only [AllLt, and_true]); omega) | ((simp only [AllLt, and_true]); (try simp only [AllLt, and_true] at *); simp_all)); (case e6 => first | assumption | exact .cons _ _ .nil | exact intsPush (by assumption)); (case e7 => first | exact (sub2_noA hB h1 g0 h0 hge (by assumption) (by assumption)).elim | exact sub2_b hB h1 h1' g0 g1 h0 (by decide) (by assumption) (by assumption) | exact (sub2_noC hB h1 g0 h0 hge (by assumption)).elim | exact sub2_d hB h1 h1' g0 (by decide) (by assumption) (by assumption)))
    | (exfalso; omega)

theorem c_sub21 (x x1 y wd : Int) (tw tx tx1 ty : Tok) (l l2 : Addr) (c c2 : Nat) (h0 : 0 ≤ x) (h1 : x < 2 ^ wd.toNat) (h0' : 0 < x1) (h1' : x1 < 2 ^ wd.toNat) (g0 : 0 ≤ y) (g1 : y < 2 ^ wd.toNat) (hw : 8 ≤ wd) (hw' : wd ≤ 12) : Ctr prog w mean mg mb 86 2 [(l, listOf [Value.int x tx, Value.int x1 tx1].toArray c), (l2, listOf [Value.int y ty].toArray c2)] [.ref l, .ref l2, .int wd tw] (RetL (digs (2 ^ wd.toNat) ((x + 2 ^ wd.toNat * x1) - (y + 2 ^ wd.toNat * 0)))) := liftL (List.cons_ne_nil _ _) (c_sub21' x x1 y wd tw tx tx1 ty l l2 c c2 h0 h1 h0' h1' g0 g1 hw hw')
end
section
variable {prog : Program} {w : World} {mean : ExcName → Option Value} {mg mb : Str → Option Value}

local macro_rules | `(tactic| walk_at "binaryOp FloorDiv int int") => `(tactic| (k_here; (with_reducible refine' fd_is ?e9 ?h9 ?g9 ?_); (case e9 => with_reducible assumption); (case h9 => omega); (case g9 => omega)))
local macro_rules | `(tactic| walk_at "binaryOp Mod int int") => `(tactic| (k_here; (with_reducible refine' fm_is ?e9 ?h9 ?_); (case e9 => with_reducible assumption); (case h9 => omega)))
local macro_rules | `(tactic| walk_at "binaryOp LShift int int") => `(tactic| (k_here; (with_reducible refine ls_is ?e9 ?h9 ?g9 ?_); (case e9 => first | exact ⟨by omega, by omega⟩ | exact limb_small (by assumption) (by assumption) (by assumption) (by assumption)); (case h9 => omega); (case g9 => omega)))
local macro_rules | `(tactic| walk_at "UnrEnd") => `(tactic| (k_here; (refine' unrEnd0 ?h8 ?h9 ?g9 ?_); (case h8 => assumption); (case h9 => assumption); (case g9 => first | (with_unfolding_all assumption) | ((simp only [AllLt, and_true]); omega))))
local macro_rules | `(tactic| walk_at "call ref") => `(tactic| (k_extra "call ref"))
local macro_rules | `(tactic| k_room) => `(tactic| first | ((try dsimp only [ktrTop, Around.deeper]); omega) | ktr_room)
theorem c_sub22' (x x1 y y1 wd : Int) (tw tx tx1 ty ty1 : Tok) (l l2 : Addr) (c c2 : Nat) (h0 : 0 ≤ x) (h1 : x < 2 ^ wd.toNat) (h0' : 0 < x1) (h1' : x1 < 2 ^ wd.toNat) (g0 : 0 ≤ y) (g1 : y < 2 ^ wd.toNat) (g0' : 0 < y1) (g1' : y1 < 2 ^ wd.toNat) (hge : y + 2 ^ wd.toNat * y1 ≤ x + 2 ^ wd.toNat * x1) (hw : 8 ≤ wd) (hw' : wd ≤ 12) : CtrO prog w mean mg mb 86 2 [(l, listOf [Value.int x tx, Value.int x1 tx1].toArray c), (l2, listOf [Value.int y ty, Value.int y1 ty1].toArray c2)] [.ref l, .ref l2, .int wd tw] (RetL (digs (2 ^ wd.toNat) ((x + 2 ^ wd.toNat * x1) - (y + 2 ^ wd.toNat * y1)))) := by
  w_top off
  have hf : (hd.heap_39 = hd.heap_39) ∧ (PySem.Challenge.rw_xw0114_01 = PySem.Challenge.rw_xw0114_01) := by
    k_fill
    exact ⟨rfl, rfl⟩
  clear hf
  intro dp un gd cn cs a ccd cl outer A₀ base h₀ L m d o s Q E B F X N T hk hd hu hret
  simp only [List.nil_append, List.cons_append] at N hret
  have mk := kstMark
  have i0 : IntsAre [] [] := .nil
  have hB : (2 : Int) ≤ 2 ^ wd.toNat := two_le hw
  have hlo := pw_lo hw
  have hhi := pw_hi hw'
  have hcmp := cmp2_le hB h0 h1 g0 g1 hge
  have g0x : 0 ≤ y1 := by omega
  k_with_none
  k_with "call ref" => first
    | k_dflt (k_here; (with_reducible show wpAny _ _ (call (Value.ref 58) _) _ _ _); (k_dflt (refine' useL (c_norm _ _ _ _ ?hi ?hn) ?kB ?kF ?kX ?kN ?kT ?kK ?km ?kd ?ku ?_)); (case kB => k_asm); (case kF => k_asm); (case kX => k_asm); (case kN => k_asm); (case kT => k_asm); (case kK => first | exact rfl | assumption); (case km => (repeat (first | exact List.forall_mem_nil _ | (refine List.forall_mem_cons.mpr ⟨by k_mem, ?_⟩)))); (case hi => first | assumption | exact .nil | exact .cons _ _ .nil | exact .cons _ _ (.cons _ _ .nil)); (case hn => first | assumption | decide | (simp; done) | (simp; omega)); (case kd => first | ((try dsimp only [ktrTop, Around.deeper]); omega) | ktr_room); (case ku => first | ((try dsimp only [ktrTop, Around.deeper]); omega) | ktr_units); intro D' us' c' h' tk' F' N' l1 iR'; (try simp only [AllLt, and_true] at l1); (try dsimp only); (try k_fold))
    | k_dflt (k_here; (with_reducible show wpAny _ _ (call (Value.ref 72) _) _ _ _); (k_dflt (refine' useI (c_cmp22 _ _ _ _ _ _ _ _ _ _ _ _) ?kB ?kF ?kX ?kN ?kT ?kK ?km ?kd ?ku ?_)); (case kB => k_asm); (case kF => k_asm); (case kX => k_asm); (case kN => k_asm); (case kT => k_asm); (case kK => first | exact rfl | assumption); (case km => (repeat (first | exact List.forall_mem_nil _ | (refine List.forall_mem_cons.mpr ⟨by k_mem, ?_⟩)))); (case kd => first | ((try dsimp only [ktrTop, Around.deeper]); omega) | ktr_room); (case ku => first | ((try dsimp only [ktrTop, Around.deeper]); omega) | ktr_units); intro t' h' tk' F' N'; (try dsimp only); (try k_fold))
  refine wpAny_call ?_
  k_dflt cell_enter
  k_steps
  all_goals first
    | (refine' endL (Q := Q) (s := s) hret ?e1 ?e2 ?e3 ?e4 ?e5 ?e6 ?e7; (case e1 => assumption); (case e2 => assumption); (case e3 => k_mem); (case e4 => (intro p hp; repeat (first | exact hp | apply List.Mem.tail))); (case e5 => first | assumption | exact allLt_of (by assumption) | ((simp only [AllLt, and_true]); omega) | ((simp only [AllLt, and_true]); (try simp only [AllLt, and_true] at *); simp_all)); (case e6 => first | assumption | exact .cons _ _ .nil | exact intsPush (by assumption)); (case e7 => first | exact (sub2_noA hB h1 g0 h0 hge (by assumption) (by assumption)).elim | exact sub2_b hB h1 h1' g0 g1 h0 g0x (by assumption) (by assumption) | exact (sub2_noC hB h1 g0 h0 hge (by assumption)).elim | exact sub2_d hB h1 h1' g0 g0x (by assumption) (by assumption)))
    | (exfalso; omega)

theorem c_sub22 (x x1 y y1 wd : Int) (tw tx tx1 ty ty1 : Tok) (l l2 : Addr) (c c2 : Nat) (h0 : 0 ≤ x) (h1 : x < 2 ^ wd.toNat) (h0' : 0 < x1) (h1' : x1 < 2 ^ wd.toNat) (g0 : 0 ≤ y) (g1 : y < 2 ^ wd.toNat) (g0' : 0 < y1) (g1' : y1 < 2 ^ wd.toNat) (hge : y + 2 ^ wd.toNat * y1 ≤ x + 2 ^ wd.toNat * x1) (hw : 8 ≤ wd) (hw' : wd ≤ 12) : Ctr prog w mean mg mb 86 2 [(l, listOf [Value.int x tx, Value.int x1 tx1].toArray c), (l2, listOf [Value.int y ty, Value.int y1 ty1].toArray c2)] [.ref l, .ref l2, .int wd tw] (RetL (digs (2 ^ wd.toNat) ((x + 2 ^ wd.toNat * x1) - (y + 2 ^ wd.toNat * y1)))) := liftL (List.cons_ne_nil _ _) (c_sub22' x x1 y y1 wd tw tx tx1 ty ty1 l l2 c c2 h0 h1 h0' h1' g0 g1 g0' g1' hge hw hw')
end
section
section
variable {prog : Program} {w : World} {A : Around} {E : Value → Shared → Prop} {s : Shared} {Q : Value → Shared → Prop} {a b q : Int} {t u : Tok}
theorem mul_is (e : a * b = q) (h0 : -1000000 < a) (h1 : a < 1000000) (h : Q (.int q s.toks) { s with toks := s.toks + 1 }) : wpAny (model prog w) A (binaryOp .Mult (.int a t) (.int b u)) Q E s := by
  subst e
  exact mul_int h (IntMulOk.of_left (intBits_le_64 (by omega) (by omega)))
end
theorem digs_two {B X : Int} (hB : 2 ≤ B) (h0 : B ≤ X) (h1 : X < B * B) : digs B X = [X % B, X / B] := by
  have q1 : 1 ≤ X / B := (Int.le_ediv_iff_mul_le (by omega)).mpr (by omega)
  have q2 : X / B < B := Int.ediv_lt_of_lt_mul (by omega) h1
  rw [digs_pos hB (by omega), digs_one hB (by omega) q2]
theorem root_is (X : Nat) : ∃ R : Int, 0 ≤ R ∧ R * R ≤ X ∧ (X : Int) < (R + 1) * (R + 1) := by
  induction X with
  | zero => exact ⟨0, by decide⟩
  | succ X ih =>
    obtain ⟨R, h0, h1, h2⟩ := ih
    by_cases h : ((X + 1 : Nat) : Int) < (R + 1) * (R + 1)
    · exact ⟨R, h0, by omega, h⟩
    · refine ⟨R + 1, by omega, by omega, ?_⟩
      have := sq_add (R + 1) 1
      omega
theorem root_of {X : Int} (h : 0 ≤ X) : ∃ R : Int, 0 ≤ R ∧ R * R ≤ X ∧ X < (R + 1) * (R + 1) := by
  obtain ⟨n, rfl⟩ := Int.eq_ofNat_of_zero_le h
  exact root_is n
theorem root_lt {X R B : Int} (hB : 0 ≤ B) (h1 : R * R ≤ X) (hX : X < B * B) : R < B := by
  by_cases h : R < B
  · exact h
  · have := sq_mono hB (show B ≤ R by omega); omega
/-- the root of the shifted is the shifted root -/
theorem root_shift {x r R : Int} {k : Nat} (hr0 : 0 ≤ r) (hr1 : r * r ≤ x) (hr2 : x < (r + 1) * (r + 1)) (hR0 : 0 ≤ R) (hR1 : R * R ≤ x * 2 ^ (2 * k)) (hR2 : x * 2 ^ (2 * k) < (R + 1) * (R + 1)) : R / 2 ^ k = r := by
  have hp := kbt_pos k
  have h4 : (2 : Int) ^ (2 * k) = 2 ^ k * 2 ^ k := by rw [show 2 * k = k + k by omega, Int.pow_add]
  generalize (2 : Int) ^ k = p at *
  rw [h4] at hR1 hR2
  have g1 : r * p ≤ R := by
    by_cases h : r * p ≤ R
    · exact h
    · exfalso
      have a1 := sq_mono (show 0 ≤ R + 1 by omega) (show R + 1 ≤ r * p by omega)
      have a2 := Int.mul_le_mul_of_nonneg_right hr1 (show 0 ≤ p * p from Int.mul_nonneg (by omega) (by omega))
      have e : r * p * (r * p) = r * r * (p * p) := by rw [Int.mul_assoc, Int.mul_left_comm p r p, ← Int.mul_assoc]
      omega
  have g2 : R < (r + 1) * p := by
    by_cases h : R < (r + 1) * p
    · exact h
    · exfalso
      have a1 := sq_mono (Int.mul_nonneg (show 0 ≤ r + 1 by omega) (show 0 ≤ p by omega)) (show (r + 1) * p ≤ R by omega)
      have a2 := Int.mul_lt_mul_of_pos_right hr2 (show 0 < p * p from Int.mul_pos hp hp)
      have e : (r + 1) * p * ((r + 1) * p) = (r + 1) * (r + 1) * (p * p) := by rw [Int.mul_assoc, Int.mul_left_comm p (r + 1) p, ← Int.mul_assoc]
      omega
  have f1 : r ≤ R / p := (Int.le_ediv_iff_mul_le hp).mpr g1
  have f2 : R / p < r + 1 := Int.ediv_lt_of_lt_mul hp g2
  omega
section
variable {prog : Program} {w : World} {mean : ExcName → Option Value} {mg mb : Str → Option Value} {f : Addr} {k : Nat} {args : List (Addr × Obj)} {vs : List Value}
variable {dp un : Nat} {gd : Option (List Code)} {cn : Str} {cs : Scope} {a : Addr} {ccd : Value} {cl : List (Str × Addr)} {outer : List Env} {A₀ : Around} {base h₀ : Heap} {L : Addr} {m : Str → Option Value} {news : List (Addr × Obj)} {s : Shared} {Q E : Value → Shared → Prop}
theorem useL2 {out : List Int} {x y : Int} (C : Ctr prog w mean mg mb f k args vs (RetL out)) (e : out = [x, y]) (B : Below A₀ base outer h₀) (F : Fr h₀ L s.heap m) (X : (hd.heap_39 w.params).In h₀) (N : News h₀ L s.heap news) (T : Top qv (looseW qv []) mean mg mb h₀) (hk : cs.kind = .function)
    (hm : ∀ p ∈ args, p ∈ news) (hd : dp + k < recursionLimit) (hu : un + 8 * k < cLine)
    (ret : ∀ (D : Addr) (t t' : Tok) (c : Nat) (h' : Heap) (tk' : Nat), Fr h₀ L h' m → News h₀ L h' ((D, listOf [Value.int x t, Value.int y t'].toArray c) :: news) → AllLt D news → Q (.ref D) { s with heap := h', toks := tk' }) :
    wpAny (model prog w) (ktrTop dp un gd cn cs L a ccd cl outer) (call (.ref f) vs) Q E s := by
  subst e
  refine useL C B F X N T hk hm hd hu fun D us c h' tk' F' N' hl hi => ?_
  cases hi with
  | cons _ t hi =>
    cases hi with
    | cons _ t' hi => cases hi; exact ret D t t' c h' tk' F' N' hl
end
theorem fdiv01 {n wd : Int} (hw : 0 < wd) (h0 : 0 ≤ n) (h1 : n < 2 * wd) : n.fdiv wd = 0 ∨ n.fdiv wd = 1 := by
  rw [Int.fdiv_eq_ediv_of_nonneg _ (by omega)]
  have a : 0 ≤ n / wd := Int.ediv_nonneg h0 (by omega)
  have b : n / wd < 2 := Int.ediv_lt_of_lt_mul hw h1
  omega
theorem fmodb {n wd : Int} (hw : 0 < wd) : 0 ≤ n.fmod wd ∧ n.fmod wd < wd := by
  rw [Int.fmod_eq_emod_of_nonneg _ (by omega)]
  exact ⟨Int.emod_nonneg _ (by omega), Int.emod_lt_of_pos _ hw⟩
theorem fdivs {n wd : Int} (h0 : 0 ≤ n) (h1 : n < wd) : n.fdiv wd = 0 := by
  rw [Int.fdiv_eq_ediv_of_nonneg _ (by omega)]
  exact Int.ediv_eq_zero_of_lt h0 h1
theorem fmods {n wd : Int} (h0 : 0 ≤ n) (h1 : n < wd) : n.fmod wd = n := by
  rw [Int.fmod_eq_emod_of_nonneg _ (by omega)]
  exact Int.emod_eq_of_lt h0 h1
theorem len12 {B x : Int} (hB : 2 ≤ B) (h0 : 0 < x) (h1 : x < B * B) : 1 ≤ (digs B x).length ∧ (digs B x).length ≤ 2 ∧ ((digs B x).length : Int).fmod 2 = 2 - ((digs B x).length : Int) := by
  by_cases h : x < B
  · rw [digs_one hB h0 h]; exact ⟨Nat.le_refl _, Nat.le_succ _, by show Int.fmod 1 2 = 2 - 1; decide⟩
  · rw [digs_two hB (by omega) h1]; exact ⟨by show 1 ≤ 2; omega, Nat.le_refl _, by show Int.fmod 2 2 = 2 - 2; decide⟩
theorem mod2 (y : Int) : ∃ mm hs : Int, y.fmod 2 = mm ∧ (y - mm).fdiv 2 = hs ∧ 0 ≤ mm ∧ mm < 2 ∧ y = 2 * hs + mm := by
  refine ⟨y % 2, y / 2, ?_, ?_, by omega, by omega, by omega⟩
  · exact Int.fmod_eq_emod_of_nonneg _ (by omega)
  · rw [Int.fdiv_eq_ediv_of_nonneg _ (by omega)]; omega
theorem shifted {x wd mm hs X : Int} {b : Nat} (hw : 8 ≤ wd) (hw' : wd ≤ 12) (hb0 : (2 : Int) ^ b ≤ x) (hb1 : x < 2 ^ (b + 1)) (hb12 : b < 12) (hm0 : 0 ≤ mm) (hm1 : mm < 2) (hsh : 2 * wd - ((b : Int) + 1) = 2 * hs + mm) (hX : x * 2 ^ (2 * wd - ((b : Int) + 1) - mm).toNat = X) :
    2 ^ wd.toNat ≤ X ∧ X < 2 ^ wd.toNat * 2 ^ wd.toNat ∧ X < 16777216 ∧ x * 2 ^ (2 * hs.toNat) = X := by
  have e : (2 * wd - ((b : Int) + 1) - mm).toNat = 2 * hs.toNat := by omega
  rw [e] at hX
  have hp := kbt_pos (2 * hs.toNat)
  have g1 : x * 2 ^ (2 * hs.toNat) < 2 ^ (b + 1) * 2 ^ (2 * hs.toNat) := Int.mul_lt_mul_of_pos_right hb1 hp
  have g0 : 2 ^ b * 2 ^ (2 * hs.toNat) ≤ x * 2 ^ (2 * hs.toNat) := Int.mul_le_mul_of_nonneg_right hb0 (by omega)
  rw [← Int.pow_add] at g0 g1
  have k1 : (2 : Int) ^ (b + 1 + 2 * hs.toNat) ≤ 2 ^ (wd.toNat + wd.toNat) := pw_mono (by omega)
  have k0 : (2 : Int) ^ wd.toNat ≤ 2 ^ (b + 2 * hs.toNat) := pw_mono (by omega)
  have k2 : (2 : Int) ^ (wd.toNat + wd.toNat) ≤ 2 ^ 24 := pw_mono (by omega)
  have k3 : (2 : Int) ^ 24 = 16777216 := by decide
  rw [Int.pow_add 2 wd.toNat wd.toNat] at k1 k2
  rw [hX] at g0 g1
  exact ⟨Int.le_trans k0 g0, Int.lt_of_lt_of_le g1 k1, by rw [k3] at k2; exact Int.lt_of_lt_of_le (Int.lt_of_lt_of_le g1 k1) k2, hX⟩
end
section
variable {prog : Program} {w : World} {mean : ExcName → Option Value} {mg mb : Str → Option Value}
theorem mod_bnd {B x : Int} (hB : 2 ≤ B) : 0 ≤ x % B ∧ x % B < B := ⟨Int.emod_nonneg _ (by omega), Int.emod_lt_of_pos _ (by omega)⟩
theorem div_bnd {B x : Int} (hB : 2 ≤ B) (h0 : B ≤ x) (h1 : x < B * B) : 0 < x / B ∧ x / B < B := by
  have q1 : 1 ≤ x / B := (Int.le_ediv_iff_mul_le (by omega)).mpr (by omega)
  exact ⟨by omega, Int.ediv_lt_of_lt_mul (by omega) h1⟩
theorem c_sub (x y wd : Int) (tw : Tok) (l l2 : Addr) (us us2 : List Value) (c c2 : Nat) (hi : IntsAre us (digs (2 ^ wd.toNat) x)) (hi2 : IntsAre us2 (digs (2 ^ wd.toNat) y)) (h1 : x < 2 ^ wd.toNat * 2 ^ wd.toNat) (g0 : 0 < y) (g1 : y ≤ x) (hw : 8 ≤ wd) (hw' : wd ≤ 12) :
    Ctr prog w mean mg mb 86 2 [(l, listOf us.toArray c), (l2, listOf us2.toArray c2)] [.ref l, .ref l2, .int wd tw] (RetL (digs (2 ^ wd.toNat) (x - y))) := by
  have hB := two_le hw
  by_cases hx : x < 2 ^ wd.toNat
  · rw [digs_one hB (by omega) hx] at hi
    rw [digs_one hB g0 (by omega)] at hi2
    cases hi with
    | cons _ t hi => cases hi; cases hi2 with
      | cons _ t' hi2 => cases hi2; exact c_sub11 _ _ _ _ _ _ _ _ _ _ hx (by omega) g1 hw hw'
  · have bx := mod_bnd (x := x) hB
    have cx := div_bnd hB (by omega) h1
    have ex := Int.emod_add_mul_ediv x (2 ^ wd.toNat)
    rw [digs_two hB (by omega) h1] at hi
    by_cases hy : y < 2 ^ wd.toNat
    · rw [digs_one hB g0 hy] at hi2
      cases hi with
      | cons _ t hi => cases hi with
        | cons _ t1 hi => cases hi; cases hi2 with
          | cons _ t' hi2 =>
            cases hi2
            have C := c_sub21 (prog := prog) (w := w) (mean := mean) (mg := mg) (mb := mb) (x % 2 ^ wd.toNat) (x / 2 ^ wd.toNat) y wd tw t t1 t' l l2 c c2 bx.1 bx.2 cx.1 cx.2 (by omega) hy hw hw'
            rw [ex, Int.mul_zero, Int.add_zero] at C
            exact C
    · have by' := mod_bnd (x := y) hB
      have cy := div_bnd hB (show (2 : Int) ^ wd.toNat ≤ y by omega) (by omega)
      have ey := Int.emod_add_mul_ediv y (2 ^ wd.toNat)
      rw [digs_two hB (by omega) (by omega)] at hi2
      cases hi with
      | cons _ t hi => cases hi with
        | cons _ t1 hi => cases hi; cases hi2 with
          | cons _ t' hi2 => cases hi2 with
            | cons _ t1' hi2 =>
              cases hi2
              have C := c_sub22 (prog := prog) (w := w) (mean := mean) (mg := mg) (mb := mb) (x % 2 ^ wd.toNat) (x / 2 ^ wd.toNat) (y % 2 ^ wd.toNat) (y / 2 ^ wd.toNat) wd tw t t1 t' t1' l l2 c c2 bx.1 bx.2 cx.1 cx.2 by'.1 by'.2 cy.1 cy.2 (by rw [ex, ey]; exact g1) hw hw'
              rw [ex, ey] at C
              exact C
end
section
variable {prog : Program} {w : World} {mean : ExcName → Option Value} {mg mb : Str → Option Value}

local macro_rules | `(tactic| walk_at "binaryOp FloorDiv int int") => `(tactic| (k_here; (with_reducible refine' fd_is ?e9 ?h9 ?g9 ?_); (case e9 => with_reducible assumption); (case h9 => omega); (case g9 => omega)))
local macro_rules | `(tactic| walk_at "binaryOp Mod int int") => `(tactic| (k_here; (with_reducible refine' fm_is ?e9 ?h9 ?_); (case e9 => with_reducible assumption); (case h9 => omega)))
local macro_rules | `(tactic| walk_at "binaryOp LShift int int") => `(tactic| (k_here; (with_reducible refine ls_is ?e9 ?h9 ?g9 ?_); (case e9 => first | exact ⟨by omega, by omega⟩ | exact limb_small (by assumption) (by assumption) (by assumption) (by assumption)); (case h9 => omega); (case g9 => omega)))
local macro_rules | `(tactic| walk_at "UnrEnd") => `(tactic| (k_here; (refine' unrEnd0 ?h8 ?h9 ?g9 ?_); (case h8 => assumption); (case h9 => assumption); (case g9 => first | (with_unfolding_all assumption) | ((simp only [AllLt, and_true]); omega))))
local macro_rules | `(tactic| walk_at "call ref") => `(tactic| (k_extra "call ref"))
local macro_rules | `(tactic| k_room) => `(tactic| first | ((try dsimp only [ktrTop, Around.deeper]); omega) | ktr_room)
local macro_rules | `(tactic| walk_at "binaryOp Mult int int") => `(tactic| (k_here; (with_reducible refine' mul_is ?e9 ?h9 ?g9 ?_); (case e9 => with_reducible assumption); (case h9 => omega); (case g9 => omega)))
theorem c_sqrt (x wd r : Int) (b : Nat) (tw t4 : Tok) (l : Addr) (us : List Value) (c : Nat) (hi : IntsAre us (digs (2 ^ wd.toNat) x)) (h5 : 5 ≤ x) (h1 : x < 4096) (hb0 : (2 : Int) ^ b ≤ x) (hb1 : x < 2 ^ (b + 1)) (hr0 : 0 < r) (hr1 : r * r ≤ x) (hr2 : x < (r + 1) * (r + 1)) (hw : 8 ≤ wd) (hw' : wd ≤ 12) : Ctr prog w mean mg mb 184 4 [(l, listOf us.toArray c)] [.ref l, .int wd tw, .int 4 t4, .ref 191, .ref 233] (RetT r (digs (2 ^ wd.toNat) (x - r * r))) := by
  w_top off
  have hf : (hd.heap_39 = hd.heap_39) ∧ (PySem.Challenge.rw_xw0114_01 = PySem.Challenge.rw_xw0114_01) := by
    k_fill
    exact ⟨rfl, rfl⟩
  clear hf
  intro dp un gd cn cs a ccd cl outer A₀ base h₀ L m rest s Q E B F X N T hk hd hu hret
  simp only [List.nil_append, List.cons_append] at N hret
  have mk := kstMark
  have i0 : IntsAre [] [] := .nil
  have hB : (2 : Int) ≤ 2 ^ wd.toNat := two_le hw
  have hlo := pw_lo hw
  have hhi := pw_hi hw'
  have husx := hi.length
  have hdlx := digs_len' (x := x) hB
  have h0 : 0 < x := by omega
  have h1x : x < 16777216 := by omega
  have hBB : (65536 : Int) ≤ 2 ^ wd.toNat * 2 ^ wd.toNat := sq_mono (show (0 : Int) ≤ 256 by omega) hlo
  have hxBB : x < 2 ^ wd.toNat * 2 ^ wd.toNat := by omega
  obtain ⟨hl1, hl2, hlm⟩ := len12 hB h0 hxBB
  have hM : (((digs (2 ^ wd.toNat) x).length : Int) + (2 - ((digs (2 ^ wd.toNat) x).length : Int))) * wd = 2 * wd := by
    rw [show (((digs (2 ^ wd.toNat) x).length : Int) + (2 - ((digs (2 ^ wd.toNat) x).length : Int))) = 2 by omega]
  have hb12 : b < 12 := pow_lt_of (Int.lt_of_le_of_lt hb0 h1)
  obtain ⟨mm, hs, hmm, hhs, hm0, hm1, hsh⟩ := mod2 (2 * wd - ((b : Int) + 1))
  obtain ⟨X, hX⟩ : ∃ X, x * 2 ^ (2 * wd - ((b : Int) + 1) - mm).toNat = X := ⟨_, rfl⟩
  obtain ⟨hXlo, hXhi, hX24, hXk⟩ := shifted hw hw' hb0 hb1 hb12 hm0 hm1 hsh hX
  obtain ⟨R, hR0, hR1, hR2⟩ := root_of (show 0 ≤ X by omega)
  have hRb : R < 2 ^ wd.toNat := root_lt (by omega) hR1 hXhi
  have hRp : 0 < R := by
    by_cases q : 0 < R
    · exact q
    · have : R = 0 := by omega
      subst this
      simp at hR2
      omega
  have hRr : R / 2 ^ hs.toNat = r := root_shift (by omega) hr1 hr2 hR0 (by rw [hXk]; exact hR1) (by rw [hXk]; exact hR2)
  have hr64 : r < 64 := root_lt (by omega) hr1 h1
  have hrB : r < 2 ^ wd.toNat := by omega
  have hrr : 0 < r * r := Int.mul_pos hr0 hr0
  have hs0 : 0 ≤ hs := by omega
  have hsw : hs < wd := by omega
  have hsq := fdivs hs0 hsw
  have hsf := fmods hs0 hsw
  have hX00 : 0 ≤ X := by omega
  have hXm := mod_bnd (x := X) hB
  have hXd := div_bnd hB hXlo hXhi
  have hXd0 : 0 ≤ X / 2 ^ wd.toNat := by omega
  have hXe : X / 2 ^ wd.toNat * 2 ^ wd.toNat + X % 2 ^ wd.toNat = X := Int.ediv_mul_add_emod X _
  k_with_none
  k_with "call ref" => first
    | k_dflt (k_here; (with_reducible show wpAny _ _ (call (Value.ref 128) _) _ _ _); (k_dflt (refine' useI (c_bits x wd b _ l us c hi h0 h1x hb0 hb1 hl2 hw hw') ?kB ?kF ?kX ?kN ?kT ?kK ?km ?kd ?ku ?_)); (case kB => k_asm); (case kF => k_asm); (case kX => k_asm); (case kN => k_asm); (case kT => k_asm); (case kK => first | exact rfl | assumption); (case km => (repeat (first | exact List.forall_mem_nil _ | (refine List.forall_mem_cons.mpr ⟨by k_mem, ?_⟩)))); (case kd => first | ((try dsimp only [ktrTop, Around.deeper]); omega) | ktr_room); (case ku => first | ((try dsimp only [ktrTop, Around.deeper]); omega) | ktr_units); intro t' h' tk' F' N'; (try dsimp only); (try k_fold))
    | k_dflt (k_here; (with_reducible show wpAny _ _ (call (Value.ref 114) _) _ _ _); (k_dflt (refine' useL2 (c_shl x _ wd _ _ l us c hi ?h0 h0 h1x ?hn ?hf0 ?hf1 ?hq hw hw') ?e1 ?kB ?kF ?kX ?kN ?kT ?kK ?km ?kd ?ku ?_)); (case kB => k_asm); (case kF => k_asm); (case kX => k_asm); (case kN => k_asm); (case kT => k_asm); (case kK => first | exact rfl | assumption); (case km => (repeat (first | exact List.forall_mem_nil _ | (refine List.forall_mem_cons.mpr ⟨by k_mem, ?_⟩)))); (case h0 => omega); (case hn => omega); (case hf0 => exact (fmodb (by omega)).1); (case hf1 => exact (fmodb (by omega)).2); (case hq => exact fdiv01 (by omega) (by omega) (by omega)); (case e1 => (rw [hX]; exact digs_two hB hXlo hXhi)); (case kd => first | ((try dsimp only [ktrTop, Around.deeper]); omega) | ktr_room); (case ku => first | ((try dsimp only [ktrTop, Around.deeper]); omega) | ktr_units); intro D' t' u' c' h' tk' F' N' l1; (try simp only [AllLt, and_true] at l1); (try dsimp only); (try k_fold))
    | k_dflt (k_here; (with_reducible show wpAny _ _ (call (Value.ref 170) _) _ _ _); (k_dflt (refine' useT2 (c_two X _ _ wd R _ _ _ _ _ hXe hXm.1 hXm.2 hXd0 hXd.2 hX00 hX24 hR0 hR1 hR2 hRp hRb hw hw') ?kB ?kF ?kX ?kN ?kT ?kK ?km ?kd ?ku ?_)); (case kB => k_asm); (case kF => k_asm); (case kX => k_asm); (case kN => k_asm); (case kT => k_asm); (case kK => first | exact rfl | assumption); (case km => (repeat (first | exact List.forall_mem_nil _ | (refine List.forall_mem_cons.mpr ⟨by k_mem, ?_⟩)))); (case kd => first | ((try dsimp only [ktrTop, Around.deeper]); omega) | ktr_room); (case ku => first | ((try dsimp only [ktrTop, Around.deeper]); omega) | ktr_units); intro T' D1' D0' t' c1' h' tk' F' N' l1 l2; (try simp only [AllLt, and_true] at l1); (try simp only [AllLt, and_true] at l2); (try dsimp only); (try k_fold))
    | k_dflt (k_here; (with_reducible show wpAny _ _ (call (Value.ref 121) _) _ _ _); (k_dflt (refine' useL1 (c_shr R hs wd _ _ _ _ _ hRp hRb hs0 hsw hsq hsf hw hw') ?e1 ?kB ?kF ?kX ?kN ?kT ?kK ?km ?kd ?ku ?_)); (case kB => k_asm); (case kF => k_asm); (case kX => k_asm); (case kN => k_asm); (case kT => k_asm); (case kK => first | exact rfl | assumption); (case km => (repeat (first | exact List.forall_mem_nil _ | (refine List.forall_mem_cons.mpr ⟨by k_mem, ?_⟩)))); (case e1 => (rw [hRr]; exact digs_one hB hr0 hrB)); (case kd => first | ((try dsimp only [ktrTop, Around.deeper]); omega) | ktr_room); (case ku => first | ((try dsimp only [ktrTop, Around.deeper]); omega) | ktr_units); intro D' t' c' h' tk' F' N' l1; (try simp only [AllLt, and_true] at l1); (try dsimp only); (try k_fold))
    | k_dflt (k_here; (with_reducible show wpAny _ _ (call (Value.ref 191) _) _ _ _); (k_dflt (refine' useL (c_mul r r wd _ _ _ _ _ _ _ hr0 hrB hr0 hrB hw hw') ?kB ?kF ?kX ?kN ?kT ?kK ?km ?kd ?ku ?_)); (case kB => k_asm); (case kF => k_asm); (case kX => k_asm); (case kN => k_asm); (case kT => k_asm); (case kK => first | exact rfl | assumption); (case km => (repeat (first | exact List.forall_mem_nil _ | (refine List.forall_mem_cons.mpr ⟨by k_mem, ?_⟩)))); (case kd => first | ((try dsimp only [ktrTop, Around.deeper]); omega) | ktr_room); (case ku => first | ((try dsimp only [ktrTop, Around.deeper]); omega) | ktr_units); intro D' us' c' h' tk' F' N' l1 iR'; (try simp only [AllLt, and_true] at l1); (try dsimp only); (try k_fold))
    | k_dflt (k_here; (with_reducible show wpAny _ _ (call (Value.ref 86) _) _ _ _); (k_dflt (refine' useL (c_sub x (r * r) wd _ l _ us _ c _ hi iR' hxBB hrr hr1 hw hw') ?kB ?kF ?kX ?kN ?kT ?kK ?km ?kd ?ku ?_)); (case kB => k_asm); (case kF => k_asm); (case kX => k_asm); (case kN => k_asm); (case kT => k_asm); (case kK => first | exact rfl | assumption); (case km => (repeat (first | exact List.forall_mem_nil _ | (refine List.forall_mem_cons.mpr ⟨by k_mem, ?_⟩)))); (case kd => first | ((try dsimp only [ktrTop, Around.deeper]); omega) | ktr_room); (case ku => first | ((try dsimp only [ktrTop, Around.deeper]); omega) | ktr_units); intro D' us' c' h' tk' F' N' l1 iR'; (try simp only [AllLt, and_true] at l1); (try dsimp only); (try k_fold))
    | k_dflt (k_here; (with_reducible show wpAny _ _ (call (Value.ref 58) _) _ _ _); (k_dflt (refine' useL (c_norm _ _ _ _ ?hi ?hn) ?kB ?kF ?kX ?kN ?kT ?kK ?km ?kd ?ku ?_)); (case kB => k_asm); (case kF => k_asm); (case kX => k_asm); (case kN => k_asm); (case kT => k_asm); (case kK => first | exact rfl | assumption); (case km => (repeat (first | exact List.forall_mem_nil _ | (refine List.forall_mem_cons.mpr ⟨by k_mem, ?_⟩)))); (case hi => first | assumption | exact .nil | exact .cons _ _ .nil | exact .cons _ _ (.cons _ _ .nil)); (case hn => first | assumption | decide | (simp; done) | (simp; omega)); (case kd => first | ((try dsimp only [ktrTop, Around.deeper]); omega) | ktr_room); (case ku => first | ((try dsimp only [ktrTop, Around.deeper]); omega) | ktr_units); intro D' us' c' h' tk' F' N' l1 iR'; (try simp only [AllLt, and_true] at l1); (try dsimp only); (try k_fold))
  refine wpAny_call ?_
  k_dflt cell_enter
  k_steps
  all_goals first
    | (refine' endT (Q := Q) (s := s) hret ?e1 ?e2 ?e3 ?e4 ?e5 ?e6 ?e7 ?e8 ?e9 ?e10; (case e1 => assumption); (case e2 => assumption); (case e3 => k_mem); (case e4 => k_mem); (case e5 => k_mem); (case e6 => (intro p hp; repeat (first | exact hp | apply List.Mem.tail))); (case e7 => first | assumption | exact allLt_of (by assumption) | ((simp only [AllLt, and_true]); omega) | ((simp only [AllLt, and_true]); (try simp only [AllLt, and_true] at *); simp_all)); (case e8 => first | assumption | exact allLt_of (by assumption) | ((simp only [AllLt, and_true]); omega) | ((simp only [AllLt, and_true]); (try simp only [AllLt, and_true] at *); simp_all)); (case e9 => first | assumption | exact allLt_of (by assumption) | ((simp only [AllLt, and_true]); omega) | ((simp only [AllLt, and_true]); (try simp only [AllLt, and_true] at *); simp_all)); (case e10 => assumption))
    | (exfalso; omega)

end
section
variable {prog : Program} {w : World} {mean : ExcName → Option Value} {mg mb : Str → Option Value}

local macro_rules | `(tactic| walk_at "binaryOp FloorDiv int int") => `(tactic| (k_here; (with_reducible refine' fd_is ?e9 ?h9 ?g9 ?_); (case e9 => with_reducible assumption); (case h9 => omega); (case g9 => omega)))
local macro_rules | `(tactic| walk_at "binaryOp Mod int int") => `(tactic| (k_here; (with_reducible refine' fm_is ?e9 ?h9 ?_); (case e9 => with_reducible assumption); (case h9 => omega)))
local macro_rules | `(tactic| walk_at "binaryOp LShift int int") => `(tactic| (k_here; (with_reducible refine ls_is ?e9 ?h9 ?g9 ?_); (case e9 => first | exact ⟨by omega, by omega⟩ | exact limb_small (by assumption) (by assumption) (by assumption) (by assumption)); (case h9 => omega); (case g9 => omega)))
local macro_rules | `(tactic| walk_at "UnrEnd") => `(tactic| (k_here; (refine' unrEnd0 ?h8 ?h9 ?g9 ?_); (case h8 => assumption); (case h9 => assumption); (case g9 => first | (with_unfolding_all assumption) | ((simp only [AllLt, and_true]); omega))))
local macro_rules | `(tactic| walk_at "call ref") => `(tactic| (k_extra "call ref"))
local macro_rules | `(tactic| k_room) => `(tactic| first | ((try dsimp only [ktrTop, Around.deeper]); omega) | ktr_room)
theorem c_mul0' (x wd : Int) (tw tx : Tok) (l l2 : Addr) (c c2 : Nat) (hw : 8 ≤ wd) (hw' : wd ≤ 12) : CtrO prog w mean mg mb 191 2 [(l, listOf [Value.int x tx].toArray c), (l2, listOf [].toArray c2)] [.ref l, .ref l2, .int wd tw] (RetL []) := by
  w_top off
  have hf : (hd.heap_39 = hd.heap_39) ∧ (PySem.Challenge.rw_xw0114_01 = PySem.Challenge.rw_xw0114_01) := by
    k_fill
    exact ⟨rfl, rfl⟩
  clear hf
  intro dp un gd cn cs a ccd cl outer A₀ base h₀ L m d o s Q E B F X N T hk hd hu hret
  simp only [List.nil_append, List.cons_append] at N hret
  have mk := kstMark
  have i0 : IntsAre [] [] := .nil
  have hB : (2 : Int) ≤ 2 ^ wd.toNat := two_le hw
  have hlo := pw_lo hw
  have hhi := pw_hi hw'
  k_with_none
  k_with "call ref" => first
    | k_dflt (k_here; (with_reducible show wpAny _ _ (call (Value.ref 58) _) _ _ _); (k_dflt (refine' useL (c_norm _ _ _ _ ?hi ?hn) ?kB ?kF ?kX ?kN ?kT ?kK ?km ?kd ?ku ?_)); (case kB => k_asm); (case kF => k_asm); (case kX => k_asm); (case kN => k_asm); (case kT => k_asm); (case kK => first | exact rfl | assumption); (case km => (repeat (first | exact List.forall_mem_nil _ | (refine List.forall_mem_cons.mpr ⟨by k_mem, ?_⟩)))); (case hi => first | assumption | exact .nil | exact .cons _ _ .nil | exact .cons _ _ (.cons _ _ .nil)); (case hn => first | assumption | decide | (simp; done) | (simp; omega)); (case kd => first | ((try dsimp only [ktrTop, Around.deeper]); omega) | ktr_room); (case ku => first | ((try dsimp only [ktrTop, Around.deeper]); omega) | ktr_units); intro D' us' c' h' tk' F' N' l1 iR'; (try simp only [AllLt, and_true] at l1); (try dsimp only); (try k_fold))
  refine wpAny_call ?_
  k_dflt cell_enter
  k_steps
  all_goals first
    | (refine' endL (Q := Q) (s := s) hret ?e1 ?e2 ?e3 ?e4 ?e5 ?e6 ?e7; (case e1 => assumption); (case e2 => assumption); (case e3 => k_mem); (case e4 => (intro p hp; repeat (first | exact hp | apply List.Mem.tail))); (case e5 => first | assumption | exact allLt_of (by assumption) | ((simp only [AllLt, and_true]); omega) | ((simp only [AllLt, and_true]); (try simp only [AllLt, and_true] at *); simp_all)); (case e6 => first | assumption | exact .cons _ _ .nil | exact intsPush (by assumption)); (case e7 => rfl))
    | (exfalso; omega)

theorem c_mul0 (x wd : Int) (tw tx : Tok) (l l2 : Addr) (c c2 : Nat) (hw : 8 ≤ wd) (hw' : wd ≤ 12) : Ctr prog w mean mg mb 191 2 [(l, listOf [Value.int x tx].toArray c), (l2, listOf [].toArray c2)] [.ref l, .ref l2, .int wd tw] (RetL []) := liftL (List.cons_ne_nil _ _) (c_mul0' x wd tw tx l l2 c c2 hw hw')
end
section
/-- a sign and a list come back -/
abbrev RetS (b : Bool) (S : List Int) (h₀ : Heap) (L : Addr) (m : Str → Option Value) (news : List (Addr × Obj)) (s : Shared) (Q : Value → Shared → Prop) : Prop :=
  ∀ (T D : Addr) (us : List Value) (c : Nat) (h' : Heap) (tk' : Nat), Fr h₀ L h' m → News h₀ L h' ((T, tupO [.bool b, .ref D]) :: (D, listOf us.toArray c) :: news) → AllLt T ((D, listOf us.toArray c) :: news) → AllLt D news → IntsAre us S → Q (.ref T) { s with heap := h', toks := tk' }
section
variable {prog : Program} {w : World} {mean : ExcName → Option Value} {mg mb : Str → Option Value} {f : Addr} {k : Nat} {args : List (Addr × Obj)} {vs : List Value}
variable {dp un : Nat} {gd : Option (List Code)} {cn : Str} {cs : Scope} {a : Addr} {ccd : Value} {cl : List (Str × Addr)} {outer : List Env} {A₀ : Around} {base h₀ : Heap} {L : Addr} {m : Str → Option Value} {news : List (Addr × Obj)} {s : Shared} {Q E : Value → Shared → Prop}
theorem endS {b b' : Bool} {S : List Int} {news' : List (Addr × Obj)} {h' : Heap} {tk' : Nat} {T D : Addr} {us : List Value} {c : Nat} (hret : RetS b S h₀ L m news s Q) (F : Fr h₀ L h' m) (N : News h₀ L h' news') (hT : (T, tupO [.bool b', .ref D]) ∈ news') (eb : b' = b) (hD : (D, listOf us.toArray c) ∈ news') (hs : ∀ p ∈ news, p ∈ news')
    (hl : AllLt T ((D, listOf us.toArray c) :: news)) (hl' : AllLt D news) (hi : IntsAre us S) : Q (.ref T) { s with heap := h', toks := tk' } := by
  subst eb
  exact hret T D us c h' tk' F (fun p hp => by
    rcases List.mem_cons.mp hp with rfl | hp
    · exact N _ hT
    · rcases List.mem_cons.mp hp with rfl | hp
      · exact N _ hD
      · exact N p (hs p hp)) hl hl' hi
theorem useS {b : Bool} {S : List Int} (C : Ctr prog w mean mg mb f k args vs (RetS b S)) (B : Below A₀ base outer h₀) (F : Fr h₀ L s.heap m) (X : (hd.heap_39 w.params).In h₀) (N : News h₀ L s.heap news) (T : Top qv (looseW qv []) mean mg mb h₀) (hk : cs.kind = .function)
    (hm : ∀ p ∈ args, p ∈ news) (hd : dp + k < recursionLimit) (hu : un + 8 * k < cLine)
    (ret : ∀ (T D : Addr) (us : List Value) (c : Nat) (h' : Heap) (tk' : Nat), Fr h₀ L h' m → News h₀ L h' ((T, tupO [.bool b, .ref D]) :: (D, listOf us.toArray c) :: news) → AllLt T ((D, listOf us.toArray c) :: news) → AllLt D news → IntsAre us S → Q (.ref T) { s with heap := h', toks := tk' }) :
    wpAny (model prog w) (ktrTop dp un gd cn cs L a ccd cl outer) (call (.ref f) vs) Q E s :=
  C dp un gd cn cs a ccd cl outer A₀ base h₀ L m news s Q E B F X (news_args N hm) T hk hd hu fun T D us c h' tk' F' N' hl hl' hi => ret T D us c h' tk' F' (fun p hp => N' p (by
    rcases List.mem_cons.mp hp with rfl | hp
    · exact .head _
    · rcases List.mem_cons.mp hp with rfl | hp
      · exact .tail _ (.head _)
      · exact .tail _ (.tail _ (List.mem_append.mpr (.inr hp))))) ⟨hl.1, allLt_app hl.2⟩ (allLt_app hl') hi
/-- the list is one int -/
theorem useS1 {b : Bool} {S : List Int} {x : Int} (C : Ctr prog w mean mg mb f k args vs (RetS b S)) (e : S = [x]) (B : Below A₀ base outer h₀) (F : Fr h₀ L s.heap m) (X : (hd.heap_39 w.params).In h₀) (N : News h₀ L s.heap news) (T : Top qv (looseW qv []) mean mg mb h₀) (hk : cs.kind = .function)
    (hm : ∀ p ∈ args, p ∈ news) (hd : dp + k < recursionLimit) (hu : un + 8 * k < cLine)
    (ret : ∀ (T D : Addr) (t : Tok) (c : Nat) (h' : Heap) (tk' : Nat), Fr h₀ L h' m → News h₀ L h' ((T, tupO [.bool b, .ref D]) :: (D, listOf [Value.int x t].toArray c) :: news) → AllLt T ((D, listOf [Value.int x t].toArray c) :: news) → AllLt D news → Q (.ref T) { s with heap := h', toks := tk' }) :
    wpAny (model prog w) (ktrTop dp un gd cn cs L a ccd cl outer) (call (.ref f) vs) Q E s := by
  subst e
  refine useS C B F X N T hk hm hd hu fun T D us c h' tk' F' N' hl hl' hi => ?_
  cases hi with
  | cons _ t hi => cases hi; exact ret T D t c h' tk' F' N' hl hl'
end
theorem row_one {B x : Int} {t : Tok} (hB : 2 ≤ B) (h0 : 0 < x) (h1 : x < B) : IntsAre [Value.int x t] (digs B x) := by
  rw [digs_one hB h0 h1]
  exact .cons _ _ .nil
theorem add_no {B y : Int} (hB : 2 ≤ B) (h0 : 0 < y) (h1 : y < B) (h : 0 < (0 + y).fdiv B) : False := by
  rw [Int.zero_add, fdivs (by omega) h1] at h
  omega
theorem add_out {wd y : Int} (hB : (2 : Int) ≤ 2 ^ wd.toNat) (h0 : 0 < y) (h1 : y < 2 ^ wd.toNat) : [Builtin.bitAnd (0 + y) (1 * 2 ^ wd.toNat - 1)] = digs (2 ^ wd.toNat) y := by
  rw [Int.one_mul, kbt_maskF, Int.zero_add, fmods (by omega) h1, digs_one hB h0 h1]
end
section
variable {prog : Program} {w : World} {mean : ExcName → Option Value} {mg mb : Str → Option Value}

local macro_rules | `(tactic| walk_at "binaryOp FloorDiv int int") => `(tactic| (k_here; (with_reducible refine' fd_is ?e9 ?h9 ?g9 ?_); (case e9 => with_reducible assumption); (case h9 => omega); (case g9 => omega)))
local macro_rules | `(tactic| walk_at "binaryOp Mod int int") => `(tactic| (k_here; (with_reducible refine' fm_is ?e9 ?h9 ?_); (case e9 => with_reducible assumption); (case h9 => omega)))
local macro_rules | `(tactic| walk_at "binaryOp LShift int int") => `(tactic| (k_here; (with_reducible refine ls_is ?e9 ?h9 ?g9 ?_); (case e9 => first | exact ⟨by omega, by omega⟩ | exact limb_small (by assumption) (by assumption) (by assumption) (by assumption)); (case h9 => omega); (case g9 => omega)))
local macro_rules | `(tactic| walk_at "UnrEnd") => `(tactic| (k_here; (refine' unrEnd0 ?h8 ?h9 ?g9 ?_); (case h8 => assumption); (case h9 => assumption); (case g9 => first | (with_unfolding_all assumption) | ((simp only [AllLt, and_true]); omega))))
local macro_rules | `(tactic| walk_at "call ref") => `(tactic| (k_extra "call ref"))
local macro_rules | `(tactic| k_room) => `(tactic| first | ((try dsimp only [ktrTop, Around.deeper]); omega) | ktr_room)
theorem c_add11' (x y wd : Int) (tw tx ty : Tok) (l l2 : Addr) (c c2 : Nat) (h0 : 0 < x) (h1 : 0 < y) (h2 : x + y < 2 ^ wd.toNat) (hw : 8 ≤ wd) (hw' : wd ≤ 12) : CtrO prog w mean mg mb 79 2 [(l, listOf [Value.int x tx].toArray c), (l2, listOf [Value.int y ty].toArray c2)] [.ref l, .ref l2, .int wd tw] (RetL (digs (2 ^ wd.toNat) (x + y))) := by
  w_top off
  have hf : (hd.heap_39 = hd.heap_39) ∧ (PySem.Challenge.rw_xw0114_01 = PySem.Challenge.rw_xw0114_01) := by
    k_fill
    exact ⟨rfl, rfl⟩
  clear hf
  intro dp un gd cn cs a ccd cl outer A₀ base h₀ L m d o s Q E B F X N T hk hd hu hret
  simp only [List.nil_append, List.cons_append] at N hret
  have mk := kstMark
  have i0 : IntsAre [] [] := .nil
  have hB : (2 : Int) ≤ 2 ^ wd.toNat := two_le hw
  have hlo := pw_lo hw
  have hhi := pw_hi hw'
  have hxy : 0 < x + y := by omega
  k_with_none
  k_with "call ref" => first
    | k_dflt (k_here; (with_reducible show wpAny _ _ (call (Value.ref 58) _) _ _ _); (k_dflt (refine' useL (c_norm _ _ _ _ ?hi ?hn) ?kB ?kF ?kX ?kN ?kT ?kK ?km ?kd ?ku ?_)); (case kB => k_asm); (case kF => k_asm); (case kX => k_asm); (case kN => k_asm); (case kT => k_asm); (case kK => first | exact rfl | assumption); (case km => (repeat (first | exact List.forall_mem_nil _ | (refine List.forall_mem_cons.mpr ⟨by k_mem, ?_⟩)))); (case hi => first | assumption | exact .nil | exact .cons _ _ .nil | exact .cons _ _ (.cons _ _ .nil)); (case hn => first | assumption | decide | (simp; done) | (simp; omega)); (case kd => first | ((try dsimp only [ktrTop, Around.deeper]); omega) | ktr_room); (case ku => first | ((try dsimp only [ktrTop, Around.deeper]); omega) | ktr_units); intro D' us' c' h' tk' F' N' l1 iR'; (try simp only [AllLt, and_true] at l1); (try dsimp only); (try k_fold))
  refine wpAny_call ?_
  k_dflt cell_enter
  k_steps
  all_goals first
    | (exfalso; exact add_no hB hxy h2 (by assumption))
    | (refine' endL (Q := Q) (s := s) hret ?e1 ?e2 ?e3 ?e4 ?e5 ?e6 ?e7; (case e1 => assumption); (case e2 => assumption); (case e3 => k_mem); (case e4 => (intro p hp; repeat (first | exact hp | apply List.Mem.tail))); (case e5 => first | assumption | exact allLt_of (by assumption) | ((simp only [AllLt, and_true]); omega) | ((simp only [AllLt, and_true]); (try simp only [AllLt, and_true] at *); simp_all)); (case e6 => first | assumption | exact .cons _ _ .nil | exact intsPush (by assumption)); (case e7 => exact add_out hB hxy h2))
    | (exfalso; omega)

theorem c_add11 (x y wd : Int) (tw tx ty : Tok) (l l2 : Addr) (c c2 : Nat) (h0 : 0 < x) (h1 : 0 < y) (h2 : x + y < 2 ^ wd.toNat) (hw : 8 ≤ wd) (hw' : wd ≤ 12) : Ctr prog w mean mg mb 79 2 [(l, listOf [Value.int x tx].toArray c), (l2, listOf [Value.int y ty].toArray c2)] [.ref l, .ref l2, .int wd tw] (RetL (digs (2 ^ wd.toNat) (x + y))) := liftL (List.cons_ne_nil _ _) (c_add11' x y wd tw tx ty l l2 c c2 h0 h1 h2 hw hw')
end
section
variable {prog : Program} {w : World} {mean : ExcName → Option Value} {mg mb : Str → Option Value}

local macro_rules | `(tactic| walk_at "binaryOp FloorDiv int int") => `(tactic| (k_here; (with_reducible refine' fd_is ?e9 ?h9 ?g9 ?_); (case e9 => with_reducible assumption); (case h9 => omega); (case g9 => omega)))
local macro_rules | `(tactic| walk_at "binaryOp Mod int int") => `(tactic| (k_here; (with_reducible refine' fm_is ?e9 ?h9 ?_); (case e9 => with_reducible assumption); (case h9 => omega)))
local macro_rules | `(tactic| walk_at "binaryOp LShift int int") => `(tactic| (k_here; (with_reducible refine ls_is ?e9 ?h9 ?g9 ?_); (case e9 => first | exact ⟨by omega, by omega⟩ | exact limb_small (by assumption) (by assumption) (by assumption) (by assumption)); (case h9 => omega); (case g9 => omega)))
local macro_rules | `(tactic| walk_at "UnrEnd") => `(tactic| (k_here; (refine' unrEnd0 ?h8 ?h9 ?g9 ?_); (case h8 => assumption); (case h9 => assumption); (case g9 => first | (with_unfolding_all assumption) | ((simp only [AllLt, and_true]); omega))))
local macro_rules | `(tactic| walk_at "call ref") => `(tactic| (k_extra "call ref"))
local macro_rules | `(tactic| k_room) => `(tactic| first | ((try dsimp only [ktrTop, Around.deeper]); omega) | ktr_room)
theorem c_add01' (y wd : Int) (tw ty : Tok) (l l2 : Addr) (c c2 : Nat) (h1 : 0 < y) (h2 : y < 2 ^ wd.toNat) (hw : 8 ≤ wd) (hw' : wd ≤ 12) : CtrO prog w mean mg mb 79 2 [(l, listOf [].toArray c), (l2, listOf [Value.int y ty].toArray c2)] [.ref l, .ref l2, .int wd tw] (RetL (digs (2 ^ wd.toNat) y)) := by
  w_top off
  have hf : (hd.heap_39 = hd.heap_39) ∧ (PySem.Challenge.rw_xw0114_01 = PySem.Challenge.rw_xw0114_01) := by
    k_fill
    exact ⟨rfl, rfl⟩
  clear hf
  intro dp un gd cn cs a ccd cl outer A₀ base h₀ L m d o s Q E B F X N T hk hd hu hret
  simp only [List.nil_append, List.cons_append] at N hret
  have mk := kstMark
  have i0 : IntsAre [] [] := .nil
  have hB : (2 : Int) ≤ 2 ^ wd.toNat := two_le hw
  have hlo := pw_lo hw
  have hhi := pw_hi hw'
  k_with_none
  k_with "call ref" => first
    | k_dflt (k_here; (with_reducible show wpAny _ _ (call (Value.ref 58) _) _ _ _); (k_dflt (refine' useL (c_norm _ _ _ _ ?hi ?hn) ?kB ?kF ?kX ?kN ?kT ?kK ?km ?kd ?ku ?_)); (case kB => k_asm); (case kF => k_asm); (case kX => k_asm); (case kN => k_asm); (case kT => k_asm); (case kK => first | exact rfl | assumption); (case km => (repeat (first | exact List.forall_mem_nil _ | (refine List.forall_mem_cons.mpr ⟨by k_mem, ?_⟩)))); (case hi => first | assumption | exact .nil | exact .cons _ _ .nil | exact .cons _ _ (.cons _ _ .nil)); (case hn => first | assumption | decide | (simp; done) | (simp; omega)); (case kd => first | ((try dsimp only [ktrTop, Around.deeper]); omega) | ktr_room); (case ku => first | ((try dsimp only [ktrTop, Around.deeper]); omega) | ktr_units); intro D' us' c' h' tk' F' N' l1 iR'; (try simp only [AllLt, and_true] at l1); (try dsimp only); (try k_fold))
  refine wpAny_call ?_
  k_dflt cell_enter
  k_steps
  all_goals first
    | (exfalso; exact add_no hB h1 h2 (by assumption))
    | (refine' endL (Q := Q) (s := s) hret ?e1 ?e2 ?e3 ?e4 ?e5 ?e6 ?e7; (case e1 => assumption); (case e2 => assumption); (case e3 => k_mem); (case e4 => (intro p hp; repeat (first | exact hp | apply List.Mem.tail))); (case e5 => first | assumption | exact allLt_of (by assumption) | ((simp only [AllLt, and_true]); omega) | ((simp only [AllLt, and_true]); (try simp only [AllLt, and_true] at *); simp_all)); (case e6 => first | assumption | exact .cons _ _ .nil | exact intsPush (by assumption)); (case e7 => exact add_out hB h1 h2))
    | (exfalso; omega)

theorem c_add01 (y wd : Int) (tw ty : Tok) (l l2 : Addr) (c c2 : Nat) (h1 : 0 < y) (h2 : y < 2 ^ wd.toNat) (hw : 8 ≤ wd) (hw' : wd ≤ 12) : Ctr prog w mean mg mb 79 2 [(l, listOf [].toArray c), (l2, listOf [Value.int y ty].toArray c2)] [.ref l, .ref l2, .int wd tw] (RetL (digs (2 ^ wd.toNat) y)) := liftL (List.cons_ne_nil _ _) (c_add01' y wd tw ty l l2 c c2 h1 h2 hw hw')
end
section
variable {prog : Program} {w : World} {mean : ExcName → Option Value} {mg mb : Str → Option Value}

local macro_rules | `(tactic| walk_at "binaryOp FloorDiv int int") => `(tactic| (k_here; (with_reducible refine' fd_is ?e9 ?h9 ?g9 ?_); (case e9 => with_reducible assumption); (case h9 => omega); (case g9 => omega)))
local macro_rules | `(tactic| walk_at "binaryOp Mod int int") => `(tactic| (k_here; (with_reducible refine' fm_is ?e9 ?h9 ?_); (case e9 => with_reducible assumption); (case h9 => omega)))
local macro_rules | `(tactic| walk_at "binaryOp LShift int int") => `(tactic| (k_here; (with_reducible refine ls_is ?e9 ?h9 ?g9 ?_); (case e9 => first | exact ⟨by omega, by omega⟩ | exact limb_small (by assumption) (by assumption) (by assumption) (by assumption)); (case h9 => omega); (case g9 => omega)))
local macro_rules | `(tactic| walk_at "UnrEnd") => `(tactic| (k_here; (refine' unrEnd0 ?h8 ?h9 ?g9 ?_); (case h8 => assumption); (case h9 => assumption); (case g9 => first | (with_unfolding_all assumption) | ((simp only [AllLt, and_true]); omega))))
local macro_rules | `(tactic| walk_at "call ref") => `(tactic| (k_extra "call ref"))
local macro_rules | `(tactic| k_room) => `(tactic| first | ((try dsimp only [ktrTop, Around.deeper]); omega) | ktr_room)
local macro_rules | `(tactic| walk_at "binaryOp Mult int int") => `(tactic| (k_here; (with_reducible refine' mul_is ?e9 ?h9 ?g9 ?_); (case e9 => with_reducible assumption); (case h9 => omega); (case g9 => omega)))
theorem c_sg (n a wd : Int) (tn tw : Tok) (ha : (if n < 0 then -n else n) = a) (h0 : 0 ≤ a) (h1 : a < 65536) (hw : 8 ≤ wd) (hw' : wd ≤ 12) : Ctr prog w mean mg mb 289 2 [] [.int n tn, .int wd tw] (RetS (decide (n < 0)) (digs (2 ^ wd.toNat) a)) := by
  w_top off
  have hf : (hd.heap_39 = hd.heap_39) ∧ (PySem.Challenge.rw_xw0114_01 = PySem.Challenge.rw_xw0114_01) := by
    k_fill
    exact ⟨rfl, rfl⟩
  clear hf
  intro dp un gd cn cs a ccd cl outer A₀ base h₀ L m rest s Q E B F X N T hk hd hu hret
  simp only [List.nil_append, List.cons_append] at N hret
  have mk := kstMark
  have i0 : IntsAre [] [] := .nil
  have hB : (2 : Int) ≤ 2 ^ wd.toNat := two_le hw
  have hlo := pw_lo hw
  have hhi := pw_hi hw'
  k_with_none
  k_with "call ref" => first
    | k_dflt (k_here; (with_reducible show wpAny _ _ (call (Value.ref 275) _) _ _ _); (k_dflt (refine' useL (c_limbs _ wd _ _ ?h0 ?h1 hw hw') ?kB ?kF ?kX ?kN ?kT ?kK ?km ?kd ?ku ?_)); (case kB => k_asm); (case kF => k_asm); (case kX => k_asm); (case kN => k_asm); (case kT => k_asm); (case kK => first | exact rfl | assumption); (case km => (repeat (first | exact List.forall_mem_nil _ | (refine List.forall_mem_cons.mpr ⟨by k_mem, ?_⟩)))); (case h0 => (rw [ha]; omega)); (case h1 => (rw [ha]; omega)); (case kd => first | ((try dsimp only [ktrTop, Around.deeper]); omega) | ktr_room); (case ku => first | ((try dsimp only [ktrTop, Around.deeper]); omega) | ktr_units); intro D' us' c' h' tk' F' N' l1 iR'; (try simp only [AllLt, and_true] at l1); rw [ha] at iR'; (try dsimp only); (try k_fold))
  refine wpAny_call ?_
  k_dflt cell_enter
  k_steps
  all_goals try (first
    | (refine' endS (Q := Q) (s := s) hret ?e1 ?e2 ?e3 ?eb ?e4 ?e5 ?e6 ?e7 ?e8; (case e1 => assumption); (case e2 => assumption); (case e3 => k_mem); (case eb => rfl); (case e4 => k_mem); (case e5 => (intro p hp; repeat (first | exact hp | apply List.Mem.tail))); (case e6 => first | assumption | exact allLt_of (by assumption) | ((simp only [AllLt, and_true]); omega) | ((simp only [AllLt, and_true]); (try simp only [AllLt, and_true] at *); simp_all)); (case e7 => first | assumption | exact allLt_of (by assumption) | ((simp only [AllLt, and_true]); omega) | ((simp only [AllLt, and_true]); (try simp only [AllLt, and_true] at *); simp_all)); (case e8 => first | assumption | exact .nil | exact .cons _ _ .nil))
    | (exfalso; omega))

end
section
variable {prog : Program} {w : World} {mean : ExcName → Option Value} {mg mb : Str → Option Value}

local macro_rules | `(tactic| walk_at "binaryOp FloorDiv int int") => `(tactic| (k_here; (with_reducible refine' fd_is ?e9 ?h9 ?g9 ?_); (case e9 => with_reducible assumption); (case h9 => omega); (case g9 => omega)))
local macro_rules | `(tactic| walk_at "binaryOp Mod int int") => `(tactic| (k_here; (with_reducible refine' fm_is ?e9 ?h9 ?_); (case e9 => with_reducible assumption); (case h9 => omega)))
local macro_rules | `(tactic| walk_at "binaryOp LShift int int") => `(tactic| (k_here; (with_reducible refine ls_is ?e9 ?h9 ?g9 ?_); (case e9 => first | exact ⟨by omega, by omega⟩ | exact limb_small (by assumption) (by assumption) (by assumption) (by assumption)); (case h9 => omega); (case g9 => omega)))
local macro_rules | `(tactic| walk_at "UnrEnd") => `(tactic| (k_here; (refine' unrEnd0 ?h8 ?h9 ?g9 ?_); (case h8 => assumption); (case h9 => assumption); (case g9 => first | (with_unfolding_all assumption) | ((simp only [AllLt, and_true]); omega))))
local macro_rules | `(tactic| walk_at "call ref") => `(tactic| (k_extra "call ref"))
local macro_rules | `(tactic| k_room) => `(tactic| first | ((try dsimp only [ktrTop, Around.deeper]); omega) | ktr_room)
local macro_rules | `(tactic| walk_at "binaryOp Mult int int") => `(tactic| (k_here; (with_reducible refine' mul_is ?e9 ?h9 ?g9 ?_); (case e9 => with_reducible assumption); (case h9 => omega); (case g9 => omega)))
theorem c_smF (p q wd : Int) (tp tq tw : Tok) (lx la ly lb : Addr) (c c2 : Nat) (hp0 : 0 < p) (hp1 : p < 2 ^ wd.toNat) (hq0 : 0 < q) (hq1 : q < 2 ^ wd.toNat) (hw : 8 ≤ wd) (hw' : wd ≤ 12) : Ctr prog w mean mg mb 254 3 [(lx, tupO [.bool false, .ref la]), (la, listOf [Value.int p tp].toArray c), (ly, tupO [.bool false, .ref lb]), (lb, listOf [Value.int q tq].toArray c2)] [.ref lx, .ref ly, .int wd tw, .ref 191] (RetS false (digs (2 ^ wd.toNat) (p * q))) := by
  w_top off
  have hf : (hd.heap_39 = hd.heap_39) ∧ (PySem.Challenge.rw_xw0114_01 = PySem.Challenge.rw_xw0114_01) := by
    k_fill
    exact ⟨rfl, rfl⟩
  clear hf
  intro dp un gd cn cs a ccd cl outer A₀ base h₀ L m rest s Q E B F X N T hk hd hu hret
  simp only [List.nil_append, List.cons_append] at N hret
  have mk := kstMark
  have i0 : IntsAre [] [] := .nil
  have hB : (2 : Int) ≤ 2 ^ wd.toNat := two_le hw
  have hlo := pw_lo hw
  have hhi := pw_hi hw'
  have hne := digs_ne hB (Int.mul_pos hp0 hq0)
  have hpq := mul_lt (show 0 ≤ p by omega) hp1 (show 0 ≤ q by omega) hq1
  have hBB : (2 : Int) ^ wd.toNat * 2 ^ wd.toNat ≤ 4096 * 4096 := sq_mono (show (0 : Int) ≤ 2 ^ wd.toNat by omega) hhi
  have hdl : (digs (2 ^ wd.toNat) (p * q)).length ≤ 16777216 := by
    have := digs_len' (x := p * q) hB
    omega
  k_with_none
  k_with "call ref" => first
    | k_dflt (k_here; (with_reducible show wpAny _ _ (call (Value.ref 191) _) _ _ _); (k_dflt (refine' useL (c_mul p q wd _ _ _ _ _ _ _ hp0 hp1 hq0 hq1 hw hw') ?kB ?kF ?kX ?kN ?kT ?kK ?km ?kd ?ku ?_)); (case kB => k_asm); (case kF => k_asm); (case kX => k_asm); (case kN => k_asm); (case kT => k_asm); (case kK => first | exact rfl | assumption); (case km => (repeat (first | exact List.forall_mem_nil _ | (refine List.forall_mem_cons.mpr ⟨by k_mem, ?_⟩)))); (case kd => first | ((try dsimp only [ktrTop, Around.deeper]); omega) | ktr_room); (case ku => first | ((try dsimp only [ktrTop, Around.deeper]); omega) | ktr_units); intro D' us' c' h' tk' F' N' l1 iR'; (try simp only [AllLt, and_true] at l1); have hu9 := iR'.length; (try dsimp only); (try k_fold))
  refine wpAny_call ?_
  k_dflt cell_enter
  k_steps
  all_goals try (first
    | (refine' endS (Q := Q) (s := s) hret ?e1 ?e2 ?e3 ?eb ?e4 ?e5 ?e6 ?e7 ?e8; (case e1 => assumption); (case e2 => assumption); (case e3 => k_mem); (case eb => first | rfl | exact decide_eq_true (by omega)); (case e4 => k_mem); (case e5 => (intro p hp; repeat (first | exact hp | apply List.Mem.tail))); (case e6 => first | assumption | exact allLt_of (by assumption) | ((simp only [AllLt, and_true]); omega) | ((simp only [AllLt, and_true]); (try simp only [AllLt, and_true] at *); simp_all)); (case e7 => first | assumption | exact allLt_of (by assumption) | ((simp only [AllLt, and_true]); omega) | ((simp only [AllLt, and_true]); (try simp only [AllLt, and_true] at *); simp_all)); (case e8 => first | assumption | exact .nil | exact .cons _ _ .nil))
    | (exfalso; omega))

end
section
variable {prog : Program} {w : World} {mean : ExcName → Option Value} {mg mb : Str → Option Value}

local macro_rules | `(tactic| walk_at "binaryOp FloorDiv int int") => `(tactic| (k_here; (with_reducible refine' fd_is ?e9 ?h9 ?g9 ?_); (case e9 => with_reducible assumption); (case h9 => omega); (case g9 => omega)))
local macro_rules | `(tactic| walk_at "binaryOp Mod int int") => `(tactic| (k_here; (with_reducible refine' fm_is ?e9 ?h9 ?_); (case e9 => with_reducible assumption); (case h9 => omega)))
local macro_rules | `(tactic| walk_at "binaryOp LShift int int") => `(tactic| (k_here; (with_reducible refine ls_is ?e9 ?h9 ?g9 ?_); (case e9 => first | exact ⟨by omega, by omega⟩ | exact limb_small (by assumption) (by assumption) (by assumption) (by assumption)); (case h9 => omega); (case g9 => omega)))
local macro_rules | `(tactic| walk_at "UnrEnd") => `(tactic| (k_here; (refine' unrEnd0 ?h8 ?h9 ?g9 ?_); (case h8 => assumption); (case h9 => assumption); (case g9 => first | (with_unfolding_all assumption) | ((simp only [AllLt, and_true]); omega))))
local macro_rules | `(tactic| walk_at "call ref") => `(tactic| (k_extra "call ref"))
local macro_rules | `(tactic| k_room) => `(tactic| first | ((try dsimp only [ktrTop, Around.deeper]); omega) | ktr_room)
local macro_rules | `(tactic| walk_at "binaryOp Mult int int") => `(tactic| (k_here; (with_reducible refine' mul_is ?e9 ?h9 ?g9 ?_); (case e9 => with_reducible assumption); (case h9 => omega); (case g9 => omega)))
theorem c_smT (p q wd : Int) (tp tq tw : Tok) (lx la ly lb : Addr) (c c2 : Nat) (hp0 : 0 < p) (hp1 : p < 2 ^ wd.toNat) (hq0 : 0 < q) (hq1 : q < 2 ^ wd.toNat) (hw : 8 ≤ wd) (hw' : wd ≤ 12) : Ctr prog w mean mg mb 254 3 [(lx, tupO [.bool false, .ref la]), (la, listOf [Value.int p tp].toArray c), (ly, tupO [.bool true, .ref lb]), (lb, listOf [Value.int q tq].toArray c2)] [.ref lx, .ref ly, .int wd tw, .ref 191] (RetS true (digs (2 ^ wd.toNat) (p * q))) := by
  w_top off
  have hf : (hd.heap_39 = hd.heap_39) ∧ (PySem.Challenge.rw_xw0114_01 = PySem.Challenge.rw_xw0114_01) := by
    k_fill
    exact ⟨rfl, rfl⟩
  clear hf
  intro dp un gd cn cs a ccd cl outer A₀ base h₀ L m rest s Q E B F X N T hk hd hu hret
  simp only [List.nil_append, List.cons_append] at N hret
  have mk := kstMark
  have i0 : IntsAre [] [] := .nil
  have hB : (2 : Int) ≤ 2 ^ wd.toNat := two_le hw
  have hlo := pw_lo hw
  have hhi := pw_hi hw'
  have hne := digs_ne hB (Int.mul_pos hp0 hq0)
  have hpq := mul_lt (show 0 ≤ p by omega) hp1 (show 0 ≤ q by omega) hq1
  have hBB : (2 : Int) ^ wd.toNat * 2 ^ wd.toNat ≤ 4096 * 4096 := sq_mono (show (0 : Int) ≤ 2 ^ wd.toNat by omega) hhi
  have hdl : (digs (2 ^ wd.toNat) (p * q)).length ≤ 16777216 := by
    have := digs_len' (x := p * q) hB
    omega
  k_with_none
  k_with "call ref" => first
    | k_dflt (k_here; (with_reducible show wpAny _ _ (call (Value.ref 191) _) _ _ _); (k_dflt (refine' useL (c_mul p q wd _ _ _ _ _ _ _ hp0 hp1 hq0 hq1 hw hw') ?kB ?kF ?kX ?kN ?kT ?kK ?km ?kd ?ku ?_)); (case kB => k_asm); (case kF => k_asm); (case kX => k_asm); (case kN => k_asm); (case kT => k_asm); (case kK => first | exact rfl | assumption); (case km => (repeat (first | exact List.forall_mem_nil _ | (refine List.forall_mem_cons.mpr ⟨by k_mem, ?_⟩)))); (case kd => first | ((try dsimp only [ktrTop, Around.deeper]); omega) | ktr_room); (case ku => first | ((try dsimp only [ktrTop, Around.deeper]); omega) | ktr_units); intro D' us' c' h' tk' F' N' l1 iR'; (try simp only [AllLt, and_true] at l1); have hu9 := iR'.length; (try dsimp only); (try k_fold))
  refine wpAny_call ?_
  k_dflt cell_enter
  k_steps
  all_goals try (first
    | (refine' endS (Q := Q) (s := s) hret ?e1 ?e2 ?e3 ?eb ?e4 ?e5 ?e6 ?e7 ?e8; (case e1 => assumption); (case e2 => assumption); (case e3 => k_mem); (case eb => first | rfl | exact decide_eq_true (by omega)); (case e4 => k_mem); (case e5 => (intro p hp; repeat (first | exact hp | apply List.Mem.tail))); (case e6 => first | assumption | exact allLt_of (by assumption) | ((simp only [AllLt, and_true]); omega) | ((simp only [AllLt, and_true]); (try simp only [AllLt, and_true] at *); simp_all)); (case e7 => first | assumption | exact allLt_of (by assumption) | ((simp only [AllLt, and_true]); omega) | ((simp only [AllLt, and_true]); (try simp only [AllLt, and_true] at *); simp_all)); (case e8 => first | assumption | exact .nil | exact .cons _ _ .nil))
    | (exfalso; omega))

end
section
variable {prog : Program} {w : World} {mean : ExcName → Option Value} {mg mb : Str → Option Value}

local macro_rules | `(tactic| walk_at "binaryOp FloorDiv int int") => `(tactic| (k_here; (with_reducible refine' fd_is ?e9 ?h9 ?g9 ?_); (case e9 => with_reducible assumption); (case h9 => omega); (case g9 => omega)))
local macro_rules | `(tactic| walk_at "binaryOp Mod int int") => `(tactic| (k_here; (with_reducible refine' fm_is ?e9 ?h9 ?_); (case e9 => with_reducible assumption); (case h9 => omega)))
local macro_rules | `(tactic| walk_at "binaryOp LShift int int") => `(tactic| (k_here; (with_reducible refine ls_is ?e9 ?h9 ?g9 ?_); (case e9 => first | exact ⟨by omega, by omega⟩ | exact limb_small (by assumption) (by assumption) (by assumption) (by assumption)); (case h9 => omega); (case g9 => omega)))
local macro_rules | `(tactic| walk_at "UnrEnd") => `(tactic| (k_here; (refine' unrEnd0 ?h8 ?h9 ?g9 ?_); (case h8 => assumption); (case h9 => assumption); (case g9 => first | (with_unfolding_all assumption) | ((simp only [AllLt, and_true]); omega))))
local macro_rules | `(tactic| walk_at "call ref") => `(tactic| (k_extra "call ref"))
local macro_rules | `(tactic| k_room) => `(tactic| first | ((try dsimp only [ktrTop, Around.deeper]); omega) | ktr_room)
local macro_rules | `(tactic| walk_at "binaryOp Mult int int") => `(tactic| (k_here; (with_reducible refine' mul_is ?e9 ?h9 ?g9 ?_); (case e9 => with_reducible assumption); (case h9 => omega); (case g9 => omega)))
theorem c_sm0 (p wd : Int) (tp tw : Tok) (lx la ly lb : Addr) (c c2 : Nat) (hw : 8 ≤ wd) (hw' : wd ≤ 12) : Ctr prog w mean mg mb 254 3 [(lx, tupO [.bool false, .ref la]), (la, listOf [Value.int p tp].toArray c), (ly, tupO [.bool false, .ref lb]), (lb, listOf [].toArray c2)] [.ref lx, .ref ly, .int wd tw, .ref 191] (RetS false []) := by
  w_top off
  have hf : (hd.heap_39 = hd.heap_39) ∧ (PySem.Challenge.rw_xw0114_01 = PySem.Challenge.rw_xw0114_01) := by
    k_fill
    exact ⟨rfl, rfl⟩
  clear hf
  intro dp un gd cn cs a ccd cl outer A₀ base h₀ L m rest s Q E B F X N T hk hd hu hret
  simp only [List.nil_append, List.cons_append] at N hret
  have mk := kstMark
  have i0 : IntsAre [] [] := .nil
  have hB : (2 : Int) ≤ 2 ^ wd.toNat := two_le hw
  have hlo := pw_lo hw
  have hhi := pw_hi hw'
  k_with_none
  k_with "call ref" => first
    | k_dflt (k_here; (with_reducible show wpAny _ _ (call (Value.ref 191) _) _ _ _); (k_dflt (refine' useL (c_mul0 p wd _ _ _ _ _ _ hw hw') ?kB ?kF ?kX ?kN ?kT ?kK ?km ?kd ?ku ?_)); (case kB => k_asm); (case kF => k_asm); (case kX => k_asm); (case kN => k_asm); (case kT => k_asm); (case kK => first | exact rfl | assumption); (case km => (repeat (first | exact List.forall_mem_nil _ | (refine List.forall_mem_cons.mpr ⟨by k_mem, ?_⟩)))); (case kd => first | ((try dsimp only [ktrTop, Around.deeper]); omega) | ktr_room); (case ku => first | ((try dsimp only [ktrTop, Around.deeper]); omega) | ktr_units); intro D' us' c' h' tk' F' N' l1 iR'; (try simp only [AllLt, and_true] at l1); (try dsimp only); (try k_fold))
  refine wpAny_call ?_
  k_dflt cell_enter
  k_steps
  all_goals try (first
    | (refine' endS (Q := Q) (s := s) hret ?e1 ?e2 ?e3 ?eb ?e4 ?e5 ?e6 ?e7 ?e8; (case e1 => assumption); (case e2 => assumption); (case e3 => k_mem); (case eb => first | rfl | exact decide_eq_true (by omega)); (case e4 => k_mem); (case e5 => (intro p hp; repeat (first | exact hp | apply List.Mem.tail))); (case e6 => first | assumption | exact allLt_of (by assumption) | ((simp only [AllLt, and_true]); omega) | ((simp only [AllLt, and_true]); (try simp only [AllLt, and_true] at *); simp_all)); (case e7 => first | assumption | exact allLt_of (by assumption) | ((simp only [AllLt, and_true]); omega) | ((simp only [AllLt, and_true]); (try simp only [AllLt, and_true] at *); simp_all)); (case e8 => first | assumption | exact .nil | exact .cons _ _ .nil))
    | (exfalso; omega))

end
section
variable {prog : Program} {w : World} {mean : ExcName → Option Value} {mg mb : Str → Option Value}

local macro_rules | `(tactic| walk_at "binaryOp FloorDiv int int") => `(tactic| (k_here; (with_reducible refine' fd_is ?e9 ?h9 ?g9 ?_); (case e9 => with_reducible assumption); (case h9 => omega); (case g9 => omega)))
local macro_rules | `(tactic| walk_at "binaryOp Mod int int") => `(tactic| (k_here; (with_reducible refine' fm_is ?e9 ?h9 ?_); (case e9 => with_reducible assumption); (case h9 => omega)))
local macro_rules | `(tactic| walk_at "binaryOp LShift int int") => `(tactic| (k_here; (with_reducible refine ls_is ?e9 ?h9 ?g9 ?_); (case e9 => first | exact ⟨by omega, by omega⟩ | exact limb_small (by assumption) (by assumption) (by assumption) (by assumption)); (case h9 => omega); (case g9 => omega)))
local macro_rules | `(tactic| walk_at "UnrEnd") => `(tactic| (k_here; (refine' unrEnd0 ?h8 ?h9 ?g9 ?_); (case h8 => assumption); (case h9 => assumption); (case g9 => first | (with_unfolding_all assumption) | ((simp only [AllLt, and_true]); omega))))
local macro_rules | `(tactic| walk_at "call ref") => `(tactic| (k_extra "call ref"))
local macro_rules | `(tactic| k_room) => `(tactic| first | ((try dsimp only [ktrTop, Around.deeper]); omega) | ktr_room)
local macro_rules | `(tactic| walk_at "binaryOp Mult int int") => `(tactic| (k_here; (with_reducible refine' mul_is ?e9 ?h9 ?g9 ?_); (case e9 => with_reducible assumption); (case h9 => omega); (case g9 => omega)))
theorem c_saF (u v wd : Int) (tp tq tw : Tok) (lx la ly lb : Addr) (c c2 : Nat) (hu0 : 0 < u) (hv0 : 0 < v) (huv : u + v < 2 ^ wd.toNat) (hw : 8 ≤ wd) (hw' : wd ≤ 12) : Ctr prog w mean mg mb 247 4 [(lx, tupO [.bool false, .ref la]), (la, listOf [Value.int u tp].toArray c), (ly, tupO [.bool false, .ref lb]), (lb, listOf [Value.int v tq].toArray c2)] [.ref lx, .ref ly, .int wd tw] (RetS false (digs (2 ^ wd.toNat) (u + v))) := by
  w_top off
  have hf : (hd.heap_39 = hd.heap_39) ∧ (PySem.Challenge.rw_xw0114_01 = PySem.Challenge.rw_xw0114_01) := by
    k_fill
    exact ⟨rfl, rfl⟩
  clear hf
  intro dp un gd cn cs a ccd cl outer A₀ base h₀ L m rest s Q E B F X N T hk hd hu hret
  simp only [List.nil_append, List.cons_append] at N hret
  have mk := kstMark
  have i0 : IntsAre [] [] := .nil
  have hB : (2 : Int) ≤ 2 ^ wd.toNat := two_le hw
  have hlo := pw_lo hw
  have hhi := pw_hi hw'
  k_with_none
  k_with "call ref" => first
    | k_dflt (k_here; (with_reducible show wpAny _ _ (call (Value.ref 79) _) _ _ _); (k_dflt (refine' useL (c_add11 u v wd _ _ _ _ _ _ _ hu0 hv0 huv hw hw') ?kB ?kF ?kX ?kN ?kT ?kK ?km ?kd ?ku ?_)); (case kB => k_asm); (case kF => k_asm); (case kX => k_asm); (case kN => k_asm); (case kT => k_asm); (case kK => first | exact rfl | assumption); (case km => (repeat (first | exact List.forall_mem_nil _ | (refine List.forall_mem_cons.mpr ⟨by k_mem, ?_⟩)))); (case kd => first | ((try dsimp only [ktrTop, Around.deeper]); omega) | ktr_room); (case ku => first | ((try dsimp only [ktrTop, Around.deeper]); omega) | ktr_units); intro D' us' c' h' tk' F' N' l1 iR'; (try simp only [AllLt, and_true] at l1); (try dsimp only); (try k_fold))
  refine wpAny_call ?_
  k_dflt cell_enter
  k_steps
  all_goals try (first
    | (refine' endS (Q := Q) (s := s) hret ?e1 ?e2 ?e3 ?eb ?e4 ?e5 ?e6 ?e7 ?e8; (case e1 => assumption); (case e2 => assumption); (case e3 => k_mem); (case eb => rfl); (case e4 => k_mem); (case e5 => (intro p hp; repeat (first | exact hp | apply List.Mem.tail))); (case e6 => first | assumption | exact allLt_of (by assumption) | ((simp only [AllLt, and_true]); omega) | ((simp only [AllLt, and_true]); (try simp only [AllLt, and_true] at *); simp_all)); (case e7 => first | assumption | exact allLt_of (by assumption) | ((simp only [AllLt, and_true]); omega) | ((simp only [AllLt, and_true]); (try simp only [AllLt, and_true] at *); simp_all)); (case e8 => first | assumption | exact .nil | exact .cons _ _ .nil))
    | (exfalso; omega))

end
section
variable {prog : Program} {w : World} {mean : ExcName → Option Value} {mg mb : Str → Option Value}

local macro_rules | `(tactic| walk_at "binaryOp FloorDiv int int") => `(tactic| (k_here; (with_reducible refine' fd_is ?e9 ?h9 ?g9 ?_); (case e9 => with_reducible assumption); (case h9 => omega); (case g9 => omega)))
local macro_rules | `(tactic| walk_at "binaryOp Mod int int") => `(tactic| (k_here; (with_reducible refine' fm_is ?e9 ?h9 ?_); (case e9 => with_reducible assumption); (case h9 => omega)))
local macro_rules | `(tactic| walk_at "binaryOp LShift int int") => `(tactic| (k_here; (with_reducible refine ls_is ?e9 ?h9 ?g9 ?_); (case e9 => first | exact ⟨by omega, by omega⟩ | exact limb_small (by assumption) (by assumption) (by assumption) (by assumption)); (case h9 => omega); (case g9 => omega)))
local macro_rules | `(tactic| walk_at "UnrEnd") => `(tactic| (k_here; (refine' unrEnd0 ?h8 ?h9 ?g9 ?_); (case h8 => assumption); (case h9 => assumption); (case g9 => first | (with_unfolding_all assumption) | ((simp only [AllLt, and_true]); omega))))
local macro_rules | `(tactic| walk_at "call ref") => `(tactic| (k_extra "call ref"))
local macro_rules | `(tactic| k_room) => `(tactic| first | ((try dsimp only [ktrTop, Around.deeper]); omega) | ktr_room)
local macro_rules | `(tactic| walk_at "binaryOp Mult int int") => `(tactic| (k_here; (with_reducible refine' mul_is ?e9 ?h9 ?g9 ?_); (case e9 => with_reducible assumption); (case h9 => omega); (case g9 => omega)))
theorem c_sa0 (v wd : Int) (tq tw : Tok) (lx la ly lb : Addr) (c c2 : Nat) (hv0 : 0 < v) (hv1 : v < 2 ^ wd.toNat) (hw : 8 ≤ wd) (hw' : wd ≤ 12) : Ctr prog w mean mg mb 247 4 [(lx, tupO [.bool false, .ref la]), (la, listOf [].toArray c), (ly, tupO [.bool false, .ref lb]), (lb, listOf [Value.int v tq].toArray c2)] [.ref lx, .ref ly, .int wd tw] (RetS false (digs (2 ^ wd.toNat) v)) := by
  w_top off
  have hf : (hd.heap_39 = hd.heap_39) ∧ (PySem.Challenge.rw_xw0114_01 = PySem.Challenge.rw_xw0114_01) := by
    k_fill
    exact ⟨rfl, rfl⟩
  clear hf
  intro dp un gd cn cs a ccd cl outer A₀ base h₀ L m rest s Q E B F X N T hk hd hu hret
  simp only [List.nil_append, List.cons_append] at N hret
  have mk := kstMark
  have i0 : IntsAre [] [] := .nil
  have hB : (2 : Int) ≤ 2 ^ wd.toNat := two_le hw
  have hlo := pw_lo hw
  have hhi := pw_hi hw'
  k_with_none
  k_with "call ref" => first
    | k_dflt (k_here; (with_reducible show wpAny _ _ (call (Value.ref 79) _) _ _ _); (k_dflt (refine' useL (c_add01 v wd _ _ _ _ _ _ hv0 hv1 hw hw') ?kB ?kF ?kX ?kN ?kT ?kK ?km ?kd ?ku ?_)); (case kB => k_asm); (case kF => k_asm); (case kX => k_asm); (case kN => k_asm); (case kT => k_asm); (case kK => first | exact rfl | assumption); (case km => (repeat (first | exact List.forall_mem_nil _ | (refine List.forall_mem_cons.mpr ⟨by k_mem, ?_⟩)))); (case kd => first | ((try dsimp only [ktrTop, Around.deeper]); omega) | ktr_room); (case ku => first | ((try dsimp only [ktrTop, Around.deeper]); omega) | ktr_units); intro D' us' c' h' tk' F' N' l1 iR'; (try simp only [AllLt, and_true] at l1); (try dsimp only); (try k_fold))
  refine wpAny_call ?_
  k_dflt cell_enter
  k_steps
  all_goals try (first
    | (refine' endS (Q := Q) (s := s) hret ?e1 ?e2 ?e3 ?eb ?e4 ?e5 ?e6 ?e7 ?e8; (case e1 => assumption); (case e2 => assumption); (case e3 => k_mem); (case eb => rfl); (case e4 => k_mem); (case e5 => (intro p hp; repeat (first | exact hp | apply List.Mem.tail))); (case e6 => first | assumption | exact allLt_of (by assumption) | ((simp only [AllLt, and_true]); omega) | ((simp only [AllLt, and_true]); (try simp only [AllLt, and_true] at *); simp_all)); (case e7 => first | assumption | exact allLt_of (by assumption) | ((simp only [AllLt, and_true]); omega) | ((simp only [AllLt, and_true]); (try simp only [AllLt, and_true] at *); simp_all)); (case e8 => first | assumption | exact .nil | exact .cons _ _ .nil))
    | (exfalso; omega))

end
section
variable {prog : Program} {w : World} {mean : ExcName → Option Value} {mg mb : Str → Option Value}

local macro_rules | `(tactic| walk_at "binaryOp FloorDiv int int") => `(tactic| (k_here; (with_reducible refine' fd_is ?e9 ?h9 ?g9 ?_); (case e9 => with_reducible assumption); (case h9 => omega); (case g9 => omega)))
local macro_rules | `(tactic| walk_at "binaryOp Mod int int") => `(tactic| (k_here; (with_reducible refine' fm_is ?e9 ?h9 ?_); (case e9 => with_reducible assumption); (case h9 => omega)))
local macro_rules | `(tactic| walk_at "binaryOp LShift int int") => `(tactic| (k_here; (with_reducible refine ls_is ?e9 ?h9 ?g9 ?_); (case e9 => first | exact ⟨by omega, by omega⟩ | exact limb_small (by assumption) (by assumption) (by assumption) (by assumption)); (case h9 => omega); (case g9 => omega)))
local macro_rules | `(tactic| walk_at "UnrEnd") => `(tactic| (k_here; (refine' unrEnd0 ?h8 ?h9 ?g9 ?_); (case h8 => assumption); (case h9 => assumption); (case g9 => first | (with_unfolding_all assumption) | ((simp only [AllLt, and_true]); omega))))
local macro_rules | `(tactic| walk_at "call ref") => `(tactic| (k_extra "call ref"))
local macro_rules | `(tactic| k_room) => `(tactic| first | ((try dsimp only [ktrTop, Around.deeper]); omega) | ktr_room)
local macro_rules | `(tactic| walk_at "binaryOp Mult int int") => `(tactic| (k_here; (with_reducible refine' mul_is ?e9 ?h9 ?g9 ?_); (case e9 => with_reducible assumption); (case h9 => omega); (case g9 => omega)))
theorem c_saT (u v wd : Int) (tp tq tw : Tok) (lx la ly lb : Addr) (c c2 : Nat) (hu0 : 0 < u) (hu1 : u < v) (hv1 : v < 2 ^ wd.toNat) (hw : 8 ≤ wd) (hw' : wd ≤ 12) : Ctr prog w mean mg mb 247 4 [(lx, tupO [.bool true, .ref la]), (la, listOf [Value.int u tp].toArray c), (ly, tupO [.bool false, .ref lb]), (lb, listOf [Value.int v tq].toArray c2)] [.ref lx, .ref ly, .int wd tw] (RetS false (digs (2 ^ wd.toNat) (v - u))) := by
  w_top off
  have hf : (hd.heap_39 = hd.heap_39) ∧ (PySem.Challenge.rw_xw0114_01 = PySem.Challenge.rw_xw0114_01) := by
    k_fill
    exact ⟨rfl, rfl⟩
  clear hf
  intro dp un gd cn cs a ccd cl outer A₀ base h₀ L m rest s Q E B F X N T hk hd hu hret
  simp only [List.nil_append, List.cons_append] at N hret
  have mk := kstMark
  have i0 : IntsAre [] [] := .nil
  have hB : (2 : Int) ≤ 2 ^ wd.toNat := two_le hw
  have hlo := pw_lo hw
  have hhi := pw_hi hw'
  have huv : u ≤ v := by omega
  have hu00 : 0 ≤ u := by omega
  have hcmp : cmpI u v < 0 := by rw [← cmpI_lt (show ¬ u = v by omega) hu1]; decide
  k_with_none
  k_with "call ref" => first
    | k_dflt (k_here; (with_reducible show wpAny _ _ (call (Value.ref 72) _) _ _ _); (k_dflt (refine' useI (c_cmp11 _ _ _ _ _ _ _ _) ?kB ?kF ?kX ?kN ?kT ?kK ?km ?kd ?ku ?_)); (case kB => k_asm); (case kF => k_asm); (case kX => k_asm); (case kN => k_asm); (case kT => k_asm); (case kK => first | exact rfl | assumption); (case km => (repeat (first | exact List.forall_mem_nil _ | (refine List.forall_mem_cons.mpr ⟨by k_mem, ?_⟩)))); (case kd => first | ((try dsimp only [ktrTop, Around.deeper]); omega) | ktr_room); (case ku => first | ((try dsimp only [ktrTop, Around.deeper]); omega) | ktr_units); intro t' h' tk' F' N'; (try dsimp only); (try k_fold))
    | k_dflt (k_here; (with_reducible show wpAny _ _ (call (Value.ref 86) _) _ _ _); (k_dflt (refine' useL (c_sub11 v u wd _ _ _ _ _ _ _ hv1 hu00 huv hw hw') ?kB ?kF ?kX ?kN ?kT ?kK ?km ?kd ?ku ?_)); (case kB => k_asm); (case kF => k_asm); (case kX => k_asm); (case kN => k_asm); (case kT => k_asm); (case kK => first | exact rfl | assumption); (case km => (repeat (first | exact List.forall_mem_nil _ | (refine List.forall_mem_cons.mpr ⟨by k_mem, ?_⟩)))); (case kd => first | ((try dsimp only [ktrTop, Around.deeper]); omega) | ktr_room); (case ku => first | ((try dsimp only [ktrTop, Around.deeper]); omega) | ktr_units); intro D' us' c' h' tk' F' N' l1 iR'; (try simp only [AllLt, and_true] at l1); (try dsimp only); (try k_fold))
  refine wpAny_call ?_
  k_dflt cell_enter
  k_steps
  all_goals try (first
    | (refine' endS (Q := Q) (s := s) hret ?e1 ?e2 ?e3 ?eb ?e4 ?e5 ?e6 ?e7 ?e8; (case e1 => assumption); (case e2 => assumption); (case e3 => k_mem); (case eb => rfl); (case e4 => k_mem); (case e5 => (intro p hp; repeat (first | exact hp | apply List.Mem.tail))); (case e6 => first | assumption | exact allLt_of (by assumption) | ((simp only [AllLt, and_true]); omega) | ((simp only [AllLt, and_true]); (try simp only [AllLt, and_true] at *); simp_all)); (case e7 => first | assumption | exact allLt_of (by assumption) | ((simp only [AllLt, and_true]); omega) | ((simp only [AllLt, and_true]); (try simp only [AllLt, and_true] at *); simp_all)); (case e8 => first | assumption | exact .nil | exact .cons _ _ .nil))
    | (exfalso; omega))

end
section
variable {prog : Program} {w : World} {mean : ExcName → Option Value} {mg mb : Str → Option Value}

local macro_rules | `(tactic| walk_at "binaryOp FloorDiv int int") => `(tactic| (k_here; (with_reducible refine' fd_is ?e9 ?h9 ?g9 ?_); (case e9 => with_reducible assumption); (case h9 => omega); (case g9 => omega)))
local macro_rules | `(tactic| walk_at "binaryOp Mod int int") => `(tactic| (k_here; (with_reducible refine' fm_is ?e9 ?h9 ?_); (case e9 => with_reducible assumption); (case h9 => omega)))
local macro_rules | `(tactic| walk_at "binaryOp LShift int int") => `(tactic| (k_here; (with_reducible refine ls_is ?e9 ?h9 ?g9 ?_); (case e9 => first | exact ⟨by omega, by omega⟩ | exact limb_small (by assumption) (by assumption) (by assumption) (by assumption)); (case h9 => omega); (case g9 => omega)))
local macro_rules | `(tactic| walk_at "UnrEnd") => `(tactic| (k_here; (refine' unrEnd0 ?h8 ?h9 ?g9 ?_); (case h8 => assumption); (case h9 => assumption); (case g9 => first | (with_unfolding_all assumption) | ((simp only [AllLt, and_true]); omega))))
local macro_rules | `(tactic| walk_at "call ref") => `(tactic| (k_extra "call ref"))
local macro_rules | `(tactic| k_room) => `(tactic| first | ((try dsimp only [ktrTop, Around.deeper]); omega) | ktr_room)
local macro_rules | `(tactic| walk_at "binaryOp Mult int int") => `(tactic| (k_here; (with_reducible refine' mul_is ?e9 ?h9 ?g9 ?_); (case e9 => with_reducible assumption); (case h9 => omega); (case g9 => omega)))
theorem c_ssh (u wd : Int) (tp tn tw : Tok) (lx la : Addr) (c : Nat) (hu0 : 0 < u) (hu1 : u < 2 ^ wd.toNat) (hw : 8 ≤ wd) (hw' : wd ≤ 12) : Ctr prog w mean mg mb 261 4 [(lx, tupO [.bool false, .ref la]), (la, listOf [Value.int u tp].toArray c)] [.ref lx, .int (-1) tn, .int wd tw] (RetS false (digs (2 ^ wd.toNat) (u / 2 ^ (1 : Int).toNat))) := by
  w_top off
  have hf : (hd.heap_39 = hd.heap_39) ∧ (PySem.Challenge.rw_xw0114_01 = PySem.Challenge.rw_xw0114_01) := by
    k_fill
    exact ⟨rfl, rfl⟩
  clear hf
  intro dp un gd cn cs a ccd cl outer A₀ base h₀ L m rest s Q E B F X N T hk hd hu hret
  simp only [List.nil_append, List.cons_append] at N hret
  have mk := kstMark
  have i0 : IntsAre [] [] := .nil
  have hB : (2 : Int) ≤ 2 ^ wd.toNat := two_le hw
  have hlo := pw_lo hw
  have hhi := pw_hi hw'
  k_with_none
  k_with "call ref" => first
    | k_dflt (k_here; (with_reducible show wpAny _ _ (call (Value.ref 121) _) _ _ _); (k_dflt (refine' useL (c_shr u _ wd _ _ _ _ _ hu0 hu1 ?hn0 ?hn1 ?hq ?hf hw hw') ?kB ?kF ?kX ?kN ?kT ?kK ?km ?kd ?ku ?_)); (case kB => k_asm); (case kF => k_asm); (case kX => k_asm); (case kN => k_asm); (case kT => k_asm); (case kK => first | exact rfl | assumption); (case km => (repeat (first | exact List.forall_mem_nil _ | (refine List.forall_mem_cons.mpr ⟨by k_mem, ?_⟩)))); (case hn0 => decide); (case hn1 => (show (1 : Int) < wd; omega)); (case hq => exact fdivs (by decide) (show (1 : Int) < wd by omega)); (case hf => exact fmods (by decide) (show (1 : Int) < wd by omega)); (case kd => first | ((try dsimp only [ktrTop, Around.deeper]); omega) | ktr_room); (case ku => first | ((try dsimp only [ktrTop, Around.deeper]); omega) | ktr_units); intro D' us' c' h' tk' F' N' l1 iR'; (try simp only [AllLt, and_true] at l1); (try dsimp only); (try k_fold))
  refine wpAny_call ?_
  k_dflt cell_enter
  k_steps
  all_goals try (first
    | (refine' endS (Q := Q) (s := s) hret ?e1 ?e2 ?e3 ?eb ?e4 ?e5 ?e6 ?e7 ?e8; (case e1 => assumption); (case e2 => assumption); (case e3 => k_mem); (case eb => rfl); (case e4 => k_mem); (case e5 => (intro p hp; repeat (first | exact hp | apply List.Mem.tail))); (case e6 => first | assumption | exact allLt_of (by assumption) | ((simp only [AllLt, and_true]); omega) | ((simp only [AllLt, and_true]); (try simp only [AllLt, and_true] at *); simp_all)); (case e7 => first | assumption | exact allLt_of (by assumption) | ((simp only [AllLt, and_true]); omega) | ((simp only [AllLt, and_true]); (try simp only [AllLt, and_true] at *); simp_all)); (case e8 => first | assumption | exact .nil | exact .cons _ _ .nil))
    | (exfalso; omega))

end
section
variable {prog : Program} {w : World} {mean : ExcName → Option Value} {mg mb : Str → Option Value}

local macro_rules | `(tactic| walk_at "binaryOp FloorDiv int int") => `(tactic| (k_here; (with_reducible refine' fd_is ?e9 ?h9 ?g9 ?_); (case e9 => with_reducible assumption); (case h9 => omega); (case g9 => omega)))
local macro_rules | `(tactic| walk_at "binaryOp Mod int int") => `(tactic| (k_here; (with_reducible refine' fm_is ?e9 ?h9 ?_); (case e9 => with_reducible assumption); (case h9 => omega)))
local macro_rules | `(tactic| walk_at "binaryOp LShift int int") => `(tactic| (k_here; (with_reducible refine ls_is ?e9 ?h9 ?g9 ?_); (case e9 => first | exact ⟨by omega, by omega⟩ | exact limb_small (by assumption) (by assumption) (by assumption) (by assumption)); (case h9 => omega); (case g9 => omega)))
local macro_rules | `(tactic| walk_at "UnrEnd") => `(tactic| (k_here; (refine' unrEnd0 ?h8 ?h9 ?g9 ?_); (case h8 => assumption); (case h9 => assumption); (case g9 => first | (with_unfolding_all assumption) | ((simp only [AllLt, and_true]); omega))))
local macro_rules | `(tactic| walk_at "call ref") => `(tactic| (k_extra "call ref"))
local macro_rules | `(tactic| k_room) => `(tactic| first | ((try dsimp only [ktrTop, Around.deeper]); omega) | ktr_room)
local macro_rules | `(tactic| walk_at "binaryOp Mult int int") => `(tactic| (k_here; (with_reducible refine' mul_is ?e9 ?h9 ?g9 ?_); (case e9 => with_reducible assumption); (case h9 => omega); (case g9 => omega)))
theorem c_plain (x wd : Int) (tw : Tok) (lx l : Addr) (us : List Value) (c : Nat) (hi : IntsAre us (digs (2 ^ wd.toNat) x)) (h0 : 0 ≤ x) (h1 : x < 16777216) (hw : 8 ≤ wd) (hw' : wd ≤ 12) : Ctr prog w mean mg mb 296 1 [(lx, tupO [.bool false, .ref l]), (l, listOf us.toArray c)] [.ref lx, .int wd tw] (RetI x) := by
  w_top off
  have hf : (hd.heap_39 = hd.heap_39) ∧ (PySem.Challenge.rw_xw0114_01 = PySem.Challenge.rw_xw0114_01) := by
    k_fill
    exact ⟨rfl, rfl⟩
  clear hf
  intro dp un gd cn cs a ccd cl outer A₀ base h₀ L m rest s Q E B F X N T hk hd hu hret
  simp only [List.nil_append, List.cons_append] at N hret
  have mk := kstMark
  have i0 : IntsAre [] [] := .nil
  have hB : (2 : Int) ≤ 2 ^ wd.toNat := two_le hw
  have hlo := pw_lo hw
  have hhi := pw_hi hw'
  have husx := hi.length
  have hdlx := digs_len' (x := x) hB
  k_with_none
  k_with "pyIter ref" => k_state (fun pre found => ToldP (2 ^ wd.toNat) x pre found) "found"
  k_with "state" => first | exact told_start hB h0 | exact told_step hB h0 h1 (by assumption) (by assumption)
  refine wpAny_call ?_
  k_dflt cell_enter
  k_steps
  all_goals try (refine' endI (Q := Q) (s := s) hret ?e1 ?e2 ?e3 ?e4; (case e1 => assumption); (case e2 => assumption); (case e3 => (intro p hp; repeat (first | exact hp | apply List.Mem.tail))); (case e4 => exact told_end (by assumption)))

end
section
section
variable {prog : Program} {w : World} {mean : ExcName → Option Value} {mg mb : Str → Option Value}
theorem c_smul (p q wd : Int) (xb yb : Bool) (tp tw : Tok) (lx la ly lb : Addr) (us : List Value) (c c2 : Nat) (hxb : xb = false) (hi : IntsAre us (digs (2 ^ wd.toNat) q)) (hp0 : 0 < p) (hp1 : p < 2 ^ wd.toNat) (hq0 : 0 ≤ q) (hq1 : q < 2 ^ wd.toNat) (hq : q = 0 → yb = false) (hw : 8 ≤ wd) (hw' : wd ≤ 12) :
    Ctr prog w mean mg mb 254 3 [(lx, tupO [.bool xb, .ref la]), (la, listOf [Value.int p tp].toArray c), (ly, tupO [.bool yb, .ref lb]), (lb, listOf us.toArray c2)] [.ref lx, .ref ly, .int wd tw, .ref 191] (RetS yb (digs (2 ^ wd.toNat) (p * q))) := by
  have hB := two_le hw
  subst hxb
  by_cases h : q = 0
  · rw [hq h]
    subst h
    rw [Int.mul_zero, digs_zero]
    rw [digs_zero] at hi
    cases hi
    exact c_sm0 p wd tp tw lx la ly lb c c2 hw hw'
  · rw [digs_one hB (by omega) hq1] at hi
    cases hi with
    | cons _ t hi =>
      cases hi
      cases yb with
      | false => exact c_smF p q wd tp t tw lx la ly lb c c2 hp0 hp1 (by omega) hq1 hw hw'
      | true => exact c_smT p q wd tp t tw lx la ly lb c c2 hp0 hp1 (by omega) hq1 hw hw'
theorem c_sadd (u v z wd : Int) (xb : Bool) (tq tw : Tok) (lx la ly lb : Addr) (us : List Value) (c c2 : Nat) (hi : IntsAre us (digs (2 ^ wd.toNat) u)) (hu0 : 0 ≤ u) (hu1 : u < 2 ^ wd.toNat) (hu : u = 0 → xb = false) (hx : xb = true → u < v ∧ z = v - u) (hx' : xb = false → z = u + v) (hv0 : 0 < v) (hv1 : v < 2 ^ wd.toNat) (hz : z < 2 ^ wd.toNat) (hw : 8 ≤ wd) (hw' : wd ≤ 12) :
    Ctr prog w mean mg mb 247 4 [(lx, tupO [.bool xb, .ref la]), (la, listOf us.toArray c), (ly, tupO [.bool false, .ref lb]), (lb, listOf [Value.int v tq].toArray c2)] [.ref lx, .ref ly, .int wd tw] (RetS false (digs (2 ^ wd.toNat) z)) := by
  have hB := two_le hw
  by_cases h : u = 0
  · have hb := hu h
    subst hb
    have e := hx' rfl
    subst h
    rw [digs_zero] at hi
    cases hi
    rw [e, Int.zero_add]
    exact c_sa0 v wd tq tw lx la ly lb c c2 hv0 hv1 hw hw'
  · rw [digs_one hB (by omega) hu1] at hi
    cases hi with
    | cons _ t hi =>
      cases hi
      cases xb with
      | false =>
        have e := hx' rfl
        subst e
        exact c_saF u v wd t tq tw lx la ly lb c c2 (by omega) hv0 hz hw hw'
      | true =>
        obtain ⟨e1, e2⟩ := hx rfl
        subst e2
        exact c_saT u v wd t tq tw lx la ly lb c c2 (by omega) e1 hv1 hw hw'
end
section
variable {prog : Program} {w : World} {A : Around} {E : Value → Shared → Prop} {s : Shared} {env : Env} {h₀ : Heap} {x : Str} {body : List Stmt} {Q : Flow → Shared → Prop}
theorem unrPost_mono {L I : Addr} {it : Obj} {r r' : (Str → Option Value) → List (Addr × Obj) → Prop} {s₁ s₂ : Shared} {f : Flow} (hr : ∀ m news, r m news → r' m news) (h : UnrPost h₀ L s₁ I it r Q f s₂) : UnrPost h₀ L s₁ I it r' Q f s₂ := by
  cases f with
  | ret v => exact h
  | brk => exact h
  | next => obtain ⟨h', tk, m', news', e, F', N', ho, q⟩ := h; exact ⟨h', tk, m', news', e, F', N', ho, hr _ _ q⟩
  | cont => obtain ⟨h', tk, m', news', e, F', N', ho, q⟩ := h; exact ⟨h', tk, m', news', e, F', N', ho, hr _ _ q⟩
theorem range_J {r : Addr} {a₀ b₀ : Int} {t₀ u₀ v₀ : Tok} {n : Nat} {m₀ : Str → Option Value} {news : List (Addr × Obj)} (J : Nat → (Str → Option Value) → List (Addr × Obj) → Prop) (news₀ : List (Addr × Obj))
    (hh : A.handled = none) (hr : IsRange s.heap r a₀ b₀ 1 t₀ u₀ v₀) (hsmall : Builtin.Range.small a₀ b₀ 1 = true) (hn : Builtin.Range.rangeSize a₀ b₀ 1 = (n : Int)) (F : Fr h₀ env.locals s.heap m₀) (N : News h₀ env.locals s.heap news)
    (hs : ∀ p ∈ news₀, p ∈ news) (hJ : J 0 m₀ news₀)
    (turn : ∀ (i : Nat) m₁ news₁ I t h tk, i < n → J i m₁ news₁ → Fr h₀ env.locals h (fun y => if y = x then some (.int (a₀ + (i : Int)) t) else m₁ y) → News h₀ env.locals h ((I, itR (a₀ + ((i + 1 : Nat) : Int)) ((n : Int) - ((i + 1 : Nat) : Int))) :: news₁) →
      wpAny (model prog w) A (execs body env) (UnrPost h₀ env.locals { s with heap := h, toks := tk } I (itR (a₀ + ((i + 1 : Nat) : Int)) ((n : Int) - ((i + 1 : Nat) : Int))) (J (i + 1)) Q) E { s with heap := h, toks := tk })
    (done : ∀ m₁ news₁ h tk, J n m₁ news₁ → Fr h₀ env.locals h m₁ → News h₀ env.locals h news₁ → Q .next { s with heap := h, toks := tk }) :
    wpAny (model prog w) A (pyIter (.ref r)) (fun it s₂ => LoopAtV prog w A h₀ env x body Q E it s₂) E s := by
  refine iter_rangeUnr hh hr hsmall hn F (news := news₀) (fun p hp => N p (hs p hp)) fun I _ => ?_
  have all : ∀ (k i : Nat) m₁ news₁, i + k = n → J i m₁ news₁ → RangeRest prog w A E h₀ env x body Q s I a₀ n k i m₁ news₁ := by
    intro k
    induction k with
    | zero =>
      intro i m₁ news₁ e j
      have e' : i = n := e
      subst e'
      exact RangeRest.zero fun h tk F N => done m₁ news₁ h tk j F N
    | succ k ih =>
      intro i m₁ news₁ e j
      refine RangeRest.succ fun t h tk F N => ?_
      exact wpAny_mono (turn i m₁ news₁ I t h tk (by omega) j F N) (fun f s₂ p => unrPost_mono (fun m' n' q => ih (i + 1) m' n' (by omega) q) p) fun _ _ e => e
  exact all n 0 m₀ news₀ (by omega) hJ
end
/-! the plain law -/
def isq (n : Nat) : Nat := (List.range 60).countP fun k => decide ((k + 1) * (k + 1) ≤ n)
def numF (ap : Nat) (p : Nat) : Nat := p * p * (ap * ap + 4)
def rootF (ap p : Nat) : Nat := isq (numF ap p)
def sumF (ap p : Nat) : Nat := rootF ap p + 2 * p - ap * p
def lessF (ap p : Nat) : Nat := sumF ap p / 2
def goneF (ap : Nat) : Nat → List Nat
  | 0 => []
  | i + 1 => goneF ap i ++ [lessF ap (i + 1), lessF ap (i + 1) + ap * (i + 1)]
def leastF (ap : Nat) : Nat → Nat
  | 0 => 1
  | i + 1 => lessF ap (i + 1)
def okF (ap i : Nat) : Bool :=
  let p := i + 1
  let n := numF ap p
  let r := rootF ap p
  let v := sumF ap p
  let l := lessF ap p
  decide (5 ≤ n) && decide (n < 4096) && decide (0 < r) && decide (r < 64) && decide (r * r ≤ n) && decide (n < (r + 1) * (r + 1)) && decide (n - r * r ≤ 2 * r) && decide (r * r < n) && decide (2 ≤ v) && decide (v < 256) && decide (v + ap * p = r + 2 * p) &&
  decide (2 ^ n.log2 ≤ n) && decide (n < 2 ^ (n.log2 + 1)) && (decide (ap ≤ 2) || decide ((ap - 2) * p < r)) && decide (l + ap * p < 256) && decide (leastF ap i ≤ l) &&
  !(goneF ap i).contains l && !(goneF ap i).contains (l + ap * p) && (List.range 64).all fun k => !(decide (leastF ap i ≤ k) && decide (k < l)) || (goneF ap i).contains k
theorem ok_all : ∀ a : Fin 6, ∀ i : Fin 8, okF (a.val + 1) i.val = true := by decide +kernel
end
section
variable {prog : Program} {w : World} {mean : ExcName → Option Value} {mg mb : Str → Option Value}

local macro_rules | `(tactic| walk_at "binaryOp FloorDiv int int") => `(tactic| (k_here; (with_reducible refine' fd_is ?e9 ?h9 ?g9 ?_); (case e9 => with_reducible assumption); (case h9 => omega); (case g9 => omega)))
local macro_rules | `(tactic| walk_at "binaryOp Mod int int") => `(tactic| (k_here; (with_reducible refine' fm_is ?e9 ?h9 ?_); (case e9 => with_reducible assumption); (case h9 => omega)))
local macro_rules | `(tactic| walk_at "binaryOp LShift int int") => `(tactic| (k_here; (with_reducible refine ls_is ?e9 ?h9 ?g9 ?_); (case e9 => first | exact ⟨by omega, by omega⟩ | exact limb_small (by assumption) (by assumption) (by assumption) (by assumption)); (case h9 => omega); (case g9 => omega)))
local macro_rules | `(tactic| walk_at "UnrEnd") => `(tactic| (k_here; (refine' unrEnd0 ?h8 ?h9 ?g9 ?_); (case h8 => assumption); (case h9 => assumption); (case g9 => first | (with_unfolding_all assumption) | ((simp only [AllLt, and_true]); omega))))
local macro_rules | `(tactic| walk_at "call ref") => `(tactic| (k_extra "call ref"))
local macro_rules | `(tactic| k_room) => `(tactic| first | ((try dsimp only [ktrTop, Around.deeper]); omega) | ktr_room)

theorem c_next (k many : Int) (tk tm : Tok) (l p : Addr) (ys : List Value) (ns : List Int) (c : Nat) (hi : IntsAre ys ns) (hns : ns.length ≤ 2) (hk0 : 0 ≤ k) (hk1 : k ≤ 1) (hm0 : 2 ≤ many) (hm1 : many ≤ 8) (hpl : @LT.lt Nat _ p l) (dp un : Nat) (gd : Option (List Code)) (cn : Str) (cs : Scope) (a : Addr) (ccd : Value) (cl : List (Str × Addr)) (outer : List Env) (A₀ : Around) (base h₀ : Heap) (L : Addr) (m : Str → Option Value) (s : Shared) (Q E : Value → Shared → Prop)
    (B : Below A₀ base outer h₀) (F : Fr h₀ L s.heap m) (X : (hd.heap_39 w.params).In h₀) (N : News h₀ L s.heap [(l, listOf [Value.int k tk, .ref p].toArray c), (p, LCg.lst ys)]) (T : Top qv (looseW qv []) mean mg mb h₀) (hk : cs.kind = .function)
    (hdp : dp + 1 < recursionLimit) (hu : un + 8 * 1 < cLine)
    (hret : ∀ (v : Int) (t t1 : Tok) (c' : Nat) (h' : Heap) (tk' : Nat), 0 ≤ v → v < many → Fr h₀ L h' m → News h₀ L h' [(l, listOf [Value.int (k + 1) t1, .ref p].toArray c'), (p, LCg.lst ys)] → Q (.int v t) { s with heap := h', toks := tk' }) :
    wpAny (model prog w) (ktrTop dp un gd cn cs L a ccd cl outer) (call (.ref 268) [.ref l, .int many tm]) Q E s := by
  w_top off
  have hf : (hd.heap_39 = hd.heap_39) ∧ (PySem.Challenge.rw_xw0114_01 = PySem.Challenge.rw_xw0114_01) := by
    k_fill
    exact ⟨rfl, rfl⟩
  clear hf
  have mk := kstMark
  have i0 : IntsAre [] [] := .nil
  have hys := hi.length
  k_with_none
  refine wpAny_call ?_
  k_dflt cell_enter
  k_steps
  all_goals exact hret _ _ _ _ _ _ (fmodb (by omega)).1 (fmodb (by omega)).2 (by assumption) (by assumption)
theorem useN (k many : Int) (tk tm : Tok) (l p : Addr) (ys : List Value) (ns : List Int) (c : Nat) (hi : IntsAre ys ns) (hns : ns.length ≤ 2) (hk0 : 0 ≤ k) (hk1 : k ≤ 1) (hm0 : 2 ≤ many) (hm1 : many ≤ 8) (hpl : @LT.lt Nat _ p l) {dp un : Nat} {gd : Option (List Code)} {cn : Str} {cs : Scope} {a : Addr} {ccd : Value} {cl : List (Str × Addr)} {outer : List Env} {A₀ : Around} {base h₀ : Heap} {L : Addr} {m : Str → Option Value} {news : List (Addr × Obj)} {s : Shared} {Q E : Value → Shared → Prop}
    (B : Below A₀ base outer h₀) (F : Fr h₀ L s.heap m) (X : (hd.heap_39 w.params).In h₀) (N : News h₀ L s.heap news) (hm : ∀ q ∈ [(l, listOf [Value.int k tk, .ref p].toArray c), (p, LCg.lst ys)], q ∈ news) (T : Top qv (looseW qv []) mean mg mb h₀) (hk : cs.kind = .function)
    (hdp : dp + 1 < recursionLimit) (hu : un + 8 * 1 < cLine)
    (hret : ∀ (v : Int) (t t1 : Tok) (c' : Nat) (h' : Heap) (tk' : Nat), 0 ≤ v → v < many → Fr h₀ L h' m → News h₀ L h' [(l, listOf [Value.int (k + 1) t1, .ref p].toArray c'), (p, LCg.lst ys)] → Q (.int v t) { s with heap := h', toks := tk' }) :
    wpAny (model prog w) (ktrTop dp un gd cn cs L a ccd cl outer) (call (.ref 268) [.ref l, .int many tm]) Q E s :=
  c_next k many tk tm l p ys ns c hi hns hk0 hk1 hm0 hm1 hpl dp un gd cn cs a ccd cl outer A₀ base h₀ L m s Q E B F X (fun q hq => N q (hm q hq)) T hk hdp hu hret
end
section
section
variable {prog : Program} {w : World} {mean : ExcName → Option Value} {mg mb : Str → Option Value} {f : Addr} {k : Nat} {args : List (Addr × Obj)} {vs : List Value}
variable {dp un : Nat} {gd : Option (List Code)} {cn : Str} {cs : Scope} {a : Addr} {ccd : Value} {cl : List (Str × Addr)} {outer : List Env} {A₀ : Around} {base h₀ : Heap} {L : Addr} {m : Str → Option Value} {news : List (Addr × Obj)} {s : Shared} {Q E : Value → Shared → Prop}
theorem useT1 {R y : Int} {S : List Int} (C : Ctr prog w mean mg mb f k args vs (RetT R S)) (e : S = [y]) (B : Below A₀ base outer h₀) (F : Fr h₀ L s.heap m) (X : (hd.heap_39 w.params).In h₀) (N : News h₀ L s.heap news) (T : Top qv (looseW qv []) mean mg mb h₀) (hk : cs.kind = .function)
    (hm : ∀ p ∈ args, p ∈ news) (hd : dp + k < recursionLimit) (hu : un + 8 * k < cLine)
    (ret : ∀ (T D1 D0 : Addr) (t t0 : Tok) (c1 c0 : Nat) (h' : Heap) (tk' : Nat), Fr h₀ L h' m → News h₀ L h' ((T, tupO [.ref D1, .ref D0]) :: (D0, listOf [Value.int y t0].toArray c0) :: (D1, listOf [Value.int R t].toArray c1) :: news) → AllLt T ((D0, listOf [Value.int y t0].toArray c0) :: (D1, listOf [Value.int R t].toArray c1) :: news) → AllLt D0 ((D1, listOf [Value.int R t].toArray c1) :: news) → AllLt D1 news → Q (.ref T) { s with heap := h', toks := tk' }) :
    wpAny (model prog w) (ktrTop dp un gd cn cs L a ccd cl outer) (call (.ref f) vs) Q E s := by
  subst e
  refine useT C B F X N T hk hm hd hu fun T D1 D0 t us c1 c0 h' tk' F' N' h1 h2 h3 hi => ?_
  cases hi with
  | cons _ t0 hi => cases hi; exact ret T D1 D0 t t0 c1 c0 h' tk' F' N' h1 h2 h3
end
/-- what a turn asks of the numbers -/
structure TF (an i : Nat) (p aa pp x r q u v l ax lf : Int) (b : Nat) : Prop where
  e1 : 1 + (i : Int) = p
  e2 : p * p = pp
  e3 : (1 + (an : Int)) * (1 + (an : Int)) = aa
  e4 : pp * (aa + 4) = x
  e5 : (if 2 - (1 + (an : Int)) < 0 then -(2 - (1 + (an : Int))) else 2 - (1 + (an : Int))) = q
  e6 : p * q = u
  e7 : v / 2 ^ (1 : Int).toNat = l
  e8 : (1 + (an : Int)) * p = ax
  e9 : x - r * r = lf
  p1 : 1 ≤ p
  p8 : p ≤ 8
  an6 : an ≤ 5
  pp1 : 1 ≤ pp
  pp64 : pp ≤ 64
  aa1 : 1 ≤ aa
  aa36 : aa ≤ 36
  x5 : 5 ≤ x
  x4 : x < 4096
  r0 : 0 < r
  r64 : r < 64
  rr : r * r ≤ x
  rr1 : x < (r + 1) * (r + 1)
  lf0 : 0 < lf
  lf1 : lf ≤ 2 * r
  b0 : (2 : Int) ^ b ≤ x
  b1 : x < 2 ^ (b + 1)
  q0 : 0 ≤ q
  q4 : q ≤ 4
  u0 : 0 ≤ u
  u32 : u ≤ 32
  hx : decide (2 - (1 + (an : Int)) < 0) = true → u < r ∧ v = r - u
  hx' : decide (2 - (1 + (an : Int)) < 0) = false → v = u + r
  v2 : 2 ≤ v
  v256 : v < 256
  l0 : 0 < l
  ax0 : 0 < ax
  ax48 : ax ≤ 48
  lax : l + ax < 256
  ls : (leastF (an + 1) i : Int) ≤ l
  g1 : l ∉ (goneF (an + 1) i).map Int.ofNat
  g2 : l + ax ∉ (goneF (an + 1) i).map Int.ofNat
  g3 : ∀ k : Int, (leastF (an + 1) i : Int) ≤ k → k < l → k ∈ (goneF (an + 1) i).map Int.ofNat
  n1 : (goneF (an + 1) (i + 1)).map Int.ofNat = (goneF (an + 1) i).map Int.ofNat ++ [l, l + ax]
  n2 : (leastF (an + 1) (i + 1) : Int) = l
def rI (an i : Nat) : Int := (rootF (an + 1) (i + 1) : Nat)
def pI (i : Nat) : Int := (i + 1 : Nat)
def xI (an i : Nat) : Int := (numF (an + 1) (i + 1) : Nat)
def qI (an : Nat) : Int := if 2 - (1 + (an : Int)) < 0 then -(2 - (1 + (an : Int))) else 2 - (1 + (an : Int))
def vI (an i : Nat) : Int := (sumF (an + 1) (i + 1) : Nat)
def lI (an i : Nat) : Int := (lessF (an + 1) (i + 1) : Nat)
def aI (an i : Nat) : Int := (1 + (an : Int)) * pI i
def bI (an i : Nat) : Nat := (numF (an + 1) (i + 1)).log2
def tfB (an i : Nat) : Bool :=
  decide (1 + (i : Int) = pI i) && decide (pI i * pI i * ((1 + (an : Int)) * (1 + (an : Int)) + 4) = xI an i) && decide (vI an i / 2 ^ (1 : Int).toNat = lI an i) &&
  decide (5 ≤ xI an i) && decide (xI an i < 4096) && decide (0 < rI an i) && decide (rI an i < 64) && decide (rI an i * rI an i ≤ xI an i) && decide (xI an i < (rI an i + 1) * (rI an i + 1)) &&
  decide (0 < xI an i - rI an i * rI an i) && decide (xI an i - rI an i * rI an i ≤ 2 * rI an i) && decide ((2 : Int) ^ bI an i ≤ xI an i) && decide (xI an i < 2 ^ (bI an i + 1)) &&
  decide (decide (2 - (1 + (an : Int)) < 0) = true → pI i * qI an < rI an i ∧ vI an i = rI an i - pI i * qI an) && decide (decide (2 - (1 + (an : Int)) < 0) = false → vI an i = pI i * qI an + rI an i) &&
  decide (2 ≤ vI an i) && decide (vI an i < 256) && decide (0 < lI an i) && decide (lI an i + aI an i < 256) && decide (lI an i < 64) && decide ((leastF (an + 1) i : Int) ≤ lI an i) &&
  decide (lI an i ∉ (goneF (an + 1) i).map Int.ofNat) && decide (lI an i + aI an i ∉ (goneF (an + 1) i).map Int.ofNat) &&
  ((List.range 64).all fun k => decide ((leastF (an + 1) i : Int) ≤ (k : Int) → (k : Int) < lI an i → (k : Int) ∈ (goneF (an + 1) i).map Int.ofNat)) &&
  decide ((goneF (an + 1) (i + 1)).map Int.ofNat = (goneF (an + 1) i).map Int.ofNat ++ [lI an i, lI an i + aI an i]) && decide ((leastF (an + 1) (i + 1) : Int) = lI an i) &&
  decide (pI i * qI an ≤ 32) && decide (0 ≤ pI i * qI an) && decide (1 ≤ pI i * pI i) && decide (pI i * pI i ≤ 64) && decide (1 ≤ (1 + (an : Int)) * (1 + (an : Int))) && decide ((1 + (an : Int)) * (1 + (an : Int)) ≤ 36) && decide (0 < aI an i) && decide (aI an i ≤ 48) && decide (0 ≤ qI an) && decide (qI an ≤ 4) && decide (0 ≤ (leastF (an + 1) i : Int))
theorem tf_all : ∀ a : Fin 6, ∀ i : Fin 8, tfB a.val i.val = true := by decide +kernel
theorem turn_facts {an i : Nat} (han : an ≤ 5) (hi : i < 8) : ∃ p aa pp x r q u v l ax lf b, TF an i p aa pp x r q u v l ax lf b := by
  have ok := tf_all ⟨an, by omega⟩ ⟨i, hi⟩
  simp only [tfB, Bool.and_eq_true, decide_eq_true_eq, List.all_eq_true, List.mem_range] at ok
  obtain ⟨⟨⟨⟨⟨⟨⟨⟨⟨⟨⟨⟨⟨⟨⟨⟨⟨⟨⟨⟨⟨⟨⟨⟨⟨⟨⟨⟨⟨⟨⟨⟨⟨⟨⟨⟨k1, k2⟩, k3⟩, k4⟩, k5⟩, k6⟩, k7⟩, k8⟩, k9⟩, k10⟩, k11⟩, k12⟩, k13⟩, k14⟩, k15⟩, k16⟩, k17⟩, k18⟩, k19⟩, k20⟩, k21⟩, k22⟩, k23⟩, k24⟩, k25⟩, k26⟩, k27⟩, k28⟩, k29⟩, k30⟩, k31⟩, k32⟩, k33⟩, k34⟩, k35⟩, k36⟩, k37⟩ := ok
  have g3 : ∀ k : Int, (leastF (an + 1) i : Int) ≤ k → k < lI an i → k ∈ (goneF (an + 1) i).map Int.ofNat := by
    intro k h1 h2
    have := k24 k.toNat (by omega)
    rw [Int.toNat_of_nonneg (by omega)] at this
    exact this h1 h2
  refine ⟨pI i, (1 + (an : Int)) * (1 + (an : Int)), pI i * pI i, xI an i, rI an i, qI an, pI i * qI an, vI an i, lI an i, aI an i, xI an i - rI an i * rI an i, bI an i, ?_⟩
  exact { e1 := k1, e2 := rfl, e3 := rfl, e4 := k2, e5 := rfl, e6 := rfl, e7 := k3, e8 := rfl, e9 := rfl, p1 := by omega, p8 := by omega, an6 := han, pp1 := k29, pp64 := k30, aa1 := k31, aa36 := k32, x5 := k4, x4 := k5, r0 := k6, r64 := k7, rr := k8, rr1 := k9, lf0 := k10, lf1 := k11, b0 := k12, b1 := k13, q0 := k35, q4 := k36, u0 := k28, u32 := k27, hx := fun h => k14 (of_decide_eq_true h), hx' := k15, v2 := k16, v256 := k17, l0 := k18, ax0 := k33, ax48 := k34, lax := k19, ls := k21, g1 := k22, g2 := k23, g3 := g3, n1 := k25, n2 := k26 }
end
section
abbrev MM (G : Addr) (ls : Int) (tl : Tok) (wd : Int) (tw : Tok) (ap : Int) (ta : Tok) (u : Str → Option Value) : Str → Option Value := fun y =>
  if y = Str.ofString "gone" then some (.ref G) else if y = Str.ofString "least" then some (.int ls tl) else if y = Str.ofString "w" then some (.int wd tw) else if y = Str.ofString "apart" then some (.int ap ta) else u y
theorem mm_eq {G : Addr} {ls : Int} {tl : Tok} {wd : Int} {tw : Tok} {ap : Int} {ta : Tok} {m : Str → Option Value} (h1 : m (Str.ofString "gone") = some (.ref G)) (h2 : m (Str.ofString "least") = some (.int ls tl)) (h3 : m (Str.ofString "w") = some (.int wd tw)) (h4 : m (Str.ofString "apart") = some (.int ap ta)) : MM G ls tl wd tw ap ta m = m := by
  funext y
  by_cases e1 : y = Str.ofString "gone"
  · rw [MM, if_pos e1, e1, h1]
  · by_cases e2 : y = Str.ofString "least"
    · rw [MM, if_neg e1, if_pos e2, e2, h2]
    · by_cases e3 : y = Str.ofString "w"
      · rw [MM, if_neg e1, if_neg e2, if_pos e3, e3, h3]
      · by_cases e4 : y = Str.ofString "apart"
        · rw [MM, if_neg e1, if_neg e2, if_neg e3, if_pos e4, e4, h4]
        · rw [MM, if_neg e1, if_neg e2, if_neg e3, if_neg e4]
/-- between two turns -/
structure JJ (wd : Int) (an i : Nat) (m : Str → Option Value) (news : List (Addr × Obj)) : Prop where
  ex : ∃ (G : Addr) (us : List Value) (c : Nat) (tl tw ta : Tok), news = [(G, listOf us.toArray c)] ∧ IntsAre us ((goneF (an + 1) i).map Int.ofNat) ∧ m (Str.ofString "gone") = some (.ref G) ∧ m (Str.ofString "least") = some (.int (leastF (an + 1) i) tl) ∧ m (Str.ofString "w") = some (.int wd tw) ∧ m (Str.ofString "apart") = some (.int (1 + (an : Int)) ta)
section
variable {prog : Program} {w : World} {A : Around} {E : Value → Shared → Prop} {s : Shared} {env : Env} {h₀ : Heap} {x : Str} {body : List Stmt} {Q : Flow → Shared → Prop}
theorem loop_J (wd : Int) (an : Nat) {r : Addr} {t₀ u₀ v₀ : Tok} {m₀ : Str → Option Value} {news : List (Addr × Obj)} {G : Addr} {c : Nat} {tl tw ta : Tok}
    (hh : A.handled = none) (hr : IsRange s.heap r 1 9 1 t₀ u₀ v₀) (F : Fr h₀ env.locals s.heap m₀) (N : News h₀ env.locals s.heap news)
    (hG : (G, listOf [].toArray c) ∈ news) (m1 : m₀ (Str.ofString "gone") = some (.ref G)) (m2 : m₀ (Str.ofString "least") = some (.int 1 tl)) (m3 : m₀ (Str.ofString "w") = some (.int wd tw)) (m4 : m₀ (Str.ofString "apart") = some (.int (1 + (an : Int)) ta))
    (turn : ∀ (i : Nat) (G : Addr) (us : List Value) (c : Nat) (tl tw ta : Tok) (u : Str → Option Value) (I : Addr) (t : Tok) (h : Heap) (tk : Nat), i < 8 → IntsAre us ((goneF (an + 1) i).map Int.ofNat) →
      Fr h₀ env.locals h (fun y => if y = x then some (.int (1 + (i : Int)) t) else MM G (leastF (an + 1) i) tl wd tw (1 + (an : Int)) ta u y) →
      News h₀ env.locals h [(I, itR (1 + ((i + 1 : Nat) : Int)) ((8 : Nat) - ((i + 1 : Nat) : Int))), (G, listOf us.toArray c)] →
      wpAny (model prog w) A (execs body env) (UnrPost h₀ env.locals { s with heap := h, toks := tk } I (itR (1 + ((i + 1 : Nat) : Int)) ((8 : Nat) - ((i + 1 : Nat) : Int))) (JJ wd an (i + 1)) Q) E { s with heap := h, toks := tk })
    (done : ∀ m₁ news₁ h tk, Fr h₀ env.locals h m₁ → News h₀ env.locals h news₁ → Q .next { s with heap := h, toks := tk }) :
    wpAny (model prog w) A (pyIter (.ref r)) (fun it s₂ => LoopAtV prog w A h₀ env x body Q E it s₂) E s := by
  refine range_J (n := 8) (JJ wd an) [(G, listOf [].toArray c)] hh hr (by decide) (by decide) F N (fun p hp => by rw [List.mem_singleton.mp hp]; exact hG) ⟨G, [], c, tl, tw, ta, rfl, .nil, m1, m2, m3, m4⟩ ?_ (fun m₁ news₁ h tk _ F N => done m₁ news₁ h tk F N)
  rintro i m₁ news₁ I t h tk hi ⟨G', us, c', tl', tw', ta', rfl, hus, k1, k2, k3, k4⟩ F₁ N₁
  rw [← mm_eq k1 k2 k3 k4] at F₁
  exact turn i G' us c' tl' tw' ta' m₁ I t h tk hi hus F₁ N₁
theorem endJ {wd : Int} {an i : Nat} {L I : Addr} {it : Obj} {s₁ : Shared} {h' : Heap} {tk : Nat} {m' : Str → Option Value} {news' : List (Addr × Obj)} {G : Addr} {us : List Value} {c : Nat} {tl tw ta : Tok} {n : Int}
    (F : Fr h₀ L h' m') (N : News h₀ L h' news') (hI : (I, it) ∈ news') (hG : (G, listOf us.toArray c) ∈ news') (hne : @LT.lt Nat _ I G) (hi : IntsAre us ((goneF (an + 1) (i + 1)).map Int.ofNat))
    (m1 : m' (Str.ofString "gone") = some (.ref G)) (m2 : m' (Str.ofString "least") = some (.int n tl)) (e2 : n = (leastF (an + 1) (i + 1) : Int)) (m3 : m' (Str.ofString "w") = some (.int wd tw)) (m4 : m' (Str.ofString "apart") = some (.int (1 + (an : Int)) ta)) :
    UnrEnd h₀ L s₁ I it (JJ wd an (i + 1)) { s₁ with heap := h', toks := tk } :=
  UnrEnd.intro F N [(G, listOf us.toArray c)] (fun p hp => by
    rcases List.mem_cons.mp hp with rfl | hp
    · exact hI
    · rw [List.mem_singleton.mp hp]; exact hG) (fun p hp => by rw [List.mem_singleton.mp hp]; exact Nat.ne_of_gt hne) ⟨G, us, c, tl, tw, ta, rfl, hi, m1, e2 ▸ m2, m3, m4⟩
theorem in_b {L G : Addr} {us : List Value} {c : Nat} {ns : List Int} {k : Int} {t : Tok} {b : Bool} {news : List (Addr × Obj)} {Q : Value → Shared → Prop} (N : News h₀ L s.heap news) (hm : (G, listOf us.toArray c) ∈ news) (hi : IntsAre us ns) (e : (ns.any (· == k)) = b) (h : Q (.bool b) s) :
    wpAny (model prog w) A (compareOp .In (.int k t) (.ref G)) Q E s :=
  in_list_ints (IsL.isList (n := c) (N _ hm).1) hi (by rw [e]; exact h)
end
theorem any_no {k : Int} {ns : List Int} (h : k ∉ ns) : ns.any (· == k) = false := by
  rw [List.any_eq_false]
  intro x hx e
  exact h (by rw [← beq_iff_eq.mp e]; exact hx)
theorem any_w {a k l : Int} {ns : List Int} (g1 : l ∉ ns) (g3 : ∀ k : Int, a ≤ k → k < l → k ∈ ns) (h1 : a ≤ k) (h2 : k ≤ l) : ns.any (· == k) = decide (k ≠ l) := by
  by_cases e : k = l
  · subst e
    rw [any_no g1]
    simp
  · rw [decide_eq_true (show k ≠ l from e), List.any_eq_true]
    exact ⟨k, g3 k h1 (by omega), by simp⟩
theorem gone_len (ap : Nat) : ∀ i : Nat, (goneF ap i).length = 2 * i
  | 0 => rfl
  | i + 1 => by rw [goneF, List.length_append, gone_len ap i]; rfl
theorem gone_sz {ap i : Nat} (hi : i < 8) : ((goneF ap i).map Int.ofNat).length + 2 ≤ sizeLine := by
  rw [List.length_map, gone_len, sizeLine_eq]; omega
end
section
variable {prog : Program} {w : World} {mean : ExcName → Option Value} {mg mb : Str → Option Value}

local macro_rules | `(tactic| walk_at "binaryOp Mult int int") => `(tactic| (k_here; (with_reducible refine' mul_is ?e9 ?h9 ?g9 ?_); (case e9 => with_reducible assumption); (case h9 => omega); (case g9 => omega)))
local macro_rules | `(tactic| walk_at "call ref") => `(tactic| (k_extra "call ref"))
local macro_rules | `(tactic| walk_at "pyIter ref") => `(tactic| (k_extra "pyIter ref"))
local macro_rules | `(tactic| walk_at "compareOp In int ref") => `(tactic| (k_extra "In"))
local macro_rules | `(tactic| walk_at "binaryOp Add ref ref") => `(tactic| (k_extra "Add"))
local macro_rules | `(tactic| walk_at "exec While Compare cons nil") => `(tactic| (k_extra "exec While Compare cons nil"))
local macro_rules | `(tactic| walk_at "UnrEnd") => `(tactic| (k_extra "UnrEnd"))
theorem sign_q {an : Nat} {q : Int} (e : (if 2 - (1 + (an : Int)) < 0 then -(2 - (1 + (an : Int))) else 2 - (1 + (an : Int))) = q) : q = 0 → decide (2 - (1 + (an : Int)) < 0) = false := by
  intro h
  by_cases c : 2 - (1 + (an : Int)) < 0
  · rw [if_pos c] at e; omega
  · exact decide_eq_false c
theorem sign_u {an : Nat} {p q w : Int} (p1 : 1 ≤ p) (q0 : 0 ≤ q) (e : (if 2 - (1 + (an : Int)) < 0 then -(2 - (1 + (an : Int))) else 2 - (1 + (an : Int))) = q) (e6 : p * q = w) : w = 0 → decide (2 - (1 + (an : Int)) < 0) = false := by
  intro h
  refine sign_q e ?_
  by_cases c : 0 < q
  · have := Int.mul_pos (show 0 < p by omega) c
    omega
  · omega
theorem pow2_is {prog : Program} {w : World} {A : Around} {E : Value → Shared → Prop} {s : Shared} {Q : Value → Shared → Prop} {a : Int} {t u : Tok} (h0 : 0 ≤ a) (h1 : a < 1000) (h : Q (.int (a * a) s.toks) { s with toks := s.toks + 1 }) : wpAny (model prog w) A (binaryOp .Pow (.int a t) (.int 2 u)) Q E s := by
  refine pow_int_small (n := 2) (by decide) (by decide) (by have : (2 : Nat) ^ 64 = 18446744073709551616 := by decide
                                                            omega) ?_
  have e : a ^ (2 : Int).toNat = a * a := by
    show a ^ 2 = a * a
    rw [Int.pow_succ, Int.pow_succ, Int.pow_zero, Int.one_mul]
  rw [e]
  exact h
local macro_rules | `(tactic| walk_at "binaryOp Pow int int") => `(tactic| (k_here; (with_reducible refine' pow2_is ?h9 ?g9 ?_); (case h9 => omega); (case g9 => omega)))
theorem law0 : PySem.Challenge.rw_xw0114_01.Holds := hd (by
  w_top off
  k_go0
  all_goals (try k_fold)
  k_with_none
  k_with "call ref" => first
    | k_dflt (k_here; (with_reducible show wpAny _ _ (call (Value.ref 268) [_, Value.int 5 _]) _ _ _); (refine' useN _ _ _ _ _ _ _ _ _ ?hi ?hns ?a1 ?a2 ?a3 ?a4 ?pl ?kB ?kF ?kX ?kN ?km ?kT ?kK ?kd ?ku ?_); (case kB => k_asm); (case kF => k_asm); (case kX => k_asm); (case kN => k_asm); (case kT => k_asm); (case kK => first | exact rfl | assumption); (case km => (repeat (first | exact List.forall_mem_nil _ | (refine List.forall_mem_cons.mpr ⟨by k_mem, ?_⟩)))); (case hi => assumption); (case hns => (simp only [List.length_map, List.length_take]; omega)); (case a1 => decide); (case a2 => decide); (case a3 => decide); (case a4 => decide); (case pl => omega); (case kd => first | ((try simp only [depth_deeper, depth_caller]); decide) | ktr_room); (case ku => first | ((try simp only [units_deeper, units_caller]); decide) | ktr_units); intro vW t9 u9 c9 h9 tk9 hvW0 hvW1 F' N'; (try dsimp only); (try k_fold))
    | k_dflt (k_here; (with_reducible show wpAny _ _ (call (Value.ref 268) [_, Value.int 6 _]) _ _ _); (refine' useN _ _ _ _ _ _ _ _ _ ?hi ?hns ?a1 ?a2 ?a3 ?a4 ?pl ?kB ?kF ?kX ?kN ?km ?kT ?kK ?kd ?ku ?_); (case kB => k_asm); (case kF => k_asm); (case kX => k_asm); (case kN => k_asm); (case kT => k_asm); (case kK => first | exact rfl | assumption); (case km => (repeat (first | exact List.forall_mem_nil _ | (refine List.forall_mem_cons.mpr ⟨by k_mem, ?_⟩)))); (case hi => assumption); (case hns => (simp only [List.length_map, List.length_take]; omega)); (case a1 => decide); (case a2 => decide); (case a3 => decide); (case a4 => decide); (case pl => omega); (case kd => first | ((try simp only [depth_deeper, depth_caller]); decide) | ktr_room); (case ku => first | ((try simp only [units_deeper, units_caller]); decide) | ktr_units); intro vA t9 u9 c9 h9 tk9 hvA0 hvA1 F' N'; obtain ⟨an, rfl⟩ := Int.eq_ofNat_of_zero_le hvA0; have han : an ≤ 5 := (by omega); (try dsimp only); (try k_fold))
    | k_dflt (k_here; (with_reducible show wpAny _ _ (call (Value.ref 275) _) _ _ _); (k_dflt (refine' useL (c_limbs x wd _ _ (by omega) (by omega) hw hw') ?kB ?kF ?kX ?kN ?kT ?kK ?km ?kd ?ku ?_)); (case kB => k_asm); (case kF => k_asm); (case kX => k_asm); (case kN => k_asm); (case kT => k_asm); (case kK => first | exact rfl | assumption); (case km => (repeat (first | exact List.forall_mem_nil _ | (refine List.forall_mem_cons.mpr ⟨by k_mem, ?_⟩)))); (case kd => first | ((try simp only [depth_deeper, depth_caller]); decide) | ktr_room); (case ku => first | ((try simp only [units_deeper, units_caller]); decide) | ktr_units); intro D' us' c' h' tk' F' N' l1 iR'; (try simp only [AllLt, and_true] at l1); (try dsimp only); (try k_fold))
    | k_dflt (k_here; (with_reducible show wpAny _ _ (call (Value.ref 184) _) _ _ _); (k_dflt (refine' useT1 (c_sqrt x wd r b _ _ _ us' _ iR' x5 x4 b0 b1 r0 rr rr1 hw hw') ?e1 ?kB ?kF ?kX ?kN ?kT ?kK ?km ?kd ?ku ?_)); (case kB => k_asm); (case kF => k_asm); (case kX => k_asm); (case kN => k_asm); (case kT => k_asm); (case kK => first | exact rfl | assumption); (case km => (repeat (first | exact List.forall_mem_nil _ | (refine List.forall_mem_cons.mpr ⟨by k_mem, ?_⟩)))); (case e1 => (rw [e9]; exact digs_one hB lf0 hlfB)); (case kd => first | ((try simp only [depth_deeper, depth_caller]); decide) | ktr_room); (case ku => first | ((try simp only [units_deeper, units_caller]); decide) | ktr_units); intro T' D1' D0' t' t0' c1' c0' h' tk' F' N' l1 l3 l2; (try simp only [AllLt, and_true] at l3); (try simp only [AllLt, and_true] at l1); (try simp only [AllLt, and_true] at l2); (try dsimp only); (try k_fold))
    | k_dflt (k_here; (with_reducible show wpAny _ _ (call (Value.ref 282) _) _ _ _); (k_dflt (refine' useI (c_told r wd _ _ _ _ (row_one hB r0 hrB) (by omega) (by omega) hw hw') ?kB ?kF ?kX ?kN ?kT ?kK ?km ?kd ?ku ?_)); (case kB => k_asm); (case kF => k_asm); (case kX => k_asm); (case kN => k_asm); (case kT => k_asm); (case kK => first | exact rfl | assumption); (case km => (repeat (first | exact List.forall_mem_nil _ | (refine List.forall_mem_cons.mpr ⟨by k_mem, ?_⟩)))); (case kd => first | ((try simp only [depth_deeper, depth_caller]); decide) | ktr_room); (case ku => first | ((try simp only [units_deeper, units_caller]); decide) | ktr_units); intro t' h' tk' F' N'; (try dsimp only); (try k_fold))
    | k_dflt (k_here; (with_reducible show wpAny _ _ (call (Value.ref 282) _) _ _ _); (k_dflt (refine' useI (c_told lf wd _ _ _ _ (row_one hB lf0 hlfB) (by omega) (by omega) hw hw') ?kB ?kF ?kX ?kN ?kT ?kK ?km ?kd ?ku ?_)); (case kB => k_asm); (case kF => k_asm); (case kX => k_asm); (case kN => k_asm); (case kT => k_asm); (case kK => first | exact rfl | assumption); (case km => (repeat (first | exact List.forall_mem_nil _ | (refine List.forall_mem_cons.mpr ⟨by k_mem, ?_⟩)))); (case kd => first | ((try simp only [depth_deeper, depth_caller]); decide) | ktr_room); (case ku => first | ((try simp only [units_deeper, units_caller]); decide) | ktr_units); intro t' h' tk' F' N'; (try dsimp only); (try k_fold))
    | k_dflt (k_here; (with_reducible show wpAny _ _ (call (Value.ref 289) _) _ _ _); (k_dflt (refine' useS1 (c_sg p p wd _ _ hpp (by omega) (by omega) hw hw') ?e1 ?kB ?kF ?kX ?kN ?kT ?kK ?km ?kd ?ku ?_)); (case kB => k_asm); (case kF => k_asm); (case kX => k_asm); (case kN => k_asm); (case kT => k_asm); (case kK => first | exact rfl | assumption); (case km => (repeat (first | exact List.forall_mem_nil _ | (refine List.forall_mem_cons.mpr ⟨by k_mem, ?_⟩)))); (case e1 => exact digs_one hB (by omega) hpB); (case kd => first | ((try simp only [depth_deeper, depth_caller]); decide) | ktr_room); (case ku => first | ((try simp only [units_deeper, units_caller]); decide) | ktr_units); intro T' D' t' c' h' tk' F' N' l1 l2; (try simp only [AllLt, and_true] at l1); (try simp only [AllLt, and_true] at l2); (try dsimp only); (try k_fold))
    | k_dflt (k_here; (with_reducible show wpAny _ _ (call (Value.ref 289) _) _ _ _); (k_dflt (refine' useS (c_sg _ q wd _ _ e5 q0 (by omega) hw hw') ?kB ?kF ?kX ?kN ?kT ?kK ?km ?kd ?ku ?_)); (case kB => k_asm); (case kF => k_asm); (case kX => k_asm); (case kN => k_asm); (case kT => k_asm); (case kK => first | exact rfl | assumption); (case km => (repeat (first | exact List.forall_mem_nil _ | (refine List.forall_mem_cons.mpr ⟨by k_mem, ?_⟩)))); (case kd => first | ((try simp only [depth_deeper, depth_caller]); decide) | ktr_room); (case ku => first | ((try simp only [units_deeper, units_caller]); decide) | ktr_units); intro T' D' us' c' h' tk' F' N' l1 l2 iR'; (try simp only [AllLt, and_true] at l1); (try simp only [AllLt, and_true] at l2); (try dsimp only); (try k_fold))
    | k_dflt (k_here; (with_reducible show wpAny _ _ (call (Value.ref 254) _) _ _ _); (k_dflt (refine' useS (c_smul p q wd _ _ _ _ _ _ _ _ us' _ _ ?hxb iR' (by omega) hpB q0 hqB hq0 hw hw') ?kB ?kF ?kX ?kN ?kT ?kK ?km ?kd ?ku ?_)); (case kB => k_asm); (case kF => k_asm); (case kX => k_asm); (case kN => k_asm); (case kT => k_asm); (case kK => first | exact rfl | assumption); (case km => (repeat (first | exact List.forall_mem_nil _ | (refine List.forall_mem_cons.mpr ⟨by k_mem, ?_⟩)))); (case hxb => exact decide_eq_false (by omega)); (case kd => first | ((try simp only [depth_deeper, depth_caller]); decide) | ktr_room); (case ku => first | ((try simp only [units_deeper, units_caller]); decide) | ktr_units); intro T' D' us' c' h' tk' F' N' l1 l2 iR'; (try simp only [AllLt, and_true] at l1); (try simp only [AllLt, and_true] at l2); rw [e6] at iR'; (try dsimp only); (try k_fold))
    | k_dflt (k_here; (with_reducible show wpAny _ _ (call (Value.ref 247) _) _ _ _); (k_dflt (refine' useS1 (c_sadd w1 r v wd _ _ _ _ _ _ _ us' _ _ iR' u0 huB hu0 hx hx' r0 hrB hvB hw hw') ?e1 ?kB ?kF ?kX ?kN ?kT ?kK ?km ?kd ?ku ?_)); (case kB => k_asm); (case kF => k_asm); (case kX => k_asm); (case kN => k_asm); (case kT => k_asm); (case kK => first | exact rfl | assumption); (case km => (repeat (first | exact List.forall_mem_nil _ | (refine List.forall_mem_cons.mpr ⟨by k_mem, ?_⟩)))); (case e1 => exact digs_one hB (by omega) hvB); (case kd => first | ((try simp only [depth_deeper, depth_caller]); decide) | ktr_room); (case ku => first | ((try simp only [units_deeper, units_caller]); decide) | ktr_units); intro T' D' t' c' h' tk' F' N' l1 l2; (try simp only [AllLt, and_true] at l1); (try simp only [AllLt, and_true] at l2); (try dsimp only); (try k_fold))
    | k_dflt (k_here; (with_reducible show wpAny _ _ (call (Value.ref 261) _) _ _ _); (k_dflt (refine' useS1 (c_ssh v wd _ _ _ _ _ _ (by omega) hvB hw hw') ?e1 ?kB ?kF ?kX ?kN ?kT ?kK ?km ?kd ?ku ?_)); (case kB => k_asm); (case kF => k_asm); (case kX => k_asm); (case kN => k_asm); (case kT => k_asm); (case kK => first | exact rfl | assumption); (case km => (repeat (first | exact List.forall_mem_nil _ | (refine List.forall_mem_cons.mpr ⟨by k_mem, ?_⟩)))); (case e1 => (rw [e7]; exact digs_one hB l0 hlB)); (case kd => first | ((try simp only [depth_deeper, depth_caller]); decide) | ktr_room); (case ku => first | ((try simp only [units_deeper, units_caller]); decide) | ktr_units); intro T' D' t' c' h' tk' F' N' l1 l2; (try simp only [AllLt, and_true] at l1); (try simp only [AllLt, and_true] at l2); (try dsimp only); (try k_fold))
    | k_dflt (k_here; (with_reducible show wpAny _ _ (call (Value.ref 296) _) _ _ _); (k_dflt (refine' useI (c_plain l wd _ _ _ _ _ (row_one hB l0 hlB) (by omega) (by omega) hw hw') ?kB ?kF ?kX ?kN ?kT ?kK ?km ?kd ?ku ?_)); (case kB => k_asm); (case kF => k_asm); (case kX => k_asm); (case kN => k_asm); (case kT => k_asm); (case kK => first | exact rfl | assumption); (case km => (repeat (first | exact List.forall_mem_nil _ | (refine List.forall_mem_cons.mpr ⟨by k_mem, ?_⟩)))); (case kd => first | ((try simp only [depth_deeper, depth_caller]); decide) | ktr_room); (case ku => first | ((try simp only [units_deeper, units_caller]); decide) | ktr_units); intro t' h' tk' F' N'; (try dsimp only); (try k_fold))
  k_with "pyIter ref" => k_dflt (k_here; (with_reducible show wpAny _ _ (pyIter (Value.ref _)) (fun it s₂ => LoopAtV _ _ _ _ _ _ _ _ _ it s₂) _ _); (refine' loop_J (8 + vW) an ?hh ?hr ?hF ?hN ?hG ?m1 ?m2 ?m3 ?m4 (fun i G us c tl tw ta w0 I t h tk hi8 iG F' N' => ?_) (fun m1 n1 h1 tk1 F' N' => ?_)); (case hh => rfl); (case hF => k_asm); (case hN => k_asm); (case hr => assumption); (case m1 => with_unfolding_all rfl); (case m2 => with_unfolding_all rfl); (case m3 => with_unfolding_all rfl); (case m4 => with_unfolding_all rfl); (case hG => k_mem); obtain ⟨p, aa, pp, x, r, q, w1, v, l, ax, lf, b, tf⟩ := turn_facts (an := an) (i := i) han hi8; obtain ⟨e1, e2, e3, e4, e5, e6, e7, e8, e9, p1, p8, an6, pp1, pp64, aa1, aa36, x5, x4, r0, r64, rr, rr1, lf0, lf1, b0, b1, q0, q4, u0, u32, hx, hx', v2, v256, l0, ax0, ax48, lax, ls, g1, g2, g3, n1, n2⟩ := tf; rw [e1] at F'; (try (rename Tables _ _ _ _ => z9; clear z9)); (try (rename TopE _ _ _ _ => z9; clear z9)); (try (rename TopW _ _ _ => z9; clear z9)); (try (rename Flt.MathXP _ _ _ => z9; clear z9)); (try (rename LooseAre _ _ _ => z9; clear z9)); (try (rename Ground _ _ _ _ _ _ _ _ _ => z9; clear z9)); (try (rename Heap.CodeRec _ _ _ => z9; clear z9)); (try (rename Dflts _ _ _ => z9; clear z9)); (try (rename Glob _ _ _ _ _ _ _ _ => z9; clear z9)); (try (rename BMod _ _ _ _ _ => z9; clear z9));  have hw : 8 ≤ 8 + vW := (by omega); have hw' : 8 + vW ≤ 12 := (by omega); generalize 8 + vW = wd at F' hw hw' ⊢; have hB := two_le hw; have hlo := pw_lo hw; have hhi := pw_hi hw'; have hlfB : lf < 2 ^ wd.toNat := (by omega); have hrB : r < 2 ^ wd.toNat := (by omega); have hpB : p < 2 ^ wd.toNat := (by omega); have hqB : q < 2 ^ wd.toNat := (by omega); have huB : w1 < 2 ^ wd.toNat := (by omega); have hvB : v < 2 ^ wd.toNat := (by omega); have hlB : l < 2 ^ wd.toNat := (by omega); have hpp : (if p < 0 then -p else p) = p := if_neg (by omega); have hq0 := sign_q e5; have hu0 := sign_u p1 q0 e5 e6; (try dsimp only); (try k_fold))
  k_with "In" => k_dflt (k_here; (with_reducible show wpAny _ _ (compareOp .In (Value.int _ _) (Value.ref _)) _ _ _); (refine' in_b ?jN ?jm iG ?je ?_); (case jN => k_asm); (case jm => k_mem); (case je => first | exact any_no g2 | exact any_w g1 g3 (by omega) (by omega)); (try dsimp only); (try k_fold))
  k_with "Add" => k_dflt (k_here; (with_reducible show wpAny _ _ (binaryOp _ (Value.ref _) (Value.ref _)) _ _ _); (refine' kmk_add_ints ?jF ?jN ?ja ?jb iG (.cons _ _ (.cons _ _ .nil)) ?_ ?jz); (case jF => k_asm); (case jN => k_asm); (case ja => kmk_list); (case jb => kmk_list); (case jz => exact gone_sz hi8); intro D' ws' h' F' N' l1 hI'; (try k_lt l1); (try dsimp only); (try k_fold))
  k_with "exec While Compare cons nil" => k_dflt (k_while_given ["lesser"] (fun l₀ _ n => (leastF (an + 1) i : Int) ≤ n ∧ n ≤ l₀) (fun l₀ _ n => (l₀ - n).toNat) "least")
  k_with "UnrEnd" => k_dflt (k_here; (refine' endJ ?jF ?jN ?jI ?jG ?jn ?ji ?j1 ?j2 ?je ?j3 ?j4); (case jF => assumption); (case jN => assumption); (case j1 => with_unfolding_all rfl); (case j2 => with_unfolding_all rfl); (case j3 => with_unfolding_all rfl); (case j4 => with_unfolding_all rfl); (case jI => k_mem); (case jG => k_mem); (case jn => omega); (case ji => (rw [n1]; exact hI')); (case je => omega))
  k_steps)
end
end Mine
set_option maxRecDepth 100000 in
set_option maxHeartbeats 8000000 in
theorem PySem.Challenge.cw_xw0114_01_holds : PySem.Challenge.rw_xw0114_01.Holds := by
  exact Mine.law0
