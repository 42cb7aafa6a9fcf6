import PyProof.Rows.All
import Wide.All
import OpenK.AllK
import Wide.FinOn
import PyProof.EqAt
import PyProof.EqKinds
import PyProof.TupleCall
import KE.KFromBytes
import HandS.Base
import HandS.Call
import HandS.List
import HandS.Comp
import HandS.Ends
import HandS.Dict
import HandS.Iter
import HandS.Exc
import HandS.ExcInit
import HandS.Words
import HandS.WordsExc
import HandS.Walk
import HandS.Star
import HandS.Style
import HandS.Conv
import HandS.RevRange
import HandS.Defaults
import HandS.MakeKw
import HandS.IsInst
import HandS.MakeKwOnly
import HandS.NoneIn
import HandS.ExcOwn
import HandS.ExcField
import HandS.More
import HandS.Head0
import HandS.Head1
import HandS.Head2
import HandS.HeadEnd
import HandS.HeadHook1
import HandS.HeadHook2
import KE.KStateDown
import Lean
import PySem.Challenge.RW_crownwork_k93_whole_improving_swaps_end
import KE.GoesMore
import KE.GoesEnum
import HandS.WideBits
import KE.BitLaws
import PyProof.ReprLen
import PyProof.ReprHeads
import PyProof.ReprRoads
import HandS.FStrTup

/-! text M93 -/
section
set_option linter.all false
namespace M93
/-! Orders of jobs: cost, exchange of neighbouring segments, groups. -/
section
variable (par : Nat → Option Nat) (p w : Nat → Int)

def sm (f : Nat → Int) : List Nat → Int
  | [] => 0
  | j :: r => f j + sm f r
def cost : Int → List Nat → Int
  | _, [] => 0
  | t, j :: r => w j * (t + p j) + cost (t + p j) r
/-- each job's parent is in D or before it -/
def valid : List Nat → List Nat → Prop
  | _, [] => True
  | D, j :: r => (∀ a, par j = some a → a ∈ D) ∧ valid (j :: D) r
end

section
variable {par : Nat → Option Nat} {p w f : Nat → Int}
theorem sm_append (a b : List Nat) : sm f (a ++ b) = sm f a + sm f b := by
  induction a with
  | nil => simp [sm]
  | cons j r ih => simp only [List.cons_append, sm, ih]; omega
theorem cost_append (a b : List Nat) : ∀ t, cost p w t (a ++ b) = cost p w t a + cost p w (t + sm p a) b := by
  induction a with
  | nil => intro t; simp [cost, sm]
  | cons j r ih =>
    intro t
    simp only [List.cons_append, cost, ih, sm]
    have e : t + p j + sm p r = t + (p j + sm p r) := by omega
    rw [e]; omega
theorem cost_shift (a : List Nat) : ∀ t, cost p w t a = cost p w 0 a + t * sm w a := by
  induction a with
  | nil => intro t; simp [cost, sm]
  | cons j r ih =>
    intro t
    simp only [cost, sm]
    rw [ih (t + p j), ih (0 + p j)]
    grind
theorem cost_swap (t : Int) (A B : List Nat) : cost p w t (A ++ B) - cost p w t (B ++ A) = sm w B * sm p A - sm w A * sm p B := by
  rw [cost_append, cost_append, cost_shift B (t + sm p A), cost_shift A (t + sm p B), cost_shift A t, cost_shift B t]
  grind
theorem cost_swap4 (t : Int) (X A B C : List Nat) :
    cost p w t (X ++ A ++ B ++ C) - cost p w t (X ++ B ++ A ++ C) = sm w B * sm p A - sm w A * sm p B := by
  have e1 : X ++ A ++ B ++ C = X ++ ((A ++ B) ++ C) := by simp
  have e2 : X ++ B ++ A ++ C = X ++ ((B ++ A) ++ C) := by simp
  rw [e1, e2, cost_append X, cost_append X, cost_append (A ++ B), cost_append (B ++ A)]
  have e3 := cost_swap (p := p) (w := w) (t + sm p X) A B
  have e4 : sm p (A ++ B) = sm p (B ++ A) := by rw [sm_append, sm_append]; omega
  rw [e4]; omega
theorem valid_mono {l : List Nat} : ∀ {D D' : List Nat}, (∀ x, x ∈ D → x ∈ D') → valid par D l → valid par D' l := by
  induction l with
  | nil => intro D D' _ _; trivial
  | cons j r ih =>
    intro D D' h v
    refine ⟨fun a e => h a (v.1 a e), ih (fun x hx => ?_) v.2⟩
    rcases List.mem_cons.mp hx with rfl | hx
    · exact List.mem_cons_self
    · exact List.mem_cons_of_mem _ (h x hx)
theorem valid_append {a b : List Nat} : ∀ {D : List Nat}, valid par D (a ++ b) ↔ valid par D a ∧ valid par (D ++ a) b := by
  induction a with
  | nil => intro D; simp [valid]
  | cons j r ih =>
    intro D
    simp only [List.cons_append, valid, ih, and_assoc]
    refine and_congr_right fun _ => and_congr_right fun _ => ?_
    constructor
    · exact valid_mono (fun x hx => by simp at hx ⊢; rcases hx with rfl | hx | hx <;> simp [*])
    · exact valid_mono (fun x hx => by simp at hx ⊢; rcases hx with hx | rfl | hx <;> simp [*])
/-- b may stand ahead of B -/
theorem valid_move {D A B b C : List Nat} (h : valid par D (A ++ B ++ b ++ C)) (hb : valid par (D ++ A) b) : valid par D (A ++ b ++ B ++ C) := by
  rw [valid_append, valid_append, valid_append] at h ⊢
  obtain ⟨⟨⟨h1, h2⟩, h3⟩, h4⟩ := h
  refine ⟨⟨⟨h1, hb⟩, valid_mono (fun x hx => ?_) h2⟩, valid_mono (fun x hx => ?_) h4⟩
  · simp at hx ⊢; rcases hx with hx | hx <;> simp [*]
  · simp at hx ⊢; rcases hx with hx | hx | hx | hx <;> simp [*]

/-- c is above j -/
inductive Anc (par : Nat → Option Nat) : Nat → Nat → Prop
  | one {c j : Nat} : par j = some c → Anc par c j
  | up {c b j : Nat} : par j = some b → Anc par c b → Anc par c j
theorem valid_par {X : List Nat} : ∀ {D : List Nat}, valid par D X → ∀ j, j ∈ X → ∀ a, par j = some a → a ∈ D ++ X := by
  induction X with
  | nil => intro D _ j hj; cases hj
  | cons k r ih =>
    intro D v j hj a e
    rcases List.mem_cons.mp hj with rfl | hj
    · exact List.mem_append_left _ (v.1 a e)
    · have := ih v.2 j hj a e
      simp at this ⊢
      rcases this with rfl | h | h <;> simp [*]
theorem valid_anc {X : List Nat} (v : valid par [] X) {c j : Nat} (h : Anc par c j) : j ∈ X → c ∈ X := by
  induction h with
  | one e => intro hj; simpa using valid_par v _ hj _ e
  | up e _ ih => intro hj; exact ih (by simpa using valid_par v _ hj _ e)

/-! ### groups -/
def Ok (par : Nat → Option Nat) (g : List Nat) : Prop := ∃ k r, g = k :: r ∧ valid par [k] r
theorem Ok.valid {g D : List Nat} (h : Ok par g) (hp : ∀ k, g.head? = some k → ∀ a, par k = some a → a ∈ D) : valid par D g := by
  obtain ⟨k, r, rfl, v⟩ := h
  exact ⟨hp k rfl, valid_mono (fun x hx => by simp at hx; simp [hx]) v⟩
theorem Ok.merge {g b : List Nat} (h : Ok par g) (hb : Ok par b) (hp : ∀ k, b.head? = some k → ∀ a, par k = some a → a ∈ g) : Ok par (g ++ b) := by
  obtain ⟨k, r, rfl, v⟩ := h
  refine ⟨k, r ++ b, rfl, valid_append.mpr ⟨v, ?_⟩⟩
  exact hb.valid hp

def Opt (par : Nat → Option Nat) (p w : Nat → Int) (all D : List Nat) (G : List (List Nat)) : Prop :=
  ∀ π : List Nat, π.Perm all → valid par [] π → ∃ gs : List (List Nat), gs.Perm G ∧ valid par [] (D ++ gs.flatten) ∧ cost p w 0 (D ++ gs.flatten) ≤ cost p w 0 π

def lessEq (p w : Nat → Int) (g b : List Nat) : Prop := sm w g * sm p b ≤ sm w b * sm p g
theorem lessEq_flatten {b : List Nat} : ∀ {gs : List (List Nat)}, (∀ g ∈ gs, lessEq p w g b) → lessEq p w gs.flatten b := by
  intro gs
  induction gs with
  | nil => intro _; simp [lessEq, sm]
  | cons g r ih =>
    intro h
    have h1 := h g List.mem_cons_self
    have h2 := ih fun g hg => h g (List.mem_cons_of_mem _ hg)
    unfold lessEq at *
    rw [List.flatten_cons, sm_append, sm_append]
    grind

theorem front {all D b : List Nat} {G G' : List (List Nat)} (o : Opt par p w all D G) (hG : G.Perm (b :: G')) (hb : Ok par b) (hmax : ∀ g ∈ G, lessEq p w g b)
    (hp : ∀ k, b.head? = some k → ∀ a, par k = some a → a ∈ D) : Opt par p w all (D ++ b) G' := by
  intro π hπ vπ
  obtain ⟨gs, hgs, v, c⟩ := o π hπ vπ
  have hbm : b ∈ gs := (hgs.trans hG).mem_iff.mpr List.mem_cons_self
  obtain ⟨B, C, rfl⟩ := List.append_of_mem hbm
  have hperm : (B ++ C).Perm G' := by
    have h1 : (b :: (B ++ C)).Perm (b :: G') := List.perm_middle.symm.trans (hgs.trans hG)
    exact h1.cons_inv
  have e1 : D ++ (B ++ b :: C).flatten = D ++ B.flatten ++ b ++ C.flatten := by simp
  have e2 : (D ++ b) ++ (B ++ C).flatten = D ++ b ++ B.flatten ++ C.flatten := by simp
  rw [e1] at v c
  refine ⟨B ++ C, hperm, ?_, ?_⟩
  · rw [e2]
    exact valid_move v (by simpa using hb.valid hp)
  · rw [e2]
    have h3 := cost_swap4 (p := p) (w := w) 0 D B.flatten b C.flatten
    have h4 : lessEq p w B.flatten b := lessEq_flatten fun g hg => hmax g (hgs.mem_iff.mp (List.mem_append_left _ hg))
    unfold lessEq at h4
    omega

theorem nodup_flat_disj {D : List Nat} {X : List (List Nat)} {g : List Nat} {C : List (List Nat)} (n : (D ++ (X ++ g :: C).flatten).Nodup) {a : Nat} (ha : a ∈ g) : a ∉ D ++ X.flatten ∧ a ∉ C.flatten := by
  have e : D ++ (X ++ g :: C).flatten = (D ++ X.flatten) ++ (g ++ C.flatten) := by simp
  rw [e, List.nodup_append] at n
  obtain ⟨_, n2, n3⟩ := n
  refine ⟨fun h => n3 a h a (List.mem_append_left _ ha) rfl, fun h => ?_⟩
  rw [List.nodup_append] at n2
  exact n2.2.2 a ha a h rfl

theorem merge {all D h b : List Nat} {G G' : List (List Nat)} (o : Opt par p w all D G) (hG : G.Perm (h :: b :: G')) (hall : (D ++ G.flatten).Nodup) (hb : Ok par b) (hmax : ∀ g ∈ G, lessEq p w g b)
    {k a : Nat} (hk : b.head? = some k) (hpar : par k = some a) (ha : a ∈ h) : Opt par p w all D ((h ++ b) :: G') := by
  intro π hπ vπ
  obtain ⟨gs, hgs, v, c⟩ := o π hπ vπ
  have nd : (D ++ gs.flatten).Nodup := (List.Perm.append_left D hgs.flatten).nodup_iff.mpr hall
  have hbm : b ∈ gs := (hgs.trans hG).mem_iff.mpr (by simp)
  have hhm : h ∈ gs := (hgs.trans hG).mem_iff.mpr (by simp)
  obtain ⟨X, C, rfl⟩ := List.append_of_mem hbm
  have hbk : b = k :: b.tail := by
    cases b with
    | nil => cases hk
    | cons x r => cases hk; rfl
  have haD : a ∈ D ++ X.flatten := by
    have e1 : D ++ (X ++ b :: C).flatten = (D ++ X.flatten) ++ (b ++ C.flatten) := by simp
    rw [e1, valid_append] at v
    have v2 := v.2
    rw [hbk] at v2
    simpa using v2.1 a hpar
  have hhX : h ∈ X := by
    rcases List.mem_append.mp hhm with hx | hx
    · exact hx
    · rcases List.mem_cons.mp hx with rfl | hx
      · exact absurd haD (nodup_flat_disj nd ha).1
      · obtain ⟨C1, C2, rfl⟩ := List.append_of_mem hx
        have nd' : (D ++ ((X ++ b :: C1) ++ h :: C2).flatten).Nodup := by
          have e : (X ++ b :: (C1 ++ h :: C2)) = ((X ++ b :: C1) ++ h :: C2) := by simp
          rw [← e]; exact nd
        have := (nodup_flat_disj nd' ha).1
        exact absurd (by simp at haD ⊢; rcases haD with q | q <;> simp [q]) this
  obtain ⟨A, B, rfl⟩ := List.append_of_mem hhX
  have hperm : ((h ++ b) :: (A ++ B ++ C)).Perm ((h ++ b) :: G') := by
    refine List.Perm.cons _ ?_
    have h1 : (A ++ h :: B ++ b :: C).Perm (h :: b :: (A ++ B ++ C)) := by
      have q1 : (A ++ h :: B ++ b :: C).Perm (b :: (A ++ h :: B ++ C)) := List.perm_middle
      have q2 : (A ++ h :: B ++ C).Perm (h :: (A ++ B ++ C)) := by simpa using (List.perm_middle (a := h) (l₁ := A) (l₂ := B ++ C))
      exact q1.trans ((q2.cons b).trans (List.Perm.swap h b _))
    exact ((h1.symm.trans (hgs.trans hG)).cons_inv).cons_inv
  have e1 : D ++ (A ++ h :: B ++ b :: C).flatten = (D ++ A.flatten ++ h) ++ B.flatten ++ b ++ C.flatten := by simp
  have e2 : D ++ (A ++ (h ++ b) :: (B ++ C)).flatten = (D ++ A.flatten ++ h) ++ b ++ B.flatten ++ C.flatten := by simp
  refine ⟨A ++ (h ++ b) :: (B ++ C), ?_, ?_, ?_⟩
  · have : (A ++ (h ++ b) :: (B ++ C)).Perm ((h ++ b) :: (A ++ B ++ C)) := by simpa using (List.perm_middle (a := h ++ b) (l₁ := A) (l₂ := B ++ C))
    exact this.trans hperm
  · rw [e2]
    rw [e1] at v
    refine valid_move v (hb.valid fun k' hk' a' e' => ?_)
    rw [hk] at hk'
    cases hk'
    rw [hpar] at e'
    cases e'
    simp [ha]
  · rw [e2]
    rw [e1] at c
    have h3 := cost_swap4 (p := p) (w := w) 0 (D ++ A.flatten ++ h) B.flatten b C.flatten
    have h4 : lessEq p w B.flatten b := lessEq_flatten fun g hg => hmax g (hgs.mem_iff.mp (by simp [hg]))
    unfold lessEq at h4
    omega

theorem opt_start (l : List Nat) : Opt par p w l [] (l.map fun j => [j]) := by
  intro π hπ v
  have e : ∀ l : List Nat, (l.map fun j => [j]).flatten = l := by
    intro l
    induction l with
    | nil => rfl
    | cons x r ih => simp [ih]
  refine ⟨π.map fun j => [j], hπ.map _, ?_, ?_⟩
  · simpa [e] using v
  · simp [e]
theorem opt_end {all D : List Nat} (o : Opt par p w all D []) {π : List Nat} (h : π.Perm all) (v : valid par [] π) : valid par [] D ∧ cost p w 0 D ≤ cost p w 0 π := by
  obtain ⟨gs, hg, v', c⟩ := o π h v
  have : gs = [] := List.perm_nil.mp hg
  subst this
  simpa using And.intro v' c

/-! ### an order without an improving swap costs least -/
def Free (par : Nat → Option Nat) (S1 S2 : List Nat) : Prop := ∀ j ∈ S2, ∀ c, Anc par c j → c ∉ S1
def Good (par : Nat → Option Nat) (p w : Nat → Int) (σ : List Nat) : Prop :=
  ∀ A S1 S2 C, σ = A ++ S1 ++ S2 ++ C → S1 ≠ [] → S2 ≠ [] → Free par S1 S2 → sm w S2 * sm p S1 ≤ sm w S1 * sm p S2

def less (p w : Nat → Int) (g b : List Nat) : Prop := sm w g * sm p b < sm w b * sm p g
theorem less_flatten {b : List Nat} : ∀ {gs : List (List Nat)}, gs ≠ [] → (∀ g ∈ gs, less p w g b) → less p w gs.flatten b := by
  intro gs
  induction gs with
  | nil => intro h; exact absurd rfl h
  | cons g r ih =>
    intro _ h
    have h1 := h g List.mem_cons_self
    by_cases hr : r = []
    · subst hr; simpa using h1
    · have h2 := ih hr fun g hg => h g (List.mem_cons_of_mem _ hg)
      unfold less at *
      rw [List.flatten_cons, sm_append, sm_append]
      grind
theorem lessEq_trans {a b c : List Nat} (ha : 0 < sm p a) (hb : 0 < sm p b) (hc : 0 < sm p c) (h1 : lessEq p w a b) (h2 : lessEq p w b c) : lessEq p w a c := by
  unfold lessEq at *
  have h3 : sm w a * sm p b * sm p c ≤ sm w b * sm p a * sm p c := Int.mul_le_mul_of_nonneg_right h1 (Int.le_of_lt hc)
  have h4 : sm w b * sm p c * sm p a ≤ sm w c * sm p b * sm p a := Int.mul_le_mul_of_nonneg_right h2 (Int.le_of_lt ha)
  have h5 : sm w a * sm p c * sm p b ≤ sm w c * sm p a * sm p b := by grind
  exact Int.le_of_mul_le_mul_right h5 hb
theorem lt_of_not_lessEq {a b : List Nat} (h : ¬ lessEq p w a b) : less p w b a := by
  unfold lessEq at h; unfold less; omega
theorem less_lessEq {a b : List Nat} (h : less p w a b) : lessEq p w a b := by
  unfold less at h; unfold lessEq; omega
theorem less_of_less_lessEq {a b c : List Nat} (ha : 0 < sm p a) (hb : 0 < sm p b) (hc : 0 < sm p c) (h1 : less p w a b) (h2 : lessEq p w b c) : less p w a c := by
  unfold lessEq less at *
  have h3 : sm w a * sm p b * sm p c < sm w b * sm p a * sm p c := Int.mul_lt_mul_of_pos_right h1 hc
  have h4 : sm w b * sm p c * sm p a ≤ sm w c * sm p b * sm p a := Int.mul_le_mul_of_nonneg_right h2 (Int.le_of_lt ha)
  have h5 : sm w a * sm p c * sm p b < sm w c * sm p a * sm p b := by grind
  exact Int.lt_of_mul_lt_mul_right h5 (Int.le_of_lt hb)

/-- the earliest group of the greatest ratio -/
theorem earliest : ∀ gs : List (List Nat), gs ≠ [] → (∀ g ∈ gs, 0 < sm p g) → ∃ A b C, gs = A ++ b :: C ∧ (∀ g ∈ A, less p w g b) ∧ ∀ g ∈ gs, lessEq p w g b := by
  intro gs
  induction gs with
  | nil => intro h; exact absurd rfl h
  | cons g r ih =>
    intro _ hpos
    by_cases hr : r = []
    · subst hr
      exact ⟨[], g, [], rfl, by simp, by simp [lessEq]⟩
    · obtain ⟨A, b, C, rfl, h1, h2⟩ := ih hr fun x hx => hpos x (List.mem_cons_of_mem _ hx)
      have pg := hpos g List.mem_cons_self
      have pb := hpos b (by simp)
      by_cases hgb : lessEq p w b g
      · refine ⟨[], g, A ++ b :: C, rfl, by simp, fun x hx => ?_⟩
        rcases List.mem_cons.mp hx with rfl | hx
        · exact Int.le_refl _
        · exact lessEq_trans (hpos x (List.mem_cons_of_mem _ hx)) pb pg (h2 x hx) hgb
      · have hl : less p w g b := lt_of_not_lessEq hgb
        refine ⟨g :: A, b, C, rfl, fun x hx => ?_, fun x hx => ?_⟩
        · rcases List.mem_cons.mp hx with rfl | hx
          · exact hl
          · exact h1 x hx
        · rcases List.mem_cons.mp hx with rfl | hx
          · exact less_lessEq hl
          · exact h2 x hx

theorem sm_pos {l : List Nat} (h : ∀ j ∈ l, 0 < p j) (hl : l ≠ []) : 0 < sm p l := by
  induction l with
  | nil => exact absurd rfl hl
  | cons j r ih =>
    have h1 := h j List.mem_cons_self
    by_cases hr : r = []
    · subst hr; simpa [sm] using h1
    · have h2 := ih (fun x hx => h x (List.mem_cons_of_mem _ hx)) hr
      simp only [sm]; omega

theorem good_opt : ∀ (n : Nat) (all D : List Nat) (gs : List (List Nat)), gs.length = n → Opt par p w all D gs → (∀ g ∈ gs, Ok par g) → valid par [] (D ++ gs.flatten) → (D ++ gs.flatten).Nodup →
    (∀ j ∈ D ++ gs.flatten, 0 < p j) → Good par p w (D ++ gs.flatten) → ∀ π : List Nat, π.Perm all → valid par [] π → cost p w 0 (D ++ gs.flatten) ≤ cost p w 0 π := by
  intro n
  induction n with
  | zero =>
    intro all D gs hn o _ _ _ _ _ π hπ vπ
    have : gs = [] := List.length_eq_zero_iff.mp hn
    subst this
    simpa using (opt_end o hπ vπ).2
  | succ n ih =>
    intro all D gs hn o hok hv nd hpos good π hπ vπ
    have hne : gs ≠ [] := by intro h; rw [h] at hn; simp at hn
    have hnn : ∀ g ∈ gs, g ≠ [] := fun g hg => by obtain ⟨k, r, e, _⟩ := hok g hg; rw [e]; simp
    have hsp : ∀ g ∈ gs, 0 < sm p g := fun g hg => sm_pos (fun j hj => hpos j (List.mem_append_right _ (List.mem_flatten.mpr ⟨g, hg, hj⟩))) (hnn g hg)
    obtain ⟨A, b, C, rfl, h1, h2⟩ := earliest (p := p) (w := w) gs hne hsp
    have okb : Ok par b := hok b (by simp)
    obtain ⟨k, r, hbk, vr⟩ := id okb
    have hhead : b.head? = some k := by rw [hbk]; rfl
    have bne : b ≠ [] := hnn b (by simp)
    -- a segment S of groups right ahead of b that is free of b must be empty
    have key : ∀ (Y S : List (List Nat)), A = Y ++ S → (∀ j ∈ b, ∀ c, Anc par c j → c ∉ S.flatten) → S = [] := by
      intro Y S e hf
      by_cases hS : S = []
      · exact hS
      · exfalso
        have hl : less p w S.flatten b := less_flatten hS fun g hg => h1 g (by rw [e]; exact List.mem_append_right _ hg)
        have hSne : S.flatten ≠ [] := by
          intro h0
          obtain ⟨x, S', rfl⟩ := List.exists_cons_of_ne_nil hS
          have : x ≠ [] := hnn x (by rw [e]; simp)
          simp at h0
          exact this h0.1
        have := good (D ++ Y.flatten) S.flatten b C.flatten (by rw [e]; simp) hSne bne hf
        unfold less at hl
        omega
    by_cases hpk : ∃ a, par k = some a ∧ a ∉ D
    · -- its parent stands in a group ahead of it
      obtain ⟨a, hpa, haD⟩ := hpk
      have haA : a ∈ A.flatten := by
        have e1 : D ++ (A ++ b :: C).flatten = (D ++ A.flatten) ++ (b ++ C.flatten) := by simp
        rw [e1, valid_append] at hv
        have v2 := hv.2
        rw [hbk] at v2
        have := v2.1 a hpa
        simp only [List.nil_append, List.mem_append] at this
        rcases this with h | h
        · exact absurd h haD
        · exact h
      obtain ⟨h, hhA, hah⟩ := List.mem_flatten.mp haA
      obtain ⟨A1, A2, rfl⟩ := List.append_of_mem hhA
      -- nothing between
      have hA2 : A2 = [] := by
        refine key (A1 ++ [h]) A2 (by simp) fun j hj c hc hcm => ?_
        -- D ++ A1 ++ h ++ b is an order of its own
        have vv : valid par [] ((D ++ A1.flatten ++ h) ++ b) := by
          rw [valid_append]
          have e1 : D ++ (A1 ++ h :: A2 ++ b :: C).flatten = (D ++ A1.flatten ++ h) ++ (A2.flatten ++ b ++ C.flatten) := by simp
          rw [e1, valid_append] at hv
          refine ⟨hv.1, okb.valid fun k' hk' a' e' => ?_⟩
          rw [hhead] at hk'
          cases hk'
          rw [hpa] at e'
          cases e'
          simp [hah]
        have hin := valid_anc vv hc (List.mem_append_right _ hj)
        have e2 : D ++ (A1 ++ h :: A2 ++ b :: C).flatten = (D ++ A1.flatten ++ h) ++ (A2.flatten ++ (b ++ C.flatten)) := by simp
        rw [e2, List.nodup_append] at nd
        rcases List.mem_append.mp hin with q | q
        · exact nd.2.2 c q c (List.mem_append_left _ hcm) rfl
        · exact (List.nodup_append.mp nd.2.1).2.2 c hcm c (List.mem_append_left _ q) rfl
      subst hA2
      have hG : (A1 ++ h :: [] ++ b :: C).Perm (h :: b :: (A1 ++ C)) := by
        have q1 : (A1 ++ h :: [] ++ b :: C).Perm (b :: (A1 ++ h :: [] ++ C)) := List.perm_middle
        have q2 : (A1 ++ h :: [] ++ C).Perm (h :: (A1 ++ C)) := by simpa using (List.perm_middle (a := h) (l₁ := A1) (l₂ := C))
        exact q1.trans ((q2.cons b).trans (List.Perm.swap h b _))
      have o2 := merge o hG nd okb h2 hhead hpa hah
      have o3 : Opt par p w all D (A1 ++ (h ++ b) :: C) := by
        intro π' hπ' vπ'
        obtain ⟨gs, hgs, v, c⟩ := o2 π' hπ' vπ'
        exact ⟨gs, hgs.trans (List.perm_middle (a := h ++ b) (l₁ := A1) (l₂ := C)).symm, v, c⟩
      have ef : D ++ (A1 ++ h :: [] ++ b :: C).flatten = D ++ (A1 ++ (h ++ b) :: C).flatten := by simp
      rw [ef] at hv nd hpos good ⊢
      refine ih all D (A1 ++ (h ++ b) :: C) (by simp at hn ⊢; omega) o3 (fun g hg => ?_) hv nd hpos good π hπ vπ
      rcases List.mem_append.mp hg with q | q
      · exact hok g (by simp [q])
      · rcases List.mem_cons.mp q with rfl | q
        · refine Ok.merge (hok h (by simp)) okb fun k' hk' a' e' => ?_
          rw [hhead] at hk'
          cases hk'
          rw [hpa] at e'
          cases e'
          exact hah
        · exact hok g (by simp [q])
    · -- its parent is done
      have hpD : ∀ k', b.head? = some k' → ∀ a, par k' = some a → a ∈ D := by
        intro k' hk' a e
        rw [hhead] at hk'
        cases hk'
        by_cases haD : a ∈ D
        · exact haD
        · exact absurd ⟨a, e, haD⟩ hpk
      have hA : A = [] := by
        refine key [] A (by simp) fun j hj c hc hcm => ?_
        have vv : valid par [] (D ++ b) := by
          rw [valid_append]
          have e1 : D ++ (A ++ b :: C).flatten = D ++ (A.flatten ++ b ++ C.flatten) := by simp
          rw [e1, valid_append] at hv
          exact ⟨hv.1, by simpa using okb.valid hpD⟩
        have hin := valid_anc vv hc (List.mem_append_right _ hj)
        have e2 : D ++ (A ++ b :: C).flatten = D ++ (A.flatten ++ (b ++ C.flatten)) := by simp
        rw [e2, List.nodup_append] at nd
        rcases List.mem_append.mp hin with q | q
        · exact nd.2.2 c q c (List.mem_append_left _ hcm) rfl
        · exact (List.nodup_append.mp nd.2.1).2.2 c hcm c (List.mem_append_left _ q) rfl
      subst hA
      have o2 := front (G' := C) o (List.Perm.refl _) okb h2 hpD
      have ef : D ++ ([] ++ b :: C).flatten = (D ++ b) ++ C.flatten := by simp
      rw [ef] at hv nd hpos good ⊢
      exact ih all (D ++ b) C (by simp at hn; omega) o2 (fun g hg => hok g (by simp [hg])) hv nd hpos good π hπ vπ

/-- THEOREM: no improving swap, then least -/
theorem good_least {σ : List Nat} (hv : valid par [] σ) (nd : σ.Nodup) (hpos : ∀ j ∈ σ, 0 < p j) (good : Good par p w σ) {π : List Nat} (hπ : π.Perm σ) (vπ : valid par [] π) : cost p w 0 σ ≤ cost p w 0 π := by
  have e : (σ.map fun j => [j]).flatten = σ := by
    clear hv nd hpos good hπ
    induction σ with
    | nil => rfl
    | cons x r ih => simp [ih]
  have := good_opt (par := par) (p := p) (w := w) _ σ [] (σ.map fun j => [j]) rfl (opt_start σ) (fun g hg => by
    obtain ⟨j, _, rfl⟩ := List.mem_map.mp hg
    exact ⟨j, [], rfl, trivial⟩) (by simpa [e] using hv) (by simpa [e] using nd) (by simpa [e] using hpos) (by simpa [e] using good) π hπ vπ
  simpa [e] using this
end
end M93
end

/-! text DP93 -/
section
set_option linter.all false
namespace M93
/-! The least cost over all orders, by the sets that are done. -/
section
variable (n : Nat) (par : Nat → Option Nat) (p w : Nat → Int)
def validM : Nat → List Nat → Prop
  | _, [] => True
  | d, j :: r => (∀ a, par j = some a → d.testBit a = true) ∧ validM (d ||| (1 <<< j)) r
def Comp (d : Nat) (Y : List Nat) : Prop := Y.Nodup ∧ (∀ j, j ∈ Y ↔ j < n ∧ d.testBit j = false) ∧ validM par d Y
def mins (d : Nat) : Int := sm p ((List.range n).filter fun j => d.testBit j)
def Best (d : Nat) (c : Int) : Prop := (∃ Y, Comp n par d Y ∧ cost p w (mins n p d) Y = c) ∧ ∀ Y, Comp n par d Y → c ≤ cost p w (mins n p d) Y
def SpecD (d : Nat) : Option Int → Prop
  | some c => Best n par p w d c
  | none => ∀ Y, ¬ Comp n par d Y
def SpecU (d m : Nat) : Option Int → Prop
  | some c => (∃ j Y, Comp n par d (j :: Y) ∧ j < m ∧ cost p w (mins n p d) (j :: Y) = c) ∧ ∀ j Y, Comp n par d (j :: Y) → j < m → c ≤ cost p w (mins n p d) (j :: Y)
  | none => ∀ j Y, Comp n par d (j :: Y) → ¬ j < m
end
section
variable {n : Nat} {par : Nat → Option Nat} {p w : Nat → Int}
theorem testBit_or (d j i : Nat) : (d ||| (1 <<< j)).testBit i = (d.testBit i || decide (i = j)) := by
  rw [Nat.testBit_or, Nat.shiftLeft_eq, Nat.one_mul, Nat.testBit_two_pow]
  by_cases h : j = i
  · subst h; simp
  · have h2 : ¬ i = j := fun e => h e.symm
    simp [h, h2]
theorem comp_cons {d j : Nat} {Y : List Nat} : Comp n par d (j :: Y) ↔ j < n ∧ d.testBit j = false ∧ (∀ a, par j = some a → d.testBit a = true) ∧ Comp n par (d ||| (1 <<< j)) Y := by
  constructor
  · rintro ⟨h1, h2, h3, h4⟩
    have hj := (h2 j).mp List.mem_cons_self
    refine ⟨hj.1, hj.2, h3, (List.nodup_cons.mp h1).2, fun i => ?_, h4⟩
    rw [testBit_or]
    constructor
    · intro hi
      have := (h2 i).mp (List.mem_cons_of_mem _ hi)
      have hne : i ≠ j := fun e => (List.nodup_cons.mp h1).1 (e ▸ hi)
      simp [this, hne]
    · rintro ⟨a, b⟩
      simp at b
      have := (h2 i).mpr ⟨a, b.1⟩
      rcases List.mem_cons.mp this with e | e
      · exact absurd e b.2
      · exact e
  · rintro ⟨h1, h2, h3, h4, h5, h6⟩
    refine ⟨List.nodup_cons.mpr ⟨fun hm => ?_, h4⟩, fun i => ?_, h3, h6⟩
    · have := ((h5 j).mp hm).2
      rw [testBit_or] at this
      simp at this
    · rw [List.mem_cons, h5, testBit_or]
      by_cases e : i = j
      · subst e; simp [h1, h2]
      · simp [e]
theorem mins_or {d j : Nat} (hj : j < n) (hb : d.testBit j = false) : mins n p (d ||| (1 <<< j)) = mins n p d + p j := by
  have key : ∀ l : List Nat, l.Nodup → (j ∈ l → sm p (l.filter fun i => (d ||| (1 <<< j)).testBit i) = sm p (l.filter fun i => d.testBit i) + p j) ∧ (j ∉ l → sm p (l.filter fun i => (d ||| (1 <<< j)).testBit i) = sm p (l.filter fun i => d.testBit i)) := by
    intro l
    induction l with
    | nil => intro _; simp
    | cons x r ih =>
      intro nd
      obtain ⟨n1, n2⟩ := List.nodup_cons.mp nd
      obtain ⟨i1, i2⟩ := ih n2
      constructor
      · intro hm
        by_cases e : x = j
        · subst e
          have := i2 n1
          simp only [List.filter_cons, testBit_or, hb]
          simp only [testBit_or] at this
          simp [sm, this]
          omega
        · have hr : j ∈ r := by
            rcases List.mem_cons.mp hm with q | q
            · exact absurd q.symm e
            · exact q
          have := i1 hr
          simp only [testBit_or] at this
          simp only [List.filter_cons, testBit_or]
          by_cases hx : d.testBit x <;> simp [hx, e, sm, this]
          omega
      · intro hm
        have e : x ≠ j := fun q => hm (q ▸ List.mem_cons_self)
        have := i2 fun q => hm (List.mem_cons_of_mem _ q)
        simp only [testBit_or] at this
        simp only [List.filter_cons, testBit_or]
        by_cases hx : d.testBit x <;> simp [hx, e, sm, this]
  exact (key (List.range n) List.nodup_range).1 (List.mem_range.mpr hj)
/-- what the turn for m does -/
def dpStep (par : Nat → Option Nat) (p w : Nat → Int) (d m : Nat) (ms : Int) (o oa : Option Int) : Option Int :=
  if d.testBit m = true then o else match oa with
    | none => o
    | some ca => if (match par m with | none => true | some a => d.testBit a) = true then some (min (o.getD (w m * (ms + p m) + ca)) (w m * (ms + p m) + ca)) else o
theorem lt_of_lt_succ_ne {j m : Nat} (h : j < m + 1) (hne : j ≠ m) : j < m := by omega
theorem specU_skip {d m : Nat} {o : Option Int} (h : SpecU n par p w d m o) (hn : ∀ Y, ¬ Comp n par d (m :: Y)) : SpecU n par p w d (m + 1) o := by
  cases o with
  | none =>
    intro j Y hc hj
    by_cases e : j = m
    · subst e; exact hn Y hc
    · exact h j Y hc (lt_of_lt_succ_ne hj e)
  | some c =>
    obtain ⟨⟨j, Y, h1, h2, h3⟩, h4⟩ := h
    refine ⟨⟨j, Y, h1, by omega, h3⟩, fun j Y hc hj => ?_⟩
    by_cases e : j = m
    · subst e; exact absurd hc (hn Y)
    · exact h4 j Y hc (lt_of_lt_succ_ne hj e)
theorem dp_turn {d m : Nat} {o oa : Option Int} (h : SpecU n par p w d m o) (hm : m < n) (ha : d.testBit m = false → SpecD n par p w (d ||| (1 <<< m)) oa) :
    SpecU n par p w d (m + 1) (dpStep par p w d m (mins n p d) o oa) := by
  unfold dpStep
  by_cases hb : d.testBit m = true
  · rw [if_pos hb]
    refine specU_skip h fun Y hc => ?_
    have := (comp_cons.mp hc).2.1
    rw [hb] at this
    cases this
  · rw [if_neg hb]
    have hb' : d.testBit m = false := by simpa using hb
    have ha := ha hb'
    cases oa with
    | none =>
      refine specU_skip h fun Y hc => ?_
      exact ha Y (comp_cons.mp hc).2.2.2
    | some ca =>
      dsimp only
      by_cases hp : (match par m with | none => true | some a => d.testBit a) = true
      · rw [if_pos hp]
        have hpar : ∀ a, par m = some a → d.testBit a = true := by
          intro a e
          rw [e] at hp
          exact hp
        obtain ⟨⟨Ya, hYa, cYa⟩, least⟩ := ha
        rw [mins_or hm hb'] at cYa least
        have hcomp : Comp n par d (m :: Ya) := comp_cons.mpr ⟨hm, hb', hpar, hYa⟩
        have hval : cost p w (mins n p d) (m :: Ya) = w m * (mins n p d + p m) + ca := by simp only [cost]; rw [cYa]
        have hge : ∀ Y, Comp n par d (m :: Y) → w m * (mins n p d + p m) + ca ≤ cost p w (mins n p d) (m :: Y) := by
          intro Y hY
          have := least Y (comp_cons.mp hY).2.2.2
          simp only [cost]
          omega
        generalize w m * (mins n p d + p m) + ca = c' at hval hge ⊢
        cases o with
        | none =>
          refine ⟨⟨m, Ya, hcomp, by omega, ?_⟩, fun j Y hc hj => ?_⟩
          · show _ = min c' c'
            rw [hval]; omega
          · show min c' c' ≤ _
            by_cases e : j = m
            · subst e; have := hge Y hc; omega
            · exact absurd (lt_of_lt_succ_ne hj e) (h j Y hc)
        | some c =>
          obtain ⟨⟨j, Y, h1, h2, h3⟩, h4⟩ := h
          constructor
          · by_cases hle : c ≤ c'
            · exact ⟨j, Y, h1, by omega, by show _ = min c c'; omega⟩
            · exact ⟨m, Ya, hcomp, by omega, by show _ = min c c'; omega⟩
          · intro j Y hc hj
            show min c c' ≤ _
            by_cases e : j = m
            · subst e; have := hge Y hc; omega
            · have := h4 j Y hc (lt_of_lt_succ_ne hj e); omega
      · rw [if_neg hp]
        refine specU_skip h fun Y hc => ?_
        apply hp
        have := (comp_cons.mp hc).2.2.1
        cases e : par m with
        | none => rfl
        | some a => exact this a e
theorem specU_zero (d : Nat) : SpecU n par p w d 0 none := fun j Y _ hj => by omega
theorem exists_unset {d : Nat} (hd : d < 2 ^ n - 1) : ∃ j, j < n ∧ d.testBit j = false := by
  by_cases h : ∃ j, j < n ∧ d.testBit j = false
  · exact h
  · exfalso
    have hall : ∀ j, j < n → d.testBit j = true := fun j hj => by
      cases e : d.testBit j with
      | true => rfl
      | false => exact absurd ⟨j, hj, e⟩ h
    have : d = 2 ^ n - 1 := by
      apply Nat.eq_of_testBit_eq
      intro i
      rw [Nat.testBit_two_pow_sub_one]
      by_cases hi : i < n
      · rw [hall i hi]; simp [hi]
      · have h1 : d < 2 ^ i := Nat.lt_of_lt_of_le (Nat.lt_of_lt_of_le hd (Nat.sub_le _ _)) (Nat.pow_le_pow_right (by omega) (by omega))
        rw [Nat.testBit_lt_two_pow h1]; simp [hi]
    omega
theorem specD_of_U {d : Nat} {o : Option Int} (hd : d < 2 ^ n - 1) (h : SpecU n par p w d n o) : SpecD n par p w d o := by
  have hne : ∀ Y, Comp n par d Y → ∃ j Y', Y = j :: Y' ∧ j < n := by
    intro Y hY
    obtain ⟨j, hj, hb⟩ := exists_unset hd
    have hm := (hY.2.1 j).mpr ⟨hj, hb⟩
    cases Y with
    | nil => cases hm
    | cons x r => exact ⟨x, r, rfl, (comp_cons.mp hY).1⟩
  cases o with
  | none =>
    intro Y hY
    obtain ⟨j, Y', rfl, hj⟩ := hne Y hY
    exact h j Y' hY hj
  | some c =>
    obtain ⟨⟨j, Y, h1, h2, h3⟩, h4⟩ := h
    refine ⟨⟨_, h1, h3⟩, fun Y hY => ?_⟩
    obtain ⟨j, Y', rfl, hj⟩ := hne Y hY
    exact h4 j Y' hY hj
theorem specD_full : SpecD n par p w (2 ^ n - 1) (some 0) := by
  have hno : ∀ Y, Comp n par (2 ^ n - 1) Y → Y = [] := by
    intro Y hY
    cases Y with
    | nil => rfl
    | cons x r =>
      have := comp_cons.mp hY
      rw [Nat.testBit_two_pow_sub_one] at this
      simp [this.1] at this
  refine ⟨⟨[], ⟨List.nodup_nil, fun j => ?_, trivial⟩, rfl⟩, fun Y hY => ?_⟩
  · rw [Nat.testBit_two_pow_sub_one]
    constructor
    · intro h; cases h
    · rintro ⟨a, b⟩; simp [a] at b
  · rw [hno Y hY]; exact Int.le_refl _
theorem validM_valid : ∀ {Y : List Nat} {d : Nat} {D : List Nat}, (∀ a, d.testBit a = true ↔ a ∈ D) → (validM par d Y ↔ valid par D Y) := by
  intro Y
  induction Y with
  | nil => intro d D _; exact Iff.rfl
  | cons j r ih =>
    intro d D h
    simp only [validM, valid]
    have h2 : ∀ a, (d ||| (1 <<< j)).testBit a = true ↔ a ∈ j :: D := by
      intro a
      rw [testBit_or, List.mem_cons, Bool.or_eq_true, h, decide_eq_true_iff]
      exact Or.comm
    rw [ih h2]
    constructor
    · rintro ⟨a, b⟩; exact ⟨fun x e => (h x).mp (a x e), b⟩
    · rintro ⟨a, b⟩; exact ⟨fun x e => (h x).mpr (a x e), b⟩
theorem comp_zero {Y : List Nat} : Comp n par 0 Y ↔ Y.Perm (List.range n) ∧ valid par [] Y := by
  have hv : validM par 0 Y ↔ valid par [] Y := validM_valid fun a => by simp
  unfold Comp
  rw [hv]
  constructor
  · rintro ⟨h1, h2, h3⟩
    refine ⟨?_, h3⟩
    refine (List.perm_ext_iff_of_nodup h1 List.nodup_range).mpr fun a => ?_
    rw [h2, List.mem_range]
    simp
  · rintro ⟨h1, h3⟩
    refine ⟨h1.nodup_iff.mpr List.nodup_range, fun j => ?_, h3⟩
    rw [h1.mem_iff, List.mem_range]
    simp
theorem mins_zero : mins n p 0 = 0 := by
  have e : (List.range n).filter (fun j => (0 : Nat).testBit j) = [] := List.filter_eq_nil_iff.mpr fun a _ => by simp
  unfold mins
  rw [e] <;> rfl
/-- THEOREM: what stands at 0 is the least cost -/
theorem dp_least {o : Option Int} (h : SpecD n par p w 0 o) {σ : List Nat} (hσ : σ.Perm (List.range n)) (vσ : valid par [] σ) :
    ∃ c, o = some c ∧ (∃ Y : List Nat, Y.Perm (List.range n) ∧ valid par [] Y ∧ cost p w 0 Y = c) ∧ ∀ Y : List Nat, Y.Perm (List.range n) → valid par [] Y → c ≤ cost p w 0 Y := by
  cases o with
  | none => exact absurd (comp_zero.mpr ⟨hσ, vσ⟩) (h σ)
  | some c =>
    obtain ⟨⟨Y, h1, h2⟩, h3⟩ := h
    rw [mins_zero] at h2 h3
    exact ⟨c, rfl, ⟨Y, (comp_zero.mp h1).1, (comp_zero.mp h1).2, h2⟩, fun Y a b => h3 Y (comp_zero.mpr ⟨a, b⟩)⟩
end
end M93
end

/-! text MG93 -/
section
set_option linter.all false
namespace M93
/-! Groups under their heads: one is taken out, put behind the order or behind the group that holds its parent. -/
section
variable {n : Nat} {par : Nat → Option Nat} {p w : Nat → Int}
structure Mg (n : Nat) (par : Nat → Option Nat) (p w : Nat → Int) (ks : List Nat) (G : Nat → List Nat) (D : List Nat) (hm : Nat → Nat) : Prop where
  nd : ks.Nodup
  lt : ∀ k ∈ ks, k < n
  opt : Opt par p w (List.range n) D (ks.map G)
  ok : ∀ k ∈ ks, Ok par (G k) ∧ (G k).head? = some k
  perm : (D ++ (ks.map G).flatten).Perm (List.range n)
  home : ∀ k ∈ ks, ∀ j ∈ G k, hm j = k
  tl : ∀ k ∈ ks, ∀ j ∈ G k, k ≤ j
theorem ks_perm {ks : List Nat} {b : Nat} (nd : ks.Nodup) (h : b ∈ ks) : ks.Perm (b :: ks.filter fun k => decide (k ≠ b)) := by
  have e : ks.filter (fun k => decide (k ≠ b)) = ks.erase b := by
    rw [nd.erase_eq_filter]
    congr 1
    funext k
    by_cases z : k = b
    · subst z; simp
    · simp [z]
  rw [e]
  exact List.perm_cons_erase h
theorem mg_start : Mg n par p w (List.range n) (fun j => [j]) [] (fun j => j) := by
  have e : ∀ l : List Nat, (l.map fun j => [j]).flatten = l := by
    intro l
    induction l with
    | nil => rfl
    | cons x r ih => simp [ih]
  refine ⟨List.nodup_range, fun k h => List.mem_range.mp h, opt_start _, fun k _ => ⟨⟨k, [], rfl, trivial⟩, rfl⟩, ?_, fun k _ j hj => by simpa using hj, fun k _ j hj => Nat.le_of_eq (List.mem_singleton.mp hj).symm⟩
  rw [List.nil_append, e]
variable {ks : List Nat} {G : Nat → List Nat} {D : List Nat} {hm : Nat → Nat} {b : Nat}
theorem Mg.perm2 (m : Mg n par p w ks G D hm) (hb : b ∈ ks) : (ks.map G).Perm (G b :: (ks.filter fun k => decide (k ≠ b)).map G) := (ks_perm m.nd hb).map G
theorem mg_pop1 (m : Mg n par p w ks G D hm) (hb : b ∈ ks) (hmax : ∀ k ∈ ks, lessEq p w (G k) (G b)) (hp : ∀ a, par b = some a → a ∈ D) :
    Mg n par p w (ks.filter fun k => decide (k ≠ b)) G (D ++ G b) hm := by
  have sub : ∀ k, k ∈ (ks.filter fun k => decide (k ≠ b)) → k ∈ ks := fun k h => (List.mem_filter.mp h).1
  obtain ⟨o1, o2⟩ := m.ok b hb
  refine ⟨m.nd.filter _, fun k h => m.lt k (sub k h), ?_, fun k h => m.ok k (sub k h), ?_, fun k h => m.home k (sub k h), fun k h => m.tl k (sub k h)⟩
  · refine front m.opt (m.perm2 hb) o1 (fun g hg => ?_) (fun k hk a ha => ?_)
    · obtain ⟨k, hk, rfl⟩ := List.mem_map.mp hg
      exact hmax k hk
    · rw [o2] at hk
      obtain rfl := Option.some.inj hk
      exact hp a ha
  · have h1 := (m.perm2 hb).flatten
    rw [List.flatten_cons] at h1
    rw [List.append_assoc]
    exact (h1.symm.append_left D).trans m.perm
theorem mg_pop2 (hpar : ∀ j a, par j = some a → a < j) (m : Mg n par p w ks G D hm) (hb : b ∈ ks) (hmax : ∀ k ∈ ks, lessEq p w (G k) (G b)) {a : Nat} (ha : par b = some a) (haD : a ∉ D) :
    hm a ∈ ks ∧ hm a ≠ b ∧ a ∈ G (hm a) ∧ Mg n par p w (ks.filter fun k => decide (k ≠ b)) (fun k => if k = hm a then G (hm a) ++ G b else G k) D (fun j => if j ∈ G b then hm a else hm j) := by
  have han : a < n := Nat.lt_trans (hpar b a ha) (m.lt b hb)
  have hmem : a ∈ D ++ (ks.map G).flatten := m.perm.mem_iff.mpr (List.mem_range.mpr han)
  obtain ⟨h, hks, hag⟩ : ∃ h, h ∈ ks ∧ a ∈ G h := by
    rcases List.mem_append.mp hmem with z | z
    · exact absurd z haD
    · obtain ⟨g, hg, hag⟩ := List.mem_flatten.mp z
      obtain ⟨h, hh, rfl⟩ := List.mem_map.mp hg
      exact ⟨h, hh, hag⟩
  have e : hm a = h := m.home h hks a hag
  obtain ⟨o1, o2⟩ := m.ok b hb
  have hab : a ∉ G b := by
    intro hz
    have h1 := m.tl b hb a hz
    have h2 := hpar b a ha
    omega
  have hhb : h ≠ b := fun z => hab (z ▸ hag)
  rw [e]
  have sub : ∀ k, k ∈ (ks.filter fun k => decide (k ≠ b)) → k ∈ ks := fun k h => (List.mem_filter.mp h).1
  have hks' : h ∈ ks.filter fun k => decide (k ≠ b) := List.mem_filter.mpr ⟨hks, decide_eq_true hhb⟩
  have nd' : (ks.filter fun k => decide (k ≠ b)).Nodup := m.nd.filter _
  have p1 := ks_perm nd' hks'
  have mapE : ∀ l : List Nat, h ∉ l → l.map (fun k => if k = h then G h ++ G b else G k) = l.map G := fun l hl => by
    apply List.map_congr_left
    intro k hk
    have : k ≠ h := fun z => hl (z ▸ hk)
    simp [this]
  have hnot : h ∉ (ks.filter fun k => decide (k ≠ b)).filter fun k => decide (k ≠ h) := fun z => by
    have := (List.mem_filter.mp z).2
    simp at this
  have pnew : ((ks.filter fun k => decide (k ≠ b)).map fun k => if k = h then G h ++ G b else G k).Perm ((G h ++ G b) :: ((ks.filter fun k => decide (k ≠ b)).filter fun k => decide (k ≠ h)).map G) := by
    have := p1.map fun k => if k = h then G h ++ G b else G k
    rw [List.map_cons, if_pos rfl, mapE _ hnot] at this
    exact this
  have pold : (ks.map G).Perm (G h :: G b :: ((ks.filter fun k => decide (k ≠ b)).filter fun k => decide (k ≠ h)).map G) := by
    have h1 := m.perm2 hb
    have h2 := (p1.map G).cons (G b)
    rw [List.map_cons] at h2
    exact (h1.trans h2).trans (.swap _ _ _)
  have nall : (D ++ (ks.map G).flatten).Nodup := m.perm.nodup_iff.mpr List.nodup_range
  refine ⟨hks, hhb, hag, nd', fun k hk => m.lt k (sub k hk), ?_, fun k hk => ?_, ?_, fun k hk j hj => ?_, fun k hk j hj => ?_⟩
  · have := merge m.opt pold nall o1 (fun g hg => by
      obtain ⟨k, hk, rfl⟩ := List.mem_map.mp hg
      exact hmax k hk) o2 ha hag
    intro π hπ vπ
    obtain ⟨gs, h1, h2, h3⟩ := this π hπ vπ
    exact ⟨gs, h1.trans pnew.symm, h2, h3⟩
  · by_cases z : k = h
    · subst z
      obtain ⟨q1, q2⟩ := m.ok k hks
      simp only [if_true]
      refine ⟨q1.merge o1 fun k' hk' a' ha' => ?_, ?_⟩
      · rw [o2] at hk'
        obtain rfl := Option.some.inj hk'
        rw [ha] at ha'
        obtain rfl := Option.some.inj ha'
        exact hag
      · obtain ⟨k2, r2, e2, _⟩ := q1
        rw [e2] at q2 ⊢
        exact q2
    · simp only [z, if_false]
      exact m.ok k (sub k hk)
  · have h1 : (D ++ ((ks.filter fun k => decide (k ≠ b)).map fun k => if k = h then G h ++ G b else G k).flatten).Perm (D ++ (ks.map G).flatten) := by
      refine List.Perm.append_left D ?_
      have h2 := pnew.flatten
      have h3 := pold.flatten
      simp only [List.flatten_cons, List.append_assoc] at h2 h3
      exact h2.trans h3.symm
    exact h1.trans m.perm
  · by_cases z : k = h
    · subst z
      simp only [if_true] at hj
      rcases List.mem_append.mp hj with y | y
      · by_cases y2 : j ∈ G b
        · simp [y2]
        · simp only [y2, if_false]
          exact m.home k hks j y
      · simp [y]
    · simp only [z, if_false] at hj
      have h1 := m.home k (sub k hk) j hj
      by_cases y2 : j ∈ G b
      · have h2 := m.home b hb j y2
        have h3 := (List.mem_filter.mp hk).2
        simp at h3
        exact absurd (h1.symm.trans h2) h3
      · simp only [y2, if_false]
        exact h1
  · by_cases z : k = h
    · subst z
      simp only [if_true] at hj
      rcases List.mem_append.mp hj with y | y
      · exact m.tl k hks j y
      · have h1 := m.tl b hb j y
        have h2 := m.tl k hks a hag
        have h3 := hpar b a ha
        omega
    · simp only [z, if_false] at hj
      exact m.tl k (sub k hk) j hj
theorem mg_end (m : Mg n par p w [] G D hm) : D.Perm (List.range n) ∧ ∀ π : List Nat, π.Perm (List.range n) → valid par [] π → valid par [] D ∧ cost p w 0 D ≤ cost p w 0 π := by
  have h := m.perm
  simp only [List.map_nil, List.flatten_nil, List.append_nil] at h
  exact ⟨h, fun π hπ vπ => opt_end m.opt hπ vπ⟩
end
end M93
end

/-! text CwRules -/
section
set_option Elab.async false
set_option linter.all false
set_option maxRecDepth 100000
set_option maxHeartbeats 4000000
namespace Cw
open PySem PySem.Spec PyProof.Rows L2
/-! Rules of our own: len and in by an own method; an own error over an own error; a try whose first clause takes what comes. -/
theorem room_in1 {k : Nat} {A : Around} (r : Room (k + 1) A) : Room k A.in1 :=
  ⟨r.hd, by have := r.dp; show A.depth + 3 * k + 5 < _; omega, by have := r.un; show A.units + 1 + 16 * k + 200 < _; omega⟩
section
variable {X : Cx} {CT : CXT} {C f : Addr} {fd : FuncData} {k : Nat} {sp : Sp} {E : XK} {ps : List Str}
/-- len(o) by an own method -/
def rLenO (C : Addr) (sp : Sp) (E : XK) : List V → Hp → VK → Prop := fun xs H Q => ∃ a dx fs, xs = [V.ref a] ∧ H a = some (.ins C dx fs) ∧
  sp [V.ref a] H (fun v H1 => ∃ n : Int, v = .int n ∧ (0 ≤ n ∧ n < 2 ^ 63) ∧ Q (.int n) H1) E
theorem call_lenO (m : Meth X.K C "__len__" f) (F : FnOk X.prog X.w X.K X.mg X.base CT k f fd ps sp) (hr : Room (k + 1) X.A) (hb : Binds X.K fd ps []) (hx : Passes CT X E) :
    CallR X (.builtin "len") (rLenO C sp E) := by
  intro pins s σ H xs us Q I r h
  obtain ⟨a, dx, fs, rfl, ha, hsp⟩ := h
  cases r with
  | @cons _ u0 _ ur ra rn =>
  cases rn
  obtain rfl : u0 = Value.ref a := ra
  obtain ⟨mA, O, _, _, _, _⟩ := ins_get I.hok ha
  obtain ⟨od, J, _⟩ := O.look
  obtain ⟨m', fr⟩ := I.fr
  refine PySem.W.len_K fr I.ok.mod.kin J m.at_ m.fn ?_
  have hl : ([Value.ref a] ++ ([] : List Value)).length = ps.length := by rw [← F.len _ _ _ _ hsp]; rfl
  refine wpAny_call (codeAny_mono (F.run X.A.in1 X.stack s H ⟨[Value.ref a], []⟩ [Value.ref a] [V.ref a] _ E (room_in1 hr) I.env0.in1 (hb s [Value.ref a] I.kIn hl) (.cons rfl .nil) hsp) fun r s' hq => ?_)
  cases r with
  | error e => exact hx pins σ H s e s' I hq
  | ok fl =>
    cases fl with
    | ret u =>
      obtain ⟨v, H', I', rv, n, rfl, hn, q⟩ := I.after hq
      obtain ⟨t, rfl⟩ := (show ∃ t, u = Value.int n t from rv)
      exact ⟨hn, .int n, H', I'.tok _, ⟨_, rfl⟩, q⟩
    | next => exact False.elim hq
    | brk => exact False.elim hq
    | cont => exact False.elim hq
/-- v in o, v not in o by an own method -/
def rInO (neg : Bool) (C : Addr) (sp : Sp) (E : XK) : R2 := fun x y H Q => ∃ a dx fs, y = V.ref a ∧ H a = some (.ins C dx fs) ∧
  sp [V.ref a, x] H (fun v H1 => ∃ b : Bool, v = .bl b ∧ Q (.bl (if neg then !b else b)) H1) E
theorem op_inO (m : Meth X.K C "__contains__" f) (F : FnOk X.prog X.w X.K X.mg X.base CT k f fd ps sp) (hr : Room k X.A) (hb : Binds X.K fd ps []) (hx : Passes CT X E) :
    OpR X (compareOp .In) (rInO false C sp E) := by
  intro pins s σ H x y v u Q I rx ry h
  obtain ⟨a, dx, fs, rfl, ha, hsp⟩ := h
  obtain rfl : u = Value.ref a := ry
  obtain ⟨mA, O, _, _, _, _⟩ := ins_get I.hok ha
  obtain ⟨od, J, _⟩ := O.look
  obtain ⟨m', fr⟩ := I.fr
  refine PySem.W.in_K fr I.ok.mod.kin J m.at_ m.fn ?_
  refine thn (run_fn (us := [Value.ref a, v]) (vs := [V.ref a, x]) (ds := []) (dvs := []) F hr hb .nil hx I (.cons rfl (.cons rx .nil)) hsp) fun w s1 ⟨z, H1, I1, rz, b, ez, q⟩ => ?_
  subst ez
  obtain rfl : w = Value.bool b := rz
  exact wpAny_pure ⟨.bl b, H1, I1, rfl, q⟩
theorem op_notInO (m : Meth X.K C "__contains__" f) (F : FnOk X.prog X.w X.K X.mg X.base CT k f fd ps sp) (hr : Room k X.A) (hb : Binds X.K fd ps []) (hx : Passes CT X E) :
    OpR X (compareOp .NotIn) (rInO true C sp E) := by
  intro pins s σ H x y v u Q I rx ry h
  obtain ⟨a, dx, fs, rfl, ha, hsp⟩ := h
  obtain rfl : u = Value.ref a := ry
  obtain ⟨mA, O, _, _, _, _⟩ := ins_get I.hok ha
  obtain ⟨od, J, _⟩ := O.look
  obtain ⟨m', fr⟩ := I.fr
  refine PySem.W.notIn_K fr I.ok.mod.kin J m.at_ m.fn ?_
  refine thn (run_fn (us := [Value.ref a, v]) (vs := [V.ref a, x]) (ds := []) (dvs := []) F hr hb .nil hx I (.cons rfl (.cons rx .nil)) hsp) fun w s1 ⟨z, H1, I1, rz, b, ez, q⟩ => ?_
  subst ez
  obtain rfl : w = Value.bool b := rz
  exact wpAny_pure ⟨.bl (!b), H1, I1, rfl, q⟩
end

/-! ### an own class's __init__ that stands above: Base.__init__(self, ..), Base over ValueError -/
structure BaseC (K : PySem.W.Frag) (B : Addr) : Prop where
  sp : PySem.W.specialIn K (.ref B) "__getattribute__" = some (some (.builtin "type.__getattribute__"))
  rd : PySem.W.readsIn K B (.type "type") = true
  fc : PySem.W.findCls K (.ref B) (.type "type") "__init__" = some (.val (.builtin "ValueError.__init__"))
def baseB (K : PySem.W.Frag) (B : Addr) : Bool := decide (PySem.W.specialIn K (.ref B) "__getattribute__" = some (some (.builtin "type.__getattribute__"))) && (PySem.W.readsIn K B (.type "type") &&
  (match PySem.W.findCls K (.ref B) (.type "type") "__init__" with
    | some (.val (.builtin n)) => decide (n = "ValueError.__init__")
    | _ => false))
theorem baseB_ok {K : PySem.W.Frag} {B : Addr} (h : baseB K B = true) : BaseC K B := by
  obtain ⟨h1, h⟩ := Bool.and_eq_true_iff.mp h
  obtain ⟨h2, h3⟩ := Bool.and_eq_true_iff.mp h
  refine ⟨of_decide_eq_true h1, h2, ?_⟩
  split at h3
  · rename_i n e
    have : n = "ValueError.__init__" := of_decide_eq_true h3
    rw [e, this]
  · cases h3
section
variable {X : Cx} {e : Expr} {es : List Expr} {ta : TA} {B : Addr} {x : Str} {p1 p2 pos : Pos}
theorem pe_binit {pl : Sem Bool} (T : BaseC X.K B) (hg : Gl X x) (hm : X.mg x = some (.ref B)) (ha : PA X (e :: es) ta) (hdb : (x == ("__debug__" : Str)) = false := by decide)
    (hc : eval (.Call (.Attribute (.Name x p1) "__init__" p2) (e :: es) [] pos) X.env = (do
      let ov ← eval (.Name x p1) X.env
      standAt p2.atName
      let (f, first) ← holding [ov] (getMethod ov "__init__" pl)
      callWith pos f first (backTo pos (starEach (e :: es) X.env)) (backToKw pos (keywordEach [] X.env))) := by rfl)
    (he : starEach (e :: es) X.env = (false, eval e X.env) :: starEach es X.env := by rfl) (hpl : (backTo pos (starEach es X.env)).any (·.1) = false := by rfl) :
    PE X (.Call (.Attribute (.Name x p1) "__init__" p2) (e :: es) [] pos) (tVeI X.K ta) := by
  refine ⟨fun pins s σ H Q I h => ?_⟩
  refine PySem.W.methodCall_KW (ld_glob I hg hm ?_ hdb) hc
  refine PySem.W.method_cls I.kIn T.sp ?_
  refine PySem.W.cls_value I.kIn T.rd T.fc (by decide +kernel) ?_
  show wpAny _ _ (callWith pos (Value.builtin "ValueError.__init__") [] (backTo pos (starEach (e :: es) X.env)) []) _ _ _
  refine PyProof.Rows.callWith_method1 (thn (ha.run pos pins _ σ H _ (I.tok _) h) fun us s1 ⟨vs, H1, I1, r1, a, C, ws, ev, hl, T, ea, q⟩ => ?_) he hpl
  subst ev
  cases r1 with
  | @cons _ u0 _ ur ra rw' =>
    obtain rfl : u0 = Value.ref a := ra
    have hlen : ur.length ≤ sizeLine := by
      rw [← Paired.length rw', sizeLine_eq]
      omega
    exact oinit_ok T I1 ea hlen fun s' J => ⟨.non, H1, J, rfl, q⟩
end
end Cw
end

/-! text CwLay -/
section
set_option Elab.async false
set_option linter.all false
set_option maxRecDepth 100000
set_option maxHeartbeats 4000000
namespace Cw
open PySem PySem.Spec PyProof.Rows L2
/-! The layer: sequences (list or tuple), defs by name, heaps that grow, readings step by step. -/
/-! ### heaps -/
/-- all but what stands at b stays -/
def But (b : Addr) (H H' : Hp) : Prop := ∀ a o, a ≠ b → H a = some o → H' a = some o
theorem Same.but {b : Addr} {H H' : Hp} (s : Same H H') : But b H H' := fun a o _ e => s a o e
theorem But.trans {b : Addr} {H H1 H2 : Hp} (s : But b H H1) (t : But b H1 H2) : But b H H2 := fun a o h e => t a o h (s a o h e)
theorem But.then {b : Addr} {H H1 H2 : Hp} (s : But b H H1) (t : Same H1 H2) : But b H H2 := fun a o h e => t a o (s a o h e)
theorem Same.thenBut {b : Addr} {H H1 H2 : Hp} (s : Same H H1) (t : But b H1 H2) : But b H H2 := fun a o h e => t a o h (s a o e)
/-- a change at what was not there before -/
theorem Same.mut {b : Addr} {H H1 H2 : Hp} (s : Same H H1) (n : H b = none) (t : But b H1 H2) : Same H H2 := fun a o e => t a o (ne_of_none e n) (s a o e)
theorem Same.new {H : Hp} {p : Addr} {o : HO} (n : H p = none) : Same H (upd H p o) := fun a u e => by rw [upd_ne (ne_of_none e n)]; exact e
theorem But.upd {H : Hp} {p : Addr} {o : HO} : But p H (L2.upd H p o) := fun a u h e => by rw [upd_ne h]; exact e
theorem But.free {b a : Addr} {H H' : Hp} (s : But b H H') (h : H' a = none) (hb : H b ≠ none → H' b ≠ none) : H a = none := by
  cases e : H a with
  | none => rfl
  | some o =>
    by_cases z : a = b
    · subst z
      exact absurd h (hb (by rw [e]; exact fun w => nomatch w))
    · rw [s a o z e] at h
      cases h
/-- a list or a tuple -/
def Sq (K : PySem.W.Frag) (H : Hp) (a : Addr) (xs : List V) : Prop := SqL K H a xs ∨ SqT K H a xs
theorem rd_at {H H' : Hp} {a : Addr} {u : HO} (k : ∀ o, H a = some o → H' a = some o) (h : Rd H a u) : Rd H' a u := by
  rcases h with h | ⟨o, h⟩
  · exact Or.inl (k _ h)
  · exact Or.inr ⟨o, k _ h⟩
theorem sqL_at {K : PySem.W.Frag} {H H' : Hp} {a : Addr} {xs : List V} (k : ∀ o, H a = some o → H' a = some o) (h : SqL K H a xs) : SqL K H' a xs := by
  rcases h with h | h
  · exact Or.inl (rd_at k h)
  · exact Or.inr h
theorem sqT_at {K : PySem.W.Frag} {H H' : Hp} {a : Addr} {xs : List V} (k : ∀ o, H a = some o → H' a = some o) (h : SqT K H a xs) : SqT K H' a xs := by
  rcases h with h | h
  · exact Or.inl (rd_at k h)
  · exact Or.inr h
theorem sq_at {K : PySem.W.Frag} {H H' : Hp} {a : Addr} {xs : List V} (k : ∀ o, H a = some o → H' a = some o) (h : Sq K H a xs) : Sq K H' a xs := by
  rcases h with h | h
  · exact Or.inl (sqL_at k h)
  · exact Or.inr (sqT_at k h)
theorem Sq.same {K : PySem.W.Frag} {H H' : Hp} {a : Addr} {xs : List V} (s : Same H H') (h : Sq K H a xs) : Sq K H' a xs := sq_at (fun o e => s a o e) h
theorem SqL.same {K : PySem.W.Frag} {H H' : Hp} {a : Addr} {xs : List V} (s : Same H H') (h : SqL K H a xs) : SqL K H' a xs := sqL_at (fun o e => s a o e) h
theorem Sq.but {K : PySem.W.Frag} {H H' : Hp} {a b : Addr} {xs : List V} (s : But b H H') (n : a ≠ b) (h : Sq K H a xs) : Sq K H' a xs := sq_at (fun o e => s a o n e) h
theorem sq_l {K : PySem.W.Frag} {H : Hp} {a : Addr} {xs : List V} (h : H a = some (.lst xs)) : Sq K H a xs := Or.inl (Or.inl (Or.inl h))
theorem sq_t {K : PySem.W.Frag} {H : Hp} {a : Addr} {xs : List V} (h : H a = some (.tup xs)) : Sq K H a xs := Or.inr (Or.inl (Or.inl h))
theorem sqL_l {K : PySem.W.Frag} {H : Hp} {a : Addr} {xs : List V} (h : H a = some (.lst xs)) : SqL K H a xs := Or.inl (Or.inl h)

/-! ### rules for both kinds of sequence -/
section
variable {X : Cx} {tg : Expr}
def iSeq (K : PySem.W.Frag) (tl : TE) : TI := fun σ H R => tl σ H fun x H1 => (∃ a, x = .ref a ∧ (∃ xs, SqL K H1 a xs) ∧ R (Itl K a) H1) ∨ ∃ a, x = .ref a ∧ (∃ xs, SqT K H1 a xs) ∧ R (Itt K a) H1
theorem pi_seq {l : Expr} {tl : TE} (hl : PE X l tl) : PI X tg l (iSeq X.K tl) := by
  refine ⟨fun pins s σ H R I h => ?_⟩
  refine thn (hl.run pins s σ H _ I h) fun v s1 ⟨x, H1, I1, r1, q1⟩ => ?_
  rcases q1 with ⟨a, e, ⟨xs, hq⟩, q⟩ | ⟨a, e, ⟨xs, hq⟩, q⟩
  · subst e
    cases r1
    obtain ⟨its, rv, p, hz⟩ := I1.list hq
    refine wpAny_pyIter_list p.isList ?_
    refine ⟨s1.heap.objs.size, [s1.heap.objs.size], _, _, H1, rfl, I1.kept (t' := s1.toks) fun b o e => Heap.get?_push_of_some _ e, turn_list a _, ⟨_, Heap.get?_push_size _ rfl, rfl, rfl⟩, fun b hb => ?_, q⟩
    have e : b = s1.heap.objs.size := by simpa using hb
    subst e
    exact I1.fpOk (Nat.le_refl _) (I1.hok.fresh (Nat.le_refl _))
  · subst e
    cases r1
    obtain ⟨its, rv, p, hz⟩ := I1.tuple hq
    refine wpAny_pyIter_tuple (show s1.heap.IsTuple a its.toArray from p) ?_
    refine ⟨s1.heap.objs.size, [s1.heap.objs.size], _, _, H1, rfl, I1.kept (t' := s1.toks) fun b o e => Heap.get?_push_of_some _ e, turn_tuple a _, ⟨_, Heap.get?_push_size _ rfl, rfl, rfl⟩, fun b hb => ?_, q⟩
    have e : b = s1.heap.objs.size := by simpa using hb
    subst e
    exact I1.fpOk (Nat.le_refl _) (I1.hok.fresh (Nat.le_refl _))
/-- xs[i] -/
def rIxQ (K : PySem.W.Frag) : R2 := fun x y H Q => ∃ p xs i v, x = .ref p ∧ y = .int i ∧ Sq K H p xs ∧ atI xs i = some v ∧ Q v H
theorem ix_sq : IxR X (rIxQ X.K) := by
  intro value slice pins s σ H x y v u Q I rx ry h hs
  obtain ⟨p, xs, i, z, ex, ey, hq, he, q⟩ := h
  refine ix_seq value slice pins s σ H x y v u Q I rx ry ?_ hs
  rcases hq with hq | hq
  · exact Or.inl ⟨p, xs, i, z, ex, ey, hq, he, q⟩
  · exact Or.inr (Or.inl ⟨p, xs, i, z, ex, ey, hq, he, q⟩)
/-- xs[a:b], of a tuple not the whole -/
def rSlQ (K : PySem.W.Frag) : V → Option Int → Option Int → Hp → VK → Prop := fun x lo hi H Q => rSlL K x lo hi H Q ∨ rSlT K x lo hi H Q
theorem sl_seq : SlR X (rSlQ X.K) := sl_list.or sl_tup
def rLenQ (K : PySem.W.Frag) : List V → Hp → VK → Prop := fun xs H Q => ∃ p ys, xs = [.ref p] ∧ Sq K H p ys ∧ Q (.int ys.length) H
theorem call_lenQ : CallR X (.builtin "len") (rLenQ X.K) := call_len_seq
def rListQ (K : PySem.W.Frag) : List V → Hp → VK → Prop := fun xs H Q => ∃ p ys, xs = [.ref p] ∧ Sq K H p ys ∧ ∀ l, H l = none → Q (.ref l) (upd H l (.lst ys))
theorem call_listQ : CallR X (.type "list") (rListQ X.K) := call_list_of
/-- tuple(xs): a new tuple of a list, a tuple itself -/
def rTupQ (K : PySem.W.Frag) : List V → Hp → VK → Prop := fun xs H Q => ∃ p ys, xs = [.ref p] ∧ ((SqL K H p ys ∧ ∀ l, H l = none → Q (.ref l) (upd H l (.tup ys))) ∨ (SqT K H p ys ∧ Q (.ref p) H))
theorem call_tupQ : CallR X (.type "tuple") (rTupQ X.K) := call_tuple_of
def rNon (neg : Bool) : R2 := fun x y H Q => y = .non ∧ Q (.bl (if neg then !decide (x = .non) else decide (x = .non))) H
theorem op_isNo : OpR X (compareOp .Is) (rNon false) := op_isN
theorem op_notNo : OpR X (compareOp .IsNot) (rNon true) := op_notN
def rAbs : List V → Hp → VK → Prop := fun xs H Q => ∃ i, xs = [.int i] ∧ Q (.int (if i < 0 then -i else i)) H
theorem call_absQ : CallR X (.builtin "abs") rAbs := call_abs
def rMax2 : List V → Hp → VK → Prop := fun xs H Q => ∃ i j, xs = [.int i, .int j] ∧ Q (.int (if j > i then j else i)) H
def rMin2 : List V → Hp → VK → Prop := fun xs H Q => ∃ i j, xs = [.int i, .int j] ∧ Q (.int (if j < i then j else i)) H
theorem call_max2Q (hc : X.calm = true) : CallR X (.builtin "max") rMax2 := call_max2 hc
theorem call_min2Q (hc : X.calm = true) : CallR X (.builtin "min") rMin2 := call_min2 hc
def rInt1 : List V → Hp → VK → Prop := fun xs H Q => (∃ i, xs = [.int i] ∧ Q (.int i) H) ∨ ∃ k, xs = [.bl k] ∧ Q (.int (if k then 1 else 0)) H
theorem call_int1Q : CallR X (.type "int") rInt1 := call_int1
end

/-! ### a def of the text, by its name -/
/-- the def as it stands -/
def Df (K : PySem.W.Frag) (mg : Str → Option Value) (x : Str) (st : Stmt) : Prop := ∃ f fd, FunD K x x (defArgs st) (defBody st) (defScope st) [] [] f fd ∧ mg x = some (.ref f)
/-- .. and what it promises -/
def Dn (P : Program) (w : World) (K : PySem.W.Frag) (mg : Str → Option Value) (base : Heap) (CT : CXT) (k : Nat) (x : Str) (st : Stmt) (ps : List Str) (sp : Sp) : Prop :=
  ∃ f fd, FunD K x x (defArgs st) (defBody st) (defScope st) [] [] f fd ∧ mg x = some (.ref f) ∧ FnOk P w K mg base CT k f fd ps sp
section
variable {P : Program} {w : World} {K : PySem.W.Frag} {mg : Str → Option Value} {base : Heap} {CT : CXT} {k : Nat} {x : Str} {st : Stmt} {N ps : List Str} {sp : Sp}
theorem Dn.df (d : Dn P w K mg base CT k x st ps sp) : Df K mg x st := let ⟨f, fd, F, g, _⟩ := d; ⟨f, fd, F, g⟩
theorem Dn.imp {sp' : Sp} (d : Dn P w K mg base CT k x st ps sp) (h : ∀ vs H Q E, sp' vs H Q E → sp vs H Q E) : Dn P w K mg base CT k x st ps sp' :=
  let ⟨f, fd, F, g, G⟩ := d; ⟨f, fd, F, g, G.imp h⟩
theorem Dn.mono {j : Nat} (d : Dn P w K mg base CT k x st ps sp) (h : k ≤ j) : Dn P w K mg base CT j x st ps sp :=
  let ⟨f, fd, F, g, G⟩ := d; ⟨f, fd, F, g, G.mono h⟩
/-- a def that lets nothing out -/
theorem dn_ok (D : Df K mg x st) (S : FnScope N ps (defScope st)) (len : ∀ vs H Q E, sp vs H Q E → vs.length = ps.length)
    (body : ∀ (f : Addr) (cdv : Value) (A : Around) (outer : List Env) (s : Shared) (H : Hp) (vs : List V) (Q : VK) (E : XK), Room k (A.deeper (envOfC x (defScope st) s.heap.objs.size f cdv)) → sp vs H Q E →
      ∃ t, PSs (cxOf CX0 P w K mg base N x (defScope st) f cdv A outer s H E).nox (defBody st) t ∧ t { nx := fun _ H' => Q .non H', rt := Q } (start N vs) H) : Dn P w K mg base CX0 (k + 1) x st ps sp := by
  obtain ⟨f, fd, F, g⟩ := D
  refine ⟨f, fd, F, g, F.ok S len fun cdv A outer s H vs Q E hr h => ?_⟩
  obtain ⟨t, a, b⟩ := body f cdv A outer s H vs Q E hr h
  exact ⟨t, PSs.nox a, b⟩
/-- a def that may raise -/
theorem dn_okX (D : Df K mg x st) (S : FnScope N ps (defScope st)) (len : ∀ vs H Q E, sp vs H Q E → vs.length = ps.length)
    (body : ∀ (f : Addr) (cdv : Value) (A : Around) (outer : List Env) (s : Shared) (H : Hp) (vs : List V) (Q : VK) (E : XK), Room k (A.deeper (envOfC x (defScope st) s.heap.objs.size f cdv)) → sp vs H Q E →
      ∃ t, PSs (cxOf (L2.CX P w) P w K mg base N x (defScope st) f cdv A outer s H E) (defBody st) t ∧ t { nx := fun _ H' => Q .non H', rt := Q } (start N vs) H) : Dn P w K mg base (L2.CX P w) (k + 1) x st ps sp := by
  obtain ⟨f, fd, F, g⟩ := D
  exact ⟨f, fd, F, g, F.ok S len fun cdv A outer s H vs Q E hr h => body f cdv A outer s H vs Q E hr h⟩
end
section
variable {X : Cx} {CT : CXT} {k : Nat} {x : Str} {st : Stmt} {ps : List Str} {sp : Sp} {E : XK} {p pos : Pos} {e : Expr} {es : List Expr} {t : TA}
/-- how written values bind to the parameters: by the text alone -/
def BindsT (x : Str) (st : Stmt) (ps : List Str) : Prop := ∀ (kV doc pm : Value) (an : Option Addr) (cdv ct : Value) (us : List Value), us.length = ps.length →
  bindArgs (PySem.W.fnOf x x (defArgs st) (defBody st) (defScope st) .none kV doc pm an cdv ct) ⟨us, []⟩ = pure (ps.zip us)
theorem pe_cD (d : Dn X.prog X.w X.K X.mg X.base CT k x st ps sp) (hb : BindsT x st ps) (hr : Room k X.A) (hg : Gl X x) (hx : Passes CT X E)
    (ha : PA X (e :: es) t) (hdb : (x == ("__debug__" : Str)) = false := by decide) (he : starEach (e :: es) X.env = (false, eval e X.env) :: starEach es X.env := by rfl) (hpl : (backTo pos (starEach es X.env)).any (·.1) = false := by rfl) :
    PE X (.Call (.Name x p) (e :: es) [] pos) (tCall sp [] E t) := by
  obtain ⟨f, fd, F, g, G⟩ := d
  exact pe_call G hr hg g F.kp (F.bindsN hb) .nil hx ha hdb he hpl
/-- keywords alone: g puts their values in the parameters' order -/
def BindsK (x : Str) (st : Stmt) (ps ks : List Str) (g : {α : Type} → List α → List α) : Prop := ∀ (kV doc pm : Value) (an : Option Addr) (cdv ct : Value) (ws : List Value), ws.length = ks.length →
  bindArgs (PySem.W.fnOf x x (defArgs st) (defBody st) (defScope st) .none kV doc pm an cdv ct) ⟨[], ks.zip ws⟩ = pure (ps.zip (g ws))
def tCallW (n : Nat) (sp : Sp) (g : List V → List V) (E : XK) (tk : TA) : TE := fun σ H Q => tk σ H fun zs H2 => zs.length = n ∧ sp (g zs) H2 Q E
end
end Cw
end

/-! text CwLay2 -/
section
set_option Elab.async false
set_option linter.all false
set_option maxRecDepth 100000
set_option maxHeartbeats 4000000
namespace Cw
open PySem PySem.Spec PyProof.Rows L2
section
variable {X : Cx} {CT : CXT} {k : Nat} {x : Str} {st : Stmt} {ps ks : List Str} {sp : Sp} {E : XK} {p pos : Pos} {kws : List Keyword} {tk : TA}
theorem pe_cK (g : {α : Type} → List α → List α) (d : Dn X.prog X.w X.K X.mg X.base CT k x st ps sp) (hb : BindsK x st ps ks g) (hg' : ∀ {zs : List V} {ws : List Value}, Vals zs ws → Vals (g zs) (g ws))
    (hr : Room k X.A) (hg : Gl X x) (hx : Passes CT X E) (hkw : PK X kws tk)
    (hall : (backToKw pos (keywordEach kws X.env)).all (·.1.isSome) = true := by rfl) (hks : (backToKw pos (keywordEach kws X.env)).filterMap (·.1) = ks := by rfl) (hdb : (x == ("__debug__" : Str)) = false := by decide)
    (hpl : ((backTo pos (starEach [] X.env)).any (·.1) || (backToKw pos (keywordEach kws X.env)).any (·.1.isNone)) = false := by rfl) :
    PE X (.Call (.Name x p) [] kws pos) (tCallW ks.length sp g E tk) := by
  obtain ⟨f, fd, F, gm, G⟩ := d
  have hbn : KBn X.K fd ps 0 ks (fun _ ws => g ws) (fun _ zs => g zs) := by
    obtain ⟨oc, od, dV, kV, doc, pm, an, cdv, ct, osl, rfl, lk, hcd, hD, hK⟩ := F.ex
    rcases hD with ⟨_, rfl⟩ | ⟨e, _⟩
    · refine ⟨fun s us ws _ l1 l2 => ?_, fun _ r => hg' r⟩
      have : us = [] := List.length_eq_zero_iff.mp l1
      subst this
      exact .of_eq (hb kV doc pm an cdv ct ws l2)
    · exact absurd rfl e
  refine ⟨fun pins s σ H Q I h => ?_⟩
  refine wpAny_Call_Name_kw (ld_glob I hg gm ?_ hdb)
  refine PySem.W.callWith_KW0 (h₀ := X.base) I.ok.mod.kin F.kp hall ?_ hpl
  refine thn (hkw.run pos pins s σ H _ I h) fun ws s2 ⟨zs, H2, I2, rz, l2, q2⟩ => ⟨I2.kIn, ?_⟩
  rw [hks]
  exact run_fnN (us := []) (vs := []) G hr hbn hx I2 .nil rz rfl l2 q2
end

/-! ### a class that is made -/
def Cn (P : Program) (w : World) (K : PySem.W.Frag) (mg : Str → Option Value) (base : Heap) (k : Nat) (x q : Str) (st : Stmt) (ps : List Str) (C : Addr) (sp : Sp) : Prop :=
  ∃ f fd, FunD K "__init__" q (defArgs st) (defBody st) (defScope st) [] [] f fd ∧ mg x = some (.ref C) ∧ Mk K C f ∧ FnOk P w K mg base CX0 k f fd ps sp
def BindsI (q : Str) (st : Stmt) (ps : List Str) : Prop := ∀ (kV doc pm : Value) (an : Option Addr) (cdv ct : Value) (us : List Value), us.length = ps.length →
  bindArgs (PySem.W.fnOf "__init__" q (defArgs st) (defBody st) (defScope st) .none kV doc pm an cdv ct) ⟨us, []⟩ = pure (ps.zip us)
section
variable {X : Cx} {k : Nat} {x q : Str} {st : Stmt} {ps ks : List Str} {sp : Sp} {C : Addr} {p pos : Pos} {e : Expr} {es : List Expr} {t : TA} {kws : List Keyword} {tk : TA}
theorem pe_mkD (d : Cn X.prog X.w X.K X.mg X.base k x q st ps C sp) (hb : BindsI q st ps) (hr : Room (k + 1) X.A) (hg : Gl X x)
    (ha : PA X (e :: es) t) (hdb : (x == ("__debug__" : Str)) = false := by decide) (he : starEach (e :: es) X.env = (false, eval e X.env) :: starEach es X.env := by rfl) (hpl : (backTo pos (starEach es X.env)).any (·.1) = false := by rfl) :
    PE X (.Call (.Name x p) (e :: es) [] pos) (tMake C sp [] E0 t) := by
  obtain ⟨f, fd, F, gm, M, G⟩ := d
  exact pe_make M G hr hg gm (F.bindsN hb) .nil pass0 ha hdb he hpl
/-- keywords alone, behind the new instance -/
def BindsJ (q : Str) (st : Stmt) (ps ks : List Str) (g : {α : Type} → List α → List α → List α) : Prop := ∀ (kV doc pm : Value) (an : Option Addr) (cdv ct : Value) (us ws : List Value), us.length = 1 → ws.length = ks.length →
  bindArgs (PySem.W.fnOf "__init__" q (defArgs st) (defBody st) (defScope st) .none kV doc pm an cdv ct) ⟨us, ks.zip ws⟩ = pure (ps.zip (g us ws))
theorem pe_mkK (g : {α : Type} → List α → List α → List α) (d : Cn X.prog X.w X.K X.mg X.base k x q st ps C sp) (hb : BindsJ q st ps ks g) (hg' : ∀ {vs : List V} {us : List Value} {zs : List V} {ws : List Value}, Vals vs us → Vals zs ws → Vals (g vs zs) (g us ws))
    (hr : Room (k + 1) X.A) (hg : Gl X x) (hkw : PK X kws tk)
    (hall : (backToKw pos (keywordEach kws X.env)).all (·.1.isSome) = true := by rfl) (hks : (backToKw pos (keywordEach kws X.env)).filterMap (·.1) = ks := by rfl) (hdb : (x == ("__debug__" : Str)) = false := by decide)
    (hpl : ((backTo pos (starEach [] X.env)).any (·.1) || (backToKw pos (keywordEach kws X.env)).any (·.1.isNone)) = false := by rfl) :
    PE X (.Call (.Name x p) [] kws pos) (tMakeK C 0 ks.length sp g E0 tNil tk) := by
  obtain ⟨f, fd, F, gm, M, G⟩ := d
  have hbn : KBn X.K fd ps 1 ks g g := by
    obtain ⟨oc, od, dV, kV, doc, pm, an, cdv, ct, osl, rfl, lk, hcd, hD, hK⟩ := F.ex
    rcases hD with ⟨_, rfl⟩ | ⟨e, _⟩
    · exact ⟨fun s us ws _ l1 l2 => .of_eq (hb kV doc pm an cdv ct us ws l1 l2), fun r z => hg' r z⟩
    · exact absurd rfl e
  exact pe_makeK0 M G hr hg gm hbn pass0 hkw hall hks hdb hpl
end

/-! ### readings, step by step -/
section
variable {K : PySem.W.Frag} {σ : L2.St} {H : Hp} {D : Ends} {t u : TS} {te ta tb : TE} {tt tu : TT} {i : Nat} {v x y : V} {Q : VK} {QB : Bool → Hp → Prop}
theorem w_seq (h : t { D with nx := u D } σ H) : tSeq t u D σ H := h
theorem w_asgN (h : te σ H fun x H1 => D.nx (σ.set i (some x)) H1) : tAsg te (gName i) D σ H := h
theorem w_asgG {g : TG} (h : te σ H fun x H1 => g x σ H1 D.nx) : tAsg te g D σ H := h
theorem w_drop (h : te σ H fun _ H1 => D.nx σ H1) : tDrop te D σ H := h
theorem w_ret (h : te σ H D.rt) : tRet te D σ H := h
theorem w_if (h : tt σ H fun b H1 => if b = true then t D σ H1 else u D σ H1) : tIfS tt t u D σ H := h
theorem w_next (h : D.nx σ H) : tNext D σ H := h
theorem w_var (e : σ[i]? = some (some v)) (q : Q v H) : tVar i σ H Q := ⟨v, e, q⟩
theorem w_c (q : Q v H) : tC v σ H Q := q
theorem w_op {r : R2} (h : ta σ H fun x H1 => tb σ H1 fun y H2 => r x y H2 Q) : tOp r ta tb σ H Q := h
theorem w_un {r : V → Hp → VK → Prop} (h : ta σ H fun x H1 => r x H1 Q) : tUn r ta σ H Q := h
theorem w_cb {r : List V → Hp → VK → Prop} {tl : TA} (h : tl σ H fun vs H1 => r vs H1 Q) : tCB r tl σ H Q := h
theorem w_cons {tr : TA} {QA : List V → Hp → Prop} (h : ta σ H fun x H1 => tr σ H1 fun xs H2 => QA (x :: xs) H2) : tCons ta tr σ H QA := h
theorem w_nil {QA : List V → Hp → Prop} (h : QA [] H) : tNil σ H QA := h
theorem w_call {sp : Sp} {E : XK} {tl : TA} (h : tl σ H fun vs H1 => sp (vs ++ []) H1 Q E) : tCall sp [] E tl σ H Q := h
theorem w_test (h : te σ H fun x H' => ∃ k, x = .bl k ∧ QB k H') : tTest te σ H QB := h
theorem w_tB (h : te σ H fun x H' => ∃ k, x = .bl k ∧ QB k H') : tB te σ H QB := h
theorem w_bl {b : Bool} (h : QB b H) : ∃ k, V.bl b = .bl k ∧ QB k H := ⟨b, rfl, h⟩
theorem w_and (h : tt σ H fun c H1 => if c = true then tu σ H1 QB else QB false H1) : tAnd tt tu σ H QB := h
theorem w_or (h : tt σ H fun c H1 => if c = true then QB true H1 else tu σ H1 QB) : tOr tt tu σ H QB := h
theorem w_not (h : tt σ H fun c H1 => QB (!c) H1) : tNot tt σ H QB := h
theorem w_andV (h : ta σ H fun x H1 => ∃ c, x = .bl c ∧ if c = true then tb σ H1 Q else Q (.bl false) H1) : tAndV ta tb σ H Q := h
theorem w_orV (h : ta σ H fun x H1 => ∃ c, x = .bl c ∧ if c = true then Q (.bl true) H1 else tb σ H1 Q) : tOrV ta tb σ H Q := h
theorem w_notV (h : ta σ H fun x H1 => ∃ c, x = .bl c ∧ Q (.bl (!c)) H1) : tNotV ta σ H Q := h
theorem w_ifE (h : tt σ H fun c H1 => if c = true then ta σ H1 Q else tb σ H1 Q) : tIf tt ta tb σ H Q := h
theorem w_blv {P : Bool → Prop} {b : Bool} (h : P b) : ∃ c, V.bl b = .bl c ∧ P c := ⟨b, rfl, h⟩
theorem w_I0 {g : Int → Int → V} {a b : Int} (q : Q (g a b) H) : rI0 g (.int a) (.int b) H Q := ⟨a, b, rfl, rfl, q⟩
theorem w_I {C : Int → Int → Prop} {g : Int → Int → V} {a b : Int} (c : C a b) (q : Q (g a b) H) : rI C g (.int a) (.int b) H Q := ⟨a, b, rfl, rfl, c, q⟩
theorem w_eqI {a b : Int} (q : Q (.bl (decide (a = b))) H) : rEq (.int a) (.int b) H Q := by
  refine ⟨rfl, ?_⟩
  have e : decide (V.int a = V.int b) = decide (a = b) := by
    by_cases h : a = b
    · subst h; simp
    · simp [h]
  rw [e]
  exact q
theorem w_neI {a b : Int} (q : Q (.bl (!decide (a = b))) H) : rNe (.int a) (.int b) H Q := by
  refine ⟨rfl, ?_⟩
  have e : decide (V.int a = V.int b) = decide (a = b) := by
    by_cases h : a = b
    · subst h; simp
    · simp [h]
  rw [e]
  exact q
theorem w_isN (q : Q (.bl (decide (v = .non))) H) : rNon false v .non H Q := ⟨rfl, q⟩
theorem w_notN (q : Q (.bl (!decide (v = .non))) H) : rNon true v .non H Q := ⟨rfl, q⟩
theorem w_chain {r r' : R2} {tc : TE} (h : ta σ H fun x H1 => tb σ H1 fun y H2 => r x y H2 fun z H3 => ∃ k, z = .bl k ∧ (if k = true then tc σ H3 fun w' H4 => r' y w' H4 Q else Q (.bl false) H3)) : tChain r r' ta tb tc σ H Q := h
end
/-! ### rules whose new objects come with a heap of which only that is told -/
/-- the heap with a new object at p -/
def New (H H' : Hp) (p : Addr) (o : HO) : Prop := Same H H' ∧ H p = none ∧ H' p = some o
theorem New.upd {H : Hp} {p : Addr} {o : HO} (n : H p = none) : New H (L2.upd H p o) p o := ⟨Same.new n, n, upd_same⟩
/-- the heap with a changed object at p -/
def Chg (H H' : Hp) (p : Addr) (o : HO) : Prop := But p H H' ∧ H' p = some o
theorem Chg.upd {H : Hp} {p : Addr} {o : HO} : Chg H (L2.upd H p o) p o := ⟨But.upd, upd_same⟩
section
variable {X : Cx} {e : Expr} {es : List Expr} {t : TA} {pos : Pos}
def tTupS (t : TA) : TE := fun σ H Q => t σ H fun xs H1 => xs.length ≤ sizeLine ∧ ∀ p H', New H1 H' p (.tup xs) → Q (.ref p) H'
def tLstS (t : TA) : TE := fun σ H Q => t σ H fun xs H1 => xs.length ≤ sizeLine ∧ ∀ p H', New H1 H' p (.lst xs) → Q (.ref p) H'
theorem pe_tupS {x1} (h : PA X es t) : PE X (.Tuple es x1 pos) (tTupS t) := by
  refine ⟨fun pins s σ H Q I hq => ?_⟩
  refine wpAny_Tuple_spliced (thn (h.run pos pins s σ H _ I hq) fun us s1 ⟨xs, H1, I1, r, z, q⟩ => ⟨by rw [← r.length]; exact z, ?_⟩)
  have hf : H1 s1.heap.objs.size = none := I1.hok.fresh (Nat.le_refl _)
  refine ⟨.ref s1.heap.objs.size, upd H1 s1.heap.objs.size (.tup xs), I1.laid (t' := s1.toks) (fun b u e => Heap.get?_push_of_some _ e) (Nat.le_refl _) ?_, rfl, q _ _ (New.upd hf)⟩
  exact ⟨z, us, r, ⟨_, Heap.get?_push_size _ rfl, rfl, _, rfl⟩⟩
theorem pe_lstS (h : PA X es t) : PE X (.List es pos) (tLstS t) := by
  refine ⟨fun pins s σ H Q I hq => ?_⟩
  refine wpAny_List_spliced (thn (h.run pos pins s σ H _ I hq) fun us s1 ⟨xs, H1, I1, r, z, q⟩ => ⟨by rw [← r.length]; exact z, ?_⟩)
  have hf : H1 s1.heap.objs.size = none := I1.hok.fresh (Nat.le_refl _)
  refine ⟨.ref s1.heap.objs.size, upd H1 s1.heap.objs.size (.lst xs), I1.laid (t' := s1.toks) (fun b u e => Heap.get?_push_of_some _ e) (Nat.le_refl _) ?_, rfl, q _ _ (New.upd hf)⟩
  exact ⟨z, us, 0, r, Heap.get?_push_size _ rfl⟩
theorem SlR.imp {r r' : V → Option Int → Option Int → Hp → VK → Prop} (h : SlR X r) (w : ∀ x lo hi H Q, r' x lo hi H Q → r x lo hi H Q) : SlR X r' :=
  fun pins s σ H x v vl vu lo hi sl Q I rx hs pl pu q => h pins s σ H x v vl vu lo hi sl Q I rx hs pl pu (w _ _ _ _ _ q)
theorem CallR.imp {f : Value} {r r' : List V → Hp → VK → Prop} (h : CallR X f r) (w : ∀ xs H Q, r' xs H Q → r xs H Q) : CallR X f r' :=
  fun pins s σ H xs us Q I rx q => h pins s σ H xs us Q I rx (w _ _ _ q)
theorem OpR.imp {f : Value → Value → Sem Value} {r r' : R2} (h : OpR X f r) (w : ∀ x y H Q, r' x y H Q → r x y H Q) : OpR X f r' :=
  fun pins s σ H x y v u Q I rx ry q => h pins s σ H x y v u Q I rx ry (w _ _ _ _ q)
/-- xs[a:b]: a new list or tuple; of a tuple not the whole -/
def rSlS (K : PySem.W.Frag) : V → Option Int → Option Int → Hp → VK → Prop := fun x lo hi H Q =>
  (∃ a xs, x = .ref a ∧ SqL K H a xs ∧ ∀ p H', New H H' p (.lst (cutV xs lo hi)) → Q (.ref p) H') ∨
  ∃ a xs, x = .ref a ∧ SqT K H a xs ∧ ¬ (HT.sIx xs.length 0 lo = 0 ∧ HT.sIx xs.length xs.length hi = xs.length) ∧ ∀ p H', New H H' p (.tup (cutV xs lo hi)) → Q (.ref p) H'
theorem sl_s : SlR X (rSlS X.K) := SlR.imp sl_seq fun x lo hi H Q q => by
  rcases q with ⟨a, xs, e, h, k⟩ | ⟨a, xs, e, h, n, k⟩
  · exact Or.inl ⟨a, xs, e, h, fun p hp => k p _ (New.upd hp)⟩
  · exact Or.inr ⟨a, xs, e, h, n, fun p hp => k p _ (New.upd hp)⟩
def rListS (K : PySem.W.Frag) : List V → Hp → VK → Prop := fun xs H Q => ∃ p ys, xs = [.ref p] ∧ Sq K H p ys ∧ ∀ l H', New H H' l (.lst ys) → Q (.ref l) H'
theorem call_listS : CallR X (.type "list") (rListS X.K) := CallR.imp call_listQ fun xs H Q ⟨p, ys, e, h, k⟩ => ⟨p, ys, e, h, fun l hl => k l _ (New.upd hl)⟩
/-- tuple of a list -/
def rTupS (K : PySem.W.Frag) : List V → Hp → VK → Prop := fun xs H Q => ∃ p ys, xs = [.ref p] ∧ SqL K H p ys ∧ ∀ l H', New H H' l (.tup ys) → Q (.ref l) H'
theorem call_tupS : CallR X (.type "tuple") (rTupS X.K) := CallR.imp call_tupQ fun xs H Q ⟨p, ys, e, h, k⟩ => ⟨p, ys, e, Or.inl ⟨h, fun l hl => k l _ (New.upd hl)⟩⟩
def rCatS : R2 := fun x y H Q => ∃ l b xs zs, x = .ref l ∧ y = .ref b ∧ H l = some (.lst xs) ∧ H b = some (.lst zs) ∧ xs.length + zs.length ≤ sizeLine ∧ ∀ p H', New H H' p (.lst (xs ++ zs)) → Q (.ref p) H'
theorem op_catS : OpR X (binaryOp .Add) rCatS := OpR.imp op_cat fun x y H Q ⟨l, b, xs, zs, e1, e2, h1, h2, hl, k⟩ => ⟨l, b, xs, zs, e1, e2, h1, h2, hl, fun p hp => k p _ (New.upd hp)⟩
def rRepS : R2 := fun x y H Q => ∃ l k xs, x = .ref l ∧ y = .int k ∧ H l = some (.lst xs) ∧ -(2 ^ 63) ≤ k ∧ k < 2 ^ 63 ∧ xs.length * k.toNat ≤ sizeLine ∧ ∀ p H', New H H' p (.lst (List.replicate k.toNat xs).flatten) → Q (.ref p) H'
end
end Cw
end

/-! text CwLay3 -/
section
set_option Elab.async false
set_option linter.all false
set_option maxRecDepth 100000
set_option maxHeartbeats 4000000
namespace Cw
open PySem PySem.Spec PyProof.Rows L2
theorem New.same {H H' : Hp} {p : Addr} {o : HO} (n : New H H' p o) : Same H H' := n.1
theorem New.at {H H' : Hp} {p : Addr} {o : HO} (n : New H H' p o) : H' p = some o := n.2.2
theorem New.free {H H' : Hp} {p : Addr} {o : HO} (n : New H H' p o) : H p = none := n.2.1
section
variable {X : Cx}
theorem op_repS : OpR X (binaryOp .Mult) rRepS := OpR.imp op_rep fun x y H Q ⟨l, k, xs, e1, e2, h, h1, h2, hl, q⟩ => ⟨l, k, xs, e1, e2, h, h1, h2, hl, fun p hp => q p _ (New.upd hp)⟩
/-- xs[i] = v -/
def rSetS : TSet := fun o i v H Q => ∃ p xs k j, o = .ref p ∧ i = .int k ∧ H p = some (.lst xs) ∧ ixN xs.length k = some j ∧ ∀ H', Chg H H' p (.lst (xs.set j v)) → Q H'
theorem set_s : PSet X rSetS := fun pins s σ H o i v ov iv u Q I ro ri rv ⟨p, xs, k, j, e1, e2, h, hx, q⟩ =>
  set_list pins s σ H o i v ov iv u Q I ro ri rv ⟨p, xs, k, j, e1, e2, h, hx, q _ Chg.upd⟩
def rAppS : V → List V → Hp → VK → Prop := fun x vs H Q => ∃ l xs y, x = .ref l ∧ vs = [y] ∧ H l = some (.lst xs) ∧ xs.length < sizeLine ∧ ∀ H', Chg H H' l (.lst (xs ++ [y])) → Q .non H'
theorem mt_appS : MtM X "list.append" rAppS := fun pins s σ H x xs v us Q I rx rv ⟨l, ys, y, e1, e2, h, hl, q⟩ =>
  mt_append pins s σ H x xs v us Q I rx rv ⟨l, ys, y, e1, e2, h, hl, q _ Chg.upd⟩
end

/-! ### for over a sequence -/
/-- the rest of a for whose iterator has come -/
def FR (D : Ends) (g : TG) (tb : TS) (σ : L2.St) (J : It) (H : Hp) : Prop := ∃ W : Nat → Nat → L2.St → Hp → Prop, (∃ m, W 0 m σ H) ∧ ∀ i m σ H, W i m σ H →
  (J.stop i H ∧ D.nx σ H) ∨ (J.go i H ∧ ∃ N : L2.St → Hp → Prop, (∀ σ' H', N σ' H' → ∃ m', m' < m ∧ W (i + 1) m' σ' H') ∧ ∀ x H', J.yld i H x H' → g x σ H' fun σ2 H2 => tb { D with nx := N, ct := N, bk := D.nx } σ2 H2)
section
variable {K : PySem.W.Frag} {σ : L2.St} {H : Hp} {D : Ends} {g : TG} {tb : TS} {te : TE} {wi : TI} {a : Addr} {xs : List V}
theorem w_for (h : wi σ H fun J H1 => FR D g tb σ J H1) : tFor wi g tb D σ H := h
theorem w_iSeq {R : It → Hp → Prop} (h : te σ H fun x H1 => (∃ a, x = .ref a ∧ (∃ xs, SqL K H1 a xs) ∧ R (Itl K a) H1) ∨ ∃ a, x = .ref a ∧ (∃ xs, SqT K H1 a xs) ∧ R (Itt K a) H1) : iSeq K te σ H R := h
theorem w_iR1 {ta : TA} {R : It → Hp → Prop} (h : ta σ H fun vs H1 => ∃ j : Int, vs = [.int j] ∧ -(2 ^ 62) ≤ j ∧ j < 2 ^ 62 ∧ R (Itr 0 j.toNat) H1) : iRng1 ta σ H R := h
theorem w_iR2 {ta : TA} {R : It → Hp → Prop} (h : ta σ H fun vs H1 => ∃ i j : Int, vs = [.int i, .int j] ∧ (-(2 ^ 62) ≤ i ∧ i < 2 ^ 62 ∧ -(2 ^ 62) ≤ j ∧ j < 2 ^ 62) ∧ R (Itr i (j - i).toNat) H1) : iRng2 ta σ H R := h
theorem fr_walk {J : It} {n : Nat} {G : Hp → Prop} {Y : Nat → Hp → V → Hp → Prop} (w : Walk J n G Y) (Pv : Nat → L2.St → Hp → Prop) (h0 : Pv 0 σ H) (hG : ∀ i σ H, i ≤ n → Pv i σ H → G H)
    (hs : ∀ i x σ H H', i < n → Pv i σ H → Y i H x H' → g x σ H' fun σ2 H2 => tb { D with nx := Pv (i + 1), ct := Pv (i + 1), bk := D.nx } σ2 H2) (hd : ∀ σ H, Pv n σ H → D.nx σ H) : FR D g tb σ J H := for_it w Pv h0 hG hs hd
/-- Pv: by the turn, the slots, the heap -/
theorem seq_for (h : Sq K H a xs) (Pv : Nat → L2.St → Hp → Prop) (h0 : Pv 0 σ H) (hk : ∀ i σ' H', Pv i σ' H' → ∀ o, H a = some o → H' a = some o)
    (hs : ∀ i x σ' H', xs[i]? = some x → Pv i σ' H' → g x σ' H' fun σ2 H2 => tb { D with nx := Pv (i + 1), ct := Pv (i + 1), bk := D.nx } σ2 H2) (hd : ∀ σ' H', Pv xs.length σ' H' → D.nx σ' H') :
    (∃ a', V.ref a = .ref a' ∧ (∃ xs, SqL K H a' xs) ∧ FR D g tb σ (Itl K a') H) ∨ ∃ a', V.ref a = .ref a' ∧ (∃ xs, SqT K H a' xs) ∧ FR D g tb σ (Itt K a') H := by
  rcases h with h | h
  · exact Or.inl ⟨a, rfl, ⟨xs, h⟩, fr_walk walk_list Pv h0 (fun i σ' H' _ p => sqL_at (hk i σ' H' p) h) (fun i x σ' H' H'' _ p ⟨e, y⟩ => by subst e; exact hs i x σ' _ y p) hd⟩
  · exact Or.inr ⟨a, rfl, ⟨xs, h⟩, fr_walk walk_tup Pv h0 (fun i σ' H' _ p => sqT_at (hk i σ' H' p) h) (fun i x σ' H' H'' _ p ⟨e, y⟩ => by subst e; exact hs i x σ' _ y p) hd⟩
/-- over range(n) -/
theorem range_for {n : Int} (h0' : 0 ≤ n) (hn : n < 2 ^ 62) (Pv : Nat → L2.St → Hp → Prop) (h0 : Pv 0 σ H)
    (hs : ∀ (i : Nat) σ' H', (i : Int) < n → Pv i σ' H' → g (.int (i : Int)) σ' H' fun σ2 H2 => tb { D with nx := Pv (i + 1), ct := Pv (i + 1), bk := D.nx } σ2 H2) (hd : ∀ σ' H', Pv n.toNat σ' H' → D.nx σ' H') :
    ∃ j : Int, [V.int n] = [.int j] ∧ -(2 ^ 62) ≤ j ∧ j < 2 ^ 62 ∧ FR D g tb σ (Itr 0 j.toNat) H :=
  ⟨n, rfl, by omega, hn, fr_walk (G := fun _ => True) walk_range Pv h0 (fun _ _ _ _ _ => trivial) (fun i x σ' H' H'' hi p ⟨e, y⟩ => by
    subst e y
    have e0 : (0 : Int) + (i : Int) = (i : Int) := Int.zero_add _
    dsimp only
    rw [e0]
    exact hs i σ' _ (by omega) p) hd⟩
theorem range2_for {lo hi : Int} (b : -(2 ^ 62) ≤ lo ∧ lo < 2 ^ 62 ∧ -(2 ^ 62) ≤ hi ∧ hi < 2 ^ 62) (Pv : Nat → L2.St → Hp → Prop) (h0 : Pv 0 σ H)
    (hs : ∀ (i : Nat) σ' H', lo + (i : Int) < hi → Pv i σ' H' → g (.int (lo + (i : Int))) σ' H' fun σ2 H2 => tb { D with nx := Pv (i + 1), ct := Pv (i + 1), bk := D.nx } σ2 H2) (hd : ∀ σ' H', Pv (hi - lo).toNat σ' H' → D.nx σ' H') :
    ∃ i j : Int, [V.int lo, V.int hi] = [.int i, .int j] ∧ (-(2 ^ 62) ≤ i ∧ i < 2 ^ 62 ∧ -(2 ^ 62) ≤ j ∧ j < 2 ^ 62) ∧ FR D g tb σ (Itr i (j - i).toNat) H :=
  ⟨lo, hi, rfl, b, fr_walk (G := fun _ => True) walk_range Pv h0 (fun _ _ _ _ _ => trivial) (fun i x σ' H' H'' hi' p ⟨e, y⟩ => by
    subst e y
    exact hs i σ' _ (by omega) p) hd⟩
end
/-! ### comprehensions -/
def LR (g : TG) (tt : TT) (te : TE) (vs : List Nat) (σ : L2.St) (Q : VK) (J : It) (H1 : Hp) : Prop := ∀ D, H1 D = none → ∃ W : Nat → Nat → Hp → Prop, (∃ m, W 0 m (upd H1 D (.lst []))) ∧ ∀ i m H, W i m H →
  (J.stop i H ∧ Q (.ref D) H) ∨ (J.go i H ∧ ∃ Nx : Hp → Prop, (∀ H', Nx H' → ∃ m', m' < m ∧ W (i + 1) m' H') ∧ ∀ x H', J.yld i H x H' → g x (wipe σ vs) H' fun σ2 H2 => wipe σ2 vs = wipe σ vs ∧ tt σ2 H2 fun b H3 =>
    if b = true then te σ2 H3 fun y H4 => ∃ acc, H4 D = some (.lst acc) ∧ acc.length < sizeLine ∧ Nx (upd H4 D (.lst (acc ++ [y]))) else Nx H3)
section
variable {K : PySem.W.Frag} {σ : L2.St} {H : Hp} {g : TG} {tt : TT} {te tl : TE} {wi : TI} {a : Addr} {xs : List V} {vs : List Nat} {Q : VK}
theorem w_lc (h : wi σ H fun J H1 => LR g tt te vs σ Q J H1) : tLc wi g tt te vs σ H Q := h
/-- Pv D i: behind i turns, the new list at D -/
theorem lr_walk {J : It} {n : Nat} {G : Hp → Prop} {Y : Nat → Hp → V → Hp → Prop} (w : Walk J n G Y) (Pv : Addr → Nat → Hp → Prop) (h0 : ∀ D H', New H H' D (.lst []) → Pv D 0 H') (hG : ∀ D i H', i ≤ n → Pv D i H' → G H')
    (hs : ∀ D i x H' H'', i < n → Pv D i H' → Y i H' x H'' → g x (wipe σ vs) H'' fun σ2 H2 => wipe σ2 vs = wipe σ vs ∧ tt σ2 H2 fun b H3 =>
      if b = true then te σ2 H3 fun y H4 => ∃ acc, H4 D = some (.lst acc) ∧ acc.length < sizeLine ∧ Pv D (i + 1) (upd H4 D (.lst (acc ++ [y]))) else Pv D (i + 1) H3)
    (hd : ∀ D H', Pv D n H' → Q (.ref D) H') : LR g tt te vs σ Q J H := fun D hD => lc_it w (Pv D) (h0 D _ (New.upd hD)) (hG D) (hs D) (hd D)
theorem seq_lc (h : Sq K H a xs) (Pv : Addr → Nat → Hp → Prop) (h0 : ∀ D H', New H H' D (.lst []) → Pv D 0 H') (hk : ∀ D i H', Pv D i H' → ∀ o, H a = some o → H' a = some o)
    (hs : ∀ D i x H', xs[i]? = some x → Pv D i H' → g x (wipe σ vs) H' fun σ2 H2 => wipe σ2 vs = wipe σ vs ∧ tt σ2 H2 fun b H3 =>
      if b = true then te σ2 H3 fun y H4 => ∃ acc, H4 D = some (.lst acc) ∧ acc.length < sizeLine ∧ Pv D (i + 1) (upd H4 D (.lst (acc ++ [y]))) else Pv D (i + 1) H3)
    (hd : ∀ D H', Pv D xs.length H' → Q (.ref D) H') :
    (∃ a', V.ref a = .ref a' ∧ (∃ xs, SqL K H a' xs) ∧ LR g tt te vs σ Q (Itl K a') H) ∨ ∃ a', V.ref a = .ref a' ∧ (∃ xs, SqT K H a' xs) ∧ LR g tt te vs σ Q (Itt K a') H := by
  rcases h with h | h
  · exact Or.inl ⟨a, rfl, ⟨xs, h⟩, lr_walk walk_list Pv h0 (fun D i H' _ p => sqL_at (hk D i H' p) h) (fun D i x H' H'' _ p ⟨e, y⟩ => by subst e; exact hs D i x _ y p) hd⟩
  · exact Or.inr ⟨a, rfl, ⟨xs, h⟩, lr_walk walk_tup Pv h0 (fun D i H' _ p => sqT_at (hk D i H' p) h) (fun D i x H' H'' _ p ⟨e, y⟩ => by subst e; exact hs D i x _ y p) hd⟩
theorem range_lc {n : Int} (h0' : 0 ≤ n) (hn : n < 2 ^ 62) (Pv : Addr → Nat → Hp → Prop) (h0 : ∀ D H', New H H' D (.lst []) → Pv D 0 H')
    (hs : ∀ D (i : Nat) H', (i : Int) < n → Pv D i H' → g (.int (i : Int)) (wipe σ vs) H' fun σ2 H2 => wipe σ2 vs = wipe σ vs ∧ tt σ2 H2 fun b H3 =>
      if b = true then te σ2 H3 fun y H4 => ∃ acc, H4 D = some (.lst acc) ∧ acc.length < sizeLine ∧ Pv D (i + 1) (upd H4 D (.lst (acc ++ [y]))) else Pv D (i + 1) H3)
    (hd : ∀ D H', Pv D n.toNat H' → Q (.ref D) H') : ∃ j : Int, [V.int n] = [.int j] ∧ -(2 ^ 62) ≤ j ∧ j < 2 ^ 62 ∧ LR g tt te vs σ Q (Itr 0 j.toNat) H :=
  ⟨n, rfl, by omega, hn, lr_walk (G := fun _ => True) walk_range Pv h0 (fun _ _ _ _ _ => trivial) (fun D i x H' H'' hi p ⟨e, y⟩ => by
    subst e y
    have e0 : (0 : Int) + (i : Int) = (i : Int) := Int.zero_add _
    dsimp only
    rw [e0]
    exact hs D i _ (by omega) p) hd⟩
/-- the end of a turn that gives -/
theorem lc_end {D : Addr} {acc : List V} {y : V} {P : Hp → Prop} (e : H D = some (.lst acc)) (l : acc.length ≤ 1000000) (k : ∀ H5, Chg H H5 D (.lst (acc ++ [y])) → P H5) :
    ∃ acc, H D = some (.lst acc) ∧ acc.length < sizeLine ∧ P (upd H D (.lst (acc ++ [y]))) := ⟨acc, e, Nat.lt_of_le_of_lt l (by rw [sizeLine_eq]; decide), k _ Chg.upd⟩
end
end Cw
end

/-! text CwLay4 -/
section
set_option Elab.async false
set_option linter.all false
set_option maxRecDepth 100000
set_option maxHeartbeats 4000000
namespace Cw
open PySem PySem.Spec PyProof.Rows L2
theorem cxK {CT : CXT} {P : Program} {w : World} {K : PySem.W.Frag} {mg : Str → Option Value} {base : Heap} {N : List Str} {qual : Str} {scope : Scope} {f : Addr} {cd : Value} {A : Around} {outer : List Env} {s : Shared} {H : Hp} {E : XK} :
    (cxOf CT P w K mg base N qual scope f cd A outer s H E).K = K := rfl
section
variable {K : PySem.W.Frag} {σ : L2.St} {H H' H1 : Hp} {D : Ends} {t : TA} {te : TE} {i : Nat} {v x : V} {Q : VK} {a p : Addr} {xs r : List V} {o : HO}
theorem w_tupS (h : t σ H fun xs H1 => xs.length ≤ sizeLine ∧ ∀ p H', New H1 H' p (.tup xs) → Q (.ref p) H') : tTupS t σ H Q := h
theorem w_lstS (h : t σ H fun xs H1 => xs.length ≤ sizeLine ∧ ∀ p H', New H1 H' p (.lst xs) → Q (.ref p) H') : tLstS t σ H Q := h
theorem w_gN {QS : L2.St → Hp → Prop} (q : QS (σ.set i (some v)) H) : gName i v σ H QS := q
theorem w_gTup {QS : L2.St → Hp → Prop} {n : Nat} {g : TGs} (h : H a = some (.tup xs)) (l : xs.length = n) (q : g xs σ H QS) : gTup K n g (.ref a) σ H QS := ⟨a, xs, rfl, Or.inl (Or.inl h), l, q⟩
theorem w_gUnl {QS : L2.St → Hp → Prop} {n : Nat} {g : TGs} (h : H a = some (.lst xs)) (l : xs.length = n) (q : g xs σ H QS) : gUnl K n g (.ref a) σ H QS := ⟨a, xs, rfl, Or.inl (Or.inl h), l, q⟩
theorem w_gCons {QS : L2.St → Hp → Prop} {g : TG} {u : TGs} (q : g v σ H fun σ' H' => u r σ' H' QS) : gCons g u (v :: r) σ H QS := ⟨v, r, rfl, q⟩
theorem w_gNil {QS : L2.St → Hp → Prop} (q : QS σ H) : gNil [] σ H QS := ⟨rfl, q⟩
theorem w_aug {ti : TIp} (e : σ[i]? = some (some x)) (h : te σ H fun y H1 => ti x y H1 fun z H2 => D.nx (σ.set i (some z)) H2) : tAug i te ti D σ H := ⟨x, e, h⟩
theorem w_ip {f : Int → Int → Int} {b c : Int} (q : Q (.int (f b c)) H) : ipI f (.int b) (.int c) H Q := ⟨b, c, rfl, rfl, q⟩
theorem w_par {j : Nat} {ta : TA} (h : ta σ H fun vs H1 => ∃ v w, vs = [v, w] ∧ D.nx ((σ.set i (some v)).set j (some w)) H1) : tPar i j ta D σ H := h
theorem w_par2 {P : V → V → Prop} {b c : V} (h : P b c) : ∃ v w, [b, c] = [v, w] ∧ P v w := ⟨b, c, rfl, h⟩
theorem w_par3 {j l : Nat} {ta : TA} (h : ta σ H fun vs H1 => ∃ u v w, vs = [u, v, w] ∧ D.nx (((σ.set i (some u)).set j (some v)).set l (some w)) H1) : tPar3 i j l ta D σ H := h
theorem w_par33 {P : V → V → V → Prop} {b c d : V} (h : P b c d) : ∃ u v w, [b, c, d] = [u, v, w] ∧ P u v w := ⟨b, c, d, rfl, h⟩
theorem w_small {n : Nat} {P : Prop} (hn : n ≤ 100000) (h : P) : n ≤ sizeLine ∧ P := ⟨Nat.le_trans hn (by rw [sizeLine_eq]; decide), h⟩
theorem w_ix {j : Int} (h : Sq K H p xs) (e : atI xs j = some v) (q : Q v H) : rIxQ K (.ref p) (.int j) H Q := ⟨p, xs, j, v, rfl, rfl, h, e, q⟩
theorem w_ixn {j : Nat} (h : Sq K H p xs) (e : xs[j]? = some v) (q : Q v H) : rIxQ K (.ref p) (.int (j : Int)) H Q := by
  refine ⟨p, xs, (j : Int), v, rfl, rfl, h, ?_, q⟩
  have hj := (List.getElem?_eq_some_iff.mp e).1
  unfold atI ixN
  rw [if_pos (by omega), if_pos (by omega)]
  simpa using e
theorem w_len (h : Sq K H p xs) (q : Q (.int (xs.length : Int)) H) : rLenQ K [.ref p] H Q := ⟨p, xs, rfl, h, q⟩
theorem w_sum {ns : List Int} (h : SqL K H p (ns.map V.int)) (q : Q (.int ns.sum) H) : rSum K [.ref p] H Q := ⟨p, ns, rfl, h, q⟩
theorem w_any {bs : List Bool} (h : SqL K H p (bs.map V.bl)) (q : Q (.bl (bs.any id)) H) : rAny K [.ref p] H Q := ⟨p, bs, rfl, h, q⟩
theorem w_all {bs : List Bool} (h : SqL K H p (bs.map V.bl)) (q : Q (.bl (bs.all id)) H) : rAll K [.ref p] H Q := ⟨p, bs, rfl, h, q⟩
theorem w_listS (h : Sq K H p xs) (q : ∀ l H', New H H' l (.lst xs) → Q (.ref l) H') : rListS K [.ref p] H Q := ⟨p, xs, rfl, h, q⟩
theorem w_tupleS (h : SqL K H p xs) (q : ∀ l H', New H H' l (.tup xs) → Q (.ref l) H') : rTupS K [.ref p] H Q := ⟨p, xs, rfl, h, q⟩
theorem w_fld {C dx : Addr} {fs : List (Str × V)} {f : Str} (h : te σ H fun x H1 => ∃ a C dx fs v, x = .ref a ∧ H1 a = some (.ins C dx fs) ∧ Cls K C ∧ NoAttr K C f ∧ fs.lookup f = some v ∧ Q v H1) : tFld K te f σ H Q := h
theorem w_app (h : H a = some (.lst xs)) (l : xs.length ≤ 100000) (q : ∀ H', Chg H H' a (.lst (xs ++ [v])) → Q .non H') : rAppS (.ref a) [v] H Q :=
  ⟨a, xs, v, rfl, rfl, h, Nat.lt_of_le_of_lt l (by rw [sizeLine_eq]; decide), q⟩
theorem w_bmL {r : V → List V → Hp → VK → Prop} {to : TE} (h : to σ H fun x H1 => tyV K "list" x H1 ∧ t σ H1 fun xs H2 => r x xs H2 Q) : tBM K "list" r to t σ H Q := h
theorem w_tyL {P : Prop} (h : H a = some (.lst xs)) (q : P) : tyV K "list" (.ref a) H ∧ P := ⟨Or.inl ⟨rfl, _, Or.inl (Or.inl h)⟩, q⟩
theorem w_gSub {to ti : TE} {ts : TSet} {QS : L2.St → Hp → Prop} (h : to σ H fun o H1 => ti σ H1 fun i H2 => ts o i v H2 fun H3 => QS σ H3) : gSub to ti ts v σ H QS := h
theorem w_setS {j : Nat} {QH : Hp → Prop} (h : H a = some (.lst xs)) (hj : j < xs.length) (q : ∀ H', Chg H H' a (.lst (xs.set j v)) → QH H') : rSetS (.ref a) (.int (j : Int)) v H QH :=
  ⟨a, xs, (j : Int), j, rfl, rfl, h, by unfold ixN; rw [if_pos (by omega), if_pos (by omega)]; simp, q⟩
/-! ### what stands as it stood -/
theorem g_same (s : Same H H') (h : H a = some o) : H' a = some o := s a o h
theorem g_new {q : Addr} {u : HO} (n : New H H' q u) (h : H a = some o) : H' a = some o := n.1 a o h
theorem g_at (n : New H H' a o) : H' a = some o := n.2.2
theorem g_chg {q : Addr} {u : HO} (c : Chg H H' q u) (n : a ≠ q) (h : H a = some o) : H' a = some o := c.1 a o n h
theorem g_cat (c : Chg H H' a o) : H' a = some o := c.2
theorem q_same (s : Same H H') (h : Sq K H a xs) : Sq K H' a xs := h.same s
theorem q_new {q : Addr} {u : HO} (n : New H H' q u) (h : Sq K H a xs) : Sq K H' a xs := h.same n.1
theorem q_l (h : H a = some (.lst xs)) : Sq K H a xs := sq_l h
theorem q_t (h : H a = some (.tup xs)) : Sq K H a xs := sq_t h
end
end Cw
end

/-! text CwExc -/
section
set_option Elab.async false
set_option linter.all false
set_option maxRecDepth 100000
set_option maxHeartbeats 4000000
namespace Cw
open PySem PySem.Spec PyProof.Rows L2
/-! Own errors over own errors: their classes' facts, raised, let through, taken by a first clause. -/
def oexB (K : PySem.W.Frag) (C : Addr) : Bool := (match K.lookup C with
  | some ⟨.type "type", _, .cls cd, sl⟩ => (match cd.mro, sl.toList with
    | .ref C' :: bm, [_, _, _, _, some (.builtin n), _] => C' == C && (n == "ValueError.__new__" && (!cd.hasDel && (cd.hasDict && PySem.HandSPX.refsVE bm)))
    | _, _ => false)
  | _ => false) && (decide (PySem.W.findIn K (.ref C) "__setattr__" = some (some (.builtin "object.__setattr__"))) &&
  (decide (PySem.W.subIn K (.ref C) (.type "BaseException") = some true) && (decide (PySem.W.typeIn K (.ref C) = some (.type "type")) && PySem.W.keepIn K (.ref C))))
theorem oexB_ok {K : PySem.W.Frag} {C : Addr} (h : oexB K C = true) : OexC K C := by
  obtain ⟨h1, h⟩ := Bool.and_eq_true_iff.mp h
  obtain ⟨h2, h⟩ := Bool.and_eq_true_iff.mp h
  obtain ⟨h3, h⟩ := Bool.and_eq_true_iff.mp h
  obtain ⟨h4, h5⟩ := Bool.and_eq_true_iff.mp h
  refine ⟨?_, of_decide_eq_true h2, of_decide_eq_true h3, of_decide_eq_true h4, h5⟩
  split at h1
  · rename_i dd cd sl ho
    split at h1
    · rename_i C' bm k0 k1 k2 k3 n k5 hm hs
      simp only [Bool.and_eq_true, beq_iff_eq, Bool.not_eq_true'] at h1
      obtain ⟨rfl, rfl, hdel, hd, hr⟩ := h1
      obtain ⟨nm, bs, mro, ns, qn, hdd, sn, sub, ab, col, del⟩ := cd
      dsimp only at hm hdel hd
      subst hm hdel hd
      have hsl : sl = #[k0, k1, k2, k3, some (.builtin "ValueError.__new__"), k5] := by
        obtain ⟨l⟩ := sl
        simp only at hs
        rw [hs]
      subst hsl
      exact ⟨nm, qn, ns, bs, bm, sn, sub, ab, col, dd, k0, k1, k2, k3, k5, ho, hr⟩
    · cases h1
  · cases h1
section
variable {X : Cx} {CT : CXT} {k : Nat} {x : Str} {st : Stmt} {ps ks : List Str} {sp : Sp} {E : L2.St → XK} {p pos : Pos} {e : Expr} {es : List Expr} {t : TA} {kws : List Keyword} {tk : TA}
def tCallWS (n : Nat) (sp : Sp) (g : List V → List V) (E : L2.St → XK) (tk : TA) : TE := fun σ H Q => tk σ H fun zs H2 => zs.length = n ∧ sp (g zs) H2 Q (E σ)
theorem pe_cDS (d : Dn X.prog X.w X.K X.mg X.base CT k x st ps sp) (hb : BindsT x st ps) (hr : Room k X.A) (hg : Gl X x) (hx : ∀ σ, PassesAt CT X σ (E σ))
    (ha : PA X (e :: es) t) (hdb : (x == ("__debug__" : Str)) = false := by decide) (he : starEach (e :: es) X.env = (false, eval e X.env) :: starEach es X.env := by rfl) (hpl : (backTo pos (starEach es X.env)).any (·.1) = false := by rfl) :
    PE X (.Call (.Name x p) (e :: es) [] pos) (tCallS sp E t) := by
  obtain ⟨f, fd, F, g, G⟩ := d
  exact pe_callS G hr hg g F.kp (F.bindsN hb) hx ha hdb he hpl
theorem pe_cKS (g : {α : Type} → List α → List α) (d : Dn X.prog X.w X.K X.mg X.base CT k x st ps sp) (hb : BindsK x st ps ks g) (hg' : ∀ {zs : List V} {ws : List Value}, Vals zs ws → Vals (g zs) (g ws))
    (hr : Room k X.A) (hg : Gl X x) (hx : ∀ σ, PassesAt CT X σ (E σ)) (hkw : PK X kws tk)
    (hall : (backToKw pos (keywordEach kws X.env)).all (·.1.isSome) = true := by rfl) (hks : (backToKw pos (keywordEach kws X.env)).filterMap (·.1) = ks := by rfl) (hdb : (x == ("__debug__" : Str)) = false := by decide)
    (hpl : ((backTo pos (starEach [] X.env)).any (·.1) || (backToKw pos (keywordEach kws X.env)).any (·.1.isNone)) = false := by rfl) :
    PE X (.Call (.Name x p) [] kws pos) (tCallWS ks.length sp g E tk) := by
  obtain ⟨f, fd, F, gm, G⟩ := d
  have hbn : ∀ (s : Shared) (ws : List Value), ws.length = ks.length → BindsTo s fd ⟨[], ks.zip ws⟩ (ps.zip (g ws)) := by
    obtain ⟨oc, od, dV, kV, doc, pm, an, cdv, ct, osl, rfl, lk, hcd, hD, hK⟩ := F.ex
    rcases hD with ⟨_, rfl⟩ | ⟨e, _⟩
    · exact fun s ws l2 => .of_eq (hb kV doc pm an cdv ct ws l2)
    · exact absurd rfl e
  refine ⟨fun pins s σ H Q I h => ?_⟩
  refine wpAny_Call_Name_kw (ld_glob I hg gm ?_ hdb)
  refine PySem.W.callWith_KW0 (h₀ := X.base) I.ok.mod.kin F.kp hall ?_ hpl
  refine thn (hkw.run pos pins s σ H _ I h) fun ws s2 ⟨zs, H2, I2, rz, l2, q2⟩ => ⟨I2.kIn, ?_⟩
  rw [hks]
  refine wpAny_call (codeAny_mono (G.run X.A X.stack s2 H2 ⟨[], ks.zip ws⟩ (g ws) (g zs) Q (E σ) hr I2.env0 (hbn s2 ws (rz.length.symm.trans l2)) (hg' rz) q2) fun r s' hq => ?_)
  cases r with
  | error e => exact hx σ pins H2 s2 e s' I2 hq
  | ok fl =>
    cases fl with
    | ret u => exact I2.after hq
    | next => exact False.elim hq
    | brk => exact False.elim hq
    | cont => exact False.elim hq
end
/-- what 'except x as n', the first clause, wishes of an exception of the body, which it takes -/
def wFst (K : PySem.W.Frag) (c : Value) (i : Nat) (ts : Addr → Value → Option Addr → TS) (D : Ends) : WX := fun cls d σ H =>
  PySem.W.exmOne K cls c = some true ∧ ∀ a, H a = none → ts a cls d { nx := fun σ' H' => D.nx (σ'.set i none) H', rt := D.rt, bk := fun σ' H' => D.bk (σ'.set i none) H', ct := fun σ' H' => D.ct (σ'.set i none) H' } (σ.set i (some (.ref a))) H
section
variable {X : Cx} {x n : Str} {c : Value} {i : Nat} {body suite : List Stmt} {b₀ : Stmt} {np pos pos' : Pos} {tb : WX → TS} {ts : Addr → Value → Option Addr → TS} {rest : List ExceptHandler}
theorem ps_try_fst (hs : X.stack = X.env :: X.outer) (hf : X.env.frame = some X.env.locals) (hN : X.N.Nodup) (hi : X.N[i]? = some n) (hln : X.env.kindOf n = some .local) (hc : Names X x c)
    (hb : ∀ (W : WX) (pn : List (Addr × Obj)) (xe : Value → Shared → Prop), Takes (X.tr pn xe) W → PassesOwn (model X.prog X.w) X.A X.env xe → PSs (X.tr pn xe) body (tb W))
    (hsu : ∀ (a : Addr) (oe : Obj) (cls : Value) (d : Option Addr) (pn : List (Addr × Obj)), Zc cls d oe → (∃ vs, oe.data = .fields vs) → PSs (X.suite a ((a, oe) :: pn)) (b₀ :: suite) (ts a cls d)) :
    PS X (.Try body (.ExceptHandler (some (.Name x np)) (some n) (b₀ :: suite) pos' :: rest) [] [] pos) (fun D σ H => tb (wFst X.K c i ts D) D σ H) := by
  refine ⟨fun pins s σ H D I h => ?_⟩
  have ok := I.ok
  have hfr : X.A.frames = some (X.env :: X.outer) := by rw [ok.frames, hs]
  have hloc : Loc X.env.scope n := .inl hln
  refine wpAny_Try_except ?_
  refine wpAny_mono ((hb (wFst X.K c i ts D) (X.pn ++ pins) (fun e s₁ => wpAny (model X.prog X.w) X.A (noteFrame e X.env) (fun _ s₂ => wpAny (model X.prog X.w) X.A (setFlight e none) (fun _ s₃ =>
    wpAny (model X.prog X.w) X.A (handleBy e X.env (.ExceptHandler (some (.Name x np)) (some n) (b₀ :: suite) pos' :: rest)) (SP X pins D) X.xe s₃) X.xe s₂) X.xe s₁) (fun u s' xx => ?_) PassesOwn.looking).run [] s σ H D (I.toTry _) h) (fun f s1 hsp => ?_) (fun e s1 he => he)
  · obtain ⟨a, B, sI, pins', σ', H', cls, d, rfl, J', nb, up, sky, na, os, ag, hb1, hyes⟩ := xx
    have J : Inv X pins σ' H' sI := J'.ofTry ok
    have sky' : Sky B (X.env :: X.outer) a (Zc cls d) X.env.locals s'.heap := by rw [← hs]; exact sky
    show wpAny (model X.prog X.w) X.A (noteFrame (.ref a) X.env) _ _ _
    refine Sky.land Zc.steady hfr hf sky' fun h3 fl3 up3 => ?_
    have J3 : Inv X pins σ' H' { s' with heap := h3 } := J.landed nb fl3.1 (up.trans up3) os ag
    obtain ⟨oe3, vs3, he3, hz3, hd3⟩ := fl3.there
    have notFr : ∀ {h : Heap} {o : Obj} {vs : Array Value}, h.FunFrames B (X.env :: X.outer) → h.get? a = some o → o.data = .fields vs → a ∉ frs (X.env :: X.outer) := fun {h o vs} ff e dd hm => by
      obtain ⟨_, o', e', hnf⟩ := ff.mem hm
      rw [e] at e'; cases e'
      exact hnf _ dd
    have nfr := notFr fl3.2.2.1 he3 hd3
    have nL : a ≠ X.env.locals := fun z => nfr (List.mem_filterMap.mpr ⟨X.env, List.mem_cons_self, by rw [hf, z]⟩)
    have nF : a ∉ X.fs := fun hm => by
      obtain ⟨e, he, q⟩ := List.mem_filterMap.mp hm
      exact nfr (List.mem_filterMap.mpr ⟨e, List.mem_cons_of_mem _ he, q⟩)
    have S3 := J3.suite he3 hd3 na nL nF
    refine wpAny_handleBy_cons (codeAny_handlers_test ?_) (by intro q; cases q)
    have LT : PySem.W.Looks (model X.prog X.w) h3 (typeOf (.ref a)) cls := fun A Q E s k q => wpAny_typeOf_ref (k _ _ he3) (by rw [hz3.1]; exact q)
    have LM := PySem.W.exm_one (M := model X.prog X.w) (J3.kIn) LT hb1
    have test : ∀ {Q : Value → Shared → Prop} {E : Value → Shared → Prop}, Q c { s' with heap := h3 } → wpAny (model X.prog X.w) (X.A.mark (some (.ref a))) (eval (.Name x np) X.env) Q E { s' with heap := h3 } := fun {Q E} q => by
      obtain ⟨hg, hdbg, hm | ⟨hm, hv, hnn⟩⟩ := hc
      · exact ld_glob (X := X.suite a ((a, oe3) :: (X.pn ++ pins))) S3 hg hm q hdbg
      · exact ld_blt (X := X.suite a ((a, oe3) :: (X.pn ++ pins))) S3 hg hm hv q hnn hdbg
    refine test (LM.here ?_)
    refine codeAny_handlers_suite_as ?_
    refine HandSPX.lands_againZ fl3 fun h4 fl4 up4 => ?_
    have J4 : Inv X pins σ' H' { s' with heap := h4 } := J.landed nb fl4.1 ((up.trans up3).trans up4) os ag
    obtain ⟨oe4, vs4, he4, hz4, hd4⟩ := fl4.there
    have S4 := J4.suite he4 hd4 na nL nF
    refine store_ok (X := X.suite a ((a, oe4) :: (X.pn ++ pins))) (v := .ref a) S4 hN hi hloc rfl (fun s5 S5 => ?_) (.inr hln)
    refine wpAny_mono ((hsu a oe4 cls d (X.pn ++ pins) hz4 ⟨_, hd4⟩).run [] s5 _ H' _ S5 (hyes a na)) (fun f s6 hsp => ?_) (fun _ _ z => False.elim z)
    have end_ : ∀ {σ6 : L2.St} {H6 : Hp} {Q : Shared → Prop}, Inv (X.suite a ((a, oe4) :: (X.pn ++ pins))) [] σ6 H6 s6 → (∀ s7, Inv X pins (σ6.set i none) H6 s7 → Q s7) →
        wpAny (model X.prog X.w) X.A (do bindName X.env n .none; unbindBehindTheSuite X.env n pos') (fun _ s7 => Q s7) X.xe s6 := fun {σ6 H6 Q} S6 hq => gone_ok (S6.unsuite ok) hN hi hln hq
    cases f with
    | next =>
      obtain ⟨σ6, H6, S6, q6⟩ := hsp
      exact end_ S6 fun s7 J7 => ⟨_, _, J7, q6⟩
    | brk =>
      obtain ⟨σ6, H6, S6, q6⟩ := hsp
      exact end_ S6 fun s7 J7 => ⟨_, _, J7, q6⟩
    | cont =>
      obtain ⟨σ6, H6, S6, q6⟩ := hsp
      exact end_ S6 fun s7 J7 => ⟨_, _, J7, q6⟩
    | ret u =>
      obtain ⟨v6, σ6, H6, S6, r6, q6⟩ := hsp
      exact end_ S6 fun s7 J7 => ⟨_, _, _, J7, r6, q6⟩
  · cases f with
    | next =>
      obtain ⟨σ', H', J', q⟩ := hsp
      exact wpAny_execs_nil ⟨σ', H', J'.ofTry ok, q⟩
    | brk =>
      obtain ⟨σ', H', J', q⟩ := hsp
      exact ⟨σ', H', J'.ofTry ok, q⟩
    | cont =>
      obtain ⟨σ', H', J', q⟩ := hsp
      exact ⟨σ', H', J'.ofTry ok, q⟩
    | ret u =>
      obtain ⟨v, σ', H', J', r, q⟩ := hsp
      exact ⟨v, σ', H', J'.ofTry ok, r, q⟩
end
end Cw
end

/-! text CwHook -/
section
set_option Elab.async false
set_option linter.all false
set_option maxRecDepth 100000
set_option maxHeartbeats 2000000
namespace Cw
open PySem PySem.Spec PyProof.Rows L2
/-! A hook of our own: the facts of HeadHook2 and one Bool more, over a part of the heap that holds the statics, too. -/
abbrev AlC : Type := He.AlD × Bool
def frC (g : Addr → Option Obj) (n : Nat) : PySem.W.Frag := He.frG g (He.asD g n ++ [cStatics])
def obsC (n : Nat) (fa : List He.Fa) (fn : List He.DefD) (ex : PySem.W.Frag → Bool) (g : Addr → Option Obj) : AlC := (He.obsD fa fn (frC g n), ex (frC g n))
def valC (fn : List He.DefD) : AlC := (He.valD fn, true)
structure SaysC (fa : List He.Fa) (fn : List He.DefD) (ex : PySem.W.Frag → Bool) (K : PySem.W.Frag) : Prop where
  d : He.SaysD fa fn K
  more : ex K = true
def hookC (n : Nat) (fa : List He.Fa) (fn : List He.DefD) (ex : PySem.W.Frag → Bool) : PySem.W.Hook where
  α := AlC
  obs := fun s => obsC n fa fn ex s.heap.get?
  val := fun _ => valC fn
  says := fun _ h => ∃ K : PySem.W.Frag, K.In h ∧ SaysC fa fn ex K
  of := fun _ _ e => ⟨_, He.frG_in, ⟨congrArg (fun z : AlC => z.1) e, congrArg (fun z : AlC => z.2) e⟩⟩
  keeps := fun _ _ _ ⟨K, hK, c⟩ k => ⟨K, PySem.W.Frag.In.keeps hK k, c⟩
theorem obsC_eq {n : Nat} {fa : List He.Fa} {fn : List He.DefD} {ex : PySem.W.Frag → Bool} {g : Addr → Option Obj} {s : Shared} (h : ∀ a, g a = s.heap.get? a) : obsC n fa fn ex g = (hookC n fa fn ex).obs s := by
  have e : g = s.heap.get? := funext h
  rw [e] <;> rfl
end Cw
end

/-! text C93HeadX -/
section
set_option Elab.async false
set_option linter.all false
set_option maxRecDepth 100000
set_option maxHeartbeats 0
namespace C93
open PySem PySem.Spec PyProof.Rows L2 Cw
def top (i : Nat) : Stmt := PySem.Challenge.pw_crownwork_k93_whole_improving_swaps_end.main.body.getD i (.Pass ⟨0, 0, 0, 0⟩)

abbrev s0 : Stmt := inClass (top 2) 0
def d0 : He.DefD := ⟨("InvalidCovers", some "__init__"), "__init__", "InvalidCovers.__init__", defArgs s0, defBody s0, defScope s0, [], []⟩
abbrev s1 : Stmt := inClass (top 3) 0
def d1 : He.DefD := ⟨("InvalidInspections", some "__init__"), "__init__", "InvalidInspections.__init__", defArgs s1, defBody s1, defScope s1, [], []⟩
abbrev s2 : Stmt := inClass (top 4) 0
def d2 : He.DefD := ⟨("InvalidOrder", some "__init__"), "__init__", "InvalidOrder.__init__", defArgs s2, defBody s2, defScope s2, [], []⟩
abbrev s3 : Stmt := inClass (top 5) 0
def d3 : He.DefD := ⟨("InvalidSwap", some "__init__"), "__init__", "InvalidSwap.__init__", defArgs s3, defBody s3, defScope s3, [], []⟩
abbrev s4 : Stmt := top 7
def d4 : He.DefD := ⟨("is_integer", none), "is_integer", "is_integer", defArgs s4, defBody s4, defScope s4, [], []⟩
abbrev s5 : Stmt := top 8
def d5 : He.DefD := ⟨("is_positive", none), "is_positive", "is_positive", defArgs s5, defBody s5, defScope s5, [], []⟩
abbrev s6 : Stmt := top 9
def d6 : He.DefD := ⟨("is_index", none), "is_index", "is_index", defArgs s6, defBody s6, defScope s6, [], []⟩
abbrev s7 : Stmt := top 10
def d7 : He.DefD := ⟨("is_list", none), "is_list", "is_list", defArgs s7, defBody s7, defScope s7, [], []⟩
abbrev s8 : Stmt := top 11
def d8 : He.DefD := ⟨("is_tuple", none), "is_tuple", "is_tuple", defArgs s8, defBody s8, defScope s8, [], []⟩
abbrev s9 : Stmt := top 13
def d9 : He.DefD := ⟨("is_inspection", none), "is_inspection", "is_inspection", defArgs s9, defBody s9, defScope s9, [], []⟩
abbrev s10 : Stmt := top 14
def d10 : He.DefD := ⟨("above_by", none), "above_by", "above_by", defArgs s10, defBody s10, defScope s10, [], []⟩
abbrev s11 : Stmt := inClass (top 15) 0
def d11 : He.DefD := ⟨("Search", some "__init__"), "__init__", "Search.__init__", defArgs s11, defBody s11, defScope s11, [], []⟩
abbrev s12 : Stmt := inClass (top 15) 1
def d12 : He.DefD := ⟨("Search", some "__eq__"), "__eq__", "Search.__eq__", defArgs s12, defBody s12, defScope s12, [], []⟩
abbrev s13 : Stmt := inClass (top 15) 2
def d13 : He.DefD := ⟨("Search", some "__len__"), "__len__", "Search.__len__", defArgs s13, defBody s13, defScope s13, [], []⟩
abbrev s14 : Stmt := inClass (top 15) 3
def d14 : He.DefD := ⟨("Search", some "__contains__"), "__contains__", "Search.__contains__", defArgs s14, defBody s14, defScope s14, [], []⟩
abbrev s15 : Stmt := top 16
def d15 : He.DefD := ⟨("is_beginning", none), "is_beginning", "is_beginning", defArgs s15, defBody s15, defScope s15, [], []⟩
abbrev s16 : Stmt := top 17
def d16 : He.DefD := ⟨("is_order", none), "is_order", "is_order", defArgs s16, defBody s16, defScope s16, [], []⟩
abbrev s17 : Stmt := top 18
def d17 : He.DefD := ⟨("check_order", none), "check_order", "check_order", defArgs s17, defBody s17, defScope s17, [], []⟩
abbrev s18 : Stmt := top 19
def d18 : He.DefD := ⟨("cost_by", none), "cost_by", "cost_by", defArgs s18, defBody s18, defScope s18, [], []⟩
abbrev s19 : Stmt := top 20
def d19 : He.DefD := ⟨("cost_of", none), "cost_of", "cost_of", defArgs s19, defBody s19, defScope s19, [], []⟩
abbrev s20 : Stmt := top 22
def d20 : He.DefD := ⟨("totals_of", none), "totals_of", "totals_of", defArgs s20, defBody s20, defScope s20, [], []⟩
abbrev s21 : Stmt := top 23
def d21 : He.DefD := ⟨("are_free", none), "are_free", "are_free", defArgs s21, defBody s21, defScope s21, [], []⟩
abbrev s22 : Stmt := top 24
def d22 : He.DefD := ⟨("swaps_in", none), "swaps_in", "swaps_in", defArgs s22, defBody s22, defScope s22, [], []⟩
abbrev s23 : Stmt := top 25
def d23 : He.DefD := ⟨("check_swap", none), "check_swap", "check_swap", defArgs s23, defBody s23, defScope s23, [], []⟩
abbrev s24 : Stmt := top 26
def d24 : He.DefD := ⟨("swapped", none), "swapped", "swapped", defArgs s24, defBody s24, defScope s24, [], []⟩
abbrev s25 : Stmt := top 27
def d25 : He.DefD := ⟨("gain_of", none), "gain_of", "gain_of", defArgs s25, defBody s25, defScope s25, [], []⟩
abbrev s26 : Stmt := top 28
def d26 : He.DefD := ⟨("swap_gain", none), "swap_gain", "swap_gain", defArgs s26, defBody s26, defScope s26, [], []⟩
abbrev s27 : Stmt := top 29
def d27 : He.DefD := ⟨("places_above", none), "places_above", "places_above", defArgs s27, defBody s27, defScope s27, [], []⟩
abbrev s28 : Stmt := top 30
def d28 : He.DefD := ⟨("better_end", none), "better_end", "better_end", defArgs s28, defBody s28, defScope s28, [], []⟩
abbrev s29 : Stmt := top 31
def d29 : He.DefD := ⟨("better_swap", none), "better_swap", "better_swap", defArgs s29, defBody s29, defScope s29, [], []⟩
abbrev s30 : Stmt := top 32
def d30 : He.DefD := ⟨("is_least_order", none), "is_least_order", "is_least_order", defArgs s30, defBody s30, defScope s30, [], []⟩
abbrev s31 : Stmt := top 33
def d31 : He.DefD := ⟨("improving_swap", none), "improving_swap", "improving_swap", defArgs s31, defBody s31, defScope s31, [], []⟩
abbrev s32 : Stmt := top 34
def d32 : He.DefD := ⟨("is_improving_swap", none), "is_improving_swap", "is_improving_swap", defArgs s32, defBody s32, defScope s32, [], []⟩
abbrev s33 : Stmt := top 36
def d33 : He.DefD := ⟨("is_row", none), "is_row", "is_row", defArgs s33, defBody s33, defScope s33, [], []⟩
abbrev s34 : Stmt := top 37
def d34 : He.DefD := ⟨("are_rows", none), "are_rows", "are_rows", defArgs s34, defBody s34, defScope s34, [], []⟩
abbrev s35 : Stmt := top 38
def d35 : He.DefD := ⟨("paths_by", none), "paths_by", "paths_by", defArgs s35, defBody s35, defScope s35, [], []⟩
abbrev s36 : Stmt := inClass (top 39) 0
def d36 : He.DefD := ⟨("Covers", some "__init__"), "__init__", "Covers.__init__", defArgs s36, defBody s36, defScope s36, [], []⟩
abbrev s37 : Stmt := inClass (top 39) 1
def d37 : He.DefD := ⟨("Covers", some "__eq__"), "__eq__", "Covers.__eq__", defArgs s37, defBody s37, defScope s37, [], []⟩
abbrev s38 : Stmt := inClass (top 39) 2
def d38 : He.DefD := ⟨("Covers", some "__len__"), "__len__", "Covers.__len__", defArgs s38, defBody s38, defScope s38, [], []⟩
abbrev s39 : Stmt := inClass (top 39) 3
def d39 : He.DefD := ⟨("Covers", some "__contains__"), "__contains__", "Covers.__contains__", defArgs s39, defBody s39, defScope s39, [], []⟩
abbrev s40 : Stmt := top 41
def d40 : He.DefD := ⟨("_law_cell", none), "_law_cell", "_law_cell", defArgs s40, defBody s40, defScope s40, [], []⟩
abbrev s41 : Stmt := top 42
def d41 : He.DefD := ⟨("_law_box", none), "_law_box", "_law_box", defArgs s41, defBody s41, defScope s41, [], []⟩
abbrev s42 : Stmt := top 43
def d42 : He.DefD := ⟨("_law_take", none), "_law_take", "_law_take", defArgs s42, defBody s42, defScope s42, [], []⟩
abbrev s43 : Stmt := top 44
def d43 : He.DefD := ⟨("_law_drawn", none), "_law_drawn", "_law_drawn", defArgs s43, defBody s43, defScope s43, [], []⟩
abbrev s44 : Stmt := top 45
def d44 : He.DefD := ⟨("_law_order", none), "_law_order", "_law_order", defArgs s44, defBody s44, defScope s44, [], []⟩
abbrev s45 : Stmt := top 46
def d45 : He.DefD := ⟨("_law_small", none), "_law_small", "_law_small", defArgs s45, defBody s45, defScope s45, [], []⟩
abbrev s46 : Stmt := top 47
def d46 : He.DefD := ⟨("_law_cost", none), "_law_cost", "_law_cost", defArgs s46, defBody s46, defScope s46, [], []⟩
abbrev s47 : Stmt := top 48
def d47 : He.DefD := ⟨("_law_least", none), "_law_least", "_law_least", defArgs s47, defBody s47, defScope s47, [], []⟩
abbrev s48 : Stmt := top 49
def d48 : He.DefD := ⟨("_law_merged", none), "_law_merged", "_law_merged", defArgs s48, defBody s48, defScope s48, [], []⟩
abbrev s49 : Stmt := top 50
def d49 : He.DefD := ⟨("_law_is_swap", none), "_law_is_swap", "_law_is_swap", defArgs s49, defBody s49, defScope s49, [], []⟩
abbrev s50 : Stmt := top 51
def d50 : He.DefD := ⟨("_law_after", none), "_law_after", "_law_after", defArgs s50, defBody s50, defScope s50, [], []⟩
abbrev s51 : Stmt := top 52
def d51 : He.DefD := ⟨("_law_asked", none), "_law_asked", "_law_asked", defArgs s51, defBody s51, defScope s51, [], []⟩
abbrev s52 : Stmt := top 53
def d52 : He.DefD := ⟨("_law_yes", none), "_law_yes", "_law_yes", defArgs s52, defBody s52, defScope s52, [], []⟩
abbrev s53 : Stmt := top 54
def d53 : He.DefD := ⟨("_law_number", none), "_law_number", "_law_number", defArgs s53, defBody s53, defScope s53, [], []⟩
abbrev s54 : Stmt := top 55
def d54 : He.DefD := ⟨("_law_step", none), "_law_step", "_law_step", defArgs s54, defBody s54, defScope s54, [], []⟩
abbrev s55 : Stmt := top 56
def d55 : He.DefD := ⟨("_law_descent_right", none), "_law_descent_right", "_law_descent_right", defArgs s55, defBody s55, defScope s55, [], []⟩
abbrev s56 : Stmt := top 57
def d56 : He.DefD := ⟨("_law_span", none), "_law_span", "_law_span", defArgs s56, defBody s56, defScope s56, [], []⟩
abbrev s57 : Stmt := top 58
def d57 : He.DefD := ⟨("_law_odd_right", none), "_law_odd_right", "_law_odd_right", defArgs s57, defBody s57, defScope s57, [], []⟩
abbrev s58 : Stmt := top 59
def d58 : He.DefD := ⟨("_law_search", none), "_law_search", "_law_search", defArgs s58, defBody s58, defScope s58, [], []⟩
abbrev s59 : Stmt := top 60
def d59 : He.DefD := ⟨("_law_great_right", none), "_law_great_right", "_law_great_right", defArgs s59, defBody s59, defScope s59, [], []⟩
abbrev s60 : Stmt := top 61
def d60 : He.DefD := ⟨("_law_cell_right", none), "_law_cell_right", "_law_cell_right", defArgs s60, defBody s60, defScope s60, [], []⟩
abbrev s61 : Stmt := top 62
def d61 : He.DefD := ⟨("law", none), "law", "law", defArgs s61, defBody s61, defScope s61, [], []⟩
def fn : List He.DefD := [d0, d1, d2, d3, d4, d5, d6, d7, d8, d9, d10, d11, d12, d13, d14, d15, d16, d17, d18, d19, d20, d21, d22, d23, d24, d25, d26, d27, d28, d29, d30, d31, d32, d33, d34, d35, d36, d37, d38, d39, d40, d41, d42, d43, d44, d45, d46, d47, d48, d49, d50, d51, d52, d53, d54, d55, d56, d57, d58, d59, d60, d61]
def fa : List He.Fa := [.glo "CrownError", .glo "InvalidCovers", .glo "InvalidInspections", .glo "InvalidOrder", .glo "InvalidSwap", .glo "is_integer", .glo "is_positive", .glo "is_index", .glo "is_list", .glo "is_tuple", .glo "is_inspection", .glo "above_by", .glo "Search", .glo "is_beginning", .glo "is_order", .glo "check_order", .glo "cost_by", .glo "cost_of", .glo "totals_of", .glo "are_free", .glo "swaps_in", .glo "check_swap", .glo "swapped", .glo "gain_of", .glo "swap_gain", .glo "places_above", .glo "better_end", .glo "better_swap", .glo "is_least_order", .glo "improving_swap", .glo "is_improving_swap", .glo "is_row", .glo "are_rows", .glo "paths_by", .glo "Covers", .glo "_law_cell", .glo "_law_box", .glo "_law_take", .glo "_law_drawn", .glo "_law_order", .glo "_law_small", .glo "_law_cost", .glo "_law_least", .glo "_law_merged", .glo "_law_is_swap", .glo "_law_after", .glo "_law_asked", .glo "_law_yes", .glo "_law_number", .glo "_law_step", .glo "_law_descent_right", .glo "_law_span", .glo "_law_odd_right", .glo "_law_search", .glo "_law_great_right", .glo "_law_cell_right", .glo "law", .free "len", .free "isinstance", .free "sum", .free "any", .free "all", .free "range", .free "list", .free "tuple", .free "int", .free "bool", .free "abs", .free "repr", .free "min", .free "max", .free "enumerate", .free "reversed", .free "ValueError", .cls "Search", .mkr "Search", .meth "Search" "__len__", .meth "Search" "__contains__", .meth "Search" "__eq__", .noat "Search" "rows", .cls "Covers", .mkr "Covers", .meth "Covers" "__len__", .meth "Covers" "__contains__", .meth "Covers" "__eq__", .noat "Covers" "rows", .noat "Search" "covers", .noat "Search" "inspections", .noat "Search" "above", .noat "Covers" "paths", .exc "CrownError"]
def loose : List PySem.Str := [("CrownError" : PySem.Str), ("InvalidCovers" : PySem.Str), ("InvalidInspections" : PySem.Str), ("InvalidOrder" : PySem.Str), ("InvalidSwap" : PySem.Str), ("is_integer" : PySem.Str), ("is_positive" : PySem.Str), ("is_index" : PySem.Str), ("is_list" : PySem.Str), ("is_tuple" : PySem.Str), ("is_inspection" : PySem.Str), ("above_by" : PySem.Str), ("Search" : PySem.Str), ("is_beginning" : PySem.Str), ("is_order" : PySem.Str), ("check_order" : PySem.Str), ("cost_by" : PySem.Str), ("cost_of" : PySem.Str), ("totals_of" : PySem.Str), ("are_free" : PySem.Str), ("swaps_in" : PySem.Str), ("check_swap" : PySem.Str), ("swapped" : PySem.Str), ("gain_of" : PySem.Str), ("swap_gain" : PySem.Str), ("places_above" : PySem.Str), ("better_end" : PySem.Str), ("better_swap" : PySem.Str), ("is_least_order" : PySem.Str), ("improving_swap" : PySem.Str), ("is_improving_swap" : PySem.Str), ("is_row" : PySem.Str), ("are_rows" : PySem.Str), ("paths_by" : PySem.Str), ("Covers" : PySem.Str), ("_law_cell" : PySem.Str), ("_law_box" : PySem.Str), ("_law_take" : PySem.Str), ("_law_drawn" : PySem.Str), ("_law_order" : PySem.Str), ("_law_small" : PySem.Str), ("_law_cost" : PySem.Str), ("_law_least" : PySem.Str), ("_law_merged" : PySem.Str), ("_law_is_swap" : PySem.Str), ("_law_after" : PySem.Str), ("_law_asked" : PySem.Str), ("_law_yes" : PySem.Str), ("_law_number" : PySem.Str), ("_law_step" : PySem.Str), ("_law_descent_right" : PySem.Str), ("_law_span" : PySem.Str), ("_law_odd_right" : PySem.Str), ("_law_search" : PySem.Str), ("_law_great_right" : PySem.Str), ("_law_cell_right" : PySem.Str)]
abbrev R : PySem.W.OpenRow := PySem.W.OpenLaw.row PySem.Challenge.rw_crownwork_k93_whole_improving_swaps_end
def ex (K : PySem.W.Frag) : Bool :=
  oexB K (He.ga K "InvalidSwap") && (xfB K (He.ga K "InvalidSwap") && (decide (PySem.W.findIn K (.ref (He.ga K "InvalidSwap")) "given" = some none) && (decide (PySem.W.findIn K (.ref (He.ga K "InvalidSwap")) "__init__" = some (some (.ref (He.ma K (He.ga K "InvalidSwap") "__init__")))) &&
  (decide (PySem.W.typeIn K (.ref (He.ma K (He.ga K "InvalidSwap") "__init__")) = some (.type "function")) && (baseB K (He.ga K "CrownError") && decide (PySem.W.exmOne K (.ref (He.ga K "InvalidSwap")) (.ref (He.ga K "InvalidSwap")) = some true))))))
abbrev hk : PySem.W.Hook := hookC 4 fa fn ex
def ob (s : PySem.W.SharedT) : AlC := obsC 4 fa fn ex (HandSHeadRun.getT s)
theorem ob_eq (s : PySem.W.SharedT) : ob s = hk.obs s.abs := obsC_eq (HandSHeadRun.getT_eq s)
theorem run (w : World) : HandSHeadRun.RunEq R (PySem.W.view R.prog [62]) hk ob 6000 loose w := by
  intro os
  kernel_rfl
end C93
end

/-! text CwLay5 -/
section
set_option Elab.async false
set_option linter.all false
set_option maxRecDepth 100000
set_option maxHeartbeats 4000000
namespace Cw
open PySem PySem.Spec PyProof.Rows L2
/-! Comprehensions over given lists and ranges; two clauses; enumerate. -/
/-- a list of new objects, one for each of l -/
def Obs {α : Type} (H : Hp) (out : List V) (l : List α) (o : α → HO) : Prop := out.length = l.length ∧ ∀ (k : Nat) (x : α), l[k]? = some x → ∃ a : Addr, (out[k]? : Option V) = some (V.ref a) ∧ H a = some (o x)
theorem take_atG {α : Type} {l : List α} {i : Nat} {x : α} (h : l[i]? = some x) : l.take (i + 1) = l.take i ++ [x] := by
  rw [List.take_add_one, h]; rfl
theorem map_atG {α β : Type} {l : List α} {vv : α → β} {i : Nat} {v : β} (h : (l.map vv)[i]? = some v) : ∃ x, l[i]? = some x ∧ v = vv x := by
  rw [List.getElem?_map] at h
  cases e : l[i]? with
  | none => rw [e] at h; cases h
  | some x => rw [e] at h; exact ⟨x, rfl, (Option.some.inj h).symm⟩
section
variable {K : PySem.W.Frag} {σ : L2.St} {H : Hp} {g g1 : TG} {tt tt1 : TT} {te tl : TE} {wi wi1 : TI} {a : Addr} {xs : List V} {vs vs1 : List Nat} {Q : VK} {α β : Type}
theorem small_len {n : Nat} (h : n ≤ 1000000) : n < sizeLine := Nat.lt_of_le_of_lt h (by rw [sizeLine_eq]; decide)
/-- [te for g in a if tt], values -/
theorem seq_map (l : List α) (vv : α → V) (kp : α → Bool) (f : α → V) (hl : l.length ≤ 1000000) (h : Sq K H a (l.map vv))
    (hs : ∀ (x : α) (H' : Hp) (Pe : V → Hp → Prop) (Pn : Hp → Prop), x ∈ l → Same H H' → (kp x = true → ∀ H4, Same H' H4 → Pe (f x) H4) → (kp x = false → ∀ H4, Same H' H4 → Pn H4) →
      g (vv x) (wipe σ vs) H' fun σ2 H2 => wipe σ2 vs = wipe σ vs ∧ tt σ2 H2 fun b H3 => if b = true then te σ2 H3 Pe else Pn H3)
    (hd : ∀ D H', New H H' D (.lst ((l.filter kp).map f)) → Q (.ref D) H') :
    (∃ a', V.ref a = .ref a' ∧ (∃ xs, SqL K H a' xs) ∧ LR g tt te vs σ Q (Itl K a') H) ∨ ∃ a', V.ref a = .ref a' ∧ (∃ xs, SqT K H a' xs) ∧ LR g tt te vs σ Q (Itt K a') H := by
  refine seq_lc h (fun D i H' => New H H' D (.lst (((l.take i).filter kp).map f))) (fun D H' n => by simpa using n) (fun D i H' n o e => n.1 _ _ e) (fun D i x H' hx n => ?_) (fun D H' n => hd D H' (by simpa using n))
  obtain ⟨y, hy, rfl⟩ := map_atG hx
  refine hs y H' _ _ (List.mem_of_getElem? hy) n.1 (fun hk H4 s4 => ?_) (fun hk H4 s4 => ?_)
  · refine ⟨_, s4 _ _ n.2.2, ?_, ?_⟩
    · refine small_len ?_
      rw [List.length_map]
      exact Nat.le_trans (List.length_filter_le _ _) (Nat.le_trans (List.length_take_le' _ _) hl)
    · refine ⟨?_, n.2.1, ?_⟩
      · exact Same.mut (fun b o e => s4 _ _ (n.1 b o e)) n.2.1 But.upd
      · rw [upd_same, take_atG hy, List.filter_append, List.map_append]
        simp [hk]
  · refine ⟨fun b o e => s4 _ _ (n.1 b o e), n.2.1, ?_⟩
    rw [take_atG hy, List.filter_append]
    simp only [List.filter_cons, hk, List.filter_nil, Bool.false_eq_true, if_false, List.append_nil]
    exact s4 _ _ n.2.2
/-- .. new objects -/
theorem seq_obs (l : List α) (vv : α → V) (kp : α → Bool) (o : α → HO) (hl : l.length ≤ 1000000) (h : Sq K H a (l.map vv))
    (hs : ∀ (x : α) (H' : Hp) (Pe : V → Hp → Prop) (Pn : Hp → Prop), x ∈ l → Same H H' → (kp x = true → ∀ p H4, Same H' H4 → H' p = none → H4 p = some (o x) → Pe (.ref p) H4) → (kp x = false → ∀ H4, Same H' H4 → Pn H4) →
      g (vv x) (wipe σ vs) H' fun σ2 H2 => wipe σ2 vs = wipe σ vs ∧ tt σ2 H2 fun b H3 => if b = true then te σ2 H3 Pe else Pn H3)
    (hd : ∀ D H' out, Same H H' → H D = none → H' D = some (.lst out) → Obs H' out (l.filter kp) o → Q (.ref D) H') :
    (∃ a', V.ref a = .ref a' ∧ (∃ xs, SqL K H a' xs) ∧ LR g tt te vs σ Q (Itl K a') H) ∨ ∃ a', V.ref a = .ref a' ∧ (∃ xs, SqT K H a' xs) ∧ LR g tt te vs σ Q (Itt K a') H := by
  refine seq_lc h (fun D i H' => Same H H' ∧ H D = none ∧ ∃ out, H' D = some (.lst out) ∧ out.length = ((l.take i).filter kp).length ∧ ∀ (k : Nat) (x : α), ((l.take i).filter kp)[k]? = some x → ∃ p : Addr, (out[k]? : Option V) = some (V.ref p) ∧ p ≠ D ∧ H' p = some (o x))
    (fun D H' n => ⟨n.1, n.2.1, [], n.2.2, by simp, fun k x e => by simp at e⟩) (fun D i H' n o e => n.1 _ _ e) (fun D i x H' hx n => ?_) (fun D H' n => ?_)
  · obtain ⟨y, hy, rfl⟩ := map_atG hx
    obtain ⟨st, nD, out, hout, hlen, hob⟩ := n
    refine hs y H' _ _ (List.mem_of_getElem? hy) st (fun hk p H4 s4 np hp => ?_) (fun hk H4 s4 => ?_)
    · refine ⟨out, s4 _ _ hout, ?_, ?_⟩
      · refine small_len ?_
        rw [hlen]
        exact Nat.le_trans (List.length_filter_le _ _) (Nat.le_trans (List.length_take_le' _ _) hl)
      · have e : (l.take (i + 1)).filter kp = (l.take i).filter kp ++ [y] := by rw [take_atG hy, List.filter_append]; simp [hk]
        have hpD : p ≠ D := fun z => by
          subst z
          rw [hout] at np
          cases np
        refine ⟨Same.mut (fun b o e => s4 _ _ (st b o e)) nD But.upd, nD, out ++ [.ref p], upd_same, by rw [e, List.length_append, List.length_append, hlen]; rfl, fun k x hkx => ?_⟩
        rw [e] at hkx
        by_cases hlt : k < ((l.take i).filter kp).length
        · rw [List.getElem?_append_left hlt] at hkx
          obtain ⟨q, h1, h2, h3⟩ := hob k x hkx
          exact ⟨q, by rw [List.getElem?_append_left (by rw [hlen]; exact hlt)]; exact h1, h2, by rw [upd_ne h2]; exact s4 _ _ h3⟩
        · have hge : ((l.take i).filter kp).length ≤ k := by omega
          rw [List.getElem?_append_right hge] at hkx
          have hz : k - ((l.take i).filter kp).length = 0 := by
            have := (List.getElem?_eq_some_iff.mp hkx).1
            simpa using this
          rw [hz] at hkx
          have hxy : y = x := by simpa using hkx
          subst hxy
          exact ⟨p, by rw [List.getElem?_append_right (by rw [hlen]; exact hge), hlen, hz]; rfl, hpD, by rw [upd_ne hpD]; exact hp⟩
    · have e : (l.take (i + 1)).filter kp = (l.take i).filter kp := by rw [take_atG hy, List.filter_append]; simp [hk]
      refine ⟨fun b o e => s4 _ _ (st b o e), nD, out, s4 _ _ hout, by rw [e]; exact hlen, fun k x hkx => ?_⟩
      rw [e] at hkx
      obtain ⟨q, h1, h2, h3⟩ := hob k x hkx
      exact ⟨q, h1, h2, s4 _ _ h3⟩
  · obtain ⟨st, nD, out, hout, hlen, hob⟩ := n
    rw [List.length_map, List.take_length] at hlen hob
    exact hd D H' out st nD hout ⟨hlen, fun k x e => let ⟨q, h1, h2, h3⟩ := hob k x e; ⟨q, h1, h3⟩⟩
/-- [te for g in range(n) if tt], values -/
theorem range_map {n : Int} {m : Nat} (hn : n = (m : Int)) (hm : m ≤ 1000000) (kp : Nat → Bool) (f : Nat → V)
    (hs : ∀ (x : Nat) (H' : Hp) (Pe : V → Hp → Prop) (Pn : Hp → Prop), x < m → Same H H' → (kp x = true → ∀ H4, Same H' H4 → Pe (f x) H4) → (kp x = false → ∀ H4, Same H' H4 → Pn H4) →
      g (.int (x : Int)) (wipe σ vs) H' fun σ2 H2 => wipe σ2 vs = wipe σ vs ∧ tt σ2 H2 fun b H3 => if b = true then te σ2 H3 Pe else Pn H3)
    (hd : ∀ D H', New H H' D (.lst (((List.range m).filter kp).map f)) → Q (.ref D) H') : ∃ j : Int, [V.int n] = [.int j] ∧ -(2 ^ 62) ≤ j ∧ j < 2 ^ 62 ∧ LR g tt te vs σ Q (Itr 0 j.toNat) H := by
  subst hn
  refine range_lc (by omega) (by omega) (fun D i H' => New H H' D (.lst (((List.range i).filter kp).map f))) (fun D H' n => by simpa using n) (fun D i H' hi n => ?_) (fun D H' n => hd D H' (by simpa using n))
  refine hs i H' _ _ (by omega) n.1 (fun hk H4 s4 => ?_) (fun hk H4 s4 => ?_)
  · refine ⟨_, s4 _ _ n.2.2, ?_, ?_⟩
    · refine small_len ?_
      rw [List.length_map]
      exact Nat.le_trans (List.length_filter_le _ _) (by rw [List.length_range]; omega)
    · refine ⟨?_, n.2.1, ?_⟩
      · exact Same.mut (fun b o e => s4 _ _ (n.1 b o e)) n.2.1 But.upd
      · rw [upd_same, List.range_succ, List.filter_append, List.map_append]
        simp [hk]
  · refine ⟨fun b o e => s4 _ _ (n.1 b o e), n.2.1, ?_⟩
    rw [List.range_succ, List.filter_append]
    simp only [List.filter_cons, hk, List.filter_nil, Bool.false_eq_true, if_false, List.append_nil]
    exact s4 _ _ n.2.2
theorem w_yes {QB : Bool → Hp → Prop} (q : QB true H) : tYes σ H QB := q
/-! ### two clauses -/
def IR (g1 : TG) (tt1 : TT) (te : TE) (D : Addr) (vs1 : List Nat) (σ2 : L2.St) (Nx : Hp → Prop) (J1 : It) (H4 : Hp) : Prop := ∃ W1 : Nat → Nat → Hp → Prop, (∃ m, W1 0 m H4) ∧ ∀ j k H, W1 j k H →
  (J1.stop j H ∧ Nx H) ∨ (J1.go j H ∧ ∃ Nx1 : Hp → Prop, (∀ H', Nx1 H' → ∃ k', k' < k ∧ W1 (j + 1) k' H') ∧ ∀ x H', J1.yld j H x H' → g1 x (wipe σ2 vs1) H' fun σ3 H5 => wipe σ3 vs1 = wipe σ2 vs1 ∧ tt1 σ3 H5 fun b H6 =>
    if b = true then te σ3 H6 fun y H7 => ∃ acc, H7 D = some (.lst acc) ∧ acc.length < sizeLine ∧ Nx1 (upd H7 D (.lst (acc ++ [y]))) else Nx1 H6)
def LR2 (g : TG) (tt : TT) (wi1 : TI) (g1 : TG) (tt1 : TT) (te : TE) (vs vs1 : List Nat) (σ : L2.St) (Q : VK) (J : It) (H1 : Hp) : Prop := ∀ D, H1 D = none → ∃ W : Nat → Nat → Hp → Prop, (∃ m, W 0 m (upd H1 D (.lst []))) ∧ ∀ i m H, W i m H →
  (J.stop i H ∧ Q (.ref D) H) ∨ (J.go i H ∧ ∃ Nx : Hp → Prop, (∀ H', Nx H' → ∃ m', m' < m ∧ W (i + 1) m' H') ∧ ∀ x H', J.yld i H x H' → g x (wipe σ vs) H' fun σ2 H2 => wipe σ2 vs = wipe σ vs ∧ tt σ2 H2 fun b H3 =>
    if b = true then wi1 σ2 H3 fun J1 H4 => IR g1 tt1 te D vs1 σ2 Nx J1 H4 else Nx H3)
theorem w_lc2 (h : wi σ H fun J H1 => LR2 g tt wi1 g1 tt1 te vs vs1 σ Q J H1) : tLc2 wi g tt wi1 g1 tt1 te vs vs1 σ H Q := h
theorem lr2_walk {J : It} {n : Nat} {G : Hp → Prop} {Y : Nat → Hp → V → Hp → Prop} (w : Walk J n G Y) (Pv : Addr → Nat → Hp → Prop) (h0 : ∀ D H', New H H' D (.lst []) → Pv D 0 H') (hG : ∀ D i H', i ≤ n → Pv D i H' → G H')
    (hs : ∀ D i x H' H'', i < n → Pv D i H' → Y i H' x H'' → g x (wipe σ vs) H'' fun σ2 H2 => wipe σ2 vs = wipe σ vs ∧ tt σ2 H2 fun b H3 =>
      if b = true then wi1 σ2 H3 fun J1 H4 => IR g1 tt1 te D vs1 σ2 (Pv D (i + 1)) J1 H4 else Pv D (i + 1) H3)
    (hd : ∀ D H', Pv D n H' → Q (.ref D) H') : LR2 g tt wi1 g1 tt1 te vs vs1 σ Q J H := fun D hD => by
  refine ⟨fun i m H => m = n - i ∧ i ≤ n ∧ Pv D i H, ⟨n, by simp, Nat.zero_le _, h0 D _ (New.upd hD)⟩, ?_⟩
  rintro i m H ⟨rfl, hi, p⟩
  have q := hG D i H hi p
  by_cases hlt : i < n
  · exact .inr ⟨w.goes i H hlt q, Pv D (i + 1), fun H' p' => ⟨n - (i + 1), by omega, rfl, hlt, p'⟩, fun x H' y => hs D i x H H' hlt p (w.yields i H x H' hlt q y)⟩
  · have e : i = n := by omega
    subst e
    exact .inl ⟨w.stops H q, hd D H p⟩
theorem ir_walk {J : It} {n : Nat} {G : Hp → Prop} {Y : Nat → Hp → V → Hp → Prop} {D : Addr} {σ2 : L2.St} {Nx : Hp → Prop} (w : Walk J n G Y) (Pv : Nat → Hp → Prop) (h0 : Pv 0 H) (hG : ∀ i H', i ≤ n → Pv i H' → G H')
    (hs : ∀ i x H' H'', i < n → Pv i H' → Y i H' x H'' → g1 x (wipe σ2 vs1) H'' fun σ3 H5 => wipe σ3 vs1 = wipe σ2 vs1 ∧ tt1 σ3 H5 fun b H6 =>
      if b = true then te σ3 H6 fun y H7 => ∃ acc, H7 D = some (.lst acc) ∧ acc.length < sizeLine ∧ Pv (i + 1) (upd H7 D (.lst (acc ++ [y]))) else Pv (i + 1) H6)
    (hd : ∀ H', Pv n H' → Nx H') : IR g1 tt1 te D vs1 σ2 Nx J H := by
  refine ⟨fun i m H => m = n - i ∧ i ≤ n ∧ Pv i H, ⟨n, by simp, Nat.zero_le _, h0⟩, ?_⟩
  rintro i m H ⟨rfl, hi, p⟩
  have q := hG i H hi p
  by_cases hlt : i < n
  · exact .inr ⟨w.goes i H hlt q, Pv (i + 1), fun H' p' => ⟨n - (i + 1), by omega, rfl, hlt, p'⟩, fun x H' y => hs i x H H' hlt p (w.yields i H x H' hlt q y)⟩
  · have e : i = n := by omega
    subst e
    exact .inl ⟨w.stops H q, hd H p⟩
theorem seq_lc2 (h : Sq K H a xs) (Pv : Addr → Nat → Hp → Prop) (h0 : ∀ D H', New H H' D (.lst []) → Pv D 0 H') (hk : ∀ D i H', Pv D i H' → ∀ o, H a = some o → H' a = some o)
    (hs : ∀ D i x H', xs[i]? = some x → Pv D i H' → g x (wipe σ vs) H' fun σ2 H2 => wipe σ2 vs = wipe σ vs ∧ tt σ2 H2 fun b H3 =>
      if b = true then wi1 σ2 H3 fun J1 H4 => IR g1 tt1 te D vs1 σ2 (Pv D (i + 1)) J1 H4 else Pv D (i + 1) H3)
    (hd : ∀ D H', Pv D xs.length H' → Q (.ref D) H') :
    (∃ a', V.ref a = .ref a' ∧ (∃ xs, SqL K H a' xs) ∧ LR2 g tt wi1 g1 tt1 te vs vs1 σ Q (Itl K a') H) ∨ ∃ a', V.ref a = .ref a' ∧ (∃ xs, SqT K H a' xs) ∧ LR2 g tt wi1 g1 tt1 te vs vs1 σ Q (Itt K a') H := by
  rcases h with h | h
  · exact Or.inl ⟨a, rfl, ⟨xs, h⟩, lr2_walk walk_list Pv h0 (fun D i H' _ p => sqL_at (hk D i H' p) h) (fun D i x H' H'' _ p ⟨e, y⟩ => by subst e; exact hs D i x _ y p) hd⟩
  · exact Or.inr ⟨a, rfl, ⟨xs, h⟩, lr2_walk walk_tup Pv h0 (fun D i H' _ p => sqT_at (hk D i H' p) h) (fun D i x H' H'' _ p ⟨e, y⟩ => by subst e; exact hs D i x _ y p) hd⟩
theorem seq_ir {D : Addr} {σ2 : L2.St} {Nx : Hp → Prop} (h : Sq K H a xs) (Pv : Nat → Hp → Prop) (h0 : Pv 0 H) (hk : ∀ i H', Pv i H' → ∀ o, H a = some o → H' a = some o)
    (hs : ∀ i x H', xs[i]? = some x → Pv i H' → g1 x (wipe σ2 vs1) H' fun σ3 H5 => wipe σ3 vs1 = wipe σ2 vs1 ∧ tt1 σ3 H5 fun b H6 =>
      if b = true then te σ3 H6 fun y H7 => ∃ acc, H7 D = some (.lst acc) ∧ acc.length < sizeLine ∧ Pv (i + 1) (upd H7 D (.lst (acc ++ [y]))) else Pv (i + 1) H6)
    (hd : ∀ H', Pv xs.length H' → Nx H') :
    (∃ a', V.ref a = .ref a' ∧ (∃ xs, SqL K H a' xs) ∧ IR g1 tt1 te D vs1 σ2 Nx (Itl K a') H) ∨ ∃ a', V.ref a = .ref a' ∧ (∃ xs, SqT K H a' xs) ∧ IR g1 tt1 te D vs1 σ2 Nx (Itt K a') H := by
  rcases h with h | h
  · exact Or.inl ⟨a, rfl, ⟨xs, h⟩, ir_walk walk_list Pv h0 (fun i H' _ p => sqL_at (hk i H' p) h) (fun i x H' H'' _ p ⟨e, y⟩ => by subst e; exact hs i x _ y p) hd⟩
  · exact Or.inr ⟨a, rfl, ⟨xs, h⟩, ir_walk walk_tup Pv h0 (fun i H' _ p => sqT_at (hk i H' p) h) (fun i x H' H'' _ p ⟨e, y⟩ => by subst e; exact hs i x _ y p) hd⟩
end
/-! ### enumerate of a list or a tuple -/
theorem meets_enumerate_newT {v : Value} {o : Obj} {H : Heap → Prop} (B : PySem.Begins v o H) :
    Meets (Builtin.«enumerate.__new__» ⟨[.type "enumerate", v], []⟩) (fun _ R s => H s.heap ∧
      R (.ok (.ret (.ref (s.heap.push o).objs.size))) { s with heap := (s.heap.push o).push { cls := .type "enumerate", data := .fields #[.none, .bool false, .ref s.heap.objs.size, rawInt 0, .none, .none] } }) :=
  .of_wp fun prog w A R s h => by
    obtain ⟨hp, g, d, tk, os⟩ := s; obtain ⟨h1, h⟩ := h
    have hsub := sub_enumerate
    have q1 : ∀ {A' : Around} {E : Value → Shared → Prop} {Q : Value → Shared → Prop}, Q (.ref hp.objs.size) ⟨hp.push o, g, d, tk, os⟩ → wpAny (model prog w) A' (pyIter v) Q E ⟨hp, g, d, tk, os⟩ :=
      fun q => B.iter prog w _ _ ⟨hp, g, d, tk, os⟩ _ h1 q
    wp_walk using q1
    refine wpAny_stack_any fun st => wpAny_pure ?_
    split
    · rename_i c _ _ _ _ _
      cases (c == Value.type "enumerate")
      · wp_walk using q1
        exact ⟨_, rfl, h⟩
      · wp_walk using q1
        exact ⟨_, rfl, h⟩
    · wp_walk using q1
      exact ⟨_, rfl, h⟩
section
variable {prog : Program} {w : World} {A : Around} {E : Value → Shared → Prop} {s : Shared}
theorem call_enumT {v : Value} {o : Obj} {H : Heap → Prop} {Q : Value → Shared → Prop} (B : PySem.Begins v o H) (h1 : H s.heap)
    (h : ∀ h', IsEnum h' (s.heap.objs.size + 1) s.heap.objs.size 0 .none → h'.get? s.heap.objs.size = some o → h'.objs.size = s.heap.objs.size + 2 →
      (∀ b o, s.heap.get? b = some o → h'.get? b = some o) → Q (.ref (s.heap.objs.size + 1)) { s with heap := h' }) :
    wpAny (model prog w) A (call (.type "enumerate") [v]) Q E s := by
  refine callType_new F.called_enumerate (by decide) (F.typeCall_enumerate_1 _) (F.newCall_enumerate_1 _) (fun obj => F.args_object_init_2 obj _) F.entry_enumerate_new
    (meets_enumerate_newT B) ⟨h1, ?_⟩
  have hz : (s.heap.push o).objs.size = s.heap.objs.size + 1 := Heap.size_push ..
  show _ ∧ _
  rw [hz]
  have he : IsEnum ((s.heap.push o).push { cls := .type "enumerate", data := .fields #[.none, .bool false, .ref s.heap.objs.size, rawInt 0, .none, .none] }) (s.heap.objs.size + 1) s.heap.objs.size 0 .none := by
    have := Heap.get?_push_size (s.heap.push o) (o := { cls := .type "enumerate", data := .fields #[.none, .bool false, .ref s.heap.objs.size, rawInt 0, .none, .none] }) rfl
    rw [hz] at this; exact this
  refine ⟨⟨_, he, rfl⟩, h _ he (Heap.get?_push_of_some _ (Heap.get?_push_size _ B.free)) (by rw [Heap.size_push, hz]) fun b o x => Heap.get?_push_of_some _ (Heap.get?_push_of_some _ x)⟩
end
/-- the tuple at a as it stands at each turn, each item in a new pair -/
def IteT (K : PySem.W.Frag) (a : Addr) : It :=
  ⟨fun i H => ∃ (xs : List V) (x : V), SqT K H a xs ∧ xs[i]? = some x, fun i H v H' => ∃ T x, v = .ref T ∧ H T = none ∧ H' = upd H T (.tup [.int (i : Nat), x]) ∧ ∀ xs, SqT K H a xs → xs[i]? = some x, fun i H => ∃ xs : List V, SqT K H a xs ∧ xs.length = i⟩
theorem turn_enumT {P : Program} {w : World} {K : PySem.W.Frag} {elts : List Expr} {kk : Nat} {tpos : Pos} (a e it : Addr) :
    Turn P w K (.Tuple elts kk tpos) (IteT K a) [e, it] e (fun i h => (∃ old, IsEnum h e it ((i : Nat) : Int) old) ∧ h.IsTupleIter it a i ∧ e ≠ it) where
  mem := by simp
  obj := fun i h st b hb => by
    obtain ⟨⟨old, he⟩, ⟨o, ho, hc, hd⟩, _⟩ := st
    have e' : b = e ∨ b = it := by simpa using hb
    rcases e' with z | z
    · rw [z]; exact ⟨_, he, fun v q => nomatch q⟩
    · rw [z]; exact ⟨o, ho, fun v q => by rw [hd] at q; cases q⟩
  keep := fun i h h' st k => let ⟨⟨old, he⟩, hi, hne⟩ := st; ⟨⟨old, k e (by simp) _ he⟩, hi.at fun o q => k it (by simp) o q, hne⟩
  item := by
    intro X hP hw hK hc i pins s σ H E I hf st hg
    subst hP hw hK
    obtain ⟨⟨old, he⟩, hit, hne⟩ := st
    obtain ⟨xs, x, hq, hx⟩ := hg
    obtain ⟨its, rv, p, hz⟩ := I.tuple hq
    obtain ⟨u, hu, ru⟩ := rv.get hx
    have hel : e < s.heap.objs.size := Heap.lt_size he
    have hil : it < s.heap.objs.size := by obtain ⟨_, q, _⟩ := hit; exact Heap.lt_size q
    have hT0 : s.heap.IsTuple a its.toArray := p
    have hai : a ≠ it := fun z => by
      obtain ⟨o, h1, h2, h3⟩ := hit
      obtain ⟨o', h1', h2', n, h3'⟩ := hT0
      rw [z, h1] at h1'
      cases h1'
      rw [h3] at h3'
      cases h3'
    have hae : e ≠ a := fun z => by
      obtain ⟨o', h1', h2', n, h3'⟩ := hT0
      rw [← z] at h1'
      rw [he] at h1'
      cases h1'
      cases h3'
    have hlt : i < its.toArray.size := by
      have h1 := (List.getElem?_eq_some_iff.mp hu).1
      simpa using h1
    refine wpAny_pyNext_enum_itemC (Draws.tuple (A := X.A.in1) (I.ok.hd hc) it a hai its.toArray) he ⟨hit, hT0⟩ hlt hne (by simp [hne, hae]) fun v h' tk hP ho hSt hT hsz hk => ?_
    have hvu : v = u := by
      have h2 : its.toArray[i]? = some u := by simpa using hu
      rw [h2] at hP
      exact (Option.some.inj hP).symm
    subst hvu
    refine ⟨_, rfl, wpAny_letOwnedTupleGo_enum (s := { s with heap := h', toks := tk + 1 }) ho fun h'' he' sb => ?_⟩
    have hT2 : h''.get? s.heap.objs.size = some { cls := .type "tuple", data := .seq #[.int i tk, v] } := (sb.2 _ (Nat.ne_of_gt hel)).trans hT
    have new : ObjOk X.prog X.w (upd H s.heap.objs.size (.tup [.int (i : Nat), x])) h'' s.heap.objs.size (.tup [.int (i : Nat), x]) :=
      ⟨by show 2 ≤ sizeLine; decide, [.int i tk, v], .cons ⟨_, rfl⟩ (.cons ru .nil), ⟨_, hT2, rfl, _, rfl⟩⟩
    have I1 : Inv X pins σ (upd H s.heap.objs.size (.tup [.int (i : Nat), x])) { s with heap := h'', toks := tk + 1 } :=
      I.turnedNew (ch := [e, it]) (fun b ob hb q => (sb.2 b (fun z => hb (by simp [z]))).trans (hk b ob (fun z => hb (by simp [z])) (fun z => hb (by simp [z])) q)) hf (Nat.le_refl _) new
    refine ⟨.ref s.heap.objs.size, _, I1, rfl, ⟨_, x, rfl, I.hok.fresh (Nat.le_refl _), rfl, fun ys hy => by rw [I.tuple_inj hy hq]; exact hx⟩, ⟨⟨v, ?_⟩, hSt.1.at fun o q => (sb.2 it (Ne.symm hne)).trans q, hne⟩, fun b hb => ?_⟩
    · have e1 : ((i + 1 : Nat) : Int) = (i : Int) + 1 := by omega
      rw [e1]; exact he'
    · have hb' : b < s.heap.objs.size := by
        have e' : b = e ∨ b = it := by simpa using hb
        rcases e' with z | z
        · rw [z]; exact hel
        · rw [z]; exact hil
      rw [upd_ne (Nat.ne_of_lt hb')]
      exact (hf b hb).1
  done := by
    intro X hP hw hK hc i pins s σ H E I hf st hg
    subst hP hw hK
    obtain ⟨⟨old, he⟩, hit, hne⟩ := st
    obtain ⟨xs, hq, hx⟩ := hg
    obtain ⟨its, rv, p, hz⟩ := I.tuple hq
    obtain ⟨f0, f1, f2, f3, f4, f5⟩ := hf it (by simp)
    have hl := rv.length
    have hT0 : s.heap.IsTuple a its.toArray := p
    have hai : a ≠ it := fun z => by
      obtain ⟨o, h1, h2, h3⟩ := hit
      obtain ⟨o', h1', h2', n, h3'⟩ := hT0
      rw [z, h1] at h1'
      cases h1'
      rw [h3] at h3'
      cases h3'
    have hi : i = its.toArray.size := by simp; omega
    subst hi
    exact wpAny_pyNext_enum_endD (Draws.tuple (A := X.A.in1) (I.ok.hd hc) it a hai its.toArray) he ⟨hit, hT0⟩ fun h' eb => ⟨rfl, I.turned (t' := s.toks) (fun b o hb q => eb b o hb q) f0 f1 f3 f4 f5⟩
  self := fun A i s Q E st h => let ⟨⟨_, he⟩, _⟩ := st; wpAny_pyIter_enum he h
def iEnumS (K : PySem.W.Frag) (ta : TA) : TI := fun σ H R => ta σ H fun vs H1 => (∃ a, vs = [.ref a] ∧ (∃ xs, SqL K H1 a xs) ∧ R (Ite K a) H1) ∨ ∃ a, vs = [.ref a] ∧ (∃ xs, SqT K H1 a xs) ∧ R (IteT K a) H1
theorem pi_enumS {X : Cx} {e : Expr} {ta : TA} {p pos tpos : Pos} {elts : List Expr} {kk : Nat} (hg : Gl X "enumerate") (hm : X.mg "enumerate" = none) (ha : PA X [e] ta) (hs : starEach [e] X.env = [(false, eval e X.env)] := by rfl) :
    PI X (.Tuple elts kk tpos) (.Call (.Name "enumerate" p) [e] [] pos) (iEnumS X.K ta) := by
  refine ⟨fun pins s σ H R I h => ?_⟩
  refine Call_ (ld_blt I hg hm boot_enumerate (PyProof.Rows.callWith_type1 (thn (ha.run pos pins s σ H _ I h) fun us s1 ⟨vs, H1, I1, r1, q1⟩ => ?_) hs rfl))
  have fin : ∀ (b : Addr), b ∈ [s1.heap.objs.size + 1, s1.heap.objs.size] → FpOk X pins H1 b := fun b hb => by
    have e' : b = s1.heap.objs.size + 1 ∨ b = s1.heap.objs.size := by simpa using hb
    have hle : s1.heap.objs.size ≤ b := by
      rcases e' with z | z
      · rw [z]; exact Nat.le_add_right _ _
      · rw [z]; exact Nat.le_refl _
    exact I1.fpOk hle (I1.hok.fresh hle)
  rcases q1 with ⟨a, ex, ⟨xs, hq⟩, q⟩ | ⟨a, ex, ⟨xs, hq⟩, q⟩
  · subst ex
    cases r1 with
    | cons r rr =>
      cases rr
      cases r
      obtain ⟨its, rv, p', hz⟩ := I1.list hq
      refine call_enumerate_list p'.isList fun h' he hit hsz hk => wpAny_pyIter_enum he ?_
      have I2 : Inv X pins σ H1 { s1 with heap := h' } := I1.kept (t' := s1.toks) hk
      exact ⟨s1.heap.objs.size + 1, [s1.heap.objs.size + 1, s1.heap.objs.size], _, _, H1, rfl, I2, turn_enum a (s1.heap.objs.size + 1) s1.heap.objs.size, ⟨⟨.none, he⟩, hit, Nat.succ_ne_self _⟩, fin, q⟩
  · subst ex
    cases r1 with
    | cons r rr =>
      cases rr
      cases r
      obtain ⟨its, rv, p', hz⟩ := I1.tuple hq
      have hT : s1.heap.IsTuple a its.toArray := p'
      refine call_enumT (PySem.begins_tuple a its.toArray) hT fun h' he hit hsz hk => wpAny_pyIter_enum he ?_
      have I2 : Inv X pins σ H1 { s1 with heap := h' } := I1.kept (t' := s1.toks) hk
      exact ⟨s1.heap.objs.size + 1, [s1.heap.objs.size + 1, s1.heap.objs.size], _, _, H1, rfl, I2, turn_enumT a (s1.heap.objs.size + 1) s1.heap.objs.size, ⟨⟨.none, he⟩, ⟨_, hit, rfl, rfl⟩, Nat.succ_ne_self _⟩, fin, q⟩
section
variable {K : PySem.W.Frag} {σ : L2.St} {H : Hp} {D : Ends} {g : TG} {tb : TS} {tt : TT} {te : TE} {a : Addr} {xs : List V} {vs : List Nat} {Q : VK}
theorem w_iEnum {ta : TA} {R : It → Hp → Prop} (h : ta σ H fun vs H1 => (∃ a, vs = [.ref a] ∧ (∃ xs, SqL K H1 a xs) ∧ R (Ite K a) H1) ∨ ∃ a, vs = [.ref a] ∧ (∃ xs, SqT K H1 a xs) ∧ R (IteT K a) H1) : iEnumS K ta σ H R := h
/-- a new pair of the turn and the i-th of xs -/
def YE (xs : List V) : Nat → Hp → V → Hp → Prop := fun i H v H' => ∃ T x, v = .ref T ∧ xs[i]? = some x ∧ New H H' T (.tup [.int (i : Int), x])
theorem walk_enumL : Walk (Ite K a) xs.length (fun H => SqL K H a xs) (YE xs) :=
  ⟨fun i _ hi q => ⟨xs, xs[i], q, by simp [hi]⟩, fun _ q => ⟨xs, q, Nat.le_refl _⟩, fun i H v H' _ q ⟨T, x, h1, h2, h3, h4⟩ => ⟨T, x, h1, h4 xs q, by rw [h3]; exact New.upd h2⟩⟩
theorem walk_enumT : Walk (IteT K a) xs.length (fun H => SqT K H a xs) (YE xs) :=
  ⟨fun i _ hi q => ⟨xs, xs[i], q, by simp [hi]⟩, fun _ q => ⟨xs, q, rfl⟩, fun i H v H' _ q ⟨T, x, h1, h2, h3, h4⟩ => ⟨T, x, h1, h4 xs q, by rw [h3]; exact New.upd h2⟩⟩
theorem enum_for (h : Sq K H a xs) (Pv : Nat → L2.St → Hp → Prop) (h0 : Pv 0 σ H) (hk : ∀ i σ' H', Pv i σ' H' → ∀ o, H a = some o → H' a = some o)
    (hs : ∀ i x σ' H' T H'', xs[i]? = some x → Pv i σ' H' → New H' H'' T (.tup [.int (i : Int), x]) → g (.ref T) σ' H'' fun σ2 H2 => tb { D with nx := Pv (i + 1), ct := Pv (i + 1), bk := D.nx } σ2 H2) (hd : ∀ σ' H', Pv xs.length σ' H' → D.nx σ' H') :
    (∃ a', [V.ref a] = [.ref a'] ∧ (∃ xs, SqL K H a' xs) ∧ FR D g tb σ (Ite K a') H) ∨ ∃ a', [V.ref a] = [.ref a'] ∧ (∃ xs, SqT K H a' xs) ∧ FR D g tb σ (IteT K a') H := by
  rcases h with h | h
  · exact Or.inl ⟨a, rfl, ⟨xs, h⟩, fr_walk walk_enumL Pv h0 (fun i σ' H' _ p => sqL_at (hk i σ' H' p) h) (fun i x σ' H' H'' _ p ⟨T, y, e1, e2, e3⟩ => by subst e1; exact hs i y σ' H' T H'' e2 p e3) hd⟩
  · exact Or.inr ⟨a, rfl, ⟨xs, h⟩, fr_walk walk_enumT Pv h0 (fun i σ' H' _ p => sqT_at (hk i σ' H' p) h) (fun i x σ' H' H'' _ p ⟨T, y, e1, e2, e3⟩ => by subst e1; exact hs i y σ' H' T H'' e2 p e3) hd⟩
theorem enum_lc (h : Sq K H a xs) (Pv : Addr → Nat → Hp → Prop) (h0 : ∀ D H', New H H' D (.lst []) → Pv D 0 H') (hk : ∀ D i H', Pv D i H' → ∀ o, H a = some o → H' a = some o)
    (hs : ∀ D i x H' T H'', xs[i]? = some x → Pv D i H' → New H' H'' T (.tup [.int (i : Int), x]) → g (.ref T) (wipe σ vs) H'' fun σ2 H2 => wipe σ2 vs = wipe σ vs ∧ tt σ2 H2 fun b H3 =>
      if b = true then te σ2 H3 fun y H4 => ∃ acc, H4 D = some (.lst acc) ∧ acc.length < sizeLine ∧ Pv D (i + 1) (upd H4 D (.lst (acc ++ [y]))) else Pv D (i + 1) H3)
    (hd : ∀ D H', Pv D xs.length H' → Q (.ref D) H') :
    (∃ a', [V.ref a] = [.ref a'] ∧ (∃ xs, SqL K H a' xs) ∧ LR g tt te vs σ Q (Ite K a') H) ∨ ∃ a', [V.ref a] = [.ref a'] ∧ (∃ xs, SqT K H a' xs) ∧ LR g tt te vs σ Q (IteT K a') H := by
  rcases h with h | h
  · exact Or.inl ⟨a, rfl, ⟨xs, h⟩, lr_walk walk_enumL Pv h0 (fun D i H' _ p => sqL_at (hk D i H' p) h) (fun D i x H' H'' _ p ⟨T, y, e1, e2, e3⟩ => by subst e1; exact hs D i y H' T H'' e2 p e3) hd⟩
  · exact Or.inr ⟨a, rfl, ⟨xs, h⟩, lr_walk walk_enumT Pv h0 (fun D i H' _ p => sqT_at (hk D i H' p) h) (fun D i x H' H'' _ p ⟨T, y, e1, e2, e3⟩ => by subst e1; exact hs D i y H' T H'' e2 p e3) hd⟩
end
end Cw
end

/-! text CwChain -/
section
set_option Elab.async false
set_option linter.all false
set_option maxRecDepth 100000
set_option maxHeartbeats 4000000
namespace Cw
open PySem PySem.Spec PyProof.Rows L2
/-! a op b op c op ..: tests of any length. -/
structure PTC (X : Cx) (ops : List CmpOp) (es : List Expr) (t : V → TT) : Prop where
  run : ∀ (pos : Pos) (pins : List (Addr × Obj)) (s : Shared) (σ : L2.St) (H : Hp) (x : V) (v : Value) (Q : Bool → Hp → Prop), Inv X pins σ H s → RelV x v → t x σ H Q →
    wpAny (model X.prog X.w) X.A (testChain pos v ops (evalEach es X.env)) (TP X pins σ Q) X.xe s
def tcLast (r : R2) (tb : TE) : V → TT := fun x σ H Q => tb σ H fun y H1 => r x y H1 fun z H2 => ∃ k, z = .bl k ∧ Q k H2
def tcCons (r : R2) (tb : TE) (t : V → TT) : V → TT := fun x σ H Q => tb σ H fun y H1 => r x y H1 fun z H2 => ∃ k, z = .bl k ∧ if k = true then t y σ H2 Q else Q false H2
def ttChain (ta : TE) (t : V → TT) : TT := fun σ H Q => ta σ H fun x H1 => t x σ H1 Q
section
variable {X : Cx} {op op' : CmpOp} {ops : List CmpOp} {r : R2} {a b e' : Expr} {es : List Expr} {ta tb : TE} {t : V → TT} {pos : Pos}
theorem ptc_last (ho : OpR X (compareOp op) r) (hb : PE X b tb) : PTC X [op] [b] (tcLast r tb) := by
  refine ⟨fun pos pins s σ H x v Q I rx h => ?_⟩
  refine test_last (thn (hb.run pins s σ H _ I h) fun u s2 ⟨y, H2, I2, r2, q2⟩ => thn (ho pins s2 σ H2 x y v u _ I2 rx r2 q2) fun d s3 ⟨z, H3, I3, r3, k, e, q3⟩ => ?_)
  subst e
  cases r3
  exact wpAny_truthy_bool ⟨H3, I3, q3⟩
theorem ptc_cons (ho : OpR X (compareOp op) r) (hb : PE X b tb) (hc : PTC X (op' :: ops) (e' :: es) t) : PTC X (op :: op' :: ops) (b :: e' :: es) (tcCons r tb t) := by
  refine ⟨fun pos pins s σ H x v Q I rx h => ?_⟩
  refine test_link (thn (hb.run pins s σ H _ I h) fun u s2 ⟨y, H2, I2, r2, q2⟩ => thn (ho pins s2 σ H2 x y v u _ I2 rx r2 q2) fun d s3 ⟨z, H3, I3, r3, k, e, q3⟩ => ?_)
  subst e
  cases r3
  refine wpAny_truthy_bool ?_
  cases k with
  | false => exact ite_ff ⟨H3, I3, q3⟩
  | true => exact ite_tt (hc.run pos pins s3 σ H3 y u Q I3 r2 q3)
theorem pt_chN (ha : PE X a ta) (h : PTC X (op :: op' :: ops) (b :: e' :: es) t) (hm : lastMarks (op :: op' :: ops) (b :: e' :: es) = false := by with_unfolding_all rfl) :
    PT X (.Compare a (op :: op' :: ops) (b :: e' :: es) pos) (ttChain ta t) := by
  refine ⟨fun pins s σ H Q I hq => ?_⟩
  exact isTrue_chain (thn (ha.run pins s σ H _ I hq) fun v s1 ⟨x, H1, I1, r1, q1⟩ => h.run _ pins s1 σ H1 x v Q I1 r1 q1) hm
end
section
variable {σ : L2.St} {H : Hp} {QB : Bool → Hp → Prop} {ta tb : TE} {t : V → TT} {r : R2} {x : V}
theorem w_chN (h : ta σ H fun x H1 => t x σ H1 QB) : ttChain ta t σ H QB := h
theorem w_chC (h : tb σ H fun y H1 => r x y H1 fun z H2 => ∃ k, z = .bl k ∧ if k = true then t y σ H2 QB else QB false H2) : tcCons r tb t x σ H QB := h
theorem w_chL (h : tb σ H fun y H1 => r x y H1 fun z H2 => ∃ k, z = .bl k ∧ QB k H2) : tcLast r tb x σ H QB := h
end
/-- c in a list or a tuple of whole numbers -/
theorem w_in {K : PySem.W.Frag} {H : Hp} {Q : VK} {a : Addr} {js : List Nat} {c : Nat} {neg : Bool} (h : Sq K H a (js.map fun (n : Nat) => V.int (n : Int))) (q : Q (.bl (if neg then !decide (c ∈ js) else decide (c ∈ js))) H) : rIn K neg (.int (c : Int)) (.ref a) H Q := by
  refine ⟨a, _, rfl, h, rfl, ?_, ?_⟩
  · rw [List.all_eq_true]
    intro v hv
    obtain ⟨n, _, rfl⟩ := List.mem_map.mp hv
    rfl
  · have e : inV (.int (c : Int)) (js.map fun (n : Nat) => V.int (n : Int)) = decide (c ∈ js) := by
      unfold inV
      rw [Bool.eq_iff_iff, List.any_eq_true, decide_eq_true_iff]
      constructor
      · rintro ⟨v, hv, hw⟩
        obtain ⟨n, hn, rfl⟩ := List.mem_map.mp hv
        have : n = c := by
          simp [eqV] at hw
          omega
        exact this ▸ hn
      · intro hc
        exact ⟨.int (c : Int), List.mem_map.mpr ⟨c, hc, rfl⟩, by simp [eqV]⟩
    rw [e]
    exact q
end Cw
end

/-! text CwLay6 -/
section
set_option Elab.async false
set_option linter.all false
set_option maxRecDepth 100000
set_option maxHeartbeats 4000000
namespace Cw
open PySem PySem.Spec PyProof.Rows L2
section
variable {K : PySem.W.Frag} {σ : L2.St} {H : Hp} {D : Ends} {te : TE} {tl th : TO} {t : TA} {Q : VK} {x : V}
theorem w_tSl {r : V → Option Int → Option Int → Hp → VK → Prop} (h : te σ H fun x H1 => tl σ H1 fun l H2 => th σ H2 fun u H3 => r x l u H3 Q) : L2.tSl r te tl th σ H Q := h
theorem w_pN {QO : Option Int → Hp → Prop} (h : QO none H) : tNoPart σ H QO := h
theorem w_pS {QO : Option Int → Hp → Prop} (h : te σ H fun x H1 => ∃ i : Int, x = .int i ∧ QO (some i) H1) : tPart te σ H QO := h
theorem w_pI {P : Int → Prop} {i : Int} (h : P i) : ∃ j : Int, V.int i = .int j ∧ P j := ⟨i, rfl, h⟩
theorem w_star {QA : List V → Hp → Prop} (h : te σ H fun x H1 => ∃ p xs, x = V.ref p ∧ (SqT K H1 p xs ∨ SqL K H1 p xs) ∧ t σ H1 fun ys H2 => QA (xs ++ ys) H2) : StX.tStar K te t σ H QA := h
theorem w_starQ {P : List V → Prop} {a : Addr} {xs : List V} (h : Sq K H a xs) (q : P xs) : ∃ p xs, V.ref a = V.ref p ∧ (SqT K H p xs ∨ SqL K H p xs) ∧ P xs := ⟨a, xs, rfl, h.symm, q⟩
end
/-! the rules with K as it is called outside (within a comprehension's block) -/
section
variable {X : Cx} {K : PySem.W.Frag} {e o : Expr} {es : List Expr} {te : TE} {t : TA} {f : Str} {pos p tpos : Pos}
theorem ix_sqK (z : X.K = K := by rfl) : IxR X (rIxQ K) := by subst z; exact ix_sq
theorem pe_fldK (he : PE X e te) (hb : attributeBase e f X.env (eval e X.env) = eval e X.env := by rfl) (z : X.K = K := by rfl) : PE X (.Attribute e f pos) (tFld K te f) := by subst z; exact pe_fld he hb
theorem op_in_seqK (z : X.K = K := by rfl) : OpR X (compareOp .In) (rIn K false) := by subst z; exact op_in_seq
theorem op_notIn_seqK (z : X.K = K := by rfl) : OpR X (compareOp .NotIn) (rIn K true) := by subst z; exact op_notIn_seq
theorem call_lenQK (z : X.K = K := by rfl) : CallR X (.builtin "len") (rLenQ K) := by subst z; exact call_lenQ
theorem call_isiK (z : X.K = K := by rfl) : CallR X (.builtin "isinstance") (rIsi K) := by subst z; exact call_isi
theorem sl_sK (z : X.K = K := by rfl) : SlR X (rSlS K) := by subst z; exact sl_s
theorem cr_sumK (hc : X.calm = true) (z : X.K = K := by rfl) : CallR X (.builtin "sum") (rSum K) := by subst z; exact cr_sum hc
theorem cr_anyK (hc : X.calm = true) (z : X.K = K := by rfl) : CallR X (.builtin "any") (rAny K) := by subst z; exact cr_any hc
theorem cr_allK (hc : X.calm = true) (z : X.K = K := by rfl) : CallR X (.builtin "all") (rAll K) := by subst z; exact cr_all hc
theorem pi_seqK {tg l : Expr} {tl : TE} (hl : PE X l tl) (z : X.K = K := by rfl) : PI X tg l (iSeq K tl) := by subst z; exact pi_seq hl
theorem pg_tupK {k : Nat} {t : TGs} {n : Nat} (hc : X.calm = true) (h : PGs X es t) (hn : (assignEach es X.env).length = n := by rfl) (hst : (assignEach es X.env).findIdx? (·.1) = none := by rfl) (z : X.K = K := by rfl) : PG X (.Tuple es k pos) (gTup K n t) := by subst z; exact pg_tup hc h hn hst
theorem call_listSK (z : X.K = K := by rfl) : CallR X (.type "list") (rListS K) := by subst z; exact call_listS
theorem call_tupSK (z : X.K = K := by rfl) : CallR X (.type "tuple") (rTupS K) := by subst z; exact call_tupS
end
end Cw
end

/-! text CwLay7 -/
section
set_option Elab.async false
set_option linter.all false
set_option maxRecDepth 100000
set_option maxHeartbeats 4000000
namespace Cw
open PySem PySem.Spec PyProof.Rows L2
/-- tuple(xs): of a list a new one, a tuple itself -/
def rTupB (K : PySem.W.Frag) : List V → Hp → VK → Prop := fun xs H Q => ∃ p ys, xs = [.ref p] ∧ ((SqL K H p ys ∧ ∀ l H', New H H' l (.tup ys) → Q (.ref l) H') ∨ (SqT K H p ys ∧ Q (.ref p) H))
theorem call_tupB {X : Cx} : CallR X (.type "tuple") (rTupB X.K) := CallR.imp call_tupQ fun xs H Q ⟨p, ys, e, h⟩ => ⟨p, ys, e, h.imp (fun ⟨a, k⟩ => ⟨a, fun l hl => k l _ (New.upd hl)⟩) id⟩
theorem w_tupB {K : PySem.W.Frag} {H : Hp} {a : Addr} {xs : List V} {Q : VK} (h : H a = some (.lst xs) ∨ H a = some (.tup xs)) (q : ∀ l H', Same H H' → H' l = some (.tup xs) → Q (.ref l) H') : rTupB K [.ref a] H Q := by
  rcases h with h | h
  · exact ⟨a, xs, rfl, Or.inl ⟨Or.inl (Or.inl h), fun l H' n => q l H' n.1 n.2.2⟩⟩
  · exact ⟨a, xs, rfl, Or.inr ⟨Or.inl (Or.inl h), q a H (fun _ _ e => e) h⟩⟩
theorem Obs.of_map {α β : Type} {H : Hp} {out : List V} {l : List α} {g : α → β} {o : β → HO} (h : Obs H out l fun x => o (g x)) : Obs H out (l.map g) o :=
  ⟨by rw [List.length_map]; exact h.1, fun k y e => by
    rw [List.getElem?_map] at e
    cases hx : l[k]? with
    | none => rw [hx] at e; cases e
    | some x =>
      rw [hx] at e
      obtain rfl := Option.some.inj e
      exact h.2 k x hx⟩
theorem Obs.zip {α : Type} {H : Hp} {vs : List V} {l : List α} {o : α → HO} (h : Obs H vs l o) {p : V × α} (hp : p ∈ vs.zip l) : ∃ a, p.1 = .ref a ∧ H a = some (o p.2) ∧ p.2 ∈ l := by
  obtain ⟨k, hk⟩ := List.mem_iff_getElem?.mp hp
  rw [List.getElem?_zip_eq_some] at hk
  obtain ⟨a, h1, h2⟩ := h.2 k p.2 hk.2
  rw [hk.1] at h1
  exact ⟨a, Option.some.inj h1, h2, List.mem_of_getElem? hk.2⟩
theorem zip_fst {α : Type} {vs : List V} {l : List α} (h : vs.length = l.length) : (vs.zip l).map Prod.fst = vs := List.map_fst_zip (by omega)
theorem zip_snd {α : Type} {vs : List V} {l : List α} (h : vs.length = l.length) : (vs.zip l).map Prod.snd = l := List.map_snd_zip (by omega)
theorem zip_filter {α : Type} {vs : List V} {l : List α} (h : vs.length = l.length) (kp : α → Bool) : ((vs.zip l).filter fun p => kp p.2).map Prod.snd = l.filter kp := by
  have e : (fun p : V × α => kp p.2) = kp ∘ Prod.snd := rfl
  rw [e, ← List.filter_map, zip_snd h]
/-- list(range(n)) -/
def LRG (x : V) (H1 : Hp) (Q : VK) : Prop := ∃ n : Int, x = .int n ∧ RgOk 0 n ∧ ∀ q, H1 q = none → Q (.ref q) (upd H1 q (.lst (rgV 0 n)))
section
variable {σ : L2.St} {H : Hp} {Q : VK} {ta : TE} {xs zs : List V} {l b : Addr}
theorem w_lrg (h : ta σ H fun x H1 => LRG x H1 Q) : tLstRg (tRg1 ta) σ H Q := h
theorem w_LRG {n : Int} (h0 : 0 ≤ n) (h1 : n ≤ 100000) (k : ∀ q H', New H H' q (.lst ((List.range n.toNat).map fun (i : Nat) => V.int (i : Int))) → Q (.ref q) H') : LRG (.int n) H Q := by
  refine ⟨n, rfl, RgOk.of_le (by omega) (by omega) (by omega) h0, fun q hq => k q _ ?_⟩
  have e : rgV 0 n = (List.range n.toNat).map fun (i : Nat) => V.int (i : Int) := by
    unfold rgV
    rw [Int.sub_zero]
    apply List.map_congr_left
    intro i _
    simp
  rw [← e]
  exact New.upd hq
theorem w_cat (hx : H l = some (.lst xs)) (hz : H b = some (.lst zs)) (hl : xs.length + zs.length ≤ 100000) (k : ∀ p H', New H H' p (.lst (xs ++ zs)) → Q (.ref p) H') : rCatS (.ref l) (.ref b) H Q :=
  ⟨l, b, xs, zs, rfl, rfl, hx, hz, Nat.le_trans hl (by rw [sizeLine_eq]; decide), k⟩
end
end Cw
end

/-! text CwLay8 -/
section
set_option Elab.async false
set_option linter.all false
set_option maxRecDepth 100000
set_option maxHeartbeats 4000000
namespace Cw
open PySem PySem.Spec PyProof.Rows L2
/-! Dicts by whole numbers, bits, reversed ranges. -/
/-- the dict at d holds f, made by at most n stores -/
def DF (H : Hp) (d : Addr) (f : Nat → Option V) (n : Nat) : Prop := ∃ kvs : List (Key × V), H d = some (.dK kvs) ∧ kvs.length ≤ n ∧ ∀ k : Nat, valV kvs (.inl (k : Int)) = f k
theorem DF.same {H H' : Hp} {d : Addr} {f : Nat → Option V} {n : Nat} (s : Same H H') : DF H d f n → DF H' d f n := fun ⟨kvs, h1, h2, h3⟩ => ⟨kvs, s _ _ h1, h2, h3⟩
theorem DF.get {H : Hp} {d : Addr} {f : Nat → Option V} {n : Nat} (h : DF H d f n) (k : Nat) : DGet H d (.int (k : Int)) (f k) := by
  obtain ⟨kvs, h1, h2, h3⟩ := h
  have := DGet.k (k := .inl (k : Int)) h1
  rw [h3] at this
  exact this
theorem DF.isD {H : Hp} {d : Addr} {f : Nat → Option V} {n : Nat} (h : DF H d f n) : IsD H d := let ⟨kvs, h1, _⟩ := h; Or.inl ⟨kvs, Or.inl h1⟩
theorem DF.put {H : Hp} {d : Addr} {f : Nat → Option V} {n : Nat} (h : DF H d f n) (hn : n ≤ 1000000) (k : Nat) (v : V) : ∃ H4, DPut H d (.int (k : Int)) v H4 ∧ But d H H4 ∧ DF H4 d (fun j => if j = k then some v else f j) (n + 1) := by
  obtain ⟨kvs, h1, h2, h3⟩ := h
  refine ⟨_, DPut.k (k := .inl (k : Int)) h1 (small_len (by omega)), But.upd, _, upd_same, ?_, fun j => ?_⟩
  · have := length_putK kvs (.inl (k : Int)) v
    omega
  · rw [valV_put, h3]
    show _ = if j = k then some v else f j
    by_cases e : j = k
    · subst e
      rw [if_pos rfl, if_pos rfl]
    · rw [if_neg e, if_neg (fun z => e (by
        have := Sum.inl.inj z
        omega))]
section
variable {K : PySem.W.Frag} {σ : L2.St} {H : Hp} {Q : VK} {D : Ends} {td ty tv tx : TE} {g : TG} {tb : TS}
theorem w_dget (h : td σ H fun x H1 => ty σ H1 fun y H2 => ∃ a v, x = .ref a ∧ DGet H2 a y (some v) ∧ Q v H2) : tDGet td ty σ H Q := h
theorem w_dnotin (h : ty σ H fun y H1 => td σ H1 fun x H2 => ∃ a o, x = .ref a ∧ DGet H2 a y o ∧ Q (.bl (!o.isSome)) H2) : tDNotIn ty td σ H Q := h
theorem w_dget2 (h : td σ H fun x H1 => ∃ a, x = .ref a ∧ IsD H1 a ∧ ty σ H1 fun y H2 => tx σ H2 fun z H3 => ∃ o, DGet H3 a y o ∧ Q (o.getD z) H3) : tDGet2 td ty tx σ H Q := h
theorem w_dput (h : tv σ H fun v H1 => td σ H1 fun x H2 => ty σ H2 fun y H3 => ∃ a H4, x = .ref a ∧ DPut H3 a y v H4 ∧ D.nx σ H4) : sDPut td ty tv D σ H := h
theorem w_revR {ta : TE} {R : It → Hp → Prop} (h : ta σ H fun x H1 => ∃ n : Int, x = .int n ∧ -(2 ^ 62) ≤ (0 : Int) ∧ (0 : Int) < 2 ^ 62 ∧ -(2 ^ 62) ≤ n ∧ n < 2 ^ 62 ∧ R (Itc (0 + (((n - 0).toNat : Nat) : Int) - 1) (-1) (n - 0).toNat) H1) : iRevR (tRg1 ta) σ H R := h
theorem w_cont (h : D.ct σ H) : tCont D σ H := h
/-- for .. in reversed(range(n)) -/
theorem rev_for {m : Nat} (hm : m < 2 ^ 60) (Pv : Nat → L2.St → Hp → Prop) (h0 : Pv 0 σ H)
    (hs : ∀ (i : Nat) σ' H', i < m → Pv i σ' H' → g (.int ((m - 1 - i : Nat) : Int)) σ' H' fun σ2 H2 => tb { D with nx := Pv (i + 1), ct := Pv (i + 1), bk := D.nx } σ2 H2) (hd : ∀ σ' H', Pv m σ' H' → D.nx σ' H') :
    -(2 ^ 62) ≤ (0 : Int) ∧ (0 : Int) < 2 ^ 62 ∧ -(2 ^ 62) ≤ (m : Int) ∧ (m : Int) < 2 ^ 62 ∧ FR D g tb σ (Itc (0 + ((((m : Int) - 0).toNat : Nat) : Int) - 1) (-1) ((m : Int) - 0).toNat) H := by
  refine ⟨by decide, by decide, by omega, by omega, ?_⟩
  have e : ((m : Int) - 0).toNat = m := by omega
  rw [e]
  refine fr_walk (G := fun _ => True) walk_rangeC Pv h0 (fun _ _ _ _ _ => trivial) (fun i x σ' H' H'' hi p ⟨e1, e2⟩ => ?_) hd
  subst e1
  have e3 : (0 + (m : Int) - 1 + (i : Nat) * (-1) : Int) = ((m - 1 - i : Nat) : Int) := by omega
  have e4 : x = V.int ((m - 1 - i : Nat) : Int) := e2.trans (congrArg V.int e3)
  subst e4
  exact hs i σ' _ hi p
end
/-! ### bits -/
theorem bit_at (d j : Nat) : Builtin.bitAnd ((d : Int) / 2 ^ (j : Int).toNat) 1 = if d.testBit j = true then 1 else 0 := by
  rw [bitAnd_m1, Int.toNat_natCast]
  have e : (d : Int) / 2 ^ j = ((d / 2 ^ j : Nat) : Int) := by
    rw [Int.natCast_ediv, Int.natCast_pow]
    rfl
  rw [e, Nat.testBit_eq_decide_div_mod_eq]
  by_cases h : d / 2 ^ j % 2 = 1
  · rw [if_pos (decide_eq_true h)]
    omega
  · rw [if_neg (by simpa using h)]
    omega
theorem or_at (d j : Nat) : Builtin.bitOr (d : Int) (1 * 2 ^ (j : Int).toNat) = ((d ||| (1 <<< j) : Nat) : Int) := by
  have e : (1 : Int) * (2 : Int) ^ (j : Int).toNat = ((1 <<< j : Nat) : Int) := by
    rw [Int.toNat_natCast, Nat.shiftLeft_eq, Nat.one_mul, Int.one_mul, Int.natCast_pow]
    rfl
  rw [e, bitOr_nn (Int.natCast_nonneg _) (Int.natCast_nonneg _), Int.toNat_natCast, Int.toNat_natCast]
theorem full_at (n : Nat) : (1 : Int) * 2 ^ (n : Int).toNat - 1 = ((2 ^ n - 1 : Nat) : Int) := by
  have h : 1 ≤ 2 ^ n := Nat.one_le_two_pow
  rw [Int.toNat_natCast, Int.one_mul, Int.natCast_sub h, Int.natCast_pow]
  rfl
theorem or_ge (d j : Nat) : d ≤ d ||| (1 <<< j) := Nat.left_le_or
theorem or_lt {d j n : Nat} (h : d < 2 ^ n) (hj : j < n) : d ||| (1 <<< j) < 2 ^ n := by
  refine Nat.or_lt_two_pow h ?_
  rw [Nat.shiftLeft_eq, Nat.one_mul]
  exact Nat.pow_lt_pow_right (by decide) hj
theorem or_eq {d j : Nat} : d ||| (1 <<< j) = d ↔ d.testBit j = true := by
  constructor
  · intro h
    have : (d ||| (1 <<< j)).testBit j = true := by
      rw [Nat.testBit_or, Nat.shiftLeft_eq, Nat.one_mul, Nat.testBit_two_pow]
      simp
    rw [h] at this
    exact this
  · intro h
    apply Nat.eq_of_testBit_eq
    intro i
    rw [Nat.testBit_or, Nat.shiftLeft_eq, Nat.one_mul, Nat.testBit_two_pow]
    by_cases e : j = i
    · subst e
      simp [h]
    · simp [e]
end Cw
end

/-! text CwLay9 -/
section
set_option Elab.async false
set_option linter.all false
set_option maxRecDepth 100000
set_option maxHeartbeats 4000000
namespace Cw
open PySem PySem.Spec PyProof.Rows L2
/-! Dicts with their keys in order; loops over a dict. -/
def kdL (ks : List Nat) (f : Nat → V) : List (Key × V) := ks.map fun (k : Nat) => (Sum.inl (k : Int), f k)
theorem key_inj {a b : Nat} : ((Sum.inl (a : Int) : Key) = Sum.inl (b : Int)) ↔ a = b := by
  constructor
  · intro h
    have := Sum.inl.inj h
    omega
  · rintro rfl
    rfl
theorem valV_kd {f : Nat → V} {k : Nat} : ∀ {ks : List Nat}, k ∈ ks → valV (kdL ks f) (.inl (k : Int)) = some (f k) := by
  intro ks
  induction ks with
  | nil => intro h; cases h
  | cons x r ih =>
    intro h
    by_cases e : x = k
    · subst e
      exact valV_pos rfl
    · have h2 : k ∈ r := by
        rcases List.mem_cons.mp h with z | z
        · exact absurd z.symm e
        · exact z
      show valV ((Sum.inl (x : Int), f x) :: kdL r f) _ = _
      rw [valV_neg (fun z => e (key_inj.mp z))]
      exact ih h2
theorem any_kd {f : Nat → V} {k : Nat} {ks : List Nat} : ((kdL ks f).any fun kv => decide (kv.1 = Sum.inl (k : Int))) = decide (k ∈ ks) := by
  unfold kdL
  rw [List.any_map, Bool.eq_iff_iff, List.any_eq_true, decide_eq_true_iff]
  constructor
  · rintro ⟨x, hx, h⟩
    have : x = k := key_inj.mp (of_decide_eq_true h)
    exact this ▸ hx
  · intro h
    exact ⟨k, h, decide_eq_true rfl⟩
theorem dropK_kd {f : Nat → V} {b : Nat} {ks : List Nat} : dropK (kdL ks f) (.inl (b : Int)) = kdL (ks.filter fun k => decide (k ≠ b)) f := by
  unfold dropK kdL
  rw [List.filter_map]
  congr 1
  apply List.filter_congr
  intro x _
  simp only [Function.comp, ne_eq, key_inj]
theorem putK_old {f : Nat → V} {k : Nat} {v : V} {ks : List Nat} (h : k ∈ ks) : putK (kdL ks f) (.inl (k : Int)) v = kdL ks fun j => if j = k then v else f j := by
  unfold putK
  rw [if_pos (by rw [any_kd]; exact decide_eq_true h)]
  unfold kdL
  rw [List.map_map]
  apply List.map_congr_left
  intro x _
  simp only [Function.comp, key_inj]
  by_cases e : x = k
  · simp [e]
  · simp [e]
theorem putK_fresh {f : Nat → V} {k : Nat} {v : V} {ks : List Nat} (h : k ∉ ks) : putK (kdL ks f) (.inl (k : Int)) v = kdL (ks ++ [k]) fun j => if j = k then v else f j := by
  unfold putK
  rw [if_neg (by rw [any_kd]; simp [h])]
  unfold kdL
  rw [List.map_append]
  congr 1
  · apply List.map_congr_left
    intro x hx
    have : x ≠ k := fun z => h (z ▸ hx)
    simp [this]
  · simp
theorem kdL_len {f : Nat → V} {ks : List Nat} : (kdL ks f).length = ks.length := by unfold kdL; rw [List.length_map]
theorem upd_back {H : Hp} {d : Addr} {u x : HO} (h : H d = some u) : upd (upd H d x) d u = H := by
  funext a
  by_cases e : a = d
  · subst e
    rw [upd_same, h]
  · rw [upd_ne e, upd_ne e]
/-- lists and tuples stay -/
def LT (H H' : Hp) : Prop := (∀ a xs, H a = some (.lst xs) → H' a = some (.lst xs)) ∧ ∀ a xs, H a = some (.tup xs) → H' a = some (.tup xs)
theorem LT.of {H H' : Hp} (s : Same H H') : LT H H' := ⟨fun a xs e => s _ _ e, fun a xs e => s _ _ e⟩
theorem LT.trans {H H1 H2 : Hp} (s : LT H H1) (t : LT H1 H2) : LT H H2 := ⟨fun a xs e => t.1 _ _ (s.1 _ _ e), fun a xs e => t.2 _ _ (s.2 _ _ e)⟩
theorem LT.dk {H : Hp} {d : Addr} {kvs : List (Key × V)} {o : HO} (h : H d = some (.dK kvs)) : LT H (upd H d o) := by
  refine ⟨fun a xs e => ?_, fun a xs e => ?_⟩
  · rw [upd_ne (fun z => by subst z; rw [h] at e; cases e)]
    exact e
  · rw [upd_ne (fun z => by subst z; rw [h] at e; cases e)]
    exact e
section
variable {σ : L2.St} {H : Hp} {Q : VK} {D : Ends} {td ty : TE} {g : TG} {tb t : TS}
theorem w_dpop (h : td σ H fun x H1 => ∃ a, x = .ref a ∧ IsD H1 a ∧ ty σ H1 fun y H2 => ∃ kvs k v, H2 a = some (.dK kvs) ∧ y = kV k ∧ valV kvs k = some v ∧ Q v (upd H2 a (.dK (dropK kvs k)))) : tDPop1 td ty σ H Q := h
theorem w_iKeys {R : It → Hp → Prop} (h : td σ H fun x H1 => ∃ d o, x = .ref d ∧ ((∃ kvs, H1 d = some (.frz o (.dK kvs)) ∧ R (Itk d o kvs) H1) ∨ ∃ kvs, H1 d = some (.frz o (.dT kvs)) ∧ R (Itkt d o kvs) H1)) : iKeys td σ H R := h
theorem w_lock {d : Addr} {kvs : List (Key × V)} (h : H d = some (.dK kvs)) (q : ∀ od, t ⟨fun σ' H' => H' d = some (.frz od (.dK kvs)) ∧ D.nx σ' (upd H' d (.dK kvs)), fun v H' => H' d = some (.frz od (.dK kvs)) ∧ D.rt v (upd H' d (.dK kvs)), fun σ' H' => H' d = some (.frz od (.dK kvs)) ∧ D.bk σ' (upd H' d (.dK kvs)), fun σ' H' => H' d = some (.frz od (.dK kvs)) ∧ D.ct σ' (upd H' d (.dK kvs))⟩ σ (upd H d (.frz od (.dK kvs)))) :
    tLock t D σ H := ⟨d, .dK kvs, h, trivial, q⟩
/-- for k in the dict at d, which is read alone -/
theorem keys_for {d : Addr} {od : Obj} {ks : List Nat} {f : Nat → V} (h : H d = some (.frz od (.dK (kdL ks f)))) (Pv : Nat → L2.St → Prop) (h0 : Pv 0 σ)
    (hs : ∀ (i k : Nat) (σ' : L2.St), ks[i]? = some k → Pv i σ' → g (.int (k : Int)) σ' H fun σ2 H2 => tb { D with nx := fun σ3 H3 => Pv (i + 1) σ3 ∧ H3 = H, ct := fun σ3 H3 => Pv (i + 1) σ3 ∧ H3 = H, bk := D.nx } σ2 H2) (hd : ∀ σ', Pv ks.length σ' → D.nx σ' H) :
    ∃ d' o, V.ref d = .ref d' ∧ ((∃ kvs, H d' = some (.frz o (.dK kvs)) ∧ FR D g tb σ (Itk d' o kvs) H) ∨ ∃ kvs, H d' = some (.frz o (.dT kvs)) ∧ FR D g tb σ (Itkt d' o kvs) H) := by
  refine ⟨d, od, rfl, Or.inl ⟨_, h, ?_⟩⟩
  refine fr_walk walk_keys (fun i σ' H' => Pv i σ' ∧ H' = H) ⟨h0, rfl⟩ (fun i σ' H' _ p => by rw [p.2]; exact h) (fun i x σ' H' H'' hi p y => ?_) (fun σ' H' p => ?_)
  · obtain ⟨p1, rfl⟩ := p
    obtain ⟨rfl, k, v, e1, e2⟩ := y
    unfold kdL at e1
    rw [List.getElem?_map] at e1
    cases ek : ks[i]? with
    | none => rw [ek] at e1; cases e1
    | some k0 =>
      rw [ek] at e1
      have e3 := Option.some.inj e1
      have e4 : k = Sum.inl (k0 : Int) := (congrArg Prod.fst e3).symm
      subst e2
      rw [e4]
      exact hs i k0 σ' ek p1
  · obtain ⟨p1, rfl⟩ := p
    rw [kdL_len] at p1
    exact hd σ' p1
end
end Cw
end

/-! text CwRepr -/
section
set_option Elab.async false
set_option linter.all false
set_option maxRecDepth 100000
set_option maxHeartbeats 4000000
namespace Cw
open PySem PySem.Spec PyProof.Rows L2
/-! repr of None, texts, flat lists and tuples, whatever repr is under way: the same text each time. -/
abbrev gdX (X : Cx) (g : List Code) : Cx := { X with A := { X.A with guards := some g } }
section
variable {X : Cx} {pins : List (Addr × Obj)} {σ : L2.St} {H : Hp} {s : Shared} {e : Expr}
theorem okGd (ok : X.Ok) (g : List Code) : (gdX X g).Ok := ⟨ok.mod, ok.kind, ok.glob, ok.blt, ok.above, ok.inj, ok.has, ok.cab, ok.hd, ok.frames, ok.stk, ok.exf, ok.bs, ok.bsz, ok.noex, ok.exfs, ok.funs, ok.frf⟩
theorem okUn {g : List Code} (ok : (gdX X g).Ok) : X.Ok := ⟨ok.mod, ok.kind, ok.glob, ok.blt, ok.above, ok.inj, ok.has, ok.cab, ok.hd, ok.frames, ok.stk, ok.exf, ok.bs, ok.bsz, ok.noex, ok.exfs, ok.funs, ok.frf⟩
theorem invGd (I : Inv X pins σ H s) (g : List Code) : Inv (gdX X g) pins σ H s := ⟨okGd I.ok g, I.os, I.bare, I.base, I.loc, I.cell, I.free, I.freeC, I.pin, I.hok, I.len⟩
theorem invUn {g : List Code} (I : Inv (gdX X g) pins σ H s) : Inv X pins σ H s := ⟨okUn I.ok, I.os, I.bare, I.base, I.loc, I.cell, I.free, I.freeC, I.pin, I.hok, I.len⟩
def ttGd (t : List Code → TT) : TT := fun σ H Q => ∀ g, t g σ H Q
/-- what stands on the stack may be named -/
theorem pt_gd {t : List Code → TT} (h : ∀ g, PT (gdX X g) e (t g)) : PT X e (ttGd t) := by
  refine ⟨fun pins s σ H Q I hq => ?_⟩
  intro Γ p hΓ
  have h1 := (h (Γ.code.guards ++ guardsOf Γ.below)).run pins s σ H Q (invGd I _) (hq _)
  have h2 := wpAny_mono (Q' := TP X pins σ Q) (E' := X.xe) h1 (fun b s' x => by
    obtain ⟨H', I', q⟩ := x
    exact ⟨H', invUn I', q⟩) (fun _ _ x => x)
  exact h2 Γ p ⟨hΓ.1, hΓ.2.1, hΓ.2.2.1, fun g' e => by cases e; rfl, hΓ.2.2.2.2⟩
end
def textV : V → Str
  | .int i => Str.ofString (toString i)
  | .bl b => if b then "True" else "False"
  | _ => ""
def flatS : V → Bool
  | .int i => decide (i.natAbs < 1000000)
  | .bl _ => true
  | _ => false
theorem small_log {i : Int} (h : i.natAbs < 1000000) : i.natAbs.log2 < 1920 := by
  by_cases h0 : i.natAbs = 0
  · rw [h0]; decide
  · rw [Nat.log2_lt h0]
    exact Nat.lt_of_lt_of_le h (Nat.le_trans (by decide : 1000000 ≤ 2 ^ 20) (Nat.pow_le_pow_right (n := 2) (i := 20) (j := 1920) (by decide) (by decide)))
theorem textV_len {x : V} (h : flatS x = true) : (textV x).length ≤ 10 := by
  cases x with
  | int i =>
    have h := of_decide_eq_true h
    have := int_text_length_le10 (a := i) (k := 6) (by decide) h
    show (Str.ofString (toString i)).length ≤ 10
    rw [PySem.ofString_length]
    omega
  | bl b => cases b <;> decide +kernel
  | _ => cases h
theorem sum_len : ∀ {xs : List V}, xs.all flatS = true → ((xs.map textV).map (·.length)).sum ≤ 10 * xs.length := by
  intro xs
  induction xs with
  | nil => intro _; simp
  | cons x r ih =>
    intro h
    rw [List.all_cons, Bool.and_eq_true_iff] at h
    have h1 := textV_len h.1
    have h2 := ih h.2
    simp only [List.map_cons, List.sum_cons, List.length_cons]
    omega
theorem all_reprs {prog : Program} {w : World} : ∀ {xs : List V} {its : List Value}, Vals xs its → xs.all flatS = true → ReprAll prog w its (xs.map textV)
  | [], _, r, _ => by
    cases r
    exact .nil
  | x :: l, _, r, h => by
    rw [List.all_cons, Bool.and_eq_true_iff] at h
    cases r with
    | cons r1 r2 =>
      refine .cons ?_ (all_reprs r2 h.2)
      cases x with
      | int i =>
        obtain ⟨t, rfl⟩ := r1
        exact ReprIs.int t (small_log (of_decide_eq_true h.1))
      | bl b =>
        cases r1
        exact ReprIs.bool b
      | _ => exact absurd (show false = true from h.1) Bool.false_ne_true
theorem repr_ix {prog : Program} {w : World} : ∀ {its : List Value} {ts : List Str}, ReprAll prog w its ts → ∀ (i : Nat) (y : Value), its[i]? = some y → ∃ t, ts[i]? = some t ∧ ReprIs prog w y t
  | _, _, .nil, i, y, h => by simp at h
  | _, _, .cons h1 h2, i, y, h => by
    cases i with
    | zero =>
      simp at h
      subst h
      exact ⟨_, rfl, h1⟩
    | succ i => exact repr_ix h2 i y (by simpa using h)
def lsF (self : Value) : Code × Pos → Bool := fun
  | (.builtin "list.__repr__.loop" ⟨v :: _, _⟩, _) => Builtin.List.listSameRef v self
  | _ => false
section
variable {prog : Program} {w : World} {A : Around} {E : Value → Shared → Prop} {s : Shared} {a : Addr} {o : Obj} {n : Nat} {g : List Code}
theorem tuple_reprG {items : Array Value} {ts : List Str} {Q : Value → Shared → Prop} (hg : A.guards = some g) (ha : s.heap.get? a = some o) (hc : o.cls = .type "tuple") (hd : o.data = .seq items n) (hT : ReprAll prog w items.toList ts) (hsz : (tupleText ts).length ≤ sizeLine)
    (h : ∀ u tk, Q (.str (if (g.any fun c => tupGuardF (.ref a) (c, default)) = true then "(...)" else tupleText ts) u) { s with toks := tk }) : wpAny (model prog w) A (call (.builtin "tuple.__repr__") [.ref a]) Q E s := by
  refine wpAny_call (codeAny_call_builtin_own (Code.quiet_builtin _ (by decide +kernel)) F.entry_tuple_repr (F.slot_tuple_repr.check _ _ _ _ _ _ _ _ ⟨o, ha, hc⟩ (F.args_tuple_repr_1 _) ?_))
  show wpOwn _ _ _ (Builtin.tupleReprAt 0 ⟨[.ref a], []⟩) _ _ s
  rw [tuple_repr_tree, tupleReprUnderWay_eq]
  refine wpOwn_bind (wpOwn_stackTailAny hg (tupGuardF_off _) (tupGuardF_pos _) ?_)
  cases hb : (g.any fun c => tupGuardF (.ref a) (c, default)) with
  | true =>
    rw [hb] at h
    refine wpOwn_of_wpAny ?_
    refine PySem.W.KFB.if_so rfl ?_
    refine wpAny_bind (wpAny_rule ?_)
    refine wpAny_bind (wpAny_mkStr (wpAny_pure ?_) (by decide +kernel))
    exact h _ _
  | false =>
    rw [hb] at h
    refine wpOwn_of_wpAny ?_
    refine PySem.W.KFB.if_not rfl ?_
    exact wpAny_tupleReprRest ha hd hT (fun u tk => h u tk) (by omega)
theorem list_reprG {x : Value} {l : List Value} {ts : List Str} {Q : Value → Shared → Prop} (hg : A.guards = some g) (ha : s.heap.get? a = some o) (hc : o.cls = .type "list") (hd : o.data = .seq (x :: l).toArray n) (hT : ReprAll prog w (x :: l) ts) (hsz : (listText ts).length ≤ sizeLine)
    (h : ∀ h' u tk, (∀ b o, s.heap.get? b = some o → h'.get? b = some o) → Q (.str (if (g.any fun c => lsF (.ref a) (c, default)) = true then "[...]" else listText ts) u) { s with heap := h', toks := tk }) : wpAny (model prog w) A (call (.builtin "list.__repr__") [.ref a]) Q E s := by
  have hf : ∀ c p, c.isGuard = false → lsF (.ref a) (c, p) = false := by
    intro c p hc
    unfold lsF
    split
    · next v rest kw _ heq => cases heq; simp [Code.isGuard, guardIds] at hc
    · rfl
  have hp : ∀ c p, lsF (.ref a) (c, p) = lsF (.ref a) (c, default) := by
    intro c p
    unfold lsF
    split
    · next v rest kw _ heq => cases heq; rfl
    · next hno =>
      split
      · next v rest kw _ heq => cases heq; exact absurd rfl (hno _ _ _ _)
      · rfl
  refine wpAny_call (codeAny_call_builtin_own (Code.quiet_builtin _ (by decide +kernel)) F.entry_list_repr (F.slot_list_repr.check _ _ _ _ _ _ _ _ ⟨o, ha, hc⟩ (F.args_list_repr_1 _) ?_))
  show wpOwn _ _ _ (Builtin.listReprAt 0 ⟨[.ref a], []⟩) _ _ s
  intro Γ p hcd hΓ
  unfold Builtin.listReprAt
  simp [slotArgs, Builtin.List.listItems, seqItems?, Sem.wp_load_of (h := ha), hd, stack]
  show Sem.wp _ Γ (if (Γ.below.any (lsF (.ref a))) = true then _ else _) _ _ p s
  rw [any_eq_guards hf hp, hΓ.2.2.2.1 g hg]
  cases hb : (g.any fun c => lsF (.ref a) (c, default)) with
  | true =>
    rw [hb] at h
    rw [if_pos rfl]
    have key : wpAny (model prog w) (A.under Γ.code) (do rule "list.__repr__.in-itself"; retStr "[...]") (fun fin s' => match fin with
        | .done f => (fun (r : Result) s' => match r with | .ok (.ret v) => Q v s' | .ok _ => False | .error e => E e s') (.ok f) s'
        | .again c' => c'.quiet = true ∧ codeAny (model prog w) A c' (fun (r : Result) s' => match r with | .ok (.ret v) => Q v s' | .ok _ => False | .error e => E e s') s') (fun e s' => E e s') s := by
      refine wpAny_bind (wpAny_rule ?_)
      refine wpAny_bind (wpAny_mkStr (wpAny_pure ?_) (by decide +kernel))
      exact h s.heap _ _ fun _ _ e => e
    exact key Γ p hΓ.in
  | false =>
    rw [hb] at h
    rw [if_neg Bool.false_ne_true]
    have key : wpAny (model prog w) (A.under Γ.code) (do again (.builtin "list.__repr__.loop" ⟨[.ref a, rawInt 0, ← newList [], rawInt 0], []⟩)) (fun fin s' => match fin with
        | .done f => (fun (r : Result) s' => match r with | .ok (.ret v) => Q v s' | .ok _ => False | .error e => E e s') (.ok f) s'
        | .again c' => c'.quiet = true ∧ codeAny (model prog w) A c' (fun (r : Result) s' => match r with | .ok (.ret v) => Q v s' | .ok _ => False | .error e => E e s') s') (fun e s' => E e s') s := by
      refine wpAny_bind (m := newList []) (wpAny_newObj_type ?_)
      refine wpAny_pure ⟨F.quiet_list_repr_loop _, ?_⟩
      refine codeAny_list_repr_start (b := 0) (items := (x :: l).toArray) (P := s.heap.objs.size) (Nat.ne_of_lt (Heap.lt_size ha)) (by simpa using hT.length_eq) (fun i y hy => repr_ix hT i y (by simpa using hy)) (Heap.get?_push_of_some _ ha) hd (Heap.get?_push_size _ rfl) (fun h' u tk hk => ?_) (by omega)
      exact h h' u tk fun b o e => hk b o (Nat.ne_of_lt (Heap.lt_size e)) (Heap.get?_push_of_some _ e)
    exact key Γ p hΓ.in
end
/-- what repr says of a value, where the guards g are under way -/
inductive RpT (H : Hp) (g : List Code) : V → Str → Prop
  | non : RpT H g .non "None"
  | str {x : Str} (h : (reprText x).length ≤ sizeLine) : RpT H g (.str x) (reprText x)
  | lst {a : Addr} {x : V} {xs : List V} (h : H a = some (.lst (x :: xs))) (f : (x :: xs).all flatS = true) (l : xs.length ≤ 100) : RpT H g (.ref a) (if (g.any fun c => lsF (.ref a) (c, default)) = true then "[...]" else listText ((x :: xs).map textV))
  | tup {a : Addr} {xs : List V} (h : H a = some (.tup xs)) (f : xs.all flatS = true) (l : xs.length ≤ 100) : RpT H g (.ref a) (if (g.any fun c => tupGuardF (.ref a) (c, default)) = true then "(...)" else tupleText (xs.map textV))
def rRepG (g : List Code) : List V → Hp → VK → Prop := fun vs H Q => ∃ x t, vs = [x] ∧ RpT H g x t ∧ Q (.str t) H
theorem call_reprG {X : Cx} {g : List Code} (hg : X.A.guards = some g) (hu : X.A.units + 64 < cLine) : CallR X (.builtin "repr") (rRepG g) := by
  intro pins s σ H vs us Q I r h
  obtain ⟨x, t, rfl, hx, q⟩ := h
  cases r with
  | cons r1 rr =>
    cases rr
    cases hx with
    | non =>
      cases r1
      exact P.repr_of_none ⟨.str "None", H, I.tok _, ⟨_, rfl⟩, q⟩
    | str h =>
      obtain ⟨tk, rfl⟩ := r1
      exact P.repr_of_str ⟨.str _, H, I.tok _, ⟨_, rfl⟩, q⟩ h
    | @lst a x xs h f l =>
      cases r1
      obtain ⟨its, rv, ⟨o, n, ho, hc, _, hd⟩, _⟩ := I.list (Or.inl (Or.inl h))
      have hs := sum_len f
      have hle := listText_len_le ((x :: xs).map textV)
      cases rv with
      | @cons _ u0 _ ur ra rw' =>
        refine call_repr_slot (by omega) ⟨o, ho, hc⟩ F.slot_list_repr.toG ?_
        refine list_reprG (A := X.A.in1) hg ho hc hd (all_reprs (.cons ra rw') f) (by rw [sizeLine_eq]; simp only [List.length_map, List.length_cons] at hle hs ⊢; omega) fun h' u tk hk => ?_
        exact ⟨_, _, rfl, .str _, H, I.kept (t' := tk) hk, ⟨_, rfl⟩, q⟩
    | @tup a xs h f l =>
      cases r1
      obtain ⟨its, rv, ⟨o, ho, hc, n, hd⟩, _⟩ := I.tuple (Or.inl (Or.inl h))
      have hs := sum_len f
      have hle := tupleText_len_le (xs.map textV)
      refine call_repr_slot (by omega) ⟨o, ho, hc⟩ F.slot_tuple_repr ?_
      refine tuple_reprG (A := X.A.in1) hg ho hc hd (by simpa using all_reprs rv f) (by rw [sizeLine_eq]; simp only [List.length_map] at hle hs ⊢; omega) fun u tk => ?_
      exact ⟨_, _, rfl, .str _, H, I.tok _, ⟨_, rfl⟩, q⟩
end Cw
end

/-! text C93_base_text -/
section
set_option Elab.async false
set_option linter.all false
set_option maxRecDepth 100000
set_option maxHeartbeats 4000000
namespace Cw
open PySem PySem.Spec PyProof.Rows L2
local macro_rules | `(tactic| walk_at "go1") => `(tactic| with_reducible first
  | refine w_seq ?_ | refine w_asgN ?_ | refine w_asgG ?_ | refine w_drop ?_ | refine w_ret ?_ | refine w_if ?_ | refine w_next ?_
  | refine w_var rfl ?_ | refine w_c ?_ | refine w_op ?_ | refine w_un ?_ | refine w_cb ?_ | refine w_cons ?_ | refine w_nil ?_ | refine w_call ?_
  | refine w_test ?_ | refine w_tB ?_ | refine w_bl ?_ | refine w_and ?_ | refine w_or ?_ | refine w_not ?_ | refine w_andV ?_ | refine w_orV ?_ | refine w_notV ?_ | refine w_ifE ?_ | refine w_blv ?_
  | refine w_I0 ?_ | refine w_eqI ?_ | refine w_neI ?_ | refine w_isN ?_ | refine w_notN ?_ | refine w_chain ?_ | refine w_for ?_ | refine w_iSeq ?_ | refine w_iR1 ?_ | refine w_iR2 ?_ | refine w_lc ?_
  | refine w_tupS ?_ | refine w_lstS ?_ | refine w_gN ?_ | refine w_gCons ?_ | refine w_gNil ?_ | refine w_aug rfl ?_ | refine w_ip ?_ | refine w_par ?_ | refine w_par2 ?_ | refine w_par3 ?_ | refine w_par33 ?_ | refine w_small (by decide) ?_ | refine w_bmL ?_ | refine w_gSub ?_)
local macro_rules | `(tactic| walk_at "hp") => `(tactic| (first | assumption | exact g_at (by assumption) | exact g_cat (by assumption) | (refine g_same (by assumption) ?_ ; walk_at "hp") | (refine g_new (by assumption) ?_ ; walk_at "hp") | (refine q_same (by assumption) ?_ ; walk_at "hp") | (refine q_new (by assumption) ?_ ; walk_at "hp")))
local macro_rules | `(tactic| walk_at "go") => `(tactic| repeat' walk_at "go1")
local macro_rules | `(tactic| walk_at "st") => `(tactic| simp only [cxK, L2.start, List.map_cons, List.map_nil, List.length_cons, List.length_nil, Nat.reduceAdd, Nat.reduceSub, List.replicate, List.cons_append, List.nil_append])

/-! The text by places: each def's statement, its names, how its arguments bind. -/
def top (i : Nat) : Stmt := PySem.Challenge.pw_crownwork_k93_whole_improving_swaps_end.main.body.getD i (.Pass ⟨0, 0, 0, 0⟩)
abbrev s_InvalidSwap___init__ : Stmt := inClass (top 5) 0
abbrev N_InvalidSwap___init__ : List Str := ["self", "given"]
abbrev p_InvalidSwap___init__ : List Str := ["self", "given"]
theorem sc_InvalidSwap___init__ : FnScope N_InvalidSwap___init__ p_InvalidSwap___init__ (defScope s_InvalidSwap___init__) := ⟨rfl, rfl, rfl, by decide +kernel, rfl, by decide +kernel, by decide +kernel⟩
abbrev s_is_integer : Stmt := top 7
abbrev N_is_integer : List Str := ["value"]
abbrev p_is_integer : List Str := ["value"]
theorem sc_is_integer : FnScope N_is_integer p_is_integer (defScope s_is_integer) := ⟨rfl, rfl, rfl, by decide +kernel, rfl, by decide +kernel, by decide +kernel⟩
theorem b_is_integer : BindsT "is_integer" s_is_integer p_is_integer := fun _ _ _ _ _ _ us hl => match us, hl with | [_], _ => rfl
abbrev s_is_positive : Stmt := top 8
abbrev N_is_positive : List Str := ["value"]
abbrev p_is_positive : List Str := ["value"]
theorem sc_is_positive : FnScope N_is_positive p_is_positive (defScope s_is_positive) := ⟨rfl, rfl, rfl, by decide +kernel, rfl, by decide +kernel, by decide +kernel⟩
theorem b_is_positive : BindsT "is_positive" s_is_positive p_is_positive := fun _ _ _ _ _ _ us hl => match us, hl with | [_], _ => rfl
abbrev s_is_index : Stmt := top 9
abbrev N_is_index : List Str := ["value", "many"]
abbrev p_is_index : List Str := ["value", "many"]
theorem sc_is_index : FnScope N_is_index p_is_index (defScope s_is_index) := ⟨rfl, rfl, rfl, by decide +kernel, rfl, by decide +kernel, by decide +kernel⟩
theorem b_is_index : BindsT "is_index" s_is_index p_is_index := fun _ _ _ _ _ _ us hl => match us, hl with | [_, _], _ => rfl
abbrev s_is_list : Stmt := top 10
abbrev N_is_list : List Str := ["value"]
abbrev p_is_list : List Str := ["value"]
theorem sc_is_list : FnScope N_is_list p_is_list (defScope s_is_list) := ⟨rfl, rfl, rfl, by decide +kernel, rfl, by decide +kernel, by decide +kernel⟩
theorem b_is_list : BindsT "is_list" s_is_list p_is_list := fun _ _ _ _ _ _ us hl => match us, hl with | [_], _ => rfl
abbrev s_is_tuple : Stmt := top 11
abbrev N_is_tuple : List Str := ["value", "many"]
abbrev p_is_tuple : List Str := ["value", "many"]
theorem sc_is_tuple : FnScope N_is_tuple p_is_tuple (defScope s_is_tuple) := ⟨rfl, rfl, rfl, by decide +kernel, rfl, by decide +kernel, by decide +kernel⟩
theorem b_is_tuple : BindsT "is_tuple" s_is_tuple p_is_tuple := fun _ _ _ _ _ _ us hl => match us, hl with | [_, _], _ => rfl
abbrev s_is_inspection : Stmt := top 13
abbrev N_is_inspection : List Str := ["value", "covers", "cover", "minutes", "weight"]
abbrev p_is_inspection : List Str := ["value", "covers"]
theorem sc_is_inspection : FnScope N_is_inspection p_is_inspection (defScope s_is_inspection) := ⟨rfl, rfl, rfl, by decide +kernel, rfl, by decide +kernel, by decide +kernel⟩
theorem b_is_inspection : BindsT "is_inspection" s_is_inspection p_is_inspection := fun _ _ _ _ _ _ us hl => match us, hl with | [_, _], _ => rfl
abbrev s_above_by : Stmt := top 14
abbrev N_above_by : List Str := ["rows", "found", "above", "_"]
abbrev p_above_by : List Str := ["rows"]
theorem sc_above_by : FnScope N_above_by p_above_by (defScope s_above_by) := ⟨rfl, rfl, rfl, by decide +kernel, rfl, by decide +kernel, by decide +kernel⟩
theorem b_above_by : BindsT "above_by" s_above_by p_above_by := fun _ _ _ _ _ _ us hl => match us, hl with | [_], _ => rfl
abbrev s_Search___init__ : Stmt := inClass (top 15) 0
abbrev N_Search___init__ : List Str := ["self", "covers", "inspections", "item", "above", "minutes"]
abbrev p_Search___init__ : List Str := ["self", "covers", "inspections"]
theorem sc_Search___init__ : FnScope N_Search___init__ p_Search___init__ (defScope s_Search___init__) := ⟨rfl, rfl, rfl, by decide +kernel, rfl, by decide +kernel, by decide +kernel⟩
theorem b_Search___init__ : BindsI "Search.__init__" s_Search___init__ p_Search___init__ := fun _ _ _ _ _ _ us hl => match us, hl with | [_, _, _], _ => rfl
abbrev s_Search___len__ : Stmt := inClass (top 15) 2
abbrev N_Search___len__ : List Str := ["self"]
abbrev p_Search___len__ : List Str := ["self"]
theorem sc_Search___len__ : FnScope N_Search___len__ p_Search___len__ (defScope s_Search___len__) := ⟨rfl, rfl, rfl, by decide +kernel, rfl, by decide +kernel, by decide +kernel⟩
abbrev s_Search___contains__ : Stmt := inClass (top 15) 3
abbrev N_Search___contains__ : List Str := ["self", "value"]
abbrev p_Search___contains__ : List Str := ["self", "value"]
theorem sc_Search___contains__ : FnScope N_Search___contains__ p_Search___contains__ (defScope s_Search___contains__) := ⟨rfl, rfl, rfl, by decide +kernel, rfl, by decide +kernel, by decide +kernel⟩
abbrev s_is_beginning : Stmt := top 16
abbrev N_is_beginning : List Str := ["search", "value", "done", "job", "above"]
abbrev p_is_beginning : List Str := ["search", "value"]
theorem sc_is_beginning : FnScope N_is_beginning p_is_beginning (defScope s_is_beginning) := ⟨rfl, rfl, rfl, by decide +kernel, rfl, by decide +kernel, by decide +kernel⟩
theorem b_is_beginning : BindsT "is_beginning" s_is_beginning p_is_beginning := fun _ _ _ _ _ _ us hl => match us, hl with | [_, _], _ => rfl
abbrev s_is_order : Stmt := top 17
abbrev N_is_order : List Str := ["search", "value"]
abbrev p_is_order : List Str := ["search", "value"]
theorem sc_is_order : FnScope N_is_order p_is_order (defScope s_is_order) := ⟨rfl, rfl, rfl, by decide +kernel, rfl, by decide +kernel, by decide +kernel⟩
theorem b_is_order : BindsT "is_order" s_is_order p_is_order := fun _ _ _ _ _ _ us hl => match us, hl with | [_, _], _ => rfl
abbrev s_check_order : Stmt := top 18
abbrev N_check_order : List Str := ["search", "order"]
abbrev p_check_order : List Str := ["search", "order"]
theorem sc_check_order : FnScope N_check_order p_check_order (defScope s_check_order) := ⟨rfl, rfl, rfl, by decide +kernel, rfl, by decide +kernel, by decide +kernel⟩
theorem b_check_order : BindsT "check_order" s_check_order p_check_order := fun _ _ _ _ _ _ us hl => match us, hl with | [_, _], _ => rfl
abbrev s_cost_by : Stmt := top 19
abbrev N_cost_by : List Str := ["rows", "jobs", "cost", "minutes", "job"]
abbrev p_cost_by : List Str := ["rows", "jobs"]
theorem sc_cost_by : FnScope N_cost_by p_cost_by (defScope s_cost_by) := ⟨rfl, rfl, rfl, by decide +kernel, rfl, by decide +kernel, by decide +kernel⟩
theorem b_cost_by : BindsT "cost_by" s_cost_by p_cost_by := fun _ _ _ _ _ _ us hl => match us, hl with | [_, _], _ => rfl
abbrev s_cost_of : Stmt := top 20
abbrev N_cost_of : List Str := ["search", "order"]
abbrev p_cost_of : List Str := ["search", "order"]
theorem sc_cost_of : FnScope N_cost_of p_cost_of (defScope s_cost_of) := ⟨rfl, rfl, rfl, by decide +kernel, rfl, by decide +kernel, by decide +kernel⟩
theorem b_cost_of : BindsT "cost_of" s_cost_of p_cost_of := fun _ _ _ _ _ _ us hl => match us, hl with | [_, _], _ => rfl
abbrev s_totals_of : Stmt := top 22
abbrev N_totals_of : List Str := ["search", "jobs", "job"]
abbrev p_totals_of : List Str := ["search", "jobs"]
theorem sc_totals_of : FnScope N_totals_of p_totals_of (defScope s_totals_of) := ⟨rfl, rfl, rfl, by decide +kernel, rfl, by decide +kernel, by decide +kernel⟩
theorem b_totals_of : BindsT "totals_of" s_totals_of p_totals_of := fun _ _ _ _ _ _ us hl => match us, hl with | [_, _], _ => rfl
abbrev s_are_free : Stmt := top 23
abbrev N_are_free : List Str := ["search", "first", "second", "job", "cover"]
abbrev p_are_free : List Str := ["search", "first", "second"]
theorem sc_are_free : FnScope N_are_free p_are_free (defScope s_are_free) := ⟨rfl, rfl, rfl, by decide +kernel, rfl, by decide +kernel, by decide +kernel⟩
theorem b_are_free : BindsT "are_free" s_are_free p_are_free := fun _ _ _ _ _ _ us hl => match us, hl with | [_, _, _], _ => rfl
abbrev s_swaps_in : Stmt := top 24
abbrev N_swaps_in : List Str := ["search", "order", "value", "item", "start", "middle", "end"]
abbrev p_swaps_in : List Str := ["search", "order", "value"]
theorem sc_swaps_in : FnScope N_swaps_in p_swaps_in (defScope s_swaps_in) := ⟨rfl, rfl, rfl, by decide +kernel, rfl, by decide +kernel, by decide +kernel⟩
theorem b_swaps_in : BindsT "swaps_in" s_swaps_in p_swaps_in := fun _ _ _ _ _ _ us hl => match us, hl with | [_, _, _], _ => rfl
abbrev s_check_swap : Stmt := top 25
abbrev N_check_swap : List Str := ["search", "order", "swap"]
abbrev p_check_swap : List Str := ["search", "order", "swap"]
theorem sc_check_swap : FnScope N_check_swap p_check_swap (defScope s_check_swap) := ⟨rfl, rfl, rfl, by decide +kernel, rfl, by decide +kernel, by decide +kernel⟩
theorem b_check_swap : BindsT "check_swap" s_check_swap p_check_swap := fun _ _ _ _ _ _ us hl => match us, hl with | [_, _, _], _ => rfl
abbrev s_swapped : Stmt := top 26
abbrev N_swapped : List Str := ["search", "order", "swap", "start", "middle", "end"]
abbrev p_swapped : List Str := ["search", "order", "swap"]
theorem sc_swapped : FnScope N_swapped p_swapped (defScope s_swapped) := ⟨rfl, rfl, rfl, by decide +kernel, rfl, by decide +kernel, by decide +kernel⟩
theorem b_swapped : BindsT "swapped" s_swapped p_swapped := fun _ _ _ _ _ _ us hl => match us, hl with | [_, _, _], _ => rfl
abbrev s_gain_of : Stmt := top 27
abbrev N_gain_of : List Str := ["search", "order", "swap", "start", "middle", "end", "early", "soon", "late", "long"]
abbrev p_gain_of : List Str := ["search", "order", "swap"]
theorem sc_gain_of : FnScope N_gain_of p_gain_of (defScope s_gain_of) := ⟨rfl, rfl, rfl, by decide +kernel, rfl, by decide +kernel, by decide +kernel⟩
theorem b_gain_of : BindsT "gain_of" s_gain_of p_gain_of := fun _ _ _ _ _ _ us hl => match us, hl with | [_, _, _], _ => rfl
abbrev s_swap_gain : Stmt := top 28
abbrev N_swap_gain : List Str := ["search", "order", "swap"]
abbrev p_swap_gain : List Str := ["search", "order", "swap"]
theorem sc_swap_gain : FnScope N_swap_gain p_swap_gain (defScope s_swap_gain) := ⟨rfl, rfl, rfl, by decide +kernel, rfl, by decide +kernel, by decide +kernel⟩
theorem b_swap_gain : BindsT "swap_gain" s_swap_gain p_swap_gain := fun _ _ _ _ _ _ us hl => match us, hl with | [_, _, _], _ => rfl
abbrev s_places_above : Stmt := top 29
abbrev N_places_above : List Str := ["search", "order", "places", "place", "job", "cover"]
abbrev p_places_above : List Str := ["search", "order"]
theorem sc_places_above : FnScope N_places_above p_places_above (defScope s_places_above) := ⟨rfl, rfl, rfl, by decide +kernel, rfl, by decide +kernel, by decide +kernel⟩
theorem b_places_above : BindsT "places_above" s_places_above p_places_above := fun _ _ _ _ _ _ us hl => match us, hl with | [_, _], _ => rfl
abbrev s_better_end : Stmt := top 30
abbrev N_better_end : List Str := ["search", "order", "above", "start", "middle", "early", "soon", "late", "long", "place", "cover"]
abbrev p_better_end : List Str := ["search", "order", "above", "start", "middle"]
theorem sc_better_end : FnScope N_better_end p_better_end (defScope s_better_end) := ⟨rfl, rfl, rfl, by decide +kernel, rfl, by decide +kernel, by decide +kernel⟩
theorem b_better_end : BindsT "better_end" s_better_end p_better_end := fun _ _ _ _ _ _ us hl => match us, hl with | [_, _, _, _, _], _ => rfl
abbrev s_better_swap : Stmt := top 31
abbrev N_better_swap : List Str := ["search", "order", "above", "start", "middle", "end"]
abbrev p_better_swap : List Str := ["search", "order"]
theorem sc_better_swap : FnScope N_better_swap p_better_swap (defScope s_better_swap) := ⟨rfl, rfl, rfl, by decide +kernel, rfl, by decide +kernel, by decide +kernel⟩
theorem b_better_swap : BindsT "better_swap" s_better_swap p_better_swap := fun _ _ _ _ _ _ us hl => match us, hl with | [_, _], _ => rfl
abbrev s_is_least_order : Stmt := top 32
abbrev N_is_least_order : List Str := ["search", "value"]
abbrev p_is_least_order : List Str := ["search", "value"]
theorem sc_is_least_order : FnScope N_is_least_order p_is_least_order (defScope s_is_least_order) := ⟨rfl, rfl, rfl, by decide +kernel, rfl, by decide +kernel, by decide +kernel⟩
theorem b_is_least_order : BindsT "is_least_order" s_is_least_order p_is_least_order := fun _ _ _ _ _ _ us hl => match us, hl with | [_, _], _ => rfl
abbrev s_improving_swap : Stmt := top 33
abbrev N_improving_swap : List Str := ["search", "order"]
abbrev p_improving_swap : List Str := ["search", "order"]
theorem sc_improving_swap : FnScope N_improving_swap p_improving_swap (defScope s_improving_swap) := ⟨rfl, rfl, rfl, by decide +kernel, rfl, by decide +kernel, by decide +kernel⟩
theorem b_improving_swap : BindsT "improving_swap" s_improving_swap p_improving_swap := fun _ _ _ _ _ _ us hl => match us, hl with | [_, _], _ => rfl
abbrev s_is_improving_swap : Stmt := top 34
abbrev N_is_improving_swap : List Str := ["search", "order", "value"]
abbrev p_is_improving_swap : List Str := ["search", "order", "value"]
theorem sc_is_improving_swap : FnScope N_is_improving_swap p_is_improving_swap (defScope s_is_improving_swap) := ⟨rfl, rfl, rfl, by decide +kernel, rfl, by decide +kernel, by decide +kernel⟩
theorem b_is_improving_swap : BindsT "is_improving_swap" s_is_improving_swap p_is_improving_swap := fun _ _ _ _ _ _ us hl => match us, hl with | [_, _, _], _ => rfl
abbrev s_is_row : Stmt := top 36
abbrev N_is_row : List Str := ["value", "number", "above", "minutes"]
abbrev p_is_row : List Str := ["value", "number"]
theorem sc_is_row : FnScope N_is_row p_is_row (defScope s_is_row) := ⟨rfl, rfl, rfl, by decide +kernel, rfl, by decide +kernel, by decide +kernel⟩
theorem b_is_row : BindsT "is_row" s_is_row p_is_row := fun _ _ _ _ _ _ us hl => match us, hl with | [_, _], _ => rfl
abbrev s_are_rows : Stmt := top 37
abbrev N_are_rows : List Str := ["value", "number", "row"]
abbrev p_are_rows : List Str := ["value"]
theorem sc_are_rows : FnScope N_are_rows p_are_rows (defScope s_are_rows) := ⟨rfl, rfl, rfl, by decide +kernel, rfl, by decide +kernel, by decide +kernel⟩
theorem b_are_rows : BindsT "are_rows" s_are_rows p_are_rows := fun _ _ _ _ _ _ us hl => match us, hl with | [_], _ => rfl
abbrev s_paths_by : Stmt := top 38
abbrev N_paths_by : List Str := ["rows", "paths", "number", "above", "_"]
abbrev p_paths_by : List Str := ["rows"]
theorem sc_paths_by : FnScope N_paths_by p_paths_by (defScope s_paths_by) := ⟨rfl, rfl, rfl, by decide +kernel, rfl, by decide +kernel, by decide +kernel⟩
theorem b_paths_by : BindsT "paths_by" s_paths_by p_paths_by := fun _ _ _ _ _ _ us hl => match us, hl with | [_], _ => rfl
abbrev s_Covers___init__ : Stmt := inClass (top 39) 0
abbrev N_Covers___init__ : List Str := ["self", "rows"]
abbrev p_Covers___init__ : List Str := ["self", "rows"]
theorem sc_Covers___init__ : FnScope N_Covers___init__ p_Covers___init__ (defScope s_Covers___init__) := ⟨rfl, rfl, rfl, by decide +kernel, rfl, by decide +kernel, by decide +kernel⟩
theorem b_Covers___init__ : BindsI "Covers.__init__" s_Covers___init__ p_Covers___init__ := fun _ _ _ _ _ _ us hl => match us, hl with | [_, _], _ => rfl
abbrev s_Covers___len__ : Stmt := inClass (top 39) 2
abbrev N_Covers___len__ : List Str := ["self"]
abbrev p_Covers___len__ : List Str := ["self"]
theorem sc_Covers___len__ : FnScope N_Covers___len__ p_Covers___len__ (defScope s_Covers___len__) := ⟨rfl, rfl, rfl, by decide +kernel, rfl, by decide +kernel, by decide +kernel⟩
abbrev s_Covers___contains__ : Stmt := inClass (top 39) 3
abbrev N_Covers___contains__ : List Str := ["self", "value"]
abbrev p_Covers___contains__ : List Str := ["self", "value"]
theorem sc_Covers___contains__ : FnScope N_Covers___contains__ p_Covers___contains__ (defScope s_Covers___contains__) := ⟨rfl, rfl, rfl, by decide +kernel, rfl, by decide +kernel, by decide +kernel⟩
abbrev s__law_cell : Stmt := top 41
abbrev N__law_cell : List Str := ["script", "k"]
abbrev p__law_cell : List Str := ["script", "k"]
theorem sc__law_cell : FnScope N__law_cell p__law_cell (defScope s__law_cell) := ⟨rfl, rfl, rfl, by decide +kernel, rfl, by decide +kernel, by decide +kernel⟩
theorem b__law_cell : BindsT "_law_cell" s__law_cell p__law_cell := fun _ _ _ _ _ _ us hl => match us, hl with | [_, _], _ => rfl
abbrev s__law_box : Stmt := top 42
abbrev N__law_box : List Str := ["great"]
abbrev p__law_box : List Str := ["great"]
theorem sc__law_box : FnScope N__law_box p__law_box (defScope s__law_box) := ⟨rfl, rfl, rfl, by decide +kernel, rfl, by decide +kernel, by decide +kernel⟩
theorem b__law_box : BindsT "_law_box" s__law_box p__law_box := fun _ _ _ _ _ _ us hl => match us, hl with | [_], _ => rfl
abbrev s__law_take : Stmt := top 43
abbrev N__law_take : List Str := ["box", "many", "digit"]
abbrev p__law_take : List Str := ["box", "many"]
theorem sc__law_take : FnScope N__law_take p__law_take (defScope s__law_take) := ⟨rfl, rfl, rfl, by decide +kernel, rfl, by decide +kernel, by decide +kernel⟩
theorem b__law_take : BindsT "_law_take" s__law_take p__law_take := fun _ _ _ _ _ _ us hl => match us, hl with | [_, _], _ => rfl
abbrev s__law_drawn : Stmt := top 44
abbrev N__law_drawn : List Str := ["box", "covers", "looks", "most", "rows", "shape", "k", "at"]
abbrev p__law_drawn : List Str := ["box", "covers", "looks", "most"]
theorem sc__law_drawn : FnScope N__law_drawn p__law_drawn (defScope s__law_drawn) := ⟨rfl, rfl, rfl, by decide +kernel, rfl, by decide +kernel, by decide +kernel⟩
theorem b__law_drawn : BindsT "_law_drawn" s__law_drawn p__law_drawn := fun _ _ _ _ _ _ us hl => match us, hl with | [_, _, _, _], _ => rfl
abbrev s__law_order : Stmt := top 45
abbrev N__law_order : List Str := ["box", "rows", "order", "turn", "ready", "j"]
abbrev p__law_order : List Str := ["box", "rows"]
theorem sc__law_order : FnScope N__law_order p__law_order (defScope s__law_order) := ⟨rfl, rfl, rfl, by decide +kernel, rfl, by decide +kernel, by decide +kernel⟩
theorem b__law_order : BindsT "_law_order" s__law_order p__law_order := fun _ _ _ _ _ _ us hl => match us, hl with | [_, _], _ => rfl
abbrev s__law_small : Stmt := top 46
abbrev N__law_small : List Str := ["box", "kind", "deep", "first", "covers", "rows", "chain", "k"]
abbrev p__law_small : List Str := ["box"]
theorem sc__law_small : FnScope N__law_small p__law_small (defScope s__law_small) := ⟨rfl, rfl, rfl, by decide +kernel, rfl, by decide +kernel, by decide +kernel⟩
theorem b__law_small : BindsT "_law_small" s__law_small p__law_small := fun _ _ _ _ _ _ us hl => match us, hl with | [_], _ => rfl
abbrev s__law_cost : Stmt := top 47
abbrev N__law_cost : List Str := ["rows", "order", "cost", "minutes", "j"]
abbrev p__law_cost : List Str := ["rows", "order"]
theorem sc__law_cost : FnScope N__law_cost p__law_cost (defScope s__law_cost) := ⟨rfl, rfl, rfl, by decide +kernel, rfl, by decide +kernel, by decide +kernel⟩
theorem b__law_cost : BindsT "_law_cost" s__law_cost p__law_cost := fun _ _ _ _ _ _ us hl => match us, hl with | [_, _], _ => rfl
abbrev s__law_least : Stmt := top 48
abbrev N__law_least : List Str := ["rows", "many", "full", "best", "done", "minutes", "j", "after", "cost"]
abbrev p__law_least : List Str := ["rows"]
theorem sc__law_least : FnScope N__law_least p__law_least (defScope s__law_least) := ⟨rfl, rfl, rfl, by decide +kernel, rfl, by decide +kernel, by decide +kernel⟩
theorem b__law_least : BindsT "_law_least" s__law_least p__law_least := fun _ _ _ _ _ _ us hl => match us, hl with | [_], _ => rfl
abbrev s__law_merged : Stmt := top 49
abbrev N__law_merged : List Str := ["rows", "groups", "home", "order", "j", "turn", "best", "group", "above", "head", "old"]
abbrev p__law_merged : List Str := ["rows"]
theorem sc__law_merged : FnScope N__law_merged p__law_merged (defScope s__law_merged) := ⟨rfl, rfl, rfl, by decide +kernel, rfl, by decide +kernel, by decide +kernel⟩
theorem b__law_merged : BindsT "_law_merged" s__law_merged p__law_merged := fun _ _ _ _ _ _ us hl => match us, hl with | [_], _ => rfl
abbrev s__law_is_swap : Stmt := top 50
abbrev N__law_is_swap : List Str := ["rows", "order", "value", "item", "start", "middle", "end", "j", "above", "turn"]
abbrev p__law_is_swap : List Str := ["rows", "order", "value"]
theorem sc__law_is_swap : FnScope N__law_is_swap p__law_is_swap (defScope s__law_is_swap) := ⟨rfl, rfl, rfl, by decide +kernel, rfl, by decide +kernel, by decide +kernel⟩
theorem b__law_is_swap : BindsT "_law_is_swap" s__law_is_swap p__law_is_swap := fun _ _ _ _ _ _ us hl => match us, hl with | [_, _, _], _ => rfl
abbrev s__law_after : Stmt := top 51
abbrev N__law_after : List Str := ["order", "swap", "start", "middle", "end"]
abbrev p__law_after : List Str := ["order", "swap"]
theorem sc__law_after : FnScope N__law_after p__law_after (defScope s__law_after) := ⟨rfl, rfl, rfl, by decide +kernel, rfl, by decide +kernel, by decide +kernel⟩
theorem b__law_after : BindsT "_law_after" s__law_after p__law_after := fun _ _ _ _ _ _ us hl => match us, hl with | [_, _], _ => rfl
abbrev s__law_asked : Stmt := top 52
abbrev N__law_asked : List Str := ["word", "search", "order", "last", "by_name", "e"]
abbrev p__law_asked : List Str := ["word", "search", "order", "last", "by_name"]
theorem sc__law_asked : FnScope N__law_asked p__law_asked (defScope s__law_asked) := ⟨rfl, rfl, rfl, by decide +kernel, rfl, by decide +kernel, by decide +kernel⟩
theorem b__law_asked : BindsT "_law_asked" s__law_asked p__law_asked := fun _ _ _ _ _ _ us hl => match us, hl with | [_, _, _, _, _], _ => rfl
abbrev s__law_yes : Stmt := top 53
abbrev N__law_yes : List Str := ["told", "due"]
abbrev p__law_yes : List Str := ["told", "due"]
theorem sc__law_yes : FnScope N__law_yes p__law_yes (defScope s__law_yes) := ⟨rfl, rfl, rfl, by decide +kernel, rfl, by decide +kernel, by decide +kernel⟩
theorem b__law_yes : BindsT "_law_yes" s__law_yes p__law_yes := fun _ _ _ _ _ _ us hl => match us, hl with | [_, _], _ => rfl
abbrev s__law_number : Stmt := top 54
abbrev N__law_number : List Str := ["told", "due"]
abbrev p__law_number : List Str := ["told", "due"]
theorem sc__law_number : FnScope N__law_number p__law_number (defScope s__law_number) := ⟨rfl, rfl, rfl, by decide +kernel, rfl, by decide +kernel, by decide +kernel⟩
theorem b__law_number : BindsT "_law_number" s__law_number p__law_number := fun _ _ _ _ _ _ us hl => match us, hl with | [_, _], _ => rfl
abbrev s__law_step : Stmt := top 55
abbrev N__law_step : List Str := ["world", "order", "least", "by_name", "rows", "search", "passed", "cost", "long", "told", "after", "gain", "exchanged"]
abbrev p__law_step : List Str := ["world", "order", "least", "by_name"]
theorem sc__law_step : FnScope N__law_step p__law_step (defScope s__law_step) := ⟨rfl, rfl, rfl, by decide +kernel, rfl, by decide +kernel, by decide +kernel⟩
theorem b__law_step : BindsT "_law_step" s__law_step p__law_step := fun _ _ _ _ _ _ us hl => match us, hl with | [_, _, _, _], _ => rfl
abbrev s__law_descent_right : Stmt := top 56
abbrev N__law_descent_right : List Str := ["world", "order", "least", "rounds", "whole", "by_name", "turn", "step"]
abbrev p__law_descent_right : List Str := ["world", "order", "least", "rounds", "whole", "by_name"]
theorem sc__law_descent_right : FnScope N__law_descent_right p__law_descent_right (defScope s__law_descent_right) := ⟨rfl, rfl, rfl, by decide +kernel, rfl, by decide +kernel, by decide +kernel⟩
theorem b__law_descent_right : BindsT "_law_descent_right" s__law_descent_right p__law_descent_right := fun _ _ _ _ _ _ us hl => match us, hl with | [_, _, _, _, _, _], _ => rfl
abbrev s__law_span : Stmt := top 57
abbrev N__law_span : List Str := ["box", "many", "start", "middle"]
abbrev p__law_span : List Str := ["box", "many"]
theorem sc__law_span : FnScope N__law_span p__law_span (defScope s__law_span) := ⟨rfl, rfl, rfl, by decide +kernel, rfl, by decide +kernel, by decide +kernel⟩
theorem b__law_span : BindsT "_law_span" s__law_span p__law_span := fun _ _ _ _ _ _ us hl => match us, hl with | [_, _], _ => rfl
abbrev s__law_odd_right : Stmt := top 58
abbrev N__law_odd_right : List Str := ["box", "world", "order", "by_name", "rows", "search", "turn", "odd", "value", "gain", "start", "middle", "end", "right", "passed", "told", "more"]
abbrev p__law_odd_right : List Str := ["box", "world", "order", "by_name"]
theorem sc__law_odd_right : FnScope N__law_odd_right p__law_odd_right (defScope s__law_odd_right) := ⟨rfl, rfl, rfl, by decide +kernel, rfl, by decide +kernel, by decide +kernel⟩
theorem b__law_odd_right : BindsT "_law_odd_right" s__law_odd_right p__law_odd_right := fun _ _ _ _ _ _ us hl => match us, hl with | [_, _, _, _], _ => rfl
abbrev s__law_search : Stmt := top 59
abbrev N__law_search : List Str := ["rows", "by_name", "covers", "row", "looks"]
abbrev p__law_search : List Str := ["rows", "by_name"]
theorem sc__law_search : FnScope N__law_search p__law_search (defScope s__law_search) := ⟨rfl, rfl, rfl, by decide +kernel, rfl, by decide +kernel, by decide +kernel⟩
theorem b__law_search : BindsT "_law_search" s__law_search p__law_search := fun _ _ _ _ _ _ us hl => match us, hl with | [_, _], _ => rfl
abbrev s__law_great_right : Stmt := top 60
abbrev N__law_great_right : List Str := ["box", "by_name", "covers", "rows", "order", "world", "least", "turn", "span"]
abbrev p__law_great_right : List Str := ["box", "by_name"]
theorem sc__law_great_right : FnScope N__law_great_right p__law_great_right (defScope s__law_great_right) := ⟨rfl, rfl, rfl, by decide +kernel, rfl, by decide +kernel, by decide +kernel⟩
theorem b__law_great_right : BindsT "_law_great_right" s__law_great_right p__law_great_right := fun _ _ _ _ _ _ us hl => match us, hl with | [_, _], _ => rfl
abbrev s__law_cell_right : Stmt := top 61
abbrev N__law_cell_right : List Str := ["box", "great", "by_name", "rows", "order", "world", "least"]
abbrev p__law_cell_right : List Str := ["box", "great"]
theorem sc__law_cell_right : FnScope N__law_cell_right p__law_cell_right (defScope s__law_cell_right) := ⟨rfl, rfl, rfl, by decide +kernel, rfl, by decide +kernel, by decide +kernel⟩
theorem b__law_cell_right : BindsT "_law_cell_right" s__law_cell_right p__law_cell_right := fun _ _ _ _ _ _ us hl => match us, hl with | [_, _], _ => rfl
abbrev s_law : Stmt := top 62
abbrev N_law : List Str := ["script", "k"]
abbrev p_law : List Str := ["script"]
theorem sc_law : FnScope N_law p_law (defScope s_law) := ⟨rfl, rfl, rfl, by decide +kernel, rfl, by decide +kernel, by decide +kernel⟩
theorem b_law : BindsT "law" s_law p_law := fun _ _ _ _ _ _ us hl => match us, hl with | [_], _ => rfl
/-- what else the top has: the built-in names are not bound, the two classes -/
structure Txt (K : PySem.W.Frag) (mg : Str → Option Value) (CS CC : Addr) : Prop where
  len : mg "len" = none
  isinstance : mg "isinstance" = none
  sum : mg "sum" = none
  any : mg "any" = none
  all : mg "all" = none
  range : mg "range" = none
  list : mg "list" = none
  tuple : mg "tuple" = none
  int : mg "int" = none
  abs : mg "abs" = none
  repr : mg "repr" = none
  min : mg "min" = none
  max : mg "max" = none
  enumerate : mg "enumerate" = none
  reversed : mg "reversed" = none
  bool : mg "bool" = none
  clS : Cls K CS
  clC : Cls K CC
  nSr : NoAttr K CS "rows"
  nSc : NoAttr K CS "covers"
  nSi : NoAttr K CS "inspections"
  nSa : NoAttr K CS "above"
  nCr : NoAttr K CC "rows"
  nCp : NoAttr K CC "paths"

end Cw
end

/-! text C93_data -/
section
set_option Elab.async false
set_option linter.all false
set_option maxRecDepth 100000
set_option maxHeartbeats 4000000
namespace Cw
open PySem PySem.Spec PyProof.Rows L2
local macro_rules | `(tactic| walk_at "go1") => `(tactic| with_reducible first
  | refine w_seq ?_ | refine w_asgN ?_ | refine w_asgG ?_ | refine w_drop ?_ | refine w_ret ?_ | refine w_if ?_ | refine w_next ?_
  | refine w_var rfl ?_ | refine w_c ?_ | refine w_op ?_ | refine w_un ?_ | refine w_cb ?_ | refine w_cons ?_ | refine w_nil ?_ | refine w_call ?_
  | refine w_test ?_ | refine w_tB ?_ | refine w_bl ?_ | refine w_and ?_ | refine w_or ?_ | refine w_not ?_ | refine w_andV ?_ | refine w_orV ?_ | refine w_notV ?_ | refine w_ifE ?_ | refine w_blv ?_
  | refine w_I0 ?_ | refine w_eqI ?_ | refine w_neI ?_ | refine w_isN ?_ | refine w_notN ?_ | refine w_chain ?_ | refine w_for ?_ | refine w_iSeq ?_ | refine w_iR1 ?_ | refine w_iR2 ?_ | refine w_lc ?_
  | refine w_tupS ?_ | refine w_lstS ?_ | refine w_gN ?_ | refine w_gCons ?_ | refine w_gNil ?_ | refine w_aug rfl ?_ | refine w_ip ?_ | refine w_par ?_ | refine w_par2 ?_ | refine w_par3 ?_ | refine w_par33 ?_ | refine w_small (by decide) ?_ | refine w_bmL ?_ | refine w_gSub ?_)
local macro_rules | `(tactic| walk_at "hp") => `(tactic| (first | assumption | exact g_at (by assumption) | exact g_cat (by assumption) | (refine g_same (by assumption) ?_ ; walk_at "hp") | (refine g_new (by assumption) ?_ ; walk_at "hp") | (refine q_same (by assumption) ?_ ; walk_at "hp") | (refine q_new (by assumption) ?_ ; walk_at "hp")))
local macro_rules | `(tactic| walk_at "go") => `(tactic| repeat' walk_at "go1")
local macro_rules | `(tactic| walk_at "st") => `(tactic| simp only [cxK, L2.start, List.map_cons, List.map_nil, List.length_cons, List.length_nil, Nat.reduceAdd, Nat.reduceSub, List.replicate, List.cons_append, List.nil_append])

--import base_text
/-! The data: rows of jobs, orders, searches, boxes. -/
abbrev Row := Option Nat × Int × Int
def optV : Option Nat → V
  | none => .non
  | some a => .int (a : Int)
def rowV (r : Row) : List V := [optV r.1, .int r.2.1, .int r.2.2]
def iv (l : List Nat) : List V := l.map fun (n : Nat) => V.int (n : Int)
def pR (rows : List Row) (j : Nat) : Int := (rows.getD j (none, 0, 0)).2.1
def wR (rows : List Row) (j : Nat) : Int := (rows.getD j (none, 0, 0)).2.2
def parR (rows : List Row) (j : Nat) : Option Nat := (rows.getD j (none, 0, 0)).1
def RowsV (H : Hp) (vs : List V) (rows : List Row) : Prop := vs.length = rows.length ∧ ∀ (i : Nat) (r : Row), rows[i]? = some r → ∃ a : Addr, (vs[i]? : Option V) = some (V.ref a) ∧ H a = some (HO.tup (rowV r))
/-- rows that are a search's: parents come first, minutes from 1 on, all small -/
structure WfR (rows : List Row) : Prop where
  len : rows.length ≤ 100
  par : ∀ j a, parR rows j = some a → a < j
  p0 : ∀ j, 0 ≤ pR rows j ∧ pR rows j ≤ 1000000
  w0 : ∀ j, 0 ≤ wR rows j ∧ wR rows j ≤ 1000000
  p1 : ∀ j, j < rows.length → 1 ≤ pR rows j
theorem getD_of {rows : List Row} {j : Nat} {r : Row} (e : rows[j]? = some r) : pR rows j = r.2.1 ∧ wR rows j = r.2.2 ∧ parR rows j = r.1 := by
  unfold pR wR parR
  rw [List.getD_eq_getElem?_getD, e]
  exact ⟨rfl, rfl, rfl⟩
theorem row_at {H : Hp} {vs : List V} {rows : List Row} (h : RowsV H vs rows) {j : Nat} (hj : j < rows.length) : ∃ a : Addr, vs[j]? = some (V.ref a) ∧ H a = some (HO.tup [optV (parR rows j), .int (pR rows j), .int (wR rows j)]) := by
  obtain ⟨a, h1, h2⟩ := h.2 j rows[j] (by simp [hj])
  obtain ⟨e1, e2, e3⟩ := getD_of (rows := rows) (j := j) (r := rows[j]) (by simp [hj])
  exact ⟨a, h1, by rw [e1, e2, e3]; exact h2⟩
/-- tuples stay -/
def TupS (H H' : Hp) : Prop := ∀ a xs, H a = some (.tup xs) → H' a = some (.tup xs)
theorem TupS.of {H H' : Hp} (s : Same H H') : TupS H H' := fun a xs e => s a _ e
theorem TupS.but {H H' : Hp} {b : Addr} {o : HO} (s : But b H H') (h : H b = some o) (n : ∀ xs, o ≠ .tup xs) : TupS H H' := fun a xs e => s a _ (fun z => by
  subst z
  rw [h] at e
  exact n xs (Option.some.inj e)) e
theorem TupS.trans {H H1 H2 : Hp} (s : TupS H H1) (t : TupS H1 H2) : TupS H H2 := fun a xs e => t a xs (s a xs e)
theorem TupS.refl (H : Hp) : TupS H H := fun _ _ e => e
theorem RowsV.tups {H H' : Hp} {vs : List V} {rows : List Row} (s : TupS H H') (h : RowsV H vs rows) : RowsV H' vs rows :=
  ⟨h.1, fun i r e => let ⟨a, h1, h2⟩ := h.2 i r e; ⟨a, h1, s _ _ h2⟩⟩
theorem RowsV.same {H H' : Hp} {vs : List V} {rows : List Row} (s : Same H H') (h : RowsV H vs rows) : RowsV H' vs rows := h.tups (.of s)
theorem iv_at {js : List Nat} {i : Nat} {x : V} (h : (iv js)[i]? = some x) : ∃ j, js[i]? = some j ∧ x = .int (j : Int) ∧ i < js.length := by
  unfold iv at h
  rw [List.getElem?_map] at h
  cases e : js[i]? with
  | none => rw [e] at h; cases h
  | some j => rw [e] at h; exact ⟨j, rfl, (Option.some.inj h).symm, (List.getElem?_eq_some_iff.mp e).1⟩
theorem iv_get {js : List Nat} {i j : Nat} (h : js[i]? = some j) : (iv js)[i]? = some (.int (j : Int)) := by
  unfold iv
  rw [List.getElem?_map, h]
  rfl
theorem iv_length (js : List Nat) : (iv js).length = js.length := by unfold iv; rw [List.length_map]
theorem iv_append (a b : List Nat) : iv (a ++ b) = iv a ++ iv b := by unfold iv; rw [List.map_append]
theorem take_at {js : List Nat} {i j : Nat} (h : js[i]? = some j) : js.take (i + 1) = js.take i ++ [j] := by
  rw [List.take_add_one, h]; rfl
/-- the jobs above a job, the outermost first -/
def ancF (rows : List Row) : Nat → Nat → List Nat
  | 0, _ => []
  | n + 1, j => match parR rows j with
    | none => []
    | some a => ancF rows n a ++ [a]
def anc (rows : List Row) (j : Nat) : List Nat := ancF rows (j + 1) j
theorem ancF_more {rows : List Row} (w : ∀ j a, parR rows j = some a → a < j) : ∀ (n m j : Nat), j < n → j < m → ancF rows n j = ancF rows m j := by
  intro n
  induction n with
  | zero => intro m j h; omega
  | succ n ih =>
    intro m j h1 h2
    cases m with
    | zero => omega
    | succ m =>
      simp only [ancF]
      cases e : parR rows j with
      | none => rfl
      | some a =>
        have := w j a e
        dsimp only
        rw [ih m a (by omega) (by omega)]
theorem anc_eq {rows : List Row} (w : ∀ j a, parR rows j = some a → a < j) (j : Nat) : anc rows j = match parR rows j with
    | none => []
    | some a => anc rows a ++ [a] := by
  unfold anc
  show (match parR rows j with | none => [] | some a => ancF rows j a ++ [a]) = _
  cases e : parR rows j with
  | none => rfl
  | some a =>
    have := w j a e
    dsimp only
    rw [ancF_more w j (a + 1) a this (by omega)]
theorem mem_anc {rows : List Row} (w : ∀ j a, parR rows j = some a → a < j) (c : Nat) : ∀ j, c ∈ anc rows j ↔ M93.Anc (parR rows) c j := by
  intro j
  induction j using Nat.strongRecOn with
  | ind j ih =>
    rw [anc_eq w]
    cases e : parR rows j with
    | none =>
      constructor
      · intro h; cases h
      · intro h
        cases h with
        | one q => rw [e] at q; cases q
        | up q _ => rw [e] at q; cases q
    | some a =>
      have hl := w j a e
      dsimp only
      rw [List.mem_append, List.mem_singleton, ih a hl]
      constructor
      · rintro (h | h)
        · exact .up e h
        · subst h; exact .one e
      · intro h
        cases h with
        | one q => rw [e] at q; cases q; exact Or.inr rfl
        | up q r => rw [e] at q; cases q; exact Or.inl r
/-- lists of jobs, each a tuple -/
def AboveV (H : Hp) (vs : List V) (rows : List Row) : Prop := vs.length = rows.length ∧ ∀ j, j < rows.length → ∃ a : Addr, (vs[j]? : Option V) = some (V.ref a) ∧ H a = some (HO.tup (iv (anc rows j)))
theorem AboveV.tups {H H' : Hp} {vs : List V} {rows : List Row} (s : TupS H H') (h : AboveV H vs rows) : AboveV H' vs rows :=
  ⟨h.1, fun j e => let ⟨a, h1, h2⟩ := h.2 j e; ⟨a, h1, s _ _ h2⟩⟩
/-- the search object at s -/
structure SearchF (CS : Addr) (H : Hp) (s : Addr) (rows : List Row) (dx cv tv rv av : Addr) (rvs avs : List V) : Prop where
  ob : H s = some (.ins CS dx [("covers", .ref cv), ("inspections", .ref tv), ("rows", .ref rv), ("above", .ref av)])
  rt : H rv = some (.tup rvs)
  rr : RowsV H rvs rows
  at' : H av = some (.tup avs)
  aa : AboveV H avs rows
def SearchAt (CS : Addr) (H : Hp) (s : Addr) (rows : List Row) : Prop := ∃ dx cv tv rv av rvs avs, SearchF CS H s rows dx cv tv rv av rvs avs
theorem SearchF.keep {CS : Addr} {H H' : Hp} {s : Addr} {rows : List Row} {dx cv tv rv av : Addr} {rvs avs : List V} (t : TupS H H') (k : ∀ o, H s = some o → H' s = some o) (h : SearchF CS H s rows dx cv tv rv av rvs avs) : SearchF CS H' s rows dx cv tv rv av rvs avs :=
  ⟨k _ h.ob, t _ _ h.rt, h.rr.tups t, t _ _ h.at', h.aa.tups t⟩
theorem SearchF.same {CS : Addr} {H H' : Hp} {s : Addr} {rows : List Row} {dx cv tv rv av : Addr} {rvs avs : List V} (t : Same H H') (h : SearchF CS H s rows dx cv tv rv av rvs avs) : SearchF CS H' s rows dx cv tv rv av rvs avs :=
  h.keep (.of t) fun o e => t _ o e
theorem SearchAt.same {CS : Addr} {H H' : Hp} {s : Addr} {rows : List Row} (t : Same H H') : SearchAt CS H s rows → SearchAt CS H' s rows :=
  fun ⟨dx, cv, tv, rv, av, rvs, avs, h⟩ => ⟨dx, cv, tv, rv, av, rvs, avs, h.same t⟩
/-- an order of all jobs -/
structure VO (rows : List Row) (js : List Nat) : Prop where
  perm : js.Perm (List.range rows.length)
  val : M93.valid (parR rows) [] js
theorem VO.lt {rows : List Row} {js : List Nat} (h : VO rows js) {j : Nat} (m : j ∈ js) : j < rows.length := List.mem_range.mp (h.perm.mem_iff.mp m)
theorem VO.len {rows : List Row} {js : List Nat} (h : VO rows js) : js.length = rows.length := by rw [h.perm.length_eq, List.length_range]
theorem VO.nd {rows : List Row} {js : List Nat} (h : VO rows js) : js.Nodup := h.perm.nodup_iff.mpr List.nodup_range
/-- what two indices cut out -/
theorem cut_mid (xs : List V) {a b : Nat} (h : a ≤ b) (hb : b ≤ xs.length) : cutV xs (some (a : Int)) (some (b : Int)) = (xs.drop a).take (b - a) := by
  unfold cutV
  rw [HT.sIx_nat, HT.sIx_nat, Nat.min_eq_left hb, Nat.min_eq_left (Nat.le_trans h hb)]
theorem cut_from (xs : List V) {a : Nat} (h : a ≤ xs.length) : cutV xs (some (a : Int)) none = xs.drop a := by
  unfold cutV
  rw [HT.sIx_nat, HT.sIx_none, Nat.min_eq_left h]
  exact List.take_of_length_le (by rw [List.length_drop]; exact Nat.le_refl _)
theorem cut_to (xs : List V) {b : Nat} (h : b ≤ xs.length) : cutV xs none (some (b : Int)) = xs.take b := by
  unfold cutV
  rw [HT.sIx_none, HT.sIx_nat, Nat.min_eq_left h, List.drop_zero, Nat.sub_zero]
theorem iv_cut (js : List Nat) (a b : Nat) : ((iv js).drop a).take b = iv ((js.drop a).take b) := by unfold iv; rw [← List.map_drop, ← List.map_take]
/-- xs[a:b] of a sequence, not the whole of it -/
theorem w_sl {K : PySem.W.Frag} {H : Hp} {p : Addr} {xs : List V} {Q : VK} {lo hi : Option Int} (h : Sq K H p xs) (n : ¬ (HT.sIx xs.length 0 lo = 0 ∧ HT.sIx xs.length xs.length hi = xs.length))
    (q : ∀ p' H', Same H H' → H p' = none → Sq K H' p' (cutV xs lo hi) → Q (.ref p') H') : rSlS K (.ref p) lo hi H Q := by
  rcases h with h | h
  · exact Or.inl ⟨p, xs, rfl, h, fun p' H' w => q p' H' w.1 w.2.1 (sq_l w.2.2)⟩
  · exact Or.inr ⟨p, xs, rfl, h, n, fun p' H' w => q p' H' w.1 w.2.1 (sq_t w.2.2)⟩

end Cw
end

/-! text C93_shapes -/
section
set_option Elab.async false
set_option linter.all false
set_option maxRecDepth 100000
set_option maxHeartbeats 4000000
namespace Cw
open PySem PySem.Spec PyProof.Rows L2
local macro_rules | `(tactic| walk_at "go1") => `(tactic| with_reducible first
  | refine w_seq ?_ | refine w_asgN ?_ | refine w_asgG ?_ | refine w_drop ?_ | refine w_ret ?_ | refine w_if ?_ | refine w_next ?_
  | refine w_var rfl ?_ | refine w_c ?_ | refine w_op ?_ | refine w_un ?_ | refine w_cb ?_ | refine w_cons ?_ | refine w_nil ?_ | refine w_call ?_
  | refine w_test ?_ | refine w_tB ?_ | refine w_bl ?_ | refine w_and ?_ | refine w_or ?_ | refine w_not ?_ | refine w_andV ?_ | refine w_orV ?_ | refine w_notV ?_ | refine w_ifE ?_ | refine w_blv ?_
  | refine w_I0 ?_ | refine w_eqI ?_ | refine w_neI ?_ | refine w_isN ?_ | refine w_notN ?_ | refine w_chain ?_ | refine w_for ?_ | refine w_iSeq ?_ | refine w_iR1 ?_ | refine w_iR2 ?_ | refine w_lc ?_
  | refine w_tupS ?_ | refine w_lstS ?_ | refine w_gN ?_ | refine w_gCons ?_ | refine w_gNil ?_ | refine w_aug rfl ?_ | refine w_ip ?_ | refine w_par ?_ | refine w_par2 ?_ | refine w_par3 ?_ | refine w_par33 ?_ | refine w_small (by decide) ?_ | refine w_bmL ?_ | refine w_gSub ?_)
local macro_rules | `(tactic| walk_at "hp") => `(tactic| (first | assumption | exact g_at (by assumption) | exact g_cat (by assumption) | (refine g_same (by assumption) ?_ ; walk_at "hp") | (refine g_new (by assumption) ?_ ; walk_at "hp") | (refine q_same (by assumption) ?_ ; walk_at "hp") | (refine q_new (by assumption) ?_ ; walk_at "hp")))
local macro_rules | `(tactic| walk_at "go") => `(tactic| repeat' walk_at "go1")
local macro_rules | `(tactic| walk_at "st") => `(tactic| simp only [cxK, L2.start, List.map_cons, List.map_nil, List.length_cons, List.length_nil, Nat.reduceAdd, Nat.reduceSub, List.replicate, List.cons_append, List.nil_append])

--import data
section
variable {K : PySem.W.Frag} {σ : L2.St} {H : Hp} {Q : VK} {x : V}
theorem w_isi {t n : String} {b : Bool} (c : kitB t n = some b) (ty : TyX K H x (.type t)) (q : Q (.bl b) H) : rIsi K [x, .ty n] H Q := ⟨x, .ty n, .type t, .type n, b, rfl, .ty n, ty, kit_ty c, q⟩
theorem w_isi2 {t n m : String} {b c : Bool} {tp : Addr} (h : H tp = some (.tup [.ty n, .ty m])) (cb : kitB t n = some b) (cc : kitB t m = some c) (ty : TyX K H x (.type t)) (q : Q (.bl (b || c)) H) : rIsiT K [x, .ref tp] H Q := by
  refine ⟨x, tp, _, .type t, [.type n, .type m], b || c, rfl, h, .cons (.ty n) (.cons (.ty m) .nil), ty, ?_, q⟩
  refine kitAny_cons (kit_ty cb) (fun e => ?_) (fun e => by rw [e]; rfl)
  refine kitAny_cons (kit_ty cc) (fun e2 => ?_) (fun e2 => by rw [e2]; simp)
  rw [e, e2]
  rfl
end
def spIsInteger (K : PySem.W.Frag) : Sp := fun vs H Q _ => ∃ v, vs = [v] ∧ ((∃ i, v = .int i ∧ Q (.bl true) H) ∨ ∃ b, v = .bl b ∧ Q (.bl false) H)
def spIsPositive (K : PySem.W.Frag) : Sp := fun vs H Q _ => ∃ i, vs = [.int i] ∧ Q (.bl (decide (1 ≤ i))) H
def spIsIndex (K : PySem.W.Frag) : Sp := fun vs H Q _ => ∃ i n, vs = [.int i, .int n] ∧ Q (.bl (decide (0 ≤ i) && decide (i < n))) H
/-- a list, a tuple -/
def spIsList (K : PySem.W.Frag) : Sp := fun vs H Q _ => ∃ a xs, vs = [V.ref a] ∧ (H a = some (.lst xs) ∨ H a = some (.tup xs)) ∧ ∀ H', Same H H' → Q (.bl true) H'
/-- what is_tuple says of a value -/
inductive TupK (H : Hp) : V → Int → Bool → Prop
  | tup {a : Addr} {xs : List V} {n : Int} (h : H a = some (.tup xs)) : TupK H (.ref a) n (decide ((xs.length : Int) = n))
  | lst {a : Addr} {xs : List V} {n : Int} (h : H a = some (.lst xs)) : TupK H (.ref a) n false
  | non {n : Int} : TupK H .non n false
  | str {s : Str} {n : Int} : TupK H (.str s) n false
def spIsTuple (K : PySem.W.Frag) : Sp := fun vs H Q _ => ∃ v n b, vs = [v, .int n] ∧ TupK H v n b ∧ Q (.bl b) H
section
variable {P : Program} {w : World} {K : PySem.W.Frag} {mg : Str → Option Value} {base : Heap} {CS CC : Addr}
theorem ok_is_integer (D : Df K mg "is_integer" s_is_integer) (T : Txt K mg CS CC) : Dn P w K mg base CX0 1 "is_integer" s_is_integer p_is_integer (spIsInteger K) := by
  refine dn_ok D sc_is_integer (fun vs H Q E h => by obtain ⟨_, rfl, _⟩ := h; rfl) fun f cdv A outer s H vs Q E hr h => ?_
  obtain ⟨v, rfl, h⟩ := h
  refine ⟨_, (pss_one (ps_ret (pe_and (pe_callB call_isi (by rfl) T.isinstance (by decide +kernel) (pa_cons (pv 0) (pa_cons (pe_bltn (v := V.ty "int") (u := .type "int") (by rfl) T.int (by decide +kernel) rfl) pa_nil))) (pe_one (pe_not (pe_callB call_isi (by rfl) T.isinstance (by decide +kernel) (pa_cons (pv 0) (pa_cons (pe_bltn (v := V.ty "bool") (u := .type "bool") (by rfl) T.bool (by decide +kernel) rfl) pa_nil)))))))), ?_⟩
  walk_at "st"
  walk_at "go"
  rcases h with ⟨i, rfl, q⟩ | ⟨b, rfl, q⟩
  · refine w_isi (t := "int") (b := true) (by decide +kernel) (.base (.int i)) ?_
    refine w_blv (iteT ?_)
    walk_at "go"
    refine w_isi (t := "int") (b := false) (by decide +kernel) (.base (.int i)) ?_
    walk_at "go"
    exact q
  · refine w_isi (t := "bool") (b := true) (by decide +kernel) (.base (.bl b)) ?_
    refine w_blv (iteT ?_)
    walk_at "go"
    refine w_isi (t := "bool") (b := true) (by decide +kernel) (.base (.bl b)) ?_
    walk_at "go"
    exact q
theorem ok_is_positive (D : Df K mg "is_positive" s_is_positive) (c_is_integer : Dn P w K mg base CX0 1 "is_integer" s_is_integer p_is_integer (spIsInteger K)) : Dn P w K mg base CX0 2 "is_positive" s_is_positive p_is_positive (spIsPositive K) := by
  refine dn_ok D sc_is_positive (fun vs H Q E h => by obtain ⟨_, rfl, _⟩ := h; rfl) fun f cdv A outer s H vs Q E hr h => ?_
  obtain ⟨i, rfl, q⟩ := h
  refine ⟨_, (pss_one (ps_ret (pe_and (pe_cD c_is_integer b_is_integer (hr.mono (by decide)) (by rfl) pass0 (pa_cons (pv 0) pa_nil)) (pe_one (pe_cmpR op_ge (pv 0) pe_int (nomark _)))))), ?_⟩
  walk_at "st"
  walk_at "go"
  refine ⟨_, rfl, Or.inl ⟨i, rfl, ?_⟩⟩
  refine w_blv (iteT ?_)
  walk_at "go"
  exact q
theorem ok_is_index (D : Df K mg "is_index" s_is_index) (c_is_integer : Dn P w K mg base CX0 1 "is_integer" s_is_integer p_is_integer (spIsInteger K)) : Dn P w K mg base CX0 2 "is_index" s_is_index p_is_index (spIsIndex K) := by
  refine dn_ok D sc_is_index (fun vs H Q E h => by obtain ⟨_, _, rfl, _⟩ := h; rfl) fun f cdv A outer s H vs Q E hr h => ?_
  obtain ⟨i, n, rfl, q⟩ := h
  refine ⟨_, (pss_one (ps_ret (pe_and (pe_cD c_is_integer b_is_integer (hr.mono (by decide)) (by rfl) pass0 (pa_cons (pv 0) pa_nil)) (pe_one (pe_chain op_le op_lt pe_int (pv 0) (pv 1)))))), ?_⟩
  walk_at "st"
  walk_at "go"
  refine ⟨_, rfl, Or.inl ⟨i, rfl, ?_⟩⟩
  refine w_blv (iteT ?_)
  walk_at "go"
  refine ite2 (fun h1 => ?_) (fun h1 => ?_)
  · walk_at "go"
    simpa [of_decide_eq_true h1] using q
  · have e : ¬ 0 ≤ i := fun z => h1 (decide_eq_true z)
    simpa [e] using q
theorem ok_is_list (D : Df K mg "is_list" s_is_list) (T : Txt K mg CS CC) : Dn P w K mg base CX0 1 "is_list" s_is_list p_is_list (spIsList K) := by
  refine dn_ok D sc_is_list (fun vs H Q E h => by obtain ⟨_, _, rfl, _⟩ := h; rfl) fun f cdv A outer s H vs Q E hr h => ?_
  obtain ⟨a, xs, rfl, h, q⟩ := h
  refine ⟨_, (pss_one (ps_ret (pe_callB call_isiT (by rfl) T.isinstance (by decide +kernel) (pa_cons (pv 0) (pa_cons (pe_tupS (pa_cons (pe_bltn (v := V.ty "list") (u := .type "list") (by rfl) T.list (by decide +kernel) rfl) (pa_cons (pe_bltn (v := V.ty "tuple") (u := .type "tuple") (by rfl) T.tuple (by decide +kernel) rfl) pa_nil))) pa_nil))))), ?_⟩
  walk_at "st"
  walk_at "go"
  intro p H1 n1
  walk_at "go"
  rcases h with h | h
  · refine w_isi2 (t := "list") (b := true) (c := false) (g_at n1) (by decide +kernel) (by decide +kernel) (.base (.lst (g_new n1 h))) ?_
    exact q _ n1.1
  · refine w_isi2 (t := "tuple") (b := false) (c := true) (g_at n1) (by decide +kernel) (by decide +kernel) (.base (.tup (g_new n1 h))) ?_
    exact q _ n1.1
theorem ok_is_tuple (D : Df K mg "is_tuple" s_is_tuple) (T : Txt K mg CS CC) : Dn P w K mg base CX0 1 "is_tuple" s_is_tuple p_is_tuple (spIsTuple K) := by
  refine dn_ok D sc_is_tuple (fun vs H Q E h => by obtain ⟨_, _, _, rfl, _⟩ := h; rfl) fun f cdv A outer s H vs Q E hr h => ?_
  obtain ⟨v, n, b, rfl, h, q⟩ := h
  refine ⟨_, (pss_one (ps_ret (pe_and (pe_callB call_isi (by rfl) T.isinstance (by decide +kernel) (pa_cons (pv 0) (pa_cons (pe_bltn (v := V.ty "tuple") (u := .type "tuple") (by rfl) T.tuple (by decide +kernel) rfl) pa_nil))) (pe_one (pe_cmpR op_eq (pe_callB call_lenQ (by rfl) T.len (by decide +kernel) (pa_cons (pv 0) pa_nil)) (pv 1) (nomark _)))))), ?_⟩
  walk_at "st"
  walk_at "go"
  cases h with
  | tup h =>
    refine w_isi (t := "tuple") (b := true) (by decide +kernel) (.base (.tup h)) ?_
    refine w_blv (iteT ?_)
    walk_at "go"
    refine w_len (q_t h) ?_
    walk_at "go"
    exact q
  | lst h =>
    refine w_isi (t := "list") (b := false) (by decide +kernel) (.base (.lst h)) ?_
    exact w_blv (iteF q)
  | non =>
    refine w_isi (t := "NoneType") (b := false) (by decide +kernel) (.base .non) ?_
    exact w_blv (iteF q)
  | str =>
    refine w_isi (t := "str") (b := false) (by decide +kernel) (.base (.str _)) ?_
    exact w_blv (iteF q)
end

end Cw
end

/-! text C93_beg -/
section
set_option Elab.async false
set_option linter.all false
set_option maxRecDepth 100000
set_option maxHeartbeats 4000000
namespace Cw
open PySem PySem.Spec PyProof.Rows L2
local macro_rules | `(tactic| walk_at "go1") => `(tactic| with_reducible first
  | refine w_seq ?_ | refine w_asgN ?_ | refine w_asgG ?_ | refine w_drop ?_ | refine w_ret ?_ | refine w_if ?_ | refine w_next ?_
  | refine w_var rfl ?_ | refine w_c ?_ | refine w_op ?_ | refine w_un ?_ | refine w_cb ?_ | refine w_cons ?_ | refine w_nil ?_ | refine w_call ?_
  | refine w_test ?_ | refine w_tB ?_ | refine w_bl ?_ | refine w_and ?_ | refine w_or ?_ | refine w_not ?_ | refine w_andV ?_ | refine w_orV ?_ | refine w_notV ?_ | refine w_ifE ?_ | refine w_blv ?_
  | refine w_I0 ?_ | refine w_eqI ?_ | refine w_neI ?_ | refine w_isN ?_ | refine w_notN ?_ | refine w_chain ?_ | refine w_for ?_ | refine w_iSeq ?_ | refine w_iR1 ?_ | refine w_iR2 ?_ | refine w_lc ?_
  | refine w_tupS ?_ | refine w_lstS ?_ | refine w_gN ?_ | refine w_gCons ?_ | refine w_gNil ?_ | refine w_aug rfl ?_ | refine w_ip ?_ | refine w_par ?_ | refine w_par2 ?_ | refine w_par3 ?_ | refine w_par33 ?_ | refine w_small (by decide) ?_ | refine w_bmL ?_ | refine w_gSub ?_)
local macro_rules | `(tactic| walk_at "hp") => `(tactic| (first | assumption | exact g_at (by assumption) | exact g_cat (by assumption) | (refine g_same (by assumption) ?_ ; walk_at "hp") | (refine g_new (by assumption) ?_ ; walk_at "hp") | (refine q_same (by assumption) ?_ ; walk_at "hp") | (refine q_new (by assumption) ?_ ; walk_at "hp")))
local macro_rules | `(tactic| walk_at "go") => `(tactic| repeat' walk_at "go1")
local macro_rules | `(tactic| walk_at "st") => `(tactic| simp only [cxK, L2.start, List.map_cons, List.map_nil, List.length_cons, List.length_nil, Nat.reduceAdd, Nat.reduceSub, List.replicate, List.cons_append, List.nil_append])

--import shapes
section
variable {K : PySem.W.Frag} {σ : L2.St} {H : Hp} {Q : VK} {te : TE} {f : Str}
theorem w_fl (h : te σ H fun x H1 => ∃ a C dx fs v, x = .ref a ∧ H1 a = some (.ins C dx fs) ∧ Cls K C ∧ NoAttr K C f ∧ fs.lookup f = some v ∧ Q v H1) : tFld K te f σ H Q := h
theorem lk_covers (a b c d : V) : ([("covers", a), ("inspections", b), ("rows", c), ("above", d)] : List (Str × V)).lookup ("covers" : Str) = some a := by
  simp [List.lookup]
theorem lk_rows (a b c d : V) : ([("covers", a), ("inspections", b), ("rows", c), ("above", d)] : List (Str × V)).lookup ("rows" : Str) = some c := by
  have h1 : (("rows" : Str) == "covers") = false := by decide +kernel
  have h2 : (("rows" : Str) == "inspections") = false := by decide +kernel
  simp [List.lookup, h1, h2]
theorem lk_above (a b c d : V) : ([("covers", a), ("inspections", b), ("rows", c), ("above", d)] : List (Str × V)).lookup ("above" : Str) = some d := by
  have h1 : (("above" : Str) == "covers") = false := by decide +kernel
  have h2 : (("above" : Str) == "inspections") = false := by decide +kernel
  have h3 : (("above" : Str) == "rows") = false := by decide +kernel
  simp [List.lookup, h1, h2, h3]
end
/-! methods by name -/
def Mn (P : Program) (w : World) (K : PySem.W.Frag) (mg : Str → Option Value) (base : Heap) (k : Nat) (C : Addr) (m q : Str) (st : Stmt) (ps : List Str) (sp : Sp) : Prop :=
  ∃ f fd, FunD K m q (defArgs st) (defBody st) (defScope st) [] [] f fd ∧ Meth K C m f ∧ FnOk P w K mg base CX0 k f fd ps sp
/-- the method as it stands -/
def Mf (K : PySem.W.Frag) (C : Addr) (m q : Str) (st : Stmt) : Prop := ∃ f fd, FunD K m q (defArgs st) (defBody st) (defScope st) [] [] f fd ∧ Meth K C m f
def BindsM (m q : Str) (st : Stmt) (ps : List Str) : Prop := ∀ (kV doc pm : Value) (an : Option Addr) (cdv ct : Value) (us : List Value), us.length = ps.length →
  bindArgs (PySem.W.fnOf m q (defArgs st) (defBody st) (defScope st) .none kV doc pm an cdv ct) ⟨us, []⟩ = pure (ps.zip us)
section
variable {X : Cx} {k : Nat} {C : Addr} {q : Str} {st : Stmt} {ps : List Str} {sp : Sp}
theorem call_lenD (d : Mn X.prog X.w X.K X.mg X.base k C "__len__" q st ps sp) (hb : BindsM "__len__" q st ps) (hr : Room (k + 1) X.A) : CallR X (.builtin "len") (rLenO C sp E0) := by
  obtain ⟨f, fd, F, m, G⟩ := d
  exact call_lenO m G hr (F.bindsN hb) pass0
theorem op_inD (d : Mn X.prog X.w X.K X.mg X.base k C "__contains__" q st ps sp) (hb : BindsM "__contains__" q st ps) (hr : Room k X.A) : OpR X (compareOp .In) (rInO false C sp E0) := by
  obtain ⟨f, fd, F, m, G⟩ := d
  exact op_inO m G hr (F.bindsN hb) pass0
theorem op_notInD (d : Mn X.prog X.w X.K X.mg X.base k C "__contains__" q st ps sp) (hb : BindsM "__contains__" q st ps) (hr : Room k X.A) : OpR X (compareOp .NotIn) (rInO true C sp E0) := by
  obtain ⟨f, fd, F, m, G⟩ := d
  exact op_notInO m G hr (F.bindsN hb) pass0
end
section
variable {P : Program} {w : World} {K : PySem.W.Frag} {mg : Str → Option Value} {base : Heap} {C : Addr} {k : Nat} {m q : Str} {st : Stmt} {N ps : List Str} {sp : Sp}
theorem mn_ok (D : Mf K C m q st) (S : FnScope N ps (defScope st)) (len : ∀ vs H Q E, sp vs H Q E → vs.length = ps.length)
    (body : ∀ (f : Addr) (cdv : Value) (A : Around) (outer : List Env) (s : Shared) (H : Hp) (vs : List V) (Q : VK) (E : XK), Room k (A.deeper (envOfC q (defScope st) s.heap.objs.size f cdv)) → sp vs H Q E →
      ∃ t, PSs (cxOf CX0 P w K mg base N q (defScope st) f cdv A outer s H E).nox (defBody st) t ∧ t { nx := fun _ H' => Q .non H', rt := Q } (start N vs) H) : Mn P w K mg base (k + 1) C m q st ps sp := by
  obtain ⟨f, fd, F, g⟩ := D
  refine ⟨f, fd, F, g, F.ok S len fun cdv A outer s H vs Q E hr h => ?_⟩
  obtain ⟨t, a, b⟩ := body f cdv A outer s H vs Q E hr h
  exact ⟨t, PSs.nox a, b⟩
end
theorem b_Search___len__ : BindsM "__len__" "Search.__len__" s_Search___len__ p_Search___len__ := fun _ _ _ _ _ _ us hl => match us, hl with | [_], _ => rfl
theorem b_Search___contains__ : BindsM "__contains__" "Search.__contains__" s_Search___contains__ p_Search___contains__ := fun _ _ _ _ _ _ us hl => match us, hl with | [_, _], _ => rfl
theorem b_Covers___len__ : BindsM "__len__" "Covers.__len__" s_Covers___len__ p_Covers___len__ := fun _ _ _ _ _ _ us hl => match us, hl with | [_], _ => rfl
def spSLen (CS : Addr) : Sp := fun vs H Q _ => ∃ s rows, vs = [V.ref s] ∧ SearchAt CS H s rows ∧ Q (.int (rows.length : Int)) H
def spSCon (CS : Addr) : Sp := fun vs H Q _ => ∃ s rows i, vs = [V.ref s, .int i] ∧ SearchAt CS H s rows ∧ Q (.bl (decide (0 ≤ i) && decide (i < rows.length))) H
/-- flags: which jobs are in a list -/
def flg (n : Nat) (l : List Nat) : List V := (List.range n).map fun j => V.bl (decide (j ∈ l))
theorem flg_len (n : Nat) (l : List Nat) : (flg n l).length = n := by unfold flg; rw [List.length_map, List.length_range]
theorem flg_get {n j : Nat} {l : List Nat} (h : j < n) : (flg n l)[j]? = some (.bl (decide (j ∈ l))) := by
  unfold flg
  rw [List.getElem?_map, List.getElem?_range h]
  rfl
theorem flg_set {n j : Nat} {l : List Nat} : (flg n l).set j (.bl true) = flg n (l ++ [j]) := by
  apply List.ext_getElem?
  intro i
  rw [List.getElem?_set, flg_len]
  by_cases hi : i < n
  · rw [flg_get hi, flg_get hi]
    by_cases e : j = i
    · subst e
      rw [if_pos rfl, if_pos hi]
      simp
    · rw [if_neg e]
      have e2 : ¬ i = j := fun z => e z.symm
      simp [e2]
  · have h1 : (flg n l)[i]? = none := List.getElem?_eq_none (by rw [flg_len]; omega)
    have h2 : (flg n (l ++ [j]))[i]? = none := List.getElem?_eq_none (by rw [flg_len]; omega)
    rw [h1, h2]
    by_cases e : j = i
    · subst e
      rw [if_pos rfl, if_neg hi]
    · rw [if_neg e]
theorem flg_nil (n : Nat) : (List.replicate n [V.bl false]).flatten = flg n [] := by
  unfold flg
  apply List.ext_getElem?
  intro i
  have e : (List.replicate n [V.bl false]).flatten = List.replicate n (V.bl false) := by
    induction n with
    | zero => rfl
    | succ n ih => simp [List.replicate_succ, ih]
  rw [e, List.getElem?_map]
  by_cases hi : i < n
  · rw [List.getElem?_replicate, if_pos hi, List.getElem?_range hi]; simp
  · rw [List.getElem?_eq_none (by simpa using hi), List.getElem?_eq_none (by simpa using hi)]; rfl
theorem valid_take {par : Nat → Option Nat} : ∀ {js : List Nat} {D : List Nat} {i j a : Nat}, M93.valid par D js → js[i]? = some j → par j = some a → a ∈ D ∨ a ∈ js.take i := by
  intro js
  induction js with
  | nil => intro D i j a _ h; simp at h
  | cons x r ih =>
    intro D i j a v h e
    cases i with
    | zero =>
      simp at h
      subst h
      exact Or.inl (v.1 a e)
    | succ i =>
      simp at h
      rcases ih v.2 h e with q | q
      · rcases List.mem_cons.mp q with q | q
        · exact Or.inr (by simp [q])
        · exact Or.inl q
      · exact Or.inr (by simp [q])
theorem nodup_take {js : List Nat} {i j : Nat} (n : js.Nodup) (h : js[i]? = some j) : j ∉ js.take i := by
  have hi := (List.getElem?_eq_some_iff.mp h).1
  have e : js = js.take i ++ (j :: js.drop (i + 1)) := by
    have h2 : js.drop i = j :: js.drop (i + 1) := by
      rw [List.drop_eq_getElem_cons hi]
      congr
      exact (List.getElem?_eq_some_iff.mp h).2
    rw [← h2, List.take_append_drop]
  rw [e] at n
  intro hm
  exact (List.nodup_append.mp n).2.2 j hm j (by simp) rfl
def spBeg (K : PySem.W.Frag) (CS : Addr) : Sp := fun vs H Q _ => ∃ s a xs rows js, vs = [V.ref s, .ref a] ∧ SearchAt CS H s rows ∧ WfR rows ∧ (H a = some (.lst xs) ∨ H a = some (.tup xs)) ∧ xs = iv js ∧ VO rows js ∧ ∀ H', Same H H' → Q (.bl true) H'
def spChk (K : PySem.W.Frag) (CS : Addr) : Sp := fun vs H Q _ => ∃ s a xs rows js, vs = [V.ref s, .ref a] ∧ SearchAt CS H s rows ∧ WfR rows ∧ (H a = some (.lst xs) ∨ H a = some (.tup xs)) ∧ xs = iv js ∧ VO rows js ∧ ∀ H', Same H H' → Q .non H'
theorem sq_or {K : PySem.W.Frag} {H : Hp} {a : Addr} {xs : List V} (h : H a = some (.lst xs) ∨ H a = some (.tup xs)) : Sq K H a xs := by
  rcases h with h | h
  · exact sq_l h
  · exact sq_t h
structure BegInv (rows : List Row) (js : List Nat) (s a d : Addr) (H0 : Hp) (i : Nat) (σ : L2.St) (H : Hp) : Prop where
  sl : ∃ x y, σ = [some (.ref s), some (.ref a), some (.ref d), x, y]
  st : Same H0 H
  dn : H d = some (.lst (flg rows.length (js.take i)))
section
variable {P : Program} {w : World} {K : PySem.W.Frag} {mg : Str → Option Value} {base : Heap} {CS CC : Addr}
theorem ok_slen (D : Mf K CS "__len__" "Search.__len__" s_Search___len__) (T : Txt K mg CS CC) : Mn P w K mg base 1 CS "__len__" "Search.__len__" s_Search___len__ p_Search___len__ (spSLen CS) := by
  refine mn_ok D sc_Search___len__ (fun vs H Q E h => by obtain ⟨_, _, rfl, _⟩ := h; rfl) fun f cdv A outer s H vs Q E hr h => ?_
  obtain ⟨s, rows, rfl, ⟨dx, cv, tv, rv, av, rvs, avs, F⟩, q⟩ := h
  refine ⟨_, (pss_one (ps_ret (pe_callB call_lenQ (by rfl) T.len (by decide +kernel) (pa_cons (pe_fld (pv 0) rfl) pa_nil)))), ?_⟩
  walk_at "st"
  walk_at "go"
  refine w_fl ?_
  walk_at "go"
  refine ⟨_, _, _, _, _, rfl, F.ob, T.clS, T.nSr, lk_rows _ _ _ _, ?_⟩
  walk_at "go"
  refine w_len (q_t F.rt) ?_
  rw [F.rr.1]
  exact q
theorem ok_scon (D : Mf K CS "__contains__" "Search.__contains__" s_Search___contains__) (T : Txt K mg CS CC) (c_is_index : Dn P w K mg base CX0 2 "is_index" s_is_index p_is_index (spIsIndex K)) :
    Mn P w K mg base 3 CS "__contains__" "Search.__contains__" s_Search___contains__ p_Search___contains__ (spSCon CS) := by
  refine mn_ok D sc_Search___contains__ (fun vs H Q E h => by obtain ⟨_, _, _, rfl, _⟩ := h; rfl) fun f cdv A outer s H vs Q E hr h => ?_
  obtain ⟨s, rows, i, rfl, ⟨dx, cv, tv, rv, av, rvs, avs, F⟩, q⟩ := h
  refine ⟨_, (pss_one (ps_ret (pe_cD c_is_index b_is_index (hr.mono (by decide)) (by rfl) pass0 (pa_cons (pv 1) (pa_cons (pe_callB call_lenQ (by rfl) T.len (by decide +kernel) (pa_cons (pe_fld (pv 0) rfl) pa_nil)) pa_nil))))), ?_⟩
  walk_at "st"
  walk_at "go"
  refine w_fl ?_
  walk_at "go"
  refine ⟨_, _, _, _, _, rfl, F.ob, T.clS, T.nSr, lk_rows _ _ _ _, ?_⟩
  walk_at "go"
  refine w_len (q_t F.rt) ?_
  walk_at "go"
  rw [F.rr.1]
  exact ⟨_, _, rfl, q⟩
theorem ok_is_beginning (D : Df K mg "is_beginning" s_is_beginning) (T : Txt K mg CS CC) (c_is_list : Dn P w K mg base CX0 1 "is_list" s_is_list p_is_list (spIsList K))
    (c_slen : Mn P w K mg base 1 CS "__len__" "Search.__len__" s_Search___len__ p_Search___len__ (spSLen CS)) (c_scon : Mn P w K mg base 3 CS "__contains__" "Search.__contains__" s_Search___contains__ p_Search___contains__ (spSCon CS)) :
    Dn P w K mg base CX0 4 "is_beginning" s_is_beginning p_is_beginning (spBeg K CS) := by
  refine dn_ok D sc_is_beginning (fun vs H Q E h => by obtain ⟨_, _, _, _, _, rfl, _⟩ := h; rfl) fun f cdv A outer s H vs Q E hr h => ?_
  obtain ⟨s, a, xs, rows, js, rfl, hS, wf, ha, rfl, vo, q⟩ := h
  refine ⟨_, (pss_cons (ps_if (pt_not (pt_val (pe_cD c_is_list b_is_list (hr.mono (by decide)) (by rfl) pass0 (pa_cons (pv 1) pa_nil)))) (pss_one (ps_ret pe_bl)) pss_nil)
      (pss_cons (ps_set (i := 2) sc_is_beginning.nd rfl (by first | exact Or.inl rfl | exact Or.inr rfl) (pe_op op_repS (pe_lstS (pa_cons pe_bl pa_nil)) (pe_callB (call_lenD c_slen b_Search___len__ (hr.mono (by decide))) (by rfl) T.len (by decide +kernel) (pa_cons (pv 0) pa_nil))))
      (pss_cons (ps_for PassesOwn.never rfl (pi_seq (pv 1)) (pg_name (i := 3) sc_is_beginning.nd rfl (by first | exact Or.inl rfl | exact Or.inr rfl)) (pss_cons (ps_if (PW.pt (pw_or (pt_cmpR (op_notInD c_scon b_Search___contains__ (hr.mono (by decide))) (pv 3) (pv 0) (by rfl)) (pw_or1 (pt_val (pe_ix ix_sq (pv 2) (pv 3) (fun _ _ => rfl)))))) (pss_one (ps_ret pe_bl)) pss_nil)
      (pss_cons (ps_set (i := 4) sc_is_beginning.nd rfl (by first | exact Or.inl rfl | exact Or.inr rfl) (pe_ix ix_sq (pe_ix ix_sq (pe_fld (pv 0) rfl) (pv 3) (fun _ _ => rfl)) pe_int (fun _ _ => rfl)))
      (pss_cons (ps_if (PW.pt (pw_and (pt_cmpR op_notNo (pv 4) pe_non (nomark _)) (pw_and1 (pt_not (pt_val (pe_ix ix_sq (pv 2) (pv 4) (fun _ _ => rfl))))))) (pss_one (ps_ret pe_bl)) pss_nil)
      (pss_one (ps_asg pe_bl (pg_sub (pv 2) (pv 3) set_s)))))))
      (pss_one (ps_ret pe_bl))))), ?_⟩
  walk_at "st"
  walk_at "go"
  refine ⟨_, _, rfl, ha, fun H1 s1 => ?_⟩
  walk_at "go"
  refine iteF ?_
  walk_at "go"
  intro p H2 n2
  walk_at "go"
  have hS2 : SearchAt CS H2 s rows := (hS.same s1).same n2.1
  obtain ⟨dx, cv, tv, rv, av, rvs, avs, F⟩ := id hS2
  refine ⟨_, _, _, rfl, F.ob, s, rows, rfl, hS2, (rows.length : Int), rfl, ⟨by omega, by have := wf.len; omega⟩, ?_⟩
  refine ⟨_, _, _, rfl, rfl, g_at n2, by omega, by have := wf.len; omega, (by have := wf.len; rw [sizeLine_eq]; simp; omega), fun d H3 n3 => ?_⟩
  walk_at "go"
  have nd2 : H2 d = none := n3.free
  have ha3 : H3 a = some (.lst (iv js)) ∨ H3 a = some (.tup (iv js)) := ha.imp (fun h => g_new n3 (g_new n2 (g_same s1 h))) (fun h => g_new n3 (g_new n2 (g_same s1 h)))
  have hsq : Sq K H3 a (iv js) := sq_or ha3
  have hd0 : H3 d = some (.lst (flg rows.length [])) := by rw [g_at n3, Int.toNat_natCast, flg_nil]
  have had : a ≠ d := fun z => by
    subst z
    rcases ha with h | h <;> (have := g_new n2 (g_same s1 h); rw [n3.free] at this; cases this)
  refine seq_for hsq (BegInv rows js s a d H2) ⟨⟨_, _, rfl⟩, n3.1, hd0⟩ (fun i σ' H' I o e => ?_) (fun i x σ' H' hx I => ?_) (fun σ' H' I => ?_)
  · have h2 : H2 a = some o := by
      rcases ha with h | h <;> (have h2 := g_new n2 (g_same s1 h); have h3 := g_new n3 h2; rw [e] at h3; rw [h2]; exact h3.symm)
    exact I.st _ _ h2
  · obtain ⟨⟨z, y, rfl⟩, st, dn⟩ := I
    obtain ⟨j, hj1, rfl, hil⟩ := iv_at hx
    have hjl := vo.lt (List.mem_of_getElem? hj1)
    have hS' : SearchAt CS H' s rows := hS2.same st
    obtain ⟨dx', cv', tv', rv', av', rvs', avs', F'⟩ := id hS'
    walk_at "go"
    refine ⟨_, _, _, rfl, F'.ob, s, rows, (j : Int), rfl, hS', _, rfl, ?_⟩
    have e1 : (decide ((0 : Int) ≤ (j : Int)) && decide ((j : Int) < (rows.length : Int))) = true := by
      simp; omega
    rw [e1]
    walk_at "go"
    refine iteF ?_
    walk_at "go"
    refine w_ixn (sq_l dn) (flg_get hjl) ?_
    have e2 : decide (j ∈ js.take i) = false := decide_eq_false (nodup_take vo.nd hj1)
    rw [e2]
    walk_at "go"
    refine iteF ?_
    walk_at "go"
    refine w_fl ?_
    walk_at "go"
    refine ⟨_, _, _, _, _, rfl, F'.ob, T.clS, T.nSr, lk_rows _ _ _ _, ?_⟩
    walk_at "go"
    obtain ⟨ra, hr1, hr2⟩ := row_at F'.rr hjl
    refine w_ixn (q_t F'.rt) hr1 ?_
    walk_at "go"
    refine w_ix (q_t hr2) rfl ?_
    walk_at "go"
    have fin : ∀ H'', Same H2 H' → ∀ σ'', (∃ x y, σ'' = [some (.ref s), some (.ref a), some (.ref d), x, y]) → Chg H' H'' d (.lst ((flg rows.length (js.take i)).set j (.bl true))) → BegInv rows js s a d H2 (i + 1) σ'' H'' := fun H'' st σ'' sl c =>
      ⟨sl, Same.mut st nd2 c.1, by rw [c.2, take_at hj1, flg_set]⟩
    cases ep : parR rows j with
    | none =>
      refine iteF ?_
      walk_at "go"
      refine iteF ?_
      walk_at "go"
      refine w_setS dn (by rw [flg_len]; exact hjl) fun H'' c => ?_
      exact fin H'' st _ ⟨_, _, rfl⟩ c
    | some b =>
      refine iteT ?_
      walk_at "go"
      have hbl : b < rows.length := Nat.lt_trans (wf.par j b ep) hjl
      have hbm : b ∈ js.take i := by
        rcases valid_take vo.val hj1 ep with q | q
        · cases q
        · exact q
      refine w_ixn (sq_l dn) (flg_get hbl) ?_
      rw [decide_eq_true hbm]
      walk_at "go"
      refine iteF ?_
      walk_at "go"
      refine w_setS dn (by rw [flg_len]; exact hjl) fun H'' c => ?_
      exact fin H'' st _ ⟨_, _, rfl⟩ c
  · obtain ⟨⟨z, y, rfl⟩, st, dn⟩ := I
    walk_at "go"
    exact q _ fun b o e => st _ _ (g_new n2 (g_same s1 e))
end

end Cw
end

/-! text C93_ord -/
section
set_option Elab.async false
set_option linter.all false
set_option maxRecDepth 100000
set_option maxHeartbeats 4000000
namespace Cw
open PySem PySem.Spec PyProof.Rows L2
local macro_rules | `(tactic| walk_at "go1") => `(tactic| with_reducible first
  | refine w_seq ?_ | refine w_asgN ?_ | refine w_asgG ?_ | refine w_drop ?_ | refine w_ret ?_ | refine w_if ?_ | refine w_next ?_
  | refine w_var rfl ?_ | refine w_c ?_ | refine w_op ?_ | refine w_un ?_ | refine w_cb ?_ | refine w_cons ?_ | refine w_nil ?_ | refine w_call ?_
  | refine w_test ?_ | refine w_tB ?_ | refine w_bl ?_ | refine w_and ?_ | refine w_or ?_ | refine w_not ?_ | refine w_andV ?_ | refine w_orV ?_ | refine w_notV ?_ | refine w_ifE ?_ | refine w_blv ?_
  | refine w_I0 ?_ | refine w_eqI ?_ | refine w_neI ?_ | refine w_isN ?_ | refine w_notN ?_ | refine w_chain ?_ | refine w_for ?_ | refine w_iSeq ?_ | refine w_iR1 ?_ | refine w_iR2 ?_ | refine w_lc ?_
  | refine w_tupS ?_ | refine w_lstS ?_ | refine w_gN ?_ | refine w_gCons ?_ | refine w_gNil ?_ | refine w_aug rfl ?_ | refine w_ip ?_ | refine w_par ?_ | refine w_par2 ?_ | refine w_par3 ?_ | refine w_par33 ?_ | refine w_small (by decide) ?_ | refine w_bmL ?_ | refine w_gSub ?_)
local macro_rules | `(tactic| walk_at "hp") => `(tactic| (first | assumption | exact g_at (by assumption) | exact g_cat (by assumption) | (refine g_same (by assumption) ?_ ; walk_at "hp") | (refine g_new (by assumption) ?_ ; walk_at "hp") | (refine q_same (by assumption) ?_ ; walk_at "hp") | (refine q_new (by assumption) ?_ ; walk_at "hp")))
local macro_rules | `(tactic| walk_at "go") => `(tactic| repeat' walk_at "go1")
local macro_rules | `(tactic| walk_at "st") => `(tactic| simp only [cxK, L2.start, List.map_cons, List.map_nil, List.length_cons, List.length_nil, Nat.reduceAdd, Nat.reduceSub, List.replicate, List.cons_append, List.nil_append])

--import beg
def spOrd (K : PySem.W.Frag) (CS : Addr) : Sp := spBeg K CS
/-- rows (a tuple or a list) and jobs -/
def spCostBy (K : PySem.W.Frag) : Sp := fun vs H Q _ => ∃ (a b : Addr) (rvs : List V) (rows : List Row) (js : List Nat), vs = [.ref a, .ref b] ∧ Sq K H a rvs ∧ RowsV H rvs rows ∧ Sq K H b (iv js) ∧ (∀ j ∈ js, j < rows.length) ∧ WfR rows ∧
  ∀ H', Same H H' → Q (.int (M93.cost (pR rows) (wR rows) 0 js)) H'
structure CostInv (rows : List Row) (js : List Nat) (a b : Addr) (H0 : Hp) (i : Nat) (σ : L2.St) (H : Hp) : Prop where
  sl : ∃ x, σ = [some (.ref a), some (.ref b), some (.int (M93.cost (pR rows) (wR rows) 0 (js.take i))), some (.int (M93.sm (pR rows) (js.take i))), x]
  st : Same H0 H
/-- a search and an order of it: a number -/
def spCostOf (K : PySem.W.Frag) (CS : Addr) : Sp := fun vs H Q _ => ∃ s a xs rows js, vs = [V.ref s, .ref a] ∧ SearchAt CS H s rows ∧ WfR rows ∧ (H a = some (.lst xs) ∨ H a = some (.tup xs)) ∧ xs = iv js ∧ VO rows js ∧ ∀ H', Same H H' → Q (.int (M93.cost (pR rows) (wR rows) 0 js)) H'
section
variable {P : Program} {w : World} {K : PySem.W.Frag} {mg : Str → Option Value} {base : Heap} {CS CC : Addr}
theorem ok_is_order (D : Df K mg "is_order" s_is_order) (T : Txt K mg CS CC) (c_is_beginning : Dn P w K mg base CX0 4 "is_beginning" s_is_beginning p_is_beginning (spBeg K CS))
    (c_slen : Mn P w K mg base 1 CS "__len__" "Search.__len__" s_Search___len__ p_Search___len__ (spSLen CS)) :
    Dn P w K mg base CX0 5 "is_order" s_is_order p_is_order (spBeg K CS) := by
  refine dn_ok D sc_is_order (fun vs H Q E h => by obtain ⟨_, _, _, _, _, rfl, _⟩ := h; rfl) fun f cdv A outer s H vs Q E hr h => ?_
  obtain ⟨s, a, xs, rows, js, rfl, hS, wf, ha, rfl, vo, q⟩ := h
  refine ⟨_, (pss_one (ps_ret (pe_and (pe_cD c_is_beginning b_is_beginning (hr.mono (by decide)) (by rfl) pass0 (pa_cons (pv 0) (pa_cons (pv 1) pa_nil))) (pe_one (pe_cmpR op_eq (pe_callB call_lenQ (by rfl) T.len (by decide +kernel) (pa_cons (pv 1) pa_nil)) (pe_callB (call_lenD c_slen b_Search___len__ (hr.mono (by decide))) (by rfl) T.len (by decide +kernel) (pa_cons (pv 0) pa_nil)) (nomark _)))))), ?_⟩
  walk_at "st"
  walk_at "go"
  refine ⟨_, _, _, _, _, rfl, hS, wf, ha, rfl, vo, fun H1 s1 => ?_⟩
  refine w_blv (iteT ?_)
  walk_at "go"
  refine w_len ((sq_or ha).same s1) ?_
  walk_at "go"
  have hS1 := hS.same s1
  obtain ⟨dx, cv, tv, rv, av, rvs, avs, F⟩ := id hS1
  refine ⟨_, _, _, rfl, F.ob, s, rows, rfl, hS1, _, rfl, ?_⟩
  refine ⟨⟨by omega, by have := wf.len; omega⟩, ?_⟩
  refine w_eqI ?_
  rw [iv_length, vo.len]
  simpa using q H1 s1
theorem ok_check_order (D : Df K mg "check_order" s_check_order) (T : Txt K mg CS CC) (c_is_order : Dn P w K mg base CX0 5 "is_order" s_is_order p_is_order (spBeg K CS)) :
    Dn P w K mg base CX0 6 "check_order" s_check_order p_check_order (spChk K CS) := by
  refine dn_ok D sc_check_order (fun vs H Q E h => by obtain ⟨_, _, _, _, _, rfl, _⟩ := h; rfl) fun f cdv A outer s H vs Q E hr h => ?_
  obtain ⟨s, a, xs, rows, js, rfl, hS, wf, ha, rfl, vo, q⟩ := h
  refine ⟨_, (pss_one (ps_if (pt_not (pt_val (pe_cD c_is_order b_is_order (hr.mono (by decide)) (by rfl) pass0 (pa_cons (pv 0) (pa_cons (pv 1) pa_nil))))) (pss_one ps_never) pss_nil)), ?_⟩
  walk_at "st"
  walk_at "go"
  refine ⟨_, _, _, _, _, rfl, hS, wf, ha, rfl, vo, fun H1 s1 => ?_⟩
  walk_at "go"
  refine iteF ?_
  walk_at "go"
  exact q H1 s1
theorem ok_cost_by (D : Df K mg "cost_by" s_cost_by) : Dn P w K mg base CX0 1 "cost_by" s_cost_by p_cost_by (spCostBy K) := by
  refine dn_ok D sc_cost_by (fun vs H Q E h => by obtain ⟨_, _, _, _, _, rfl, _⟩ := h; rfl) fun f cdv A outer s H vs Q E hr h => ?_
  obtain ⟨a, b, rvs, rows, js, rfl, ha, hrows, hb, hj, wf, k⟩ := h
  refine ⟨_, (pss_cons (ps_asg (pe_tupS (pa_cons pe_int (pa_cons pe_int pa_nil))) (pg_tup rfl (pgs_cons (pg_name (i := 2) sc_cost_by.nd rfl (by first | exact Or.inl rfl | exact Or.inr rfl)) (pgs_cons (pg_name (i := 3) sc_cost_by.nd rfl (by first | exact Or.inl rfl | exact Or.inr rfl)) pgs_nil))))
      (pss_cons (ps_for PassesOwn.never rfl (pi_seq (pv 1)) (pg_name (i := 4) sc_cost_by.nd rfl (by first | exact Or.inl rfl | exact Or.inr rfl)) (pss_cons (ps_aug (i := 3) sc_cost_by.nd rfl (by first | exact Or.inl rfl | exact Or.inr rfl) (pe_ix ix_sq (pe_ix ix_sq (pv 0) (pv 4) (fun _ _ => rfl)) pe_int (fun _ _ => rfl)) ip_add)
      (pss_one (ps_aug (i := 2) sc_cost_by.nd rfl (by first | exact Or.inl rfl | exact Or.inr rfl) (pe_op op_mul (pe_ix ix_sq (pe_ix ix_sq (pv 0) (pv 4) (fun _ _ => rfl)) pe_int (fun _ _ => rfl)) (pv 3)) ip_add))))
      (pss_one (ps_ret (pv 2))))), ?_⟩
  walk_at "st"
  walk_at "go"
  intro p H1 n1
  refine w_gTup (by walk_at "hp") rfl ?_
  walk_at "go"
  refine seq_for (q_new n1 hb) (CostInv rows js a b H1) ⟨⟨_, rfl⟩, fun _ _ e => e⟩ (fun i σ' H' I o e => I.st _ _ e) (fun i x σ' H' hx I => ?_) (fun σ' H' I => ?_)
  · obtain ⟨⟨z, rfl⟩, st⟩ := I
    obtain ⟨j, hj1, rfl, _⟩ := iv_at hx
    have hjl := hj j (List.mem_of_getElem? hj1)
    obtain ⟨q, hq1, hq2⟩ := row_at ((hrows.same n1.1).same st) hjl
    walk_at "go"
    refine w_ixn (by walk_at "hp") hq1 ?_
    walk_at "go"
    refine w_ix (q_t hq2) rfl ?_
    walk_at "go"
    refine w_ixn (by walk_at "hp") hq1 ?_
    walk_at "go"
    refine w_ix (q_t hq2) rfl ?_
    walk_at "go"
    have b1 := wf.w0 j
    refine w_I (Or.inl (by omega)) ?_
    walk_at "go"
    refine ⟨⟨some (.int (j : Int)), ?_⟩, st⟩
    rw [take_at hj1, M93.cost_append, M93.sm_append]
    simp [M93.cost, M93.sm]
  · obtain ⟨⟨z, rfl⟩, st⟩ := I
    walk_at "go"
    have e := k H' (fun a o h => st a o (n1.1 a o h))
    rw [iv_length, List.take_length]
    exact e
theorem ok_cost_of (D : Df K mg "cost_of" s_cost_of) (T : Txt K mg CS CC) (c_check_order : Dn P w K mg base CX0 6 "check_order" s_check_order p_check_order (spChk K CS)) (c_cost_by : Dn P w K mg base CX0 1 "cost_by" s_cost_by p_cost_by (spCostBy K)) :
    Dn P w K mg base CX0 7 "cost_of" s_cost_of p_cost_of (spCostOf K CS) := by
  refine dn_ok D sc_cost_of (fun vs H Q E h => by obtain ⟨_, _, _, _, _, rfl, _⟩ := h; rfl) fun f cdv A outer s H vs Q E hr h => ?_
  obtain ⟨s, a, xs, rows, js, rfl, hS, wf, ha, rfl, vo, q⟩ := h
  refine ⟨_, (pss_cons (ps_expr (pe_cD c_check_order b_check_order (hr.mono (by decide)) (by rfl) pass0 (pa_cons (pv 0) (pa_cons (pv 1) pa_nil))))
      (pss_one (ps_ret (pe_cD c_cost_by b_cost_by (hr.mono (by decide)) (by rfl) pass0 (pa_cons (pe_fld (pv 0) rfl) (pa_cons (pv 1) pa_nil)))))), ?_⟩
  walk_at "st"
  walk_at "go"
  refine ⟨_, _, _, _, _, rfl, hS, wf, ha, rfl, vo, fun H1 s1 => ?_⟩
  walk_at "go"
  have hS1 := hS.same s1
  obtain ⟨dx, cv, tv, rv, av, rvs, avs, F⟩ := id hS1
  refine w_fl ?_
  walk_at "go"
  refine ⟨_, _, _, _, _, rfl, F.ob, T.clS, T.nSr, lk_rows _ _ _ _, ?_⟩
  walk_at "go"
  exact ⟨_, _, _, rows, js, rfl, q_t F.rt, F.rr, (sq_or ha).same s1, fun j m => vo.lt m, wf, fun H2 s2 => q _ fun b o e => s2 _ _ (s1 _ _ e)⟩
end

end Cw
end

/-! text C93_free -/
section
set_option Elab.async false
set_option linter.all false
set_option maxRecDepth 100000
set_option maxHeartbeats 4000000
namespace Cw
open PySem PySem.Spec PyProof.Rows L2
local macro_rules | `(tactic| walk_at "go1") => `(tactic| with_reducible first
  | refine w_seq ?_ | refine w_asgN ?_ | refine w_asgG ?_ | refine w_drop ?_ | refine w_ret ?_ | refine w_if ?_ | refine w_next ?_
  | refine w_var rfl ?_ | refine w_c ?_ | refine w_op ?_ | refine w_un ?_ | refine w_cb ?_ | refine w_cons ?_ | refine w_nil ?_ | refine w_call ?_
  | refine w_test ?_ | refine w_tB ?_ | refine w_bl ?_ | refine w_and ?_ | refine w_or ?_ | refine w_not ?_ | refine w_andV ?_ | refine w_orV ?_ | refine w_notV ?_ | refine w_ifE ?_ | refine w_blv ?_
  | refine w_I0 ?_ | refine w_eqI ?_ | refine w_neI ?_ | refine w_isN ?_ | refine w_notN ?_ | refine w_chain ?_ | refine w_for ?_ | refine w_iSeq ?_ | refine w_iR1 ?_ | refine w_iR2 ?_ | refine w_lc ?_
  | refine w_tupS ?_ | refine w_lstS ?_ | refine w_gN ?_ | refine w_gCons ?_ | refine w_gNil ?_ | refine w_aug rfl ?_ | refine w_ip ?_ | refine w_par ?_ | refine w_par2 ?_ | refine w_par3 ?_ | refine w_par33 ?_ | refine w_small (by first | decide | (simp only [List.length_cons, List.length_nil]; decide)) ?_ | refine w_bmL ?_ | refine w_gSub ?_ | refine w_lc2 ?_ | refine w_iEnum ?_ | refine w_yes ?_ | refine w_chN ?_ | refine w_chC ?_ | refine w_chL ?_ | refine w_tSl ?_ | refine w_pN ?_ | refine w_pS ?_ | refine w_pI ?_ | refine w_star ?_)
local macro_rules | `(tactic| walk_at "hp") => `(tactic| (first | assumption | exact g_at (by assumption) | exact g_cat (by assumption) | (refine g_same (by assumption) ?_ ; walk_at "hp") | (refine g_new (by assumption) ?_ ; walk_at "hp") | (refine q_same (by assumption) ?_ ; walk_at "hp") | (refine q_new (by assumption) ?_ ; walk_at "hp")))
local macro_rules | `(tactic| walk_at "go") => `(tactic| repeat' walk_at "go1")
local macro_rules | `(tactic| walk_at "st") => `(tactic| simp only [cxK, L2.start, List.map_cons, List.map_nil, List.length_cons, List.length_nil, Nat.reduceAdd, Nat.reduceSub, List.replicate, List.cons_append, List.nil_append])

--import ord
theorem sm_eq (f : Nat → Int) : ∀ js : List Nat, M93.sm f js = (js.map f).sum := by
  intro js
  induction js with
  | nil => rfl
  | cons x r ih => simp only [M93.sm, List.map_cons, List.sum_cons, ih]
theorem filter_tt {α : Type} (l : List α) : (l.filter fun _ => true) = l := List.filter_eq_self.mpr fun _ _ => rfl
/-- what a part of an order gives *)-/
def spTotals (K : PySem.W.Frag) (CS : Addr) : Sp := fun vs H Q _ => ∃ s a rows js, vs = [V.ref s, .ref a] ∧ SearchAt CS H s rows ∧ WfR rows ∧ Sq K H a (iv js) ∧ (∀ j ∈ js, j < rows.length) ∧ js.length ≤ 1000 ∧
  ∀ p H', New H H' p (.tup [.int (M93.sm (wR rows) js), .int (M93.sm (pR rows) js)]) → Q (.ref p) H'
def freeB (rows : List Row) (A B : List Nat) : Bool := B.all fun j => (anc rows j).all fun c => !decide (c ∈ A)
def spFree (K : PySem.W.Frag) (CS : Addr) : Sp := fun vs H Q _ => ∃ s a b rows A B, vs = [V.ref s, .ref a, .ref b] ∧ SearchAt CS H s rows ∧ WfR rows ∧ Sq K H a (iv A) ∧ Sq K H b (iv B) ∧ (∀ j ∈ B, j < rows.length) ∧ B.length ≤ 1000 ∧
  ∀ H', Same H H' → Q (.bl (freeB rows A B)) H'
theorem ancF_len {rows : List Row} : ∀ n j, (ancF rows n j).length ≤ n := by
  intro n
  induction n with
  | zero => intro j; exact Nat.le_refl _
  | succ n ih =>
    intro j
    unfold ancF
    cases parR rows j with
    | none => simp
    | some a => have := ih a; simp; omega
theorem anc_len {rows : List Row} (j : Nat) : (anc rows j).length ≤ j + 1 := ancF_len _ _
/-- the flags of the first of B: is something above them in A? -/
def inFl (rows : List Row) (A B : List Nat) : List Bool := B.flatMap fun j => (anc rows j).map fun c => decide (c ∈ A)
theorem inFl_any (rows : List Row) (A B : List Nat) : (!(inFl rows A B).any id) = freeB rows A B := by
  unfold inFl freeB
  rw [List.any_flatMap, List.not_any_eq_all_not]
  congr 1
  funext j
  rw [List.any_map, List.not_any_eq_all_not]
  rfl
section
variable {P : Program} {w : World} {K : PySem.W.Frag} {mg : Str → Option Value} {base : Heap} {CS CC : Addr}
theorem ok_totals_of (D : Df K mg "totals_of" s_totals_of) (T : Txt K mg CS CC) : Dn P w K mg base CX0 1 "totals_of" s_totals_of p_totals_of (spTotals K CS) := by
  refine dn_ok D sc_totals_of (fun vs H Q E h => by obtain ⟨_, _, _, _, rfl, _⟩ := h; rfl) fun f cdv A outer s H vs Q E hr h => ?_
  obtain ⟨s, a, rows, js, rfl, hS, wf, ha, hj, hl, q⟩ := h
  refine ⟨_, (pss_one (ps_ret (pe_tupS (pa_cons (pe_callB (cr_sum rfl) (by rfl) T.sum (by decide +kernel) (pa_cons (pe_lc (own := [("job", 2)]) rfl sc_totals_of.nd (pi_seq (pv 1)) (blkOk_by (own := [("job", 2)]) (N := N_totals_of) (sc := defScope s_totals_of) (by decide +kernel)) (fun _ _ _ _ _ => (pg_name (i := 2) sc_totals_of.nd rfl (by first | exact Or.inl rfl | exact Or.inr rfl))) (fun _ _ _ _ _ => pts_nil) (fun _ _ _ _ _ => (pe_ix (ix_sqK (K := K)) (pe_ix (ix_sqK (K := K)) (pe_fldK (K := K) (pv 0)) (pv 2) (fun _ _ => rfl)) pe_int (fun _ _ => rfl)))) pa_nil)) (pa_cons (pe_callB (cr_sum rfl) (by rfl) T.sum (by decide +kernel) (pa_cons (pe_lc (own := [("job", 2)]) rfl sc_totals_of.nd (pi_seq (pv 1)) (blkOk_by (own := [("job", 2)]) (N := N_totals_of) (sc := defScope s_totals_of) (by decide +kernel)) (fun _ _ _ _ _ => (pg_name (i := 2) sc_totals_of.nd rfl (by first | exact Or.inl rfl | exact Or.inr rfl))) (fun _ _ _ _ _ => pts_nil) (fun _ _ _ _ _ => (pe_ix (ix_sqK (K := K)) (pe_ix (ix_sqK (K := K)) (pe_fldK (K := K) (pv 0)) (pv 2) (fun _ _ => rfl)) pe_int (fun _ _ => rfl)))) pa_nil)) pa_nil))))), ?_⟩
  walk_at "st"
  walk_at "go"
  have one : ∀ (H0 : Hp), Same H H0 → ∀ (x : Nat), x ∈ js → ∃ dx cv tv rv av rvs avs, SearchF CS H0 s rows dx cv tv rv av rvs avs ∧ ∃ ra : Addr, rvs[x]? = some (V.ref ra) ∧ H0 ra = some (HO.tup [optV (parR rows x), .int (pR rows x), .int (wR rows x)]) := fun H0 s0 x hx => by
    obtain ⟨dx, cv, tv, rv, av, rvs, avs, F⟩ := hS.same s0
    obtain ⟨ra, h1, h2⟩ := row_at F.rr (hj x hx)
    exact ⟨dx, cv, tv, rv, av, rvs, avs, F, ra, h1, h2⟩
  refine seq_map js (fun n => V.int (n : Int)) (fun _ => true) (fun j => V.int (wR rows j)) (by omega) ha (fun x H' Pe Pn hx st k1 k2 => ?_) (fun D H1 n1 => ?_)
  · obtain ⟨dx, cv, tv, rv, av, rvs, avs, F, ra, h1, h2⟩ := one H' st x hx
    walk_at "go"
    refine ⟨rfl, ?_⟩
    walk_at "go"
    rw [if_pos rfl]
    walk_at "go"
    refine w_fl ?_
    walk_at "go"
    refine ⟨_, _, _, _, _, rfl, F.ob, T.clS, T.nSr, lk_rows _ _ _ _, ?_⟩
    walk_at "go"
    refine w_ixn (q_t F.rt) h1 ?_
    walk_at "go"
    refine w_ix (q_t h2) rfl ?_
    exact k1 rfl H' fun _ _ e => e
  · rw [filter_tt] at n1
    walk_at "go"
    refine w_sum (ns := js.map (wR rows)) (Or.inl (Or.inl (by rw [List.map_map]; exact g_at n1))) ?_
    walk_at "go"
    refine seq_map js (fun n => V.int (n : Int)) (fun _ => true) (fun j => V.int (pR rows j)) (by omega) (ha.same n1.1) (fun x H' Pe Pn hx st k1 k2 => ?_) (fun D2 H2 n2 => ?_)
    · obtain ⟨dx, cv, tv, rv, av, rvs, avs, F, ra, h1, h2⟩ := one H' (fun b o e => st _ _ (n1.1 b o e)) x hx
      walk_at "go"
      refine ⟨rfl, ?_⟩
      walk_at "go"
      rw [if_pos rfl]
      walk_at "go"
      refine w_fl ?_
      walk_at "go"
      refine ⟨_, _, _, _, _, rfl, F.ob, T.clS, T.nSr, lk_rows _ _ _ _, ?_⟩
      walk_at "go"
      refine w_ixn (q_t F.rt) h1 ?_
      walk_at "go"
      refine w_ix (q_t h2) rfl ?_
      exact k1 rfl H' fun _ _ e => e
    · rw [filter_tt] at n2
      walk_at "go"
      refine w_sum (ns := js.map (pR rows)) (Or.inl (Or.inl (by rw [List.map_map]; exact g_at n2))) ?_
      walk_at "go"
      intro p H3 n3
      rw [← sm_eq, ← sm_eq] at n3
      have s2 : Same H H2 := fun b o e => n2.1 _ _ (n1.1 b o e)
      refine q p H3 ⟨fun b o e => n3.1 _ _ (s2 b o e), ?_, n3.2.2⟩
      cases e : H p with
      | none => rfl
      | some o => have := s2 p o e; rw [n3.2.1] at this; cases this
theorem ok_are_free (D : Df K mg "are_free" s_are_free) (T : Txt K mg CS CC) : Dn P w K mg base CX0 1 "are_free" s_are_free p_are_free (spFree K CS) := by
  refine dn_ok D sc_are_free (fun vs H Q E h => by obtain ⟨_, _, _, _, _, _, rfl, _⟩ := h; rfl) fun f cdv A outer s H vs Q E hr h => ?_
  obtain ⟨s, a, b, rows, A, B, rfl, hS, wf, ha, hb, hj, hl, q⟩ := h
  refine ⟨_, (pss_one (ps_ret (pe_not (pe_callB (cr_any rfl) (by rfl) T.any (by decide +kernel) (pa_cons (pe_lc2 (own := [("job", 3), ("cover", 4)]) (vs1 := [4]) rfl sc_are_free.nd (pi_seq (pv 2)) (blkOk_by (own := [("job", 3), ("cover", 4)]) (N := N_are_free) (sc := defScope s_are_free) (by decide +kernel)) (by decide) (fun _ _ _ _ _ => (pg_name (i := 3) sc_are_free.nd rfl (by first | exact Or.inl rfl | exact Or.inr rfl))) (fun _ _ _ _ _ => pts_nil) (fun _ _ _ _ _ => (pi_seqK (K := K) (pe_ix (ix_sqK (K := K)) (pe_fldK (K := K) (pv 0)) (pv 3) (fun _ _ => rfl)))) (fun _ _ _ _ _ => (pg_name (i := 4) sc_are_free.nd rfl (by first | exact Or.inl rfl | exact Or.inr rfl))) (fun _ _ _ _ _ => pts_nil) (fun _ _ _ _ _ => (pe_cmpR (op_in_seqK (K := K)) (pv 4) (pv 1) (by rfl)))) pa_nil))))), ?_⟩
  walk_at "st"
  walk_at "go"
  refine seq_lc2 hb (fun D i H' => New H H' D (.lst ((inFl rows A (B.take i)).map V.bl))) (fun D H' n => by simpa [inFl] using n) (fun D i H' n o e => n.1 _ _ e) (fun D i x H' hx n => ?_) (fun D H' n => ?_)
  · obtain ⟨j, hj1, rfl, hil⟩ := iv_at hx
    have hjl := hj j (List.mem_of_getElem? hj1)
    obtain ⟨dx, cv, tv, rv, av, rvs, avs, F⟩ := hS.same n.1
    obtain ⟨aa, e1, e2⟩ := F.aa.2 j hjl
    walk_at "go"
    refine ⟨rfl, ?_⟩
    walk_at "go"
    rw [if_pos rfl]
    walk_at "go"
    refine w_fl ?_
    walk_at "go"
    refine ⟨_, _, _, _, _, rfl, F.ob, T.clS, T.nSa, lk_above _ _ _ _, ?_⟩
    walk_at "go"
    refine w_ixn (q_t F.at') e1 ?_
    have had : aa ≠ D := fun z => by
      subst z
      have := n.2.2
      rw [e2] at this
      cases this
    refine seq_ir (q_t e2) (fun k H2 => New H H2 D (.lst ((inFl rows A (B.take i) ++ ((anc rows j).take k).map fun c => decide (c ∈ A)).map V.bl)) ∧ But D H' H2) ⟨by simpa using n, fun _ _ _ e => e⟩ (fun k H2 n2 o e => n2.2 _ _ had e) (fun k x H2 hx2 n2 => ?_) (fun H2 n2 => ?_)
    · obtain ⟨c, hc1, rfl, _⟩ := iv_at hx2
      walk_at "go"
      refine ⟨rfl, ?_⟩
      walk_at "go"
      rw [if_pos rfl]
      walk_at "go"
      refine w_in (ha.same n2.1.1) ?_
      refine ⟨_, n2.1.2.2, small_len ?_, ⟨Same.mut n2.1.1 n2.1.2.1 But.upd, n2.1.2.1, ?_⟩, fun b o hb e => by rw [upd_ne hb]; exact n2.2 _ _ hb e⟩
      · have : (inFl rows A (B.take i)).length ≤ 1000 * 102 := by
          unfold inFl
          rw [List.length_flatMap]
          have h1 : ∀ (l : List Nat), (∀ x ∈ l, x < rows.length) → (l.map fun j => ((anc rows j).map fun c => decide (c ∈ A)).length).sum ≤ l.length * 102 := by
            intro l
            induction l with
            | nil => intro _; simp
            | cons y r ih =>
              intro hy
              have h2 := ih fun x hx => hy x (List.mem_cons_of_mem _ hx)
              have h3 := anc_len (rows := rows) y
              have h4 := hy y List.mem_cons_self
              have h5 := wf.len
              simp only [List.map_cons, List.sum_cons, List.length_map, List.length_cons] at h2 ⊢
              omega
          have h2 := h1 (B.take i) fun x hx => hj x (List.mem_of_mem_take hx)
          have h3 : (B.take i).length ≤ 1000 := Nat.le_trans (List.length_take_le' _ _) hl
          omega
        have h6 := anc_len (rows := rows) j
        have h7 := wf.len
        have h8 : ((anc rows j).take k).length ≤ (anc rows j).length := List.length_take_le' _ _
        simp only [List.length_map, List.length_append]
        omega
      · rw [upd_same, take_at hc1]
        simp
    · have e5 : inFl rows A (B.take (i + 1)) = inFl rows A (B.take i) ++ (anc rows j).map fun c => decide (c ∈ A) := by
        unfold inFl
        rw [take_at hj1, List.flatMap_append]
        simp
      have := n2.1
      rw [iv_length, List.take_length] at this
      rw [e5]
      exact this
  · walk_at "go"
    refine w_any (bs := inFl rows A B) (Or.inl (Or.inl (by have := n.2.2; rw [iv_length, List.take_length] at this; exact this))) ?_
    walk_at "go"
    rw [inFl_any]
    exact q _ n.1
end

end Cw
end

/-! text C93_exc -/
section
set_option Elab.async false
set_option linter.all false
set_option maxRecDepth 100000
set_option maxHeartbeats 4000000
namespace Cw
open PySem PySem.Spec PyProof.Rows L2
local macro_rules | `(tactic| walk_at "go1") => `(tactic| with_reducible first
  | refine w_seq ?_ | refine w_asgN ?_ | refine w_asgG ?_ | refine w_drop ?_ | refine w_ret ?_ | refine w_if ?_ | refine w_next ?_
  | refine w_var rfl ?_ | refine w_c ?_ | refine w_op ?_ | refine w_un ?_ | refine w_cb ?_ | refine w_cons ?_ | refine w_nil ?_ | refine w_call ?_
  | refine w_test ?_ | refine w_tB ?_ | refine w_bl ?_ | refine w_and ?_ | refine w_or ?_ | refine w_not ?_ | refine w_andV ?_ | refine w_orV ?_ | refine w_notV ?_ | refine w_ifE ?_ | refine w_blv ?_
  | refine w_I0 ?_ | refine w_eqI ?_ | refine w_neI ?_ | refine w_isN ?_ | refine w_notN ?_ | refine w_chain ?_ | refine w_for ?_ | refine w_iSeq ?_ | refine w_iR1 ?_ | refine w_iR2 ?_ | refine w_lc ?_
  | refine w_tupS ?_ | refine w_lstS ?_ | refine w_gN ?_ | refine w_gCons ?_ | refine w_gNil ?_ | refine w_aug rfl ?_ | refine w_ip ?_ | refine w_par ?_ | refine w_par2 ?_ | refine w_par3 ?_ | refine w_par33 ?_ | refine w_small (by first | decide | (simp only [List.length_cons, List.length_nil]; decide)) ?_ | refine w_bmL ?_ | refine w_gSub ?_ | refine w_lc2 ?_ | refine w_iEnum ?_ | refine w_yes ?_ | refine w_chN ?_ | refine w_chC ?_ | refine w_chL ?_ | refine w_tSl ?_ | refine w_pN ?_ | refine w_pS ?_ | refine w_pI ?_ | refine w_star ?_)
local macro_rules | `(tactic| walk_at "hp") => `(tactic| (first | assumption | exact g_at (by assumption) | exact g_cat (by assumption) | (refine g_same (by assumption) ?_ ; walk_at "hp") | (refine g_new (by assumption) ?_ ; walk_at "hp") | (refine q_same (by assumption) ?_ ; walk_at "hp") | (refine q_new (by assumption) ?_ ; walk_at "hp")))
local macro_rules | `(tactic| walk_at "go") => `(tactic| repeat' walk_at "go1")
local macro_rules | `(tactic| walk_at "st") => `(tactic| simp only [cxK, L2.start, List.map_cons, List.map_nil, List.length_cons, List.length_nil, Nat.reduceAdd, Nat.reduceSub, List.replicate, List.cons_append, List.nil_append])

--import free
/-- what the top has of InvalidSwap, a CrownError, which is a ValueError -/
structure SwE (K : PySem.W.Frag) (mg : Str → Option Value) (CI CB : Addr) : Prop where
  T : OexC K CI
  gI : mg "InvalidSwap" = some (.ref CI)
  gB : mg "CrownError" = some (.ref CB)
  B : BaseC K CB
  gv : PySem.W.findIn K (.ref CI) "given" = some none
  xf : XfC K CI
  ex : PySem.W.exmOne K (.ref CI) (.ref CI) = some true
  fn : ∃ f fd, FunD K "__init__" "InvalidSwap.__init__" (defArgs s_InvalidSwap___init__) (defBody s_InvalidSwap___init__) (defScope s_InvalidSwap___init__) [] [] f fd ∧ PySem.W.findIn K (.ref CI) "__init__" = some (some (.ref f)) ∧ PySem.W.typeIn K (.ref f) = some (.type "function")
theorem b_InvalidSwap : BindsI "InvalidSwap.__init__" s_InvalidSwap___init__ p_InvalidSwap___init__ := fun _ _ _ _ _ _ us hl => match us, hl with | [_, _], _ => rfl
def spSwI (CI : Addr) : Sp := fun vs H Q _ => ∃ a y, vs = [V.ref a, y] ∧ H a = some (exo a CI none) ∧ ∀ dx, H dx = none → dx ≠ a → Q .non (upd (upd H dx (exd dx [("given", y)])) a (exo a CI (some dx)))
/-- InvalidSwap(v) may go out -/
def ErrSw (CI : Addr) (H : Hp) (v : V) (E : XK) : Prop := ∀ d H', Same H H' → H' d = some (.xd [("given", v)]) → E (.ref CI) (some d) H'
theorem ErrSw.same {CI : Addr} {H H' : Hp} {v : V} {E : XK} (s : Same H H') (h : ErrSw CI H v E) : ErrSw CI H' v E := fun d H2 t e => h d H2 (fun b o z => t _ _ (s _ _ z)) e
section
variable {K : PySem.W.Frag} {σ : L2.St} {H : Hp} {Q : VK} {ta : TA} {to te : TE} {f : Str} {D : Ends}
theorem w_veI (h : ta σ H fun vs H1 => ∃ (a C : Addr) (ws : List V), vs = .ref a :: ws ∧ ws.length ≤ 1000 ∧ OexC K C ∧ H1 a = some (exo a C none) ∧ Q .non H1) : tVeI K ta σ H Q := h
end
section
variable {P : Program} {w : World} {K : PySem.W.Frag} {mg : Str → Option Value} {base : Heap} {CI CB : Addr}
theorem ok_swinit (S : SwE K mg CI CB) {f : Addr} {fd : FuncData} (F : FunD K "__init__" "InvalidSwap.__init__" (defArgs s_InvalidSwap___init__) (defBody s_InvalidSwap___init__) (defScope s_InvalidSwap___init__) [] [] f fd) :
    FnOk P w K mg base CX0 1 f fd p_InvalidSwap___init__ (spSwI CI) := by
  refine F.ok sc_InvalidSwap___init__ (fun vs H Q E h => by obtain ⟨_, _, rfl, _⟩ := h; rfl) fun cdv A outer s H vs Q E hr h => ?_
  obtain ⟨a, y, rfl, ha, q⟩ := h
  have c_B := S.B
  have c_Bm := S.gB
  refine ⟨_, PSs.nox (pss_cons (ps_expr (pe_binit c_B (by rfl) c_Bm (pa_cons (pv 0) (pa_cons pe_str pa_nil))))
      (pss_one (ps_ost (pv 0) (pv 1)))), ?_⟩
  walk_at "st"
  walk_at "go"
  refine w_veI ?_
  walk_at "go"
  refine ⟨_, CI, _, rfl, by decide, S.T, ha, ?_⟩
  walk_at "go"
  show tOst K "given" (tVar 0) (tVar 1) _ _ _
  unfold tOst
  walk_at "go"
  exact ⟨_, CI, rfl, S.T, S.gv, Or.inl ⟨ha, fun dx hn hne => q dx hn hne⟩⟩
/-- InvalidSwap(e) -/
theorem pmk_sw {X : Cx} {e : Expr} {ta : TA} {p pos : Pos} (S : SwE X.K X.mg CI CB) (hr : Room 2 X.A) (hg : Gl X "InvalidSwap") (ha : PA X [e] ta)
    (he : starEach [e] X.env = (false, eval e X.env) :: starEach [] X.env := by rfl) (hpl : (backTo pos (starEach [] X.env)).any (·.1) = false := by rfl) :
    PMk X (.Call (.Name "InvalidSwap" p) [e] [] pos) (tMkO CI (spSwI CI) [] ta) := by
  obtain ⟨f, fd, F, i, t⟩ := S.fn
  exact pmk_oex S.T i t (ok_swinit S F) hr (F.bindsN b_InvalidSwap) .nil pass0 hg S.gI ha (by decide) he hpl
/-- raised: v stands in it -/
theorem sw_raised {H : Hp} {v : V} {E : XK} (h : ErrSw CI H v E) : [v].length ≤ 1000 ∧ ∀ a, H a = none → spSwI CI (.ref a :: ([v] ++ [])) (upd H a (exo a CI none))
    (fun v' H2 => v' = .non ∧ ∃ (d : Addr) (fs : List (Str × V)), H2 a = some (exo a CI (some d)) ∧ H2 d = some (exd d fs) ∧ H d = none ∧ E (.ref CI) (some d) (upd (del H2 a) d (.xd fs))) (fun _ _ _ => False) := by
  refine ⟨by simp, fun a hn => ⟨a, v, rfl, upd_same, fun dx hd hne => ⟨rfl, dx, [("given", v)], upd_same, ?_, ?_, ?_⟩⟩⟩
  · rw [upd_ne hne, upd_same]
  · rw [upd_ne hne] at hd
    exact hd
  · rw [upd_ne hne] at hd
    refine h dx _ (fun b o e => ?_) upd_same
    have hb1 : b ≠ dx := ne_of_none e hd
    have hb2 : b ≠ a := ne_of_none e hn
    rw [upd_ne hb1, del_ne hb2, upd_ne hb2, upd_ne hb1, upd_ne hb2]
    exact e
end

end Cw
end

/-! text C93_sw -/
section
set_option Elab.async false
set_option linter.all false
set_option maxRecDepth 100000
set_option maxHeartbeats 4000000
namespace Cw
open PySem PySem.Spec PyProof.Rows L2
local macro_rules | `(tactic| walk_at "go1") => `(tactic| with_reducible first
  | refine w_seq ?_ | refine w_asgN ?_ | refine w_asgG ?_ | refine w_drop ?_ | refine w_ret ?_ | refine w_if ?_ | refine w_next ?_
  | refine w_var rfl ?_ | refine w_c ?_ | refine w_op ?_ | refine w_un ?_ | refine w_cb ?_ | refine w_cons ?_ | refine w_nil ?_ | refine w_call ?_
  | refine w_test ?_ | refine w_tB ?_ | refine w_bl ?_ | refine w_and ?_ | refine w_or ?_ | refine w_not ?_ | refine w_andV ?_ | refine w_orV ?_ | refine w_notV ?_ | refine w_ifE ?_ | refine w_blv ?_
  | refine w_I0 ?_ | refine w_eqI ?_ | refine w_neI ?_ | refine w_isN ?_ | refine w_notN ?_ | refine w_chain ?_ | refine w_for ?_ | refine w_iSeq ?_ | refine w_iR1 ?_ | refine w_iR2 ?_ | refine w_lc ?_
  | refine w_tupS ?_ | refine w_lstS ?_ | refine w_gN ?_ | refine w_gCons ?_ | refine w_gNil ?_ | refine w_aug rfl ?_ | refine w_ip ?_ | refine w_par ?_ | refine w_par2 ?_ | refine w_par3 ?_ | refine w_par33 ?_ | refine w_small (by first | decide | (simp only [List.length_cons, List.length_nil]; decide)) ?_ | refine w_bmL ?_ | refine w_gSub ?_ | refine w_lc2 ?_ | refine w_iEnum ?_ | refine w_yes ?_ | refine w_chN ?_ | refine w_chC ?_ | refine w_chL ?_ | refine w_tSl ?_ | refine w_pN ?_ | refine w_pS ?_ | refine w_pI ?_ | refine w_star ?_)
local macro_rules | `(tactic| walk_at "hp") => `(tactic| (first | assumption | exact g_at (by assumption) | exact g_cat (by assumption) | (refine g_same (by assumption) ?_ ; walk_at "hp") | (refine g_new (by assumption) ?_ ; walk_at "hp") | (refine q_same (by assumption) ?_ ; walk_at "hp") | (refine q_new (by assumption) ?_ ; walk_at "hp")))
local macro_rules | `(tactic| walk_at "go") => `(tactic| repeat' walk_at "go1")
local macro_rules | `(tactic| walk_at "st") => `(tactic| simp only [cxK, L2.start, List.map_cons, List.map_nil, List.length_cons, List.length_nil, Nat.reduceAdd, Nat.reduceSub, List.replicate, List.cons_append, List.nil_append])

--import exc
def cutN (js : List Nat) (a b : Nat) : List Nat := (js.drop a).take (b - a)
theorem cutN_mem {js : List Nat} {a b j : Nat} (h : j ∈ cutN js a b) : j ∈ js := List.mem_of_mem_drop (List.mem_of_mem_take h)
theorem cutN_len {js : List Nat} {a b : Nat} : (cutN js a b).length ≤ js.length := by
  unfold cutN
  rw [List.length_take, List.length_drop]
  omega
/-- a value that is asked as a swap -/
inductive SwV (H : Hp) : V → Option (Int × Int × Int) → Prop
  | tri {a : Addr} {i j k : Int} (h : H a = some (.tup [.int i, .int j, .int k])) : SwV H (.ref a) (some (i, j, k))
  | off {v : V} (h : TupK H v 3 false) : SwV H v none
  | boo {a : Addr} {b c : Bool} {k : Int} (h : H a = some (.tup [.bl b, .bl c, .int k])) : SwV H (.ref a) none
theorem TupK.same {H H' : Hp} {v : V} {n : Int} {b : Bool} (s : Same H H') (h : TupK H v n b) : TupK H' v n b := by
  cases h with
  | tup h => exact .tup (s _ _ h)
  | lst h => exact .lst (s _ _ h)
  | non => exact .non
  | str => exact .str
theorem SwV.same {H H' : Hp} {v : V} {o : Option (Int × Int × Int)} (s : Same H H') (h : SwV H v o) : SwV H' v o := by
  cases h with
  | tri h => exact .tri (s _ _ h)
  | off h => exact .off (h.same s)
  | boo h => exact .boo (s _ _ h)
def swB (rows : List Row) (js : List Nat) (i j k : Int) : Bool := decide (0 ≤ i ∧ i < j ∧ j < k ∧ k ≤ (rows.length : Int)) && freeB rows (cutN js i.toNat j.toNat) (cutN js j.toNat k.toNat)
def swR (rows : List Row) (js : List Nat) : Option (Int × Int × Int) → Bool
  | none => false
  | some (i, j, k) => swB rows js i j k
def spSwapsIn (K : PySem.W.Frag) (CS : Addr) : Sp := fun vs H Q _ => ∃ s a v xs rows js o, vs = [V.ref s, .ref a, v] ∧ SearchAt CS H s rows ∧ WfR rows ∧ (H a = some (.lst xs) ∨ H a = some (.tup xs)) ∧ xs = iv js ∧ VO rows js ∧ SwV H v o ∧ ∀ H', Same H H' → Q (.bl (swR rows js o)) H'
/-- order[a:b], not the whole of it -/
theorem w_cut {K : PySem.W.Frag} {H : Hp} {p : Addr} {js : List Nat} {Q : VK} {a b : Nat} (h : Sq K H p (iv js)) (hab : a ≤ b) (hb : b ≤ js.length) (hn : 0 < a ∨ b < js.length)
    (q : ∀ p' H', Same H H' → H p' = none → Sq K H' p' (iv (cutN js a b)) → Q (.ref p') H') : rSlS K (.ref p) (some (a : Int)) (some (b : Int)) H Q := by
  refine w_sl h ?_ fun p' H' s n e => q p' H' s n ?_
  · rw [HT.sIx_nat, HT.sIx_nat, iv_length]
    omega
  · rw [cut_mid _ hab (by rw [iv_length]; exact hb), iv_cut] at e
    exact e
theorem w_cutF {K : PySem.W.Frag} {H : Hp} {p : Addr} {js : List Nat} {Q : VK} {a : Nat} (h : Sq K H p (iv js)) (ha : a ≤ js.length) (hn : 0 < a)
    (q : ∀ p' H', Same H H' → H p' = none → Sq K H' p' (iv (js.drop a)) → Q (.ref p') H') : rSlS K (.ref p) (some (a : Int)) none H Q := by
  refine w_sl h ?_ fun p' H' s n e => q p' H' s n ?_
  · rw [HT.sIx_nat, iv_length]
    omega
  · rw [cut_from _ (by rw [iv_length]; exact ha)] at e
    unfold iv at e ⊢
    rw [← List.map_drop] at e
    exact e
theorem w_cutT {K : PySem.W.Frag} {H : Hp} {p : Addr} {js : List Nat} {Q : VK} {b : Nat} (h : Sq K H p (iv js)) (hb : b < js.length)
    (q : ∀ p' H', Same H H' → H p' = none → Sq K H' p' (iv (js.take b)) → Q (.ref p') H') : rSlS K (.ref p) none (some (b : Int)) H Q := by
  refine w_sl h ?_ fun p' H' s n e => q p' H' s n ?_
  · rw [HT.sIx_nat, iv_length]
    omega
  · rw [cut_to _ (by rw [iv_length]; omega)] at e
    unfold iv at e ⊢
    rw [← List.map_take] at e
    exact e
def isIV : V → Bool
  | .int _ => true
  | _ => false
section
variable {P : Program} {w : World} {K : PySem.W.Frag} {mg : Str → Option Value} {base : Heap} {CS CC : Addr}
theorem ok_swaps_in (D : Df K mg "swaps_in" s_swaps_in) (T : Txt K mg CS CC) (c_is_tuple : Dn P w K mg base CX0 1 "is_tuple" s_is_tuple p_is_tuple (spIsTuple K)) (c_is_integer : Dn P w K mg base CX0 1 "is_integer" s_is_integer p_is_integer (spIsInteger K))
    (c_slen : Mn P w K mg base 1 CS "__len__" "Search.__len__" s_Search___len__ p_Search___len__ (spSLen CS)) (c_are_free : Dn P w K mg base CX0 1 "are_free" s_are_free p_are_free (spFree K CS)) :
    Dn P w K mg base CX0 3 "swaps_in" s_swaps_in p_swaps_in (spSwapsIn K CS) := by
  refine dn_ok D sc_swaps_in (fun vs H Q E h => by obtain ⟨_, _, _, _, _, _, _, rfl, _⟩ := h; rfl) fun f cdv A outer s H vs Q E hr h => ?_
  obtain ⟨s, a, v, xs, rows, js, o, rfl, hS, wf, ha, rfl, vo, hv, q⟩ := h
  refine ⟨_, (pss_cons (ps_if (PW.pt (pw_or (pt_not (pt_val (pe_cD c_is_tuple b_is_tuple (hr.mono (by decide)) (by rfl) pass0 (pa_cons (pv 2) (pa_cons pe_int pa_nil))))) (pw_or1 (pt_not (pt_val (pe_callB (cr_all rfl) (by rfl) T.all (by decide +kernel) (pa_cons (pe_lc (own := [("item", 3)]) rfl sc_swaps_in.nd (pi_seq (pv 2)) (blkOk_by (own := [("item", 3)]) (N := N_swaps_in) (sc := defScope s_swaps_in) (by decide +kernel)) (fun _ _ _ _ _ => (pg_name (i := 3) sc_swaps_in.nd rfl (by first | exact Or.inl rfl | exact Or.inr rfl))) (fun _ _ _ _ _ => pts_nil) (fun _ _ _ _ _ => (pe_cD c_is_integer b_is_integer (hr.mono (by decide)) (by rfl) pass0 (pa_cons (pv 3) pa_nil)))) pa_nil))))))) (pss_one (ps_ret pe_bl)) pss_nil)
      (pss_cons (ps_asg (pv 2) (pg_tup rfl (pgs_cons (pg_name (i := 4) sc_swaps_in.nd rfl (by first | exact Or.inl rfl | exact Or.inr rfl)) (pgs_cons (pg_name (i := 5) sc_swaps_in.nd rfl (by first | exact Or.inl rfl | exact Or.inr rfl)) (pgs_cons (pg_name (i := 6) sc_swaps_in.nd rfl (by first | exact Or.inl rfl | exact Or.inr rfl)) pgs_nil)))))
      (pss_cons (ps_if (pt_not (pt_chN pe_int (ptc_cons op_le (pv 4) (ptc_cons op_lt (pv 5) (ptc_cons op_lt (pv 6) (ptc_last op_le (pe_callB (call_lenD c_slen b_Search___len__ (hr.mono (by decide))) (by rfl) T.len (by decide +kernel) (pa_cons (pv 0) pa_nil)))))))) (pss_one (ps_ret pe_bl)) pss_nil)
      (pss_one (ps_ret (pe_cD c_are_free b_are_free (hr.mono (by decide)) (by rfl) pass0 (pa_cons (pv 0) (pa_cons (pe_slice sl_s (pv 1) (po_some (pv 4)) (po_some (pv 5))) (pa_cons (pe_slice sl_s (pv 1) (po_some (pv 5)) (po_some (pv 6))) pa_nil))))))))), ?_⟩
  walk_at "st"
  walk_at "go"
  have hq := sq_or (K := K) ha
  cases hv with
  | off h =>
    refine ⟨_, _, _, rfl, h, ?_⟩
    walk_at "go"
    refine iteT ?_
    walk_at "go"
    exact q _ fun _ _ e => e
  | boo h =>
    rename_i va b c k
    refine ⟨_, _, _, rfl, .tup h, ?_⟩
    walk_at "go"
    refine iteF ?_
    walk_at "go"
    refine seq_map [V.bl b, .bl c, .int k] id (fun _ => true) (fun x => .bl (isIV x)) (by simp) (by rw [List.map_id]; exact q_t h) (fun x H' Pe Pn hx st k1 k2 => ?_) (fun D H1 n1 => ?_)
    · walk_at "go"
      refine ⟨rfl, ?_⟩
      walk_at "go"
      rw [if_pos rfl]
      walk_at "go"
      simp only [List.mem_cons, List.mem_nil_iff, or_false, List.not_mem_nil] at hx
      rcases hx with rfl | rfl | rfl
      · exact ⟨_, rfl, Or.inr ⟨_, rfl, k1 rfl H' fun _ _ e => e⟩⟩
      · exact ⟨_, rfl, Or.inr ⟨_, rfl, k1 rfl H' fun _ _ e => e⟩⟩
      · exact ⟨_, rfl, Or.inl ⟨_, rfl, k1 rfl H' fun _ _ e => e⟩⟩
    · walk_at "go"
      refine w_all (bs := [false, false, true]) (Or.inl (Or.inl (g_at n1))) ?_
      walk_at "go"
      refine iteT ?_
      walk_at "go"
      exact q _ n1.1
  | tri h =>
    rename_i va i j k
    refine ⟨_, _, _, rfl, .tup h, ?_⟩
    walk_at "go"
    refine iteF ?_
    walk_at "go"
    refine seq_map [V.int i, .int j, .int k] id (fun _ => true) (fun x => .bl (isIV x)) (by simp) (by rw [List.map_id]; exact q_t h) (fun x H' Pe Pn hx st k1 k2 => ?_) (fun D H1 n1 => ?_)
    · walk_at "go"
      refine ⟨rfl, ?_⟩
      walk_at "go"
      rw [if_pos rfl]
      walk_at "go"
      simp only [List.mem_cons, List.mem_nil_iff, or_false, List.not_mem_nil] at hx
      rcases hx with rfl | rfl | rfl
      · exact ⟨_, rfl, Or.inl ⟨_, rfl, k1 rfl H' fun _ _ e => e⟩⟩
      · exact ⟨_, rfl, Or.inl ⟨_, rfl, k1 rfl H' fun _ _ e => e⟩⟩
      · exact ⟨_, rfl, Or.inl ⟨_, rfl, k1 rfl H' fun _ _ e => e⟩⟩
    · walk_at "go"
      refine w_all (bs := [true, true, true]) (Or.inl (Or.inl (g_at n1))) ?_
      walk_at "go"
      refine iteF ?_
      walk_at "go"
      refine w_gTup (g_new n1 h) rfl ?_
      walk_at "go"
      have no : ¬ (0 ≤ i ∧ i < j ∧ j < k ∧ k ≤ (rows.length : Int)) → Q (.bl false) H1 := fun hn => by
        have := q H1 n1.1
        have e : swR rows js (some (i, j, k)) = false := by
          show swB rows js i j k = false
          unfold swB
          rw [decide_eq_false hn]
          rfl
        rw [e] at this
        exact this
      refine ite2 (fun h1 => ?_) (fun h1 => ?_)
      rotate_left
      · walk_at "go"
        refine iteT ?_
        walk_at "go"
        exact no fun z => h1 (decide_eq_true z.1)
      walk_at "go"
      refine ite2 (fun h2 => ?_) (fun h2 => ?_)
      rotate_left
      · walk_at "go"
        refine iteT ?_
        walk_at "go"
        exact no fun z => h2 (decide_eq_true z.2.1)
      walk_at "go"
      refine ite2 (fun h3 => ?_) (fun h3 => ?_)
      rotate_left
      · walk_at "go"
        refine iteT ?_
        walk_at "go"
        exact no fun z => h3 (decide_eq_true z.2.2.1)
      walk_at "go"
      have hS1 := hS.same n1.1
      obtain ⟨dx, cv, tv, rv, av, rvs, avs, F⟩ := id hS1
      refine ⟨_, _, _, rfl, F.ob, _, rows, rfl, hS1, _, rfl, ⟨by omega, by have := wf.len; omega⟩, ?_⟩
      walk_at "go"
      refine ite2 (fun h4 => ?_) (fun h4 => ?_)
      · walk_at "go"
        exact no fun z => by
          have := z.2.2.2
          simp [this] at h4
      walk_at "go"
      have g1 := of_decide_eq_true h1
      have g2 := of_decide_eq_true h2
      have g3 := of_decide_eq_true h3
      have g4 : k ≤ (rows.length : Int) := by
        by_cases z : k ≤ (rows.length : Int)
        · exact z
        · simp [z] at h4
      have hl := vo.len
      obtain ⟨i', rfl⟩ := Int.eq_ofNat_of_zero_le g1
      obtain ⟨j', rfl⟩ := Int.eq_ofNat_of_zero_le (show 0 ≤ j by omega)
      obtain ⟨k', rfl⟩ := Int.eq_ofNat_of_zero_le (show 0 ≤ k by omega)
      refine w_cut (hq.same n1.1) (by omega) (by omega) (Or.inr (by omega)) fun p1 H2 s2 np1 e1 => ?_
      walk_at "go"
      refine w_cut ((hq.same n1.1).same s2) (by omega) (by omega) (Or.inl (by omega)) fun p2 H3 s3 np2 e2 => ?_
      walk_at "go"
      refine ⟨_, _, _, rows, _, _, rfl, (hS1.same s2).same s3, wf, e1.same s3, e2, fun x hx => vo.lt (cutN_mem hx), ?_, fun H4 s4 => ?_⟩
      · have := cutN_len (js := js) (a := j') (b := k')
        have := wf.len
        omega
      · have := q H4 fun b o e => s4 _ _ (s3 _ _ (s2 _ _ (n1.1 _ _ e)))
        have e : swR rows js (some ((i' : Int), (j' : Int), (k' : Int))) = freeB rows (cutN js i' j') (cutN js j' k') := by
          show swB rows js _ _ _ = _
          unfold swB
          rw [decide_eq_true ⟨g1, g2, g3, g4⟩]
          simp
        rw [e] at this
        exact this
end

end Cw
end

/-! text C93_sw2 -/
section
set_option Elab.async false
set_option linter.all false
set_option maxRecDepth 100000
set_option maxHeartbeats 4000000
namespace Cw
open PySem PySem.Spec PyProof.Rows L2
local macro_rules | `(tactic| walk_at "go1") => `(tactic| with_reducible first
  | refine w_seq ?_ | refine w_asgN ?_ | refine w_asgG ?_ | refine w_drop ?_ | refine w_ret ?_ | refine w_if ?_ | refine w_next ?_
  | refine w_var rfl ?_ | refine w_c ?_ | refine w_op ?_ | refine w_un ?_ | refine w_cb ?_ | refine w_cons ?_ | refine w_nil ?_ | refine w_call ?_
  | refine w_test ?_ | refine w_tB ?_ | refine w_bl ?_ | refine w_and ?_ | refine w_or ?_ | refine w_not ?_ | refine w_andV ?_ | refine w_orV ?_ | refine w_notV ?_ | refine w_ifE ?_ | refine w_blv ?_
  | refine w_I0 ?_ | refine w_eqI ?_ | refine w_neI ?_ | refine w_isN ?_ | refine w_notN ?_ | refine w_chain ?_ | refine w_for ?_ | refine w_iSeq ?_ | refine w_iR1 ?_ | refine w_iR2 ?_ | refine w_lc ?_
  | refine w_tupS ?_ | refine w_lstS ?_ | refine w_gN ?_ | refine w_gCons ?_ | refine w_gNil ?_ | refine w_aug rfl ?_ | refine w_ip ?_ | refine w_par ?_ | refine w_par2 ?_ | refine w_par3 ?_ | refine w_par33 ?_ | refine w_small (by first | decide | (simp only [List.length_cons, List.length_nil]; decide)) ?_ | refine w_bmL ?_ | refine w_gSub ?_ | refine w_lc2 ?_ | refine w_iEnum ?_ | refine w_yes ?_ | refine w_chN ?_ | refine w_chC ?_ | refine w_chL ?_ | refine w_tSl ?_ | refine w_pN ?_ | refine w_pS ?_ | refine w_pI ?_ | refine w_star ?_)
local macro_rules | `(tactic| walk_at "hp") => `(tactic| (first | assumption | exact g_at (by assumption) | exact g_cat (by assumption) | (refine g_same (by assumption) ?_ ; walk_at "hp") | (refine g_new (by assumption) ?_ ; walk_at "hp") | (refine q_same (by assumption) ?_ ; walk_at "hp") | (refine q_new (by assumption) ?_ ; walk_at "hp")))
local macro_rules | `(tactic| walk_at "go") => `(tactic| repeat' walk_at "go1")
local macro_rules | `(tactic| walk_at "st") => `(tactic| simp only [cxK, L2.start, List.map_cons, List.map_nil, List.length_cons, List.length_nil, Nat.reduceAdd, Nat.reduceSub, List.replicate, List.cons_append, List.nil_append])

--import sw
/-- an order and a swap of it; may raise InvalidSwap with the value -/
def SwPre (K : PySem.W.Frag) (CS : Addr) (vs : List V) (H : Hp) (s a : Addr) (v : V) (rows : List Row) (js : List Nat) (o : Option (Int × Int × Int)) : Prop :=
  vs = [V.ref s, .ref a, v] ∧ SearchAt CS H s rows ∧ WfR rows ∧ (H a = some (.lst (iv js)) ∨ H a = some (.tup (iv js))) ∧ VO rows js ∧ SwV H v o
def spCheckSwap (K : PySem.W.Frag) (CS CI : Addr) : Sp := fun vs H Q E => ∃ s a v rows js o, SwPre K CS vs H s a v rows js o ∧ (swR rows js o = true → ∀ H', Same H H' → Q .non H') ∧ (swR rows js o = false → ErrSw CI H v E)
def swG (rows : List Row) (js : List Nat) (i j k : Int) : Int := M93.sm (wR rows) (cutN js j.toNat k.toNat) * M93.sm (pR rows) (cutN js i.toNat j.toNat) - M93.sm (wR rows) (cutN js i.toNat j.toNat) * M93.sm (pR rows) (cutN js j.toNat k.toNat)
def swJ (js : List Nat) (i j k : Int) : List Nat := js.take i.toNat ++ (cutN js j.toNat k.toNat ++ (cutN js i.toNat j.toNat ++ js.drop k.toNat))
def spSwapped (K : PySem.W.Frag) (CS CI : Addr) : Sp := fun vs H Q E => ∃ s a v rows js o, SwPre K CS vs H s a v rows js o ∧ (∀ i j k, o = some (i, j, k) → swB rows js i j k = true → ∀ p H', New H H' p (.lst (iv (swJ js i j k))) → Q (.ref p) H') ∧ (swR rows js o = false → ErrSw CI H v E)
def spSwapGain (K : PySem.W.Frag) (CS CI : Addr) : Sp := fun vs H Q E => ∃ s a v rows js o, SwPre K CS vs H s a v rows js o ∧ (∀ i j k, o = some (i, j, k) → swB rows js i j k = true → ∀ H', Same H H' → Q (.int (swG rows js i j k)) H') ∧ (swR rows js o = false → ErrSw CI H v E)
def spGainOf (K : PySem.W.Frag) (CS : Addr) : Sp := fun vs H Q _ => ∃ s a v rows js i j k, SwPre K CS vs H s a v rows js (some (i, j, k)) ∧ swB rows js i j k = true ∧ ∀ H', Same H H' → Q (.int (swG rows js i j k)) H'
theorem swB_nat {rows : List Row} {js : List Nat} {i j k : Int} (h : swB rows js i j k = true) : ∃ i' j' k' : Nat, i = i' ∧ j = j' ∧ k = k' ∧ i' < j' ∧ j' < k' ∧ k' ≤ rows.length ∧ freeB rows (cutN js i' j') (cutN js j' k') = true := by
  unfold swB at h
  obtain ⟨h1, h2⟩ := Bool.and_eq_true_iff.mp h
  obtain ⟨g1, g2, g3, g4⟩ := of_decide_eq_true h1
  obtain ⟨i', rfl⟩ := Int.eq_ofNat_of_zero_le g1
  obtain ⟨j', rfl⟩ := Int.eq_ofNat_of_zero_le (show 0 ≤ j by omega)
  obtain ⟨k', rfl⟩ := Int.eq_ofNat_of_zero_le (show 0 ≤ k by omega)
  exact ⟨i', j', k', rfl, rfl, rfl, by omega, by omega, by omega, by simpa using h2⟩
theorem sm_bd {f : Nat → Int} {b : Int} (h : ∀ j, 0 ≤ f j ∧ f j ≤ b) : ∀ js : List Nat, 0 ≤ M93.sm f js ∧ M93.sm f js ≤ (js.length : Int) * b := by
  intro js
  induction js with
  | nil => simp [M93.sm]
  | cons x r ih =>
    have := h x
    simp only [M93.sm, List.length_cons]
    rw [show ((r.length + 1 : Nat) : Int) * b = (r.length : Int) * b + b by rw [Int.natCast_add]; simp [Int.add_mul]]
    omega
theorem sm_small {rows : List Row} (wf : WfR rows) {js : List Nat} (h : js.length ≤ 100) : (0 ≤ M93.sm (wR rows) js ∧ M93.sm (wR rows) js ≤ 100000000) ∧ 0 ≤ M93.sm (pR rows) js ∧ M93.sm (pR rows) js ≤ 100000000 := by
  have h1 := sm_bd wf.w0 js
  have h2 := sm_bd wf.p0 js
  omega
theorem SwV.tri_at {H : Hp} {v : V} {i j k : Int} (h : SwV H v (some (i, j, k))) : ∃ a, v = .ref a ∧ H a = some (.tup [.int i, .int j, .int k]) := by
  cases h with
  | tri h => exact ⟨_, rfl, h⟩
section
variable {P : Program} {w : World} {K : PySem.W.Frag} {mg : Str → Option Value} {base : Heap} {CS CC CI CB : Addr}
theorem ok_check_swap (D : Df K mg "check_swap" s_check_swap) (S : SwE K mg CI CB) (c_check_order : Dn P w K mg base CX0 6 "check_order" s_check_order p_check_order (spChk K CS)) (c_swaps_in : Dn P w K mg base CX0 3 "swaps_in" s_swaps_in p_swaps_in (spSwapsIn K CS)) :
    Dn P w K mg base (L2.CX P w) 7 "check_swap" s_check_swap p_check_swap (spCheckSwap K CS CI) := by
  refine dn_okX D sc_check_swap (fun vs H Q E h => by obtain ⟨_, _, _, _, _, _, ⟨rfl, _⟩, _⟩ := h; rfl) fun f cdv A outer s H vs Q E hr h => ?_
  obtain ⟨s, a, v, rows, js, o, ⟨rfl, hS, wf, ha, vo, hv⟩, q1, q2⟩ := h
  refine ⟨_, (pss_cons (ps_expr (pe_cD c_check_order b_check_order (hr.mono (by decide)) (by rfl) pass0 (pa_cons (pv 0) (pa_cons (pv 1) pa_nil))))
      (pss_one (ps_if (pt_not (pt_val (pe_cD c_swaps_in b_swaps_in (hr.mono (by decide)) (by rfl) pass0 (pa_cons (pv 0) (pa_cons (pv 1) (pa_cons (pv 2) pa_nil)))))) (pss_one (ps_raise rfl (takes_of rfl rfl rfl rfl) (pmk_sw S (hr.mono (by decide)) (by rfl) (pa_cons (pv 2) pa_nil)))) pss_nil))), ?_⟩
  walk_at "st"
  walk_at "go"
  refine ⟨_, _, _, rows, js, rfl, hS, wf, ha, rfl, vo, fun H1 s1 => ?_⟩
  walk_at "go"
  refine ⟨_, _, _, _, rows, js, o, rfl, hS.same s1, wf, ha.imp (g_same s1) (g_same s1), rfl, vo, hv.same s1, fun H2 s2 => ?_⟩
  have s12 : Same H H2 := fun b o e => s2 _ _ (s1 _ _ e)
  walk_at "go"
  cases e : swR rows js o with
  | true =>
    refine iteF ?_
    walk_at "go"
    exact q1 e _ s12
  | false =>
    refine iteT ?_
    show tMkO _ _ _ _ _ _ _
    unfold tMkO
    walk_at "go"
    exact sw_raised ((q2 e).same s12)
theorem ok_gain_of (D : Df K mg "gain_of" s_gain_of) (c_totals_of : Dn P w K mg base CX0 1 "totals_of" s_totals_of p_totals_of (spTotals K CS)) :
    Dn P w K mg base CX0 2 "gain_of" s_gain_of p_gain_of (spGainOf K CS) := by
  refine dn_ok D sc_gain_of (fun vs H Q E h => by obtain ⟨_, _, _, _, _, _, _, _, ⟨rfl, _⟩, _⟩ := h; rfl) fun f cdv A outer s H vs Q E hr h => ?_
  obtain ⟨s, a, v, rows, js, i, j, k, ⟨rfl, hS, wf, ha, vo, hv⟩, hb, q⟩ := h
  obtain ⟨va, rfl, hva⟩ := hv.tri_at
  obtain ⟨i', j', k', rfl, rfl, rfl, h1, h2, h3, h4⟩ := swB_nat hb
  have hl := vo.len
  have hq := sq_or (K := K) ha
  refine ⟨_, (pss_cons (ps_asg (pv 2) (pg_tup rfl (pgs_cons (pg_name (i := 3) sc_gain_of.nd rfl (by first | exact Or.inl rfl | exact Or.inr rfl)) (pgs_cons (pg_name (i := 4) sc_gain_of.nd rfl (by first | exact Or.inl rfl | exact Or.inr rfl)) (pgs_cons (pg_name (i := 5) sc_gain_of.nd rfl (by first | exact Or.inl rfl | exact Or.inr rfl)) pgs_nil)))))
      (pss_cons (ps_asg (pe_cD c_totals_of b_totals_of (hr.mono (by decide)) (by rfl) pass0 (pa_cons (pv 0) (pa_cons (pe_slice sl_s (pv 1) (po_some (pv 3)) (po_some (pv 4))) pa_nil))) (pg_tup rfl (pgs_cons (pg_name (i := 6) sc_gain_of.nd rfl (by first | exact Or.inl rfl | exact Or.inr rfl)) (pgs_cons (pg_name (i := 7) sc_gain_of.nd rfl (by first | exact Or.inl rfl | exact Or.inr rfl)) pgs_nil))))
      (pss_cons (ps_asg (pe_cD c_totals_of b_totals_of (hr.mono (by decide)) (by rfl) pass0 (pa_cons (pv 0) (pa_cons (pe_slice sl_s (pv 1) (po_some (pv 4)) (po_some (pv 5))) pa_nil))) (pg_tup rfl (pgs_cons (pg_name (i := 8) sc_gain_of.nd rfl (by first | exact Or.inl rfl | exact Or.inr rfl)) (pgs_cons (pg_name (i := 9) sc_gain_of.nd rfl (by first | exact Or.inl rfl | exact Or.inr rfl)) pgs_nil))))
      (pss_one (ps_ret (pe_op op_sub (pe_op op_mul (pv 8) (pv 7)) (pe_op op_mul (pv 6) (pv 9)))))))), ?_⟩
  walk_at "st"
  walk_at "go"
  refine w_gTup hva rfl ?_
  walk_at "go"
  refine w_cut hq (by omega) (by omega) (Or.inr (by omega)) fun p1 H1 s1 np1 e1 => ?_
  walk_at "go"
  have wl := wf.len
  have l1 := cutN_len (js := js) (a := i') (b := j')
  have l2 := cutN_len (js := js) (a := j') (b := k')
  refine ⟨_, _, rows, _, rfl, hS.same s1, wf, e1, fun x hx => vo.lt (cutN_mem hx), by omega, fun p2 H2 n2 => ?_⟩
  walk_at "go"
  refine w_gTup (g_at n2) rfl ?_
  walk_at "go"
  have s2 : Same H H2 := fun b o e => n2.1 _ _ (s1 _ _ e)
  refine w_cut (hq.same s2) (by omega) (by omega) (Or.inl (by omega)) fun p3 H3 s3 np3 e3 => ?_
  walk_at "go"
  refine ⟨_, _, rows, _, rfl, (hS.same s2).same s3, wf, e3, fun x hx => vo.lt (cutN_mem hx), by omega, fun p4 H4 n4 => ?_⟩
  walk_at "go"
  refine w_gTup (g_at n4) rfl ?_
  walk_at "go"
  have b1 := sm_small wf (js := cutN js i' j') (by omega)
  have b2 := sm_small wf (js := cutN js j' k') (by omega)
  refine w_I (Or.inl (by omega)) ?_
  walk_at "go"
  refine w_I (Or.inl (by omega)) ?_
  walk_at "go"
  exact q H4 fun b o e => n4.1 _ _ (s3 _ _ (s2 _ _ e))
theorem ok_swap_gain (D : Df K mg "swap_gain" s_swap_gain) (c_check_swap : Dn P w K mg base (L2.CX P w) 7 "check_swap" s_check_swap p_check_swap (spCheckSwap K CS CI)) (c_gain_of : Dn P w K mg base CX0 2 "gain_of" s_gain_of p_gain_of (spGainOf K CS)) :
    Dn P w K mg base (L2.CX P w) 8 "swap_gain" s_swap_gain p_swap_gain (spSwapGain K CS CI) := by
  refine dn_okX D sc_swap_gain (fun vs H Q E h => by obtain ⟨_, _, _, _, _, _, ⟨rfl, _⟩, _⟩ := h; rfl) fun f cdv A outer s H vs Q E hr h => ?_
  obtain ⟨s, a, v, rows, js, o, ⟨rfl, hS, wf, ha, vo, hv⟩, q1, q2⟩ := h
  refine ⟨_, (pss_cons (ps_expr (pe_cD c_check_swap b_check_swap (hr.mono (by decide)) (by rfl) (passes_call (takes_of rfl rfl rfl rfl) (fun _ _ _ _ h => h)) (pa_cons (pv 0) (pa_cons (pv 1) (pa_cons (pv 2) pa_nil)))))
      (pss_one (ps_ret (pe_cD c_gain_of b_gain_of (hr.mono (by decide)) (by rfl) pass0 (pa_cons (pv 0) (pa_cons (pv 1) (pa_cons (pv 2) pa_nil))))))), ?_⟩
  walk_at "st"
  walk_at "go"
  refine ⟨_, _, _, rows, js, o, ⟨rfl, hS, wf, ha, vo, hv⟩, fun hb H1 s1 => ?_, q2⟩
  walk_at "go"
  cases o with
  | none => cases hb
  | some t =>
    obtain ⟨i, j, k⟩ := t
    exact ⟨_, _, _, rows, js, i, j, k, ⟨rfl, hS.same s1, wf, ha.imp (g_same s1) (g_same s1), vo, hv.same s1⟩, hb, fun H2 s2 => q1 i j k rfl hb H2 fun b o e => s2 _ _ (s1 _ _ e)⟩
theorem ok_swapped (D : Df K mg "swapped" s_swapped) (c_check_swap : Dn P w K mg base (L2.CX P w) 7 "check_swap" s_check_swap p_check_swap (spCheckSwap K CS CI)) :
    Dn P w K mg base (L2.CX P w) 8 "swapped" s_swapped p_swapped (spSwapped K CS CI) := by
  refine dn_okX D sc_swapped (fun vs H Q E h => by obtain ⟨_, _, _, _, _, _, ⟨rfl, _⟩, _⟩ := h; rfl) fun f cdv A outer s H vs Q E hr h => ?_
  obtain ⟨s, a, v, rows, js, o, ⟨rfl, hS, wf, ha, vo, hv⟩, q1, q2⟩ := h
  have hq := sq_or (K := K) ha
  refine ⟨_, (pss_cons (ps_expr (pe_cD c_check_swap b_check_swap (hr.mono (by decide)) (by rfl) (passes_call (takes_of rfl rfl rfl rfl) (fun _ _ _ _ h => h)) (pa_cons (pv 0) (pa_cons (pv 1) (pa_cons (pv 2) pa_nil)))))
      (pss_cons (ps_asg (pv 2) (pg_tup rfl (pgs_cons (pg_name (i := 3) sc_swapped.nd rfl (by first | exact Or.inl rfl | exact Or.inr rfl)) (pgs_cons (pg_name (i := 4) sc_swapped.nd rfl (by first | exact Or.inl rfl | exact Or.inr rfl)) (pgs_cons (pg_name (i := 5) sc_swapped.nd rfl (by first | exact Or.inl rfl | exact Or.inr rfl)) pgs_nil)))))
      (pss_one (ps_ret (pe_lstS (StX.pa_star (pe_slice sl_s (pv 1) po_none (po_some (pv 3))) (StX.pa_star (pe_slice sl_s (pv 1) (po_some (pv 4)) (po_some (pv 5))) (StX.pa_star (pe_slice sl_s (pv 1) (po_some (pv 3)) (po_some (pv 4))) (StX.pa_star (pe_slice sl_s (pv 1) (po_some (pv 5)) po_none) pa_nil))))))))), ?_⟩
  walk_at "st"
  walk_at "go"
  refine ⟨_, _, _, rows, js, o, ⟨rfl, hS, wf, ha, vo, hv⟩, fun hb H1 s1 => ?_, q2⟩
  walk_at "go"
  cases o with
  | none => cases hb
  | some t =>
    obtain ⟨i, j, k⟩ := t
    have hb' : swB rows js i j k = true := hb
    obtain ⟨va, rfl, hva⟩ := hv.tri_at
    obtain ⟨i', j', k', rfl, rfl, rfl, h1, h2, h3, h4⟩ := swB_nat hb'
    have hl := vo.len
    have wl := wf.len
    refine w_gTup (g_same s1 hva) rfl ?_
    walk_at "go"
    refine w_cutT (hq.same s1) (by omega) fun p1 H2 s2 np1 e1 => ?_
    refine w_starQ e1 ?_
    walk_at "go"
    have a2 := (hq.same s1).same s2
    refine w_cut a2 (by omega) (by omega) (Or.inl (by omega)) fun p2 H3 s3 np2 e2 => ?_
    refine w_starQ e2 ?_
    walk_at "go"
    refine w_cut (a2.same s3) (by omega) (by omega) (Or.inr (by omega)) fun p3 H4 s4 np3 e3 => ?_
    refine w_starQ e3 ?_
    walk_at "go"
    refine w_cutF ((a2.same s3).same s4) (by omega) (by omega) fun p4 H5 s5 np4 e4 => ?_
    refine w_starQ e4 ?_
    walk_at "go"
    have s25 : Same H H5 := fun b o e => s5 _ _ (s4 _ _ (s3 _ _ (s2 _ _ (s1 _ _ e))))
    have ee : iv (js.take i') ++ (iv (cutN js j' k') ++ (iv (cutN js i' j') ++ (iv (js.drop k') ++ []))) = iv (swJ js (i' : Int) (j' : Int) (k' : Int)) := by
      unfold swJ
      simp only [Int.toNat_natCast, iv_append, List.append_nil]
    rw [ee]
    refine ⟨?_, fun p H6 n6 => q1 _ _ _ rfl hb' p H6 ⟨fun b o e => n6.1 _ _ (s25 _ _ e), ?_, n6.2.2⟩⟩
    · rw [iv_length, sizeLine_eq]
      unfold swJ
      have := cutN_len (js := js) (a := i') (b := j')
      have := cutN_len (js := js) (a := j') (b := k')
      simp only [Int.toNat_natCast, List.length_append, List.length_take, List.length_drop]
      omega
    · cases e : H p with
      | none => rfl
      | some o =>
        have := s25 p o e
        rw [n6.2.1] at this
        cases this
end

end Cw
end

/-! text C93_pl -/
section
set_option Elab.async false
set_option linter.all false
set_option maxRecDepth 100000
set_option maxHeartbeats 4000000
namespace Cw
open PySem PySem.Spec PyProof.Rows L2
local macro_rules | `(tactic| walk_at "go1") => `(tactic| with_reducible first
  | refine w_seq ?_ | refine w_asgN ?_ | refine w_asgG ?_ | refine w_drop ?_ | refine w_ret ?_ | refine w_if ?_ | refine w_next ?_
  | refine w_var rfl ?_ | refine w_c ?_ | refine w_op ?_ | refine w_un ?_ | refine w_cb ?_ | refine w_cons ?_ | refine w_nil ?_ | refine w_call ?_
  | refine w_test ?_ | refine w_tB ?_ | refine w_bl ?_ | refine w_and ?_ | refine w_or ?_ | refine w_not ?_ | refine w_andV ?_ | refine w_orV ?_ | refine w_notV ?_ | refine w_ifE ?_ | refine w_blv ?_
  | refine w_I0 ?_ | refine w_eqI ?_ | refine w_neI ?_ | refine w_isN ?_ | refine w_notN ?_ | refine w_chain ?_ | refine w_for ?_ | refine w_iSeq ?_ | refine w_iR1 ?_ | refine w_iR2 ?_ | refine w_lc ?_
  | refine w_tupS ?_ | refine w_lstS ?_ | refine w_gN ?_ | refine w_gCons ?_ | refine w_gNil ?_ | refine w_aug rfl ?_ | refine w_ip ?_ | refine w_par ?_ | refine w_par2 ?_ | refine w_par3 ?_ | refine w_par33 ?_ | refine w_small (by first | decide | (simp only [List.length_cons, List.length_nil]; decide)) ?_ | refine w_bmL ?_ | refine w_gSub ?_ | refine w_lc2 ?_ | refine w_iEnum ?_ | refine w_yes ?_ | refine w_chN ?_ | refine w_chC ?_ | refine w_chL ?_ | refine w_tSl ?_ | refine w_pN ?_ | refine w_pS ?_ | refine w_pI ?_ | refine w_star ?_)
local macro_rules | `(tactic| walk_at "hp") => `(tactic| (first | assumption | exact g_at (by assumption) | exact g_cat (by assumption) | (refine g_same (by assumption) ?_ ; walk_at "hp") | (refine g_new (by assumption) ?_ ; walk_at "hp") | (refine q_same (by assumption) ?_ ; walk_at "hp") | (refine q_new (by assumption) ?_ ; walk_at "hp")))
local macro_rules | `(tactic| walk_at "go") => `(tactic| repeat' walk_at "go1")
local macro_rules | `(tactic| walk_at "st") => `(tactic| simp only [cxK, L2.start, List.map_cons, List.map_nil, List.length_cons, List.length_nil, Nat.reduceAdd, Nat.reduceSub, List.replicate, List.cons_append, List.nil_append])

--import sw2
/-- the places of the jobs of an order, so far -/
def plc (n : Nat) (js : List Nat) (i : Nat) : List V := (List.range n).map fun c => V.int (if c ∈ js.take i then (js.idxOf c : Int) else 0)
theorem plc_len {n : Nat} {js : List Nat} {i : Nat} : (plc n js i).length = n := by unfold plc; rw [List.length_map, List.length_range]
theorem plc_get {n : Nat} {js : List Nat} {i c : Nat} (h : c < n) : (plc n js i)[c]? = some (.int (if c ∈ js.take i then (js.idxOf c : Int) else 0)) := by
  unfold plc
  rw [List.getElem?_map, List.getElem?_range h]
  rfl
theorem idx_at {js : List Nat} (nd : js.Nodup) {i j : Nat} (h : js[i]? = some j) : js.idxOf j = i := by
  obtain ⟨hi, rfl⟩ := List.getElem?_eq_some_iff.mp h
  exact nd.idxOf_getElem i hi
theorem plc_set {n : Nat} {js : List Nat} (nd : js.Nodup) {i j : Nat} (h : js[i]? = some j) : (plc n js i).set j (.int (i : Int)) = plc n js (i + 1) := by
  apply List.ext_getElem?
  intro c
  rw [List.getElem?_set, plc_len]
  by_cases hc : c < n
  · rw [plc_get hc, plc_get hc]
    by_cases e : j = c
    · subst e
      rw [if_pos rfl, if_pos hc, if_pos (by rw [take_at h]; simp), idx_at nd h]
    · rw [if_neg e]
      have e2 : ¬ c = j := fun z => e z.symm
      have e3 : (c ∈ js.take (i + 1)) ↔ c ∈ js.take i := by rw [take_at h]; simp [e2]
      simp only [e3]
  · have h1 : (plc n js i)[c]? = none := List.getElem?_eq_none (by rw [plc_len]; omega)
    have h2 : (plc n js (i + 1))[c]? = none := List.getElem?_eq_none (by rw [plc_len]; omega)
    rw [h1, h2]
    by_cases e : j = c
    · subst e
      rw [if_pos rfl, if_neg hc]
    · rw [if_neg e]
theorem plc_nil (n : Nat) (js : List Nat) : (List.replicate n [V.int 0]).flatten = plc n js 0 := by
  unfold plc
  apply List.ext_getElem?
  intro i
  have e : (List.replicate n [V.int 0]).flatten = List.replicate n (V.int 0) := by
    induction n with
    | zero => rfl
    | succ n ih => simp [List.replicate_succ, ih]
  rw [e, List.getElem?_map]
  by_cases hi : i < n
  · rw [List.getElem?_replicate, if_pos hi, List.getElem?_range hi]; simp
  · rw [List.getElem?_eq_none (by simpa using hi), List.getElem?_eq_none (by simpa using hi)]; rfl
/-- the places of what is above a job -/
def plO (rows : List Row) (js : List Nat) (j : Nat) : HO := .lst ((anc rows j).map fun c => V.int (js.idxOf c : Int))
theorem anc_lt {rows : List Row} (wf : WfR rows) : ∀ {j c : Nat}, c ∈ anc rows j → c < j := by
  intro j c h
  have := (mem_anc wf.par c j).mp h
  induction this with
  | one e => exact wf.par _ _ e
  | up e _ ih =>
    have h2 := wf.par _ _ e
    have := ih ((mem_anc wf.par _ _).mpr ‹_›)
    omega
theorem VO.mem {rows : List Row} {js : List Nat} (h : VO rows js) {c : Nat} (hc : c < rows.length) : c ∈ js := h.perm.mem_iff.mpr (List.mem_range.mpr hc)
theorem VO.anc {rows : List Row} {js : List Nat} (h : VO rows js) (wf : WfR rows) {j c : Nat} (hj : j < rows.length) (hc : c ∈ anc rows j) : c < rows.length := Nat.lt_trans (anc_lt wf hc) hj
def spPlaces (K : PySem.W.Frag) (CS : Addr) : Sp := fun vs H Q _ => ∃ s a rows js, vs = [V.ref s, .ref a] ∧ SearchAt CS H s rows ∧ WfR rows ∧ (H a = some (.lst (iv js)) ∨ H a = some (.tup (iv js))) ∧ VO rows js ∧
  ∀ p H' out, Same H H' → H' p = some (.lst out) → Obs H' out js (plO rows js) → Q (.ref p) H'
structure PlInv (rows : List Row) (js : List Nat) (s a d : Addr) (H0 : Hp) (i : Nat) (σ : L2.St) (H : Hp) : Prop where
  sl : ∃ x y z, σ = [some (.ref s), some (.ref a), some (.ref d), x, y, z]
  st : Same H0 H
  dn : H d = some (.lst (plc rows.length js i))
section
variable {P : Program} {w : World} {K : PySem.W.Frag} {mg : Str → Option Value} {base : Heap} {CS CC CI CB : Addr}
theorem ok_places_above (D : Df K mg "places_above" s_places_above) (T : Txt K mg CS CC) (c_slen : Mn P w K mg base 1 CS "__len__" "Search.__len__" s_Search___len__ p_Search___len__ (spSLen CS)) :
    Dn P w K mg base CX0 3 "places_above" s_places_above p_places_above (spPlaces K CS) := by
  refine dn_ok D sc_places_above (fun vs H Q E h => by obtain ⟨_, _, _, _, rfl, _⟩ := h; rfl) fun f cdv A outer s H vs Q E hr h => ?_
  obtain ⟨s, a, rows, js, rfl, hS, wf, ha, vo, q⟩ := h
  have hq := sq_or (K := K) ha
  have wl := wf.len
  refine ⟨_, (pss_cons (ps_set (i := 2) sc_places_above.nd rfl (by first | exact Or.inl rfl | exact Or.inr rfl) (pe_op op_repS (pe_lstS (pa_cons pe_int pa_nil)) (pe_callB (call_lenD c_slen b_Search___len__ (hr.mono (by decide))) (by rfl) T.len (by decide +kernel) (pa_cons (pv 0) pa_nil))))
      (pss_cons (ps_for PassesOwn.never rfl (pi_enumS (by rfl) T.enumerate (pa_cons (pv 1) pa_nil)) (pg_tup rfl (pgs_cons (pg_name (i := 3) sc_places_above.nd rfl (by first | exact Or.inl rfl | exact Or.inr rfl)) (pgs_cons (pg_name (i := 4) sc_places_above.nd rfl (by first | exact Or.inl rfl | exact Or.inr rfl)) pgs_nil))) (pss_one (ps_asg (pv 3) (pg_sub (pv 2) (pv 4) set_s))))
      (pss_one (ps_ret (pe_lc (own := [("job", 4)]) rfl sc_places_above.nd (pi_seq (pv 1)) (blkOk_by (own := [("job", 4)]) (N := N_places_above) (sc := defScope s_places_above) (by decide +kernel)) (fun _ _ _ _ _ => (pg_name (i := 4) sc_places_above.nd rfl (by first | exact Or.inl rfl | exact Or.inr rfl))) (fun _ _ _ _ _ => pts_nil) (fun _ _ _ _ _ => (pe_lc (own := [("cover", 5)]) rfl sc_places_above.nd (pi_seqK (K := K) (pe_ix (ix_sqK (K := K)) (pe_fldK (K := K) (pv 0)) (pv 4) (fun _ _ => rfl))) (blkOk_by (own := [("cover", 5)]) (N := N_places_above) (sc := (relS _ (defScope s_places_above))) (by decide +kernel)) (fun _ _ _ _ _ => (pg_name (i := 5) sc_places_above.nd rfl (by first | exact Or.inl rfl | exact Or.inr rfl))) (fun _ _ _ _ _ => pts_nil) (fun _ _ _ _ _ => (pe_ix (ix_sqK (K := K)) (pv 2) (pv 5) (fun _ _ => rfl)))))))))), ?_⟩
  walk_at "st"
  walk_at "go"
  intro p1 H1 n1
  walk_at "go"
  have hS1 := hS.same n1.1
  obtain ⟨dx, cv, tv, rv, av, rvs, avs, F⟩ := id hS1
  refine ⟨_, _, _, rfl, F.ob, _, rows, rfl, hS1, _, rfl, ⟨by omega, by omega⟩, ?_⟩
  refine ⟨_, _, _, rfl, rfl, g_at n1, by omega, by omega, (by rw [sizeLine_eq]; simp; omega), fun d H2 n2 => ?_⟩
  walk_at "go"
  have s2 : Same H H2 := fun b o e => n2.1 _ _ (n1.1 _ _ e)
  have nd : H1 d = none := n2.free
  have hd0 : H2 d = some (.lst (plc rows.length js 0)) := by rw [g_at n2, Int.toNat_natCast, plc_nil rows.length js]
  have had : a ≠ d := fun z => by
    subst z
    rcases ha with h | h <;> (have := g_new n1 h; rw [nd] at this; cases this)
  refine enum_for (hq.same s2) (PlInv rows js s a d H1) ⟨⟨_, _, _, rfl⟩, n2.1, hd0⟩ (fun i σ' H' I o e => ?_) (fun i x σ' H' pr H'' hx I n3 => ?_) (fun σ' H' I => ?_)
  · have h2 : H1 a = some o := by
      rcases ha with h | h <;> (have h1 := g_new n1 h; have h3 := g_new n2 h1; rw [e] at h3; rw [h1]; exact h3.symm)
    exact I.st _ _ h2
  · obtain ⟨⟨x1, y1, z1, rfl⟩, st, dn⟩ := I
    obtain ⟨j, hj1, rfl, hil⟩ := iv_at hx
    have hjl := vo.lt (List.mem_of_getElem? hj1)
    refine w_gTup (g_at n3) rfl ?_
    walk_at "go"
    refine w_setS (g_new n3 dn) (by rw [plc_len]; exact hjl) fun H4 c => ?_
    exact ⟨⟨_, _, _, rfl⟩, Same.mut (fun b o e => n3.1 _ _ (st _ _ e)) nd c.1, by rw [c.2, plc_set vo.nd hj1]⟩
  · obtain ⟨⟨x1, y1, z1, rfl⟩, st, dn⟩ := I
    have s3 : Same H H' := fun b o e => st _ _ (n1.1 _ _ e)
    rw [iv_length] at dn
    walk_at "go"
    refine seq_obs js (fun n => V.int (n : Int)) (fun _ => true) (plO rows js) (by have := vo.len; omega) (hq.same s3) (fun x H4 Pe Pn hx st4 k1 k2 => ?_) (fun D H4 out st4 nD hD ob => ?_)
    · have hxl := vo.lt hx
      obtain ⟨dx, cv, tv, rv, av, rvs, avs, F⟩ := (hS.same s3).same st4
      obtain ⟨aa, e1, e2⟩ := F.aa.2 x hxl
      walk_at "go"
      refine ⟨rfl, ?_⟩
      walk_at "go"
      rw [if_pos rfl]
      walk_at "go"
      refine w_fl ?_
      walk_at "go"
      refine ⟨_, _, _, _, _, rfl, F.ob, T.clS, T.nSa, lk_above _ _ _ _, ?_⟩
      walk_at "go"
      refine w_ixn (q_t F.at') e1 ?_
      refine seq_map (anc rows x) (fun n => V.int (n : Int)) (fun _ => true) (fun c => V.int (js.idxOf c : Int)) (by have := anc_len (rows := rows) x; omega) (q_t e2) (fun c H5 Pe2 Pn2 hc st5 k3 k4 => ?_) (fun D2 H5 n5 => ?_)
      · have hcl := vo.anc wf hxl hc
        walk_at "go"
        refine ⟨rfl, ?_⟩
        walk_at "go"
        rw [if_pos rfl]
        walk_at "go"
        refine w_ixn (q_l (st5 _ _ (st4 _ _ dn))) (plc_get hcl) ?_
        rw [List.take_length, if_pos (vo.mem hcl)]
        exact k3 rfl H5 fun _ _ e => e
      · rw [filter_tt] at n5
        exact k1 rfl D2 H5 n5.1 n5.2.1 n5.2.2
    · rw [filter_tt] at ob
      exact q D H4 out (fun b o e => st4 _ _ (s3 _ _ e)) hD ob
end

end Cw
end

/-! text C93_be -/
section
set_option Elab.async false
set_option linter.all false
set_option maxRecDepth 100000
set_option maxHeartbeats 4000000
namespace Cw
open PySem PySem.Spec PyProof.Rows L2
local macro_rules | `(tactic| walk_at "go1") => `(tactic| with_reducible first
  | refine w_seq ?_ | refine w_asgN ?_ | refine w_asgG ?_ | refine w_drop ?_ | refine w_ret ?_ | refine w_if ?_ | refine w_next ?_
  | refine w_var rfl ?_ | refine w_c ?_ | refine w_op ?_ | refine w_un ?_ | refine w_cb ?_ | refine w_cons ?_ | refine w_nil ?_ | refine w_call ?_
  | refine w_test ?_ | refine w_tB ?_ | refine w_bl ?_ | refine w_and ?_ | refine w_or ?_ | refine w_not ?_ | refine w_andV ?_ | refine w_orV ?_ | refine w_notV ?_ | refine w_ifE ?_ | refine w_blv ?_
  | refine w_I0 ?_ | refine w_eqI ?_ | refine w_neI ?_ | refine w_isN ?_ | refine w_notN ?_ | refine w_chain ?_ | refine w_for ?_ | refine w_iSeq ?_ | refine w_iR1 ?_ | refine w_iR2 ?_ | refine w_lc ?_
  | refine w_tupS ?_ | refine w_lstS ?_ | refine w_gN ?_ | refine w_gCons ?_ | refine w_gNil ?_ | refine w_aug rfl ?_ | refine w_ip ?_ | refine w_par ?_ | refine w_par2 ?_ | refine w_par3 ?_ | refine w_par33 ?_ | refine w_small (by first | decide | (simp only [List.length_cons, List.length_nil]; decide)) ?_ | refine w_bmL ?_ | refine w_gSub ?_ | refine w_lc2 ?_ | refine w_iEnum ?_ | refine w_yes ?_ | refine w_chN ?_ | refine w_chC ?_ | refine w_chL ?_ | refine w_tSl ?_ | refine w_pN ?_ | refine w_pS ?_ | refine w_pI ?_ | refine w_star ?_)
local macro_rules | `(tactic| walk_at "hp") => `(tactic| (first | assumption | exact g_at (by assumption) | exact g_cat (by assumption) | (refine g_same (by assumption) ?_ ; walk_at "hp") | (refine g_new (by assumption) ?_ ; walk_at "hp") | (refine q_same (by assumption) ?_ ; walk_at "hp") | (refine q_new (by assumption) ?_ ; walk_at "hp")))
local macro_rules | `(tactic| walk_at "go") => `(tactic| repeat' walk_at "go1")
local macro_rules | `(tactic| walk_at "st") => `(tactic| simp only [cxK, L2.start, List.map_cons, List.map_nil, List.length_cons, List.length_nil, Nat.reduceAdd, Nat.reduceSub, List.replicate, List.cons_append, List.nil_append])

--import pl
theorem cut_at {js : List Nat} {a b k : Nat} : (cutN js a b)[k]? = if k < b - a then js[a + k]? else none := by
  unfold cutN
  rw [List.getElem?_take, List.getElem?_drop]
theorem mem_cut {js : List Nat} (nd : js.Nodup) {c : Nat} (hc : c ∈ js) {i j : Nat} : c ∈ cutN js i j ↔ i ≤ js.idxOf c ∧ js.idxOf c < j := by
  have h0 : js[js.idxOf c]? = some c := by
    have hl := List.idxOf_lt_length_iff.mpr hc
    rw [List.getElem?_eq_getElem hl, List.getElem_idxOf]
  constructor
  · intro h
    obtain ⟨k, hk⟩ := List.mem_iff_getElem?.mp h
    rw [cut_at] at hk
    by_cases z : k < j - i
    · rw [if_pos z] at hk
      have := idx_at nd hk
      omega
    · rw [if_neg z] at hk
      cases hk
  · intro ⟨h1, h2⟩
    refine List.mem_iff_getElem?.mpr ⟨js.idxOf c - i, ?_⟩
    rw [cut_at, if_pos (by omega), show i + (js.idxOf c - i) = js.idxOf c by omega]
    exact h0
theorem cut_succ {js : List Nat} {j k y : Nat} (h : js[j + k]? = some y) : cutN js j (j + (k + 1)) = cutN js j (j + k) ++ [y] := by
  unfold cutN
  rw [show j + (k + 1) - j = k + 1 by omega, show j + k - j = k by omega, List.take_add_one, List.getElem?_drop, h]
  rfl
theorem cut_nil {js : List Nat} {j : Nat} : cutN js j (j + 0) = [] := by
  unfold cutN
  simp
theorem freeB_app {rows : List Row} {A B C : List Nat} : freeB rows A (B ++ C) = (freeB rows A B && freeB rows A C) := by
  unfold freeB
  rw [List.all_append]
/-- what better_end may say: an end of an improving swap, or that there is none -/
def BE (rows : List Row) (js : List Nat) (i j : Nat) : Option Nat → Prop
  | some e => swB rows js i j e = true ∧ 0 < swG rows js i j e
  | none => ∀ e : Nat, swB rows js i j e = true → swG rows js i j e ≤ 0
def spBE (K : PySem.W.Frag) (CS : Addr) : Sp := fun vs H Q _ => ∃ s a b rows js out i j, vs = [V.ref s, .ref a, .ref b, .int ((i : Nat) : Int), .int ((j : Nat) : Int)] ∧ SearchAt CS H s rows ∧ WfR rows ∧ (H a = some (.lst (iv js)) ∨ H a = some (.tup (iv js))) ∧ VO rows js ∧
  H b = some (.lst out) ∧ Obs H out js (plO rows js) ∧ i < j ∧ j < rows.length ∧ ∀ o H', Same H H' → BE rows js i j o → Q (optV o) H'
structure BeInv (rows : List Row) (js : List Nat) (s a b : Addr) (i j : Nat) (H0 : Hp) (k : Nat) (σ : L2.St) (H : Hp) : Prop where
  sl : ∃ x y, σ = [some (.ref s), some (.ref a), some (.ref b), some (.int (i : Int)), some (.int (j : Int)), some (.int (M93.sm (wR rows) (cutN js i j))), some (.int (M93.sm (pR rows) (cutN js i j))),
    some (.int (M93.sm (wR rows) (cutN js j (j + k)))), some (.int (M93.sm (pR rows) (cutN js j (j + k)))), x, y]
  st : Same H0 H
  fr : freeB rows (cutN js i j) (cutN js j (j + k)) = true
  no : ∀ e : Nat, j < e → e ≤ j + k → swG rows js i j e ≤ 0
theorem Obs.same {α : Type} {H H' : Hp} {out : List V} {l : List α} {o : α → HO} (s : Same H H') (h : Obs H out l o) : Obs H' out l o := ⟨h.1, fun k x e => let ⟨a, h1, h2⟩ := h.2 k x e; ⟨a, h1, s _ _ h2⟩⟩
theorem swB_le {rows : List Row} {js : List Nat} {i j e : Nat} (h : swB rows js i j e = true) : j < e ∧ e ≤ rows.length ∧ freeB rows (cutN js i j) (cutN js j e) = true := by
  obtain ⟨i', j', k', h1, h2, h3, h4, h5, h6, h7⟩ := swB_nat h
  have e1 : i = i' := by omega
  have e2 : j = j' := by omega
  have e3 : e = k' := by omega
  subst e1 e2 e3
  exact ⟨h5, h6, h7⟩
theorem swB_of {rows : List Row} {js : List Nat} {i j e : Nat} (h1 : i < j) (h2 : j < e) (h3 : e ≤ rows.length) (h : freeB rows (cutN js i j) (cutN js j e) = true) : swB rows js i j e = true := by
  unfold swB
  rw [decide_eq_true (by omega)]
  simpa using h
section
variable {P : Program} {w : World} {K : PySem.W.Frag} {mg : Str → Option Value} {base : Heap} {CS CC CI CB : Addr}
theorem ok_better_end (D : Df K mg "better_end" s_better_end) (T : Txt K mg CS CC) (c_totals_of : Dn P w K mg base CX0 1 "totals_of" s_totals_of p_totals_of (spTotals K CS)) :
    Dn P w K mg base CX0 2 "better_end" s_better_end p_better_end (spBE K CS) := by
  refine dn_ok D sc_better_end (fun vs H Q E h => by obtain ⟨_, _, _, _, _, _, _, _, rfl, _⟩ := h; rfl) fun f cdv A outer s H vs Q E hr h => ?_
  obtain ⟨s, a, b, rows, js, out, i, j, rfl, hS, wf, ha, vo, hb, hob, hij, hjn, q⟩ := h
  have hq := sq_or (K := K) ha
  have wl := wf.len
  have hl := vo.len
  refine ⟨_, (pss_cons (ps_asg (pe_cD c_totals_of b_totals_of (hr.mono (by decide)) (by rfl) pass0 (pa_cons (pv 0) (pa_cons (pe_slice sl_s (pv 1) (po_some (pv 3)) (po_some (pv 4))) pa_nil))) (pg_tup rfl (pgs_cons (pg_name (i := 5) sc_better_end.nd rfl (by first | exact Or.inl rfl | exact Or.inr rfl)) (pgs_cons (pg_name (i := 6) sc_better_end.nd rfl (by first | exact Or.inl rfl | exact Or.inr rfl)) pgs_nil))))
      (pss_cons (ps_asg (pe_tupS (pa_cons pe_int (pa_cons pe_int pa_nil))) (pg_tup rfl (pgs_cons (pg_name (i := 7) sc_better_end.nd rfl (by first | exact Or.inl rfl | exact Or.inr rfl)) (pgs_cons (pg_name (i := 8) sc_better_end.nd rfl (by first | exact Or.inl rfl | exact Or.inr rfl)) pgs_nil))))
      (pss_cons (ps_for PassesOwn.never rfl (pi_range2 (by rfl) T.range (pa_cons (pv 4) (pa_cons (pe_callB call_lenQ (by rfl) T.len (by decide +kernel) (pa_cons (pv 1) pa_nil)) pa_nil))) (pg_name (i := 9) sc_better_end.nd rfl (by first | exact Or.inl rfl | exact Or.inr rfl)) (pss_cons (ps_if (pt_val (pe_callB (cr_any rfl) (by rfl) T.any (by decide +kernel) (pa_cons (pe_lc (own := [("cover", 10)]) rfl sc_better_end.nd (pi_seq (pe_ix ix_sq (pv 2) (pv 9) (fun _ _ => rfl))) (blkOk_by (own := [("cover", 10)]) (N := N_better_end) (sc := defScope s_better_end) (by decide +kernel)) (fun _ _ _ _ _ => (pg_name (i := 10) sc_better_end.nd rfl (by first | exact Or.inl rfl | exact Or.inr rfl))) (fun _ _ _ _ _ => pts_nil) (fun _ _ _ _ _ => (pe_chain op_le op_lt (pv 3) (pv 10) (pv 4)))) pa_nil))) (pss_one (ps_ret pe_non)) pss_nil)
      (pss_cons (ps_par (i := 7) (j := 8) (by rfl) sc_better_end.nd rfl rfl (by decide) rfl rfl (pa_cons (pe_op op_add (pv 7) (pe_ix ix_sq (pe_ix ix_sq (pe_fld (pv 0) rfl) (pe_ix ix_sq (pv 1) (pv 9) (fun _ _ => rfl)) (fun _ _ => rfl)) pe_int (fun _ _ => rfl))) (pa_cons (pe_op op_add (pv 8) (pe_ix ix_sq (pe_ix ix_sq (pe_fld (pv 0) rfl) (pe_ix ix_sq (pv 1) (pv 9) (fun _ _ => rfl)) (fun _ _ => rfl)) pe_int (fun _ _ => rfl))) pa_nil)) (by rfl))
      (pss_one (ps_if (pt_cmpR op_gt (pe_op op_mul (pv 7) (pv 6)) (pe_op op_mul (pv 5) (pv 8)) (nomark _)) (pss_one (ps_ret (pe_op op_add (pv 9) pe_int))) pss_nil)))))
      (pss_one (ps_ret pe_non))))), ?_⟩
  walk_at "st"
  walk_at "go"
  refine w_cut hq (by omega) (by omega) (Or.inr (by omega)) fun p1 H1 s1 np1 e1 => ?_
  walk_at "go"
  have l1 := cutN_len (js := js) (a := i) (b := j)
  refine ⟨_, _, rows, _, rfl, hS.same s1, wf, e1, fun x hx => vo.lt (cutN_mem hx), by omega, fun p2 H2 n2 => ?_⟩
  refine w_gTup (g_at n2) rfl ?_
  walk_at "go"
  intro p3 H3 n3
  refine w_gTup (g_at n3) rfl ?_
  walk_at "go"
  have s3 : Same H H3 := fun b o e => n3.1 _ _ (n2.1 _ _ (s1 _ _ e))
  refine w_len (hq.same s3) ?_
  walk_at "go"
  have bA := sm_small wf (js := cutN js i j) (by omega)
  refine range2_for (by rw [iv_length]; omega) (BeInv rows js s a b i j H3) ⟨⟨_, _, by rw [cut_nil]; rfl⟩, fun _ _ e => e, by rw [cut_nil]; rfl, fun e h1 h2 => by omega⟩ (fun k σ' H' hk I => ?_) (fun σ' H' I => ?_)
  · obtain ⟨⟨x, y, rfl⟩, st, fr, no⟩ := I
    rw [iv_length] at hk
    have hjk : j + k < js.length := by omega
    obtain ⟨c, hc⟩ : ∃ c, js[j + k]? = some c := ⟨js[j + k], by simp [hjk]⟩
    have hcl := vo.lt (List.mem_of_getElem? hc)
    have ec : (j : Int) + (k : Int) = ((j + k : Nat) : Int) := by omega
    have s4 : Same H H' := fun b o e => st _ _ (s3 _ _ e)
    rw [ec]
    walk_at "go"
    obtain ⟨la, o1, o2⟩ := hob.2 (j + k) c hc
    refine w_ixn (q_l (s4 _ _ hb)) o1 ?_
    refine seq_map (anc rows c) (fun x => V.int (js.idxOf x : Int)) (fun _ => true) (fun x => V.bl (decide (x ∈ cutN js i j))) (by have := anc_len (rows := rows) c; omega) (q_l (s4 _ _ o2)) (fun x H5 Pe Pn hx st5 k1 k2 => ?_) (fun D5 H5 n5 => ?_)
    · have hxm := vo.mem (vo.anc wf hcl hx)
      walk_at "go"
      refine ⟨rfl, ?_⟩
      walk_at "go"
      rw [if_pos rfl]
      walk_at "go"
      have key := mem_cut (js := js) vo.nd hxm (i := i) (j := j)
      have fin := k1 rfl H5 fun _ _ e => e
      refine ite2 (fun h1 => ?_) (fun h1 => ?_)
      · walk_at "go"
        have e : decide (x ∈ cutN js i j) = decide ((js.idxOf x : Int) < (j : Int)) := by
          rw [decide_eq_decide, key]
          have := of_decide_eq_true h1
          omega
        rw [← e]
        exact fin
      · have e : decide (x ∈ cutN js i j) = false := by
          rw [decide_eq_false_iff_not, key]
          intro z
          apply h1
          apply decide_eq_true
          omega
        rw [e] at fin
        exact fin
    · rw [filter_tt] at n5
      walk_at "go"
      refine w_any (bs := (anc rows c).map fun x => decide (x ∈ cutN js i j)) (Or.inl (Or.inl (by rw [List.map_map]; exact g_at n5))) ?_
      walk_at "go"
      have s5 : Same H H5 := fun b o e => n5.1 _ _ (s4 _ _ e)
      have eany : (((anc rows c).map fun x => decide (x ∈ cutN js i j)).any id) = !freeB rows (cutN js i j) [c] := by
        unfold freeB
        simp only [List.all_cons, List.all_nil, Bool.and_true, List.any_map, List.not_all_eq_any_not, Bool.not_not]
        rfl
      rw [eany]
      have hcut := cut_succ hc
      cases hf : freeB rows (cutN js i j) [c] with
      | false =>
        refine iteT ?_
        walk_at "go"
        refine q none H5 s5 fun e he => ?_
        obtain ⟨g1, g2, g3⟩ := swB_le he
        by_cases z : e ≤ j + k
        · exact no e g1 z
        · exfalso
          have hm : c ∈ cutN js j e := by
            rw [mem_cut vo.nd (List.mem_of_getElem? hc), idx_at vo.nd hc]
            omega
          have h2 : freeB rows (cutN js i j) [c] = true := by
            unfold freeB at g3 ⊢
            rw [List.all_eq_true] at g3
            simpa using g3 c hm
          rw [hf] at h2
          cases h2
      | true =>
        refine iteF ?_
        walk_at "go"
        obtain ⟨dx, cv, tv, rv, av, rvs, avs, F⟩ := hS.same s5
        obtain ⟨ra, r1, r2⟩ := row_at F.rr hcl
        have hq5 := hq.same s5
        refine w_fl ?_
        walk_at "go"
        refine ⟨_, _, _, _, _, rfl, F.ob, T.clS, T.nSr, lk_rows _ _ _ _, ?_⟩
        walk_at "go"
        refine w_ixn hq5 (iv_get hc) ?_
        walk_at "go"
        refine w_ixn (q_t F.rt) r1 ?_
        walk_at "go"
        refine w_ix (q_t r2) rfl ?_
        walk_at "go"
        refine w_fl ?_
        walk_at "go"
        refine ⟨_, _, _, _, _, rfl, F.ob, T.clS, T.nSr, lk_rows _ _ _ _, ?_⟩
        walk_at "go"
        refine w_ixn hq5 (iv_get hc) ?_
        walk_at "go"
        refine w_ixn (q_t F.rt) r1 ?_
        walk_at "go"
        refine w_ix (q_t r2) rfl ?_
        walk_at "go"
        have e6 : M93.sm (wR rows) (cutN js j (j + k)) + wR rows c = M93.sm (wR rows) (cutN js j (j + (k + 1))) := by rw [hcut, M93.sm_append]; simp [M93.sm]
        have e7 : M93.sm (pR rows) (cutN js j (j + k)) + pR rows c = M93.sm (pR rows) (cutN js j (j + (k + 1))) := by rw [hcut, M93.sm_append]; simp [M93.sm]
        rw [e6, e7]
        have bB := sm_small wf (js := cutN js j (j + (k + 1))) (by have := cutN_len (js := js) (a := j) (b := j + (k + 1)); omega)
        refine w_I (Or.inl (by omega)) ?_
        walk_at "go"
        refine w_I (Or.inl (by omega)) ?_
        walk_at "go"
        have fr' : freeB rows (cutN js i j) (cutN js j (j + (k + 1))) = true := by rw [hcut, freeB_app, fr, hf]; rfl
        have eG : swG rows js i j ((j + (k + 1) : Nat) : Int) = M93.sm (wR rows) (cutN js j (j + (k + 1))) * M93.sm (pR rows) (cutN js i j) - M93.sm (wR rows) (cutN js i j) * M93.sm (pR rows) (cutN js j (j + (k + 1))) := by
          unfold swG
          simp only [Int.toNat_natCast]
        refine ite2 (fun h1 => ?_) (fun h1 => ?_)
        · walk_at "go"
          have e8 : ((j + k : Nat) : Int) + 1 = ((j + (k + 1) : Nat) : Int) := by omega
          rw [e8]
          refine q (some (j + (k + 1))) H5 s5 ⟨swB_of hij (by omega) (by omega) fr', ?_⟩
          have := of_decide_eq_true h1
          rw [eG]
          omega
        · walk_at "go"
          refine ⟨⟨_, _, rfl⟩, fun b o e => n5.1 _ _ (st _ _ e), fr', fun e g1 g2 => ?_⟩
          by_cases z : e ≤ j + k
          · exact no e g1 z
          · have : e = j + (k + 1) := by omega
            subst this
            rw [eG]
            have h2 : ¬ _ := fun z => h1 (decide_eq_true z)
            omega
  · obtain ⟨⟨x, y, rfl⟩, st, fr, no⟩ := I
    rw [iv_length] at no
    walk_at "go"
    refine q none H' (fun b o e => st _ _ (s3 _ _ e)) fun e he => ?_
    obtain ⟨g1, g2, g3⟩ := swB_le he
    exact no e g1 (by omega)
end

end Cw
end

/-! text C93_bs -/
section
set_option Elab.async false
set_option linter.all false
set_option maxRecDepth 100000
set_option maxHeartbeats 4000000
namespace Cw
open PySem PySem.Spec PyProof.Rows L2
local macro_rules | `(tactic| walk_at "go1") => `(tactic| with_reducible first
  | refine w_seq ?_ | refine w_asgN ?_ | refine w_asgG ?_ | refine w_drop ?_ | refine w_ret ?_ | refine w_if ?_ | refine w_next ?_
  | refine w_var rfl ?_ | refine w_c ?_ | refine w_op ?_ | refine w_un ?_ | refine w_cb ?_ | refine w_cons ?_ | refine w_nil ?_ | refine w_call ?_
  | refine w_test ?_ | refine w_tB ?_ | refine w_bl ?_ | refine w_and ?_ | refine w_or ?_ | refine w_not ?_ | refine w_andV ?_ | refine w_orV ?_ | refine w_notV ?_ | refine w_ifE ?_ | refine w_blv ?_
  | refine w_I0 ?_ | refine w_eqI ?_ | refine w_neI ?_ | refine w_isN ?_ | refine w_notN ?_ | refine w_chain ?_ | refine w_for ?_ | refine w_iSeq ?_ | refine w_iR1 ?_ | refine w_iR2 ?_ | refine w_lc ?_
  | refine w_tupS ?_ | refine w_lstS ?_ | refine w_gN ?_ | refine w_gCons ?_ | refine w_gNil ?_ | refine w_aug rfl ?_ | refine w_ip ?_ | refine w_par ?_ | refine w_par2 ?_ | refine w_par3 ?_ | refine w_par33 ?_ | refine w_small (by first | decide | (simp only [List.length_cons, List.length_nil]; decide)) ?_ | refine w_bmL ?_ | refine w_gSub ?_ | refine w_lc2 ?_ | refine w_iEnum ?_ | refine w_yes ?_ | refine w_chN ?_ | refine w_chC ?_ | refine w_chL ?_ | refine w_tSl ?_ | refine w_pN ?_ | refine w_pS ?_ | refine w_pI ?_ | refine w_star ?_)
local macro_rules | `(tactic| walk_at "hp") => `(tactic| (first | assumption | exact g_at (by assumption) | exact g_cat (by assumption) | (refine g_same (by assumption) ?_ ; walk_at "hp") | (refine g_new (by assumption) ?_ ; walk_at "hp") | (refine q_same (by assumption) ?_ ; walk_at "hp") | (refine q_new (by assumption) ?_ ; walk_at "hp")))
local macro_rules | `(tactic| walk_at "go") => `(tactic| repeat' walk_at "go1")
local macro_rules | `(tactic| walk_at "st") => `(tactic| simp only [cxK, L2.start, List.map_cons, List.map_nil, List.length_cons, List.length_nil, Nat.reduceAdd, Nat.reduceSub, List.replicate, List.cons_append, List.nil_append])

--import be
def NoImp (rows : List Row) (js : List Nat) : Prop := ∀ i j e : Nat, swB rows js i j e = true → swG rows js i j e ≤ 0
def triV (i j e : Nat) : HO := .tup [.int (i : Int), .int (j : Int), .int (e : Int)]
def spBS (K : PySem.W.Frag) (CS : Addr) : Sp := fun vs H Q _ => ∃ s a rows js, vs = [V.ref s, .ref a] ∧ SearchAt CS H s rows ∧ WfR rows ∧ (H a = some (.lst (iv js)) ∨ H a = some (.tup (iv js))) ∧ VO rows js ∧
  (NoImp rows js → ∀ H', Same H H' → Q .non H') ∧ (∀ i j e : Nat, swB rows js i j e = true → 0 < swG rows js i j e → ∀ p H', New H H' p (triV i j e) → Q (.ref p) H')
def spLO (K : PySem.W.Frag) (CS : Addr) : Sp := fun vs H Q _ => ∃ s a rows js, vs = [V.ref s, .ref a] ∧ SearchAt CS H s rows ∧ WfR rows ∧ (H a = some (.lst (iv js)) ∨ H a = some (.tup (iv js))) ∧ VO rows js ∧
  ∀ b H', (b = true ↔ NoImp rows js) → Same H H' → Q (.bl b) H'
def spIsImp (K : PySem.W.Frag) (CS : Addr) : Sp := fun vs H Q _ => ∃ s a v rows js o, SwPre K CS vs H s a v rows js o ∧ ∀ H', Same H H' → Q (.bl (match o with | none => false | some (i, j, k) => swB rows js i j k && decide (0 < swG rows js i j k))) H'
structure BsO (rows : List Row) (js : List Nat) (s a b : Addr) (H0 : Hp) (t : Nat) (σ : L2.St) (H : Hp) : Prop where
  sl : ∃ x y z, σ = [some (.ref s), some (.ref a), some (.ref b), x, y, z]
  st : Same H0 H
  no : ∀ i j e : Nat, i < t → swB rows js i j e = true → swG rows js i j e ≤ 0
structure BsI (rows : List Row) (js : List Nat) (s a b : Addr) (i : Nat) (H0 : Hp) (k : Nat) (σ : L2.St) (H : Hp) : Prop where
  sl : ∃ y z, σ = [some (.ref s), some (.ref a), some (.ref b), some (.int (i : Int)), y, z]
  st : Same H0 H
  no : ∀ j e : Nat, j < i + 1 + k → swB rows js i j e = true → swG rows js i j e ≤ 0
theorem New.from {H H1 H2 : Hp} {p : Addr} {o : HO} (s : Same H H1) (n : New H1 H2 p o) : New H H2 p o := by
  refine ⟨fun b o e => n.1 _ _ (s _ _ e), ?_, n.2.2⟩
  cases e : H p with
  | none => rfl
  | some o =>
    have := s p o e
    rw [n.2.1] at this
    cases this
section
variable {P : Program} {w : World} {K : PySem.W.Frag} {mg : Str → Option Value} {base : Heap} {CS CC CI CB : Addr}
theorem ok_better_swap (D : Df K mg "better_swap" s_better_swap) (T : Txt K mg CS CC) (c_places_above : Dn P w K mg base CX0 3 "places_above" s_places_above p_places_above (spPlaces K CS)) (c_better_end : Dn P w K mg base CX0 2 "better_end" s_better_end p_better_end (spBE K CS)) :
    Dn P w K mg base CX0 4 "better_swap" s_better_swap p_better_swap (spBS K CS) := by
  refine dn_ok D sc_better_swap (fun vs H Q E h => by obtain ⟨_, _, _, _, rfl, _⟩ := h; rfl) fun f cdv A outer s H vs Q E hr h => ?_
  obtain ⟨s, a, rows, js, rfl, hS, wf, ha, vo, q1, q2⟩ := h
  have hq := sq_or (K := K) ha
  have wl := wf.len
  have hl := vo.len
  refine ⟨_, (pss_cons (ps_set (i := 2) sc_better_swap.nd rfl (by first | exact Or.inl rfl | exact Or.inr rfl) (pe_cD c_places_above b_places_above (hr.mono (by decide)) (by rfl) pass0 (pa_cons (pv 0) (pa_cons (pv 1) pa_nil))))
      (pss_cons (ps_for PassesOwn.never rfl (pi_range1 (by rfl) T.range (pa_cons (pe_callB call_lenQ (by rfl) T.len (by decide +kernel) (pa_cons (pv 1) pa_nil)) pa_nil)) (pg_name (i := 3) sc_better_swap.nd rfl (by first | exact Or.inl rfl | exact Or.inr rfl)) (pss_one (ps_for PassesOwn.never rfl (pi_range2 (by rfl) T.range (pa_cons (pe_op op_add (pv 3) pe_int) (pa_cons (pe_callB call_lenQ (by rfl) T.len (by decide +kernel) (pa_cons (pv 1) pa_nil)) pa_nil))) (pg_name (i := 4) sc_better_swap.nd rfl (by first | exact Or.inl rfl | exact Or.inr rfl)) (pss_cons (ps_set (i := 5) sc_better_swap.nd rfl (by first | exact Or.inl rfl | exact Or.inr rfl) (pe_cD c_better_end b_better_end (hr.mono (by decide)) (by rfl) pass0 (pa_cons (pv 0) (pa_cons (pv 1) (pa_cons (pv 2) (pa_cons (pv 3) (pa_cons (pv 4) pa_nil)))))))
      (pss_one (ps_if (pt_cmpR op_notNo (pv 5) pe_non (nomark _)) (pss_one (ps_ret (pe_tupS (pa_cons (pv 3) (pa_cons (pv 4) (pa_cons (pv 5) pa_nil)))))) pss_nil))))))
      (pss_one (ps_ret pe_non)))), ?_⟩
  walk_at "st"
  walk_at "go"
  refine ⟨_, _, rows, js, rfl, hS, wf, ha, vo, fun b H1 out s1 hb hob => ?_⟩
  walk_at "go"
  refine w_len (hq.same s1) ?_
  walk_at "go"
  refine range_for (by rw [iv_length]; omega) (by rw [iv_length]; omega) (BsO rows js s a b H1) ⟨⟨_, _, _, rfl⟩, fun _ _ e => e, fun i j e h => by omega⟩ (fun i σ' H2 hi I => ?_) (fun σ' H2 I => ?_)
  · obtain ⟨⟨x, y, z, rfl⟩, st, no⟩ := I
    rw [iv_length] at hi
    have s2 : Same H H2 := fun b o e => st _ _ (s1 _ _ e)
    walk_at "go"
    refine w_len (hq.same s2) ?_
    have e1 : (i : Int) + 1 = ((i + 1 : Nat) : Int) := by omega
    rw [e1]
    refine range2_for (by rw [iv_length]; omega) (BsI rows js s a b i H1) ⟨⟨_, _, rfl⟩, st, fun j e h hb => ?_⟩ (fun k σ'' H3 hk I => ?_) (fun σ'' H3 I => ?_)
    · obtain ⟨_, _, _, h1, h2, _, h3, _⟩ := swB_nat hb
      omega
    · obtain ⟨⟨y, z, rfl⟩, st3, no3⟩ := I
      rw [iv_length] at hk
      have e2 : ((i + 1 : Nat) : Int) + (k : Int) = ((i + 1 + k : Nat) : Int) := by omega
      rw [e2]
      have s3 : Same H H3 := fun b o e => st3 _ _ (s1 _ _ e)
      walk_at "go"
      refine ⟨_, _, _, rows, js, out, i, i + 1 + k, rfl, hS.same s3, wf, ha.imp (g_same s3) (g_same s3), vo, st3 _ _ hb, hob.same st3, by omega, by omega, fun o H4 s4 ho => ?_⟩
      walk_at "go"
      cases o with
      | some e =>
        refine iteT ?_
        walk_at "go"
        intro p H5 n5
        exact q2 i (i + 1 + k) e ho.1 ho.2 p H5 (New.from (fun b o e => s4 _ _ (s3 _ _ e)) n5)
      | none =>
        refine iteF ?_
        walk_at "go"
        refine ⟨⟨_, _, rfl⟩, fun b o e => s4 _ _ (st3 _ _ e), fun j e hj hb => ?_⟩
        by_cases hz : j < i + 1 + k
        · exact no3 j e hz hb
        · have : j = i + 1 + k := by omega
          subst this
          exact ho e hb
    · obtain ⟨⟨y, z, rfl⟩, st3, no3⟩ := I
      rw [iv_length] at no3
      refine ⟨⟨_, _, _, rfl⟩, st3, fun i' j e hi' hb => ?_⟩
      by_cases hz : i' < i
      · exact no i' j e hz hb
      · have : i' = i := by omega
        subst this
        obtain ⟨_, _, _, h1, h2, h3, h4, h5, h6, _⟩ := swB_nat hb
        exact no3 j e (by omega) hb
  · obtain ⟨⟨x, y, z, rfl⟩, st, no⟩ := I
    rw [iv_length] at no
    walk_at "go"
    refine q1 (fun i j e hb => ?_) H2 fun b o e => st _ _ (s1 _ _ e)
    obtain ⟨_, _, _, h1, h2, h3, h4, h5, h6, _⟩ := swB_nat hb
    exact no i j e (by omega) hb
theorem ok_is_least_order (D : Df K mg "is_least_order" s_is_least_order) (c_is_order : Dn P w K mg base CX0 5 "is_order" s_is_order p_is_order (spBeg K CS)) (c_better_swap : Dn P w K mg base CX0 4 "better_swap" s_better_swap p_better_swap (spBS K CS)) :
    Dn P w K mg base CX0 6 "is_least_order" s_is_least_order p_is_least_order (spLO K CS) := by
  refine dn_ok D sc_is_least_order (fun vs H Q E h => by obtain ⟨_, _, _, _, rfl, _⟩ := h; rfl) fun f cdv A outer s H vs Q E hr h => ?_
  obtain ⟨s, a, rows, js, rfl, hS, wf, ha, vo, q⟩ := h
  refine ⟨_, (pss_one (ps_ret (pe_and (pe_cD c_is_order b_is_order (hr.mono (by decide)) (by rfl) pass0 (pa_cons (pv 0) (pa_cons (pv 1) pa_nil))) (pe_one (pe_cmpR op_isNo (pe_cD c_better_swap b_better_swap (hr.mono (by decide)) (by rfl) pass0 (pa_cons (pv 0) (pa_cons (pv 1) pa_nil))) pe_non (nomark _)))))), ?_⟩
  walk_at "st"
  walk_at "go"
  refine ⟨_, _, _, rows, js, rfl, hS, wf, ha, rfl, vo, fun H1 s1 => ?_⟩
  refine w_blv (iteT ?_)
  walk_at "go"
  refine ⟨_, _, rows, js, rfl, hS.same s1, wf, ha.imp (g_same s1) (g_same s1), vo, fun hn H2 s2 => ?_, fun i j e hb hg p H2 n2 => ?_⟩
  · walk_at "go"
    exact q true H2 (by simp [hn]) fun b o e => s2 _ _ (s1 _ _ e)
  · walk_at "go"
    refine q false H2 ⟨fun z => absurd z (by decide), fun z => ?_⟩ fun b o e => n2.1 _ _ (s1 _ _ e)
    have := z i j e hb
    omega
theorem ok_improving_swap (D : Df K mg "improving_swap" s_improving_swap) (c_check_order : Dn P w K mg base CX0 6 "check_order" s_check_order p_check_order (spChk K CS)) (c_better_swap : Dn P w K mg base CX0 4 "better_swap" s_better_swap p_better_swap (spBS K CS)) :
    Dn P w K mg base CX0 7 "improving_swap" s_improving_swap p_improving_swap (spBS K CS) := by
  refine dn_ok D sc_improving_swap (fun vs H Q E h => by obtain ⟨_, _, _, _, rfl, _⟩ := h; rfl) fun f cdv A outer s H vs Q E hr h => ?_
  obtain ⟨s, a, rows, js, rfl, hS, wf, ha, vo, q1, q2⟩ := h
  refine ⟨_, (pss_cons (ps_expr (pe_cD c_check_order b_check_order (hr.mono (by decide)) (by rfl) pass0 (pa_cons (pv 0) (pa_cons (pv 1) pa_nil))))
      (pss_one (ps_ret (pe_cD c_better_swap b_better_swap (hr.mono (by decide)) (by rfl) pass0 (pa_cons (pv 0) (pa_cons (pv 1) pa_nil)))))), ?_⟩
  walk_at "st"
  walk_at "go"
  refine ⟨_, _, _, rows, js, rfl, hS, wf, ha, rfl, vo, fun H1 s1 => ?_⟩
  walk_at "go"
  exact ⟨_, _, rows, js, rfl, hS.same s1, wf, ha.imp (g_same s1) (g_same s1), vo, fun hn H2 s2 => q1 hn H2 fun b o e => s2 _ _ (s1 _ _ e), fun i j e hb hg p H2 n2 => q2 i j e hb hg p H2 (New.from s1 n2)⟩
theorem ok_is_improving_swap (D : Df K mg "is_improving_swap" s_is_improving_swap) (c_check_order : Dn P w K mg base CX0 6 "check_order" s_check_order p_check_order (spChk K CS)) (c_swaps_in : Dn P w K mg base CX0 3 "swaps_in" s_swaps_in p_swaps_in (spSwapsIn K CS))
    (c_gain_of : Dn P w K mg base CX0 2 "gain_of" s_gain_of p_gain_of (spGainOf K CS)) :
    Dn P w K mg base CX0 7 "is_improving_swap" s_is_improving_swap p_is_improving_swap (spIsImp K CS) := by
  refine dn_ok D sc_is_improving_swap (fun vs H Q E h => by obtain ⟨_, _, _, _, _, _, ⟨rfl, _⟩, _⟩ := h; rfl) fun f cdv A outer s H vs Q E hr h => ?_
  obtain ⟨s, a, v, rows, js, o, ⟨rfl, hS, wf, ha, vo, hv⟩, q⟩ := h
  refine ⟨_, (pss_cons (ps_expr (pe_cD c_check_order b_check_order (hr.mono (by decide)) (by rfl) pass0 (pa_cons (pv 0) (pa_cons (pv 1) pa_nil))))
      (pss_one (ps_ret (pe_and (pe_cD c_swaps_in b_swaps_in (hr.mono (by decide)) (by rfl) pass0 (pa_cons (pv 0) (pa_cons (pv 1) (pa_cons (pv 2) pa_nil)))) (pe_one (pe_cmpR op_gt (pe_cD c_gain_of b_gain_of (hr.mono (by decide)) (by rfl) pass0 (pa_cons (pv 0) (pa_cons (pv 1) (pa_cons (pv 2) pa_nil)))) pe_int (nomark _))))))), ?_⟩
  walk_at "st"
  walk_at "go"
  refine ⟨_, _, _, rows, js, rfl, hS, wf, ha, rfl, vo, fun H1 s1 => ?_⟩
  walk_at "go"
  refine ⟨_, _, _, _, rows, js, o, rfl, hS.same s1, wf, ha.imp (g_same s1) (g_same s1), rfl, vo, hv.same s1, fun H2 s2 => ?_⟩
  have s12 : Same H H2 := fun b o e => s2 _ _ (s1 _ _ e)
  refine w_blv ?_
  cases o with
  | none => exact iteF (q H2 s12)
  | some t =>
    obtain ⟨i, j, k⟩ := t
    cases hb : swR rows js (some (i, j, k)) with
    | false =>
      refine iteF ?_
      have hb' : swB rows js i j k = false := hb
      have := q H2 s12
      simp only [hb', Bool.false_and] at this
      exact this
    | true =>
      have hb' : swB rows js i j k = true := hb
      refine iteT ?_
      walk_at "go"
      refine ⟨_, _, _, rows, js, i, j, k, ⟨rfl, hS.same s12, wf, ha.imp (g_same s12) (g_same s12), vo, hv.same s12⟩, hb', fun H3 s3 => ?_⟩
      walk_at "go"
      have := q H3 fun b o e => s3 _ _ (s12 _ _ e)
      simp only [hb', Bool.true_and] at this
      exact this
end

end Cw
end

/-! text C93_cls1 -/
section
set_option Elab.async false
set_option linter.all false
set_option maxRecDepth 100000
set_option maxHeartbeats 4000000
namespace Cw
open PySem PySem.Spec PyProof.Rows L2
local macro_rules | `(tactic| walk_at "go1") => `(tactic| with_reducible first
  | refine w_seq ?_ | refine w_asgN ?_ | refine w_asgG ?_ | refine w_drop ?_ | refine w_ret ?_ | refine w_if ?_ | refine w_next ?_
  | refine w_var rfl ?_ | refine w_c ?_ | refine w_op ?_ | refine w_un ?_ | refine w_cb ?_ | refine w_cons ?_ | refine w_nil ?_ | refine w_call ?_
  | refine w_test ?_ | refine w_tB ?_ | refine w_bl ?_ | refine w_and ?_ | refine w_or ?_ | refine w_not ?_ | refine w_andV ?_ | refine w_orV ?_ | refine w_notV ?_ | refine w_ifE ?_ | refine w_blv ?_
  | refine w_I0 ?_ | refine w_eqI ?_ | refine w_neI ?_ | refine w_isN ?_ | refine w_notN ?_ | refine w_chain ?_ | refine w_for ?_ | refine w_iSeq ?_ | refine w_iR1 ?_ | refine w_iR2 ?_ | refine w_lc ?_
  | refine w_tupS ?_ | refine w_lstS ?_ | refine w_gN ?_ | refine w_gCons ?_ | refine w_gNil ?_ | refine w_aug rfl ?_ | refine w_ip ?_ | refine w_par ?_ | refine w_par2 ?_ | refine w_par3 ?_ | refine w_par33 ?_ | refine w_small (by first | decide | (simp only [List.length_cons, List.length_nil]; decide)) ?_ | refine w_bmL ?_ | refine w_gSub ?_ | refine w_lc2 ?_ | refine w_iEnum ?_ | refine w_yes ?_ | refine w_chN ?_ | refine w_chC ?_ | refine w_chL ?_ | refine w_tSl ?_ | refine w_pN ?_ | refine w_pS ?_ | refine w_pI ?_ | refine w_star ?_)
local macro_rules | `(tactic| walk_at "hp") => `(tactic| (first | assumption | exact g_at (by assumption) | exact g_cat (by assumption) | (refine g_same (by assumption) ?_ ; walk_at "hp") | (refine g_new (by assumption) ?_ ; walk_at "hp") | (refine q_same (by assumption) ?_ ; walk_at "hp") | (refine q_new (by assumption) ?_ ; walk_at "hp")))
local macro_rules | `(tactic| walk_at "go") => `(tactic| repeat' walk_at "go1")
local macro_rules | `(tactic| walk_at "st") => `(tactic| simp only [cxK, L2.start, List.map_cons, List.map_nil, List.length_cons, List.length_nil, Nat.reduceAdd, Nat.reduceSub, List.replicate, List.cons_append, List.nil_append])

--import bs
def covO (r : Row) : HO := .tup [optV r.1, .int r.2.1]
def rowO (r : Row) : HO := .tup (rowV r)
theorem rowsV_obs {H : Hp} {vs : List V} {rows : List Row} : RowsV H vs rows ↔ Obs H vs rows rowO := Iff.rfl
/-- a row of covers, fit to stand at n -/
def CovOk (n : Nat) (r : Row) : Prop := (∀ q, r.1 = some q → q < n) ∧ 1 ≤ r.2.1
def spIsRow (K : PySem.W.Frag) : Sp := fun vs H Q _ => ∃ a n r, vs = [V.ref a, .int ((n : Nat) : Int)] ∧ H a = some (covO r) ∧ CovOk n r ∧ Q (.bl true) H
def spIsInsp (K : PySem.W.Frag) : Sp := fun vs H Q _ => ∃ a n r, vs = [V.ref a, .int ((n : Nat) : Int)] ∧ H a = some (rowO r) ∧ CovOk n r ∧ 1 ≤ r.2.2 ∧ Q (.bl true) H
def CovsOk (cs : List Row) : Prop := ∀ i r, cs[i]? = some r → CovOk i r
def spAreRows (K : PySem.W.Frag) : Sp := fun vs H Q _ => ∃ a out cs, vs = [V.ref a] ∧ H a = some (.lst out) ∧ Obs H out cs covO ∧ CovsOk cs ∧ cs.length ≤ 1000 ∧ ∀ H', Same H H' → Q (.bl true) H'
def spPaths (K : PySem.W.Frag) : Sp := fun vs H Q _ => ∃ a out cs, vs = [V.ref a] ∧ H a = some (.lst out) ∧ Obs H out cs covO ∧ CovsOk cs ∧ cs.length ≤ 1000 ∧ ∀ p H', Same H H' → Q (.ref p) H'
/-- the jobs above each of the first rows -/
def spAbove (K : PySem.W.Frag) : Sp := fun vs H Q _ => ∃ a out rows, vs = [V.ref a] ∧ H a = some (.tup out) ∧ RowsV H out rows ∧ WfR rows ∧ ∀ p H' avs, Same H H' → H' p = some (.tup avs) → AboveV H' avs rows → Q (.ref p) H'
/-- tuples of bounded length -/
def Tups (H : Hp) (ps : List V) (d : Addr) : Prop := ∀ (k : Nat) (x : V), ps[k]? = some x → ∃ p ts, x = .ref p ∧ p ≠ d ∧ H p = some (.tup ts) ∧ ts.length ≤ k + 1
structure PaInv (a d : Addr) (H0 : Hp) (i : Nat) (σ : L2.St) (H : Hp) : Prop where
  sl : ∃ x y z, σ = [some (.ref a), some (.ref d), x, y, z]
  st : Same H0 H
  dn : ∃ ps, H d = some (.lst ps) ∧ ps.length = i ∧ Tups H ps d
structure AbInv (rows : List Row) (a d : Addr) (H0 : Hp) (i : Nat) (σ : L2.St) (H : Hp) : Prop where
  sl : ∃ x y, σ = [some (.ref a), some (.ref d), x, y]
  st : Same H0 H
  dn : ∃ ps, H d = some (.lst ps) ∧ ps.length = i ∧ ∀ k, k < i → ∃ p : Addr, (ps[k]? : Option V) = some (V.ref p) ∧ p ≠ d ∧ H p = some (.tup (iv (anc rows k)))
theorem eq_none_of {H H' : Hp} {p : Addr} (s : Same H H') (n : H' p = none) : H p = none := by
  cases e : H p with
  | none => rfl
  | some o =>
    have := s p o e
    rw [n] at this
    cases this
theorem par_at {rows : List Row} {j : Nat} {r : Row} (e : rows[j]? = some r) : parR rows j = r.1 := (getD_of e).2.2
section
variable {P : Program} {w : World} {K : PySem.W.Frag} {mg : Str → Option Value} {base : Heap} {CS CC CI CB : Addr}
theorem ok_is_row (D : Df K mg "is_row" s_is_row) (c_is_tuple : Dn P w K mg base CX0 1 "is_tuple" s_is_tuple p_is_tuple (spIsTuple K)) (c_is_index : Dn P w K mg base CX0 2 "is_index" s_is_index p_is_index (spIsIndex K)) (c_is_positive : Dn P w K mg base CX0 2 "is_positive" s_is_positive p_is_positive (spIsPositive K)) :
    Dn P w K mg base CX0 3 "is_row" s_is_row p_is_row (spIsRow K) := by
  refine dn_ok D sc_is_row (fun vs H Q E h => by obtain ⟨_, _, _, rfl, _⟩ := h; rfl) fun f cdv A outer s H vs Q E hr h => ?_
  obtain ⟨a, n, ⟨par, m, x⟩, rfl, ha, ⟨ok1, ok2⟩, q⟩ := h
  refine ⟨_, (pss_cons (ps_if (pt_not (pt_val (pe_cD c_is_tuple b_is_tuple (hr.mono (by decide)) (by rfl) pass0 (pa_cons (pv 0) (pa_cons pe_int pa_nil))))) (pss_one (ps_ret pe_bl)) pss_nil)
      (pss_cons (ps_asg (pv 0) (pg_tup (n := 2) rfl (pgs_cons (pg_name (i := 2) sc_is_row.nd rfl (by first | exact Or.inl rfl | exact Or.inr rfl)) (pgs_cons (pg_name (i := 3) sc_is_row.nd rfl (by first | exact Or.inl rfl | exact Or.inr rfl)) pgs_nil))))
      (pss_one (ps_ret (pe_and (pe_or (pe_cmpR op_isNo (pv 2) pe_non (nomark _)) (pe_one (pe_cD c_is_index b_is_index (hr.mono (by decide)) (by rfl) pass0 (pa_cons (pv 2) (pa_cons (pv 1) pa_nil))))) (pe_one (pe_cD c_is_positive b_is_positive (hr.mono (by decide)) (by rfl) pass0 (pa_cons (pv 3) pa_nil)))))))), ?_⟩
  walk_at "st"
  walk_at "go"
  refine ⟨_, _, _, rfl, .tup ha, ?_⟩
  walk_at "go"
  refine iteF ?_
  walk_at "go"
  refine w_gTup ha rfl ?_
  walk_at "go"
  cases par with
  | none =>
    refine iteT ?_
    walk_at "go"
    refine iteT ?_
    walk_at "go"
    refine ⟨_, rfl, ?_⟩
    rw [decide_eq_true ok2]
    exact q
  | some b =>
    refine iteF ?_
    walk_at "go"
    refine ⟨_, _, rfl, ?_⟩
    have := ok1 b rfl
    rw [show (decide ((0 : Int) ≤ (b : Int)) && decide ((b : Int) < (n : Int))) = true by simp; omega]
    walk_at "go"
    refine iteT ?_
    walk_at "go"
    refine ⟨_, rfl, ?_⟩
    rw [decide_eq_true ok2]
    exact q
theorem ok_is_inspection (D : Df K mg "is_inspection" s_is_inspection) (c_is_tuple : Dn P w K mg base CX0 1 "is_tuple" s_is_tuple p_is_tuple (spIsTuple K)) (c_is_index : Dn P w K mg base CX0 2 "is_index" s_is_index p_is_index (spIsIndex K)) (c_is_positive : Dn P w K mg base CX0 2 "is_positive" s_is_positive p_is_positive (spIsPositive K)) :
    Dn P w K mg base CX0 3 "is_inspection" s_is_inspection p_is_inspection (spIsInsp K) := by
  refine dn_ok D sc_is_inspection (fun vs H Q E h => by obtain ⟨_, _, _, rfl, _⟩ := h; rfl) fun f cdv A outer s H vs Q E hr h => ?_
  obtain ⟨a, n, ⟨par, m, x⟩, rfl, ha, ⟨ok1, ok2⟩, ok3, q⟩ := h
  refine ⟨_, (pss_cons (ps_if (pt_not (pt_val (pe_cD c_is_tuple b_is_tuple (hr.mono (by decide)) (by rfl) pass0 (pa_cons (pv 0) (pa_cons pe_int pa_nil))))) (pss_one (ps_ret pe_bl)) pss_nil)
      (pss_cons (ps_asg (pv 0) (pg_tup (n := 3) rfl (pgs_cons (pg_name (i := 2) sc_is_inspection.nd rfl (by first | exact Or.inl rfl | exact Or.inr rfl)) (pgs_cons (pg_name (i := 3) sc_is_inspection.nd rfl (by first | exact Or.inl rfl | exact Or.inr rfl)) (pgs_cons (pg_name (i := 4) sc_is_inspection.nd rfl (by first | exact Or.inl rfl | exact Or.inr rfl)) pgs_nil)))))
      (pss_one (ps_ret (pe_and (pe_or (pe_cmpR op_isNo (pv 2) pe_non (nomark _)) (pe_one (pe_cD c_is_index b_is_index (hr.mono (by decide)) (by rfl) pass0 (pa_cons (pv 2) (pa_cons (pv 1) pa_nil))))) (pe_and (pe_cD c_is_positive b_is_positive (hr.mono (by decide)) (by rfl) pass0 (pa_cons (pv 3) pa_nil)) (pe_one (pe_cD c_is_positive b_is_positive (hr.mono (by decide)) (by rfl) pass0 (pa_cons (pv 4) pa_nil))))))))), ?_⟩
  walk_at "st"
  walk_at "go"
  refine ⟨_, _, _, rfl, .tup ha, ?_⟩
  walk_at "go"
  refine iteF ?_
  walk_at "go"
  refine w_gTup (xs := [optV par, .int m, .int x]) ha rfl ?_
  walk_at "go"
  cases par with
  | none =>
    refine iteT ?_
    walk_at "go"
    refine iteT ?_
    walk_at "go"
    refine ⟨_, rfl, ?_⟩
    refine w_blv ?_
    rw [decide_eq_true (show 1 ≤ m from ok2)]
    refine iteT ?_
    walk_at "go"
    refine ⟨_, rfl, ?_⟩
    rw [decide_eq_true (show 1 ≤ x from ok3)]
    exact q
  | some b =>
    refine iteF ?_
    walk_at "go"
    refine ⟨_, _, rfl, ?_⟩
    have := ok1 b rfl
    rw [show (decide ((0 : Int) ≤ (b : Int)) && decide ((b : Int) < (n : Int))) = true by simp; omega]
    walk_at "go"
    refine iteT ?_
    walk_at "go"
    refine ⟨_, rfl, ?_⟩
    refine w_blv ?_
    rw [decide_eq_true (show 1 ≤ m from ok2)]
    refine iteT ?_
    walk_at "go"
    refine ⟨_, rfl, ?_⟩
    rw [decide_eq_true (show 1 ≤ x from ok3)]
    exact q
theorem ok_are_rows (D : Df K mg "are_rows" s_are_rows) (T : Txt K mg CS CC) (c_is_list : Dn P w K mg base CX0 1 "is_list" s_is_list p_is_list (spIsList K)) (c_is_row : Dn P w K mg base CX0 3 "is_row" s_is_row p_is_row (spIsRow K)) :
    Dn P w K mg base CX0 4 "are_rows" s_are_rows p_are_rows (spAreRows K) := by
  refine dn_ok D sc_are_rows (fun vs H Q E h => by obtain ⟨_, _, _, rfl, _⟩ := h; rfl) fun f cdv A outer s H vs Q E hr h => ?_
  obtain ⟨a, out, cs, rfl, ha, ob, ok, hl, q⟩ := h
  refine ⟨_, (pss_one (ps_ret (pe_and (pe_cD c_is_list b_is_list (hr.mono (by decide)) (by rfl) pass0 (pa_cons (pv 0) pa_nil)) (pe_one (pe_callB (cr_all rfl) (by rfl) T.all (by decide +kernel) (pa_cons (pe_lc (own := [("number", 1), ("row", 2)]) rfl sc_are_rows.nd (pi_enumS (by rfl) T.enumerate (pa_cons (pv 0) pa_nil)) (blkOk_by (own := [("number", 1), ("row", 2)]) (N := N_are_rows) (sc := defScope s_are_rows) (by decide +kernel)) (fun _ _ _ _ _ => (pg_tupK (K := K) (n := 2) rfl (pgs_cons (pg_name (i := 1) sc_are_rows.nd rfl (by first | exact Or.inl rfl | exact Or.inr rfl)) (pgs_cons (pg_name (i := 2) sc_are_rows.nd rfl (by first | exact Or.inl rfl | exact Or.inr rfl)) pgs_nil)))) (fun _ _ _ _ _ => pts_nil) (fun _ _ _ _ _ => (pe_cD c_is_row b_is_row (hr.mono (by decide)) (by rfl) pass0 (pa_cons (pv 2) (pa_cons (pv 1) pa_nil))))) pa_nil)))))), ?_⟩
  walk_at "st"
  walk_at "go"
  refine ⟨_, _, rfl, Or.inl ha, fun H1 s1 => ?_⟩
  refine w_blv (iteT ?_)
  walk_at "go"
  refine enum_lc (q_l (s1 _ _ ha)) (fun D i H' => New H1 H' D (.lst ((List.replicate i true).map V.bl))) (fun D H' n => n) (fun D i H' n o e => n.1 _ _ e) (fun D i x H' pr H'' hx n n3 => ?_) (fun D H' n => ?_)
  · have hi : i < cs.length := by rw [← ob.1]; exact (List.getElem?_eq_some_iff.mp hx).1
    obtain ⟨ra, o1, o2⟩ := ob.2 i cs[i] (by simp [hi])
    rw [hx] at o1
    obtain rfl := Option.some.inj o1
    refine w_gTup (g_at n3) rfl ?_
    walk_at "go"
    refine ⟨rfl, ?_⟩
    walk_at "go"
    rw [if_pos rfl]
    walk_at "go"
    refine ⟨_, i, cs[i], rfl, n3.1 _ _ (n.1 _ _ (s1 _ _ o2)), ok i cs[i] (by simp [hi]), ?_⟩
    refine ⟨_, g_new n3 n.2.2, small_len (by simp; omega), Same.mut (fun b o e => n3.1 _ _ (n.1 _ _ e)) n.2.1 But.upd, n.2.1, ?_⟩
    rw [upd_same, List.replicate_succ', List.map_append]
    rfl
  · walk_at "go"
    refine w_all (bs := List.replicate out.length true) (Or.inl (Or.inl (g_at n))) ?_
    walk_at "go"
    have e : (List.replicate out.length true).all id = true := by simp
    rw [e]
    exact q _ fun b o e => n.1 _ _ (s1 _ _ e)
theorem ok_paths_by (D : Df K mg "paths_by" s_paths_by) (T : Txt K mg CS CC) : Dn P w K mg base CX0 1 "paths_by" s_paths_by p_paths_by (spPaths K) := by
  refine dn_ok D sc_paths_by (fun vs H Q E h => by obtain ⟨_, _, _, rfl, _⟩ := h; rfl) fun f cdv A outer s H vs Q E hr h => ?_
  obtain ⟨a, out, cs, rfl, ha, ob, ok, hl, q⟩ := h
  refine ⟨_, (pss_cons (ps_set (i := 1) sc_paths_by.nd rfl (by first | exact Or.inl rfl | exact Or.inr rfl) (pe_lstS pa_nil))
      (pss_cons (ps_for PassesOwn.never rfl (pi_enumS (by rfl) T.enumerate (pa_cons (pv 0) pa_nil)) (pg_tup (n := 2) rfl (pgs_cons (pg_name (i := 2) sc_paths_by.nd rfl (by first | exact Or.inl rfl | exact Or.inr rfl)) (pgs_cons (pg_tup (n := 2) rfl (pgs_cons (pg_name (i := 3) sc_paths_by.nd rfl (by first | exact Or.inl rfl | exact Or.inr rfl)) (pgs_cons (pg_name (i := 4) sc_paths_by.nd rfl (by first | exact Or.inl rfl | exact Or.inr rfl)) pgs_nil))) pgs_nil))) (pss_one (ps_expr (pe_bm PySem.F.plainAttrs_list PySem.F.slot_list_append PySem.F.type_list_append mt_appS (pv 1) (pa_cons (pe_ifExp (pt_cmpR op_isNo (pv 3) pe_non (nomark _)) (pe_tupS (pa_cons (pv 2) pa_nil)) (pe_tupS (StX.pa_star (pe_ix ix_sq (pv 1) (pv 3) (fun _ _ => rfl)) (pa_cons (pv 2) pa_nil)))) pa_nil)))))
      (pss_one (ps_ret (pe_callTy call_tupS (by rfl) T.tuple (by decide +kernel) (pa_cons (pv 1) pa_nil)))))), ?_⟩
  walk_at "st"
  walk_at "go"
  intro d H1 n1
  walk_at "go"
  refine enum_for (q_l (g_new n1 ha)) (PaInv a d H) ⟨⟨_, _, _, rfl⟩, n1.1, [], g_at n1, rfl, fun k x e => by simp at e⟩ (fun i σ' H' I o e => ?_) (fun i x σ' H' pr H'' hx I n3 => ?_) (fun σ' H' I => ?_)
  · have h2 := g_new n1 ha
    rw [h2] at e
    obtain rfl := Option.some.inj e
    exact I.st _ _ ha
  · obtain ⟨⟨x1, y1, z1, rfl⟩, st, ps, hd, hpl, tu⟩ := I
    have hi : i < cs.length := by rw [← ob.1]; exact (List.getElem?_eq_some_iff.mp hx).1
    obtain ⟨ra, o1, o2⟩ := ob.2 i cs[i] (by simp [hi])
    rw [hx] at o1
    obtain rfl := Option.some.inj o1
    obtain ⟨ok1, ok2⟩ := ok i cs[i] (by simp [hi])
    have nd : H d = none := n1.2.1
    have hd3 : H'' d = some (.lst ps) := g_new n3 hd
    refine w_gTup (g_at n3) rfl ?_
    walk_at "go"
    refine w_gTup (n3.1 _ _ (st _ _ o2)) rfl ?_
    walk_at "go"
    refine w_tyL hd3 ?_
    walk_at "go"
    have fin : ∀ (p : Addr) (ts : List V) (H4 H5 : Hp) (σ5 : L2.St), Same H'' H4 → H'' p = none → H4 p = some (.tup ts) → ts.length ≤ i + 1 → Chg H4 H5 d (.lst (ps ++ [.ref p])) → (∃ x y z, σ5 = [some (.ref a), some (.ref d), x, y, z]) → PaInv a d H (i + 1) σ5 H5 := fun p ts H4 H5 σ5 s4 np hp ht c sl => by
      have hpd : p ≠ d := fun z => by
        subst z
        rw [hd3] at np
        cases np
      refine ⟨sl, Same.mut (fun b o e => s4 _ _ (n3.1 _ _ (st _ _ e))) nd c.1, _, c.2, by simp [hpl], fun k x hk => ?_⟩
      by_cases hlt : k < ps.length
      · rw [List.getElem?_append_left hlt] at hk
        obtain ⟨p2, ts2, e1, e2, e3, e4⟩ := tu k x hk
        exact ⟨p2, ts2, e1, e2, c.1 _ _ e2 (s4 _ _ (n3.1 _ _ e3)), e4⟩
      · rw [List.getElem?_append_right (by omega)] at hk
        have hz : k - ps.length = 0 := by
          have := (List.getElem?_eq_some_iff.mp hk).1
          simpa using this
        rw [hz] at hk
        have hxy : x = .ref p := by simpa using hk.symm
        exact ⟨p, ts, hxy, hpd, c.1 _ _ hpd hp, by omega⟩
    cases epar : (cs[i]).1 with
    | none =>
      refine iteT ?_
      walk_at "go"
      intro p H4 n4
      walk_at "go"
      refine w_app (g_new n4 hd3) (by omega) fun H5 c => ?_
      exact fin p _ H4 H5 _ n4.1 n4.2.1 n4.2.2 (by simp) c ⟨_, _, _, rfl⟩
    | some b =>
      have hb := ok1 b epar
      refine iteF ?_
      walk_at "go"
      obtain ⟨xb, hxb⟩ : ∃ xb, ps[b]? = some xb := ⟨ps[b], by simp <;> omega⟩
      obtain ⟨pb, ts, rfl, e2, e3, e4⟩ := tu b xb hxb
      refine w_ixn (q_l hd3) hxb ?_
      refine w_starQ (q_t (n3.1 _ _ e3)) ?_
      walk_at "go"
      refine ⟨by rw [sizeLine_eq]; simp; omega, fun p H4 n4 => ?_⟩
      walk_at "go"
      refine w_app (g_new n4 hd3) (by omega) fun H5 c => ?_
      exact fin p _ H4 H5 _ n4.1 n4.2.1 n4.2.2 (by simp <;> omega) c ⟨_, _, _, rfl⟩
  · obtain ⟨⟨x1, y1, z1, rfl⟩, st, ps, hd, hpl, tu⟩ := I
    walk_at "go"
    refine w_tupleS (Or.inl (Or.inl hd)) fun l H'' n => ?_
    exact q l H'' fun b o e => n.1 _ _ (st _ _ e)
theorem ok_above_by (D : Df K mg "above_by" s_above_by) (T : Txt K mg CS CC) : Dn P w K mg base CX0 1 "above_by" s_above_by p_above_by (spAbove K) := by
  refine dn_ok D sc_above_by (fun vs H Q E h => by obtain ⟨_, _, _, rfl, _⟩ := h; rfl) fun f cdv A outer s H vs Q E hr h => ?_
  obtain ⟨a, out, rows, rfl, ha, ob, wf, q⟩ := h
  have wl := wf.len
  refine ⟨_, (pss_cons (ps_set (i := 1) sc_above_by.nd rfl (by first | exact Or.inl rfl | exact Or.inr rfl) (pe_lstS pa_nil))
      (pss_cons (ps_for PassesOwn.never rfl (pi_seq (pv 0)) (pg_tup (n := 3) rfl (pgs_cons (pg_name (i := 2) sc_above_by.nd rfl (by first | exact Or.inl rfl | exact Or.inr rfl)) (pgs_cons (pg_name (i := 3) sc_above_by.nd rfl (by first | exact Or.inl rfl | exact Or.inr rfl)) (pgs_cons (pg_name (i := 3) sc_above_by.nd rfl (by first | exact Or.inl rfl | exact Or.inr rfl)) pgs_nil)))) (pss_one (ps_expr (pe_bm PySem.F.plainAttrs_list PySem.F.slot_list_append PySem.F.type_list_append mt_appS (pv 1) (pa_cons (pe_ifExp (pt_cmpR op_isNo (pv 2) pe_non (nomark _)) (pe_tupS pa_nil) (pe_tupS (StX.pa_star (pe_ix ix_sq (pv 1) (pv 2) (fun _ _ => rfl)) (pa_cons (pv 2) pa_nil)))) pa_nil)))))
      (pss_one (ps_ret (pe_callTy call_tupS (by rfl) T.tuple (by decide +kernel) (pa_cons (pv 1) pa_nil)))))), ?_⟩
  walk_at "st"
  walk_at "go"
  intro d H1 n1
  walk_at "go"
  have nd : H d = none := n1.2.1
  have had : a ≠ d := fun z => by
    subst z
    rw [nd] at ha
    cases ha
  refine seq_for (q_t (g_new n1 ha)) (AbInv rows a d H) ⟨⟨_, _, rfl⟩, n1.1, [], g_at n1, rfl, fun k hk => by omega⟩ (fun i σ' H' I o e => ?_) (fun i x σ' H' hx I => ?_) (fun σ' H' I => ?_)
  · have h2 := g_new n1 ha
    rw [h2] at e
    obtain rfl := Option.some.inj e
    exact I.st _ _ ha
  · obtain ⟨⟨x1, y1, rfl⟩, st, ps, hd, hpl, tu⟩ := I
    have hi : i < rows.length := by rw [← ob.1]; exact (List.getElem?_eq_some_iff.mp hx).1
    obtain ⟨ra, o1, o2⟩ := row_at ob hi
    rw [hx] at o1
    obtain rfl := Option.some.inj o1
    refine w_gTup (st _ _ o2) rfl ?_
    walk_at "go"
    refine w_tyL hd ?_
    walk_at "go"
    have fin : ∀ (p : Addr) (H4 H5 : Hp) (σ5 : L2.St), Same H' H4 → H' p = none → H4 p = some (.tup (iv (anc rows i))) → Chg H4 H5 d (.lst (ps ++ [.ref p])) → (∃ x y, σ5 = [some (.ref a), some (.ref d), x, y]) → AbInv rows a d H (i + 1) σ5 H5 := fun p H4 H5 σ5 s4 np hp c sl => by
      have hpd : p ≠ d := fun z => by
        subst z
        rw [hd] at np
        cases np
      refine ⟨sl, Same.mut (fun b o e => s4 _ _ (st _ _ e)) nd c.1, _, c.2, by simp [hpl], fun k hk => ?_⟩
      by_cases hlt : k < i
      · obtain ⟨p2, e1, e2, e3⟩ := tu k hlt
        exact ⟨p2, by rw [List.getElem?_append_left (by omega)]; exact e1, e2, c.1 _ _ e2 (s4 _ _ e3)⟩
      · have hk' : k = i := by omega
        subst hk'
        refine ⟨p, ?_, hpd, c.1 _ _ hpd hp⟩
        rw [List.getElem?_append_right (by omega), hpl, Nat.sub_self]
        rfl
    have ea := anc_eq wf.par i
    cases epar : parR rows i with
    | none =>
      rw [epar] at ea
      refine iteT ?_
      walk_at "go"
      intro p H4 n4
      walk_at "go"
      refine w_app (g_new n4 hd) (by omega) fun H5 c => ?_
      exact fin p H4 H5 _ n4.1 n4.2.1 (by rw [n4.2.2, ea]; rfl) c ⟨_, _, rfl⟩
    | some b =>
      rw [epar] at ea
      have hb := wf.par i b epar
      refine iteF ?_
      walk_at "go"
      obtain ⟨pb, e1, e2, e3⟩ := tu b hb
      refine w_ixn (q_l hd) e1 ?_
      refine w_starQ (q_t e3) ?_
      walk_at "go"
      have hal := anc_len (rows := rows) b
      refine ⟨by rw [sizeLine_eq, List.length_append, iv_length]; simp; omega, fun p H4 n4 => ?_⟩
      walk_at "go"
      refine w_app (g_new n4 hd) (by omega) fun H5 c => ?_
      exact fin p H4 H5 _ n4.1 n4.2.1 (by rw [n4.2.2, ea, iv_append]; rfl) c ⟨_, _, rfl⟩
  · obtain ⟨⟨x1, y1, rfl⟩, st, ps, hd, hpl, tu⟩ := I
    rw [ob.1] at hpl tu
    walk_at "go"
    refine w_tupleS (Or.inl (Or.inl hd)) fun l H'' n => ?_
    exact q l H'' ps (fun b o e => n.1 _ _ (st _ _ e)) n.2.2 ⟨hpl, fun j hj => let ⟨p, e1, e2, e3⟩ := tu j hj; ⟨p, e1, n.1 _ _ e3⟩⟩
end

end Cw
end

/-! text C93_cls2 -/
section
set_option Elab.async false
set_option linter.all false
set_option maxRecDepth 100000
set_option maxHeartbeats 4000000
namespace Cw
open PySem PySem.Spec PyProof.Rows L2
local macro_rules | `(tactic| walk_at "go1") => `(tactic| with_reducible first
  | refine w_seq ?_ | refine w_asgN ?_ | refine w_asgG ?_ | refine w_drop ?_ | refine w_ret ?_ | refine w_if ?_ | refine w_next ?_
  | refine w_var rfl ?_ | refine w_c ?_ | refine w_op ?_ | refine w_un ?_ | refine w_cb ?_ | refine w_cons ?_ | refine w_nil ?_ | refine w_call ?_
  | refine w_test ?_ | refine w_tB ?_ | refine w_bl ?_ | refine w_and ?_ | refine w_or ?_ | refine w_not ?_ | refine w_andV ?_ | refine w_orV ?_ | refine w_notV ?_ | refine w_ifE ?_ | refine w_blv ?_
  | refine w_I0 ?_ | refine w_eqI ?_ | refine w_neI ?_ | refine w_isN ?_ | refine w_notN ?_ | refine w_chain ?_ | refine w_for ?_ | refine w_iSeq ?_ | refine w_iR1 ?_ | refine w_iR2 ?_ | refine w_lc ?_
  | refine w_tupS ?_ | refine w_lstS ?_ | refine w_gN ?_ | refine w_gCons ?_ | refine w_gNil ?_ | refine w_aug rfl ?_ | refine w_ip ?_ | refine w_par ?_ | refine w_par2 ?_ | refine w_par3 ?_ | refine w_par33 ?_ | refine w_small (by first | decide | (simp only [List.length_cons, List.length_nil]; decide)) ?_ | refine w_bmL ?_ | refine w_gSub ?_ | refine w_lc2 ?_ | refine w_iEnum ?_ | refine w_yes ?_ | refine w_chN ?_ | refine w_chC ?_ | refine w_chL ?_ | refine w_tSl ?_ | refine w_pN ?_ | refine w_pS ?_ | refine w_pI ?_ | refine w_star ?_)
local macro_rules | `(tactic| walk_at "hp") => `(tactic| (first | assumption | exact g_at (by assumption) | exact g_cat (by assumption) | (refine g_same (by assumption) ?_ ; walk_at "hp") | (refine g_new (by assumption) ?_ ; walk_at "hp") | (refine q_same (by assumption) ?_ ; walk_at "hp") | (refine q_new (by assumption) ?_ ; walk_at "hp")))
local macro_rules | `(tactic| walk_at "go") => `(tactic| repeat' walk_at "go1")
local macro_rules | `(tactic| walk_at "st") => `(tactic| simp only [cxK, L2.start, List.map_cons, List.map_nil, List.length_cons, List.length_nil, Nat.reduceAdd, Nat.reduceSub, List.replicate, List.cons_append, List.nil_append])

--import cls1
theorem fld_put {K : PySem.W.Frag} {H : Hp} {a C dx : Addr} {fs : List (Str × V)} {f : Str} {y : V} {P : Hp → Prop} (h : H a = some (.ins C dx fs)) (cl : Cls K C) (na : NoAttr K C f) (l : fs.length < 1000) (q : ∀ H', Chg H H' a (.ins C dx (putF f y fs)) → P H') :
    ∃ a' C' dx' fs', V.ref a = .ref a' ∧ H a' = some (.ins C' dx' fs') ∧ Cls K C' ∧ NoAttr K C' f ∧ fs'.length < 1000 ∧ P (upd H a' (.ins C' dx' (putF f y fs'))) := ⟨a, C, dx, fs, rfl, h, cl, na, l, q _ Chg.upd⟩
theorem Obs.tups {α : Type} {H H' : Hp} {out : List V} {l : List α} {o : α → HO} (ht : ∀ x, ∃ xs, o x = .tup xs) (s : TupS H H') (h : Obs H out l o) : Obs H' out l o :=
  ⟨h.1, fun k x e => let ⟨a, h1, h2⟩ := h.2 k x e; ⟨a, h1, by obtain ⟨xs, hx⟩ := ht x; rw [hx] at h2 ⊢; exact s _ _ h2⟩⟩
theorem covT (r : Row) : ∃ xs, covO r = .tup xs := ⟨_, rfl⟩
theorem rowT (r : Row) : ∃ xs, rowO r = .tup xs := ⟨_, rfl⟩
/-- the covers at c -/
structure CovF (CC : Addr) (H : Hp) (c : Addr) (cs : List Row) (dx rv : Addr) (pw : V) (vs : List V) : Prop where
  ob : H c = some (.ins CC dx [("rows", .ref rv), ("paths", pw)])
  rt : H rv = some (.tup vs)
  rr : Obs H vs cs covO
def CovAt (CC : Addr) (H : Hp) (c : Addr) (cs : List Row) : Prop := ∃ dx rv pw vs, CovF CC H c cs dx rv pw vs
theorem CovAt.keep {CC : Addr} {H H' : Hp} {c : Addr} {cs : List Row} (t : TupS H H') (k : ∀ o, H c = some o → H' c = some o) : CovAt CC H c cs → CovAt CC H' c cs :=
  fun ⟨dx, rv, pw, vs, F⟩ => ⟨dx, rv, pw, vs, k _ F.ob, t _ _ F.rt, F.rr.tups covT t⟩
theorem CovAt.same {CC : Addr} {H H' : Hp} {c : Addr} {cs : List Row} (t : Same H H') (h : CovAt CC H c cs) : CovAt CC H' c cs := h.keep (.of t) fun o e => t _ o e
theorem TupS.chg {H H' : Hp} {x C dx : Addr} {fs fs' : List (Str × V)} (h : H x = some (.ins C dx fs)) (c : Chg H H' x (.ins C dx fs')) : TupS H H' := TupS.but c.1 h fun xs z => by cases z
theorem put2 (y z : V) : putF "paths" z ([("rows", y)] : List (Str × V)) = ([("rows", y), ("paths", z)] : List (Str × V)) := by
  have h : ¬ ("rows" : Str) = "paths" := by decide +kernel
  simp [putF, h]
def spCInit (CC : Addr) : Sp := fun vs H Q _ => ∃ x dx a out cs, vs = [V.ref x, .ref a] ∧ H x = some (.ins CC dx []) ∧ H a = some (.lst out) ∧ Obs H out cs covO ∧ CovsOk cs ∧ cs.length ≤ 1000 ∧ ∀ H', But x H H' → CovAt CC H' x cs → Q .non H'
def spCLen (CC : Addr) : Sp := fun vs H Q _ => ∃ c cs, vs = [V.ref c] ∧ CovAt CC H c cs ∧ Q (.int (cs.length : Int)) H
theorem lkC_rows (a b : V) : ([("rows", a), ("paths", b)] : List (Str × V)).lookup ("rows" : Str) = some a := by
  simp [List.lookup]
section
variable {P : Program} {w : World} {K : PySem.W.Frag} {mg : Str → Option Value} {base : Heap} {CS CC CI CB : Addr}
theorem ok_clen (D : Mf K CC "__len__" "Covers.__len__" s_Covers___len__) (T : Txt K mg CS CC) : Mn P w K mg base 1 CC "__len__" "Covers.__len__" s_Covers___len__ p_Covers___len__ (spCLen CC) := by
  refine mn_ok D sc_Covers___len__ (fun vs H Q E h => by obtain ⟨_, _, rfl, _⟩ := h; rfl) fun f cdv A outer s H vs Q E hr h => ?_
  obtain ⟨c, cs, rfl, ⟨dx, rv, pw, vs, F⟩, q⟩ := h
  refine ⟨_, (pss_one (ps_ret (pe_callB call_lenQ (by rfl) T.len (by decide +kernel) (pa_cons (pe_fld (pv 0) rfl) pa_nil)))), ?_⟩
  walk_at "st"
  walk_at "go"
  refine w_fl ?_
  walk_at "go"
  refine ⟨_, _, _, _, _, rfl, F.ob, T.clC, T.nCr, lkC_rows _ _, ?_⟩
  walk_at "go"
  refine w_len (q_t F.rt) ?_
  rw [F.rr.1]
  exact q
theorem ok_cinit {f : Addr} {fd : FuncData} (F : FunD K "__init__" "Covers.__init__" (defArgs s_Covers___init__) (defBody s_Covers___init__) (defScope s_Covers___init__) [] [] f fd) (T : Txt K mg CS CC)
    (c_are_rows : Dn P w K mg base CX0 4 "are_rows" s_are_rows p_are_rows (spAreRows K)) (c_paths_by : Dn P w K mg base CX0 1 "paths_by" s_paths_by p_paths_by (spPaths K)) :
    FnOk P w K mg base CX0 5 f fd p_Covers___init__ (spCInit CC) := by
  refine F.ok sc_Covers___init__ (fun vs H Q E h => by obtain ⟨_, _, _, _, _, rfl, _⟩ := h; rfl) fun cdv A outer s H vs Q E hr h => ?_
  obtain ⟨x, dx, a, out, cs, rfl, hx, ha, ob, ok, hl, q⟩ := h
  refine ⟨_, PSs.nox (pss_cons (ps_if (pt_not (pt_val (pe_cD c_are_rows b_are_rows (hr.mono (by decide)) (by rfl) pass0 (pa_cons (pv 1) pa_nil)))) (pss_one ps_never) pss_nil)
      (pss_cons (ps_fld (pv 0) (pe_callTy call_tupS (by rfl) T.tuple (by decide +kernel) (pa_cons (pv 1) pa_nil)) rfl)
      (pss_one (ps_fld (pv 0) (pe_cD c_paths_by b_paths_by (hr.mono (by decide)) (by rfl) pass0 (pa_cons (pv 1) pa_nil)) rfl)))), ?_⟩
  walk_at "st"
  walk_at "go"
  refine ⟨_, out, cs, rfl, ha, ob, ok, hl, fun H1 s1 => ?_⟩
  walk_at "go"
  refine iteF ?_
  walk_at "go"
  show sFld K _ _ _ _ _ _
  unfold sFld
  walk_at "go"
  refine w_tupleS (Or.inl (Or.inl (s1 _ _ ha))) fun t H2 n2 => ?_
  walk_at "go"
  have hx2 : H2 x = some (.ins CC dx []) := n2.1 _ _ (s1 _ _ hx)
  refine fld_put hx2 T.clC T.nCr (by simp) fun H3 c3 => ?_
  have hax : a ≠ x := fun z => by
    subst z
    rw [ha] at hx
    cases hx
  have t23 : TupS H2 H3 := TupS.chg hx2 c3
  have tH2 : TupS H H2 := fun b xs e => n2.1 _ _ (s1 _ _ e)
  have ob3 : Obs H3 out cs covO := ob.tups covT (tH2.trans t23)
  walk_at "go"
  refine ⟨_, out, cs, rfl, c3.1 _ _ hax (n2.1 _ _ (s1 _ _ ha)), ob3, ok, hl, fun p H4 s4 => ?_⟩
  walk_at "go"
  have hx4 : H4 x = some (.ins CC dx [("rows", .ref t)]) := s4 _ _ c3.2
  refine fld_put hx4 T.clC T.nCp (by simp) fun H5 c5 => ?_
  have t45 : TupS H4 H5 := TupS.chg hx4 c5
  have tt : TupS H2 H5 := t23.trans ((TupS.of s4).trans t45)
  walk_at "go"
  refine q H5 (fun b o hb e => c5.1 _ _ hb (s4 _ _ (c3.1 _ _ hb (n2.1 _ _ (s1 _ _ e))))) ⟨dx, t, .ref p, out, ?_, tt _ _ n2.2.2, ob.tups covT (tH2.trans tt)⟩
  rw [c5.2, put2]
end

end Cw
end

/-! text C93_cls3 -/
section
set_option Elab.async false
set_option linter.all false
set_option maxRecDepth 100000
set_option maxHeartbeats 4000000
namespace Cw
open PySem PySem.Spec PyProof.Rows L2
local macro_rules | `(tactic| walk_at "go1") => `(tactic| with_reducible first
  | refine w_seq ?_ | refine w_asgN ?_ | refine w_asgG ?_ | refine w_drop ?_ | refine w_ret ?_ | refine w_if ?_ | refine w_next ?_
  | refine w_var rfl ?_ | refine w_c ?_ | refine w_op ?_ | refine w_un ?_ | refine w_cb ?_ | refine w_cons ?_ | refine w_nil ?_ | refine w_call ?_
  | refine w_test ?_ | refine w_tB ?_ | refine w_bl ?_ | refine w_and ?_ | refine w_or ?_ | refine w_not ?_ | refine w_andV ?_ | refine w_orV ?_ | refine w_notV ?_ | refine w_ifE ?_ | refine w_blv ?_
  | refine w_I0 ?_ | refine w_eqI ?_ | refine w_neI ?_ | refine w_isN ?_ | refine w_notN ?_ | refine w_chain ?_ | refine w_for ?_ | refine w_iSeq ?_ | refine w_iR1 ?_ | refine w_iR2 ?_ | refine w_lc ?_
  | refine w_tupS ?_ | refine w_lstS ?_ | refine w_gN ?_ | refine w_gCons ?_ | refine w_gNil ?_ | refine w_aug rfl ?_ | refine w_ip ?_ | refine w_par ?_ | refine w_par2 ?_ | refine w_par3 ?_ | refine w_par33 ?_ | refine w_small (by first | decide | (simp only [List.length_cons, List.length_nil]; decide)) ?_ | refine w_bmL ?_ | refine w_gSub ?_ | refine w_lc2 ?_ | refine w_iEnum ?_ | refine w_yes ?_ | refine w_chN ?_ | refine w_chC ?_ | refine w_chL ?_ | refine w_tSl ?_ | refine w_pN ?_ | refine w_pS ?_ | refine w_pI ?_ | refine w_star ?_)
local macro_rules | `(tactic| walk_at "hp") => `(tactic| (first | assumption | exact g_at (by assumption) | exact g_cat (by assumption) | (refine g_same (by assumption) ?_ ; walk_at "hp") | (refine g_new (by assumption) ?_ ; walk_at "hp") | (refine q_same (by assumption) ?_ ; walk_at "hp") | (refine q_new (by assumption) ?_ ; walk_at "hp")))
local macro_rules | `(tactic| walk_at "go") => `(tactic| repeat' walk_at "go1")
local macro_rules | `(tactic| walk_at "st") => `(tactic| simp only [cxK, L2.start, List.map_cons, List.map_nil, List.length_cons, List.length_nil, Nat.reduceAdd, Nat.reduceSub, List.replicate, List.cons_append, List.nil_append])

--import cls2
def spSInit (CS CC : Addr) : Sp := fun vs H Q _ => ∃ x dx c l lo cs ls, vs = [V.ref x, .ref c, .ref l] ∧ H x = some (.ins CS dx []) ∧ CovAt CC H c cs ∧ (∀ r ∈ cs, r.2.2 = 0) ∧ (H l = some (.lst lo) ∨ H l = some (.tup lo)) ∧ Obs H lo ls rowO ∧
  (∀ r ∈ ls, CovOk cs.length r ∧ 1 ≤ r.2.2) ∧ WfR (cs ++ ls) ∧ c ≠ x ∧ ∀ H', But x H H' → SearchAt CS H' x (cs ++ ls) → Q .non H'
theorem putS2 (a b : V) : putF "inspections" b ([("covers", a)] : List (Str × V)) = ([("covers", a), ("inspections", b)] : List (Str × V)) := by
  have h : ¬ ("covers" : Str) = "inspections" := by decide +kernel
  simp [putF, h]
theorem putS3 (a b c : V) : putF "rows" c ([("covers", a), ("inspections", b)] : List (Str × V)) = ([("covers", a), ("inspections", b), ("rows", c)] : List (Str × V)) := by
  have h : ¬ ("covers" : Str) = "rows" := by decide +kernel
  have h2 : ¬ ("inspections" : Str) = "rows" := by decide +kernel
  simp [putF, h, h2]
theorem putS4 (a b c d : V) : putF "above" d ([("covers", a), ("inspections", b), ("rows", c)] : List (Str × V)) = ([("covers", a), ("inspections", b), ("rows", c), ("above", d)] : List (Str × V)) := by
  have h : ¬ ("covers" : Str) = "above" := by decide +kernel
  have h2 : ¬ ("inspections" : Str) = "above" := by decide +kernel
  have h3 : ¬ ("rows" : Str) = "above" := by decide +kernel
  simp [putF, h, h2, h3]
theorem lk3_rows (a b c : V) : ([("covers", a), ("inspections", b), ("rows", c)] : List (Str × V)).lookup ("rows" : Str) = some c := by
  have h1 : (("rows" : Str) == "covers") = false := by decide +kernel
  have h2 : (("rows" : Str) == "inspections") = false := by decide +kernel
  simp [List.lookup, h1, h2]
theorem Obs.append {α : Type} {H : Hp} {o1 o2 : List V} {l1 l2 : List α} {o : α → HO} (h1 : Obs H o1 l1 o) (h2 : Obs H o2 l2 o) : Obs H (o1 ++ o2) (l1 ++ l2) o := by
  refine ⟨by rw [List.length_append, List.length_append, h1.1, h2.1], fun k x e => ?_⟩
  by_cases hk : k < l1.length
  · rw [List.getElem?_append_left hk] at e
    obtain ⟨a, e1, e2⟩ := h1.2 k x e
    exact ⟨a, by rw [List.getElem?_append_left (by rw [h1.1]; exact hk)]; exact e1, e2⟩
  · rw [List.getElem?_append_right (by omega)] at e
    obtain ⟨a, e1, e2⟩ := h2.2 _ x e
    exact ⟨a, by rw [List.getElem?_append_right (by rw [h1.1]; omega), h1.1]; exact e1, e2⟩
section
variable {P : Program} {w : World} {K : PySem.W.Frag} {mg : Str → Option Value} {base : Heap} {CS CC CI CB : Addr}
theorem ok_sinit {f : Addr} {fd : FuncData} (F : FunD K "__init__" "Search.__init__" (defArgs s_Search___init__) (defBody s_Search___init__) (defScope s_Search___init__) [] [] f fd) (T : Txt K mg CS CC)
    (c_is_list : Dn P w K mg base CX0 1 "is_list" s_is_list p_is_list (spIsList K)) (c_is_inspection : Dn P w K mg base CX0 3 "is_inspection" s_is_inspection p_is_inspection (spIsInsp K)) (c_above_by : Dn P w K mg base CX0 1 "above_by" s_above_by p_above_by (spAbove K))
    (c_clen : Mn P w K mg base 1 CC "__len__" "Covers.__len__" s_Covers___len__ p_Covers___len__ (spCLen CC)) :
    FnOk P w K mg base CX0 4 f fd p_Search___init__ (spSInit CS CC) := by
  refine F.ok sc_Search___init__ (fun vs H Q E h => by obtain ⟨_, _, _, _, _, _, _, rfl, _⟩ := h; rfl) fun cdv A outer s H vs Q E hr h => ?_
  obtain ⟨x, dx, c, l, lo, cs, ls, rfl, hx, hC, hz, hl, ol, okl, wf, hcx, q⟩ := h
  have wl := wf.len
  rw [List.length_append] at wl
  refine ⟨_, PSs.nox (pss_cons (ps_if (PW.pt (pw_or (pt_not (pt_val (pe_cD c_is_list b_is_list (hr.mono (by decide)) (by rfl) pass0 (pa_cons (pv 2) pa_nil)))) (pw_or1 (pt_not (pt_val (pe_callB (cr_all rfl) (by rfl) T.all (by decide +kernel) (pa_cons (pe_lc (own := [("item", 3)]) rfl sc_Search___init__.nd (pi_seq (pv 2)) (blkOk_by (own := [("item", 3)]) (N := N_Search___init__) (sc := defScope s_Search___init__) (by decide +kernel)) (fun _ _ _ _ _ => (pg_name (i := 3) sc_Search___init__.nd rfl (by first | exact Or.inl rfl | exact Or.inr rfl))) (fun _ _ _ _ _ => pts_nil) (fun _ _ _ _ _ => (pe_cD c_is_inspection b_is_inspection (hr.mono (by decide)) (by rfl) pass0 (pa_cons (pv 3) (pa_cons (pe_callB (call_lenD c_clen b_Covers___len__ (hr.mono (by decide))) (by rfl) T.len (by decide +kernel) (pa_cons (pv 1) pa_nil)) pa_nil))))) pa_nil))))))) (pss_one ps_never) pss_nil)
      (pss_cons (ps_fld (pv 0) (pv 1) rfl)
      (pss_cons (ps_fld (pv 0) (pe_callTy call_tupB (by rfl) T.tuple (by decide +kernel) (pa_cons (pv 2) pa_nil)) rfl)
      (pss_cons (ps_fld (pv 0) (pe_tupS (StX.pa_star (pe_lc (own := [("above", 4), ("minutes", 5)]) rfl sc_Search___init__.nd (pi_seq (pe_fld (pv 1) rfl)) (blkOk_by (own := [("above", 4), ("minutes", 5)]) (N := N_Search___init__) (sc := defScope s_Search___init__) (by decide +kernel)) (fun _ _ _ _ _ => (pg_tupK (K := K) (n := 2) rfl (pgs_cons (pg_name (i := 4) sc_Search___init__.nd rfl (by first | exact Or.inl rfl | exact Or.inr rfl)) (pgs_cons (pg_name (i := 5) sc_Search___init__.nd rfl (by first | exact Or.inl rfl | exact Or.inr rfl)) pgs_nil)))) (fun _ _ _ _ _ => pts_nil) (fun _ _ _ _ _ => (pe_tupS (pa_cons (pv 4) (pa_cons (pv 5) (pa_cons pe_int pa_nil)))))) (StX.pa_star (pv 2) pa_nil))) rfl)
      (pss_one (ps_fld (pv 0) (pe_cD c_above_by b_above_by (hr.mono (by decide)) (by rfl) pass0 (pa_cons (pe_fld (pv 0) rfl) pa_nil)) rfl)))))), ?_⟩
  walk_at "st"
  walk_at "go"
  refine ⟨_, _, rfl, hl, fun H1 s1 => ?_⟩
  walk_at "go"
  refine iteF ?_
  walk_at "go"
  have hl1 : H1 l = some (.lst lo) ∨ H1 l = some (.tup lo) := hl.imp (g_same s1) (g_same s1)
  refine seq_map (lo.zip ls) Prod.fst (fun _ => true) (fun _ => .bl true) (by rw [List.length_zip]; omega) (by rw [zip_fst ol.1]; exact sq_or hl1) (fun p H' Pe Pn hp st k1 k2 => ?_) (fun D H2 n2 => ?_)
  · obtain ⟨a, e1, e2, e3⟩ := ol.zip hp
    obtain ⟨p1, p2⟩ := p
    dsimp only at e1 e2 e3
    subst e1
    have sH : Same H H' := fun b o e => st _ _ (s1 _ _ e)
    walk_at "go"
    refine ⟨rfl, ?_⟩
    walk_at "go"
    rw [if_pos rfl]
    walk_at "go"
    have hC' := hC.same sH
    obtain ⟨dc, rc, pc, vc, F'⟩ := id hC'
    refine ⟨_, _, _, rfl, F'.ob, _, cs, rfl, hC', _, rfl, ⟨by omega, by omega⟩, ?_⟩
    walk_at "go"
    obtain ⟨g1, g2⟩ := okl p2 e3
    exact ⟨_, cs.length, p2, rfl, sH _ _ e2, g1, g2, k1 rfl H' fun _ _ e => e⟩
  · rw [filter_tt] at n2
    walk_at "go"
    refine w_all (bs := List.replicate (lo.zip ls).length true) (Or.inl (Or.inl (by rw [g_at n2]; congr 2; rw [List.map_const', List.map_replicate]))) ?_
    walk_at "go"
    rw [show (List.replicate (lo.zip ls).length true).all id = true by simp]
    refine iteF ?_
    walk_at "go"
    have s2 : Same H H2 := fun b o e => n2.1 _ _ (s1 _ _ e)
    show sFld K _ _ _ _ _ _
    unfold sFld
    walk_at "go"
    refine fld_put (s2 _ _ hx) T.clS T.nSc (by simp) fun H3 c3 => ?_
    have t3 : TupS H H3 := (TupS.of s2).trans (TupS.chg (s2 _ _ hx) c3)
    have b3 : But x H H3 := fun b o hb e => c3.1 _ _ hb (s2 _ _ e)
    have hlx : l ≠ x := fun z => by
      subst z
      rcases hl with h | h <;> (rw [h] at hx; cases hx)
    have hl3 : H3 l = some (.lst lo) ∨ H3 l = some (.tup lo) := hl.imp (b3 _ _ hlx) (b3 _ _ hlx)
    walk_at "go"
    refine w_tupB hl3 fun t H4 s4 ht => ?_
    walk_at "go"
    refine fld_put (s4 _ _ c3.2) T.clS T.nSi (by simp [putF]) fun H5 c5 => ?_
    rw [show putF "covers" (V.ref c) [] = ([("covers", V.ref c)] : List (Str × V)) from rfl, putS2] at c5
    have t5 : TupS H3 H5 := (TupS.of s4).trans (TupS.chg (s4 _ _ c3.2) c5)
    have b5 : But x H H5 := fun b o hb e => c5.1 _ _ hb (s4 _ _ (b3 _ _ hb e))
    have hC5 : CovAt CC H5 c cs := hC.keep (t3.trans t5) (fun o e => b5 _ _ hcx e)
    obtain ⟨dc, rc, pc, vc, F'⟩ := id hC5
    walk_at "go"
    refine w_fl ?_
    walk_at "go"
    refine ⟨_, _, _, _, _, rfl, F'.ob, T.clC, T.nCr, lkC_rows _ _, ?_⟩
    refine seq_obs (vc.zip cs) Prod.fst (fun _ => true) (fun p => rowO p.2) (by rw [List.length_zip]; omega) (by rw [zip_fst F'.rr.1]; exact q_t F'.rt) (fun p H' Pe Pn hp st k1 k2 => ?_) (fun D H6 out s6 nD hD ob => ?_)
    · obtain ⟨a, e1, e2, e3⟩ := F'.rr.zip hp
      obtain ⟨p1, p2⟩ := p
      dsimp only at e1 e2 e3
      subst e1
      obtain ⟨par, m, ww⟩ := p2
      refine w_gTup (xs := [optV par, .int m]) (st _ _ e2) rfl ?_
      walk_at "go"
      refine ⟨rfl, ?_⟩
      walk_at "go"
      rw [if_pos rfl]
      walk_at "go"
      intro r H7 n7
      have hw : ww = 0 := hz _ e3
      subst hw
      exact k1 rfl r H7 n7.1 n7.2.1 n7.2.2
    · rw [filter_tt] at ob
      have ob6 : Obs H6 out cs rowO := by
        have := ob.of_map (g := Prod.snd) (o := rowO)
        rw [zip_snd F'.rr.1] at this
        exact this
      have hl6 : Sq K H6 l lo := sq_or ((hl.imp (b5 _ _ hlx) (b5 _ _ hlx)).imp (g_same s6) (g_same s6))
      have ol6 : Obs H6 lo ls rowO := ol.tups rowT ((t3.trans t5).trans (TupS.of s6))
      refine w_starQ (q_l hD) ?_
      walk_at "go"
      refine w_starQ hl6 ?_
      walk_at "go"
      refine ⟨by rw [sizeLine_eq]; simp [ob6.1, ol6.1]; omega, fun r H7 n7 => ?_⟩
      walk_at "go"
      have hx7 := n7.1 _ _ (s6 _ _ c5.2)
      refine fld_put hx7 T.clS T.nSr (by simp) fun H8 c8 => ?_
      rw [putS3] at c8
      have t8 : TupS H7 H8 := TupS.chg hx7 c8
      have b8 : But x H H8 := fun b o hb e => c8.1 _ _ hb (n7.1 _ _ (s6 _ _ (b5 _ _ hb e)))
      have t68 : TupS H6 H8 := (TupS.of n7.1).trans t8
      have rr8 : RowsV H8 (out ++ lo) (cs ++ ls) := (ob6.append ol6).tups rowT t68
      have hr8 : H8 r = some (.tup (out ++ lo)) := by
        have := t8 _ _ n7.2.2
        simpa using this
      walk_at "go"
      refine w_fl ?_
      walk_at "go"
      refine ⟨_, _, _, _, _, rfl, c8.2, T.clS, T.nSr, lk3_rows _ _ _, ?_⟩
      walk_at "go"
      refine ⟨_, _, cs ++ ls, rfl, hr8, rr8, wf, fun p H9 avs s9 hp9 ha9 => ?_⟩
      walk_at "go"
      refine fld_put (s9 _ _ c8.2) T.clS T.nSa (by simp) fun H10 c10 => ?_
      rw [putS4] at c10
      have t10 : TupS H9 H10 := TupS.chg (s9 _ _ c8.2) c10
      have t810 : TupS H8 H10 := (TupS.of s9).trans t10
      exact q H10 (fun b o hb e => c10.1 _ _ hb (s9 _ _ (b8 _ _ hb e))) ⟨dx, c, t, r, p, _, avs, c10.2, t810 _ _ hr8, rr8.tups t810, t10 _ _ hp9, ha9.tups t10⟩
end

end Cw
end

/-! text C93_box -/
section
set_option Elab.async false
set_option linter.all false
set_option maxRecDepth 100000
set_option maxHeartbeats 4000000
namespace Cw
open PySem PySem.Spec PyProof.Rows L2
local macro_rules | `(tactic| walk_at "go1") => `(tactic| with_reducible first
  | refine w_seq ?_ | refine w_asgN ?_ | refine w_asgG ?_ | refine w_drop ?_ | refine w_ret ?_ | refine w_if ?_ | refine w_next ?_
  | refine w_var rfl ?_ | refine w_c ?_ | refine w_op ?_ | refine w_un ?_ | refine w_cb ?_ | refine w_cons ?_ | refine w_nil ?_ | refine w_call ?_
  | refine w_test ?_ | refine w_tB ?_ | refine w_bl ?_ | refine w_and ?_ | refine w_or ?_ | refine w_not ?_ | refine w_andV ?_ | refine w_orV ?_ | refine w_notV ?_ | refine w_ifE ?_ | refine w_blv ?_
  | refine w_I0 ?_ | refine w_eqI ?_ | refine w_neI ?_ | refine w_isN ?_ | refine w_notN ?_ | refine w_chain ?_ | refine w_for ?_ | refine w_iSeq ?_ | refine w_iR1 ?_ | refine w_iR2 ?_ | refine w_lc ?_
  | refine w_tupS ?_ | refine w_lstS ?_ | refine w_gN ?_ | refine w_gCons ?_ | refine w_gNil ?_ | refine w_aug rfl ?_ | refine w_ip ?_ | refine w_par ?_ | refine w_par2 ?_ | refine w_par3 ?_ | refine w_par33 ?_ | refine w_small (by first | decide | (simp only [List.length_cons, List.length_nil]; decide)) ?_ | refine w_bmL ?_ | refine w_gSub ?_ | refine w_lc2 ?_ | refine w_iEnum ?_ | refine w_yes ?_ | refine w_chN ?_ | refine w_chC ?_ | refine w_chL ?_ | refine w_tSl ?_ | refine w_pN ?_ | refine w_pS ?_ | refine w_pI ?_ | refine w_star ?_)
local macro_rules | `(tactic| walk_at "hp") => `(tactic| (first | assumption | exact g_at (by assumption) | exact g_cat (by assumption) | (refine g_same (by assumption) ?_ ; walk_at "hp") | (refine g_new (by assumption) ?_ ; walk_at "hp") | (refine q_same (by assumption) ?_ ; walk_at "hp") | (refine q_new (by assumption) ?_ ; walk_at "hp")))
local macro_rules | `(tactic| walk_at "go") => `(tactic| repeat' walk_at "go1")
local macro_rules | `(tactic| walk_at "st") => `(tactic| simp only [cxK, L2.start, List.map_cons, List.map_nil, List.length_cons, List.length_nil, Nat.reduceAdd, Nat.reduceSub, List.replicate, List.cons_append, List.nil_append])

--import cls3
def BoxAt (H : Hp) (b : Addr) : Prop := ∃ (a : Int) (f : Bool) (c d : Int), H b = some (.lst [.int a, .bl f, .int c, .int d])
theorem BoxAt.same {H H' : Hp} {b : Addr} (s : Same H H') : BoxAt H b → BoxAt H' b := fun ⟨a, f, c, d, h⟩ => ⟨a, f, c, d, s _ _ h⟩
def spCell (K : PySem.W.Frag) : Sp := fun vs H Q _ => ∃ (a : Addr) (ns : List Int) (k : Nat), vs = [V.ref a, .int (k : Int)] ∧ SqL K H a (ns.map V.int) ∧ k ≤ 1000 ∧ ∀ v H', Same H H' → Q (.int v) H'
def spBox : Sp := fun vs H Q _ => ∃ g, vs = [V.int g] ∧ ∀ b H', Same H H' → H b = none → BoxAt H' b → Q (.ref b) H'
def spTake : Sp := fun vs H Q _ => ∃ b m, vs = [V.ref b, .int m] ∧ BoxAt H b ∧ 1 ≤ m ∧ m ≤ 1000000 ∧ ∀ (r : Nat) H', (r : Int) < m → But b H H' → BoxAt H' b → Q (.int (r : Int)) H'
theorem fmod_nat {a m : Int} (h : 1 ≤ m) : ∃ r : Nat, a.fmod m = (r : Int) ∧ (r : Int) < m := by
  have h1 : a.fmod m = a % m := Int.fmod_eq_emod_of_nonneg a (by omega)
  have h2 := Int.emod_nonneg a (show m ≠ 0 by omega)
  have h3 := Int.emod_lt_of_pos a (show 0 < m by omega)
  obtain ⟨r, hr⟩ := Int.eq_ofNat_of_zero_le h2
  exact ⟨r, by rw [h1, hr], by omega⟩
section
variable {P : Program} {w : World} {K : PySem.W.Frag} {mg : Str → Option Value} {base : Heap} {CS CC CI CB : Addr}
theorem ok_law_cell (D : Df K mg "_law_cell" s__law_cell) (T : Txt K mg CS CC) : Dn P w K mg base CX0 1 "_law_cell" s__law_cell p__law_cell (spCell K) := by
  refine dn_ok D sc__law_cell (fun vs H Q E h => by obtain ⟨_, _, _, rfl, _⟩ := h; rfl) fun f cdv A outer s H vs Q E hr h => ?_
  obtain ⟨a, ns, k, rfl, ha, hk, q⟩ := h
  refine ⟨_, (pss_one (ps_ret (pe_ifExp (pt_cmpR op_lt (pv 1) (pe_callB call_lenQ (by rfl) T.len (by decide +kernel) (pa_cons (pv 0) pa_nil)) (nomark _)) (pe_ix ix_sq (pv 0) (pv 1) (fun _ _ => rfl)) (pe_op op_add (pe_op op_mul pe_int (pv 1)) (pe_op op_modN (pe_callB (cr_sum rfl) (by rfl) T.sum (by decide +kernel) (pa_cons (pe_slice sl_s (pv 0) po_none (po_some pe_int)) pa_nil)) pe_int))))), ?_⟩
  walk_at "st"
  walk_at "go"
  refine w_len (Or.inl ha) ?_
  walk_at "go"
  rw [List.length_map]
  refine ite2 (fun h1 => ?_) (fun h1 => ?_)
  · walk_at "go"
    have hl : k < ns.length := by have := of_decide_eq_true h1; omega
    refine w_ixn (xs := ns.map V.int) (v := .int ns[k]) (Or.inl ha) (by rw [List.getElem?_map]; simp [hl]) ?_
    exact q _ H fun _ _ e => e
  · walk_at "go"
    refine w_I (Or.inl (by omega)) ?_
    walk_at "go"
    refine Or.inl ⟨a, _, rfl, ha, fun p H' n => ?_⟩
    have e : cutV (ns.map V.int) none (some 1) = (ns.take 1).map V.int := by
      have h2 : HT.sIx (ns.map V.int).length (ns.map V.int).length (some 1) = min 1 (ns.map V.int).length := HT.sIx_nat _ _ 1
      unfold cutV
      rw [HT.sIx_none, h2, List.drop_zero, Nat.sub_zero, ← List.map_take]
      congr 1
      rw [List.length_map]
      by_cases z : 1 ≤ ns.length
      · rw [Nat.min_eq_left z]
      · have : ns.length = 0 := by omega
        have : ns = [] := List.length_eq_zero_iff.mp this
        subst this
        rfl
    rw [e] at n
    walk_at "go"
    refine w_sum (ns := ns.take 1) (Or.inl (Or.inl (g_at n))) ?_
    walk_at "go"
    refine w_I (show (1000033 : Int) ≠ 0 by decide) ?_
    walk_at "go"
    exact q _ H' n.1
theorem ok_law_box (D : Df K mg "_law_box" s__law_box) (T : Txt K mg CS CC) : Dn P w K mg base CX0 1 "_law_box" s__law_box p__law_box spBox := by
  refine dn_ok D sc__law_box (fun vs H Q E h => by obtain ⟨_, rfl, _⟩ := h; rfl) fun f cdv A outer s H vs Q E hr h => ?_
  obtain ⟨g, rfl, q⟩ := h
  refine ⟨_, (pss_one (ps_ret (pe_lstS (pa_cons (pe_callB call_absQ (by rfl) T.abs (by decide +kernel) (pa_cons (pv 0) pa_nil)) (pa_cons (pe_cmpR op_ge (pe_callB call_absQ (by rfl) T.abs (by decide +kernel) (pa_cons (pv 0) pa_nil)) (pe_op op_pow pe_int pe_int) (nomark _)) (pa_cons (pe_op op_modN (pe_callTy call_int1Q (by rfl) T.int (by decide +kernel) (pa_cons (pe_callB call_absQ (by rfl) T.abs (by decide +kernel) (pa_cons (pv 0) pa_nil)) pa_nil)) pe_int) (pa_cons pe_int pa_nil))))))), ?_⟩
  walk_at "st"
  walk_at "go"
  refine ⟨_, rfl, ?_⟩
  walk_at "go"
  refine ⟨_, rfl, ?_⟩
  walk_at "go"
  refine w_I ⟨by decide, by decide, by decide⟩ ?_
  walk_at "go"
  refine ⟨_, rfl, ?_⟩
  walk_at "go"
  refine Or.inl ⟨_, rfl, ?_⟩
  walk_at "go"
  refine w_I (show (2147483629 : Int) ≠ 0 by decide) ?_
  walk_at "go"
  intro p H' n
  exact q p H' n.1 n.2.1 ⟨_, _, _, _, n.2.2⟩
theorem ok_law_take (D : Df K mg "_law_take" s__law_take) (T : Txt K mg CS CC) : Dn P w K mg base CX0 1 "_law_take" s__law_take p__law_take spTake := by
  refine dn_ok D sc__law_take (fun vs H Q E h => by obtain ⟨_, _, rfl, _⟩ := h; rfl) fun f cdv A outer s H vs Q E hr h => ?_
  obtain ⟨b, m, rfl, ⟨a, fl, c, d, hb⟩, hm1, hm2, q⟩ := h
  refine ⟨_, (pss_cons (ps_if (PW.pt (pw_and (pt_val (pe_ix ix_sq (pv 0) pe_int (fun _ _ => rfl))) (pw_and1 (pt_cmpR op_gt (pe_ix ix_sq (pv 0) pe_int (fun _ _ => rfl)) pe_int (nomark _))))) (pss_cons (ps_set (i := 2) sc__law_take.nd rfl (by first | exact Or.inl rfl | exact Or.inr rfl) (pe_op op_modN (pe_callTy call_int1Q (by rfl) T.int (by decide +kernel) (pa_cons (pe_ix ix_sq (pv 0) pe_int (fun _ _ => rfl)) pa_nil)) (pv 1)))
      (pss_cons (ps_asg (pe_op op_fdivN (pe_callTy call_int1Q (by rfl) T.int (by decide +kernel) (pa_cons (pe_ix ix_sq (pv 0) pe_int (fun _ _ => rfl)) pa_nil)) (pv 1)) (pg_sub (pv 0) pe_int set_s))
      (pss_one (ps_ret (pv 2))))) pss_nil)
      (pss_cons (ps_asg (pe_op op_add (pe_ix ix_sq (pv 0) pe_int (fun _ _ => rfl)) pe_int) (pg_sub (pv 0) pe_int set_s))
      (pss_cons (ps_asg (pe_op op_modN (pe_op op_add (pe_op op_add (pe_op op_mul (pe_ix ix_sq (pv 0) pe_int (fun _ _ => rfl)) pe_int) (pe_op op_mul pe_int (pe_ix ix_sq (pv 0) pe_int (fun _ _ => rfl)))) pe_int) pe_int) (pg_sub (pv 0) pe_int set_s))
      (pss_one (ps_ret (pe_op op_modN (pe_op op_fdivN (pe_ix ix_sq (pv 0) pe_int (fun _ _ => rfl)) pe_int) (pv 1))))))), ?_⟩
  walk_at "st"
  walk_at "go"
  refine w_ix (q_l hb) rfl ?_
  walk_at "go"
  cases fl with
  | false =>
    refine iteF ?_
    refine iteF ?_
    walk_at "go"
    refine w_ix (q_l hb) rfl ?_
    walk_at "go"
    refine w_setS (j := 3) hb (by simp) fun H1 c1 => ?_
    walk_at "go"
    have hb1 : H1 b = some (.lst [.int a, .bl false, .int c, .int (d + 1)]) := c1.2
    refine w_ix (q_l hb1) rfl ?_
    walk_at "go"
    refine w_I (Or.inr (by omega)) ?_
    walk_at "go"
    refine w_ix (q_l hb1) rfl ?_
    walk_at "go"
    refine w_I (Or.inl (by omega)) ?_
    walk_at "go"
    refine w_I (show (2147483629 : Int) ≠ 0 by decide) ?_
    walk_at "go"
    refine w_setS (j := 2) hb1 (by simp) fun H2 c2 => ?_
    have hb2 : H2 b = some (.lst [.int a, .bl false, .int ((c * 69621 + 1327 * (d + 1) + 7).fmod 2147483629), .int (d + 1)]) := c2.2
    walk_at "go"
    refine w_ix (q_l hb2) rfl ?_
    walk_at "go"
    refine w_I (show CDivN _ (64 : Int) from ⟨by decide, by decide⟩) ?_
    walk_at "go"
    refine w_I (show m ≠ 0 by omega) ?_
    obtain ⟨r, h1, h2⟩ := fmod_nat (a := ((c * 69621 + 1327 * (d + 1) + 7).fmod 2147483629).fdiv 64) hm1
    rw [h1]
    walk_at "go"
    exact q r H2 h2 (c1.1.trans c2.1) ⟨_, _, _, _, hb2⟩
  | true =>
    refine iteT ?_
    walk_at "go"
    refine w_ix (q_l hb) rfl ?_
    walk_at "go"
    refine ite2 (fun h1 => ?_) (fun h1 => ?_)
    · walk_at "go"
      refine w_ix (q_l hb) rfl ?_
      walk_at "go"
      refine Or.inl ⟨_, rfl, ?_⟩
      walk_at "go"
      refine w_I (show m ≠ 0 by omega) ?_
      walk_at "go"
      refine w_ix (q_l hb) rfl ?_
      walk_at "go"
      refine Or.inl ⟨_, rfl, ?_⟩
      walk_at "go"
      refine w_I (show CDivN a m from ⟨by omega, by omega⟩) ?_
      walk_at "go"
      refine w_setS (j := 0) hb (by simp) fun H1 c1 => ?_
      obtain ⟨r, h2, h3⟩ := fmod_nat (a := a) hm1
      rw [h2]
      walk_at "go"
      exact q r H1 h3 c1.1 ⟨_, _, _, _, c1.2⟩
    · walk_at "go"
      refine w_ix (q_l hb) rfl ?_
      walk_at "go"
      refine w_setS (j := 3) hb (by simp) fun H1 c1 => ?_
      walk_at "go"
      have hb1 : H1 b = some (.lst [.int a, .bl true, .int c, .int (d + 1)]) := c1.2
      refine w_ix (q_l hb1) rfl ?_
      walk_at "go"
      refine w_I (Or.inr (by omega)) ?_
      walk_at "go"
      refine w_ix (q_l hb1) rfl ?_
      walk_at "go"
      refine w_I (Or.inl (by omega)) ?_
      walk_at "go"
      refine w_I (show (2147483629 : Int) ≠ 0 by decide) ?_
      walk_at "go"
      refine w_setS (j := 2) hb1 (by simp) fun H2 c2 => ?_
      have hb2 : H2 b = some (.lst [.int a, .bl true, .int ((c * 69621 + 1327 * (d + 1) + 7).fmod 2147483629), .int (d + 1)]) := c2.2
      walk_at "go"
      refine w_ix (q_l hb2) rfl ?_
      walk_at "go"
      refine w_I (show CDivN _ (64 : Int) from ⟨by decide, by decide⟩) ?_
      walk_at "go"
      refine w_I (show m ≠ 0 by omega) ?_
      obtain ⟨r, h1, h2⟩ := fmod_nat (a := ((c * 69621 + 1327 * (d + 1) + 7).fmod 2147483629).fdiv 64) hm1
      rw [h1]
      walk_at "go"
      exact q r H2 h2 (c1.1.trans c2.1) ⟨_, _, _, _, hb2⟩
end

end Cw
end

/-! text C93_drawn -/
section
set_option Elab.async false
set_option linter.all false
set_option maxRecDepth 100000
set_option maxHeartbeats 4000000
namespace Cw
open PySem PySem.Spec PyProof.Rows L2
local macro_rules | `(tactic| walk_at "go1") => `(tactic| with_reducible first
  | refine w_seq ?_ | refine w_asgN ?_ | refine w_asgG ?_ | refine w_drop ?_ | refine w_ret ?_ | refine w_if ?_ | refine w_next ?_
  | refine w_var rfl ?_ | refine w_c ?_ | refine w_op ?_ | refine w_un ?_ | refine w_cb ?_ | refine w_cons ?_ | refine w_nil ?_ | refine w_call ?_
  | refine w_test ?_ | refine w_tB ?_ | refine w_bl ?_ | refine w_and ?_ | refine w_or ?_ | refine w_not ?_ | refine w_andV ?_ | refine w_orV ?_ | refine w_notV ?_ | refine w_ifE ?_ | refine w_blv ?_
  | refine w_I0 ?_ | refine w_eqI ?_ | refine w_neI ?_ | refine w_isN ?_ | refine w_notN ?_ | refine w_chain ?_ | refine w_for ?_ | refine w_iSeq ?_ | refine w_iR1 ?_ | refine w_iR2 ?_ | refine w_lc ?_
  | refine w_tupS ?_ | refine w_lstS ?_ | refine w_gN ?_ | refine w_gCons ?_ | refine w_gNil ?_ | refine w_aug rfl ?_ | refine w_ip ?_ | refine w_par ?_ | refine w_par2 ?_ | refine w_par3 ?_ | refine w_par33 ?_ | refine w_small (by first | decide | (simp only [List.length_cons, List.length_nil]; decide)) ?_ | refine w_bmL ?_ | refine w_gSub ?_ | refine w_lc2 ?_ | refine w_iEnum ?_ | refine w_yes ?_ | refine w_chN ?_ | refine w_chC ?_ | refine w_chL ?_ | refine w_tSl ?_ | refine w_pN ?_ | refine w_pS ?_ | refine w_pI ?_ | refine w_star ?_)
local macro_rules | `(tactic| walk_at "hp") => `(tactic| (first | assumption | exact g_at (by assumption) | exact g_cat (by assumption) | (refine g_same (by assumption) ?_ ; walk_at "hp") | (refine g_new (by assumption) ?_ ; walk_at "hp") | (refine q_same (by assumption) ?_ ; walk_at "hp") | (refine q_new (by assumption) ?_ ; walk_at "hp")))
local macro_rules | `(tactic| walk_at "go") => `(tactic| repeat' walk_at "go1")
local macro_rules | `(tactic| walk_at "st") => `(tactic| simp only [cxK, L2.start, List.map_cons, List.map_nil, List.length_cons, List.length_nil, Nat.reduceAdd, Nat.reduceSub, List.replicate, List.cons_append, List.nil_append])

--import box
structure RowsC (rows : List Row) (c : Nat) : Prop where
  cl : c ≤ rows.length
  len : rows.length ≤ 40
  cov : ∀ i r, rows[i]? = some r → i < c → CovOk i r ∧ r.2.1 ≤ 1000000 ∧ r.2.2 = 0
  look : ∀ i r, rows[i]? = some r → c ≤ i → CovOk c r ∧ r.2.1 ≤ 1000000 ∧ 1 ≤ r.2.2 ∧ r.2.2 ≤ 1000000
theorem RowsC.wf {rows : List Row} {c : Nat} (h : RowsC rows c) : WfR rows := by
  have key : ∀ j, (∃ r, rows[j]? = some r ∧ pR rows j = r.2.1 ∧ wR rows j = r.2.2 ∧ parR rows j = r.1) ∨ (rows[j]? = none ∧ pR rows j = 0 ∧ wR rows j = 0 ∧ parR rows j = none) := fun j => by
    cases e : rows[j]? with
    | none => exact Or.inr ⟨rfl, by unfold pR; rw [List.getD_eq_getElem?_getD, e]; rfl, by unfold wR; rw [List.getD_eq_getElem?_getD, e]; rfl, by unfold parR; rw [List.getD_eq_getElem?_getD, e]; rfl⟩
    | some r => obtain ⟨h1, h2, h3⟩ := getD_of e; exact Or.inl ⟨r, rfl, h1, h2, h3⟩
  have all : ∀ (j : Nat) (r : Row), rows[j]? = some r → (∀ q, r.1 = some q → q < j) ∧ 1 ≤ r.2.1 ∧ r.2.1 ≤ 1000000 ∧ 0 ≤ r.2.2 ∧ r.2.2 ≤ 1000000 := fun j r e => by
    by_cases hj : j < c
    · obtain ⟨⟨g1, g2⟩, g3, g4⟩ := h.cov j r e hj
      exact ⟨g1, g2, g3, by omega, by omega⟩
    · obtain ⟨⟨g1, g2⟩, g3, g4, g5⟩ := h.look j r e (by omega)
      exact ⟨fun q hq => by have := g1 q hq; omega, g2, g3, by omega, g5⟩
  refine ⟨by have := h.len; omega, fun j a e => ?_, fun j => ?_, fun j => ?_, fun j hj => ?_⟩
  · rcases key j with ⟨r, e1, e2, e3, e4⟩ | ⟨_, _, _, e4⟩
    · rw [e4] at e
      exact (all j r e1).1 a e
    · rw [e4] at e
      cases e
  · rcases key j with ⟨r, e1, e2, e3, e4⟩ | ⟨_, e2, _, e4⟩
    · rw [e2]
      have := (all j r e1).2
      omega
    · rw [e2]
      omega
  · rcases key j with ⟨r, e1, e2, e3, e4⟩ | ⟨_, e2, e3, e4⟩
    · rw [e3]
      have := (all j r e1).2
      omega
    · rw [e3]
      omega
  · rcases key j with ⟨r, e1, e2, e3, e4⟩ | ⟨e1, _, _, _⟩
    · rw [e2]
      exact (all j r e1).2.1
    · exact absurd e1 (by simp [hj])
def RowsL (H : Hp) (p : Addr) (rows : List Row) : Prop := ∃ out, H p = some (.lst out) ∧ RowsV H out rows
def spDrawn : Sp := fun vs H Q _ => ∃ (b : Addr) (c l : Nat) (m : Int), vs = [V.ref b, .int (c : Int), .int (l : Int), .int m] ∧ BoxAt H b ∧ c + l ≤ 40 ∧ 1 ≤ m ∧ m ≤ 1000000 ∧
  ∀ p H' rows, But b H H' → BoxAt H' b → H p = none → RowsL H' p rows → RowsC rows c → rows.length = c + l → Q (.ref p) H'
theorem RowsC.snocC {rows : List Row} {r : Row} (h : RowsC rows rows.length) (hl : rows.length < 40) (h1 : CovOk rows.length r) (h2 : r.2.1 ≤ 1000000) (h3 : r.2.2 = 0) : RowsC (rows ++ [r]) (rows ++ [r]).length := by
  refine ⟨Nat.le_refl _, by simp; omega, fun i x e hi => ?_, fun i x e hi => ?_⟩
  · by_cases hlt : i < rows.length
    · rw [List.getElem?_append_left hlt] at e
      exact h.cov i x e hlt
    · have : i = rows.length := by simp at hi; omega
      subst this
      simp at e
      subst e
      exact ⟨h1, h2, h3⟩
  · have := (List.getElem?_eq_some_iff.mp e).1
    omega
theorem RowsC.snocL {rows : List Row} {r : Row} {c : Nat} (h : RowsC rows c) (hl : rows.length < 40) (h1 : CovOk c r) (h2 : r.2.1 ≤ 1000000) (h3 : 1 ≤ r.2.2) (h4 : r.2.2 ≤ 1000000) : RowsC (rows ++ [r]) c := by
  refine ⟨by have := h.cl; simp; omega, by simp; omega, fun i x e hi => ?_, fun i x e hi => ?_⟩
  · have hlt : i < rows.length := by have := h.cl; omega
    rw [List.getElem?_append_left hlt] at e
    exact h.cov i x e hi
  · by_cases hlt : i < rows.length
    · rw [List.getElem?_append_left hlt] at e
      exact h.look i x e hi
    · have : i = rows.length := by
        have := (List.getElem?_eq_some_iff.mp e).1
        simp at this
        omega
      subst this
      simp at e
      subst e
      exact ⟨h1, h2, h3, h4⟩
theorem RowsV.snoc {H : Hp} {vs : List V} {rows : List Row} {a : Addr} {r : Row} (h : RowsV H vs rows) (ha : H a = some (.tup (rowV r))) : RowsV H (vs ++ [.ref a]) (rows ++ [r]) := by
  refine ⟨by simp [h.1], fun i x e => ?_⟩
  by_cases hlt : i < rows.length
  · rw [List.getElem?_append_left hlt] at e
    obtain ⟨p, e1, e2⟩ := h.2 i x e
    exact ⟨p, by rw [List.getElem?_append_left (by rw [h.1]; exact hlt)]; exact e1, e2⟩
  · have hi : i = rows.length := by
      have := (List.getElem?_eq_some_iff.mp e).1
      simp at this
      omega
    subst hi
    simp at e
    subst e
    exact ⟨a, by rw [List.getElem?_append_right (by rw [h.1]; exact Nat.le_refl _), h.1, Nat.sub_self]; rfl, ha⟩
theorem BoxAt.tups {H H' : Hp} {b : Addr} (h : BoxAt H b) (s : But b H H') : TupS H H' := by
  obtain ⟨a, f, c, d, e⟩ := h
  exact TupS.but s e fun xs z => by cases z
theorem lst_tups {H H' : Hp} {p : Addr} {xs : List V} {o : HO} (h : H p = some (.lst xs)) (s : Chg H H' p o) : TupS H H' := TupS.but s.1 h fun xs z => by cases z
/-- all but the box b and the list p, which came later -/
structure DrInv (b p : Addr) (H0 : Hp) (H : Hp) : Prop where
  bt : But b H0 H
  bx : BoxAt H b
  ne : p ≠ b
structure Dr1 (b p : Addr) (c l : Nat) (m : Int) (sh : Nat) (H0 : Hp) (i : Nat) (σ : L2.St) (H : Hp) : Prop where
  sl : ∃ x y, σ = [some (.ref b), some (.int (c : Int)), some (.int (l : Int)), some (.int m), some (.ref p), some (.int (sh : Int)), x, y]
  dr : DrInv b p H0 H
  rw' : ∃ rows, RowsL H p rows ∧ RowsC rows rows.length ∧ rows.length = i
structure Dr2 (b p : Addr) (c l : Nat) (m : Int) (sh : Nat) (H0 : Hp) (i : Nat) (σ : L2.St) (H : Hp) : Prop where
  sl : ∃ x y, σ = [some (.ref b), some (.int (c : Int)), some (.int (l : Int)), some (.int m), some (.ref p), some (.int (sh : Int)), x, y]
  dr : DrInv b p H0 H
  rw' : ∃ rows, RowsL H p rows ∧ RowsC rows c ∧ rows.length = c + i
/-- the tuple's first place -/
def atO (v : Int) : Option Nat := if v < 0 then none else some v.toNat
theorem atO_lt {v : Int} {n : Nat} (h : v < n) : ∀ q, atO v = some q → q < n := fun q e => by
  unfold atO at e
  split at e
  · cases e
  · have := Option.some.inj e
    omega
section
variable {P : Program} {w : World} {K : PySem.W.Frag} {mg : Str → Option Value} {base : Heap} {CS CC CI CB : Addr}
theorem ok_law_drawn (D : Df K mg "_law_drawn" s__law_drawn) (T : Txt K mg CS CC) (c__law_take : Dn P w K mg base CX0 1 "_law_take" s__law_take p__law_take spTake) : Dn P w K mg base CX0 2 "_law_drawn" s__law_drawn p__law_drawn spDrawn := by
  refine dn_ok D sc__law_drawn (fun vs H Q E h => by obtain ⟨_, _, _, _, rfl, _⟩ := h; rfl) fun f cdv A outer s H vs Q E hr h => ?_
  obtain ⟨b, c, l, m, rfl, hb, hcl, hm1, hm2, q⟩ := h
  refine ⟨_, (pss_cons (ps_par (i := 4) (j := 5) (by rfl) sc__law_drawn.nd rfl rfl (by decide) rfl rfl (pa_cons (pe_lstS pa_nil) (pa_cons (pe_cD c__law_take b__law_take (hr.mono (by decide)) (by rfl) pass0 (pa_cons (pv 0) (pa_cons pe_int pa_nil))) pa_nil)) (by rfl))
      (pss_cons (ps_for PassesOwn.never rfl (pi_range1 (by rfl) T.range (pa_cons (pv 1) pa_nil)) (pg_name (i := 6) sc__law_drawn.nd rfl (by first | exact Or.inl rfl | exact Or.inr rfl)) (pss_cons (ps_set (i := 7) sc__law_drawn.nd rfl (by first | exact Or.inl rfl | exact Or.inr rfl) (pe_ix ix_sq (pe_lstS (pa_cons (pe_op op_sub (pv 6) pe_int) (pa_cons (pe_op op_sub (pe_cD c__law_take b__law_take (hr.mono (by decide)) (by rfl) pass0 (pa_cons (pv 0) (pa_cons (pe_op op_add (pv 6) pe_int) pa_nil))) pe_int) (pa_cons (pe_op op_sub (pe_cD c__law_take b__law_take (hr.mono (by decide)) (by rfl) pass0 (pa_cons (pv 0) (pa_cons (pe_op op_add (pe_callB (call_min2Q rfl) (by rfl) T.min (by decide +kernel) (pa_cons (pv 6) (pa_cons pe_int pa_nil))) pe_int) pa_nil))) pe_int) pa_nil)))) (pv 5) (fun _ _ => rfl)))
      (pss_one (ps_expr (pe_bm PySem.F.plainAttrs_list PySem.F.slot_list_append PySem.F.type_list_append mt_appS (pv 4) (pa_cons (pe_tupS (pa_cons (pe_ifExp (pt_cmpR op_lt (pv 7) pe_int (nomark _)) pe_non (pv 7)) (pa_cons (pe_op op_add pe_int (pe_cD c__law_take b__law_take (hr.mono (by decide)) (by rfl) pass0 (pa_cons (pv 0) (pa_cons (pv 3) pa_nil)))) (pa_cons pe_int pa_nil)))) pa_nil))))))
      (pss_cons (ps_for PassesOwn.never rfl (pi_range1 (by rfl) T.range (pa_cons (pv 2) pa_nil)) (pg_name (i := 6) sc__law_drawn.nd rfl (by first | exact Or.inl rfl | exact Or.inr rfl)) (pss_cons (ps_set (i := 7) sc__law_drawn.nd rfl (by first | exact Or.inl rfl | exact Or.inr rfl) (pe_op op_sub (pe_cD c__law_take b__law_take (hr.mono (by decide)) (by rfl) pass0 (pa_cons (pv 0) (pa_cons (pe_op op_add (pv 1) pe_int) pa_nil))) pe_int))
      (pss_one (ps_expr (pe_bm PySem.F.plainAttrs_list PySem.F.slot_list_append PySem.F.type_list_append mt_appS (pv 4) (pa_cons (pe_tupS (pa_cons (pe_ifExp (pt_cmpR op_lt (pv 7) pe_int (nomark _)) pe_non (pv 7)) (pa_cons (pe_op op_add pe_int (pe_cD c__law_take b__law_take (hr.mono (by decide)) (by rfl) pass0 (pa_cons (pv 0) (pa_cons (pv 3) pa_nil)))) (pa_cons (pe_op op_add pe_int (pe_cD c__law_take b__law_take (hr.mono (by decide)) (by rfl) pass0 (pa_cons (pv 0) (pa_cons (pv 3) pa_nil)))) pa_nil)))) pa_nil))))))
      (pss_one (ps_ret (pv 4)))))), ?_⟩
  walk_at "st"
  walk_at "go"
  intro p H1 n1
  walk_at "go"
  have hpb : p ≠ b := fun z => by
    subst z
    obtain ⟨_, _, _, _, e⟩ := hb
    rw [n1.2.1] at e
    cases e
  refine ⟨b, 3, rfl, hb.same n1.1, by decide, by decide, fun sh H2 hsh b2 bx2 => ?_⟩
  walk_at "go"
  have but2 : But b H H2 := fun a o ha e => b2 _ _ ha (n1.1 _ _ e)
  -- what a row is made of
  have row : ∀ (H3 : Hp) (rows : List Row), DrInv b p H H3 → RowsL H3 p rows → rows.length < 40 → ∀ (par : Option Nat) (x y : Int) (H4 H5 H6 : Hp) (t : Addr), But b H3 H4 → BoxAt H4 b → New H4 H5 t (.tup [optV par, .int x, .int y]) → ∀ out, H5 p = some (.lst out) → Chg H5 H6 p (.lst (out ++ [.ref t])) → DrInv b p H H6 ∧ RowsL H6 p (rows ++ [(par, x, y)]) := fun H3 rows dr ⟨out, ho, hrv⟩ hlen par x y H4 H5 H6 t b34 bx4 n5 out' ho' c6 => by
    have e5 : H5 p = some (.lst out) := n5.1 _ _ (b34 _ _ hpb ho)
    rw [e5] at ho'
    obtain rfl := HO.lst.inj (Option.some.inj ho')
    have t34 : TupS H3 H4 := dr.bx.tups b34
    have t56 := lst_tups e5 c6
    refine ⟨⟨fun a o ha e => ?_, ?_, hpb⟩, _, c6.2, ?_⟩
    · have hap : a ≠ p := fun z => by
        subst z
        have := n1.2.1
        rw [this] at e
        cases e
      exact c6.1 _ _ hap (n5.1 _ _ (b34 _ _ ha (dr.bt _ _ ha e)))
    · obtain ⟨w1, w2, w3, w4, e⟩ := bx4
      exact ⟨w1, w2, w3, w4, c6.1 _ _ (Ne.symm hpb) (n5.1 _ _ e)⟩
    · exact RowsV.snoc (hrv.tups ((t34.trans (TupS.of n5.1)).trans t56)) (t56 _ _ n5.2.2)
  refine range_for (by omega) (by omega) (Dr1 b p c l m sh H) ⟨⟨_, _, rfl⟩, ⟨but2, bx2, hpb⟩, [], ⟨[], b2 _ _ hpb n1.2.2, rfl, fun i r e => by simp at e⟩, ⟨by simp, by simp, fun i r e => by simp at e, fun i r e => by simp at e⟩, rfl⟩ (fun i σ' H' hi I => ?_) (fun σ' H' I => ?_)
  · obtain ⟨⟨x, y, rfl⟩, dr, rows, hrl, hrc, hri⟩ := I
    have hic : i < c := by omega
    walk_at "go"
    refine ⟨b, _, rfl, dr.bx, by omega, by omega, fun r1 H3 hr1 b3 bx3 => ?_⟩
    walk_at "go"
    refine ⟨_, _, rfl, ?_⟩
    walk_at "go"
    refine ⟨b, _, rfl, bx3, by split <;> omega, by split <;> omega, fun r2 H4 hr2 b4 bx4 => ?_⟩
    walk_at "go"
    intro L H5 n5
    walk_at "go"
    obtain ⟨v, hv, hv1, hv2⟩ : ∃ v : Int, ([V.int ((i : Int) - 1), .int ((r1 : Int) - 1), .int ((r2 : Int) - 1)] : List V)[sh]? = some (.int v) ∧ -1 ≤ v ∧ v < i := by
      have h3 : sh = 0 ∨ sh = 1 ∨ sh = 2 := by omega
      rcases h3 with h | h | h
      · subst h; exact ⟨_, rfl, by omega, by omega⟩
      · subst h; exact ⟨_, rfl, by omega, by omega⟩
      · subst h
        refine ⟨_, rfl, by omega, ?_⟩
        revert hr2
        split <;> intro hr2 <;> omega
    refine w_ixn (q_l n5.2.2) hv ?_
    walk_at "go"
    obtain ⟨out, ho, hrv⟩ := id hrl
    have b5 : But b H' H5 := fun a o ha e => n5.1 _ _ (b4 _ _ ha (b3 _ _ ha e))
    refine w_tyL (b5 _ _ hpb ho) ?_
    have bx5 : BoxAt H5 b := bx4.same n5.1
    walk_at "go"
    by_cases hneg : v < 0
    · rw [decide_eq_true hneg]
      refine iteT ?_
      walk_at "go"
      refine ⟨b, m, rfl, bx5, hm1, hm2, fun r3 H7 h3 b7 bx7 => ?_⟩
      walk_at "go"
      intro t H8 n8
      walk_at "go"
      have b7' : But b H' H7 := fun a o ha e => b7 _ _ ha (b5 _ _ ha e)
      refine w_app (n8.1 _ _ (b7' _ _ hpb ho)) (by have := hrv.1; omega) fun H9 c9 => ?_
      obtain ⟨d1, d2⟩ := row H' rows dr hrl (by omega) none (1 + (r3 : Int)) 0 H7 H8 H9 t b7' bx7 n8 _ (n8.1 _ _ (b7' _ _ hpb ho)) c9
      exact ⟨⟨_, _, rfl⟩, d1, _, d2, hrc.snocC (by omega) ⟨(fun q' hq' => by cases hq'), by dsimp only; omega⟩ (by dsimp only; omega) rfl, by simp [hri]⟩
    · obtain ⟨u, rfl⟩ := Int.eq_ofNat_of_zero_le (show 0 ≤ v by omega)
      rw [decide_eq_false hneg]
      refine iteF ?_
      walk_at "go"
      refine ⟨b, m, rfl, bx5, hm1, hm2, fun r3 H7 h3 b7 bx7 => ?_⟩
      walk_at "go"
      intro t H8 n8
      walk_at "go"
      have b7' : But b H' H7 := fun a o ha e => b7 _ _ ha (b5 _ _ ha e)
      refine w_app (n8.1 _ _ (b7' _ _ hpb ho)) (by have := hrv.1; omega) fun H9 c9 => ?_
      obtain ⟨d1, d2⟩ := row H' rows dr hrl (by omega) (some u) (1 + (r3 : Int)) 0 H7 H8 H9 t b7' bx7 n8 _ (n8.1 _ _ (b7' _ _ hpb ho)) c9
      exact ⟨⟨_, _, rfl⟩, d1, _, d2, hrc.snocC (by omega) ⟨fun q' hq' => by have := Option.some.inj hq'; omega, by dsimp only; omega⟩ (by dsimp only; omega) rfl, by simp [hri]⟩
  · obtain ⟨⟨x, y, rfl⟩, dr, rows, hrl, hrc, hri⟩ := I
    rw [Int.toNat_natCast] at hri
    walk_at "go"
    refine range_for (by omega) (by omega) (Dr2 b p c l m sh H) ⟨⟨_, _, rfl⟩, dr, rows, hrl, by rw [← hri]; exact hrc, by omega⟩ (fun i σ'' H' hi I => ?_) (fun σ'' H' I => ?_)
    · obtain ⟨⟨x, y, rfl⟩, dr, rows, hrl, hrc, hri⟩ := I
      walk_at "go"
      refine ⟨b, _, rfl, dr.bx, by omega, by omega, fun r1 H3 hr1 b3 bx3 => ?_⟩
      obtain ⟨out, ho, hrv⟩ := id hrl
      walk_at "go"
      refine w_tyL (b3 _ _ hpb ho) ?_
      walk_at "go"
      by_cases hneg : (r1 : Int) - 1 < 0
      · rw [decide_eq_true hneg]
        refine iteT ?_
        walk_at "go"
        refine ⟨b, m, rfl, bx3, hm1, hm2, fun r3 H4 h3 b4 bx4 => ?_⟩
        walk_at "go"
        refine ⟨b, m, rfl, bx4, hm1, hm2, fun r4 H7 h4 b7 bx7 => ?_⟩
        walk_at "go"
        intro t H8 n8
        walk_at "go"
        have b7' : But b H' H7 := fun a o ha e => b7 _ _ ha (b4 _ _ ha (b3 _ _ ha e))
        refine w_app (n8.1 _ _ (b7' _ _ hpb ho)) (by have := hrv.1; omega) fun H9 c9 => ?_
        obtain ⟨d1, d2⟩ := row H' rows dr hrl (by omega) none (1 + (r3 : Int)) (1 + (r4 : Int)) H7 H8 H9 t b7' bx7 n8 _ (n8.1 _ _ (b7' _ _ hpb ho)) c9
        exact ⟨⟨_, _, rfl⟩, d1, _, d2, hrc.snocL (by omega) ⟨(fun q' hq' => by cases hq'), by dsimp only; omega⟩ (by dsimp only; omega) (by dsimp only; omega) (by dsimp only; omega), by simp [hri]; omega⟩
      · obtain ⟨u, hu⟩ := Int.eq_ofNat_of_zero_le (show 0 ≤ (r1 : Int) - 1 by omega)
        rw [decide_eq_false hneg, hu]
        refine iteF ?_
        walk_at "go"
        refine ⟨b, m, rfl, bx3, hm1, hm2, fun r3 H4 h3 b4 bx4 => ?_⟩
        walk_at "go"
        refine ⟨b, m, rfl, bx4, hm1, hm2, fun r4 H7 h4 b7 bx7 => ?_⟩
        walk_at "go"
        intro t H8 n8
        walk_at "go"
        have b7' : But b H' H7 := fun a o ha e => b7 _ _ ha (b4 _ _ ha (b3 _ _ ha e))
        refine w_app (n8.1 _ _ (b7' _ _ hpb ho)) (by have := hrv.1; omega) fun H9 c9 => ?_
        obtain ⟨d1, d2⟩ := row H' rows dr hrl (by omega) (some u) (1 + (r3 : Int)) (1 + (r4 : Int)) H7 H8 H9 t b7' bx7 n8 _ (n8.1 _ _ (b7' _ _ hpb ho)) c9
        exact ⟨⟨_, _, rfl⟩, d1, _, d2, hrc.snocL (by omega) ⟨fun q' hq' => by have := Option.some.inj hq'; omega, by dsimp only; omega⟩ (by dsimp only; omega) (by dsimp only; omega) (by dsimp only; omega), by simp [hri]; omega⟩
    · obtain ⟨⟨x, y, rfl⟩, dr, rows, hrl, hrc, hri⟩ := I
      rw [Int.toNat_natCast] at hri
      walk_at "go"
      exact q p H' rows dr.bt dr.bx n1.2.1 hrl hrc hri
end

end Cw
end

/-! text C93_order -/
section
set_option Elab.async false
set_option linter.all false
set_option maxRecDepth 100000
set_option maxHeartbeats 4000000
namespace Cw
open PySem PySem.Spec PyProof.Rows L2
local macro_rules | `(tactic| walk_at "go1") => `(tactic| with_reducible first
  | refine w_seq ?_ | refine w_asgN ?_ | refine w_asgG ?_ | refine w_drop ?_ | refine w_ret ?_ | refine w_if ?_ | refine w_next ?_
  | refine w_var rfl ?_ | refine w_c ?_ | refine w_op ?_ | refine w_un ?_ | refine w_cb ?_ | refine w_cons ?_ | refine w_nil ?_ | refine w_call ?_
  | refine w_test ?_ | refine w_tB ?_ | refine w_bl ?_ | refine w_and ?_ | refine w_or ?_ | refine w_not ?_ | refine w_andV ?_ | refine w_orV ?_ | refine w_notV ?_ | refine w_ifE ?_ | refine w_blv ?_
  | refine w_I0 ?_ | refine w_eqI ?_ | refine w_neI ?_ | refine w_isN ?_ | refine w_notN ?_ | refine w_chain ?_ | refine w_for ?_ | refine w_iSeq ?_ | refine w_iR1 ?_ | refine w_iR2 ?_ | refine w_lc ?_
  | refine w_tupS ?_ | refine w_lstS ?_ | refine w_gN ?_ | refine w_gCons ?_ | refine w_gNil ?_ | refine w_aug rfl ?_ | refine w_ip ?_ | refine w_par ?_ | refine w_par2 ?_ | refine w_par3 ?_ | refine w_par33 ?_ | refine w_small (by first | decide | (simp only [List.length_cons, List.length_nil]; decide)) ?_ | refine w_bmL ?_ | refine w_gSub ?_ | refine w_lc2 ?_ | refine w_iEnum ?_ | refine w_yes ?_ | refine w_chN ?_ | refine w_chC ?_ | refine w_chL ?_ | refine w_tSl ?_ | refine w_pN ?_ | refine w_pS ?_ | refine w_pI ?_ | refine w_star ?_)
local macro_rules | `(tactic| walk_at "hp") => `(tactic| (first | assumption | exact g_at (by assumption) | exact g_cat (by assumption) | (refine g_same (by assumption) ?_ ; walk_at "hp") | (refine g_new (by assumption) ?_ ; walk_at "hp") | (refine q_same (by assumption) ?_ ; walk_at "hp") | (refine q_new (by assumption) ?_ ; walk_at "hp")))
local macro_rules | `(tactic| walk_at "go") => `(tactic| repeat' walk_at "go1")
local macro_rules | `(tactic| walk_at "st") => `(tactic| simp only [cxK, L2.start, List.map_cons, List.map_nil, List.length_cons, List.length_nil, Nat.reduceAdd, Nat.reduceSub, List.replicate, List.cons_append, List.nil_append])

--import drawn
theorem nodup_le : ∀ {l m : List Nat}, l.Nodup → (∀ x ∈ l, x ∈ m) → l.length ≤ m.length := by
  intro l
  induction l with
  | nil => intro m _ _; simp
  | cons x l ih =>
    intro m nd h
    have hx : x ∈ m := h x List.mem_cons_self
    have h2 : ∀ y ∈ l, y ∈ m.erase x := fun y hy => by
      have hne : y ≠ x := fun z => by subst z; exact (List.nodup_cons.mp nd).1 hy
      exact (List.mem_erase_of_ne hne).mpr (h y (List.mem_cons_of_mem _ hy))
    have := ih (List.nodup_cons.mp nd).2 h2
    rw [List.length_erase_of_mem hx] at this
    have : 0 < m.length := List.length_pos_of_mem hx
    simp only [List.length_cons]
    omega
theorem nodup_perm : ∀ {l m : List Nat}, l.Nodup → (∀ x ∈ l, x ∈ m) → m.length ≤ l.length → l.Perm m := by
  intro l
  induction l with
  | nil =>
    intro m _ _ h
    have : m = [] := List.length_eq_zero_iff.mp (by simpa using h)
    subst this
    exact .nil
  | cons x l ih =>
    intro m nd h hl
    have hx : x ∈ m := h x List.mem_cons_self
    have h2 : ∀ y ∈ l, y ∈ m.erase x := fun y hy => by
      have hne : y ≠ x := fun z => by subst z; exact (List.nodup_cons.mp nd).1 hy
      exact (List.mem_erase_of_ne hne).mpr (h y (List.mem_cons_of_mem _ hy))
    have hp := ih (List.nodup_cons.mp nd).2 h2 (by rw [List.length_erase_of_mem hx]; simp only [List.length_cons] at hl; omega)
    exact (hp.cons x).trans (List.perm_cons_erase hx).symm
theorem least_out {n : Nat} {js : List Nat} (h : js.length < n) : ∃ j, j < n ∧ j ∉ js ∧ ∀ i, i < j → i ∈ js := by
  have ex : ∃ j, j < n ∧ j ∉ js := by
    apply Classical.byContradiction
    intro hno
    have : ∀ x ∈ List.range n, x ∈ js := fun x hx => Classical.byContradiction fun hx2 => hno ⟨x, List.mem_range.mp hx, hx2⟩
    have := nodup_le List.nodup_range this
    rw [List.length_range] at this
    omega
  obtain ⟨j, hj⟩ := ex
  induction j using Nat.strongRecOn with
  | ind j ih =>
    by_cases hall : ∀ i, i < j → i ∈ js
    · exact ⟨j, hj.1, hj.2, hall⟩
    · obtain ⟨i, hi⟩ := Classical.not_forall.mp hall
      obtain ⟨h1, h2⟩ := Classical.not_imp.mp hi
      exact ih i h1 ⟨by omega, h2⟩
def rdy (rows : List Row) (js : List Nat) (j : Nat) : Bool := !decide (j ∈ js) && (match parR rows j with | none => true | some a => decide (a ∈ js))
def spOrder : Sp := fun vs H Q _ => ∃ b r rows, vs = [V.ref b, .ref r] ∧ BoxAt H b ∧ RowsL H r rows ∧ WfR rows ∧ ∀ p H' js, But b H H' → BoxAt H' b → H p = none → H' p = some (.lst (iv js)) → VO rows js → Q (.ref p) H'
structure OrInv (b r p : Addr) (rows : List Row) (H0 : Hp) (t : Nat) (σ : L2.St) (H : Hp) : Prop where
  sl : ∃ x y z, σ = [some (.ref b), some (.ref r), some (.ref p), x, y, z]
  bt : But b H0 H
  bx : BoxAt H b
  js : ∃ js, H p = some (.lst (iv js)) ∧ js.length = t ∧ js.Nodup ∧ (∀ j ∈ js, j < rows.length) ∧ M93.valid (parR rows) [] js
theorem RowsL.ne {H : Hp} {b r : Addr} {rows : List Row} (hb : BoxAt H b) (h : RowsL H r rows) : b ≠ r := fun z => by
  subst z
  obtain ⟨a, f, c, d, e⟩ := hb
  obtain ⟨out, e2, e3, e4⟩ := h
  rw [e] at e2
  have e5 := HO.lst.inj (Option.some.inj e2)
  subst e5
  cases rows with
  | nil => cases e3
  | cons x l =>
    obtain ⟨p, h1, _⟩ := e4 0 x rfl
    cases h1
theorem RowsL.but {H H' : Hp} {b r : Addr} {rows : List Row} (hb : BoxAt H b) (s : But b H H') (h : RowsL H r rows) : RowsL H' r rows := by
  have ne := RowsL.ne hb h
  obtain ⟨out, e1, e2⟩ := h
  exact ⟨out, s _ _ (Ne.symm ne) e1, e2.tups (hb.tups s)⟩
theorem RowsL.same {H H' : Hp} {r : Addr} {rows : List Row} (s : Same H H') : RowsL H r rows → RowsL H' r rows := fun ⟨out, e1, e2⟩ => ⟨out, s _ _ e1, e2.same s⟩
section
variable {P : Program} {w : World} {K : PySem.W.Frag} {mg : Str → Option Value} {base : Heap} {CS CC CI CB : Addr}
theorem ok_law_order (D : Df K mg "_law_order" s__law_order) (T : Txt K mg CS CC) (c__law_take : Dn P w K mg base CX0 1 "_law_take" s__law_take p__law_take spTake) : Dn P w K mg base CX0 2 "_law_order" s__law_order p__law_order spOrder := by
  refine dn_ok D sc__law_order (fun vs H Q E h => by obtain ⟨_, _, _, rfl, _⟩ := h; rfl) fun f cdv A outer s H vs Q E hr h => ?_
  obtain ⟨b, r, rows, rfl, hb, hrl, wf, q⟩ := h
  have wl := wf.len
  refine ⟨_, (pss_cons (ps_set (i := 2) sc__law_order.nd rfl (by first | exact Or.inl rfl | exact Or.inr rfl) (pe_lstS pa_nil))
      (pss_cons (ps_for PassesOwn.never rfl (pi_range1 (by rfl) T.range (pa_cons (pe_callB call_lenQ (by rfl) T.len (by decide +kernel) (pa_cons (pv 1) pa_nil)) pa_nil)) (pg_name (i := 3) sc__law_order.nd rfl (by first | exact Or.inl rfl | exact Or.inr rfl)) (pss_cons (ps_setLc (i := 4) (own := [("j", 5)]) rfl sc__law_order.nd rfl rfl (sw_true rfl rfl rfl (by decide +kernel)) (pi_range1 (by rfl) T.range (pa_cons (pe_callB call_lenQ (by rfl) T.len (by decide +kernel) (pa_cons (pv 1) pa_nil)) pa_nil)) (blkOk_by (own := [("j", 5)]) (N := N__law_order) (sc := defScope s__law_order) (by decide +kernel)) (fun _ _ _ _ _ => (pg_name (i := 5) sc__law_order.nd rfl (by first | exact Or.inl rfl | exact Or.inr rfl))) (fun _ _ _ _ _ => (pts_one (PW.pt (pw_and (pt_cmpR (op_notIn_seqK (K := K)) (pv 5) (pv 2) (by rfl)) (pw_and1 (PW.pt (pw_or (pt_cmpR op_isNo (pe_ix (ix_sqK (K := K)) (pe_ix (ix_sqK (K := K)) (pv 1) (pv 5) (fun _ _ => rfl)) pe_int (fun _ _ => rfl)) pe_non (nomark _)) (pw_or1 (pt_cmpR (op_in_seqK (K := K)) (pe_ix (ix_sqK (K := K)) (pe_ix (ix_sqK (K := K)) (pv 1) (pv 5) (fun _ _ => rfl)) pe_int (fun _ _ => rfl)) (pv 2) (by rfl)))))))))) (fun _ _ _ _ _ => (pv 5)))
      (pss_one (ps_expr (pe_bm PySem.F.plainAttrs_list PySem.F.slot_list_append PySem.F.type_list_append mt_appS (pv 2) (pa_cons (pe_ix ix_sq (pv 4) (pe_cD c__law_take b__law_take (hr.mono (by decide)) (by rfl) pass0 (pa_cons (pv 0) (pa_cons (pe_callB call_lenQ (by rfl) T.len (by decide +kernel) (pa_cons (pv 4) pa_nil)) pa_nil))) (fun _ _ => rfl)) pa_nil))))))
      (pss_one (ps_ret (pv 2))))), ?_⟩
  walk_at "st"
  walk_at "go"
  intro p H1 n1
  walk_at "go"
  have hpb : p ≠ b := fun z => by
    subst z
    obtain ⟨_, _, _, _, e⟩ := hb
    rw [n1.2.1] at e
    cases e
  obtain ⟨out0, ho0, hrv0⟩ := hrl.same n1.1
  refine w_len (q_l ho0) ?_
  rw [hrv0.1]
  walk_at "go"
  refine range_for (by omega) (by omega) (OrInv b r p rows H) ⟨⟨_, _, _, rfl⟩, Same.but n1.1, hb.same n1.1, [], n1.2.2, rfl, List.nodup_nil, by simp, trivial⟩ (fun t σ' H' ht I => ?_) (fun σ' H' I => ?_)
  · obtain ⟨⟨x, y, z, rfl⟩, bt, bx, js, hjs, hlen, nd, hlt, hval⟩ := I
    have hrl' := hrl.but hb bt
    obtain ⟨out, ho, hrv⟩ := id hrl'
    walk_at "go"
    refine w_len (q_l ho) ?_
    rw [hrv.1]
    refine range_map (m := rows.length) rfl (by omega) (rdy rows js) (fun j => V.int (j : Int)) (fun j H3 Pe Pn hj st k1 k2 => ?_) (fun D H3 n3 => ?_)
    · obtain ⟨ra, r1, r2⟩ := row_at (hrv.same st) hj
      have hjs3 : Sq K H3 p (iv js) := q_l (st _ _ hjs)
      walk_at "go"
      refine ⟨rfl, ?_⟩
      walk_at "go"
      refine w_in hjs3 ?_
      walk_at "go"
      have kk : rdy rows js j = (!decide (j ∈ js) && (match parR rows j with | none => true | some a => decide (a ∈ js))) := rfl
      have no : rdy rows js j = false → Pn H3 := fun e => k2 e H3 fun _ _ e => e
      have yes : rdy rows js j = true → Pe (.int (j : Int)) H3 := fun e => k1 e H3 fun _ _ e => e
      by_cases hm : j ∈ js
      · rw [decide_eq_true hm] at kk ⊢
        refine iteF ?_
        refine iteF ?_
        exact no (by rw [kk]; rfl)
      · rw [decide_eq_false hm] at kk ⊢
        refine iteT ?_
        walk_at "go"
        refine w_ixn (q_l (st _ _ ho)) r1 ?_
        walk_at "go"
        refine w_ix (q_t r2) rfl ?_
        walk_at "go"
        cases ep : parR rows j with
        | none =>
          rw [ep] at kk
          refine iteT ?_
          refine iteT ?_
          walk_at "go"
          exact yes (by rw [kk]; rfl)
        | some a =>
          rw [ep] at kk
          have kk : rdy rows js j = (!false && decide (a ∈ js)) := kk
          refine iteF ?_
          walk_at "go"
          refine w_ixn (q_l (st _ _ ho)) r1 ?_
          walk_at "go"
          refine w_ix (q_t r2) rfl ?_
          rw [ep]
          walk_at "go"
          show rIn K false (.int (a : Int)) _ _ _
          refine w_in hjs3 ?_
          walk_at "go"
          by_cases ha : a ∈ js
          · rw [decide_eq_true ha] at kk ⊢
            refine iteT ?_
            walk_at "go"
            exact yes (by rw [kk]; rfl)
          · rw [decide_eq_false ha] at kk ⊢
            refine iteF ?_
            exact no (by rw [kk]; rfl)
    · walk_at "go"
      refine w_tyL (g_new n3 hjs) ?_
      walk_at "go"
      have hne : (List.range rows.length).filter (rdy rows js) ≠ [] := by
        obtain ⟨j, h1, h2, h3⟩ := least_out (n := rows.length) (js := js) (by omega)
        apply List.ne_nil_of_mem (a := j)
        rw [List.mem_filter]
        refine ⟨List.mem_range.mpr h1, ?_⟩
        unfold rdy
        rw [decide_eq_false h2]
        cases ep : parR rows j with
        | none => rfl
        | some a => simp only [Bool.not_false, Bool.true_and, decide_eq_true_eq]; exact h3 a (wf.par j a ep)
      have hlp := List.length_pos_iff.mpr hne
      have hle : ((List.range rows.length).filter (rdy rows js)).length ≤ rows.length := Nat.le_trans (List.length_filter_le _ _) (by rw [List.length_range]; exact Nat.le_refl _)
      refine w_len (q_l n3.2.2) ?_
      rw [List.length_map]
      refine ⟨b, _, rfl, bx.same n3.1, by omega, by omega, fun k H4 hk b4 bx4 => ?_⟩
      have hDb : D ≠ b := fun z => by
        subst z
        obtain ⟨_, _, _, _, e⟩ := bx
        rw [n3.2.1] at e
        cases e
      have hkl : k < ((List.range rows.length).filter (rdy rows js)).length := by omega
      obtain ⟨j, hj⟩ : ∃ j, ((List.range rows.length).filter (rdy rows js))[k]? = some j := ⟨_, List.getElem?_eq_getElem hkl⟩
      have hjm := List.mem_filter.mp (List.mem_of_getElem? hj)
      refine w_ixn (q_l (b4 _ _ hDb n3.2.2)) (by rw [List.getElem?_map, hj]; rfl) ?_
      walk_at "go"
      have hp4 : H4 p = some (.lst (iv js)) := b4 _ _ hpb (n3.1 _ _ hjs)
      refine w_app hp4 (by rw [iv_length]; omega) fun H5 c5 => ?_
      have hr1 := hjm.2
      unfold rdy at hr1
      obtain ⟨g1, g2⟩ := Bool.and_eq_true_iff.mp hr1
      have g1' : j ∉ js := by simpa using g1
      refine ⟨⟨_, _, _, rfl⟩, fun a o ha e => ?_, ?_, js ++ [j], by rw [c5.2, iv_append]; rfl, by simp [hlen], ?_, fun x hx => ?_, ?_⟩
      · have hap : a ≠ p := fun z => by
          subst z
          rw [n1.2.1] at e
          cases e
        exact c5.1 _ _ hap (b4 _ _ ha (n3.1 _ _ (bt _ _ ha e)))
      · obtain ⟨w1, w2, w3, w4, e⟩ := bx4
        exact ⟨w1, w2, w3, w4, c5.1 _ _ (Ne.symm hpb) e⟩
      · rw [List.nodup_append]
        refine ⟨nd, by simp, fun a ha b' hb' => ?_⟩
        have : b' = j := by simpa using hb'
        subst this
        exact fun z => g1' (z ▸ ha)
      · rcases List.mem_append.mp hx with h | h
        · exact hlt x h
        · have : x = j := by simpa using h
          subst this
          exact List.mem_range.mp hjm.1
      · rw [M93.valid_append]
        refine ⟨hval, ?_⟩
        refine ⟨fun a ha => ?_, trivial⟩
        rw [ha] at g2
        simpa using g2
  · obtain ⟨⟨x, y, z, rfl⟩, bt, bx, js, hjs, hlen, nd, hlt, hval⟩ := I
    rw [Int.toNat_natCast] at hlen
    walk_at "go"
    exact q p H' js bt bx n1.2.1 hjs ⟨nodup_perm nd (fun x hx => List.mem_range.mpr (hlt x hx)) (by rw [List.length_range]; omega), hval⟩
theorem ok_law_cost (D : Df K mg "_law_cost" s__law_cost) : Dn P w K mg base CX0 1 "_law_cost" s__law_cost p__law_cost (spCostBy K) := by
  refine dn_ok D sc__law_cost (fun vs H Q E h => by obtain ⟨_, _, _, _, _, rfl, _⟩ := h; rfl) fun f cdv A outer s H vs Q E hr h => ?_
  obtain ⟨a, b, rvs, rows, js, rfl, ha, hrows, hb, hj, wf, k⟩ := h
  refine ⟨_, (pss_cons (ps_asg (pe_tupS (pa_cons pe_int (pa_cons pe_int pa_nil))) (pg_tup (n := 2) rfl (pgs_cons (pg_name (i := 2) sc__law_cost.nd rfl (by first | exact Or.inl rfl | exact Or.inr rfl)) (pgs_cons (pg_name (i := 3) sc__law_cost.nd rfl (by first | exact Or.inl rfl | exact Or.inr rfl)) pgs_nil))))
      (pss_cons (ps_for PassesOwn.never rfl (pi_seq (pv 1)) (pg_name (i := 4) sc__law_cost.nd rfl (by first | exact Or.inl rfl | exact Or.inr rfl)) (pss_cons (ps_set (i := 3) sc__law_cost.nd rfl (by first | exact Or.inl rfl | exact Or.inr rfl) (pe_op op_add (pv 3) (pe_ix ix_sq (pe_ix ix_sq (pv 0) (pv 4) (fun _ _ => rfl)) pe_int (fun _ _ => rfl))))
      (pss_one (ps_set (i := 2) sc__law_cost.nd rfl (by first | exact Or.inl rfl | exact Or.inr rfl) (pe_op op_add (pv 2) (pe_op op_mul (pe_ix ix_sq (pe_ix ix_sq (pv 0) (pv 4) (fun _ _ => rfl)) pe_int (fun _ _ => rfl)) (pv 3)))))))
      (pss_one (ps_ret (pv 2))))), ?_⟩
  walk_at "st"
  walk_at "go"
  intro p H1 n1
  refine w_gTup (by walk_at "hp") rfl ?_
  walk_at "go"
  refine seq_for (q_new n1 hb) (CostInv rows js a b H1) ⟨⟨_, rfl⟩, fun _ _ e => e⟩ (fun i σ' H' I o e => I.st _ _ e) (fun i x σ' H' hx I => ?_) (fun σ' H' I => ?_)
  · obtain ⟨⟨z, rfl⟩, st⟩ := I
    obtain ⟨j, hj1, rfl, _⟩ := iv_at hx
    have hjl := hj j (List.mem_of_getElem? hj1)
    obtain ⟨q, hq1, hq2⟩ := row_at ((hrows.same n1.1).same st) hjl
    walk_at "go"
    refine w_ixn (by walk_at "hp") hq1 ?_
    walk_at "go"
    refine w_ix (q_t hq2) rfl ?_
    walk_at "go"
    refine w_ixn (by walk_at "hp") hq1 ?_
    walk_at "go"
    refine w_ix (q_t hq2) rfl ?_
    walk_at "go"
    have b1 := wf.w0 j
    refine w_I (Or.inl (by omega)) ?_
    walk_at "go"
    refine ⟨⟨some (.int (j : Int)), ?_⟩, st⟩
    rw [take_at hj1, M93.cost_append, M93.sm_append]
    simp [M93.cost, M93.sm]
  · obtain ⟨⟨z, rfl⟩, st⟩ := I
    walk_at "go"
    have e := k H' (fun a o h => st a o (n1.1 a o h))
    rw [iv_length, List.take_length]
    exact e
end

end Cw
end

/-! text C93_small -/
section
set_option Elab.async false
set_option linter.all false
set_option maxRecDepth 100000
set_option maxHeartbeats 4000000
namespace Cw
open PySem PySem.Spec PyProof.Rows L2
local macro_rules | `(tactic| walk_at "go1") => `(tactic| with_reducible first
  | refine w_seq ?_ | refine w_asgN ?_ | refine w_asgG ?_ | refine w_drop ?_ | refine w_ret ?_ | refine w_if ?_ | refine w_next ?_
  | refine w_var rfl ?_ | refine w_c ?_ | refine w_op ?_ | refine w_un ?_ | refine w_cb ?_ | refine w_cons ?_ | refine w_nil ?_ | refine w_call ?_
  | refine w_test ?_ | refine w_tB ?_ | refine w_bl ?_ | refine w_and ?_ | refine w_or ?_ | refine w_not ?_ | refine w_andV ?_ | refine w_orV ?_ | refine w_notV ?_ | refine w_ifE ?_ | refine w_blv ?_
  | refine w_I0 ?_ | refine w_eqI ?_ | refine w_neI ?_ | refine w_isN ?_ | refine w_notN ?_ | refine w_chain ?_ | refine w_for ?_ | refine w_iSeq ?_ | refine w_iR1 ?_ | refine w_iR2 ?_ | refine w_lc ?_
  | refine w_tupS ?_ | refine w_lstS ?_ | refine w_gN ?_ | refine w_gCons ?_ | refine w_gNil ?_ | refine w_aug rfl ?_ | refine w_ip ?_ | refine w_par ?_ | refine w_par2 ?_ | refine w_par3 ?_ | refine w_par33 ?_ | refine w_small (by first | decide | (simp only [List.length_cons, List.length_nil]; decide)) ?_ | refine w_bmL ?_ | refine w_gSub ?_ | refine w_lc2 ?_ | refine w_iEnum ?_ | refine w_yes ?_ | refine w_chN ?_ | refine w_chC ?_ | refine w_chL ?_ | refine w_tSl ?_ | refine w_pN ?_ | refine w_pS ?_ | refine w_pI ?_ | refine w_star ?_ | refine w_lrg ?_)
local macro_rules | `(tactic| walk_at "hp") => `(tactic| (first | assumption | exact g_at (by assumption) | exact g_cat (by assumption) | (refine g_same (by assumption) ?_ ; walk_at "hp") | (refine g_new (by assumption) ?_ ; walk_at "hp") | (refine q_same (by assumption) ?_ ; walk_at "hp") | (refine q_new (by assumption) ?_ ; walk_at "hp")))
local macro_rules | `(tactic| walk_at "go") => `(tactic| repeat' walk_at "go1")
local macro_rules | `(tactic| walk_at "st") => `(tactic| simp only [cxK, L2.start, List.map_cons, List.map_nil, List.length_cons, List.length_nil, Nat.reduceAdd, Nat.reduceSub, List.replicate, List.cons_append, List.nil_append])

--import order
/-- a chain of covers -/
def ChainOk (cs : List Row) : Prop := ∀ (k : Nat) (r : Row), cs[k]? = some r → r.1 = (if k = 0 then none else some (k - 1)) ∧ 1 ≤ r.2.1 ∧ r.2.1 ≤ 3 ∧ r.2.2 = 0
theorem ChainOk.snoc {cs : List Row} {m : Int} (h : ChainOk cs) (h1 : 1 ≤ m) (h2 : m ≤ 3) : ChainOk (cs ++ [((if cs.length = 0 then none else some (cs.length - 1)), m, 0)]) := by
  intro k r e
  by_cases hlt : k < cs.length
  · rw [List.getElem?_append_left hlt] at e
    exact h k r e
  · have hk : k = cs.length := by
      have := (List.getElem?_eq_some_iff.mp e).1
      simp at this
      omega
    subst hk
    rw [List.getElem?_append_right (Nat.le_refl _), Nat.sub_self] at e
    have e2 := Option.some.inj e
    subst e2
    exact ⟨rfl, h1, h2, rfl⟩
theorem ChainOk.rc {cs : List Row} (h : ChainOk cs) (hl : cs.length ≤ 40) : RowsC cs cs.length := by
  refine ⟨Nat.le_refl _, hl, fun i r e hi => ?_, fun i r e hi => ?_⟩
  · obtain ⟨h1, h2, h3, h4⟩ := h i r e
    refine ⟨⟨fun q hq => ?_, h2⟩, by omega, h4⟩
    rw [h1] at hq
    split at hq
    · cases hq
    · have := Option.some.inj hq
      omega
  · have := (List.getElem?_eq_some_iff.mp e).1
    omega
theorem valid_range {par : Nat → Option Nat} {D : List Nat} : ∀ {m : Nat}, (∀ j a, j < m → par j = some a → a < j) → M93.valid par D (List.range m) := by
  intro m
  induction m with
  | zero => intro _; trivial
  | succ m ih =>
    intro h
    rw [List.range_succ, M93.valid_append]
    refine ⟨ih fun j a hj => h j a (by omega), fun a ha => ?_, trivial⟩
    exact List.mem_append_right _ (List.mem_range.mpr (h m a (by omega) ha))
theorem vo_range {rows : List Row} (wf : WfR rows) : VO rows (List.range rows.length) := ⟨.refl _, valid_range fun j a _ e => wf.par j a e⟩
theorem vo_k2 {rows : List Row} (wf : WfR rows) {d : Nat} (hl : rows.length = d + 3) (hp : parR rows (d + 1) = none) : VO rows ([d + 1] ++ List.range (d + 1) ++ [d + 2]) := by
  refine ⟨nodup_perm ?_ (fun x hx => ?_) (by simp; omega), ?_⟩
  · rw [List.append_assoc, List.nodup_append]
    refine ⟨by simp, ?_, fun a ha b hb => ?_⟩
    · rw [List.nodup_append]
      refine ⟨List.nodup_range, by simp, fun a ha b hb => ?_⟩
      have h1 := List.mem_range.mp ha
      have h2 : b = d + 2 := by simpa using hb
      omega
    · have h1 : a = d + 1 := by simpa using ha
      rcases List.mem_append.mp hb with h | h
      · have := List.mem_range.mp h
        omega
      · have h2 : b = d + 2 := by simpa using h
        omega
  · rw [List.mem_range]
    simp at hx
    omega
  · rw [List.append_assoc, M93.valid_append]
    refine ⟨⟨(fun a ha => by rw [hp] at ha; cases ha), trivial⟩, ?_⟩
    rw [M93.valid_append]
    refine ⟨valid_range fun j a _ e => wf.par j a e, fun a ha => ?_, trivial⟩
    have := wf.par _ _ ha
    simp
    omega
theorem Obs.drop1 {α : Type} {H : Hp} {out : List V} {l : List α} {o : α → HO} (h : Obs H out l o) : Obs H (out.drop 1) (l.drop 1) o :=
  ⟨by simp [h.1], fun k x e => by
    rw [List.getElem?_drop] at e ⊢
    exact h.2 _ x e⟩
theorem RowsV.one {H : Hp} {a : Addr} {r : Row} (h : H a = some (.tup (rowV r))) : RowsV H [.ref a] [r] := RowsV.snoc (vs := []) (rows := []) ⟨rfl, fun i r e => by simp at e⟩ h
def spSmall : Sp := fun vs H Q _ => ∃ b, vs = [V.ref b] ∧ BoxAt H b ∧ ∀ p H' r o rows c js, But b H H' → BoxAt H' b → H' p = some (.lst [.ref r, .ref o]) → RowsL H' r rows → RowsC rows c → H' o = some (.lst (iv js)) → VO rows js → rows.length ≤ 8 → Q (.ref p) H'
structure ChInv (b D : Addr) (H0 : Hp) (i : Nat) (H : Hp) : Prop where
  bt : But b H0 H
  bx : BoxAt H b
  nD : H0 D = none
  cs : ∃ out cs, H D = some (.lst out) ∧ RowsV H out cs ∧ cs.length = i ∧ ChainOk cs
section
variable {P : Program} {w : World} {K : PySem.W.Frag} {mg : Str → Option Value} {base : Heap} {CS CC CI CB : Addr}
theorem ok_law_small (D : Df K mg "_law_small" s__law_small) (T : Txt K mg CS CC) (c__law_take : Dn P w K mg base CX0 1 "_law_take" s__law_take p__law_take spTake) (c__law_drawn : Dn P w K mg base CX0 2 "_law_drawn" s__law_drawn p__law_drawn spDrawn)
    (c__law_order : Dn P w K mg base CX0 2 "_law_order" s__law_order p__law_order spOrder) : Dn P w K mg base CX0 3 "_law_small" s__law_small p__law_small spSmall := by
  refine dn_ok D sc__law_small (fun vs H Q E h => by obtain ⟨_, rfl, _⟩ := h; rfl) fun f cdv A outer s H vs Q E hr h => ?_
  obtain ⟨b, rfl, hb, q⟩ := h
  refine ⟨_, (pss_cons (ps_par3 (i := 1) (j := 2) (l := 3) (by rfl) sc__law_small.nd rfl rfl rfl (by decide) (by decide) (by decide) rfl rfl rfl (pa_cons (pe_cD c__law_take b__law_take (hr.mono (by decide)) (by rfl) pass0 (pa_cons (pv 0) (pa_cons pe_int pa_nil))) (pa_cons (pe_op op_add pe_int (pe_cD c__law_take b__law_take (hr.mono (by decide)) (by rfl) pass0 (pa_cons (pv 0) (pa_cons pe_int pa_nil)))) (pa_cons (pe_op op_add pe_int (pe_cD c__law_take b__law_take (hr.mono (by decide)) (by rfl) pass0 (pa_cons (pv 0) (pa_cons pe_int pa_nil)))) pa_nil))) (by rfl))
      (pss_cons (ps_if (pt_cmpR op_lt (pv 1) pe_int (nomark _)) (pss_cons (ps_set (i := 4) sc__law_small.nd rfl (by first | exact Or.inl rfl | exact Or.inr rfl) (pe_cD c__law_take b__law_take (hr.mono (by decide)) (by rfl) pass0 (pa_cons (pv 0) (pa_cons pe_int pa_nil))))
      (pss_cons (ps_set (i := 5) sc__law_small.nd rfl (by first | exact Or.inl rfl | exact Or.inr rfl) (pe_cD c__law_drawn b__law_drawn (hr.mono (by decide)) (by rfl) pass0 (pa_cons (pv 0) (pa_cons (pv 4) (pa_cons (pe_cD c__law_take b__law_take (hr.mono (by decide)) (by rfl) pass0 (pa_cons (pv 0) (pa_cons (pe_op op_sub pe_int (pv 4)) pa_nil))) (pa_cons pe_int pa_nil))))))
      (pss_one (ps_ret (pe_lstS (pa_cons (pv 5) (pa_cons (pe_cD c__law_order b__law_order (hr.mono (by decide)) (by rfl) pass0 (pa_cons (pv 0) (pa_cons (pv 5) pa_nil))) pa_nil))))))) pss_nil)
      (pss_cons (ps_setLc (i := 6) (own := [("k", 7)]) rfl sc__law_small.nd rfl rfl (sw_true rfl rfl rfl (by decide +kernel)) (pi_range1 (by rfl) T.range (pa_cons (pv 2) pa_nil)) (blkOk_by (own := [("k", 7)]) (N := N__law_small) (sc := defScope s__law_small) (by decide +kernel)) (fun _ _ _ _ _ => (pg_name (i := 7) sc__law_small.nd rfl (by first | exact Or.inl rfl | exact Or.inr rfl))) (fun _ _ _ _ _ => pts_nil) (fun _ _ _ _ _ => (pe_tupS (pa_cons (pe_ifExp (pt_cmpR op_eq (pv 7) pe_int (nomark _)) pe_non (pe_op op_sub (pv 7) pe_int)) (pa_cons (pe_op op_add pe_int (pe_cD c__law_take b__law_take (hr.mono (by decide)) (by rfl) pass0 (pa_cons (pv 0) (pa_cons pe_int pa_nil)))) (pa_cons pe_int pa_nil))))))
      (pss_cons (ps_if (pt_cmpR op_eq (pv 1) pe_int (nomark _)) (pss_cons (ps_set (i := 5) sc__law_small.nd rfl (by first | exact Or.inl rfl | exact Or.inr rfl) (pe_op op_catS (pv 6) (pe_lstS (pa_cons (pe_tupS (pa_cons (pe_op op_sub (pv 2) pe_int) (pa_cons (pv 3) (pa_cons (pe_op op_add pe_int (pe_cD c__law_take b__law_take (hr.mono (by decide)) (by rfl) pass0 (pa_cons (pv 0) (pa_cons pe_int pa_nil)))) pa_nil)))) (pa_cons (pe_tupS (pa_cons pe_non (pa_cons (pe_op op_add pe_int (pe_cD c__law_take b__law_take (hr.mono (by decide)) (by rfl) pass0 (pa_cons (pv 0) (pa_cons pe_int pa_nil)))) (pa_cons pe_int pa_nil)))) (pa_cons (pe_tupS (pa_cons pe_non (pa_cons pe_int (pa_cons pe_int pa_nil)))) pa_nil))))))
      (pss_one (ps_ret (pe_lstS (pa_cons (pv 5) (pa_cons (pe_op op_catS (pe_op op_catS (pe_lstS (pa_cons (pe_op op_add (pv 2) pe_int) pa_nil)) (pe_listRg rfl (by rfl) T.list (prg_1 (by rfl) T.range (pe_op op_add (pv 2) pe_int)))) (pe_lstS (pa_cons (pe_op op_add (pv 2) pe_int) pa_nil))) pa_nil)))))) pss_nil)
      (pss_cons (ps_if (pt_cmpR op_eq (pv 1) pe_int (nomark _)) (pss_cons (ps_set (i := 5) sc__law_small.nd rfl (by first | exact Or.inl rfl | exact Or.inr rfl) (pe_op op_catS (pe_op op_catS (pe_lstS (pa_cons (pe_tupS (pa_cons pe_non (pa_cons (pe_op op_add pe_int (pv 3)) (pa_cons pe_int pa_nil)))) pa_nil)) (pe_slice sl_s (pv 6) (po_some pe_int) po_none)) (pe_lstS (pa_cons (pe_tupS (pa_cons (pe_op op_sub (pv 2) pe_int) (pa_cons pe_int (pa_cons (pe_op op_add pe_int (pv 3)) pa_nil)))) (pa_cons (pe_tupS (pa_cons pe_non (pa_cons (pe_op op_add pe_int (pv 3)) (pa_cons pe_int pa_nil)))) (pa_cons (pe_tupS (pa_cons pe_int (pa_cons pe_int (pa_cons pe_int pa_nil)))) pa_nil))))))
      (pss_one (ps_ret (pe_lstS (pa_cons (pv 5) (pa_cons (pe_listRg rfl (by rfl) T.list (prg_1 (by rfl) T.range (pe_op op_add (pv 2) pe_int))) pa_nil)))))) pss_nil)
      (pss_cons (ps_setLc (i := 5) (own := [("k", 7)]) rfl sc__law_small.nd rfl rfl (sw_true rfl rfl rfl (by decide +kernel)) (pi_seq (pe_lstS (pa_cons (pv 3) (pa_cons (pe_op op_add pe_int (pv 2)) (pa_cons pe_int (pa_cons (pe_op op_add pe_int (pe_cD c__law_take b__law_take (hr.mono (by decide)) (by rfl) pass0 (pa_cons (pv 0) (pa_cons pe_int pa_nil)))) pa_nil)))))) (blkOk_by (own := [("k", 7)]) (N := N__law_small) (sc := defScope s__law_small) (by decide +kernel)) (fun _ _ _ _ _ => (pg_name (i := 7) sc__law_small.nd rfl (by first | exact Or.inl rfl | exact Or.inr rfl))) (fun _ _ _ _ _ => pts_nil) (fun _ _ _ _ _ => (pe_tupS (pa_cons pe_non (pa_cons (pv 7) (pa_cons (pe_op op_mul pe_int (pv 7)) pa_nil))))))
      (pss_one (ps_ret (pe_lstS (pa_cons (pv 5) (pa_cons (pe_cD c__law_order b__law_order (hr.mono (by decide)) (by rfl) pass0 (pa_cons (pv 0) (pa_cons (pv 5) pa_nil))) pa_nil))))))))))), ?_⟩
  walk_at "st"
  walk_at "go"
  refine ⟨b, 5, rfl, hb, by decide, by decide, fun kind H1 hkind b1 bx1 => ?_⟩
  walk_at "go"
  refine ⟨b, 3, rfl, bx1, by decide, by decide, fun dp H2 hdp b2 bx2 => ?_⟩
  walk_at "go"
  refine ⟨b, 2, rfl, bx2, by decide, by decide, fun fs H3 hfs b3 bx3 => ?_⟩
  walk_at "go"
  have b03 : But b H H3 := (b1.trans b2).trans b3
  have nb : ∀ {a : Addr} {H' : Hp}, BoxAt H' b → H' a = none → a ≠ b := fun {a H'} bx hn z => by
    subst z
    obtain ⟨_, _, _, _, e⟩ := bx
    rw [hn] at e
    cases e
  refine ite2 (fun h1 => ?_) (fun h1 => ?_)
  · walk_at "go"
    refine ⟨b, 5, rfl, bx3, by decide, by decide, fun c H4 hc b4 bx4 => ?_⟩
    walk_at "go"
    refine ⟨b, _, rfl, bx4, by omega, by omega, fun l H5 hl b5 bx5 => ?_⟩
    walk_at "go"
    refine ⟨b, c, l, 4, rfl, bx5, by omega, by decide, by decide, fun r H6 rows b6 bx6 nr hrl hrc hlen => ?_⟩
    walk_at "go"
    refine ⟨b, r, rows, rfl, bx6, hrl, hrc.wf, fun o H7 js b7 bx7 no ho vo => ?_⟩
    walk_at "go"
    intro p H8 n8
    exact q p H8 r o rows c js (((((b03.trans b4).trans b5).trans b6).trans b7).then n8.1) (bx7.same n8.1) n8.2.2 ((hrl.but bx6 b7).same n8.1) hrc (n8.1 _ _ ho) vo (by omega)
  · walk_at "go"
    refine range_lc (by omega) (by omega) (fun D i H' => ChInv b D H3 i H') (fun D H' n => ⟨Same.but n.1, bx3.same n.1, n.2.1, [], [], n.2.2, ⟨rfl, fun i r e => by simp at e⟩, rfl, fun k r e => by simp at e⟩) (fun D i H' hi I => ?_) (fun D H' I => ?_)
    · obtain ⟨bt, bx, nD, out, cs, hD, hrv, hlen, hch⟩ := I
      have hDb := nb bx3 nD
      walk_at "go"
      refine ⟨rfl, ?_⟩
      walk_at "go"
      rw [if_pos rfl]
      walk_at "go"
      have fin : ∀ (r : Nat) (H5 H6 : Hp) (t : Addr), (r : Int) < 3 → But b H' H5 → BoxAt H5 b → New H5 H6 t (.tup [optV (if i = 0 then none else some (i - 1)), .int (1 + (r : Int)), .int 0]) →
          ∃ acc, H6 D = some (.lst acc) ∧ acc.length < sizeLine ∧ ChInv b D H3 (i + 1) (upd H6 D (.lst (acc ++ [.ref t]))) := fun r H5 H6 t hr b5 bx5 n6 => by
        have hD6 : H6 D = some (.lst out) := n6.1 _ _ (b5 _ _ hDb hD)
        refine ⟨out, hD6, small_len (by rw [hrv.1]; omega), ?_⟩
        have cg : Chg H6 (upd H6 D (.lst (out ++ [.ref t]))) D (.lst (out ++ [.ref t])) := Chg.upd
        generalize upd H6 D (.lst (out ++ [.ref t])) = H7 at cg
        have t67 := lst_tups hD6 cg
        have tt : TupS H' H7 := ((bx.tups b5).trans (TupS.of n6.1)).trans t67
        refine ⟨fun a o ha e => ?_, ?_, nD, _, _, cg.2, RowsV.snoc (r := ((if i = 0 then none else some (i - 1)), 1 + (r : Int), 0)) (hrv.tups tt) (t67 _ _ n6.2.2), by simp [hlen], ?_⟩
        · have haD : a ≠ D := fun z => by
            subst z
            rw [nD] at e
            cases e
          exact cg.1 _ _ haD (n6.1 _ _ (b5 _ _ ha (bt _ _ ha e)))
        · obtain ⟨w1, w2, w3, w4, e⟩ := bx5
          exact ⟨w1, w2, w3, w4, cg.1 _ _ (Ne.symm hDb) (n6.1 _ _ e)⟩
        · subst hlen
          exact hch.snoc (by omega) (by omega)
      by_cases hz : i = 0
      · rw [decide_eq_true (by omega : (i : Int) = 0)]
        refine iteT ?_
        walk_at "go"
        refine ⟨b, 3, rfl, bx, by decide, by decide, fun r H5 hr b5 bx5 => ?_⟩
        walk_at "go"
        intro t H6 n6
        refine fin r H5 H6 t hr b5 bx5 ?_
        rw [if_pos hz]
        exact n6
      · rw [decide_eq_false (by omega : ¬ (i : Int) = 0)]
        refine iteF ?_
        walk_at "go"
        refine ⟨b, 3, rfl, bx, by decide, by decide, fun r H5 hr b5 bx5 => ?_⟩
        walk_at "go"
        intro t H6 n6
        refine fin r H5 H6 t hr b5 bx5 ?_
        rw [if_neg hz]
        have e : ((i - 1 : Nat) : Int) = (i : Int) - 1 := by omega
        show New H5 H6 t (.tup [.int ((i - 1 : Nat) : Int), _, _])
        rw [e]
        exact n6
    · obtain ⟨bt, bx, nD, out, cs, hD, hrv, hlen, hch⟩ := I
      have hDb := nb bx3 nD
      have b0 : But b H H' := b03.trans bt
      walk_at "go"
      have hcl : cs.length = dp + 1 := by omega
      have hrc := hch.rc (by omega)
      have ed : (1 : Int) + (dp : Int) - 1 = (dp : Int) := by omega
      refine ite2 (fun h2 => ?_) (fun h2 => ?_)
      · walk_at "go"
        refine ⟨b, 9, rfl, bx, by decide, by decide, fun r1 H4 hr1 b4 bx4 => ?_⟩
        walk_at "go"
        intro t1 H5 n5
        walk_at "go"
        refine ⟨b, 2, rfl, bx4.same n5.1, by decide, by decide, fun r2 H6 hr2 b6 bx6 => ?_⟩
        walk_at "go"
        intro t2 H7 n7
        walk_at "go"
        intro t3 H8 n8
        walk_at "go"
        intro L H9 n9
        have b46 : But b H' H6 := fun a o ha e => b6 _ _ ha (n5.1 _ _ (b4 _ _ ha e))
        have b49 : But b H' H9 := fun a o ha e => n9.1 _ _ (n8.1 _ _ (n7.1 _ _ (b46 _ _ ha e)))
        refine w_cat (b49 _ _ hDb hD) n9.2.2 (by rw [hrv.1]; simp; omega) fun p H10 n10 => ?_
        walk_at "go"
        rw [ed] at n5
        have t610 : TupS H6 H10 := fun a xs e => n10.1 _ _ (n9.1 _ _ (n8.1 _ _ (n7.1 _ _ e)))
        have tA : TupS H' H10 := fun a xs e => t610 _ _ ((bx4.same n5.1).tups b6 _ _ (n5.1 _ _ (bx.tups b4 _ _ e)))
        have rv3 := RowsV.snoc (r := (none, 9, 1)) (RowsV.snoc (r := (none, 1 + (r2 : Int), 1)) (RowsV.snoc (r := (some dp, 1 + (fs : Int), 30 + (r1 : Int))) (hrv.tups tA) (t610 _ _ ((bx4.same n5.1).tups b6 _ _ n5.2.2))) (n10.1 _ _ (n9.1 _ _ (n8.1 _ _ n7.2.2)))) (n10.1 _ _ (n9.1 _ _ n8.2.2))
        have rc1 := hrc.snocL (r := (some dp, 1 + (fs : Int), 30 + (r1 : Int))) (by omega) ⟨fun q hq => by have := Option.some.inj hq; omega, by dsimp only; omega⟩ (by dsimp only; omega) (by dsimp only; omega) (by dsimp only; omega)
        have rc2 := rc1.snocL (r := (none, 1 + (r2 : Int), 1)) (by simp; omega) ⟨(fun q hq => by cases hq), by dsimp only; omega⟩ (by dsimp only; omega) (by dsimp only; omega) (by dsimp only; omega)
        have rc3 := rc2.snocL (r := (none, 9, 1)) (by simp; omega) ⟨(fun q hq => by cases hq), by decide⟩ (by decide) (by decide) (by decide)
        generalize hR : cs ++ [(some dp, 1 + (fs : Int), 30 + (r1 : Int))] ++ [(none, 1 + (r2 : Int), 1)] ++ [(none, 9, 1)] = R at rv3 rc3
        have hRl : R.length = dp + 1 + 3 := by rw [← hR]; simp; omega
        have hRp : parR R (dp + 1 + 1) = none := by
          have e : R[dp + 1 + 1]? = some (none, 1 + (r2 : Int), 1) := by
            rw [← hR, List.getElem?_append_left (by simp; omega), List.getElem?_append_right (by simp; omega)]
            simp [hcl]
          rw [par_at e]
        have hRL : RowsL H10 p R := ⟨_, n10.2.2, by simpa using rv3⟩
        walk_at "go"
        intro L1 H11 n11
        walk_at "go"
        refine w_LRG (by omega) (by omega) fun L2 H12 n12 => ?_
        refine w_cat (n12.1 _ _ n11.2.2) n12.2.2 (by simp; omega) fun L3 H13 n13 => ?_
        walk_at "go"
        intro L4 H14 n14
        refine w_cat (n14.1 _ _ n13.2.2) n14.2.2 (by simp; omega) fun o H15 n15 => ?_
        walk_at "go"
        intro p2 H16 n16
        have s16 : Same H10 H16 := fun a u e => n16.1 _ _ (n15.1 _ _ (n14.1 _ _ (n13.1 _ _ (n12.1 _ _ (n11.1 _ _ e)))))
        have bx16 : BoxAt H16 b := (((bx6.same n7.1).same n8.1).same n9.1).same n10.1 |>.same s16
        refine q p2 H16 p o R cs.length ([dp + 1 + 1] ++ List.range (dp + 1 + 1) ++ [dp + 1 + 2]) (b0.trans fun a u ha e => s16 _ _ (n10.1 _ _ (b49 _ _ ha e))) bx16 n16.2.2 (hRL.same s16) rc3 ?_ (vo_k2 rc3.wf hRl hRp) (by omega)
        have := n16.1 _ _ n15.2.2
        rw [this]
        have e1 : (1 + (dp : Int) + 1).toNat = dp + 1 + 1 := by omega
        have e2 : (1 : Int) + (dp : Int) + 1 = ((dp + 1 + 1 : Nat) : Int) := by omega
        have e3 : (1 : Int) + (dp : Int) + 2 = ((dp + 1 + 2 : Nat) : Int) := by omega
        rw [e1, e2, e3, iv_append, iv_append]
        rfl
      · walk_at "go"
        refine ite2 (fun h3 => ?_) (fun h3 => ?_)
        · walk_at "go"
          intro t0 H4 n4
          walk_at "go"
          intro L0 H5 n5
          walk_at "go"
          refine Or.inl ⟨D, out, rfl, Or.inl (Or.inl (n5.1 _ _ (n4.1 _ _ hD))), fun L1 H6 n6 => ?_⟩
          have ec : cutV out (some 1) none = out.drop 1 := cut_from out (a := 1) (by rw [hrv.1]; omega)
          rw [ec] at n6
          refine w_cat (n6.1 _ _ n5.2.2) n6.2.2 (by simp [hrv.1]; omega) fun L2 H7 n7 => ?_
          walk_at "go"
          intro t1 H8 n8
          walk_at "go"
          intro t2 H9 n9
          walk_at "go"
          intro t3 H10 n10
          walk_at "go"
          intro L3 H11 n11
          refine w_cat (n11.1 _ _ (n10.1 _ _ (n9.1 _ _ (n8.1 _ _ n7.2.2)))) n11.2.2 (by simp [hrv.1]; omega) fun p H12 n12 => ?_
          rw [ed] at n8
          have s4 : Same H4 H12 := fun a u e => n12.1 _ _ (n11.1 _ _ (n10.1 _ _ (n9.1 _ _ (n8.1 _ _ (n7.1 _ _ (n6.1 _ _ (n5.1 _ _ e)))))))
          have sA : Same H' H12 := fun a u e => s4 _ _ (n4.1 _ _ e)
          have rv0 : RowsV H12 [.ref t0] [(none, 30 + (1 + (fs : Int)), 0)] := RowsV.one (s4 _ _ n4.2.2)
          have rv1 : RowsV H12 ([.ref t0] ++ out.drop 1) ([(none, 30 + (1 + (fs : Int)), 0)] ++ cs.drop 1) := Obs.append (o := rowO) rv0 (Obs.drop1 (hrv.same sA))
          have rv3 := RowsV.snoc (r := (some 0, 2, 1)) (RowsV.snoc (r := (none, 1 + (1 + (fs : Int)), 4)) (RowsV.snoc (r := (some dp, 1, 15 + (1 + (fs : Int)))) rv1 (n12.1 _ _ (n11.1 _ _ (n10.1 _ _ (n9.1 _ _ n8.2.2))))) (n12.1 _ _ (n11.1 _ _ (n10.1 _ _ n9.2.2)))) (n12.1 _ _ (n11.1 _ _ n10.2.2))
          have hcl0 : ([(none, 30 + (1 + (fs : Int)), 0)] ++ cs.drop 1 : List Row).length = dp + 1 := by simp; omega
          have rc0 : RowsC ([(none, 30 + (1 + (fs : Int)), 0)] ++ cs.drop 1) (dp + 1) := by
            refine ⟨by omega, by omega, fun i r e hi => ?_, fun i r e hi => ?_⟩
            · cases i with
              | zero =>
                have e2 : r = (none, 30 + (1 + (fs : Int)), 0) := by simpa using e.symm
                subst e2
                exact ⟨⟨(fun q hq => by cases hq), by dsimp only; omega⟩, by dsimp only; omega, rfl⟩
              | succ i =>
                have e2 : cs[1 + i]? = some r := by rw [Nat.add_comm]; simpa using e
                obtain ⟨g1, g2, g3⟩ := hrc.cov _ r e2 (by omega)
                refine ⟨⟨fun q hq => ?_, g1.2⟩, g2, g3⟩
                have := g1.1 q hq
                omega
            · have := (List.getElem?_eq_some_iff.mp e).1
              omega
          have rc1 := rc0.snocL (r := (some dp, 1, 15 + (1 + (fs : Int)))) (by omega) ⟨fun q hq => by have := Option.some.inj hq; omega, by dsimp only; omega⟩ (by dsimp only; omega) (by dsimp only; omega) (by dsimp only; omega)
          have rc2 := rc1.snocL (r := (none, 1 + (1 + (fs : Int)), 4)) (by simp; omega) ⟨(fun q hq => by cases hq), by dsimp only; omega⟩ (by dsimp only; omega) (by dsimp only; omega) (by dsimp only; omega)
          have rc3 := rc2.snocL (r := (some 0, 2, 1)) (by simp; omega) ⟨fun q hq => by have := Option.some.inj hq; omega, by decide⟩ (by decide) (by decide) (by decide)
          generalize hR : [(none, 30 + (1 + (fs : Int)), 0)] ++ cs.drop 1 ++ [(some dp, 1, 15 + (1 + (fs : Int)))] ++ [(none, 1 + (1 + (fs : Int)), 4)] ++ [(some 0, 2, 1)] = R at rv3 rc3
          have hRl : R.length = dp + 1 + 3 := by rw [← hR]; simp; omega
          have hRL : RowsL H12 p R := ⟨_, n12.2.2, by simpa using rv3⟩
          walk_at "go"
          refine w_LRG (by omega) (by omega) fun o H13 n13 => ?_
          walk_at "go"
          intro p2 H14 n14
          have s14 : Same H12 H14 := fun a u e => n14.1 _ _ (n13.1 _ _ e)
          refine q p2 H14 p o R (dp + 1) (List.range R.length) (b0.then fun a u e => s14 _ _ (sA _ _ e)) ((bx.same sA).same s14) n14.2.2 (hRL.same s14) rc3 ?_ (vo_range rc3.wf) (by omega)
          have := n14.1 _ _ n13.2.2
          rw [this]
          have e1 : (1 + (dp : Int) + 3).toNat = R.length := by omega
          rw [e1]
          rfl
        · walk_at "go"
          refine ⟨b, 4, rfl, bx, by decide, by decide, fun r1 H4 hr1 b4 bx4 => ?_⟩
          walk_at "go"
          intro L H5 n5
          walk_at "go"
          refine seq_obs [1 + (fs : Int), 1 + (1 + (dp : Int)), 2, 1 + (r1 : Int)] V.int (fun _ => true) (fun k => rowO (none, k, 3 * k)) (by simp) (q_l n5.2.2) (fun x H6 Pe Pn hx st k1 k2 => ?_) (fun D2 H6 out2 st nD2 hD2 ob => ?_)
          · walk_at "go"
            refine ⟨rfl, ?_⟩
            walk_at "go"
            rw [if_pos rfl]
            walk_at "go"
            refine w_I (Or.inl (by decide)) ?_
            walk_at "go"
            intro t H7 n7
            exact k1 rfl t H7 n7.1 n7.2.1 n7.2.2
          · rw [filter_tt] at ob
            have rv := ob.of_map (g := fun k => ((none, k, 3 * k) : Row)) (o := rowO)
            have bx6 : BoxAt H6 b := (bx4.same n5.1).same st
            have rc : RowsC ([1 + (fs : Int), 1 + (1 + (dp : Int)), 2, 1 + (r1 : Int)].map fun k => ((none, k, 3 * k) : Row)) 0 := by
              refine ⟨Nat.zero_le _, by simp, fun i r e hi => by omega, fun i r e hi => ?_⟩
              rw [List.getElem?_map] at e
              cases ek : ([1 + (fs : Int), 1 + (1 + (dp : Int)), 2, 1 + (r1 : Int)] : List Int)[i]? with
              | none => rw [ek] at e; cases e
              | some k =>
                rw [ek] at e
                have e2 := Option.some.inj e
                subst e2
                have hk : 1 ≤ k ∧ k ≤ 4 := by
                  have hm := List.mem_of_getElem? ek
                  simp only [List.mem_cons, List.not_mem_nil, or_false] at hm
                  rcases hm with h | h | h | h <;> omega
                exact ⟨⟨(fun q hq => by cases hq), by dsimp only; omega⟩, by dsimp only; omega, by dsimp only; omega, by dsimp only; omega⟩
            have hRL : RowsL H6 D2 ([1 + (fs : Int), 1 + (1 + (dp : Int)), 2, 1 + (r1 : Int)].map fun k => ((none, k, 3 * k) : Row)) := ⟨out2, hD2, rv⟩
            walk_at "go"
            refine ⟨b, D2, _, rfl, bx6, hRL, rc.wf, fun o H7 js b7 bx7 no ho vo => ?_⟩
            walk_at "go"
            intro p H8 n8
            exact q p H8 D2 o _ 0 js (fun a u ha e => n8.1 _ _ (b7 _ _ ha (st _ _ (n5.1 _ _ (b4 _ _ ha (b0 _ _ ha e)))))) (bx7.same n8.1) n8.2.2 ((hRL.but bx6 b7).same n8.1) rc (n8.1 _ _ ho) vo (by simp)
end

end Cw
end

/-! text C93_least -/
section
set_option Elab.async false
set_option linter.all false
set_option maxRecDepth 100000
set_option maxHeartbeats 4000000
namespace Cw
open PySem PySem.Spec PyProof.Rows L2
local macro_rules | `(tactic| walk_at "go1") => `(tactic| with_reducible first
  | refine w_seq ?_ | refine w_asgN ?_ | refine w_asgG ?_ | refine w_drop ?_ | refine w_ret ?_ | refine w_if ?_ | refine w_next ?_
  | refine w_var rfl ?_ | refine w_c ?_ | refine w_op ?_ | refine w_un ?_ | refine w_cb ?_ | refine w_cons ?_ | refine w_nil ?_ | refine w_call ?_
  | refine w_test ?_ | refine w_tB ?_ | refine w_bl ?_ | refine w_and ?_ | refine w_or ?_ | refine w_not ?_ | refine w_andV ?_ | refine w_orV ?_ | refine w_notV ?_ | refine w_ifE ?_ | refine w_blv ?_
  | refine w_I0 ?_ | refine w_eqI ?_ | refine w_neI ?_ | refine w_isN ?_ | refine w_notN ?_ | refine w_chain ?_ | refine w_for ?_ | refine w_iSeq ?_ | refine w_iR1 ?_ | refine w_iR2 ?_ | refine w_lc ?_
  | refine w_tupS ?_ | refine w_lstS ?_ | refine w_gN ?_ | refine w_gCons ?_ | refine w_gNil ?_ | refine w_aug rfl ?_ | refine w_ip ?_ | refine w_par ?_ | refine w_par2 ?_ | refine w_par3 ?_ | refine w_par33 ?_ | refine w_small (by first | decide | (simp only [List.length_cons, List.length_nil]; decide)) ?_ | refine w_bmL ?_ | refine w_gSub ?_ | refine w_lc2 ?_ | refine w_iEnum ?_ | refine w_yes ?_ | refine w_chN ?_ | refine w_chC ?_ | refine w_chL ?_ | refine w_tSl ?_ | refine w_pN ?_ | refine w_pS ?_ | refine w_pI ?_ | refine w_star ?_ | refine w_lrg ?_ | refine w_dget ?_ | refine w_dnotin ?_ | refine w_dget2 ?_ | refine w_dput ?_ | refine w_revR ?_ | refine w_cont ?_)
local macro_rules | `(tactic| walk_at "hp") => `(tactic| (first | assumption | exact g_at (by assumption) | exact g_cat (by assumption) | (refine g_same (by assumption) ?_ ; walk_at "hp") | (refine g_new (by assumption) ?_ ; walk_at "hp") | (refine q_same (by assumption) ?_ ; walk_at "hp") | (refine q_new (by assumption) ?_ ; walk_at "hp")))
local macro_rules | `(tactic| walk_at "go") => `(tactic| repeat' walk_at "go1")
local macro_rules | `(tactic| walk_at "st") => `(tactic| simp only [cxK, L2.start, List.map_cons, List.map_nil, List.length_cons, List.length_nil, Nat.reduceAdd, Nat.reduceSub, List.replicate, List.cons_append, List.nil_append])

--import small
/-- c is the least cost of all orders -/
def Least (rows : List Row) (c : Int) : Prop := (∃ js, VO rows js ∧ M93.cost (pR rows) (wR rows) 0 js = c) ∧ ∀ js, VO rows js → c ≤ M93.cost (pR rows) (wR rows) 0 js
def spLeast : Sp := fun vs H Q _ => ∃ r rows, vs = [V.ref r] ∧ RowsL H r rows ∧ WfR rows ∧ rows.length ≤ 8 ∧ ∀ c H', Same H H' → Least rows c → Q (.int c) H'
abbrev SD (rows : List Row) := M93.SpecD rows.length (parR rows) (pR rows) (wR rows)
abbrev SU (rows : List Row) := M93.SpecU rows.length (parR rows) (pR rows) (wR rows)
theorem DF.congr {H : Hp} {d : Addr} {f f' : Nat → Option V} {n : Nat} (h : DF H d f n) (e : ∀ k, f k = f' k) : DF H d f' n := let ⟨kvs, h1, h2, h3⟩ := h; ⟨kvs, h1, h2, fun k => (h3 k).trans (e k)⟩
theorem DF.mono {H : Hp} {d : Addr} {f : Nat → Option V} {n m : Nat} (h : DF H d f n) (e : n ≤ m) : DF H d f m := let ⟨kvs, h1, h2, h3⟩ := h; ⟨kvs, h1, Nat.le_trans h2 e, h3⟩
/-- the table: from d on all is known -/
structure Tb (rows : List Row) (d : Nat) (g : Nat → Option Int) : Prop where
  ge : ∀ e, d ≤ e → e ≤ 2 ^ rows.length - 1 → SD rows e (g e)
  lt : ∀ e, e < d → g e = none
structure LsO (rows : List Row) (r p : Addr) (H0 : Hp) (i : Nat) (σ : L2.St) (H : Hp) : Prop where
  sl : ∃ x y z u v, σ = [some (.ref r), some (.int (rows.length : Int)), some (.int ((2 ^ rows.length - 1 : Nat) : Int)), some (.ref p), x, y, z, u, v]
  st : Same H0 H
  tb : ∃ g : Nat → Option Int, DF H p (fun e => (g e).map V.int) (1 + 8 * i) ∧ Tb rows (2 ^ rows.length - 1 - i) g
structure LsI (rows : List Row) (r p : Addr) (d i : Nat) (H0 : Hp) (m : Nat) (σ : L2.St) (H : Hp) : Prop where
  sl : ∃ z u v, σ = [some (.ref r), some (.int (rows.length : Int)), some (.int ((2 ^ rows.length - 1 : Nat) : Int)), some (.ref p), some (.int (d : Int)), some (.int (M93.mins rows.length (pR rows) d)), z, u, v]
  st : Same H0 H
  tb : ∃ g : Nat → Option Int, DF H p (fun e => (g e).map V.int) (1 + 8 * i + m) ∧ Tb rows (d + 1) (fun e => if e = d then none else g e) ∧ SU rows d m (g d)
section
variable {P : Program} {w : World} {K : PySem.W.Frag} {mg : Str → Option Value} {base : Heap} {CS CC CI CB : Addr}
theorem ok_law_least (D : Df K mg "_law_least" s__law_least) (T : Txt K mg CS CC) : Dn P w K mg base CX0 1 "_law_least" s__law_least p__law_least spLeast := by
  refine dn_ok D sc__law_least (fun vs H Q E h => by obtain ⟨_, _, rfl, _⟩ := h; rfl) fun f cdv A outer s H vs Q E hr h => ?_
  obtain ⟨r, rows, rfl, hrl, wf, hn, q⟩ := h
  refine ⟨_, (pss_cons (ps_set (i := 1) sc__law_least.nd rfl (by first | exact Or.inl rfl | exact Or.inr rfl) (pe_callB call_lenQ (by rfl) T.len (by decide +kernel) (pa_cons (pv 0) pa_nil)))
      (pss_cons (ps_set (i := 2) sc__law_least.nd rfl (by first | exact Or.inl rfl | exact Or.inr rfl) (pe_op op_sub (pe_op op_shl pe_int (pv 1)) pe_int))
      (pss_cons (ps_set (i := 3) sc__law_least.nd rfl (by first | exact Or.inl rfl | exact Or.inr rfl) (pe_disp (pps_cons (pv 2) pe_int pps_nil) (by rfl) (by rfl) (fun z => by cases z) (by decide)))
      (pss_cons (ps_for PassesOwn.never rfl (pi_revR (by rfl) T.reversed (prg_1 (by rfl) T.range (pv 2))) (pg_name (i := 4) sc__law_least.nd rfl (by first | exact Or.inl rfl | exact Or.inr rfl)) (pss_cons (ps_set (i := 5) sc__law_least.nd rfl (by first | exact Or.inl rfl | exact Or.inr rfl) (pe_callB (cr_sum rfl) (by rfl) T.sum (by decide +kernel) (pa_cons (pe_lc (own := [("j", 6)]) rfl sc__law_least.nd (pi_range1 (by rfl) T.range (pa_cons (pv 1) pa_nil)) (blkOk_by (own := [("j", 6)]) (N := N__law_least) (sc := defScope s__law_least) (by decide +kernel)) (fun _ _ _ _ _ => (pg_name (i := 6) sc__law_least.nd rfl (by first | exact Or.inl rfl | exact Or.inr rfl))) (fun _ _ _ _ _ => (pts_one (pt_cmpR op_eq (pe_op op_and (pe_op op_shr (pv 4) (pv 6)) pe_int) pe_int (nomark _)))) (fun _ _ _ _ _ => (pe_ix (ix_sqK (K := K)) (pe_ix (ix_sqK (K := K)) (pv 0) (pv 6) (fun _ _ => rfl)) pe_int (fun _ _ => rfl)))) pa_nil)))
      (pss_one (ps_for PassesOwn.never rfl (pi_range1 (by rfl) T.range (pa_cons (pv 1) pa_nil)) (pg_name (i := 6) sc__law_least.nd rfl (by first | exact Or.inl rfl | exact Or.inr rfl)) (pss_cons (ps_set (i := 7) sc__law_least.nd rfl (by first | exact Or.inl rfl | exact Or.inr rfl) (pe_op op_or (pv 4) (pe_op op_shl pe_int (pv 6))))
      (pss_cons (ps_if (PW.pt (pw_or (pt_cmpR op_eq (pv 7) (pv 4) (nomark _)) (pw_or (pt_cmp (pc_dnotin (hu_of hr) (pv 7) (pv 3))) (pw_or1 (PW.pt (pw_and (pt_cmpR op_notNo (pe_ix ix_sq (pe_ix ix_sq (pv 0) (pv 6) (fun _ _ => rfl)) pe_int (fun _ _ => rfl)) pe_non (nomark _)) (pw_and1 (pt_cmpR op_eq (pe_op op_and (pe_op op_shr (pv 4) (pe_ix ix_sq (pe_ix ix_sq (pv 0) (pv 6) (fun _ _ => rfl)) pe_int (fun _ _ => rfl))) pe_int) pe_int (nomark _))))))))) (pss_one ps_continue) pss_nil)
      (pss_cons (ps_set (i := 8) sc__law_least.nd rfl (by first | exact Or.inl rfl | exact Or.inr rfl) (pe_op op_add (pe_op op_mul (pe_ix ix_sq (pe_ix ix_sq (pv 0) (pv 6) (fun _ _ => rfl)) pe_int (fun _ _ => rfl)) (pe_op op_add (pv 5) (pe_ix ix_sq (pe_ix ix_sq (pv 0) (pv 6) (fun _ _ => rfl)) pe_int (fun _ _ => rfl)))) (pe_dget (hu_of hr) (pv 3) (pv 7) (fun _ _ => rfl))))
      (pss_one (ps_dput (hu_of hr) (pv 3) (pv 4) (pe_callB (call_min2Q rfl) (by rfl) T.min (by decide +kernel) (pa_cons (pe_dget2 (hu_of hr) (pv 3) (pv 4) (pv 8) (by constructor <;> rfl)) (pa_cons (pv 8) pa_nil))) rfl)))))))))
      (pss_one (ps_ret (pe_dget (hu_of hr) (pv 3) pe_int (fun _ _ => rfl)))))))), ?_⟩
  walk_at "st"
  walk_at "go"
  obtain ⟨out, ho, hrv⟩ := id hrl
  refine w_len (q_l ho) ?_
  rw [hrv.1]
  walk_at "go"
  refine w_I ⟨by omega, by omega, by decide⟩ ?_
  walk_at "go"
  rw [full_at]
  unfold tDisp
  intro p hp
  simp only [tPairs]
  walk_at "go"
  refine ⟨upd_same, [(.inl ((2 ^ rows.length - 1 : Nat) : Int), .int 0)], rfl, by simp, ?_⟩
  have n1 : New H (upd (upd H p (.dK [])) p (.dK (mergeK [] [(.inl ((2 ^ rows.length - 1 : Nat) : Int), V.int 0)]))) p (.dK [(.inl ((2 ^ rows.length - 1 : Nat) : Int), .int 0)]) := ⟨fun b o e => by rw [upd_ne (ne_of_none e hp), upd_ne (ne_of_none e hp)]; exact e, hp, upd_same⟩
  generalize upd (upd H p (.dK [])) p (.dK (mergeK [] [(.inl ((2 ^ rows.length - 1 : Nat) : Int), V.int 0)])) = H1 at n1 ⊢
  have hpow : (1 : Nat) ≤ 2 ^ rows.length := Nat.one_le_two_pow
  have hpow8 : 2 ^ rows.length ≤ 2 ^ 8 := Nat.pow_le_pow_right (by decide) hn
  have np : H p = none := n1.2.1
  walk_at "go"
  refine rev_for (m := 2 ^ rows.length - 1) (by omega) (LsO rows r p H) ⟨⟨_, _, _, _, _, rfl⟩, n1.1, fun e => if e = 2 ^ rows.length - 1 then some 0 else none, ⟨_, n1.2.2, by simp, fun k => ?_⟩, fun e h1 h2 => ?_, fun e h1 => ?_⟩ (fun i σ' H' hi I => ?_) (fun σ' H' I => ?_)
  · by_cases he : k = 2 ^ rows.length - 1
    · subst he
      rw [valV_pos rfl]
      simp
    · rw [valV_neg (by intro z; have := Sum.inl.inj z; omega), valV_nil]
      simp [he]
  · have : e = 2 ^ rows.length - 1 := by omega
    subst this
    simp only [if_true]
    exact M93.specD_full
  · simp [show ¬ e = 2 ^ rows.length - 1 by omega]
  · obtain ⟨⟨x, y, z, u, v, rfl⟩, st, g, hdf, htb⟩ := I
    generalize hd : 2 ^ rows.length - 1 - 1 - i = d
    have hdi : 2 ^ rows.length - 1 - i = d + 1 := by omega
    have ho' := st _ _ ho
    walk_at "go"
    refine range_map (m := rows.length) rfl (by omega) (fun j => d.testBit j) (fun j => V.int (pR rows j)) (fun j H3 Pe Pn hj st3 k1 k2 => ?_) (fun D H3 n3 => ?_)
    · obtain ⟨ra, r1, r2⟩ := row_at ((hrv.same st).same st3) hj
      walk_at "go"
      refine ⟨rfl, ?_⟩
      walk_at "go"
      refine w_I (by omega) ?_
      walk_at "go"
      rw [bit_at]
      cases hb : d.testBit j with
      | true =>
        rw [if_pos rfl]
        walk_at "go"
        refine iteT ?_
        walk_at "go"
        refine w_ixn (q_l (st3 _ _ ho')) r1 ?_
        walk_at "go"
        refine w_ix (q_t r2) rfl ?_
        exact k1 hb H3 fun _ _ e => e
      | false =>
        rw [if_neg Bool.false_ne_true]
        refine iteF ?_
        exact k2 hb H3 fun _ _ e => e
    · walk_at "go"
      refine w_sum (ns := ((List.range rows.length).filter fun j => d.testBit j).map (pR rows)) (Or.inl (Or.inl (by rw [List.map_map]; exact g_at n3))) ?_
      rw [← sm_eq]
      walk_at "go"
      have st3 : Same H H3 := fun b o e => n3.1 _ _ (st _ _ e)
      refine range_for (by omega) (by omega) (LsI rows r p d i H) ⟨⟨_, _, _, rfl⟩, st3, g, hdf.same n3.1, ⟨fun e h1 h2 => ?_, fun e h1 => ?_⟩, ?_⟩ (fun m σ'' H' hm I => ?_) (fun σ'' H' I => ?_)
      · simp only [show ¬ e = d by omega, if_false]
        exact htb.ge e (by omega) h2
      · by_cases he : e = d
        · simp [he]
        · simp only [he, if_false]
          exact htb.lt e (by omega)
      · rw [htb.lt d (by omega)]
        exact M93.specU_zero d
      · clear hdf htb
        obtain ⟨⟨z, u, v, rfl⟩, st, g, hdf, htb, hsu⟩ := I
        have hmn : m < rows.length := by omega
        have ho' := st _ _ ho
        obtain ⟨ra, r1, r2⟩ := row_at (hrv.same st) hmn
        have hw := wf.w0 m
        walk_at "go"
        refine w_I ⟨by omega, by omega, by decide⟩ ?_
        walk_at "go"
        rw [or_at]
        have hdlt : d < 2 ^ rows.length := by omega
        have hge := or_ge d m
        have hlt := or_lt hdlt hmn
        have heq := or_eq (d := d) (j := m)
        have turn := M93.dp_turn (oa := g (d ||| (1 <<< m))) hsu hmn fun hb => by
          have hne : ¬ d ||| (1 <<< m) = d := fun z => by rw [heq, hb] at z; cases z
          have := htb.ge (d ||| (1 <<< m)) (by omega) (by omega)
          simp only [hne, if_false] at this
          exact this
        have stay : M93.dpStep (parR rows) (pR rows) (wR rows) d m (M93.mins rows.length (pR rows) d) (g d) (g (d ||| (1 <<< m))) = g d → ∀ σ3, (∃ z u v, σ3 = [some (.ref r), some (.int (rows.length : Int)), some (.int ((2 ^ rows.length - 1 : Nat) : Int)), some (.ref p), some (.int (d : Int)), some (.int (M93.mins rows.length (pR rows) d)), z, u, v]) → LsI rows r p d i H (m + 1) σ3 H' := fun e σ3 sl => by
          rw [e] at turn
          exact ⟨sl, st, g, hdf.mono (by omega), htb, turn⟩
        generalize hA : d ||| (1 <<< m) = A at *
        walk_at "go"
        by_cases hb : d.testBit m = true
        · have : A = d := heq.mpr hb
          rw [decide_eq_true (by omega : (A : Int) = (d : Int))]
          refine iteT ?_
          refine iteT ?_
          walk_at "go"
          exact stay (by unfold M93.dpStep; rw [if_pos hb]) _ ⟨_, _, _, rfl⟩
        · have hne : ¬ A = d := fun z => hb (heq.mp z)
          rw [decide_eq_false (by omega : ¬ (A : Int) = (d : Int))]
          refine iteF ?_
          walk_at "go"
          refine ⟨_, _, rfl, hdf.get A, ?_⟩
          cases hgA' : g A with
          | none =>
            refine ⟨true, rfl, ?_⟩
            refine iteT ?_
            refine iteT ?_
            walk_at "go"
            exact stay (by unfold M93.dpStep; rw [if_neg hb, hgA']) _ ⟨_, _, _, rfl⟩
          | some ca =>
            have hgA : DGet H' p (.int (A : Int)) (some (V.int ca)) := by have := hdf.get A; rw [hgA'] at this; exact this
            refine ⟨false, rfl, ?_⟩
            refine iteF ?_
            walk_at "go"
            refine w_ixn (q_l ho') r1 ?_
            walk_at "go"
            refine w_ix (q_t r2) rfl ?_
            walk_at "go"
            cases hpar : parR rows m with
            | none =>
              refine iteF ?_
              refine iteF ?_
              walk_at "go"
              refine w_ixn (q_l ho') r1 ?_
              walk_at "go"
              refine w_ix (q_t r2) rfl ?_
              walk_at "go"
              refine w_ixn (q_l ho') r1 ?_
              walk_at "go"
              refine w_ix (q_t r2) rfl ?_
              walk_at "go"
              refine w_I (Or.inl (by omega)) ?_
              walk_at "go"
              refine ⟨_, _, rfl, hgA, ?_⟩
              walk_at "go"
              refine ⟨_, rfl, hdf.isD, ?_⟩
              walk_at "go"
              refine ⟨_, hdf.get d, ?_⟩
              have emin : ∀ (QV : VK), QV (.int (min ((g d).getD (wR rows m * (M93.mins rows.length (pR rows) d + pR rows m) + ca)) (wR rows m * (M93.mins rows.length (pR rows) d + pR rows m) + ca))) H' →
                  rMin2 [((g d).map V.int).getD (.int (wR rows m * (M93.mins rows.length (pR rows) d + pR rows m) + ca)), .int (wR rows m * (M93.mins rows.length (pR rows) d + pR rows m) + ca)] H' QV := fun QV hq => by
                cases hgd : g d with
                | none =>
                  rw [hgd] at hq
                  refine ⟨_, _, rfl, ?_⟩
                  rw [if_neg (by omega)]
                  simpa using hq
                | some c0 =>
                  rw [hgd] at hq
                  refine ⟨_, _, rfl, ?_⟩
                  simp only [Option.getD_some] at hq
                  split
                  · rw [Int.min_eq_right (by omega)] at hq
                    exact hq
                  · rw [Int.min_eq_left (by omega)] at hq
                    exact hq
              walk_at "go"
              refine emin _ ?_
              walk_at "go"
              obtain ⟨H4, hput, b4, df4⟩ := hdf.put (by omega) d (.int (min ((g d).getD (wR rows m * (M93.mins rows.length (pR rows) d + pR rows m) + ca)) (wR rows m * (M93.mins rows.length (pR rows) d + pR rows m) + ca)))
              refine ⟨_, H4, rfl, hput, ?_⟩
              refine ⟨⟨_, _, _, rfl⟩, Same.mut st np b4, fun e => if e = d then some (min ((g d).getD (wR rows m * (M93.mins rows.length (pR rows) d + pR rows m) + ca)) (wR rows m * (M93.mins rows.length (pR rows) d + pR rows m) + ca)) else g e, ?_, ?_, ?_⟩
              · refine (df4.congr fun e => ?_).mono (by omega)
                by_cases he : e = d
                · subst he
                  simp
                · simp [he]
              · refine ⟨fun e h1 h2 => ?_, fun e h1 => ?_⟩
                · have := htb.ge e h1 h2
                  simp only [show ¬ e = d by omega, if_false] at this ⊢
                  exact this
                · have := htb.lt e h1
                  by_cases he : e = d
                  · simp [he]
                  · simp only [he, if_false] at this ⊢
                    exact this
              · have t := turn
                unfold M93.dpStep at t
                rw [if_neg hb, hgA'] at t
                simp only [hpar] at t
                simpa using t
            | some a =>
              refine iteT ?_
              walk_at "go"
              refine w_ixn (q_l ho') r1 ?_
              walk_at "go"
              refine w_ix (q_t r2) rfl ?_
              rw [hpar]
              show rI _ _ (.int (d : Int)) (.int (a : Int)) _ _
              refine w_I (by omega) ?_
              walk_at "go"
              rw [bit_at]
              cases hba : d.testBit a with
              | false =>
                rw [if_neg Bool.false_ne_true]
                refine iteT ?_
                walk_at "go"
                exact stay (by unfold M93.dpStep; rw [if_neg hb, hgA', hpar]; simp [hba]) _ ⟨_, _, _, rfl⟩
              | true =>
                rw [if_pos rfl]
                refine iteF ?_
                walk_at "go"
                refine w_ixn (q_l ho') r1 ?_
                walk_at "go"
                refine w_ix (q_t r2) rfl ?_
                walk_at "go"
                refine w_ixn (q_l ho') r1 ?_
                walk_at "go"
                refine w_ix (q_t r2) rfl ?_
                walk_at "go"
                refine w_I (Or.inl (by omega)) ?_
                walk_at "go"
                refine ⟨_, _, rfl, hgA, ?_⟩
                walk_at "go"
                refine ⟨_, rfl, hdf.isD, ?_⟩
                walk_at "go"
                refine ⟨_, hdf.get d, ?_⟩
                have emin : ∀ (QV : VK), QV (.int (min ((g d).getD (wR rows m * (M93.mins rows.length (pR rows) d + pR rows m) + ca)) (wR rows m * (M93.mins rows.length (pR rows) d + pR rows m) + ca))) H' →
                    rMin2 [((g d).map V.int).getD (.int (wR rows m * (M93.mins rows.length (pR rows) d + pR rows m) + ca)), .int (wR rows m * (M93.mins rows.length (pR rows) d + pR rows m) + ca)] H' QV := fun QV hq => by
                  cases hgd : g d with
                  | none =>
                    rw [hgd] at hq
                    refine ⟨_, _, rfl, ?_⟩
                    rw [if_neg (by omega)]
                    simpa using hq
                  | some c0 =>
                    rw [hgd] at hq
                    refine ⟨_, _, rfl, ?_⟩
                    simp only [Option.getD_some] at hq
                    split
                    · rw [Int.min_eq_right (by omega)] at hq
                      exact hq
                    · rw [Int.min_eq_left (by omega)] at hq
                      exact hq
                walk_at "go"
                refine emin _ ?_
                walk_at "go"
                obtain ⟨H4, hput, b4, df4⟩ := hdf.put (by omega) d (.int (min ((g d).getD (wR rows m * (M93.mins rows.length (pR rows) d + pR rows m) + ca)) (wR rows m * (M93.mins rows.length (pR rows) d + pR rows m) + ca)))
                refine ⟨_, H4, rfl, hput, ?_⟩
                refine ⟨⟨_, _, _, rfl⟩, Same.mut st np b4, fun e => if e = d then some (min ((g d).getD (wR rows m * (M93.mins rows.length (pR rows) d + pR rows m) + ca)) (wR rows m * (M93.mins rows.length (pR rows) d + pR rows m) + ca)) else g e, ?_, ?_, ?_⟩
                · refine (df4.congr fun e => ?_).mono (by omega)
                  by_cases he : e = d
                  · subst he
                    simp
                  · simp [he]
                · refine ⟨fun e h1 h2 => ?_, fun e h1 => ?_⟩
                  · have := htb.ge e h1 h2
                    simp only [show ¬ e = d by omega, if_false] at this ⊢
                    exact this
                  · have := htb.lt e h1
                    by_cases he : e = d
                    · simp [he]
                    · simp only [he, if_false] at this ⊢
                      exact this
                · have t := turn
                  unfold M93.dpStep at t
                  rw [if_neg hb, hgA'] at t
                  simp only [hpar, hba] at t
                  simpa using t
      · obtain ⟨⟨z, u, v, rfl⟩, st, g, hdf, htb, hsu⟩ := I
        rw [Int.toNat_natCast] at hsu hdf
        refine ⟨⟨_, _, _, _, _, rfl⟩, st, g, hdf.mono (by omega), ⟨fun e h1 h2 => ?_, fun e h1 => ?_⟩⟩
        · by_cases he : e = d
          · subst he
            exact M93.specD_of_U (by omega) hsu
          · have := htb.ge e (by omega) h2
            simp only [he, if_false] at this
            exact this
        · have := htb.lt e (by omega)
          simp only [show ¬ e = d by omega, if_false] at this
          exact this
  · obtain ⟨⟨x, y, z, u, v, rfl⟩, st, g, hdf, htb⟩ := I
    have h0 := htb.ge 0 (by omega) (by omega)
    have vr := vo_range wf
    obtain ⟨c, hc, ⟨Y, y1, y2, y3⟩, hmin⟩ := M93.dp_least h0 vr.perm vr.val
    walk_at "go"
    have hg := hdf.get 0
    rw [hc] at hg
    refine ⟨_, _, rfl, hg, ?_⟩
    exact q c H' st ⟨⟨Y, ⟨y1, y2⟩, y3⟩, fun js vo => hmin js vo.perm vo.val⟩
end

end Cw
end

/-! text C93_merged -/
section
set_option Elab.async false
set_option linter.all false
set_option maxRecDepth 100000
set_option maxHeartbeats 4000000
namespace Cw
open PySem PySem.Spec PyProof.Rows L2
local macro_rules | `(tactic| walk_at "go1") => `(tactic| with_reducible first
  | refine w_seq ?_ | refine w_asgN ?_ | refine w_asgG ?_ | refine w_drop ?_ | refine w_ret ?_ | refine w_if ?_ | refine w_next ?_
  | refine w_var rfl ?_ | refine w_c ?_ | refine w_op ?_ | refine w_un ?_ | refine w_cb ?_ | refine w_cons ?_ | refine w_nil ?_ | refine w_call ?_
  | refine w_test ?_ | refine w_tB ?_ | refine w_bl ?_ | refine w_and ?_ | refine w_or ?_ | refine w_not ?_ | refine w_andV ?_ | refine w_orV ?_ | refine w_notV ?_ | refine w_ifE ?_ | refine w_blv ?_
  | refine w_I0 ?_ | refine w_eqI ?_ | refine w_neI ?_ | refine w_isN ?_ | refine w_notN ?_ | refine w_chain ?_ | refine w_for ?_ | refine w_iSeq ?_ | refine w_iR1 ?_ | refine w_iR2 ?_ | refine w_lc ?_
  | refine w_tupS ?_ | refine w_lstS ?_ | refine w_gN ?_ | refine w_gCons ?_ | refine w_gNil ?_ | refine w_aug rfl ?_ | refine w_ip ?_ | refine w_par ?_ | refine w_par2 ?_ | refine w_par3 ?_ | refine w_par33 ?_ | refine w_small (by first | decide | (simp only [List.length_cons, List.length_nil]; decide)) ?_ | refine w_bmL ?_ | refine w_gSub ?_ | refine w_lc2 ?_ | refine w_iEnum ?_ | refine w_yes ?_ | refine w_chN ?_ | refine w_chC ?_ | refine w_chL ?_ | refine w_tSl ?_ | refine w_pN ?_ | refine w_pS ?_ | refine w_pI ?_ | refine w_star ?_ | refine w_lrg ?_ | refine w_dget ?_ | refine w_dnotin ?_ | refine w_dget2 ?_ | refine w_dput ?_ | refine w_revR ?_ | refine w_cont ?_ | refine w_dpop ?_ | refine w_iKeys ?_)
local macro_rules | `(tactic| walk_at "hp") => `(tactic| (first | assumption | exact g_at (by assumption) | exact g_cat (by assumption) | (refine g_same (by assumption) ?_ ; walk_at "hp") | (refine g_new (by assumption) ?_ ; walk_at "hp") | (refine q_same (by assumption) ?_ ; walk_at "hp") | (refine q_new (by assumption) ?_ ; walk_at "hp")))
local macro_rules | `(tactic| walk_at "go") => `(tactic| repeat' walk_at "go1")
local macro_rules | `(tactic| walk_at "st") => `(tactic| simp only [cxK, L2.start, List.map_cons, List.map_nil, List.length_cons, List.length_nil, Nat.reduceAdd, Nat.reduceSub, List.replicate, List.cons_append, List.nil_append])

--import least
def GrpAt (rows : List Row) (H : Hp) (v : V) (g : List Nat) : Prop := ∃ a l : Addr, v = .ref a ∧ H a = some (.lst [.ref l, .int (M93.sm (wR rows) g), .int (M93.sm (pR rows) g)]) ∧ H l = some (.lst (iv g))
theorem GrpAt.lt {rows : List Row} {H H' : Hp} {v : V} {g : List Nat} (s : LT H H') : GrpAt rows H v g → GrpAt rows H' v g := fun ⟨a, l, e, h1, h2⟩ => ⟨a, l, e, s.1 _ _ h1, s.1 _ _ h2⟩
abbrev MgR (rows : List Row) := M93.Mg rows.length (parR rows) (pR rows) (wR rows)
/-- the two dicts and the order so far -/
structure MgH (rows : List Row) (d1 d2 o : Addr) (H0 : Hp) (ks : List Nat) (G : Nat → List Nat) (D : List Nat) (hm : Nat → Nat) (hs : List Nat) (H : Hp) : Prop where
  st : Same H0 H
  n1 : H0 d1 = none
  n2 : H0 d2 = none
  k1 : ∃ f, H d1 = some (.dK (kdL ks f)) ∧ ∀ k ∈ ks, GrpAt rows H (f k) (G k)
  k2 : H d2 = some (.dK (kdL hs fun j => .int (hm j : Int)))
  oo : H o = some (.lst (iv D))
  ne : d1 ≠ d2
structure Mg1 (rows : List Row) (r d1 d2 o : Addr) (H0 : Hp) (i : Nat) (σ : L2.St) (H : Hp) : Prop where
  sl : ∃ a b c d e f g, σ = [some (.ref r), some (.ref d1), some (.ref d2), some (.ref o), a, b, c, d, e, f, g]
  mh : MgH rows d1 d2 o H0 (List.range i) (fun j => [j]) [] (fun j => j) (List.range i) H
structure Mg2 (rows : List Row) (r d1 d2 : Addr) (H0 : Hp) (t : Nat) (σ : L2.St) (H : Hp) : Prop where
  sl : ∃ o a b c d e f g, σ = [some (.ref r), some (.ref d1), some (.ref d2), some (.ref o), a, b, c, d, e, f, g] ∧
    ∃ ks G D hm, MgH rows d1 d2 o H0 ks G D hm (List.range rows.length) H ∧ MgR rows ks G D hm ∧ ks.length = rows.length - t
/-- the best so far -/
def Bst (rows : List Row) (G : Nat → List Nat) (l : List Nat) (b : Int) : Prop := (l = [] ∧ b = -1) ∨ ∃ k : Nat, b = (k : Int) ∧ k ∈ l ∧ ∀ j ∈ l, M93.lessEq (pR rows) (wR rows) (G j) (G k)
theorem grp_mem {rows : List Row} {ks : List Nat} {G : Nat → List Nat} {D : List Nat} {hm : Nat → Nat} (m : MgR rows ks G D hm) {k j : Nat} (hk : k ∈ ks) (hj : j ∈ G k) : j < rows.length :=
  List.mem_range.mp (m.perm.mem_iff.mp (List.mem_append_right _ (List.mem_flatten.mpr ⟨_, List.mem_map.mpr ⟨k, hk, rfl⟩, hj⟩)))
theorem len_flatten {g : List Nat} : ∀ {L : List (List Nat)}, g ∈ L → g.length ≤ L.flatten.length := by
  intro L
  induction L with
  | nil => intro h; cases h
  | cons x r ih =>
    intro h
    rw [List.flatten_cons, List.length_append]
    rcases List.mem_cons.mp h with z | z
    · subst z; omega
    · have := ih z; omega
theorem grp_len {rows : List Row} {ks : List Nat} {G : Nat → List Nat} {D : List Nat} {hm : Nat → Nat} (m : MgR rows ks G D hm) {k : Nat} (hk : k ∈ ks) : (G k).length ≤ rows.length := by
  have h1 := len_flatten (List.mem_map.mpr ⟨k, hk, rfl⟩ : G k ∈ ks.map G)
  have h2 := m.perm.length_eq
  rw [List.length_append, List.length_range] at h2
  omega
theorem grp_pos {rows : List Row} (wf : WfR rows) {ks : List Nat} {G : Nat → List Nat} {D : List Nat} {hm : Nat → Nat} (m : MgR rows ks G D hm) {k : Nat} (hk : k ∈ ks) : 0 < M93.sm (pR rows) (G k) := by
  refine M93.sm_pos (fun j hj => ?_) ?_
  · have := wf.p1 j (grp_mem m hk hj)
    omega
  · obtain ⟨_, h⟩ := m.ok k hk
    intro z
    rw [z] at h
    cases h
def spMerged : Sp := fun vs H Q _ => ∃ r rows, vs = [V.ref r] ∧ RowsL H r rows ∧ WfR rows ∧ ∀ o H' js, Same H H' → H' o = some (.lst (iv js)) → VO rows js → (∀ ys, VO rows ys → M93.cost (pR rows) (wR rows) 0 js ≤ M93.cost (pR rows) (wR rows) 0 ys) → Q (.ref o) H'
section
variable {P : Program} {w : World} {K : PySem.W.Frag} {mg : Str → Option Value} {base : Heap} {CS CC CI CB : Addr}
theorem ok_law_merged (D : Df K mg "_law_merged" s__law_merged) (T : Txt K mg CS CC) : Dn P w K mg base CX0 1 "_law_merged" s__law_merged p__law_merged spMerged := by
  refine dn_ok D sc__law_merged (fun vs H Q E h => by obtain ⟨_, _, rfl, _⟩ := h; rfl) fun f cdv A outer s H vs Q E hr h => ?_
  obtain ⟨r, rows, rfl, hrl, wf, q⟩ := h
  have wl := wf.len
  refine ⟨_, (pss_cons (ps_par3 (i := 1) (j := 2) (l := 3) (by rfl) sc__law_merged.nd rfl rfl rfl (by decide) (by decide) (by decide) rfl rfl rfl (pa_cons pe_dnewK (pa_cons pe_dnewK (pa_cons (pe_lstS pa_nil) pa_nil))) (by rfl))
      (pss_cons (ps_for PassesOwn.never rfl (pi_range1 (by rfl) T.range (pa_cons (pe_callB call_lenQ (by rfl) T.len (by decide +kernel) (pa_cons (pv 0) pa_nil)) pa_nil)) (pg_name (i := 4) sc__law_merged.nd rfl (by first | exact Or.inl rfl | exact Or.inr rfl)) (pss_cons (ps_dput (hu_of hr) (pv 1) (pv 4) (pe_lstS (pa_cons (pe_lstS (pa_cons (pv 4) pa_nil)) (pa_cons (pe_ix ix_sq (pe_ix ix_sq (pv 0) (pv 4) (fun _ _ => rfl)) pe_int (fun _ _ => rfl)) (pa_cons (pe_ix ix_sq (pe_ix ix_sq (pv 0) (pv 4) (fun _ _ => rfl)) pe_int (fun _ _ => rfl)) pa_nil)))) rfl)
      (pss_one (ps_dput (hu_of hr) (pv 2) (pv 4) (pv 4) rfl))))
      (pss_cons (ps_for PassesOwn.never rfl (pi_range1 (by rfl) T.range (pa_cons (pe_callB call_lenQ (by rfl) T.len (by decide +kernel) (pa_cons (pv 0) pa_nil)) pa_nil)) (pg_name (i := 5) sc__law_merged.nd rfl (by first | exact Or.inl rfl | exact Or.inr rfl)) (pss_cons (ps_set (i := 6) sc__law_merged.nd rfl (by first | exact Or.inl rfl | exact Or.inr rfl) (pe_un un_neg pe_int))
      (pss_cons (ps_lock (ps_for PassesOwn.never rfl (pi_keys (pv 1)) (pg_name (i := 4) sc__law_merged.nd rfl (by first | exact Or.inl rfl | exact Or.inr rfl)) (pss_one (ps_if (PW.pt (pw_or (pt_cmpR op_lt (pv 6) pe_int (nomark _)) (pw_or1 (pt_cmpR op_gt (pe_op op_mul (pe_ix ix_sq (pe_dget (hu_of hr) (pv 1) (pv 4) (fun _ _ => rfl)) pe_int (fun _ _ => rfl)) (pe_ix ix_sq (pe_dget (hu_of hr) (pv 1) (pv 6) (fun _ _ => rfl)) pe_int (fun _ _ => rfl))) (pe_op op_mul (pe_ix ix_sq (pe_dget (hu_of hr) (pv 1) (pv 6) (fun _ _ => rfl)) pe_int (fun _ _ => rfl)) (pe_ix ix_sq (pe_dget (hu_of hr) (pv 1) (pv 4) (fun _ _ => rfl)) pe_int (fun _ _ => rfl))) (nomark _))))) (pss_one (ps_set (i := 6) sc__law_merged.nd rfl (by first | exact Or.inl rfl | exact Or.inr rfl) (pv 4))) pss_nil))))
      (pss_cons (ps_par (i := 7) (j := 8) (by rfl) sc__law_merged.nd rfl rfl (by decide) rfl rfl (pa_cons (pe_dpop1 (pv 1) (pv 6) (by constructor <;> rfl)) (pa_cons (pe_ix ix_sq (pe_ix ix_sq (pv 0) (pv 6) (fun _ _ => rfl)) pe_int (fun _ _ => rfl)) pa_nil)) (by rfl))
      (pss_one (ps_if (PW.pt (pw_or (pt_cmpR op_isNo (pv 8) pe_non (nomark _)) (pw_or1 (pt_cmpR op_in_seq (pv 8) (pv 3) (by rfl))))) (pss_one (ps_set (i := 3) sc__law_merged.nd rfl (by first | exact Or.inl rfl | exact Or.inr rfl) (pe_op op_catS (pv 3) (pe_ix ix_sq (pv 7) pe_int (fun _ _ => rfl))))) (pss_cons (ps_set (i := 9) sc__law_merged.nd rfl (by first | exact Or.inl rfl | exact Or.inr rfl) (pe_dget (hu_of hr) (pv 2) (pv 8) (fun _ _ => rfl)))
      (pss_cons (ps_set (i := 10) sc__law_merged.nd rfl (by first | exact Or.inl rfl | exact Or.inr rfl) (pe_dget (hu_of hr) (pv 1) (pv 9) (fun _ _ => rfl)))
      (pss_cons (ps_dput (hu_of hr) (pv 1) (pv 9) (pe_lstS (pa_cons (pe_op op_catS (pe_ix ix_sq (pv 10) pe_int (fun _ _ => rfl)) (pe_ix ix_sq (pv 7) pe_int (fun _ _ => rfl))) (pa_cons (pe_op op_add (pe_ix ix_sq (pv 10) pe_int (fun _ _ => rfl)) (pe_ix ix_sq (pv 7) pe_int (fun _ _ => rfl))) (pa_cons (pe_op op_add (pe_ix ix_sq (pv 10) pe_int (fun _ _ => rfl)) (pe_ix ix_sq (pv 7) pe_int (fun _ _ => rfl))) pa_nil)))) rfl)
      (pss_one (ps_for PassesOwn.never rfl (pi_seq (pe_ix ix_sq (pv 7) pe_int (fun _ _ => rfl))) (pg_name (i := 4) sc__law_merged.nd rfl (by first | exact Or.inl rfl | exact Or.inr rfl)) (pss_one (ps_dput (hu_of hr) (pv 2) (pv 4) (pv 9) rfl)))))))))))))
      (pss_one (ps_ret (pv 3)))))), ?_⟩
  walk_at "st"
  walk_at "go"
  intro d1 hd1
  have nd1 : New H (upd H d1 (.dK [])) d1 (.dK []) := New.upd hd1
  generalize upd H d1 (.dK []) = H1 at nd1 ⊢
  walk_at "go"
  intro d2 hd2
  have nd2 : New H1 (upd H1 d2 (.dK [])) d2 (.dK []) := New.upd hd2
  generalize upd H1 d2 (.dK []) = H2 at nd2 ⊢
  walk_at "go"
  intro o H3 n3
  walk_at "go"
  have s3 : Same H H3 := fun b o e => n3.1 _ _ (nd2.1 _ _ (nd1.1 _ _ e))
  obtain ⟨out, ho, hrv⟩ := id hrl
  have hn2 : H d2 = none := eq_none_of nd1.1 nd2.2.1
  have hne : d1 ≠ d2 := fun z => by
    subst z
    have := nd1.2.2
    rw [nd2.2.1] at this
    cases this
  refine w_len (q_l (s3 _ _ ho)) ?_
  rw [hrv.1]
  refine range_for (by omega) (by omega) (Mg1 rows r d1 d2 o H) ⟨⟨_, _, _, _, _, _, _, rfl⟩, s3, nd1.2.1, hn2, ⟨fun _ => .non, n3.1 _ _ (nd2.1 _ _ nd1.2.2), fun k hk => by simp at hk⟩, n3.1 _ _ nd2.2.2, n3.2.2, hne⟩ (fun i σ' H' hi I => ?_) (fun σ' H' I => ?_)
  · obtain ⟨⟨xa, xb, xc, xd, xe, xf, xg, rfl⟩, st, m1, m2, ⟨ff, k1, kg⟩, k2, oo, ne⟩ := I
    have hil : i < rows.length := by omega
    have ho' := st _ _ ho
    obtain ⟨ra, r1, r2⟩ := row_at (hrv.same st) hil
    walk_at "go"
    intro l1 H4 n4
    walk_at "go"
    refine w_ixn (q_l (n4.1 _ _ ho')) r1 ?_
    walk_at "go"
    refine w_ix (q_t (n4.1 _ _ r2)) rfl ?_
    walk_at "go"
    refine w_ixn (q_l (n4.1 _ _ ho')) r1 ?_
    walk_at "go"
    refine w_ix (q_t (n4.1 _ _ r2)) rfl ?_
    walk_at "go"
    intro l2 H5 n5
    walk_at "go"
    have s5 : Same H' H5 := fun b o e => n5.1 _ _ (n4.1 _ _ e)
    have k15 := s5 _ _ k1
    have hfresh : i ∉ List.range i := by simp
    refine ⟨_, _, rfl, DPut.k (k := .inl (i : Int)) k15 (small_len (by rw [kdL_len, List.length_range]; omega)), ?_⟩
    rw [putK_fresh hfresh, ← List.range_succ]
    have lt5 : LT H5 (upd H5 d1 (.dK (kdL (List.range (i + 1)) fun j => if j = i then .ref l2 else ff j))) := LT.dk k15
    have b5 : But d1 H5 (upd H5 d1 (.dK (kdL (List.range (i + 1)) fun j => if j = i then .ref l2 else ff j))) := But.upd
    have e5 : (upd H5 d1 (.dK (kdL (List.range (i + 1)) fun j => if j = i then .ref l2 else ff j))) d1 = some (.dK (kdL (List.range (i + 1)) fun j => if j = i then .ref l2 else ff j)) := upd_same
    generalize upd H5 d1 (.dK (kdL (List.range (i + 1)) fun j => if j = i then .ref l2 else ff j)) = H6 at lt5 b5 e5 ⊢
    walk_at "go"
    have k26 : H6 d2 = some (.dK (kdL (List.range i) fun (j : Nat) => .int (j : Int))) := b5 _ _ (Ne.symm ne) (s5 _ _ k2)
    refine ⟨_, _, rfl, DPut.k (k := .inl (i : Int)) k26 (small_len (by rw [kdL_len, List.length_range]; omega)), ?_⟩
    rw [putK_fresh hfresh, ← List.range_succ]
    have ef : (fun j : Nat => if j = i then V.int (i : Int) else V.int (j : Int)) = fun j : Nat => V.int (j : Int) := by
      funext j
      by_cases z : j = i
      · simp [z]
      · simp [z]
    rw [ef]
    have lt6 : LT H6 (upd H6 d2 (.dK (kdL (List.range (i + 1)) fun (j : Nat) => .int (j : Int)))) := LT.dk k26
    have b6 : But d2 H6 (upd H6 d2 (.dK (kdL (List.range (i + 1)) fun (j : Nat) => .int (j : Int)))) := But.upd
    have e6 : (upd H6 d2 (.dK (kdL (List.range (i + 1)) fun (j : Nat) => .int (j : Int)))) d2 = some (.dK (kdL (List.range (i + 1)) fun (j : Nat) => .int (j : Int))) := upd_same
    generalize upd H6 d2 (.dK (kdL (List.range (i + 1)) fun (j : Nat) => .int (j : Int))) = H7 at lt6 b6 e6 ⊢
    have ltA : LT H' H7 := (LT.of s5).trans (lt5.trans lt6)
    refine ⟨⟨_, _, _, _, _, _, _, rfl⟩, ?_, m1, m2, ⟨_, b6 _ _ ne e5, fun k hk => ?_⟩, e6, ltA.1 _ _ oo, ne⟩
    · intro a u e
      have h1 : a ≠ d1 := ne_of_none e m1
      have h2 : a ≠ d2 := ne_of_none e m2
      exact b6 _ _ h2 (b5 _ _ h1 (s5 _ _ (st _ _ e)))
    · by_cases z : k = i
      · subst z
        rw [if_pos rfl]
        refine ⟨l2, l1, rfl, ?_, (lt5.trans lt6).1 _ _ (n5.1 _ _ n4.2.2)⟩
        have := (lt5.trans lt6).1 _ _ n5.2.2
        simpa [M93.sm] using this
      · rw [if_neg z]
        have hk' : k ∈ List.range i := by
          rw [List.mem_range] at hk ⊢
          omega
        exact (kg k hk').lt ltA
  · obtain ⟨⟨xa, xb, xc, xd, xe, xf, xg, rfl⟩, mh⟩ := I
    rw [Int.toNat_natCast] at mh
    walk_at "go"
    refine w_len (q_l (mh.st _ _ ho)) ?_
    rw [hrv.1]
    refine range_for (by omega) (by omega) (Mg2 rows r d1 d2 H) ⟨o, _, _, _, _, _, _, _, rfl, _, _, _, _, mh, M93.mg_start, by simp⟩ (fun t σ' H' ht I => ?_) (fun σ' H' I => ?_)
    · obtain ⟨o, xa, xb, xc, xd, xe, xf, xg, rfl, ks, G, D, hm, ⟨st, m1, m2, ⟨ff, k1, kg⟩, k2, oo, ne⟩, mr, hlen⟩ := I
      have ho' := st _ _ ho
      have hks : ks ≠ [] := fun z => by
        subst z
        simp at hlen
        omega
      walk_at "go"
      refine ⟨_, rfl, ?_⟩
      walk_at "go"
      refine w_lock k1 fun od => ?_
      have hfd : (upd H' d1 (.frz od (.dK (kdL ks ff)))) d1 = some (.frz od (.dK (kdL ks ff))) := upd_same
      have hback : upd (upd H' d1 (.frz od (.dK (kdL ks ff)))) d1 (.dK (kdL ks ff)) = H' := upd_back k1
      have ltf : LT H' (upd H' d1 (.frz od (.dK (kdL ks ff)))) := LT.dk k1
      generalize upd H' d1 (.frz od (.dK (kdL ks ff))) = Hf at hfd hback ltf ⊢
      have dg : ∀ k ∈ ks, DGet Hf d1 (.int (k : Int)) (some (ff k)) := fun k hk => Or.inl ⟨kdL ks ff, .inl (k : Int), Or.inr ⟨od, hfd⟩, rfl, (valV_kd hk).symm⟩
      walk_at "go"
      refine keys_for hfd (fun i σ' => ∃ x b, σ' = [some (.ref r), some (.ref d1), some (.ref d2), some (.ref o), x, some (.int (t : Int)), some (.int b), xd, xe, xf, xg] ∧ Bst rows G (ks.take i) b) ⟨_, _, rfl, Or.inl ⟨rfl, rfl⟩⟩ (fun i k σ' hk P => ?_) (fun σ' P => ?_)
      · obtain ⟨x, b, rfl, hb⟩ := P
        have hkm := List.mem_of_getElem? hk
        walk_at "go"
        rcases hb with ⟨e1, rfl⟩ | ⟨k0, rfl, hk0, hbest⟩
        · refine iteT ?_
          refine iteT ?_
          walk_at "go"
          refine ⟨⟨_, _, rfl, Or.inr ⟨k, rfl, ?_, ?_⟩⟩, rfl⟩
          · rw [take_atG hk]
            simp
          · rw [take_atG hk, e1]
            intro j hj
            have : j = k := by simpa using hj
            subst this
            exact Int.le_refl _
        · have hk0m : k0 ∈ ks := List.mem_of_mem_take hk0
          obtain ⟨ga, la, ea, ha1, ha2⟩ := (kg k hkm).lt ltf
          obtain ⟨gb, lb, eb, hb1, hb2⟩ := (kg k0 hk0m).lt ltf
          have dk := dg k hkm
          have dk0 := dg k0 hk0m
          rw [ea] at dk
          rw [eb] at dk0
          have s1 := sm_small wf (js := G k) (by have := grp_len mr hkm; omega)
          have s2 := sm_small wf (js := G k0) (by have := grp_len mr hk0m; omega)
          rw [decide_eq_false (by omega : ¬ (k0 : Int) < 0)]
          refine iteF ?_
          walk_at "go"
          refine ⟨_, _, rfl, dk, ?_⟩
          walk_at "go"
          refine w_ix (q_l ha1) rfl ?_
          walk_at "go"
          refine ⟨_, _, rfl, dk0, ?_⟩
          walk_at "go"
          refine w_ix (q_l hb1) rfl ?_
          walk_at "go"
          refine w_I (Or.inl (by omega)) ?_
          walk_at "go"
          refine ⟨_, _, rfl, dk0, ?_⟩
          walk_at "go"
          refine w_ix (q_l hb1) rfl ?_
          walk_at "go"
          refine ⟨_, _, rfl, dk, ?_⟩
          walk_at "go"
          refine w_ix (q_l ha1) rfl ?_
          walk_at "go"
          refine w_I (Or.inl (by omega)) ?_
          walk_at "go"
          refine ite2 (fun h1 => ?_) (fun h1 => ?_)
          · walk_at "go"
            have h2 := of_decide_eq_true h1
            refine ⟨⟨_, _, rfl, Or.inr ⟨k, rfl, ?_, ?_⟩⟩, rfl⟩
            · rw [take_atG hk]
              simp
            · rw [take_atG hk]
              intro j hj
              rcases List.mem_append.mp hj with z | z
              · exact M93.lessEq_trans (grp_pos wf mr (List.mem_of_mem_take z)) (grp_pos wf mr hk0m) (grp_pos wf mr hkm) (hbest j z) (by unfold M93.lessEq; omega)
              · have : j = k := by simpa using z
                subst this
                exact Int.le_refl _
          · walk_at "go"
            have h2 : ¬ _ := fun z => h1 (decide_eq_true z)
            refine ⟨⟨_, _, rfl, Or.inr ⟨k0, rfl, ?_, ?_⟩⟩, rfl⟩
            · rw [take_atG hk]
              exact List.mem_append_left _ hk0
            · rw [take_atG hk]
              intro j hj
              rcases List.mem_append.mp hj with z | z
              · exact hbest j z
              · have : j = k := by simpa using z
                subst this
                unfold M93.lessEq
                omega
      · obtain ⟨x, b0, rfl, hb⟩ := P
        rw [List.take_length] at hb
        refine ⟨hfd, ?_⟩
        rw [hback]
        rcases hb with ⟨e1, _⟩ | ⟨b, rfl, hbm, hbest⟩
        · exact absurd e1 hks
        obtain ⟨gb, lb, eb, hb1, hb2⟩ := kg b hbm
        have hbn := mr.lt b hbm
        obtain ⟨ra, r1, r2⟩ := row_at (hrv.same st) hbn
        walk_at "go"
        refine ⟨_, rfl, Or.inl ⟨_, Or.inl k1⟩, ?_⟩
        walk_at "go"
        refine ⟨_, .inl (b : Int), _, k1, rfl, valV_kd hbm, ?_⟩
        rw [dropK_kd, eb]
        have lt4 : LT H' (upd H' d1 (.dK (kdL (ks.filter fun k => decide (k ≠ b)) ff))) := LT.dk k1
        have b4 : But d1 H' (upd H' d1 (.dK (kdL (ks.filter fun k => decide (k ≠ b)) ff))) := But.upd
        have e4 : (upd H' d1 (.dK (kdL (ks.filter fun k => decide (k ≠ b)) ff))) d1 = some (.dK (kdL (ks.filter fun k => decide (k ≠ b)) ff)) := upd_same
        generalize upd H' d1 (.dK (kdL (ks.filter fun k => decide (k ≠ b)) ff)) = H4 at lt4 b4 e4 ⊢
        have hrd1 : r ≠ d1 := ne_of_none ho m1
        have st4 : Same H H4 := Same.mut st m1 b4
        walk_at "go"
        refine w_ixn (q_l (st4 _ _ ho)) r1 ?_
        walk_at "go"
        refine w_ix (q_t (lt4.2 _ _ r2)) rfl ?_
        walk_at "go"
        have hlb4 := lt4.1 _ _ hb2
        have hgb4 := lt4.1 _ _ hb1
        have hoo4 := lt4.1 _ _ oo
        have k24 : H4 d2 = some (.dK (kdL (List.range rows.length) fun j => .int (hm j : Int))) := b4 _ _ (Ne.symm ne) k2
        have hflen : (ks.filter fun k => decide (k ≠ b)).length + 1 = ks.length := by
          have := (M93.ks_perm mr.nd hbm).length_eq
          simpa using this.symm
        have hDlen : D.length + (G b).length ≤ rows.length := by
          have h1 := len_flatten (List.mem_map.mpr ⟨b, hbm, rfl⟩ : G b ∈ ks.map G)
          have h2 := mr.perm.length_eq
          rw [List.length_append, List.length_range] at h2
          omega
        -- behind the order
        have one : (∀ a, parR rows b = some a → a ∈ D) → ∀ (o' : Addr) (H5 : Hp) (σ5 : L2.St), New H4 H5 o' (.lst (iv D ++ iv (G b))) → (∃ a b' c d e f g, σ5 = [some (.ref r), some (.ref d1), some (.ref d2), some (.ref o'), a, b', c, d, e, f, g]) → Mg2 rows r d1 d2 H (t + 1) σ5 H5 := fun hp o' H5 σ5 n5 ⟨a, b', c, d, e, f, g, es⟩ => by
          refine ⟨o', a, b', c, d, e, f, g, es, ks.filter (fun k => decide (k ≠ b)), G, D ++ G b, hm, ⟨fun a u e => n5.1 _ _ (st4 _ _ e), m1, m2, ⟨ff, n5.1 _ _ e4, fun k hk => (kg k (List.mem_filter.mp hk).1).lt (lt4.trans (LT.of n5.1))⟩, n5.1 _ _ k24, by rw [n5.2.2, iv_append], ne⟩, M93.mg_pop1 mr hbm hbest hp, by omega⟩
        have catD : ∀ (QV : VK), (∀ p H5, New H4 H5 p (.lst (iv D ++ iv (G b))) → QV (.ref p) H5) → rCatS (.ref o) (.ref lb) H4 QV := fun QV k => w_cat hoo4 hlb4 (by rw [iv_length, iv_length]; omega) k
        cases hpar : parR rows b with
        | none =>
          refine iteT ?_
          refine iteT ?_
          walk_at "go"
          refine w_ix (q_l hgb4) rfl ?_
          refine catD _ fun p H5 n5 => ?_
          walk_at "go"
          exact one (fun a ha => by rw [hpar] at ha; cases ha) p H5 _ n5 ⟨_, _, _, _, _, _, _, rfl⟩
        | some a =>
          refine iteF ?_
          walk_at "go"
          show rIn K false (.int (a : Int)) _ _ _
          refine w_in (q_l hoo4) ?_
          walk_at "go"
          by_cases haD : a ∈ D
          · refine ite2 (fun h1 => ?_) (fun h1 => absurd (decide_eq_true haD) (by simpa using h1))
            walk_at "go"
            refine w_ix (q_l hgb4) rfl ?_
            refine catD _ fun p H5 n5 => ?_
            walk_at "go"
            exact one (fun a' ha' => by rw [hpar] at ha'; exact Option.some.inj ha' ▸ haD) p H5 _ n5 ⟨_, _, _, _, _, _, _, rfl⟩
          · refine ite2 (fun h1 => absurd (of_decide_eq_true (by simpa using h1)) haD) (fun h1 => ?_)
            clear one catD
            obtain ⟨hh, hhb, hag, mr'⟩ := M93.mg_pop2 wf.par mr hbm hbest hpar haD
            have han : a < rows.length := Nat.lt_trans (wf.par b a hpar) hbn
            have hhf : hm a ∈ ks.filter fun k => decide (k ≠ b) := List.mem_filter.mpr ⟨hh, decide_eq_true hhb⟩
            obtain ⟨gh, lh, eh, hh1, hh2⟩ := (kg (hm a) hh).lt lt4
            walk_at "go"
            refine ⟨_, .int (hm a : Int), rfl, Or.inl ⟨_, .inl (a : Int), Or.inl k24, rfl, (valV_kd (f := fun j => V.int (hm j : Int)) (List.mem_range.mpr han)).symm⟩, ?_⟩
            walk_at "go"
            refine ⟨_, ff (hm a), rfl, Or.inl ⟨_, .inl (hm a : Int), Or.inl e4, rfl, (valV_kd hhf).symm⟩, ?_⟩
            rw [eh]
            walk_at "go"
            refine w_ix (q_l hh1) rfl ?_
            walk_at "go"
            refine w_ix (q_l hgb4) rfl ?_
            refine w_cat hh2 hlb4 (by rw [iv_length, iv_length]; have := grp_len mr hh; have := grp_len mr hbm; omega) fun p1 H5 n5 => ?_
            walk_at "go"
            refine w_ix (q_l (n5.1 _ _ hh1)) rfl ?_
            walk_at "go"
            refine w_ix (q_l (n5.1 _ _ hgb4)) rfl ?_
            walk_at "go"
            refine w_ix (q_l (n5.1 _ _ hh1)) rfl ?_
            walk_at "go"
            refine w_ix (q_l (n5.1 _ _ hgb4)) rfl ?_
            walk_at "go"
            intro p2 H6 n6
            walk_at "go"
            have s46 : Same H4 H6 := fun b o e => n6.1 _ _ (n5.1 _ _ e)
            have e46 := s46 _ _ e4
            refine ⟨_, _, rfl, DPut.k (k := .inl (hm a : Int)) e46 (small_len (by rw [kdL_len]; omega)), ?_⟩
            rw [putK_old hhf]
            have lt7 : LT H6 (upd H6 d1 (.dK (kdL (ks.filter fun k => decide (k ≠ b)) fun j => if j = hm a then .ref p2 else ff j))) := LT.dk e46
            have b7 : But d1 H6 (upd H6 d1 (.dK (kdL (ks.filter fun k => decide (k ≠ b)) fun j => if j = hm a then .ref p2 else ff j))) := But.upd
            have e7 : (upd H6 d1 (.dK (kdL (ks.filter fun k => decide (k ≠ b)) fun j => if j = hm a then .ref p2 else ff j))) d1 = some (.dK (kdL (ks.filter fun k => decide (k ≠ b)) fun j => if j = hm a then .ref p2 else ff j)) := upd_same
            generalize upd H6 d1 (.dK (kdL (ks.filter fun k => decide (k ≠ b)) fun j => if j = hm a then .ref p2 else ff j)) = H7 at lt7 b7 e7 ⊢
            walk_at "go"
            have lt47 : LT H4 H7 := (LT.of s46).trans lt7
            refine w_ix (q_l (lt47.1 _ _ hgb4)) rfl ?_
            have k27 := b7 _ _ (Ne.symm ne) (s46 _ _ k24)
            refine seq_for (q_l (lt47.1 _ _ hlb4)) (fun i σ' H8 => (∃ x, σ' = [some (.ref r), some (.ref d1), some (.ref d2), some (.ref o), x, some (.int (t : Int)), some (.int (b : Int)), some (.ref gb), some (optV (some a)), some (.int (hm a : Int)), some (.ref gh)]) ∧ But d2 H7 H8 ∧ LT H7 H8 ∧
              H8 d2 = some (.dK (kdL (List.range rows.length) fun j => .int ((if j ∈ (G b).take i then hm a else hm j : Nat) : Int)))) ⟨⟨_, rfl⟩, fun _ _ _ e => e, LT.of fun _ _ e => e, by simpa using k27⟩ (fun i σ' H8 I o e => ?_) (fun i x σ' H8 hx I => ?_) (fun σ' H8 I => ?_)
            · have h1 := lt47.1 _ _ hlb4
              rw [h1] at e
              obtain rfl := Option.some.inj e
              exact I.2.2.1.1 _ _ h1
            · obtain ⟨⟨x1, rfl⟩, b8, lt8, k28⟩ := I
              obtain ⟨j, hj1, rfl, hjl⟩ := iv_at hx
              have hjn := grp_mem mr hbm (List.mem_of_getElem? hj1)
              walk_at "go"
              refine ⟨_, _, rfl, DPut.k (k := .inl (j : Int)) k28 (small_len (by rw [kdL_len, List.length_range]; omega)), ?_⟩
              rw [putK_old (List.mem_range.mpr hjn)]
              refine ⟨⟨_, rfl⟩, fun b' o' hb' e' => by rw [upd_ne hb']; exact b8 _ _ hb' e', lt8.trans (LT.dk k28), ?_⟩
              rw [upd_same, take_at hj1]
              congr 3
              funext j'
              by_cases z : j' = j
              · subst z
                simp
              · simp [z]
            · obtain ⟨⟨x1, rfl⟩, b8, lt8, k28⟩ := I
              rw [iv_length, List.take_length] at k28
              have lt48 := lt47.trans lt8
              refine ⟨o, _, _, _, _, _, _, _, rfl, ks.filter (fun k => decide (k ≠ b)), _, D, _, ⟨fun x u e => ?_, m1, m2, ⟨_, b8 _ _ ne e7, fun k hk => ?_⟩, k28, lt48.1 _ _ hoo4, ne⟩, mr', by omega⟩
              · have h1 : x ≠ d1 := ne_of_none e m1
                have h2 : x ≠ d2 := ne_of_none e m2
                exact b8 _ _ h2 (b7 _ _ h1 (s46 _ _ (st4 _ _ e)))
              · by_cases z : k = hm a
                · subst z
                  simp only [if_true]
                  refine ⟨p2, p1, rfl, ?_, (lt7.trans lt8).1 _ _ (n6.1 _ _ (by rw [n5.2.2, iv_append]))⟩
                  have := (lt7.trans lt8).1 _ _ n6.2.2
                  rw [this, M93.sm_append, M93.sm_append]
                · simp only [z, if_false]
                  exact (kg k (List.mem_filter.mp hk).1).lt (lt4.trans lt48)
    · obtain ⟨o, xa, xb, xc, xd, xe, xf, xg, rfl, ks, G, D, hm, ⟨st, m1, m2, ⟨ff, k1, kg⟩, k2, oo, ne⟩, mr, hlen⟩ := I
      have hks : ks = [] := by
        rw [Int.toNat_natCast, Nat.sub_self] at hlen
        exact List.length_eq_zero_iff.mp hlen
      subst hks
      obtain ⟨e1, e2⟩ := M93.mg_end mr
      have vr := vo_range wf
      walk_at "go"
      exact q o H' D st oo ⟨e1, (e2 _ vr.perm vr.val).1⟩ fun ys vo => (e2 ys vo.perm vo.val).2
end

end Cw
end

/-! text C93_isswap -/
section
set_option Elab.async false
set_option linter.all false
set_option maxRecDepth 100000
set_option maxHeartbeats 4000000
namespace Cw
open PySem PySem.Spec PyProof.Rows L2
local macro_rules | `(tactic| walk_at "go1") => `(tactic| with_reducible first
  | refine w_seq ?_ | refine w_asgN ?_ | refine w_asgG ?_ | refine w_drop ?_ | refine w_ret ?_ | refine w_if ?_ | refine w_next ?_
  | refine w_var rfl ?_ | refine w_c ?_ | refine w_op ?_ | refine w_un ?_ | refine w_cb ?_ | refine w_cons ?_ | refine w_nil ?_ | refine w_call ?_
  | refine w_test ?_ | refine w_tB ?_ | refine w_bl ?_ | refine w_and ?_ | refine w_or ?_ | refine w_not ?_ | refine w_andV ?_ | refine w_orV ?_ | refine w_notV ?_ | refine w_ifE ?_ | refine w_blv ?_
  | refine w_I0 ?_ | refine w_eqI ?_ | refine w_neI ?_ | refine w_isN ?_ | refine w_notN ?_ | refine w_chain ?_ | refine w_for ?_ | refine w_iSeq ?_ | refine w_iR1 ?_ | refine w_iR2 ?_ | refine w_lc ?_
  | refine w_tupS ?_ | refine w_lstS ?_ | refine w_gN ?_ | refine w_gCons ?_ | refine w_gNil ?_ | refine w_aug rfl ?_ | refine w_ip ?_ | refine w_par ?_ | refine w_par2 ?_ | refine w_par3 ?_ | refine w_par33 ?_ | refine w_small (by first | decide | (simp only [List.length_cons, List.length_nil]; decide)) ?_ | refine w_bmL ?_ | refine w_gSub ?_ | refine w_lc2 ?_ | refine w_iEnum ?_ | refine w_yes ?_ | refine w_chN ?_ | refine w_chC ?_ | refine w_chL ?_ | refine w_tSl ?_ | refine w_pN ?_ | refine w_pS ?_ | refine w_pI ?_ | refine w_star ?_ | refine w_lrg ?_ | refine w_dget ?_ | refine w_dnotin ?_ | refine w_dget2 ?_ | refine w_dput ?_ | refine w_revR ?_ | refine w_cont ?_ | refine w_dpop ?_ | refine w_iKeys ?_)
local macro_rules | `(tactic| walk_at "hp") => `(tactic| (first | assumption | exact g_at (by assumption) | exact g_cat (by assumption) | (refine g_same (by assumption) ?_ ; walk_at "hp") | (refine g_new (by assumption) ?_ ; walk_at "hp") | (refine q_same (by assumption) ?_ ; walk_at "hp") | (refine q_new (by assumption) ?_ ; walk_at "hp")))
local macro_rules | `(tactic| walk_at "go") => `(tactic| repeat' walk_at "go1")
local macro_rules | `(tactic| walk_at "st") => `(tactic| simp only [cxK, L2.start, List.map_cons, List.map_nil, List.length_cons, List.length_nil, Nat.reduceAdd, Nat.reduceSub, List.replicate, List.cons_append, List.nil_append])

--import merged
def spIsSwap : Sp := fun vs H Q _ => ∃ r a v rows js o, vs = [V.ref r, .ref a, v] ∧ RowsL H r rows ∧ WfR rows ∧ H a = some (.lst (iv js)) ∧ VO rows js ∧ SwV H v o ∧ ∀ H', Same H H' → Q (.bl (swR rows js o)) H'
def spAfter : Sp := fun vs H Q _ => ∃ a v js i j k, vs = [V.ref a, v] ∧ H a = some (.lst (iv js)) ∧ SwV H v (some (i, j, k)) ∧ js.length ≤ 1000 ∧ 0 ≤ i ∧ i < j ∧ j < k ∧ k ≤ (js.length : Int) ∧ ∀ p H', New H H' p (.lst (iv (swJ js i j k))) → Q (.ref p) H'
theorem freeB_iff {rows : List Row} {A B : List Nat} : freeB rows A B = true ↔ ∀ x ∈ B, freeB rows A [x] = true := by
  unfold freeB
  rw [List.all_eq_true]
  constructor
  · intro h x hx
    simpa using h x hx
  · intro h x hx
    simpa using h x hx
/-- what is left of the climb -/
def climb (rows : List Row) (A : List Nat) : Option Nat → Bool
  | none => true
  | some a => !decide (a ∈ A) && freeB rows A [a]
theorem free_climb {rows : List Row} (wf : WfR rows) {A : List Nat} (j : Nat) : freeB rows A [j] = climb rows A (parR rows j) := by
  have h := anc_eq wf.par j
  unfold freeB
  simp only [List.all_cons, List.all_nil, Bool.and_true]
  rw [h]
  cases e : parR rows j with
  | none => rfl
  | some a =>
    unfold climb freeB
    simp only [List.all_append, List.all_cons, List.all_nil, Bool.and_true]
    rw [Bool.and_comm]
theorem TupK.no {H : Hp} {v : V} {n : Int} (h : TupK H v n false) : (∃ a xs, v = .ref a ∧ H a = some (.tup xs) ∧ ¬ (xs.length : Int) = n) ∨ (∃ a xs, v = .ref a ∧ H a = some (.lst xs)) ∨ v = .non ∨ ∃ s, v = .str s := by
  generalize hb : false = b at h
  cases h with
  | tup h => exact Or.inl ⟨_, _, rfl, h, of_decide_eq_false hb.symm⟩
  | lst h => exact Or.inr (Or.inl ⟨_, _, rfl, h⟩)
  | non => exact Or.inr (Or.inr (Or.inl rfl))
  | str => exact Or.inr (Or.inr (Or.inr ⟨_, rfl⟩))
structure SwO (r a va : Addr) (i j k : Nat) (rows : List Row) (js : List Nat) (H0 : Hp) (m : Nat) (σ : L2.St) (H : Hp) : Prop where
  sl : ∃ x y z u, σ = [some (.ref r), some (.ref a), some (.ref va), x, some (.int (i : Int)), some (.int (j : Int)), some (.int (k : Int)), y, z, u]
  st : Same H0 H
  fr : ∀ x ∈ (cutN js j k).take m, freeB rows (cutN js i j) [x] = true
structure SwI (r a va : Addr) (i j k : Nat) (rows : List Row) (js : List Nat) (H0 : Hp) (x : Nat) (m : Nat) (σ : L2.St) (H : Hp) : Prop where
  sl : ∃ cur : Option Nat, (∃ x y u, σ = [some (.ref r), some (.ref a), some (.ref va), x, some (.int (i : Int)), some (.int (j : Int)), some (.int (k : Int)), y, some (optV cur), u]) ∧ (∀ c, cur = some c → c + m < rows.length) ∧ freeB rows (cutN js i j) [x] = climb rows (cutN js i j) cur
  st : Same H0 H
section
variable {P : Program} {w : World} {K : PySem.W.Frag} {mg : Str → Option Value} {base : Heap} {CS CC CI CB : Addr}
theorem ok_law_is_swap (D : Df K mg "_law_is_swap" s__law_is_swap) (T : Txt K mg CS CC) : Dn P w K mg base CX0 1 "_law_is_swap" s__law_is_swap p__law_is_swap spIsSwap := by
  refine dn_ok D sc__law_is_swap (fun vs H Q E h => by obtain ⟨_, _, _, _, _, _, rfl, _⟩ := h; rfl) fun f cdv A outer s H vs Q E hr h => ?_
  obtain ⟨r, a, v, rows, js, o, rfl, hrl, wf, ha, vo, hv, q⟩ := h
  have wl := wf.len
  have hl := vo.len
  have hq : Sq K H a (iv js) := q_l ha
  refine ⟨_, (pss_cons (ps_if (PW.pt (pw_or (pt_not (pt_val (pe_callB call_isi (by rfl) T.isinstance (by decide +kernel) (pa_cons (pv 2) (pa_cons (pe_bltn (v := V.ty "tuple") (u := .type "tuple") (by rfl) T.tuple (by decide +kernel) rfl) pa_nil))))) (pw_or1 (pt_cmpR op_ne (pe_callB call_lenQ (by rfl) T.len (by decide +kernel) (pa_cons (pv 2) pa_nil)) pe_int (nomark _))))) (pss_one (ps_ret pe_bl)) pss_nil)
      (pss_cons (ps_for PassesOwn.never rfl (pi_seq (pv 2)) (pg_name (i := 3) sc__law_is_swap.nd rfl (by first | exact Or.inl rfl | exact Or.inr rfl)) (pss_one (ps_if (PW.pt (pw_or (pt_not (pt_val (pe_callB call_isi (by rfl) T.isinstance (by decide +kernel) (pa_cons (pv 3) (pa_cons (pe_bltn (v := V.ty "int") (u := .type "int") (by rfl) T.int (by decide +kernel) rfl) pa_nil))))) (pw_or1 (pt_val (pe_callB call_isi (by rfl) T.isinstance (by decide +kernel) (pa_cons (pv 3) (pa_cons (pe_bltn (v := V.ty "bool") (u := .type "bool") (by rfl) T.bool (by decide +kernel) rfl) pa_nil))))))) (pss_one (ps_ret pe_bl)) pss_nil)))
      (pss_cons (ps_asg (pv 2) (pg_tup (n := 3) rfl (pgs_cons (pg_name (i := 4) sc__law_is_swap.nd rfl (by first | exact Or.inl rfl | exact Or.inr rfl)) (pgs_cons (pg_name (i := 5) sc__law_is_swap.nd rfl (by first | exact Or.inl rfl | exact Or.inr rfl)) (pgs_cons (pg_name (i := 6) sc__law_is_swap.nd rfl (by first | exact Or.inl rfl | exact Or.inr rfl)) pgs_nil)))))
      (pss_cons (ps_if (pt_not (pt_chN pe_int (ptc_cons op_le (pv 4) (ptc_cons op_lt (pv 5) (ptc_cons op_lt (pv 6) (ptc_last op_le (pe_callB call_lenQ (by rfl) T.len (by decide +kernel) (pa_cons (pv 1) pa_nil)))))))) (pss_one (ps_ret pe_bl)) pss_nil)
      (pss_cons (ps_for PassesOwn.never rfl (pi_seq (pe_slice sl_s (pv 1) (po_some (pv 5)) (po_some (pv 6)))) (pg_name (i := 7) sc__law_is_swap.nd rfl (by first | exact Or.inl rfl | exact Or.inr rfl)) (pss_cons (ps_set (i := 8) sc__law_is_swap.nd rfl (by first | exact Or.inl rfl | exact Or.inr rfl) (pe_ix ix_sq (pe_ix ix_sq (pv 0) (pv 7) (fun _ _ => rfl)) pe_int (fun _ _ => rfl)))
      (pss_one (ps_for PassesOwn.never rfl (pi_range1 (by rfl) T.range (pa_cons (pe_callB call_lenQ (by rfl) T.len (by decide +kernel) (pa_cons (pv 0) pa_nil)) pa_nil)) (pg_name (i := 9) sc__law_is_swap.nd rfl (by first | exact Or.inl rfl | exact Or.inr rfl)) (pss_cons (ps_if (pt_cmpR op_isNo (pv 8) pe_non (nomark _)) (pss_one ps_break) pss_nil)
      (pss_cons (ps_if (pt_cmpR op_in_seq (pv 8) (pe_slice sl_s (pv 1) (po_some (pv 4)) (po_some (pv 5))) (by rfl)) (pss_one (ps_ret pe_bl)) pss_nil)
      (pss_one (ps_set (i := 8) sc__law_is_swap.nd rfl (by first | exact Or.inl rfl | exact Or.inr rfl) (pe_ix ix_sq (pe_ix ix_sq (pv 0) (pv 8) (fun _ _ => rfl)) pe_int (fun _ _ => rfl))))))))))
      (pss_one (ps_ret pe_bl))))))), ?_⟩
  walk_at "st"
  walk_at "go"
  cases hv with
  | off h =>
    rcases h.no with ⟨va, xs, rfl, h2, hne⟩ | ⟨va, xs, rfl, h2⟩ | rfl | ⟨t, rfl⟩
    · refine w_isi (t := "tuple") (b := true) (by decide +kernel) (.base (.tup h2)) ?_
      walk_at "go"
      refine iteF ?_
      walk_at "go"
      refine w_len (q_t h2) ?_
      walk_at "go"
      rw [decide_eq_false hne]
      refine iteT ?_
      walk_at "go"
      exact q _ fun _ _ e => e
    · refine w_isi (t := "list") (b := false) (by decide +kernel) (.base (.lst h2)) ?_
      walk_at "go"
      refine iteT ?_
      refine iteT ?_
      walk_at "go"
      exact q _ fun _ _ e => e
    · refine w_isi (t := "NoneType") (b := false) (by decide +kernel) (.base .non) ?_
      walk_at "go"
      refine iteT ?_
      refine iteT ?_
      walk_at "go"
      exact q _ fun _ _ e => e
    · refine w_isi (t := "str") (b := false) (by decide +kernel) (.base (.str _)) ?_
      walk_at "go"
      refine iteT ?_
      refine iteT ?_
      walk_at "go"
      exact q _ fun _ _ e => e
  | boo h =>
    rename_i va b c k
    refine w_isi (t := "tuple") (b := true) (by decide +kernel) (.base (.tup h)) ?_
    walk_at "go"
    refine iteF ?_
    walk_at "go"
    refine w_len (q_t h) ?_
    walk_at "go"
    refine iteF ?_
    walk_at "go"
    refine seq_for (q_t h) (fun i σ' H' => i = 0 ∧ σ' = [some (.ref r), some (.ref a), some (.ref va), none, none, none, none, none, none, none] ∧ H' = H) ⟨rfl, rfl, rfl⟩ (fun i σ' H' I o e => ?_) (fun i x σ' H' hx I => ?_) (fun σ' H' I => ?_)
    · rw [I.2.2]
      exact e
    · obtain ⟨rfl, rfl, rfl⟩ := I
      have ex : x = .bl b := by simpa using hx.symm
      subst ex
      walk_at "go"
      refine w_isi (t := "bool") (b := true) (by decide +kernel) (.base (.bl b)) ?_
      walk_at "go"
      refine iteF ?_
      walk_at "go"
      refine w_isi (t := "bool") (b := true) (by decide +kernel) (.base (.bl b)) ?_
      walk_at "go"
      refine iteT ?_
      walk_at "go"
      exact q _ fun _ _ e => e
    · cases I.1
  | tri h =>
    rename_i va i j k
    refine w_isi (t := "tuple") (b := true) (by decide +kernel) (.base (.tup h)) ?_
    walk_at "go"
    refine iteF ?_
    walk_at "go"
    refine w_len (q_t h) ?_
    walk_at "go"
    refine iteF ?_
    walk_at "go"
    refine seq_for (q_t h) (fun i σ' H' => (∃ x, σ' = [some (.ref r), some (.ref a), some (.ref va), x, none, none, none, none, none, none]) ∧ H' = H) ⟨⟨_, rfl⟩, rfl⟩ (fun i σ' H' I o e => ?_) (fun m x σ' H' hx I => ?_) (fun σ' H' I => ?_)
    · rw [I.2]
      exact e
    · obtain ⟨⟨y, rfl⟩, rfl⟩ := I
      obtain ⟨z, rfl⟩ : ∃ z : Int, x = .int z := by
        have hm := List.mem_of_getElem? hx
        simp only [List.mem_cons, List.not_mem_nil, or_false] at hm
        rcases hm with z | z | z
        · exact ⟨_, z⟩
        · exact ⟨_, z⟩
        · exact ⟨_, z⟩
      walk_at "go"
      refine w_isi (t := "int") (b := true) (by decide +kernel) (.base (.int z)) ?_
      walk_at "go"
      refine iteF ?_
      walk_at "go"
      refine w_isi (t := "int") (b := false) (by decide +kernel) (.base (.int z)) ?_
      walk_at "go"
      refine iteF ?_
      walk_at "go"
      exact ⟨⟨_, rfl⟩, rfl⟩
    · obtain ⟨⟨y, rfl⟩, rfl⟩ := I
      walk_at "go"
      refine w_gTup h rfl ?_
      walk_at "go"
      have no : ¬ (0 ≤ i ∧ i < j ∧ j < k ∧ k ≤ (rows.length : Int)) → Q (.bl false) H' := fun hn => by
        have := q H' fun _ _ e => e
        have e : swR rows js (some (i, j, k)) = false := by
          show swB rows js i j k = false
          unfold swB
          rw [decide_eq_false hn]
          rfl
        rw [e] at this
        exact this
      refine ite2 (fun h1 => ?_) (fun h1 => ?_)
      rotate_left
      · walk_at "go"
        refine iteT ?_
        walk_at "go"
        exact no fun z => h1 (decide_eq_true z.1)
      walk_at "go"
      refine ite2 (fun h2 => ?_) (fun h2 => ?_)
      rotate_left
      · walk_at "go"
        refine iteT ?_
        walk_at "go"
        exact no fun z => h2 (decide_eq_true z.2.1)
      walk_at "go"
      refine ite2 (fun h3 => ?_) (fun h3 => ?_)
      rotate_left
      · walk_at "go"
        refine iteT ?_
        walk_at "go"
        exact no fun z => h3 (decide_eq_true z.2.2.1)
      walk_at "go"
      refine w_len hq ?_
      walk_at "go"
      rw [iv_length, hl]
      refine ite2 (fun h4 => ?_) (fun h4 => ?_)
      · walk_at "go"
        exact no fun z => by
          have := z.2.2.2
          simp [this] at h4
      walk_at "go"
      have g1 := of_decide_eq_true h1
      have g2 := of_decide_eq_true h2
      have g3 := of_decide_eq_true h3
      have g4 : k ≤ (rows.length : Int) := by
        by_cases z : k ≤ (rows.length : Int)
        · exact z
        · simp [z] at h4
      obtain ⟨i', rfl⟩ := Int.eq_ofNat_of_zero_le g1
      obtain ⟨j', rfl⟩ := Int.eq_ofNat_of_zero_le (show 0 ≤ j by omega)
      obtain ⟨k', rfl⟩ := Int.eq_ofNat_of_zero_le (show 0 ≤ k by omega)
      have eR : swR rows js (some ((i' : Int), (j' : Int), (k' : Int))) = freeB rows (cutN js i' j') (cutN js j' k') := by
        show swB rows js _ _ _ = _
        unfold swB
        rw [decide_eq_true ⟨g1, g2, g3, g4⟩]
        simp
      rw [eR] at q
      obtain ⟨out, ho, hrv⟩ := id hrl
      refine w_cut hq (by omega) (by omega) (Or.inl (by omega)) fun p1 H1 s1 np1 e1 => ?_
      refine seq_for e1 (SwO r a va i' j' k' rows js H1) ⟨⟨_, _, _, _, rfl⟩, fun _ _ e => e, fun x hx => by simp at hx⟩ (fun m σ' H2 I o e => I.st _ _ e) (fun m x σ' H2 hx I => ?_) (fun σ' H2 I => ?_)
      · obtain ⟨⟨xa, xb, xc, xd, rfl⟩, st, fr⟩ := I
        obtain ⟨y, hy, rfl, hyl⟩ := iv_at hx
        have hyn := vo.lt (cutN_mem (List.mem_of_getElem? hy))
        have s2 : Same H' H2 := fun b o e => st _ _ (s1 _ _ e)
        obtain ⟨ra, r1, r2⟩ := row_at (hrv.same s2) hyn
        walk_at "go"
        refine w_ixn (q_l (s2 _ _ ho)) r1 ?_
        walk_at "go"
        refine w_ix (q_t r2) rfl ?_
        walk_at "go"
        refine w_len (q_l (s2 _ _ ho)) ?_
        rw [hrv.1]
        have fin : ∀ (cur : Option Nat) (H3 : Hp) (σ3 : L2.St), cur = none → freeB rows (cutN js i' j') [y] = climb rows (cutN js i' j') cur → Same H1 H3 → (∃ x y z u, σ3 = [some (.ref r), some (.ref a), some (.ref va), x, some (.int (i' : Int)), some (.int (j' : Int)), some (.int (k' : Int)), y, z, u]) → SwO r a va i' j' k' rows js H1 (m + 1) σ3 H3 := fun cur H3 σ3 hc he hs sl => by
          subst hc
          refine ⟨sl, hs, fun x hx => ?_⟩
          rw [take_at hy] at hx
          rcases List.mem_append.mp hx with z | z
          · exact fr x z
          · have : x = y := by simpa using z
            subst this
            exact he
        refine range_for (by omega) (by omega) (SwI r a va i' j' k' rows js H1 y) ⟨⟨parR rows y, ⟨_, _, _, rfl⟩, fun c hc => by have := wf.par y c hc; omega, free_climb wf y⟩, st⟩ (fun t σ3 H3 ht I => ?_) (fun σ3 H3 I => ?_)
        · obtain ⟨⟨cur, ⟨ya, yb, yc, rfl⟩, hcur, he⟩, st3⟩ := I
          have s3 : Same H' H3 := fun b o e => st3 _ _ (s1 _ _ e)
          walk_at "go"
          cases cur with
          | none =>
            refine iteT ?_
            show SwO r a va i' j' k' rows js H1 (m + 1) _ H3
            exact fin none H3 _ rfl he st3 ⟨_, _, _, _, rfl⟩
          | some c =>
            have hcn := hcur c rfl
            refine iteF ?_
            walk_at "go"
            refine w_cut (hq.same s3) (by omega) (by omega) (Or.inr (by omega)) fun p2 H4 s4 np2 e4 => ?_
            show rIn K false (.int (c : Int)) _ _ _
            refine w_in e4 ?_
            walk_at "go"
            have s34 : Same H' H4 := fun b o e => s4 _ _ (s3 _ _ e)
            by_cases hm : c ∈ cutN js i' j'
            · refine ite2 (fun _ => ?_) (fun h1 => absurd (decide_eq_true hm) (by simpa using h1))
              walk_at "go"
              have hf : freeB rows (cutN js i' j') (cutN js j' k') = false := by
                cases hz : freeB rows (cutN js i' j') (cutN js j' k') with
                | false => rfl
                | true =>
                  have := freeB_iff.mp hz y (List.mem_of_getElem? hy)
                  rw [he] at this
                  have this : (!decide (c ∈ cutN js i' j') && freeB rows (cutN js i' j') [c]) = true := this
                  rw [decide_eq_true hm] at this
                  cases this
              have := q H4 s34
              rw [hf] at this
              exact this
            · refine ite2 (fun h1 => absurd (of_decide_eq_true (by simpa using h1)) hm) (fun _ => ?_)
              walk_at "go"
              obtain ⟨rc, c1, c2⟩ := row_at (hrv.same s34) (show c < rows.length by omega)
              refine w_ixn (q_l (s34 _ _ ho)) c1 ?_
              walk_at "go"
              refine w_ix (q_t c2) rfl ?_
              walk_at "go"
              refine ⟨⟨parR rows c, ⟨_, _, _, rfl⟩, fun c' hc' => by have := wf.par c c' hc'; omega, ?_⟩, fun b o e => s4 _ _ (st3 _ _ e)⟩
              rw [he, ← free_climb wf c]
              show (!decide (c ∈ cutN js i' j') && freeB rows (cutN js i' j') [c]) = _
              rw [decide_eq_false hm]
              rfl
        · obtain ⟨⟨cur, ⟨ya, yb, yc, rfl⟩, hcur, he⟩, st3⟩ := I
          rw [Int.toNat_natCast] at hcur
          have hn : cur = none := by
            cases cur with
            | none => rfl
            | some c =>
              have := hcur c rfl
              omega
          exact fin cur H3 _ hn he st3 ⟨_, _, _, _, rfl⟩
      · obtain ⟨⟨xa, xb, xc, xd, rfl⟩, st, fr⟩ := I
        rw [iv_length, List.take_length] at fr
        walk_at "go"
        have := q H2 fun b o e => st _ _ (s1 _ _ e)
        rw [freeB_iff.mpr fr] at this
        exact this
theorem ok_law_after (D : Df K mg "_law_after" s__law_after) : Dn P w K mg base CX0 1 "_law_after" s__law_after p__law_after spAfter := by
  refine dn_ok D sc__law_after (fun vs H Q E h => by obtain ⟨_, _, _, _, _, _, rfl, _⟩ := h; rfl) fun f cdv A outer s H vs Q E hr h => ?_
  obtain ⟨a, v, js, i, j, k, rfl, ha, hv, hl, h1, h2, h3, h4, q⟩ := h
  obtain ⟨va, rfl, hva⟩ := hv.tri_at
  obtain ⟨i', rfl⟩ := Int.eq_ofNat_of_zero_le h1
  obtain ⟨j', rfl⟩ := Int.eq_ofNat_of_zero_le (show 0 ≤ j by omega)
  obtain ⟨k', rfl⟩ := Int.eq_ofNat_of_zero_le (show 0 ≤ k by omega)
  refine ⟨_, (pss_cons (ps_asg (pv 1) (pg_tup (n := 3) rfl (pgs_cons (pg_name (i := 2) sc__law_after.nd rfl (by first | exact Or.inl rfl | exact Or.inr rfl)) (pgs_cons (pg_name (i := 3) sc__law_after.nd rfl (by first | exact Or.inl rfl | exact Or.inr rfl)) (pgs_cons (pg_name (i := 4) sc__law_after.nd rfl (by first | exact Or.inl rfl | exact Or.inr rfl)) pgs_nil)))))
      (pss_one (ps_ret (pe_op op_catS (pe_op op_catS (pe_op op_catS (pe_slice sl_s (pv 0) po_none (po_some (pv 2))) (pe_slice sl_s (pv 0) (po_some (pv 3)) (po_some (pv 4)))) (pe_slice sl_s (pv 0) (po_some (pv 2)) (po_some (pv 3)))) (pe_slice sl_s (pv 0) (po_some (pv 4)) po_none))))), ?_⟩
  have cl : ∀ (H0 : Hp) (lo hi : Option Int) (QV : VK), H0 a = some (.lst (iv js)) → (∀ p H', New H0 H' p (.lst (cutV (iv js) lo hi)) → QV (.ref p) H') → rSlS K (.ref a) lo hi H0 QV := fun H0 lo hi QV e k => Or.inl ⟨a, _, rfl, Or.inl (Or.inl e), k⟩
  walk_at "st"
  walk_at "go"
  refine w_gTup hva rfl ?_
  walk_at "go"
  refine cl _ _ _ _ ha fun p1 H1 n1 => ?_
  walk_at "go"
  refine cl _ _ _ _ (n1.1 _ _ ha) fun p2 H2 n2 => ?_
  rw [cut_to _ (by rw [iv_length]; omega)] at n1
  rw [cut_mid _ (by omega) (by rw [iv_length]; omega), iv_cut] at n2
  have e1 : (iv js).take i' = iv (js.take i') := by unfold iv; rw [← List.map_take]
  have c1 := cutN_len (js := js) (a := i') (b := j')
  have c2 := cutN_len (js := js) (a := j') (b := k')
  unfold cutN at c1 c2
  rw [e1] at n1
  refine w_cat (n2.1 _ _ n1.2.2) n2.2.2 (by simp [iv_length]; omega) fun p3 H3 n3 => ?_
  walk_at "go"
  have s3 : Same H H3 := fun b o e => n3.1 _ _ (n2.1 _ _ (n1.1 _ _ e))
  refine cl _ _ _ _ (s3 _ _ ha) fun p4 H4 n4 => ?_
  rw [cut_mid _ (by omega) (by rw [iv_length]; omega), iv_cut] at n4
  refine w_cat (n4.1 _ _ n3.2.2) n4.2.2 (by simp [iv_length]; omega) fun p5 H5 n5 => ?_
  walk_at "go"
  have s5 : Same H H5 := fun b o e => n5.1 _ _ (n4.1 _ _ (s3 _ _ e))
  refine cl _ _ _ _ (s5 _ _ ha) fun p6 H6 n6 => ?_
  rw [cut_from _ (by rw [iv_length]; omega)] at n6
  have e2 : (iv js).drop k' = iv (js.drop k') := by unfold iv; rw [← List.map_drop]
  rw [e2] at n6
  refine w_cat (n6.1 _ _ n5.2.2) n6.2.2 (by simp [iv_length]; omega) fun p7 H7 n7 => ?_
  refine q p7 H7 (New.from (fun b o e => n6.1 _ _ (s5 _ _ e)) ⟨n7.1, n7.2.1, ?_⟩)
  rw [n7.2.2]
  unfold swJ cutN
  simp only [Int.toNat_natCast, iv_append, List.append_assoc]
end

end Cw
end

/-! text C93_asked -/
section
set_option Elab.async false
set_option linter.all false
set_option maxRecDepth 100000
set_option maxHeartbeats 4000000
namespace Cw
open PySem PySem.Spec PyProof.Rows L2
local macro_rules | `(tactic| walk_at "go1") => `(tactic| with_reducible first
  | refine w_seq ?_ | refine w_asgN ?_ | refine w_asgG ?_ | refine w_drop ?_ | refine w_ret ?_ | refine w_if ?_ | refine w_next ?_
  | refine w_var rfl ?_ | refine w_c ?_ | refine w_op ?_ | refine w_un ?_ | refine w_cb ?_ | refine w_cons ?_ | refine w_nil ?_ | refine w_call ?_
  | refine w_test ?_ | refine w_tB ?_ | refine w_bl ?_ | refine w_and ?_ | refine w_or ?_ | refine w_not ?_ | refine w_andV ?_ | refine w_orV ?_ | refine w_notV ?_ | refine w_ifE ?_ | refine w_blv ?_
  | refine w_I0 ?_ | refine w_eqI ?_ | refine w_neI ?_ | refine w_isN ?_ | refine w_notN ?_ | refine w_chain ?_ | refine w_for ?_ | refine w_iSeq ?_ | refine w_iR1 ?_ | refine w_iR2 ?_ | refine w_lc ?_
  | refine w_tupS ?_ | refine w_lstS ?_ | refine w_gN ?_ | refine w_gCons ?_ | refine w_gNil ?_ | refine w_aug rfl ?_ | refine w_ip ?_ | refine w_par ?_ | refine w_par2 ?_ | refine w_par3 ?_ | refine w_par33 ?_ | refine w_small (by first | decide | (simp only [List.length_cons, List.length_nil]; decide)) ?_ | refine w_bmL ?_ | refine w_gSub ?_ | refine w_lc2 ?_ | refine w_iEnum ?_ | refine w_yes ?_ | refine w_chN ?_ | refine w_chC ?_ | refine w_chL ?_ | refine w_tSl ?_ | refine w_pN ?_ | refine w_pS ?_ | refine w_pI ?_ | refine w_star ?_ | refine w_lrg ?_ | refine w_dget ?_ | refine w_dnotin ?_ | refine w_dget2 ?_ | refine w_dput ?_ | refine w_revR ?_ | refine w_cont ?_ | refine w_dpop ?_ | refine w_iKeys ?_)
local macro_rules | `(tactic| walk_at "hp") => `(tactic| (first | assumption | exact g_at (by assumption) | exact g_cat (by assumption) | (refine g_same (by assumption) ?_ ; walk_at "hp") | (refine g_new (by assumption) ?_ ; walk_at "hp") | (refine q_same (by assumption) ?_ ; walk_at "hp") | (refine q_new (by assumption) ?_ ; walk_at "hp")))
local macro_rules | `(tactic| walk_at "go") => `(tactic| repeat' walk_at "go1")
local macro_rules | `(tactic| walk_at "st") => `(tactic| simp only [cxK, L2.start, List.map_cons, List.map_nil, List.length_cons, List.length_nil, Nat.reduceAdd, Nat.reduceSub, List.replicate, List.cons_append, List.nil_append])

--import isswap
def gk_21 {α : Type} : List α → List α
  | [a, b] => [b, a]
  | _ => []
def gk_321 {α : Type} : List α → List α
  | [a, b, c] => [c, b, a]
  | _ => []
def gk_231 {α : Type} : List α → List α
  | [a, b, c] => [b, c, a]
  | _ => []
def gk_312 {α : Type} : List α → List α
  | [a, b, c] => [c, a, b]
  | _ => []
theorem vk_21 {zs : List V} {ws : List Value} (h : Vals zs ws) : Vals (gk_21 zs) (gk_21 ws) := by
  cases h with
  | nil => exact .nil
  | cons r1 h => cases h with
    | nil => exact .nil
    | cons r2 h => cases h with
      | nil => exact .cons r2 (.cons r1 .nil)
      | cons r3 h => exact .nil
theorem vk_321 {zs : List V} {ws : List Value} (h : Vals zs ws) : Vals (gk_321 zs) (gk_321 ws) := by
  cases h with
  | nil => exact .nil
  | cons r1 h => cases h with
    | nil => exact .nil
    | cons r2 h => cases h with
      | nil => exact .nil
      | cons r3 h => cases h with
        | nil => exact .cons r3 (.cons r2 (.cons r1 .nil))
        | cons r4 h => exact .nil
theorem vk_231 {zs : List V} {ws : List Value} (h : Vals zs ws) : Vals (gk_231 zs) (gk_231 ws) := by
  cases h with
  | nil => exact .nil
  | cons r1 h => cases h with
    | nil => exact .nil
    | cons r2 h => cases h with
      | nil => exact .nil
      | cons r3 h => cases h with
        | nil => exact .cons r2 (.cons r3 (.cons r1 .nil))
        | cons r4 h => exact .nil
theorem vk_312 {zs : List V} {ws : List Value} (h : Vals zs ws) : Vals (gk_312 zs) (gk_312 ws) := by
  cases h with
  | nil => exact .nil
  | cons r1 h => cases h with
    | nil => exact .nil
    | cons r2 h => cases h with
      | nil => exact .nil
      | cons r3 h => cases h with
        | nil => exact .cons r3 (.cons r1 (.cons r2 .nil))
        | cons r4 h => exact .nil
def impB (rows : List Row) (js : List Nat) : Option (Int × Int × Int) → Bool
  | none => false
  | some (i, j, k) => swB rows js i j k && decide (0 < swG rows js i j k)
/-- [word, v] goes out -/
def Told (t : Str) (Q : VK) (v : V) (H : Hp) : Prop := ∀ p H', New H H' p (.lst [.str t, v]) → Q (.ref p) H'
inductive Ask (rows : List Row) (js : List Nat) (last : V) (H : Hp) (Q : VK) : Int → Prop
  | w0 (h1 : NoImp rows js → ∀ H', Same H H' → Told "told" Q .non H') (h2 : ∀ i j e : Nat, swB rows js i j e = true → 0 < swG rows js i j e → ∀ p H', New H H' p (triV i j e) → Told "told" Q (.ref p) H') : Ask rows js last H Q 0
  | w1 (h : ∀ b H', (b = true ↔ NoImp rows js) → Same H H' → Told "told" Q (.bl b) H') : Ask rows js last H Q 1
  | w2 (o : Option (Int × Int × Int)) (hv : SwV H last o) (h : ∀ H', Same H H' → Told "told" Q (.bl (impB rows js o)) H') : Ask rows js last H Q 2
  | w3 (o : Option (Int × Int × Int)) (hv : SwV H last o) (h1 : ∀ i j k, o = some (i, j, k) → swB rows js i j k = true → ∀ H', Same H H' → Told "told" Q (.int (swG rows js i j k)) H') (h2 : swR rows js o = false → ∀ H', Same H H' → Told "swap" Q last H') : Ask rows js last H Q 3
  | w4 (o : Option (Int × Int × Int)) (hv : SwV H last o) (h1 : ∀ i j k, o = some (i, j, k) → swB rows js i j k = true → ∀ p H', New H H' p (.lst (iv (swJ js i j k))) → Told "told" Q (.ref p) H') (h2 : swR rows js o = false → ∀ H', Same H H' → Told "swap" Q last H') : Ask rows js last H Q 4
  | w5 (h : ∀ H', Same H H' → Told "told" Q (.int (M93.cost (pR rows) (wR rows) 0 js)) H') : Ask rows js last H Q 5
def spAsked (CS : Addr) : Sp := fun vs H Q _ => ∃ w s a last n rows js, vs = [.int w, .ref s, .ref a, last, .bl n] ∧ SearchAt CS H s rows ∧ WfR rows ∧ (H a = some (.lst (iv js)) ∨ H a = some (.tup (iv js))) ∧ VO rows js ∧ Ask rows js last H Q w
section
variable {K : PySem.W.Frag} {σ : L2.St} {H : Hp} {Q : VK} {tk t : TA} {sp : Sp} {g : List V → List V} {n : Nat} {te : TE}
theorem w_callW {E : XK} (h : tk σ H fun zs H2 => zs.length = n ∧ sp (g zs) H2 Q E) : tCallW n sp g E tk σ H Q := h
theorem w_callWS {E : L2.St → XK} (h : tk σ H fun zs H2 => zs.length = n ∧ sp (g zs) H2 Q (E σ)) : tCallWS n sp g E tk σ H Q := h
theorem w_callS {E : L2.St → XK} (h : t σ H fun vs H1 => sp vs H1 Q (E σ)) : L2.tCallS sp E t σ H Q := h
theorem w_xf {a : Addr} {cls : Value} {d : Option Addr} {C : Addr} {f : Str} (h : te σ H fun x H1 => x = .ref a ∧ cls = .ref C ∧ ∃ (dd : Addr) (fs : List (Str × V)) (v : V), d = some dd ∧ H1 dd = some (.xd fs) ∧ fs.lookup f = some v ∧ Q v H1) : tXf a cls d C f te σ H Q := h
end
section
variable {P : Program} {w : World} {K : PySem.W.Frag} {mg : Str → Option Value} {base : Heap} {CS CC CI CB : Addr}
theorem ok_law_asked (D : Df K mg "_law_asked" s__law_asked) (T : Txt K mg CS CC) (S : SwE K mg CI CB) (c_improving_swap : Dn P w K mg base CX0 7 "improving_swap" s_improving_swap p_improving_swap (spBS K CS))
    (c_is_least_order : Dn P w K mg base CX0 6 "is_least_order" s_is_least_order p_is_least_order (spLO K CS)) (c_is_improving_swap : Dn P w K mg base CX0 7 "is_improving_swap" s_is_improving_swap p_is_improving_swap (spIsImp K CS))
    (c_swap_gain : Dn P w K mg base (L2.CX P w) 8 "swap_gain" s_swap_gain p_swap_gain (spSwapGain K CS CI)) (c_swapped : Dn P w K mg base (L2.CX P w) 8 "swapped" s_swapped p_swapped (spSwapped K CS CI))
    (c_cost_of : Dn P w K mg base CX0 7 "cost_of" s_cost_of p_cost_of (spCostOf K CS)) : Dn P w K mg base CX0 9 "_law_asked" s__law_asked p__law_asked (spAsked CS) := by
  refine dn_ok D sc__law_asked (fun vs H Q E h => by obtain ⟨_, _, _, _, _, _, _, rfl, _⟩ := h; rfl) fun f cdv A outer s H vs Q E hr h => ?_
  obtain ⟨wd, s, a, last, nm, rows, js, rfl, hS, wf, ha, vo, hask⟩ := h
  refine ⟨_, (pss_one (ps_try_fst (i := 5) (c := .ref CI) rfl rfl sc__law_asked.nd rfl rfl ⟨by rfl, by decide, Or.inl S.gI⟩ (fun W pn xe tk po => (pss_cons (ps_if (pt_cmpR op_eq (pv 0) pe_int (nomark _)) (pss_one (ps_ret (pe_lstS (pa_cons pe_str (pa_cons (pe_ifExp (pt_val (pv 4)) (pe_cK (ks := ["order", "search"]) gk_21 c_improving_swap (fun _ _ _ _ _ _ ws hl => match ws, hl with | [_, _], _ => rfl) vk_21 (hr.mono (by decide)) (by rfl) pass0 (pk_cons (pv 2) (pk_cons (pv 1) pk_nil))) (pe_cD c_improving_swap b_improving_swap (hr.mono (by decide)) (by rfl) pass0 (pa_cons (pv 1) (pa_cons (pv 2) pa_nil)))) pa_nil))))) pss_nil)
      (pss_cons (ps_if (pt_cmpR op_eq (pv 0) pe_int (nomark _)) (pss_one (ps_ret (pe_lstS (pa_cons pe_str (pa_cons (pe_ifExp (pt_val (pv 4)) (pe_cK (ks := ["value", "search"]) gk_21 c_is_least_order (fun _ _ _ _ _ _ ws hl => match ws, hl with | [_, _], _ => rfl) vk_21 (hr.mono (by decide)) (by rfl) pass0 (pk_cons (pv 2) (pk_cons (pv 1) pk_nil))) (pe_cD c_is_least_order b_is_least_order (hr.mono (by decide)) (by rfl) pass0 (pa_cons (pv 1) (pa_cons (pv 2) pa_nil)))) pa_nil))))) pss_nil)
      (pss_cons (ps_if (PW.pt (pw_and (pt_cmpR op_eq (pv 0) pe_int (nomark _)) (pw_and1 (pt_val (pv 4))))) (pss_one (ps_ret (pe_lstS (pa_cons pe_str (pa_cons (pe_cK (ks := ["value", "order", "search"]) gk_321 c_is_improving_swap (fun _ _ _ _ _ _ ws hl => match ws, hl with | [_, _, _], _ => rfl) vk_321 (hr.mono (by decide)) (by rfl) pass0 (pk_cons (pv 3) (pk_cons (pv 2) (pk_cons (pv 1) pk_nil)))) pa_nil))))) pss_nil)
      (pss_cons (ps_if (pt_cmpR op_eq (pv 0) pe_int (nomark _)) (pss_one (ps_ret (pe_lstS (pa_cons pe_str (pa_cons (pe_cD c_is_improving_swap b_is_improving_swap (hr.mono (by decide)) (by rfl) pass0 (pa_cons (pv 1) (pa_cons (pv 2) (pa_cons (pv 3) pa_nil)))) pa_nil))))) pss_nil)
      (pss_cons (ps_if (PW.pt (pw_and (pt_cmpR op_eq (pv 0) pe_int (nomark _)) (pw_and1 (pt_val (pv 4))))) (pss_one (ps_ret (pe_lstS (pa_cons pe_str (pa_cons (pe_cKS (ks := ["swap", "search", "order"]) (E := WE W) gk_231 c_swap_gain (fun _ _ _ _ _ _ ws hl => match ws, hl with | [_, _, _], _ => rfl) vk_231 (hr.mono (by decide)) (by rfl) (fun σ => passAt tk σ) (pk_cons (pv 3) (pk_cons (pv 1) (pk_cons (pv 2) pk_nil)))) pa_nil))))) pss_nil)
      (pss_cons (ps_if (pt_cmpR op_eq (pv 0) pe_int (nomark _)) (pss_one (ps_ret (pe_lstS (pa_cons pe_str (pa_cons (pe_cDS (E := WE W) c_swap_gain b_swap_gain (hr.mono (by decide)) (by rfl) (fun σ => passAt tk σ) (pa_cons (pv 1) (pa_cons (pv 2) (pa_cons (pv 3) pa_nil)))) pa_nil))))) pss_nil)
      (pss_cons (ps_if (pt_cmpR op_eq (pv 0) pe_int (nomark _)) (pss_one (ps_ret (pe_lstS (pa_cons pe_str (pa_cons (pe_ifExp (pt_val (pv 4)) (pe_cKS (ks := ["order", "swap", "search"]) (E := WE W) gk_312 c_swapped (fun _ _ _ _ _ _ ws hl => match ws, hl with | [_, _, _], _ => rfl) vk_312 (hr.mono (by decide)) (by rfl) (fun σ => passAt tk σ) (pk_cons (pv 2) (pk_cons (pv 3) (pk_cons (pv 1) pk_nil)))) (pe_cDS (E := WE W) c_swapped b_swapped (hr.mono (by decide)) (by rfl) (fun σ => passAt tk σ) (pa_cons (pv 1) (pa_cons (pv 2) (pa_cons (pv 3) pa_nil))))) pa_nil))))) pss_nil)
      (pss_one (ps_ret (pe_lstS (pa_cons pe_str (pa_cons (pe_ifExp (pt_val (pv 4)) (pe_cK (ks := ["order", "search"]) gk_21 c_cost_of (fun _ _ _ _ _ _ ws hl => match ws, hl with | [_, _], _ => rfl) vk_21 (hr.mono (by decide)) (by rfl) pass0 (pk_cons (pv 2) (pk_cons (pv 1) pk_nil))) (pe_cD c_cost_of b_cost_of (hr.mono (by decide)) (by rfl) pass0 (pa_cons (pv 1) (pa_cons (pv 2) pa_nil)))) pa_nil))))))))))))) (fun a oe cls d pn hz hf => (pss_one (ps_ret (pe_lstS (pa_cons pe_str (pa_cons (pe_xf S.xf S.gv hz hf (pv 5)) pa_nil)))))))), ?_⟩
  walk_at "st"
  walk_at "go"
  have same_ha : ∀ {H1 : Hp}, Same H H1 → (H1 a = some (.lst (iv js)) ∨ H1 a = some (.tup (iv js))) := fun s1 => ha.imp (g_same s1) (g_same s1)
  have err : ∀ (x0 : Option V), (∀ H', Same H H' → Told "swap" Q last H') → ErrSw CI H last (WE (wFst K (Value.ref CI) 5 (fun a cls d => tRet (tLstS (tCons (tC (V.str "swap")) (tCons (tXf a cls d CI "given" (tVar 5)) tNil)))) { nx := fun x H' => Q V.non H', rt := Q }) [x0, some (.ref s), some (.ref a), some last, some (.bl nm), none]) := fun x0 h d H' s1 hd => by
    refine ⟨S.ex, fun e hne => ?_⟩
    walk_at "st"
    walk_at "go"
    refine w_xf ?_
    walk_at "go"
    refine ⟨rfl, rfl, d, _, last, rfl, hd, by simp [List.lookup], ?_⟩
    walk_at "go"
    intro p H2 n2
    exact h H' s1 p H2 n2
  cases hask with
  | w0 h1 h2 =>
    refine iteT ?_
    walk_at "go"
    have fin : spBS K CS [.ref s, .ref a] H (fun v H2 => ∀ p H', New H2 H' p (.lst [.str "told", v]) → Q (.ref p) H') E0 := ⟨s, a, rows, js, rfl, hS, wf, ha, vo, fun hn H' s1 => h1 hn H' s1, fun i j e hb hg p H' n => h2 i j e hb hg p H' n⟩
    cases nm with
    | true =>
      refine iteT ?_
      refine w_callW ?_
      walk_at "go"
      refine ⟨rfl, ?_⟩
      obtain ⟨s', a', rows', js', e1, e2, e3, e4, e5, f1, f2⟩ := fin
      refine ⟨s', a', rows', js', e1, e2, e3, e4, e5, fun hn H' s1 => ?_, fun i j e hb hg p H' n => ?_⟩
      · walk_at "go"
        exact f1 hn H' s1
      · walk_at "go"
        exact f2 i j e hb hg p H' n
    | false =>
      refine iteF ?_
      walk_at "go"
      obtain ⟨s', a', rows', js', e1, e2, e3, e4, e5, f1, f2⟩ := fin
      refine ⟨s', a', rows', js', e1, e2, e3, e4, e5, fun hn H' s1 => ?_, fun i j e hb hg p H' n => ?_⟩
      · walk_at "go"
        exact f1 hn H' s1
      · walk_at "go"
        exact f2 i j e hb hg p H' n
  | w1 h =>
    refine iteF ?_
    walk_at "go"
    refine iteT ?_
    walk_at "go"
    cases nm with
    | true =>
      refine iteT ?_
      refine w_callW ?_
      walk_at "go"
      refine ⟨rfl, s, a, rows, js, rfl, hS, wf, ha, vo, fun b H' hb s1 => ?_⟩
      walk_at "go"
      intro p H2 n2
      exact h b H' hb s1 p H2 n2
    | false =>
      refine iteF ?_
      walk_at "go"
      refine ⟨s, a, rows, js, rfl, hS, wf, ha, vo, fun b H' hb s1 => ?_⟩
      walk_at "go"
      intro p H2 n2
      exact h b H' hb s1 p H2 n2
  | w2 o hv h =>
    refine iteF ?_
    walk_at "go"
    refine iteF ?_
    walk_at "go"
    refine iteT ?_
    walk_at "go"
    cases nm with
    | true =>
      refine iteT ?_
      walk_at "go"
      refine w_callW ?_
      walk_at "go"
      refine ⟨rfl, s, a, last, rows, js, o, ⟨rfl, hS, wf, ha, vo, hv⟩, fun H' s1 => ?_⟩
      walk_at "go"
      intro p H2 n2
      exact h H' s1 p H2 n2
    | false =>
      refine iteF ?_
      walk_at "go"
      refine iteT ?_
      walk_at "go"
      refine ⟨s, a, last, rows, js, o, ⟨rfl, hS, wf, ha, vo, hv⟩, fun H' s1 => ?_⟩
      walk_at "go"
      intro p H2 n2
      exact h H' s1 p H2 n2
  | w3 o hv h1 h2 =>
    refine iteF ?_
    walk_at "go"
    refine iteF ?_
    walk_at "go"
    refine iteF ?_
    refine iteF ?_
    walk_at "go"
    refine iteF ?_
    walk_at "go"
    refine iteT ?_
    walk_at "go"
    cases nm with
    | true =>
      refine iteT ?_
      walk_at "go"
      refine w_callWS ?_
      walk_at "go"
      refine ⟨rfl, s, a, last, rows, js, o, ⟨rfl, hS, wf, ha, vo, hv⟩, fun i j k e hb H' s1 => ?_, fun hf => err _ (h2 hf)⟩
      walk_at "go"
      intro p H2 n2
      exact h1 i j k e hb H' s1 p H2 n2
    | false =>
      refine iteF ?_
      walk_at "go"
      refine iteT ?_
      walk_at "go"
      refine w_callS ?_
      walk_at "go"
      refine ⟨s, a, last, rows, js, o, ⟨rfl, hS, wf, ha, vo, hv⟩, fun i j k e hb H' s1 => ?_, fun hf => err _ (h2 hf)⟩
      walk_at "go"
      intro p H2 n2
      exact h1 i j k e hb H' s1 p H2 n2
  | w4 o hv h1 h2 =>
    refine iteF ?_
    walk_at "go"
    refine iteF ?_
    walk_at "go"
    refine iteF ?_
    refine iteF ?_
    walk_at "go"
    refine iteF ?_
    walk_at "go"
    refine iteF ?_
    refine iteF ?_
    walk_at "go"
    refine iteF ?_
    walk_at "go"
    refine iteT ?_
    walk_at "go"
    cases nm with
    | true =>
      refine iteT ?_
      refine w_callWS ?_
      walk_at "go"
      refine ⟨rfl, s, a, last, rows, js, o, ⟨rfl, hS, wf, ha, vo, hv⟩, fun i j k e hb p1 H' n1 => ?_, fun hf => err _ (h2 hf)⟩
      walk_at "go"
      intro p H2 n2
      exact h1 i j k e hb p1 H' n1 p H2 n2
    | false =>
      refine iteF ?_
      refine w_callS ?_
      walk_at "go"
      refine ⟨s, a, last, rows, js, o, ⟨rfl, hS, wf, ha, vo, hv⟩, fun i j k e hb p1 H' n1 => ?_, fun hf => err _ (h2 hf)⟩
      walk_at "go"
      intro p H2 n2
      exact h1 i j k e hb p1 H' n1 p H2 n2
  | w5 h =>
    refine iteF ?_
    walk_at "go"
    refine iteF ?_
    walk_at "go"
    refine iteF ?_
    refine iteF ?_
    walk_at "go"
    refine iteF ?_
    walk_at "go"
    refine iteF ?_
    refine iteF ?_
    walk_at "go"
    refine iteF ?_
    walk_at "go"
    refine iteF ?_
    walk_at "go"
    cases nm with
    | true =>
      refine iteT ?_
      refine w_callW ?_
      walk_at "go"
      refine ⟨rfl, s, a, _, rows, js, rfl, hS, wf, ha, rfl, vo, fun H' s1 => ?_⟩
      walk_at "go"
      intro p H2 n2
      exact h H' s1 p H2 n2
    | false =>
      refine iteF ?_
      walk_at "go"
      refine ⟨s, a, _, rows, js, rfl, hS, wf, ha, rfl, vo, fun H' s1 => ?_⟩
      walk_at "go"
      intro p H2 n2
      exact h H' s1 p H2 n2
end

end Cw
end

/-! text C93_yn -/
section
set_option Elab.async false
set_option linter.all false
set_option maxRecDepth 100000
set_option maxHeartbeats 4000000
namespace Cw
open PySem PySem.Spec PyProof.Rows L2
local macro_rules | `(tactic| walk_at "go1") => `(tactic| with_reducible first
  | refine w_seq ?_ | refine w_asgN ?_ | refine w_asgG ?_ | refine w_drop ?_ | refine w_ret ?_ | refine w_if ?_ | refine w_next ?_
  | refine w_var rfl ?_ | refine w_c ?_ | refine w_op ?_ | refine w_un ?_ | refine w_cb ?_ | refine w_cons ?_ | refine w_nil ?_ | refine w_call ?_
  | refine w_test ?_ | refine w_tB ?_ | refine w_bl ?_ | refine w_and ?_ | refine w_or ?_ | refine w_not ?_ | refine w_andV ?_ | refine w_orV ?_ | refine w_notV ?_ | refine w_ifE ?_ | refine w_blv ?_
  | refine w_I0 ?_ | refine w_eqI ?_ | refine w_neI ?_ | refine w_isN ?_ | refine w_notN ?_ | refine w_chain ?_ | refine w_for ?_ | refine w_iSeq ?_ | refine w_iR1 ?_ | refine w_iR2 ?_ | refine w_lc ?_
  | refine w_tupS ?_ | refine w_lstS ?_ | refine w_gN ?_ | refine w_gCons ?_ | refine w_gNil ?_ | refine w_aug rfl ?_ | refine w_ip ?_ | refine w_par ?_ | refine w_par2 ?_ | refine w_par3 ?_ | refine w_par33 ?_ | refine w_small (by first | decide | (simp only [List.length_cons, List.length_nil]; decide)) ?_ | refine w_bmL ?_ | refine w_gSub ?_ | refine w_lc2 ?_ | refine w_iEnum ?_ | refine w_yes ?_ | refine w_chN ?_ | refine w_chC ?_ | refine w_chL ?_ | refine w_tSl ?_ | refine w_pN ?_ | refine w_pS ?_ | refine w_pI ?_ | refine w_star ?_ | refine w_lrg ?_ | refine w_dget ?_ | refine w_dnotin ?_ | refine w_dget2 ?_ | refine w_dput ?_ | refine w_revR ?_ | refine w_cont ?_ | refine w_dpop ?_ | refine w_iKeys ?_)
local macro_rules | `(tactic| walk_at "hp") => `(tactic| (first | assumption | exact g_at (by assumption) | exact g_cat (by assumption) | (refine g_same (by assumption) ?_ ; walk_at "hp") | (refine g_new (by assumption) ?_ ; walk_at "hp") | (refine q_same (by assumption) ?_ ; walk_at "hp") | (refine q_new (by assumption) ?_ ; walk_at "hp")))
local macro_rules | `(tactic| walk_at "go") => `(tactic| repeat' walk_at "go1")
local macro_rules | `(tactic| walk_at "st") => `(tactic| simp only [cxK, L2.start, List.map_cons, List.map_nil, List.length_cons, List.length_nil, Nat.reduceAdd, Nat.reduceSub, List.replicate, List.cons_append, List.nil_append])

--import asked
def iD (js : List Nat) : PyData := .list (js.map fun (n : Nat) => .int (n : Int))
theorem dpAll_iv {K : PySem.W.Frag} {H : Hp} : ∀ js : List Nat, DpAll K H (iv js) (js.map fun (n : Nat) => PyData.int (n : Int)) := by
  intro js
  induction js with
  | nil => exact .nil
  | cons x r ih => exact .cons (.int _) ih
theorem dp_iv {K : PySem.W.Frag} {H : Hp} {a : Addr} {js : List Nat} (h : H a = some (.lst (iv js))) : Dp K H (.ref a) (iD js) := .lst (Or.inl (Or.inl h)) (dpAll_iv js)
theorem lay_iD (js : List Nat) : PyData.canLayAll0 (js.map fun (n : Nat) => PyData.int (n : Int)) = true := by
  induction js with
  | nil => rfl
  | cons x r ih => simpa [PyData.canLayAll0, PyData.canLay0] using ih
theorem dep_iD (js : List Nat) : PyData.depthAll (js.map fun (n : Nat) => PyData.int (n : Int)) = 0 := by
  induction js with
  | nil => rfl
  | cons x r ih => simpa [PyData.depthAll, PyData.depth] using ih
theorem shaped_iD (js : List Nat) : SeqAt.shaped (iD js) = true := by
  unfold SeqAt.shaped iD
  simp [PyData.canLay0, PyData.depth, lay_iD, dep_iD]
theorem eqvAll_iD : ∀ a b : List Nat, PyData.eqvAll (a.map fun (n : Nat) => PyData.int (n : Int)) (b.map fun (n : Nat) => PyData.int (n : Int)) = decide (a = b) := by
  intro a
  induction a with
  | nil =>
    intro b
    cases b <;> simp [PyData.eqvAll]
  | cons x r ih =>
    intro b
    cases b with
    | nil => simp [PyData.eqvAll]
    | cons y t =>
      simp only [List.map_cons, PyData.eqvAll, PyData.eqv, ih, List.cons.injEq]
      rw [Bool.eq_iff_iff]
      simp
      omega
theorem eqv_iD (a b : List Nat) : PyData.eqv (iD a) (iD b) = decide (a = b) := by
  unfold iD
  simp only [PyData.eqv]
  exact eqvAll_iD a b
/-- a text and a list of whole numbers -/
def tD (t : Str) (js : List Nat) : PyData := .list [.str t, iD js]
theorem dp_t {K : PySem.W.Frag} {H : Hp} {p a : Addr} {t : Str} {js : List Nat} (h : H p = some (.lst [.str t, .ref a])) (h2 : H a = some (.lst (iv js))) : Dp K H (.ref p) (tD t js) := .lst (Or.inl (Or.inl h)) (.cons (.str t) (.cons (dp_iv h2) .nil))
theorem shaped_t {t : Str} {js : List Nat} (ht : PyData.strOk t = true) : SeqAt.shaped (tD t js) = true := by
  have h := shaped_iD js
  unfold SeqAt.shaped at h ⊢
  obtain ⟨h1, h2⟩ := Bool.and_eq_true_iff.mp h
  have h3 := of_decide_eq_true h2
  unfold tD
  rw [Bool.and_eq_true_iff]
  constructor
  · simp [PyData.canLay0, PyData.canLayAll0, ht, h1]
  · apply decide_eq_true
    unfold iD
    simp [PyData.depth, PyData.depthAll, dep_iD]
theorem eqv_t {t : Str} {a b : List Nat} : PyData.eqv (tD t a) (tD t b) = decide (a = b) := by
  unfold tD
  simp only [PyData.eqv, PyData.eqvAll, eqv_iD]
  simp
section
variable {K : PySem.W.Frag} {H : Hp} {Q : VK} {a b p p' : Addr} {x y : List Nat}
theorem w_neL (h1 : H a = some (.lst (iv x))) (h2 : H b = some (.lst (iv y))) (q : Q (.bl (!decide (x = y))) H) : rNeD K (.ref a) (.ref b) H Q := ⟨iD x, iD y, dp_iv h1, dp_iv h2, shaped_iD _, shaped_iD _, by rw [eqv_iD]; exact q⟩
theorem w_neT {t : Str} (ht : PyData.strOk t = true) (h1 : H p = some (.lst [.str t, .ref a])) (h1' : H a = some (.lst (iv x))) (h2 : H p' = some (.lst [.str t, .ref b])) (h2' : H b = some (.lst (iv y))) (q : Q (.bl (!decide (x = y))) H) : rNeD K (.ref p) (.ref p') H Q :=
  ⟨tD t x, tD t y, dp_t h1 h1', dp_t h2 h2', shaped_t ht, shaped_t ht, by rw [eqv_t]; exact q⟩
theorem w_eqS {s t : Str} (q : Q (.bl (decide (s = t))) H) : rEq (.str s) (.str t) H Q := by
  refine ⟨rfl, ?_⟩
  have e : decide (V.str s = V.str t) = decide (s = t) := by
    by_cases h : s = t
    · subst h; simp
    · simp [h]
  rw [e]
  exact q
theorem w_neS {s t : Str} (q : Q (.bl (!decide (s = t))) H) : rNe (.str s) (.str t) H Q := by
  refine ⟨rfl, ?_⟩
  have e : decide (V.str s = V.str t) = decide (s = t) := by
    by_cases h : s = t
    · subst h; simp
    · simp [h]
  rw [e]
  exact q
theorem w_isBl {u v : Bool} (q : Q (.bl (decide (u = v))) H) : rIsB (.bl u) (.bl v) H Q := ⟨u, v, rfl, rfl, q⟩
end
def spYes : Sp := fun vs H Q _ => ∃ p b due, vs = [V.ref p, .bl due] ∧ H p = some (.lst [.str "told", .bl b]) ∧ Q (.bl (b == due)) H
def spNum : Sp := fun vs H Q _ => ∃ p v due, vs = [V.ref p, .int due] ∧ H p = some (.lst [.str "told", .int v]) ∧ Q (.bl (decide (v = due))) H
section
variable {P : Program} {w : World} {K : PySem.W.Frag} {mg : Str → Option Value} {base : Heap} {CS CC CI CB : Addr}
theorem ok_law_yes (D : Df K mg "_law_yes" s__law_yes) : Dn P w K mg base CX0 1 "_law_yes" s__law_yes p__law_yes spYes := by
  refine dn_ok D sc__law_yes (fun vs H Q E h => by obtain ⟨_, _, _, rfl, _⟩ := h; rfl) fun f cdv A outer s H vs Q E hr h => ?_
  obtain ⟨p, b, due, rfl, hp, q⟩ := h
  refine ⟨_, (pss_one (ps_ret (pe_and (pe_cmpR op_eq (pe_ix ix_sq (pv 0) pe_int (fun _ _ => rfl)) pe_str (nomark _)) (pe_one (pe_ifExp (pt_val (pv 1)) (pe_cmpR op_isBl (pe_ix ix_sq (pv 0) pe_int (fun _ _ => rfl)) pe_bl (nomark _)) (pe_cmpR op_isBl (pe_ix ix_sq (pv 0) pe_int (fun _ _ => rfl)) pe_bl (nomark _))))))), ?_⟩
  walk_at "st"
  walk_at "go"
  refine w_ix (q_l hp) rfl ?_
  walk_at "go"
  refine w_eqS ?_
  rw [decide_eq_true rfl]
  refine w_blv (iteT ?_)
  walk_at "go"
  cases due with
  | true =>
    refine iteT ?_
    walk_at "go"
    refine w_ix (q_l hp) rfl ?_
    walk_at "go"
    refine w_isBl ?_
    have e : decide (b = true) = (b == true) := by cases b <;> rfl
    rw [e]
    exact q
  | false =>
    refine iteF ?_
    walk_at "go"
    refine w_ix (q_l hp) rfl ?_
    walk_at "go"
    refine w_isBl ?_
    have e : decide (b = false) = (b == false) := by cases b <;> rfl
    rw [e]
    exact q
theorem ok_law_number (D : Df K mg "_law_number" s__law_number) (T : Txt K mg CS CC) : Dn P w K mg base CX0 1 "_law_number" s__law_number p__law_number spNum := by
  refine dn_ok D sc__law_number (fun vs H Q E h => by obtain ⟨_, _, _, rfl, _⟩ := h; rfl) fun f cdv A outer s H vs Q E hr h => ?_
  obtain ⟨p, v, due, rfl, hp, q⟩ := h
  refine ⟨_, (pss_one (ps_ret (pe_and (pe_cmpR op_eq (pe_ix ix_sq (pv 0) pe_int (fun _ _ => rfl)) pe_str (nomark _)) (pe_and (pe_callB call_isi (by rfl) T.isinstance (by decide +kernel) (pa_cons (pe_ix ix_sq (pv 0) pe_int (fun _ _ => rfl)) (pa_cons (pe_bltn (v := V.ty "int") (u := .type "int") (by rfl) T.int (by decide +kernel) rfl) pa_nil))) (pe_and (pe_not (pe_callB call_isi (by rfl) T.isinstance (by decide +kernel) (pa_cons (pe_ix ix_sq (pv 0) pe_int (fun _ _ => rfl)) (pa_cons (pe_bltn (v := V.ty "bool") (u := .type "bool") (by rfl) T.bool (by decide +kernel) rfl) pa_nil)))) (pe_one (pe_cmpR op_eq (pe_ix ix_sq (pv 0) pe_int (fun _ _ => rfl)) (pv 1) (nomark _)))))))), ?_⟩
  walk_at "st"
  walk_at "go"
  refine w_ix (q_l hp) rfl ?_
  walk_at "go"
  refine w_eqS ?_
  rw [decide_eq_true rfl]
  refine w_blv (iteT ?_)
  walk_at "go"
  refine w_ix (q_l hp) rfl ?_
  walk_at "go"
  refine w_isi (t := "int") (b := true) (by decide +kernel) (.base (.int v)) ?_
  refine w_blv (iteT ?_)
  walk_at "go"
  refine w_ix (q_l hp) rfl ?_
  walk_at "go"
  refine w_isi (t := "int") (b := false) (by decide +kernel) (.base (.int v)) ?_
  walk_at "go"
  refine iteT ?_
  walk_at "go"
  refine w_ix (q_l hp) rfl ?_
  walk_at "go"
  exact q
end

end Cw
end

/-! text C93_math -/
section
set_option Elab.async false
set_option linter.all false
set_option maxRecDepth 100000
set_option maxHeartbeats 4000000
namespace Cw
open PySem PySem.Spec PyProof.Rows L2
local macro_rules | `(tactic| walk_at "go1") => `(tactic| with_reducible first
  | refine w_seq ?_ | refine w_asgN ?_ | refine w_asgG ?_ | refine w_drop ?_ | refine w_ret ?_ | refine w_if ?_ | refine w_next ?_
  | refine w_var rfl ?_ | refine w_c ?_ | refine w_op ?_ | refine w_un ?_ | refine w_cb ?_ | refine w_cons ?_ | refine w_nil ?_ | refine w_call ?_
  | refine w_test ?_ | refine w_tB ?_ | refine w_bl ?_ | refine w_and ?_ | refine w_or ?_ | refine w_not ?_ | refine w_andV ?_ | refine w_orV ?_ | refine w_notV ?_ | refine w_ifE ?_ | refine w_blv ?_
  | refine w_I0 ?_ | refine w_eqI ?_ | refine w_neI ?_ | refine w_isN ?_ | refine w_notN ?_ | refine w_chain ?_ | refine w_for ?_ | refine w_iSeq ?_ | refine w_iR1 ?_ | refine w_iR2 ?_ | refine w_lc ?_
  | refine w_tupS ?_ | refine w_lstS ?_ | refine w_gN ?_ | refine w_gCons ?_ | refine w_gNil ?_ | refine w_aug rfl ?_ | refine w_ip ?_ | refine w_par ?_ | refine w_par2 ?_ | refine w_par3 ?_ | refine w_par33 ?_ | refine w_small (by first | decide | (simp only [List.length_cons, List.length_nil]; decide)) ?_ | refine w_bmL ?_ | refine w_gSub ?_ | refine w_lc2 ?_ | refine w_iEnum ?_ | refine w_yes ?_ | refine w_chN ?_ | refine w_chC ?_ | refine w_chL ?_ | refine w_tSl ?_ | refine w_pN ?_ | refine w_pS ?_ | refine w_pI ?_ | refine w_star ?_ | refine w_lrg ?_ | refine w_dget ?_ | refine w_dnotin ?_ | refine w_dget2 ?_ | refine w_dput ?_ | refine w_revR ?_ | refine w_cont ?_ | refine w_dpop ?_ | refine w_iKeys ?_)
local macro_rules | `(tactic| walk_at "hp") => `(tactic| (first | assumption | exact g_at (by assumption) | exact g_cat (by assumption) | (refine g_same (by assumption) ?_ ; walk_at "hp") | (refine g_new (by assumption) ?_ ; walk_at "hp") | (refine q_same (by assumption) ?_ ; walk_at "hp") | (refine q_new (by assumption) ?_ ; walk_at "hp")))
local macro_rules | `(tactic| walk_at "go") => `(tactic| repeat' walk_at "go1")
local macro_rules | `(tactic| walk_at "st") => `(tactic| simp only [cxK, L2.start, List.map_cons, List.map_nil, List.length_cons, List.length_nil, Nat.reduceAdd, Nat.reduceSub, List.replicate, List.cons_append, List.nil_append])

--import yn
theorem valid_less {par : Nat → Option Nat} {A : List Nat} : ∀ {B D D' : List Nat}, M93.valid par D B → (∀ x ∈ D, x ∈ D' ∨ x ∈ A) → (∀ j ∈ B, ∀ a, par j = some a → a ∉ A) → M93.valid par D' B := by
  intro B
  induction B with
  | nil => intro D D' _ _ _; trivial
  | cons x r ih =>
    intro D D' v hD hA
    refine ⟨fun a ha => ?_, ih v.2 (fun y hy => ?_) (fun j hj => hA j (List.mem_cons_of_mem _ hj))⟩
    · rcases hD a (v.1 a ha) with h | h
      · exact h
      · exact absurd h (hA x List.mem_cons_self a ha)
    · rcases List.mem_cons.mp hy with h | h
      · subst h; exact Or.inl List.mem_cons_self
      · rcases hD y h with h | h
        · exact Or.inl (List.mem_cons_of_mem _ h)
        · exact Or.inr h
theorem cut_split {js : List Nat} {i j k : Nat} (h1 : i ≤ j) (h2 : j ≤ k) : js = js.take i ++ cutN js i j ++ cutN js j k ++ js.drop k := by
  unfold cutN
  have e1 : js = js.take i ++ js.drop i := (List.take_append_drop i js).symm
  have e2 : js.drop i = (js.drop i).take (j - i) ++ js.drop j := by
    have := (List.take_append_drop (j - i) (js.drop i)).symm
    rw [List.drop_drop, show i + (j - i) = j by omega] at this
    exact this
  have e3 : js.drop j = (js.drop j).take (k - j) ++ js.drop k := by
    have := (List.take_append_drop (k - j) (js.drop j)).symm
    rw [List.drop_drop, show j + (k - j) = k by omega] at this
    exact this
  rw [List.append_assoc, List.append_assoc, ← e3, ← e2, ← e1]
theorem swap_vo {rows : List Row} (wf : WfR rows) {js : List Nat} (vo : VO rows js) {i j k : Int} (h : swB rows js i j k = true) :
    VO rows (swJ js i j k) ∧ M93.cost (pR rows) (wR rows) 0 (swJ js i j k) = M93.cost (pR rows) (wR rows) 0 js - swG rows js i j k := by
  obtain ⟨i', j', k', rfl, rfl, rfl, h1, h2, h3, h4⟩ := swB_nat h
  have e := cut_split (js := js) (i := i') (j := j') (k := k') (by omega) (by omega)
  have eJ : swJ js (i' : Int) (j' : Int) (k' : Int) = js.take i' ++ cutN js j' k' ++ cutN js i' j' ++ js.drop k' := by
    unfold swJ
    simp only [Int.toNat_natCast, List.append_assoc]
  rw [eJ]
  have v := vo.val
  rw [e] at v
  have hB : M93.valid (parR rows) ([] ++ js.take i') (cutN js j' k') := by
    have v2 := (M93.valid_append.mp v).1
    have v3 := (M93.valid_append.mp v2).2
    refine valid_less v3 (fun x hx => ?_) (fun y hy a ha => ?_) (A := cutN js i' j')
    · simpa using hx
    · have := freeB_iff.mp h4 y hy
      rw [free_climb wf y, ha] at this
      have this : (!decide (a ∈ cutN js i' j') && freeB rows (cutN js i' j') [a]) = true := this
      obtain ⟨g1, _⟩ := Bool.and_eq_true_iff.mp this
      simpa using g1
  refine ⟨⟨?_, M93.valid_move v hB⟩, ?_⟩
  · refine List.Perm.trans ?_ vo.perm
    conv => rhs; rw [e]
    simp only [List.append_assoc]
    refine List.Perm.append_left _ ?_
    rw [← List.append_assoc, ← List.append_assoc]
    exact List.Perm.append_right _ List.perm_append_comm
  · have c := M93.cost_swap4 (p := pR rows) (w := wR rows) 0 (js.take i') (cutN js i' j') (cutN js j' k') (js.drop k')
    rw [← e] at c
    unfold swG
    simp only [Int.toNat_natCast]
    omega
theorem noimp_iff {rows : List Row} (wf : WfR rows) {js : List Nat} (vo : VO rows js) {L : Int} (hL : Least rows L) : NoImp rows js ↔ M93.cost (pR rows) (wR rows) 0 js = L := by
  constructor
  · intro hn
    have good : M93.Good (parR rows) (pR rows) (wR rows) js := fun A S1 S2 C e h1 h2 hf => by
      have l1 := List.length_pos_iff.mpr h1
      have l2 := List.length_pos_iff.mpr h2
      have hlen : js.length = A.length + S1.length + S2.length + C.length := by rw [e]; simp; omega
      have c1 : cutN js A.length (A.length + S1.length) = S1 := by
        unfold cutN
        rw [e, show A.length + S1.length - A.length = S1.length by omega]
        simp
      have c2 : cutN js (A.length + S1.length) (A.length + S1.length + S2.length) = S2 := by
        unfold cutN
        rw [e, show A.length + S1.length + S2.length - (A.length + S1.length) = S2.length by omega]
        rw [show A ++ S1 ++ S2 ++ C = (A ++ S1) ++ (S2 ++ C) by simp]
        rw [List.drop_left' (by simp)]
        simp
      have fb : freeB rows S1 S2 = true := by
        unfold freeB
        rw [List.all_eq_true]
        intro j hj
        rw [List.all_eq_true]
        intro c hc
        have := hf j hj c ((mem_anc wf.par c j).mp hc)
        simpa using this
      have hb : swB rows js (A.length : Nat) ((A.length + S1.length : Nat)) ((A.length + S1.length + S2.length : Nat)) = true := swB_of (by omega) (by omega) (by have := vo.len; omega) (by rw [c1, c2]; exact fb)
      have hg := hn _ _ _ hb
      unfold swG at hg
      simp only [Int.toNat_natCast, c1, c2] at hg
      omega
    have pos : ∀ j ∈ js, 0 < pR rows j := fun j hj => by have := wf.p1 j (vo.lt hj); omega
    obtain ⟨⟨ys, vy, cy⟩, hmin⟩ := hL
    have h1 := M93.good_least vo.val vo.nd pos good (vy.perm.trans vo.perm.symm) vy.val
    have h2 := hmin js vo
    omega
  · intro hc i j e hb
    obtain ⟨vo', c'⟩ := swap_vo wf vo hb
    have := hL.2 _ vo'
    omega

end Cw
end

/-! text C93_step -/
section
set_option Elab.async false
set_option linter.all false
set_option maxRecDepth 100000
set_option maxHeartbeats 4000000
namespace Cw
open PySem PySem.Spec PyProof.Rows L2
local macro_rules | `(tactic| walk_at "go1") => `(tactic| with_reducible first
  | refine w_seq ?_ | refine w_asgN ?_ | refine w_asgG ?_ | refine w_drop ?_ | refine w_ret ?_ | refine w_if ?_ | refine w_next ?_
  | refine w_var rfl ?_ | refine w_c ?_ | refine w_op ?_ | refine w_un ?_ | refine w_cb ?_ | refine w_cons ?_ | refine w_nil ?_ | refine w_call ?_
  | refine w_test ?_ | refine w_tB ?_ | refine w_bl ?_ | refine w_and ?_ | refine w_or ?_ | refine w_not ?_ | refine w_andV ?_ | refine w_orV ?_ | refine w_notV ?_ | refine w_ifE ?_ | refine w_blv ?_
  | refine w_I0 ?_ | refine w_eqI ?_ | refine w_neI ?_ | refine w_isN ?_ | refine w_notN ?_ | refine w_chain ?_ | refine w_for ?_ | refine w_iSeq ?_ | refine w_iR1 ?_ | refine w_iR2 ?_ | refine w_lc ?_
  | refine w_tupS ?_ | refine w_lstS ?_ | refine w_gN ?_ | refine w_gCons ?_ | refine w_gNil ?_ | refine w_aug rfl ?_ | refine w_ip ?_ | refine w_par ?_ | refine w_par2 ?_ | refine w_par3 ?_ | refine w_par33 ?_ | refine w_small (by first | decide | (simp only [List.length_cons, List.length_nil]; decide)) ?_ | refine w_bmL ?_ | refine w_gSub ?_ | refine w_lc2 ?_ | refine w_iEnum ?_ | refine w_yes ?_ | refine w_chN ?_ | refine w_chC ?_ | refine w_chL ?_ | refine w_tSl ?_ | refine w_pN ?_ | refine w_pS ?_ | refine w_pI ?_ | refine w_star ?_ | refine w_lrg ?_ | refine w_dget ?_ | refine w_dnotin ?_ | refine w_dget2 ?_ | refine w_dput ?_ | refine w_revR ?_ | refine w_cont ?_ | refine w_dpop ?_ | refine w_iKeys ?_)
local macro_rules | `(tactic| walk_at "hp") => `(tactic| (first | assumption | exact g_at (by assumption) | exact g_cat (by assumption) | (refine g_same (by assumption) ?_ ; walk_at "hp") | (refine g_new (by assumption) ?_ ; walk_at "hp") | (refine q_same (by assumption) ?_ ; walk_at "hp") | (refine q_new (by assumption) ?_ ; walk_at "hp")))
local macro_rules | `(tactic| walk_at "go") => `(tactic| repeat' walk_at "go1")
local macro_rules | `(tactic| walk_at "st") => `(tactic| simp only [cxK, L2.start, List.map_cons, List.map_nil, List.length_cons, List.length_nil, Nat.reduceAdd, Nat.reduceSub, List.replicate, List.cons_append, List.nil_append])

--import math
def WorldAt (CS : Addr) (H : Hp) (wa : Addr) (rows : List Row) : Prop := ∃ r s, H wa = some (.lst [.ref r, .ref s]) ∧ RowsL H r rows ∧ SearchAt CS H s rows
theorem WorldAt.same {CS : Addr} {H H' : Hp} {wa : Addr} {rows : List Row} (t : Same H H') : WorldAt CS H wa rows → WorldAt CS H' wa rows := fun ⟨r, s, h1, h2, h3⟩ => ⟨r, s, t _ _ h1, h2.same t, h3.same t⟩
def spStep (CS : Addr) : Sp := fun vs H Q _ => ∃ wa a L n rows js, vs = [V.ref wa, .ref a, .int L, .bl n] ∧ WorldAt CS H wa rows ∧ WfR rows ∧ H a = some (.lst (iv js)) ∧ VO rows js ∧ Least rows L ∧
  (M93.cost (pR rows) (wR rows) 0 js = L → ∀ p H', Same H H' → H' p = some (.lst [.str "end"]) → Q (.ref p) H') ∧
  (M93.cost (pR rows) (wR rows) 0 js ≠ L → ∀ p b js' H', Same H H' → H' p = some (.lst [.str "next", .ref b]) → H' b = some (.lst (iv js')) → VO rows js' → M93.cost (pR rows) (wR rows) 0 js' < M93.cost (pR rows) (wR rows) 0 js → Q (.ref p) H')
theorem w_and_eqI {σ : L2.St} {H : Hp} {Q : VK} {b : Bool} {i j : Nat} {x y : Int} (ex : σ[i]? = some (some (.int x))) (ey : σ[j]? = some (some (.int y))) (q : Q (.bl (b && decide (x = y))) H) : if b = true then tOp rEq (tVar i) (tVar j) σ H Q else Q (.bl false) H := by
  cases b with
  | true =>
    refine iteT ?_
    refine w_op (w_var ex ?_)
    refine w_var ey ?_
    refine w_eqI ?_
    simpa using q
  | false => exact iteF q
section
variable {P : Program} {w : World} {K : PySem.W.Frag} {mg : Str → Option Value} {base : Heap} {CS CC CI CB : Addr}
theorem ok_law_step (D : Df K mg "_law_step" s__law_step) (T : Txt K mg CS CC) (c__law_cost : Dn P w K mg base CX0 1 "_law_cost" s__law_cost p__law_cost (spCostBy K)) (c__law_yes : Dn P w K mg base CX0 1 "_law_yes" s__law_yes p__law_yes spYes)
    (c__law_number : Dn P w K mg base CX0 1 "_law_number" s__law_number p__law_number spNum) (c__law_asked : Dn P w K mg base CX0 9 "_law_asked" s__law_asked p__law_asked (spAsked CS)) (c__law_is_swap : Dn P w K mg base CX0 1 "_law_is_swap" s__law_is_swap p__law_is_swap spIsSwap)
    (c__law_after : Dn P w K mg base CX0 1 "_law_after" s__law_after p__law_after spAfter) : Dn P w K mg base CX0 10 "_law_step" s__law_step p__law_step (spStep CS) := by
  refine dn_ok D sc__law_step (fun vs H Q E h => by obtain ⟨_, _, _, _, _, _, rfl, _⟩ := h; rfl) fun f cdv A outer s H vs Q E hr h => ?_
  obtain ⟨wa, a, L, n, rows, js, rfl, ⟨r, s, hwa, hrl, hS⟩, wf, ha, vo, hL, q1, q2⟩ := h
  have wl := wf.len
  have hl := vo.len
  have ni := noimp_iff wf vo hL
  refine ⟨_, (pss_cons (ps_asg (pv 0) (pg_unl (n := 2) rfl (pgs_cons (pg_name (i := 4) sc__law_step.nd rfl (by first | exact Or.inl rfl | exact Or.inr rfl)) (pgs_cons (pg_name (i := 5) sc__law_step.nd rfl (by first | exact Or.inl rfl | exact Or.inr rfl)) pgs_nil))))
      (pss_cons (ps_par (i := 6) (j := 7) (by rfl) sc__law_step.nd rfl rfl (by decide) rfl rfl (pa_cons (pe_callTy call_listS (by rfl) T.list (by decide +kernel) (pa_cons (pv 1) pa_nil)) (pa_cons (pe_cD c__law_cost b__law_cost (hr.mono (by decide)) (by rfl) pass0 (pa_cons (pv 4) (pa_cons (pv 1) pa_nil))) pa_nil)) (by rfl))
      (pss_cons (ps_set (i := 8) sc__law_step.nd rfl (by first | exact Or.inl rfl | exact Or.inr rfl) (pe_and (pe_cmpR op_gt (pe_callB call_lenQ (by rfl) T.len (by decide +kernel) (pa_cons (pv 1) pa_nil)) pe_int (nomark _)) (pe_one (pe_cmpR op_eq (pv 7) (pv 2) (nomark _)))))
      (pss_cons (ps_if (PW.pt (pw_and (pt_not (PW.pt (pw_and (pt_val (pv 8)) (pw_and1 (pt_val (pv 3)))))) (pw_and1 (pt_not (pt_val (pe_cD c__law_yes b__law_yes (hr.mono (by decide)) (by rfl) pass0 (pa_cons (pe_cD c__law_asked b__law_asked (hr.mono (by decide)) (by rfl) pass0 (pa_cons pe_int (pa_cons (pv 5) (pa_cons (pe_callTy call_tupS (by rfl) T.tuple (by decide +kernel) (pa_cons (pv 1) pa_nil)) (pa_cons pe_non (pa_cons (pv 3) pa_nil)))))) (pa_cons (pe_cmpR op_eq (pv 7) (pv 2) (nomark _)) pa_nil)))))))) (pss_one (ps_ret (pe_lstS (pa_cons pe_str pa_nil)))) pss_nil)
      (pss_cons (ps_set (i := 9) sc__law_step.nd rfl (by first | exact Or.inl rfl | exact Or.inr rfl) (pe_ifExp (PW.pt (pw_and (pt_val (pv 8)) (pw_and1 (pt_not (pt_val (pv 3)))))) (pe_lstS (pa_cons pe_str (pa_cons pe_non pa_nil))) (pe_cD c__law_asked b__law_asked (hr.mono (by decide)) (by rfl) pass0 (pa_cons pe_int (pa_cons (pv 5) (pa_cons (pv 6) (pa_cons pe_non (pa_cons (pv 3) pa_nil))))))))
      (pss_cons (ps_if (PW.pt (pw_or (pt_cmpR op_ne (pe_ix ix_sq (pv 9) pe_int (fun _ _ => rfl)) pe_str (nomark _)) (pw_or1 (pt_cmpR (op_neD hr.units) (pv 6) (pv 1) (nomark _))))) (pss_one (ps_ret (pe_lstS (pa_cons pe_str pa_nil)))) pss_nil)
      (pss_cons (ps_if (pt_cmpR op_eq (pv 7) (pv 2) (nomark _)) (pss_one (ps_ret (pe_ifExp (pt_cmpR op_isNo (pe_ix ix_sq (pv 9) pe_int (fun _ _ => rfl)) pe_non (nomark _)) (pe_lstS (pa_cons pe_str pa_nil)) (pe_lstS (pa_cons pe_str pa_nil))))) pss_nil)
      (pss_cons (ps_if (pt_not (pt_val (pe_cD c__law_is_swap b__law_is_swap (hr.mono (by decide)) (by rfl) pass0 (pa_cons (pv 4) (pa_cons (pv 1) (pa_cons (pe_ix ix_sq (pv 9) pe_int (fun _ _ => rfl)) pa_nil)))))) (pss_one (ps_ret (pe_lstS (pa_cons pe_str pa_nil)))) pss_nil)
      (pss_cons (ps_set (i := 10) sc__law_step.nd rfl (by first | exact Or.inl rfl | exact Or.inr rfl) (pe_cD c__law_after b__law_after (hr.mono (by decide)) (by rfl) pass0 (pa_cons (pv 1) (pa_cons (pe_ix ix_sq (pv 9) pe_int (fun _ _ => rfl)) pa_nil))))
      (pss_cons (ps_set (i := 11) sc__law_step.nd rfl (by first | exact Or.inl rfl | exact Or.inr rfl) (pe_op op_sub (pv 7) (pe_cD c__law_cost b__law_cost (hr.mono (by decide)) (by rfl) pass0 (pa_cons (pv 4) (pa_cons (pv 10) pa_nil)))))
      (pss_cons (ps_if (PW.pt (pw_or (pt_cmpR op_le (pv 11) pe_int (nomark _)) (pw_or1 (pt_not (pt_val (pe_cD c__law_yes b__law_yes (hr.mono (by decide)) (by rfl) pass0 (pa_cons (pe_cD c__law_asked b__law_asked (hr.mono (by decide)) (by rfl) pass0 (pa_cons pe_int (pa_cons (pv 5) (pa_cons (pv 6) (pa_cons (pe_ix ix_sq (pv 9) pe_int (fun _ _ => rfl)) (pa_cons (pe_not (pv 3)) pa_nil)))))) (pa_cons pe_bl pa_nil)))))))) (pss_one (ps_ret (pe_lstS (pa_cons pe_str pa_nil)))) pss_nil)
      (pss_cons (ps_if (pt_not (pt_val (pe_cD c__law_number b__law_number (hr.mono (by decide)) (by rfl) pass0 (pa_cons (pe_cD c__law_asked b__law_asked (hr.mono (by decide)) (by rfl) pass0 (pa_cons pe_int (pa_cons (pv 5) (pa_cons (pe_callTy call_tupS (by rfl) T.tuple (by decide +kernel) (pa_cons (pv 1) pa_nil)) (pa_cons (pe_ix ix_sq (pv 9) pe_int (fun _ _ => rfl)) (pa_cons (pv 3) pa_nil)))))) (pa_cons (pv 11) pa_nil))))) (pss_one (ps_ret (pe_lstS (pa_cons pe_str pa_nil)))) pss_nil)
      (pss_cons (ps_set (i := 12) sc__law_step.nd rfl (by first | exact Or.inl rfl | exact Or.inr rfl) (pe_cD c__law_asked b__law_asked (hr.mono (by decide)) (by rfl) pass0 (pa_cons pe_int (pa_cons (pv 5) (pa_cons (pv 6) (pa_cons (pe_ix ix_sq (pv 9) pe_int (fun _ _ => rfl)) (pa_cons (pe_not (pv 3)) pa_nil)))))))
      (pss_cons (ps_if (PW.pt (pw_or (pt_cmpR (op_neD hr.units) (pv 12) (pe_lstS (pa_cons pe_str (pa_cons (pv 10) pa_nil))) (nomark _)) (pw_or (pt_not (pt_val (pe_callB call_isi (by rfl) T.isinstance (by decide +kernel) (pa_cons (pe_ix ix_sq (pv 12) pe_int (fun _ _ => rfl)) (pa_cons (pe_bltn (v := V.ty "list") (u := .type "list") (by rfl) T.list (by decide +kernel) rfl) pa_nil))))) (pw_or1 (pt_cmpR (op_neD hr.units) (pv 6) (pv 1) (nomark _)))))) (pss_one (ps_ret (pe_lstS (pa_cons pe_str pa_nil)))) pss_nil)
      (pss_cons (ps_expr (pe_bm PySem.F.plainAttrs_list PySem.F.slot_list_append PySem.F.type_list_append mt_appS (pe_ix ix_sq (pv 12) pe_int (fun _ _ => rfl)) (pa_cons pe_int pa_nil)))
      (pss_cons (ps_if (pt_cmpR (op_neD hr.units) (pe_cD c__law_asked b__law_asked (hr.mono (by decide)) (by rfl) pass0 (pa_cons pe_int (pa_cons (pv 5) (pa_cons (pv 6) (pa_cons (pe_ix ix_sq (pv 9) pe_int (fun _ _ => rfl)) (pa_cons (pv 3) pa_nil)))))) (pe_lstS (pa_cons pe_str (pa_cons (pv 10) pa_nil))) (nomark _)) (pss_one (ps_ret (pe_lstS (pa_cons pe_str pa_nil)))) pss_nil)
      (pss_cons (ps_if (pt_not (pt_val (pe_cD c__law_number b__law_number (hr.mono (by decide)) (by rfl) pass0 (pa_cons (pe_cD c__law_asked b__law_asked (hr.mono (by decide)) (by rfl) pass0 (pa_cons pe_int (pa_cons (pv 5) (pa_cons (pe_callTy call_listS (by rfl) T.list (by decide +kernel) (pa_cons (pv 10) pa_nil)) (pa_cons pe_non (pa_cons (pv 3) pa_nil)))))) (pa_cons (pe_op op_sub (pv 7) (pv 11)) pa_nil))))) (pss_one (ps_ret (pe_lstS (pa_cons pe_str pa_nil)))) pss_nil)
      (pss_one (ps_ret (pe_lstS (pa_cons pe_str (pa_cons (pv 10) pa_nil)))))))))))))))))))))), ?_⟩
  walk_at "st"
  walk_at "go"
  refine w_gUnl hwa rfl ?_
  walk_at "go"
  refine w_listS (q_l ha) fun p0 H1 n1 => ?_
  walk_at "go"
  obtain ⟨out, ho, hrv⟩ := hrl.same n1.1
  refine ⟨_, _, out, rows, js, rfl, q_l ho, hrv, q_l (n1.1 _ _ ha), fun j hj => vo.lt hj, wf, fun H2 s2 => ?_⟩
  have s02 : Same H H2 := fun b o e => s2 _ _ (n1.1 _ _ e)
  have hp0 : H2 p0 = some (.lst (iv js)) := s2 _ _ n1.2.2
  generalize hC : M93.cost (pR rows) (wR rows) 0 js = C at ni q1 q2 ⊢
  walk_at "go"
  refine w_len (q_l (s02 _ _ ha)) ?_
  walk_at "go"
  refine w_and_eqI rfl rfl ?_
  have hlg : (decide (8 < ((iv js).length : Int)) && decide (C = L)) = true → C = L := fun z => of_decide_eq_true (Bool.and_eq_true_iff.mp z).2
  generalize (decide (8 < ((iv js).length : Int)) && decide (C = L)) = lg at hlg ⊢
  walk_at "go"
  by_cases hCL : C = L
  · cases lg with
    | false =>
      refine iteF ?_
      walk_at "go"
      refine iteT ?_
      walk_at "go"
      refine w_tupleS (Or.inl (Or.inl (s02 _ _ ha))) fun t H3 n3 => ?_
      walk_at "go"
      have s3 : Same H H3 := fun b o e => n3.1 _ _ (s02 _ _ e)
      refine ⟨1, s, t, .non, _, rows, js, rfl, hS.same s3, wf, Or.inr n3.2.2, vo, .w1 fun b H4 hb s4 p1 H5 n5 => ?_⟩
      walk_at "go"
      have s5 : Same H H5 := fun b o e => n5.1 _ _ (s4 _ _ (s3 _ _ e))
      have hp5 : H5 p0 = some (.lst (iv js)) := n5.1 _ _ (s4 _ _ (n3.1 _ _ hp0))
      refine ⟨p1, b, _, rfl, n5.2.2, ?_⟩
      have eb : (b == decide (C = L)) = true := by
        have h1 := hb.trans ni
        cases b with
        | true => simpa using h1.mp rfl
        | false =>
          have : ¬ C = L := fun z => by have := h1.mpr z; cases this
          simp [this]
      rw [eb]
      walk_at "go"
      refine iteF ?_
      walk_at "go"
      refine iteF ?_
      refine iteF ?_
      walk_at "go"
      refine ⟨0, s, p0, .non, _, rows, js, rfl, hS.same s5, wf, Or.inl hp5, vo, .w0 (fun hn H6 s6 p2 H7 n7 => ?_) (fun i j e hb hg p2 H6 n6 => absurd (ni.mpr hCL i j e hb) (by omega))⟩
      have s7 : Same H5 H7 := fun b o e => n7.1 _ _ (s6 _ _ e)
      walk_at "go"
      refine w_ix (q_l n7.2.2) rfl ?_
      walk_at "go"
      refine w_neS ?_
      rw [decide_eq_true rfl]
      walk_at "go"
      refine iteF ?_
      walk_at "go"
      refine w_neL (s7 _ _ hp5) (s7 _ _ (s5 _ _ ha)) ?_
      rw [decide_eq_true rfl]
      walk_at "go"
      refine iteF ?_
      walk_at "go"
      rw [decide_eq_true hCL]
      refine iteT ?_
      walk_at "go"
      refine w_ix (q_l n7.2.2) rfl ?_
      walk_at "go"
      refine iteT ?_
      walk_at "go"
      intro p3 H8 n8
      exact q1 hCL p3 H8 (fun b o e => n8.1 _ _ (s7 _ _ (s5 _ _ e))) n8.2.2
    | true =>
      cases n with
      | true =>
        refine iteT ?_
        walk_at "go"
        refine iteF ?_
        refine iteF ?_
        walk_at "go"
        refine iteT ?_
        walk_at "go"
        refine iteF ?_
        walk_at "go"
        refine ⟨0, s, p0, .non, _, rows, js, rfl, hS.same s02, wf, Or.inl hp0, vo, .w0 (fun hn H6 s6 p2 H7 n7 => ?_) (fun i j e hb hg p2 H6 n6 => absurd (ni.mpr hCL i j e hb) (by omega))⟩
        have s7 : Same H2 H7 := fun b o e => n7.1 _ _ (s6 _ _ e)
        walk_at "go"
        refine w_ix (q_l n7.2.2) rfl ?_
        walk_at "go"
        refine w_neS ?_
        rw [decide_eq_true rfl]
        walk_at "go"
        refine iteF ?_
        walk_at "go"
        refine w_neL (s7 _ _ hp0) (s7 _ _ (s02 _ _ ha)) ?_
        rw [decide_eq_true rfl]
        walk_at "go"
        refine iteF ?_
        walk_at "go"
        rw [decide_eq_true hCL]
        refine iteT ?_
        walk_at "go"
        refine w_ix (q_l n7.2.2) rfl ?_
        walk_at "go"
        refine iteT ?_
        walk_at "go"
        intro p3 H8 n8
        exact q1 hCL p3 H8 (fun b o e => n8.1 _ _ (s7 _ _ (s02 _ _ e))) n8.2.2
      | false =>
        refine iteT ?_
        walk_at "go"
        refine iteT ?_
        walk_at "go"
        refine w_tupleS (Or.inl (Or.inl (s02 _ _ ha))) fun t H3 n3 => ?_
        walk_at "go"
        have s3 : Same H H3 := fun b o e => n3.1 _ _ (s02 _ _ e)
        refine ⟨1, s, t, .non, _, rows, js, rfl, hS.same s3, wf, Or.inr n3.2.2, vo, .w1 fun b H4 hb s4 p1 H5 n5 => ?_⟩
        walk_at "go"
        have s5 : Same H H5 := fun b o e => n5.1 _ _ (s4 _ _ (s3 _ _ e))
        have hp5 : H5 p0 = some (.lst (iv js)) := n5.1 _ _ (s4 _ _ (n3.1 _ _ hp0))
        refine ⟨p1, b, _, rfl, n5.2.2, ?_⟩
        have eb : (b == decide (C = L)) = true := by
          have h1 := hb.trans ni
          cases b with
          | true => simpa using h1.mp rfl
          | false =>
            have : ¬ C = L := fun z => by have := h1.mpr z; cases this
            simp [this]
        rw [eb]
        walk_at "go"
        refine iteF ?_
        walk_at "go"
        refine iteT ?_
        walk_at "go"
        refine iteT ?_
        walk_at "go"
        intro p2 H7 n7
        have s7 : Same H5 H7 := n7.1
        walk_at "go"
        refine w_ix (q_l n7.2.2) rfl ?_
        walk_at "go"
        refine w_neS ?_
        rw [decide_eq_true rfl]
        walk_at "go"
        refine iteF ?_
        walk_at "go"
        refine w_neL (s7 _ _ hp5) (s7 _ _ (s5 _ _ ha)) ?_
        rw [decide_eq_true rfl]
        walk_at "go"
        refine iteF ?_
        walk_at "go"
        rw [decide_eq_true hCL]
        refine iteT ?_
        walk_at "go"
        refine w_ix (q_l n7.2.2) rfl ?_
        walk_at "go"
        refine iteT ?_
        walk_at "go"
        intro p3 H8 n8
        exact q1 hCL p3 H8 (fun b o e => n8.1 _ _ (s7 _ _ (s5 _ _ e))) n8.2.2
  · have elg : lg = false := by
      cases lg with
      | false => rfl
      | true => exact absurd (hlg rfl) hCL
    subst elg
    refine iteF ?_
    walk_at "go"
    refine iteT ?_
    walk_at "go"
    refine w_tupleS (Or.inl (Or.inl (s02 _ _ ha))) fun t H3 n3 => ?_
    walk_at "go"
    have s3 : Same H H3 := fun b o e => n3.1 _ _ (s02 _ _ e)
    refine ⟨1, s, t, .non, _, rows, js, rfl, hS.same s3, wf, Or.inr n3.2.2, vo, .w1 fun b H4 hb s4 p1 H5 n5 => ?_⟩
    walk_at "go"
    have s5 : Same H H5 := fun b o e => n5.1 _ _ (s4 _ _ (s3 _ _ e))
    have hp5 : H5 p0 = some (.lst (iv js)) := n5.1 _ _ (s4 _ _ (n3.1 _ _ hp0))
    refine ⟨p1, b, _, rfl, n5.2.2, ?_⟩
    have eb : (b == decide (C = L)) = true := by
      have h1 := hb.trans ni
      cases b with
      | true => simpa using h1.mp rfl
      | false =>
        have : ¬ C = L := fun z => by have := h1.mpr z; cases this
        simp [this]
    rw [eb]
    walk_at "go"
    refine iteF ?_
    walk_at "go"
    refine iteF ?_
    refine iteF ?_
    walk_at "go"
    refine ⟨0, s, p0, .non, _, rows, js, rfl, hS.same s5, wf, Or.inl hp5, vo, .w0 (fun hn => absurd (ni.mp hn) hCL) (fun i j k hb hg v H6 n6 p2 H7 n7 => ?_)⟩
    have s7 : Same H H7 := fun b o e => n7.1 _ _ (n6.1 _ _ (s5 _ _ e))
    have hp7 : H7 p0 = some (.lst (iv js)) := n7.1 _ _ (n6.1 _ _ hp5)
    have hv7 : H7 v = some (.tup [.int (i : Int), .int (j : Int), .int (k : Int)]) := n7.1 _ _ n6.2.2
    obtain ⟨vo', cst'⟩ := swap_vo wf vo hb
    rw [hC] at cst'
    obtain ⟨b1, b2, b3⟩ := swB_le hb
    have hij : i < j := by obtain ⟨_, _, _, g1, g2, g3, g4, g5, g6, g7⟩ := swB_nat hb; omega
    walk_at "go"
    refine w_ix (q_l n7.2.2) rfl ?_
    walk_at "go"
    refine w_neS ?_
    rw [decide_eq_true rfl]
    walk_at "go"
    refine iteF ?_
    walk_at "go"
    refine w_neL hp7 (s7 _ _ ha) ?_
    rw [decide_eq_true rfl]
    walk_at "go"
    refine iteF ?_
    walk_at "go"
    rw [decide_eq_false hCL]
    refine iteF ?_
    walk_at "go"
    refine w_ix (q_l n7.2.2) rfl ?_
    walk_at "go"
    refine ⟨r, a, _, rows, js, some ((i : Int), (j : Int), (k : Int)), rfl, hrl.same s7, wf, s7 _ _ ha, vo, .tri hv7, fun H8 s8 => ?_⟩
    have eR : swR rows js (some ((i : Int), (j : Int), (k : Int))) = true := hb
    rw [eR]
    walk_at "go"
    refine iteF ?_
    walk_at "go"
    refine w_ix (q_l (s8 _ _ n7.2.2)) rfl ?_
    walk_at "go"
    refine ⟨a, _, js, i, j, k, rfl, s8 _ _ (s7 _ _ ha), .tri (s8 _ _ hv7), by omega, by omega, by omega, by omega, by omega, fun af H9 n9 => ?_⟩
    walk_at "go"
    have s9 : Same H H9 := fun b o e => n9.1 _ _ (s8 _ _ (s7 _ _ e))
    have s79 : Same H7 H9 := fun b o e => n9.1 _ _ (s8 _ _ e)
    obtain ⟨out9, ho9, hrv9⟩ := hrl.same s9
    refine ⟨r, af, out9, rows, swJ js i j k, rfl, q_l ho9, hrv9, q_l n9.2.2, fun x hx => vo'.lt hx, wf, fun HA sA => ?_⟩
    generalize hC' : M93.cost (pR rows) (wR rows) 0 (swJ js (i : Int) (j : Int) (k : Int)) = C' at cst' ⊢
    generalize hJ : swJ js (i : Int) (j : Int) (k : Int) = J at *
    have tA : Same H HA := fun b o e => sA _ _ (s9 _ _ e)
    have t7A : Same H7 HA := fun b o e => sA _ _ (s79 _ _ e)
    have hafA := sA _ _ n9.2.2
    walk_at "go"
    rw [decide_eq_false (by omega : ¬ C - C' ≤ 0)]
    refine iteF ?_
    walk_at "go"
    refine w_ix (q_l (t7A _ _ n7.2.2)) rfl ?_
    walk_at "go"
    refine ⟨2, s, p0, _, _, rows, js, rfl, hS.same tA, wf, Or.inl (t7A _ _ hp7), vo, .w2 (some ((i : Int), (j : Int), (k : Int))) (.tri (t7A _ _ hv7)) fun HB sB p3 HC nC => ?_⟩
    have tAC : Same HA HC := fun b o e => nC.1 _ _ (sB _ _ e)
    walk_at "go"
    refine ⟨p3, _, true, rfl, nC.2.2, ?_⟩
    have eI : impB rows js (some ((i : Int), (j : Int), (k : Int))) = true := by
      show (swB rows js i j k && decide (0 < swG rows js i j k)) = true
      rw [hb, decide_eq_true hg]
      rfl
    rw [eI]
    walk_at "go"
    refine iteF ?_
    walk_at "go"
    have t7C : Same H7 HC := fun b o e => tAC _ _ (t7A _ _ e)
    have tC : Same H HC := fun b o e => t7C _ _ (s7 _ _ e)
    refine w_tupleS (Or.inl (Or.inl (tC _ _ ha))) fun t2 HD nD => ?_
    walk_at "go"
    have t7D : Same H7 HD := fun b o e => nD.1 _ _ (t7C _ _ e)
    refine w_ix (q_l (t7D _ _ n7.2.2)) rfl ?_
    walk_at "go"
    have tD : Same H HD := fun b o e => t7D _ _ (s7 _ _ e)
    refine ⟨3, s, t2, _, _, rows, js, rfl, hS.same tD, wf, Or.inr nD.2.2, vo, .w3 (some ((i : Int), (j : Int), (k : Int))) (.tri (t7D _ _ hv7)) (fun i2 j2 k2 e2 hb2 HE sE p4 HF nF => ?_) (fun hf => absurd (eR.symm.trans hf) (by decide))⟩
    obtain ⟨rfl, e3⟩ := Prod.mk.inj (Option.some.inj e2)
    obtain ⟨rfl, rfl⟩ := Prod.mk.inj e3
    have t7F : Same H7 HF := fun b o e => nF.1 _ _ (sE _ _ (t7D _ _ e))
    have tF : Same H HF := fun b o e => t7F _ _ (s7 _ _ e)
    walk_at "go"
    refine ⟨p4, _, _, rfl, nF.2.2, ?_⟩
    rw [decide_eq_true (by omega : swG rows js (i : Int) (j : Int) (k : Int) = C - C')]
    walk_at "go"
    refine iteF ?_
    walk_at "go"
    have hafF : HF af = some (.lst (iv J)) := nF.1 _ _ (sE _ _ (nD.1 _ _ (tAC _ _ hafA)))
    refine w_ix (q_l (t7F _ _ n7.2.2)) rfl ?_
    walk_at "go"
    refine ⟨4, s, p0, _, _, rows, js, rfl, hS.same tF, wf, Or.inl (t7F _ _ hp7), vo, .w4 (some ((i : Int), (j : Int), (k : Int))) (.tri (t7F _ _ hv7)) (fun i2 j2 k2 e2 hb2 pe HG nG p5 HI nI => ?_) (fun hf => absurd (eR.symm.trans hf) (by decide))⟩
    obtain ⟨rfl, e3⟩ := Prod.mk.inj (Option.some.inj e2)
    obtain ⟨rfl, rfl⟩ := Prod.mk.inj e3
    rw [hJ] at nG
    have tFI : Same HF HI := fun b o e => nI.1 _ _ (nG.1 _ _ e)
    walk_at "go"
    intro p6 HK nK
    refine w_neT (by decide +kernel) (nK.1 _ _ nI.2.2) (nK.1 _ _ (nI.1 _ _ nG.2.2)) nK.2.2 (nK.1 _ _ (tFI _ _ hafF)) ?_
    rw [decide_eq_true rfl]
    walk_at "go"
    refine iteF ?_
    walk_at "go"
    refine w_ix (q_l (nK.1 _ _ nI.2.2)) rfl ?_
    walk_at "go"
    refine w_isi (t := "list") (b := true) (by decide +kernel) (.base (.lst (nK.1 _ _ (nI.1 _ _ nG.2.2)))) ?_
    walk_at "go"
    refine iteF ?_
    walk_at "go"
    have tFK : Same HF HK := fun b o e => nK.1 _ _ (tFI _ _ e)
    refine w_neL (tFK _ _ (t7F _ _ hp7)) (tFK _ _ (tF _ _ ha)) ?_
    rw [decide_eq_true rfl]
    walk_at "go"
    refine iteF ?_
    walk_at "go"
    refine w_ix (q_l (nK.1 _ _ nI.2.2)) rfl ?_
    have hpe : HK pe = some (.lst (iv J)) := nK.1 _ _ (nI.1 _ _ nG.2.2)
    refine w_tyL hpe ?_
    walk_at "go"
    have hJl := vo'.len
    refine w_app hpe (by rw [iv_length]; omega) fun HM cM => ?_
    have tFM : Same HF HM := Same.mut tFK nG.2.1 cM.1
    have tM : Same H HM := fun b o e => tFM _ _ (tF _ _ e)
    have t7M : Same H7 HM := fun b o e => tFM _ _ (t7F _ _ e)
    have hafM := tFM _ _ hafF
    walk_at "go"
    refine w_ix (q_l (t7M _ _ n7.2.2)) rfl ?_
    walk_at "go"
    refine ⟨4, s, p0, _, _, rows, js, rfl, hS.same tM, wf, Or.inl (t7M _ _ hp7), vo, .w4 (some ((i : Int), (j : Int), (k : Int))) (.tri (t7M _ _ hv7)) (fun i2 j2 k2 e2 hb2 pf HN nN p7 HO nO => ?_) (fun hf => absurd (eR.symm.trans hf) (by decide))⟩
    obtain ⟨rfl, e3⟩ := Prod.mk.inj (Option.some.inj e2)
    obtain ⟨rfl, rfl⟩ := Prod.mk.inj e3
    rw [hJ] at nN
    have tMO : Same HM HO := fun b o e => nO.1 _ _ (nN.1 _ _ e)
    walk_at "go"
    intro p8 HP nP
    refine w_neT (by decide +kernel) (nP.1 _ _ nO.2.2) (nP.1 _ _ (nO.1 _ _ nN.2.2)) nP.2.2 (nP.1 _ _ (tMO _ _ hafM)) ?_
    rw [decide_eq_true rfl]
    walk_at "go"
    refine iteF ?_
    walk_at "go"
    have tMP : Same HM HP := fun b o e => nP.1 _ _ (tMO _ _ e)
    have tP : Same H HP := fun b o e => tMP _ _ (tM _ _ e)
    have hafP := tMP _ _ hafM
    refine w_listS (q_l hafP) fun la HR nR => ?_
    walk_at "go"
    have tR : Same H HR := fun b o e => nR.1 _ _ (tP _ _ e)
    refine ⟨5, s, la, .non, _, rows, J, rfl, hS.same tR, wf, Or.inl nR.2.2, vo', .w5 fun HT sT p9 HU nU => ?_⟩
    walk_at "go"
    refine ⟨p9, _, _, rfl, nU.2.2, ?_⟩
    rw [hC', decide_eq_true (by omega : C' = C - (C - C'))]
    walk_at "go"
    refine iteF ?_
    walk_at "go"
    intro pz HV nV
    have tRV : Same HR HV := fun b o e => nV.1 _ _ (nU.1 _ _ (sT _ _ e))
    refine q2 hCL pz af J HV (fun b o e => tRV _ _ (tR _ _ e)) nV.2.2 (tRV _ _ (nR.1 _ _ hafP)) vo' ?_
    rw [hC']
    omega
end

end Cw
end

/-! text C93_desc -/
section
set_option Elab.async false
set_option linter.all false
set_option maxRecDepth 100000
set_option maxHeartbeats 4000000
namespace Cw
open PySem PySem.Spec PyProof.Rows L2
local macro_rules | `(tactic| walk_at "go1") => `(tactic| with_reducible first
  | refine w_seq ?_ | refine w_asgN ?_ | refine w_asgG ?_ | refine w_drop ?_ | refine w_ret ?_ | refine w_if ?_ | refine w_next ?_
  | refine w_var rfl ?_ | refine w_c ?_ | refine w_op ?_ | refine w_un ?_ | refine w_cb ?_ | refine w_cons ?_ | refine w_nil ?_ | refine w_call ?_
  | refine w_test ?_ | refine w_tB ?_ | refine w_bl ?_ | refine w_and ?_ | refine w_or ?_ | refine w_not ?_ | refine w_andV ?_ | refine w_orV ?_ | refine w_notV ?_ | refine w_ifE ?_ | refine w_blv ?_
  | refine w_I0 ?_ | refine w_eqI ?_ | refine w_neI ?_ | refine w_isN ?_ | refine w_notN ?_ | refine w_chain ?_ | refine w_for ?_ | refine w_iSeq ?_ | refine w_iR1 ?_ | refine w_iR2 ?_ | refine w_lc ?_
  | refine w_tupS ?_ | refine w_lstS ?_ | refine w_gN ?_ | refine w_gCons ?_ | refine w_gNil ?_ | refine w_aug rfl ?_ | refine w_ip ?_ | refine w_par ?_ | refine w_par2 ?_ | refine w_par3 ?_ | refine w_par33 ?_ | refine w_small (by first | decide | (simp only [List.length_cons, List.length_nil]; decide)) ?_ | refine w_bmL ?_ | refine w_gSub ?_ | refine w_lc2 ?_ | refine w_iEnum ?_ | refine w_yes ?_ | refine w_chN ?_ | refine w_chC ?_ | refine w_chL ?_ | refine w_tSl ?_ | refine w_pN ?_ | refine w_pS ?_ | refine w_pI ?_ | refine w_star ?_ | refine w_lrg ?_ | refine w_dget ?_ | refine w_dnotin ?_ | refine w_dget2 ?_ | refine w_dput ?_ | refine w_revR ?_ | refine w_cont ?_ | refine w_dpop ?_ | refine w_iKeys ?_)
local macro_rules | `(tactic| walk_at "hp") => `(tactic| (first | assumption | exact g_at (by assumption) | exact g_cat (by assumption) | (refine g_same (by assumption) ?_ ; walk_at "hp") | (refine g_new (by assumption) ?_ ; walk_at "hp") | (refine q_same (by assumption) ?_ ; walk_at "hp") | (refine q_new (by assumption) ?_ ; walk_at "hp")))
local macro_rules | `(tactic| walk_at "go") => `(tactic| repeat' walk_at "go1")
local macro_rules | `(tactic| walk_at "st") => `(tactic| simp only [cxK, L2.start, List.map_cons, List.map_nil, List.length_cons, List.length_nil, Nat.reduceAdd, Nat.reduceSub, List.replicate, List.cons_append, List.nil_append])

--import step
def spDesc (CS : Addr) : Sp := fun vs H Q _ => ∃ (wa a : Addr) (L : Int) (R : Nat) (wh n : Bool) (rows : List Row) (js : List Nat), vs = [V.ref wa, .ref a, .int L, .int (R : Int), .bl wh, .bl n] ∧ WorldAt CS H wa rows ∧ WfR rows ∧ H a = some (.lst (iv js)) ∧ VO rows js ∧ Least rows L ∧ R < 2 ^ 60 ∧
  (wh = true → M93.cost (pR rows) (wR rows) 0 js - L < (R : Int)) ∧ ∀ H', Same H H' → Q (.bl true) H'
structure DcInv (wa : Addr) (L : Int) (R : Nat) (wh n : Bool) (rows : List Row) (c0 : Int) (H0 : Hp) (t : Nat) (σ : L2.St) (H : Hp) : Prop where
  sl : ∃ a x y, σ = [some (.ref wa), some (.ref a), some (.int L), some (.int (R : Int)), some (.bl wh), some (.bl n), x, y] ∧ ∃ js, H a = some (.lst (iv js)) ∧ VO rows js ∧ M93.cost (pR rows) (wR rows) 0 js ≤ c0 - (t : Int)
  st : Same H0 H
def spSpan : Sp := fun vs H Q _ => ∃ (b : Addr) (m : Nat), vs = [V.ref b, .int (m : Int)] ∧ BoxAt H b ∧ 2 ≤ m ∧ m ≤ 1000 ∧
  ∀ p H' (i j k : Nat), But b H H' → BoxAt H' b → H' p = some (triV i j k) → i < j → j < k → k ≤ m → Q (.ref p) H'
section
variable {P : Program} {w : World} {K : PySem.W.Frag} {mg : Str → Option Value} {base : Heap} {CS CC CI CB : Addr}
theorem ok_law_descent_right (D : Df K mg "_law_descent_right" s__law_descent_right) (T : Txt K mg CS CC) (c__law_step : Dn P w K mg base CX0 10 "_law_step" s__law_step p__law_step (spStep CS)) :
    Dn P w K mg base CX0 11 "_law_descent_right" s__law_descent_right p__law_descent_right (spDesc CS) := by
  refine dn_ok D sc__law_descent_right (fun vs H Q E h => by obtain ⟨_, _, _, _, _, _, _, _, rfl, _⟩ := h; rfl) fun f cdv A outer s H vs Q E hr h => ?_
  obtain ⟨wa, a, L, R, wh, n, rows, js, rfl, hW, wf, ha, vo, hL, hR, hwh, q⟩ := h
  refine ⟨_, (pss_cons (ps_for PassesOwn.never rfl (pi_range1 (by rfl) T.range (pa_cons (pv 3) pa_nil)) (pg_name (i := 6) sc__law_descent_right.nd rfl (by first | exact Or.inl rfl | exact Or.inr rfl)) (pss_cons (ps_set (i := 7) sc__law_descent_right.nd rfl (by first | exact Or.inl rfl | exact Or.inr rfl) (pe_cD c__law_step b__law_step (hr.mono (by decide)) (by rfl) pass0 (pa_cons (pv 0) (pa_cons (pv 1) (pa_cons (pv 2) (pa_cons (pe_cmpR op_eq (pe_cmpR op_eq (pe_op op_modN (pv 6) pe_int) pe_int (nomark _)) (pv 5) (nomark _)) pa_nil))))))
      (pss_cons (ps_if (pt_cmpR op_ne (pe_ix ix_sq (pv 7) pe_int (fun _ _ => rfl)) pe_str (nomark _)) (pss_one (ps_ret (pe_cmpR op_eq (pe_ix ix_sq (pv 7) pe_int (fun _ _ => rfl)) pe_str (nomark _)))) pss_nil)
      (pss_one (ps_set (i := 1) sc__law_descent_right.nd rfl (by first | exact Or.inl rfl | exact Or.inr rfl) (pe_ix ix_sq (pv 7) pe_int (fun _ _ => rfl)))))))
      (pss_one (ps_ret (pe_not (pv 4))))), ?_⟩
  walk_at "st"
  walk_at "go"
  refine range_for (by omega) (by omega) (DcInv wa L R wh n rows (M93.cost (pR rows) (wR rows) 0 js) H) ⟨⟨a, _, _, rfl, js, ha, vo, by omega⟩, fun _ _ e => e⟩ (fun t σ' H' ht I => ?_) (fun σ' H' I => ?_)
  · obtain ⟨⟨a2, x, y, rfl, js2, ha2, vo2, hc2⟩, st⟩ := I
    walk_at "go"
    refine w_I (show (2 : Int) ≠ 0 by decide) ?_
    walk_at "go"
    refine ⟨rfl, ?_⟩
    walk_at "go"
    refine ⟨wa, a2, L, _, rows, js2, rfl, hW.same st, wf, ha2, vo2, hL, fun hc p H2 s2 hp => ?_, fun hc p b js3 H2 s2 hp hb vo3 hlt => ?_⟩
    · walk_at "go"
      refine w_ix (q_l hp) rfl ?_
      walk_at "go"
      refine w_neS ?_
      rw [decide_eq_false (by decide +kernel)]
      walk_at "go"
      refine iteT ?_
      walk_at "go"
      refine w_ix (q_l hp) rfl ?_
      walk_at "go"
      refine w_eqS ?_
      rw [decide_eq_true rfl]
      exact q H2 fun b o e => s2 _ _ (st _ _ e)
    · walk_at "go"
      refine w_ix (q_l hp) rfl ?_
      walk_at "go"
      refine w_neS ?_
      rw [decide_eq_true rfl]
      walk_at "go"
      refine iteF ?_
      walk_at "go"
      refine w_ix (q_l hp) rfl ?_
      walk_at "go"
      exact ⟨⟨b, _, _, rfl, js3, hb, vo3, by omega⟩, fun b o e => s2 _ _ (st _ _ e)⟩
  · obtain ⟨⟨a2, x, y, rfl, js2, ha2, vo2, hc2⟩, st⟩ := I
    rw [Int.toNat_natCast] at hc2
    walk_at "go"
    cases wh with
    | false => exact q H' st
    | true =>
      have h1 := hwh rfl
      have h2 := hL.2 js2 vo2
      omega
theorem ok_law_span (D : Df K mg "_law_span" s__law_span) (T : Txt K mg CS CC) (c__law_take : Dn P w K mg base CX0 1 "_law_take" s__law_take p__law_take spTake) : Dn P w K mg base CX0 2 "_law_span" s__law_span p__law_span spSpan := by
  refine dn_ok D sc__law_span (fun vs H Q E h => by obtain ⟨_, _, rfl, _⟩ := h; rfl) fun f cdv A outer s H vs Q E hr h => ?_
  obtain ⟨b, m, rfl, hb, hm1, hm2, q⟩ := h
  refine ⟨_, (pss_cons (ps_set (i := 2) sc__law_span.nd rfl (by first | exact Or.inl rfl | exact Or.inr rfl) (pe_cD c__law_take b__law_take (hr.mono (by decide)) (by rfl) pass0 (pa_cons (pv 0) (pa_cons (pe_op op_sub (pv 1) pe_int) pa_nil))))
      (pss_cons (ps_set (i := 3) sc__law_span.nd rfl (by first | exact Or.inl rfl | exact Or.inr rfl) (pe_op op_add (pe_op op_add (pv 2) pe_int) (pe_cD c__law_take b__law_take (hr.mono (by decide)) (by rfl) pass0 (pa_cons (pv 0) (pa_cons (pe_callB (call_min2Q rfl) (by rfl) T.min (by decide +kernel) (pa_cons pe_int (pa_cons (pe_op op_sub (pe_op op_sub (pv 1) (pv 2)) pe_int) pa_nil))) pa_nil)))))
      (pss_one (ps_ret (pe_tupS (pa_cons (pv 2) (pa_cons (pv 3) (pa_cons (pe_op op_add (pe_op op_add (pv 3) pe_int) (pe_cD c__law_take b__law_take (hr.mono (by decide)) (by rfl) pass0 (pa_cons (pv 0) (pa_cons (pe_callB (call_min2Q rfl) (by rfl) T.min (by decide +kernel) (pa_cons pe_int (pa_cons (pe_op op_sub (pv 1) (pv 3)) pa_nil))) pa_nil)))) pa_nil)))))))), ?_⟩
  walk_at "st"
  walk_at "go"
  refine ⟨b, _, rfl, hb, by omega, by omega, fun r1 H1 hr1 b1 bx1 => ?_⟩
  walk_at "go"
  refine ⟨_, _, rfl, ?_⟩
  walk_at "go"
  refine ⟨b, _, rfl, bx1, by split <;> omega, by split <;> omega, fun r2 H2 hr2 b2 bx2 => ?_⟩
  have hr2' : (r2 : Int) < (m : Int) - (r1 : Int) - 1 := by
    revert hr2
    split <;> intro hr2 <;> omega
  walk_at "go"
  refine ⟨_, _, rfl, ?_⟩
  walk_at "go"
  refine ⟨b, _, rfl, bx2, by split <;> omega, by split <;> omega, fun r3 H3 hr3 b3 bx3 => ?_⟩
  have hr3' : (r3 : Int) < (m : Int) - ((r1 : Int) + 1 + (r2 : Int)) := by
    revert hr3
    split <;> intro hr3 <;> omega
  walk_at "go"
  intro p H4 n4
  have e2 : (r1 : Int) + 1 + (r2 : Int) = ((r1 + 1 + r2 : Nat) : Int) := by omega
  have e3 : (r1 : Int) + 1 + (r2 : Int) + 1 + (r3 : Int) = ((r1 + 1 + r2 + 1 + r3 : Nat) : Int) := by omega
  rw [e3, e2] at n4
  exact q p H4 r1 (r1 + 1 + r2) (r1 + 1 + r2 + 1 + r3) (((b1.trans b2).trans b3).then n4.1) (bx3.same n4.1) n4.2.2 (by omega) (by omega) (by omega)
end

end Cw
end

/-! text C93_search -/
section
set_option Elab.async false
set_option linter.all false
set_option maxRecDepth 100000
set_option maxHeartbeats 4000000
namespace Cw
open PySem PySem.Spec PyProof.Rows L2
local macro_rules | `(tactic| walk_at "go1") => `(tactic| with_reducible first
  | refine w_seq ?_ | refine w_asgN ?_ | refine w_asgG ?_ | refine w_drop ?_ | refine w_ret ?_ | refine w_if ?_ | refine w_next ?_
  | refine w_var rfl ?_ | refine w_c ?_ | refine w_op ?_ | refine w_un ?_ | refine w_cb ?_ | refine w_cons ?_ | refine w_nil ?_ | refine w_call ?_
  | refine w_test ?_ | refine w_tB ?_ | refine w_bl ?_ | refine w_and ?_ | refine w_or ?_ | refine w_not ?_ | refine w_andV ?_ | refine w_orV ?_ | refine w_notV ?_ | refine w_ifE ?_ | refine w_blv ?_
  | refine w_I0 ?_ | refine w_eqI ?_ | refine w_neI ?_ | refine w_isN ?_ | refine w_notN ?_ | refine w_chain ?_ | refine w_for ?_ | refine w_iSeq ?_ | refine w_iR1 ?_ | refine w_iR2 ?_ | refine w_lc ?_
  | refine w_tupS ?_ | refine w_lstS ?_ | refine w_gN ?_ | refine w_gCons ?_ | refine w_gNil ?_ | refine w_aug rfl ?_ | refine w_ip ?_ | refine w_par ?_ | refine w_par2 ?_ | refine w_par3 ?_ | refine w_par33 ?_ | refine w_small (by first | decide | (simp only [List.length_cons, List.length_nil]; decide)) ?_ | refine w_bmL ?_ | refine w_gSub ?_ | refine w_lc2 ?_ | refine w_iEnum ?_ | refine w_yes ?_ | refine w_chN ?_ | refine w_chC ?_ | refine w_chL ?_ | refine w_tSl ?_ | refine w_pN ?_ | refine w_pS ?_ | refine w_pI ?_ | refine w_star ?_ | refine w_lrg ?_ | refine w_dget ?_ | refine w_dnotin ?_ | refine w_dget2 ?_ | refine w_dput ?_ | refine w_revR ?_ | refine w_cont ?_ | refine w_dpop ?_ | refine w_iKeys ?_)
local macro_rules | `(tactic| walk_at "hp") => `(tactic| (first | assumption | exact g_at (by assumption) | exact g_cat (by assumption) | (refine g_same (by assumption) ?_ ; walk_at "hp") | (refine g_new (by assumption) ?_ ; walk_at "hp") | (refine q_same (by assumption) ?_ ; walk_at "hp") | (refine q_new (by assumption) ?_ ; walk_at "hp")))
local macro_rules | `(tactic| walk_at "go") => `(tactic| repeat' walk_at "go1")
local macro_rules | `(tactic| walk_at "st") => `(tactic| simp only [cxK, L2.start, List.map_cons, List.map_nil, List.length_cons, List.length_nil, Nat.reduceAdd, Nat.reduceSub, List.replicate, List.cons_append, List.nil_append])

--import desc
def gj_21 {α : Type} : List α → List α → List α
  | [x], [a, b] => [x, b, a]
  | _, _ => []
theorem vj_21 {vs : List V} {us : List Value} {zs : List V} {ws : List Value} (h : Vals vs us) (k : Vals zs ws) : Vals (gj_21 vs zs) (gj_21 us ws) := by
  cases h with
  | nil => exact .nil
  | cons r1 h => cases h with
    | nil => cases k with
      | nil => exact .nil
      | cons s1 k => cases k with
        | nil => exact .nil
        | cons s2 k => cases k with
          | nil => exact .cons r1 (.cons s2 (.cons s1 .nil))
          | cons s3 k => exact .nil
    | cons r2 h => exact .nil
theorem RowsC.takeE {rows : List Row} {c : Nat} (h : RowsC rows c) : rows.filter (fun r => decide (r.2.2 = 0)) = rows.take c ∧ rows.filter (fun r => decide (0 < r.2.2)) = rows.drop c := by
  have e : rows = rows.take c ++ rows.drop c := (List.take_append_drop c rows).symm
  have h1 : ∀ r ∈ rows.take c, r.2.2 = 0 := fun r hr => by
    obtain ⟨i, hi⟩ := List.mem_iff_getElem?.mp hr
    rw [List.getElem?_take] at hi
    split at hi
    · exact (h.cov i r hi (by assumption)).2.2
    · cases hi
  have h2 : ∀ r ∈ rows.drop c, 1 ≤ r.2.2 := fun r hr => by
    obtain ⟨i, hi⟩ := List.mem_iff_getElem?.mp hr
    rw [List.getElem?_drop] at hi
    exact (h.look _ r hi (by omega)).2.2.1
  constructor
  · conv => lhs; rw [e]
    rw [List.filter_append, List.filter_eq_self.mpr (fun r hr => decide_eq_true (h1 r hr)), List.filter_eq_nil_iff.mpr (fun r hr => by have := h2 r hr; simp; omega), List.append_nil]
  · conv => lhs; rw [e]
    rw [List.filter_append, List.filter_eq_nil_iff.mpr (fun r hr => by have := h1 r hr; simp; omega), List.filter_eq_self.mpr (fun r hr => by have := h2 r hr; exact decide_eq_true (by omega)), List.nil_append]
theorem Obs.filt {α : Type} {H : Hp} {vs : List V} {l : List α} {o : α → HO} (h : Obs H vs l o) (kp : α → Bool) : Obs H (((vs.zip l).filter fun p => kp p.2).map Prod.fst) (l.filter kp) o := by
  have key : ∀ X : List (V × α), (∀ p ∈ X, ∃ a, p.1 = .ref a ∧ H a = some (o p.2)) → Obs H (X.map Prod.fst) (X.map Prod.snd) o := fun X hX => by
    refine ⟨by simp, fun k x e => ?_⟩
    rw [List.getElem?_map] at e
    cases ex : X[k]? with
    | none => rw [ex] at e; cases e
    | some p =>
      rw [ex] at e
      obtain rfl := Option.some.inj e
      obtain ⟨a, h1, h2⟩ := hX p (List.mem_of_getElem? ex)
      exact ⟨a, by rw [List.getElem?_map, ex]; exact congrArg some h1, h2⟩
  have := key ((vs.zip l).filter fun p => kp p.2) fun p hp => by
    obtain ⟨a, h1, h2, _⟩ := h.zip (List.mem_filter.mp hp).1
    exact ⟨a, h1, h2⟩
  rw [zip_filter h.1] at this
  exact this
def spSearch (CS : Addr) : Sp := fun vs H Q _ => ∃ r n rows c, vs = [V.ref r, .bl n] ∧ RowsL H r rows ∧ RowsC rows c ∧ ∀ s H', Same H H' → SearchAt CS H' s rows → Q (.ref s) H'
section
variable {σ : L2.St} {H : Hp} {Q : VK} {t tk : TA} {C : Addr} {sp : Sp} {dvs : List V} {E : XK}
theorem w_make (h : t σ H fun vs H1 => ∀ x dx, H1 x = none → H1 dx = none → dx ≠ x → sp (.ref x :: (vs ++ dvs)) (upd (upd H1 dx (.own x)) x (.ins C dx [])) (fun v H2 => v = .non ∧ Q (.ref x) H2) E) : tMake C sp dvs E t σ H Q := h
theorem w_makeK {n m : Nat} {gV : List V → List V → List V} (h : t σ H fun vs H1 => tk σ H1 fun zs H2 => vs.length = n ∧ zs.length = m ∧ ∀ x dx, H2 x = none → H2 dx = none → dx ≠ x →
  sp (gV (.ref x :: vs) zs) (upd (upd H2 dx (.own x)) x (.ins C dx [])) (fun v H3 => v = .non ∧ Q (.ref x) H3) E) : tMakeK C n m sp gV E t tk σ H Q := h
theorem made {x dx : Addr} {H1 : Hp} (hx : H1 x = none) (hd : H1 dx = none) : Same H1 (upd (upd H1 dx (.own x)) x (.ins C dx [])) ∧ (upd (upd H1 dx (.own x)) x (.ins C dx [])) x = some (.ins C dx []) :=
  ⟨fun b o e => by rw [upd_ne (ne_of_none e hx), upd_ne (ne_of_none e hd)]; exact e, upd_same⟩
end
section
variable {P : Program} {w : World} {K : PySem.W.Frag} {mg : Str → Option Value} {base : Heap} {CS CC CI CB : Addr}
theorem ok_law_search (D : Df K mg "_law_search" s__law_search) (T : Txt K mg CS CC) (c_Covers : Cn P w K mg base 5 "Covers" "Covers.__init__" s_Covers___init__ p_Covers___init__ CC (spCInit CC))
    (c_Search : Cn P w K mg base 4 "Search" "Search.__init__" s_Search___init__ p_Search___init__ CS (spSInit CS CC)) : Dn P w K mg base CX0 7 "_law_search" s__law_search p__law_search (spSearch CS) := by
  refine dn_ok D sc__law_search (fun vs H Q E h => by obtain ⟨_, _, _, _, rfl, _⟩ := h; rfl) fun f cdv A outer s H vs Q E hr h => ?_
  obtain ⟨r, n, rows, c, rfl, ⟨out, ho, hrv⟩, hrc, q⟩ := h
  have wl := hrc.len
  have wf := hrc.wf
  obtain ⟨eT, eD⟩ := hrc.takeE
  have hob : Obs H out rows rowO := hrv
  refine ⟨_, (pss_cons (ps_set (i := 2) sc__law_search.nd rfl (by first | exact Or.inl rfl | exact Or.inr rfl) (pe_mkD c_Covers b_Covers___init__ (hr.mono (by decide)) (by rfl) (pa_cons (pe_lc (own := [("row", 3)]) rfl sc__law_search.nd (pi_seq (pv 0)) (blkOk_by (own := [("row", 3)]) (N := N__law_search) (sc := defScope s__law_search) (by decide +kernel)) (fun _ _ _ _ _ => (pg_name (i := 3) sc__law_search.nd rfl (by first | exact Or.inl rfl | exact Or.inr rfl))) (fun _ _ _ _ _ => (pts_one (pt_cmpR op_eq (pe_ix (ix_sqK (K := K)) (pv 3) pe_int (fun _ _ => rfl)) pe_int (nomark _)))) (fun _ _ _ _ _ => (pe_tupS (pa_cons (pe_ix (ix_sqK (K := K)) (pv 3) pe_int (fun _ _ => rfl)) (pa_cons (pe_ix (ix_sqK (K := K)) (pv 3) pe_int (fun _ _ => rfl)) pa_nil))))) pa_nil)))
      (pss_cons (ps_setLc (i := 4) (own := [("row", 3)]) rfl sc__law_search.nd rfl rfl (sw_true rfl rfl rfl (by decide +kernel)) (pi_seq (pv 0)) (blkOk_by (own := [("row", 3)]) (N := N__law_search) (sc := defScope s__law_search) (by decide +kernel)) (fun _ _ _ _ _ => (pg_name (i := 3) sc__law_search.nd rfl (by first | exact Or.inl rfl | exact Or.inr rfl))) (fun _ _ _ _ _ => (pts_one (pt_cmpR op_gt (pe_ix (ix_sqK (K := K)) (pv 3) pe_int (fun _ _ => rfl)) pe_int (nomark _)))) (fun _ _ _ _ _ => (pv 3)))
      (pss_one (ps_ret (pe_ifExp (pt_val (pv 1)) (pe_mkK (ks := ["inspections", "covers"]) gj_21 c_Search (fun _ _ _ _ _ _ us ws h1 h2 => match us, ws, h1, h2 with | [_], [_, _], _, _ => rfl) vj_21 (hr.mono (by decide)) (by rfl) (pk_cons (pe_callTy call_tupS (by rfl) T.tuple (by decide +kernel) (pa_cons (pv 4) pa_nil)) (pk_cons (pv 2) pk_nil))) (pe_mkD c_Search b_Search___init__ (hr.mono (by decide)) (by rfl) (pa_cons (pv 2) (pa_cons (pv 4) pa_nil)))))))), ?_⟩
  walk_at "st"
  walk_at "go"
  have look : ∀ (H0 : Hp) (p : V × Row), Same H H0 → p ∈ out.zip rows → ∃ a, p.1 = .ref a ∧ H0 a = some (.tup [optV p.2.1, .int p.2.2.1, .int p.2.2.2]) := fun H0 p s0 hp => by
    obtain ⟨a, e1, e2, _⟩ := hob.zip hp
    exact ⟨a, e1, s0 _ _ e2⟩
  refine w_make ?_
  walk_at "go"
  refine seq_obs (out.zip rows) Prod.fst (fun p => decide (p.2.2.2 = 0)) (fun p => covO p.2) (by rw [List.length_zip]; omega) (by rw [zip_fst hrv.1]; exact q_l ho) (fun p H' Pe Pn hp st k1 k2 => ?_) (fun D1 H1 oc st1 nD1 hD1 obc => ?_)
  · obtain ⟨a, e1, e2⟩ := look H' p st hp
    obtain ⟨p1, p2⟩ := p
    dsimp only at e1 e2
    subst e1
    walk_at "go"
    refine ⟨rfl, ?_⟩
    walk_at "go"
    refine w_ix (q_t e2) rfl ?_
    walk_at "go"
    refine ite2 (fun h1 => ?_) (fun h1 => ?_)
    · walk_at "go"
      refine w_ix (q_t e2) rfl ?_
      walk_at "go"
      refine w_ix (q_t e2) rfl ?_
      walk_at "go"
      intro t H2 n2
      exact k1 h1 t H2 n2.1 n2.2.1 n2.2.2
    · exact k2 (by simpa using h1) H' fun _ _ e => e
  · have obC : Obs H1 oc (rows.take c) covO := by
      have := obc.of_map (g := Prod.snd) (o := covO)
      rw [zip_filter hrv.1 (fun r => decide (r.2.2 = 0)), eT] at this
      exact this
    have okC : CovsOk (rows.take c) := fun i x e => by
      rw [List.getElem?_take] at e
      split at e
      · exact (hrc.cov i x e (by assumption)).1
      · cases e
    have s1 : Same H H1 := st1
    walk_at "go"
    intro x dx hx hdx hne
    obtain ⟨m1, m2⟩ := made (C := CC) hx hdx
    generalize upd (upd H1 dx (.own x)) x (.ins CC dx []) = H2 at m1 m2 ⊢
    refine ⟨x, dx, D1, oc, rows.take c, rfl, m2, m1 _ _ hD1, obC.same m1, okC, by simp; omega, fun H3 b3 hcov => ⟨rfl, ?_⟩⟩
    have s13 : Same H1 H3 := fun b o e => b3 _ _ (ne_of_none e hx) (m1 _ _ e)
    have s3 : Same H H3 := fun b o e => s13 _ _ (s1 _ _ e)
    walk_at "go"
    refine seq_map (out.zip rows) Prod.fst (fun p => decide (0 < p.2.2.2)) Prod.fst (by rw [List.length_zip]; omega) (by rw [zip_fst hrv.1]; exact q_l (s3 _ _ ho)) (fun p H' Pe Pn hp st k1 k2 => ?_) (fun D4 H4 n4 => ?_)
    · obtain ⟨a, e1, e2⟩ := look H' p (fun b o e => st _ _ (s3 _ _ e)) hp
      obtain ⟨p1, p2⟩ := p
      dsimp only at e1 e2
      subst e1
      walk_at "go"
      refine ⟨rfl, ?_⟩
      walk_at "go"
      refine w_ix (q_t e2) rfl ?_
      walk_at "go"
      refine ite2 (fun h1 => ?_) (fun h1 => ?_)
      · walk_at "go"
        exact k1 h1 H' fun _ _ e => e
      · exact k2 (by simpa using h1) H' fun _ _ e => e
    · have s4 : Same H H4 := fun b o e => n4.1 _ _ (s3 _ _ e)
      have obL : Obs H4 (((out.zip rows).filter fun p => decide (0 < p.2.2.2)).map Prod.fst) (rows.drop c) rowO := by
        have := (hob.same s4).filt fun r => decide (0 < r.2.2)
        rw [eD] at this
        exact this
      have hcov4 := hcov.same n4.1
      have eR : rows.take c ++ rows.drop c = rows := List.take_append_drop c rows
      have hz : ∀ r ∈ rows.take c, r.2.2 = 0 := fun r hr => by
        rw [← eT] at hr
        exact of_decide_eq_true (List.mem_filter.mp hr).2
      have hcl : (rows.take c).length = c := by rw [List.length_take]; have := hrc.cl; omega
      have okL : ∀ r ∈ rows.drop c, CovOk (rows.take c).length r ∧ 1 ≤ r.2.2 := fun r hr => by
        rw [hcl]
        obtain ⟨i, hi⟩ := List.mem_iff_getElem?.mp hr
        rw [List.getElem?_drop] at hi
        have := hrc.look _ r hi (by omega)
        exact ⟨this.1, this.2.2.1⟩
      have fin : ∀ (H5 H6 H7 : Hp) (x2 dx2 : Addr) (l : Addr), Same H4 H5 → (H5 l = some (.lst (((out.zip rows).filter fun p => decide (0 < p.2.2.2)).map Prod.fst)) ∨ H5 l = some (.tup (((out.zip rows).filter fun p => decide (0 < p.2.2.2)).map Prod.fst))) → H5 x2 = none → Same H5 H6 → H6 x2 = some (.ins CS dx2 []) →
          (∀ s H', Same H H' → SearchAt CS H' s rows → Q (.ref s) H') → spSInit CS CC [.ref x2, .ref x, .ref l] H6 (fun v H7 => v = .non ∧ Q (.ref x2) H7) E0 := fun H5 H6 H7 x2 dx2 l s5 hl nx s6 hx6 q => by
        have hcx : x ≠ x2 := fun z => by
          subst z
          obtain ⟨_, _, _, _, F⟩ := hcov4
          have := s5 _ _ F.ob
          rw [nx] at this
          cases this
        refine ⟨x2, dx2, x, l, _, rows.take c, rows.drop c, rfl, hx6, (hcov4.same s5).same s6, hz, hl.imp (g_same s6) (g_same s6), (obL.same s5).same s6, okL, by rw [eR]; exact wf, hcx, fun H' bt hS => ⟨rfl, ?_⟩⟩
        rw [eR] at hS
        exact q x2 H' (fun b o e => bt _ _ (ne_of_none (s5 _ _ (s4 _ _ e)) nx) (s6 _ _ (s5 _ _ (s4 _ _ e)))) hS
      walk_at "go"
      cases n with
      | true =>
        refine iteT ?_
        refine w_makeK ?_
        walk_at "go"
        refine w_tupleS (Or.inl (Or.inl n4.2.2)) fun l H5 n5 => ?_
        walk_at "go"
        refine ⟨rfl, rfl, fun x2 dx2 hx2 hdx2 hne2 => ?_⟩
        obtain ⟨m3, m4⟩ := made (C := CS) hx2 hdx2
        exact fin H5 _ H5 x2 dx2 l n5.1 (Or.inr n5.2.2) hx2 m3 m4 q
      | false =>
        refine iteF ?_
        refine w_make ?_
        walk_at "go"
        intro x2 dx2 hx2 hdx2 hne2
        obtain ⟨m3, m4⟩ := made (C := CS) hx2 hdx2
        exact fin H4 _ H4 x2 dx2 D4 (fun _ _ e => e) (Or.inl n4.2.2) hx2 m3 m4 q
end

end Cw
end

/-! text C93_great -/
section
set_option Elab.async false
set_option linter.all false
set_option maxRecDepth 100000
set_option maxHeartbeats 4000000
namespace Cw
open PySem PySem.Spec PyProof.Rows L2
local macro_rules | `(tactic| walk_at "go1") => `(tactic| with_reducible first
  | refine w_seq ?_ | refine w_asgN ?_ | refine w_asgG ?_ | refine w_drop ?_ | refine w_ret ?_ | refine w_if ?_ | refine w_next ?_
  | refine w_var rfl ?_ | refine w_c ?_ | refine w_op ?_ | refine w_un ?_ | refine w_cb ?_ | refine w_cons ?_ | refine w_nil ?_ | refine w_call ?_
  | refine w_test ?_ | refine w_tB ?_ | refine w_bl ?_ | refine w_and ?_ | refine w_or ?_ | refine w_not ?_ | refine w_andV ?_ | refine w_orV ?_ | refine w_notV ?_ | refine w_ifE ?_ | refine w_blv ?_
  | refine w_I0 ?_ | refine w_eqI ?_ | refine w_neI ?_ | refine w_isN ?_ | refine w_notN ?_ | refine w_chain ?_ | refine w_for ?_ | refine w_iSeq ?_ | refine w_iR1 ?_ | refine w_iR2 ?_ | refine w_lc ?_
  | refine w_tupS ?_ | refine w_lstS ?_ | refine w_gN ?_ | refine w_gCons ?_ | refine w_gNil ?_ | refine w_aug rfl ?_ | refine w_ip ?_ | refine w_par ?_ | refine w_par2 ?_ | refine w_par3 ?_ | refine w_par33 ?_ | refine w_small (by first | decide | (simp only [List.length_cons, List.length_nil]; decide)) ?_ | refine w_bmL ?_ | refine w_gSub ?_ | refine w_lc2 ?_ | refine w_iEnum ?_ | refine w_yes ?_ | refine w_chN ?_ | refine w_chC ?_ | refine w_chL ?_ | refine w_tSl ?_ | refine w_pN ?_ | refine w_pS ?_ | refine w_pI ?_ | refine w_star ?_ | refine w_lrg ?_ | refine w_dget ?_ | refine w_dnotin ?_ | refine w_dget2 ?_ | refine w_dput ?_ | refine w_revR ?_ | refine w_cont ?_ | refine w_dpop ?_ | refine w_iKeys ?_)
local macro_rules | `(tactic| walk_at "hp") => `(tactic| (first | assumption | exact g_at (by assumption) | exact g_cat (by assumption) | (refine g_same (by assumption) ?_ ; walk_at "hp") | (refine g_new (by assumption) ?_ ; walk_at "hp") | (refine q_same (by assumption) ?_ ; walk_at "hp") | (refine q_new (by assumption) ?_ ; walk_at "hp")))
local macro_rules | `(tactic| walk_at "go") => `(tactic| repeat' walk_at "go1")
local macro_rules | `(tactic| walk_at "st") => `(tactic| simp only [cxK, L2.start, List.map_cons, List.map_nil, List.length_cons, List.length_nil, Nat.reduceAdd, Nat.reduceSub, List.replicate, List.cons_append, List.nil_append])

--import search
theorem box_ne {H : Hp} {b a : Addr} {js : List Nat} (hb : BoxAt H b) (ha : H a = some (.lst (iv js))) : a ≠ b := fun z => by
  subst z
  obtain ⟨x, f, c, d, e⟩ := hb
  rw [e] at ha
  have h := HO.lst.inj (Option.some.inj ha)
  cases js with
  | nil => cases h
  | cons p r => cases r with
    | nil => cases h
    | cons q t =>
      have h2 := congrArg (fun l : List V => l[1]?) h
      cases h2
theorem WorldAt.but {CS : Addr} {H H' : Hp} {b wa : Addr} {rows : List Row} (hb : BoxAt H b) (s : But b H H') : WorldAt CS H wa rows → WorldAt CS H' wa rows := by
  rintro ⟨r, sa, h1, h2, dx, cv, tv, rv, av, rvs, avs, F⟩
  have hwb : wa ≠ b := fun z => by
    subst z
    obtain ⟨x, f, c, d, e⟩ := hb
    rw [e] at h1
    cases h1
  have hsb : sa ≠ b := fun z => by
    subst z
    obtain ⟨x, f, c, d, e⟩ := hb
    have := F.ob
    rw [e] at this
    cases this
  exact ⟨r, sa, s _ _ hwb h1, h2.but hb s, dx, cv, tv, rv, av, rvs, avs, F.keep (hb.tups s) fun o e => s _ _ hsb e⟩
def spGreat : Sp := fun vs H Q _ => ∃ b n, vs = [V.ref b, .bl n] ∧ BoxAt H b ∧ ∀ H', But b H H' → BoxAt H' b → Q (.bl true) H'
structure GrInv (CS b wa r o : Addr) (n : Bool) (L : Int) (rows : List Row) (js : List Nat) (H0 : Hp) (t : Nat) (σ : L2.St) (H : Hp) : Prop where
  sl : ∃ x y z, σ = [some (.ref b), some (.bl n), x, some (.ref r), some (.ref o), some (.ref wa), some (.int L), y, z]
  bt : But b H0 H
  bx : BoxAt H b
  wo : WorldAt CS H wa rows
  rl : RowsL H r rows
  oo : H o = some (.lst (iv js))
section
variable {P : Program} {w : World} {K : PySem.W.Frag} {mg : Str → Option Value} {base : Heap} {CS CC CI CB : Addr}
theorem ok_law_great_right (D : Df K mg "_law_great_right" s__law_great_right) (T : Txt K mg CS CC) (c__law_take : Dn P w K mg base CX0 1 "_law_take" s__law_take p__law_take spTake) (c__law_drawn : Dn P w K mg base CX0 2 "_law_drawn" s__law_drawn p__law_drawn spDrawn)
    (c__law_merged : Dn P w K mg base CX0 1 "_law_merged" s__law_merged p__law_merged spMerged) (c__law_search : Dn P w K mg base CX0 7 "_law_search" s__law_search p__law_search (spSearch CS)) (c__law_cost : Dn P w K mg base CX0 1 "_law_cost" s__law_cost p__law_cost (spCostBy K))
    (c__law_descent_right : Dn P w K mg base CX0 11 "_law_descent_right" s__law_descent_right p__law_descent_right (spDesc CS)) (c__law_span : Dn P w K mg base CX0 2 "_law_span" s__law_span p__law_span spSpan) (c__law_is_swap : Dn P w K mg base CX0 1 "_law_is_swap" s__law_is_swap p__law_is_swap spIsSwap)
    (c__law_after : Dn P w K mg base CX0 1 "_law_after" s__law_after p__law_after spAfter) : Dn P w K mg base CX0 12 "_law_great_right" s__law_great_right p__law_great_right spGreat := by
  refine dn_ok D sc__law_great_right (fun vs H Q E h => by obtain ⟨_, _, rfl, _⟩ := h; rfl) fun f cdv A outer s H vs Q E hr h => ?_
  obtain ⟨b, n, rfl, hb, q⟩ := h
  refine ⟨_, (pss_cons (ps_set (i := 2) sc__law_great_right.nd rfl (by first | exact Or.inl rfl | exact Or.inr rfl) (pe_ix ix_sq (pe_lstS (pa_cons pe_int (pa_cons pe_int (pa_cons pe_int (pa_cons pe_int pa_nil))))) (pe_cD c__law_take b__law_take (hr.mono (by decide)) (by rfl) pass0 (pa_cons (pv 0) (pa_cons pe_int pa_nil))) (fun _ _ => rfl)))
      (pss_cons (ps_set (i := 3) sc__law_great_right.nd rfl (by first | exact Or.inl rfl | exact Or.inr rfl) (pe_cD c__law_drawn b__law_drawn (hr.mono (by decide)) (by rfl) pass0 (pa_cons (pv 0) (pa_cons (pv 2) (pa_cons (pe_op op_sub pe_int (pv 2)) (pa_cons pe_int pa_nil))))))
      (pss_cons (ps_set (i := 4) sc__law_great_right.nd rfl (by first | exact Or.inl rfl | exact Or.inr rfl) (pe_cD c__law_merged b__law_merged (hr.mono (by decide)) (by rfl) pass0 (pa_cons (pv 3) pa_nil)))
      (pss_cons (ps_par (i := 5) (j := 6) (by rfl) sc__law_great_right.nd rfl rfl (by decide) rfl rfl (pa_cons (pe_lstS (pa_cons (pv 3) (pa_cons (pe_cD c__law_search b__law_search (hr.mono (by decide)) (by rfl) pass0 (pa_cons (pv 3) (pa_cons (pv 1) pa_nil))) pa_nil))) (pa_cons (pe_cD c__law_cost b__law_cost (hr.mono (by decide)) (by rfl) pass0 (pa_cons (pv 3) (pa_cons (pv 4) pa_nil))) pa_nil)) (by rfl))
      (pss_cons (ps_if (pt_not (pt_val (pe_cD c__law_descent_right b__law_descent_right (hr.mono (by decide)) (by rfl) pass0 (pa_cons (pv 5) (pa_cons (pv 4) (pa_cons (pv 6) (pa_cons pe_int (pa_cons pe_bl (pa_cons (pv 1) pa_nil))))))))) (pss_one (ps_ret pe_bl)) pss_nil)
      (pss_cons (ps_for PassesOwn.never rfl (pi_range1 (by rfl) T.range (pa_cons pe_int pa_nil)) (pg_name (i := 7) sc__law_great_right.nd rfl (by first | exact Or.inl rfl | exact Or.inr rfl)) (pss_cons (ps_set (i := 8) sc__law_great_right.nd rfl (by first | exact Or.inl rfl | exact Or.inr rfl) (pe_cD c__law_span b__law_span (hr.mono (by decide)) (by rfl) pass0 (pa_cons (pv 0) (pa_cons pe_int pa_nil))))
      (pss_one (ps_if (PW.pt (pw_and (pt_val (pe_cD c__law_is_swap b__law_is_swap (hr.mono (by decide)) (by rfl) pass0 (pa_cons (pv 3) (pa_cons (pv 4) (pa_cons (pv 8) pa_nil))))) (pw_and1 (pt_cmpR op_gt (pe_cD c__law_cost b__law_cost (hr.mono (by decide)) (by rfl) pass0 (pa_cons (pv 3) (pa_cons (pe_cD c__law_after b__law_after (hr.mono (by decide)) (by rfl) pass0 (pa_cons (pv 4) (pa_cons (pv 8) pa_nil))) pa_nil))) (pv 6) (nomark _))))) (pss_one (ps_ret (pe_cD c__law_descent_right b__law_descent_right (hr.mono (by decide)) (by rfl) pass0 (pa_cons (pv 5) (pa_cons (pe_cD c__law_after b__law_after (hr.mono (by decide)) (by rfl) pass0 (pa_cons (pv 4) (pa_cons (pv 8) pa_nil))) (pa_cons (pv 6) (pa_cons pe_int (pa_cons pe_bl (pa_cons (pe_not (pv 1)) pa_nil))))))))) pss_nil))))
      (pss_one (ps_ret pe_bl)))))))), ?_⟩
  walk_at "st"
  walk_at "go"
  intro l0 H1 n1
  walk_at "go"
  refine ⟨b, 4, rfl, hb.same n1.1, by decide, by decide, fun k H2 hk b2 bx2 => ?_⟩
  have b02 : But b H H2 := fun a o ha e => b2 _ _ ha (n1.1 _ _ e)
  have hl0 : l0 ≠ b := fun z => by
    subst z
    obtain ⟨_, _, _, _, e⟩ := hb
    rw [n1.2.1] at e
    cases e
  obtain ⟨c, hc, hc2⟩ : ∃ c : Nat, ([V.int 0, .int 12, .int 24, .int 33] : List V)[k]? = some (.int (c : Int)) ∧ c ≤ 33 := by
    have h4 : k = 0 ∨ k = 1 ∨ k = 2 ∨ k = 3 := by omega
    rcases h4 with h | h | h | h
    · subst h; exact ⟨0, rfl, by decide⟩
    · subst h; exact ⟨12, rfl, by decide⟩
    · subst h; exact ⟨24, rfl, by decide⟩
    · subst h; exact ⟨33, rfl, by decide⟩
  refine w_ixn (q_l (b2 _ _ hl0 n1.2.2)) hc ?_
  walk_at "go"
  have e40 : (40 : Int) - (c : Int) = ((40 - c : Nat) : Int) := by omega
  rw [e40]
  refine ⟨b, c, 40 - c, 1000000, rfl, bx2, by omega, by decide, by decide, fun r H3 rows b3 bx3 nr hrl hrc hlen => ?_⟩
  have wf := hrc.wf
  have hn : rows.length = 40 := by omega
  walk_at "go"
  refine ⟨r, rows, rfl, hrl, wf, fun o H4 js s4 ho vo hmin => ?_⟩
  have hrl4 := hrl.same s4
  walk_at "go"
  refine ⟨r, n, rows, c, rfl, hrl4, hrc, fun sa H5 s5 hS => ?_⟩
  walk_at "go"
  intro wa H6 n6
  walk_at "go"
  have hrl6 := (hrl4.same s5).same n6.1
  have ho6 : H6 o = some (.lst (iv js)) := n6.1 _ _ (s5 _ _ ho)
  obtain ⟨out, hout, hrv⟩ := id hrl6
  refine ⟨r, o, out, rows, js, rfl, q_l hout, hrv, q_l ho6, fun j hj => vo.lt hj, wf, fun H7 s7 => ?_⟩
  have hW7 : WorldAt CS H7 wa rows := ⟨r, sa, s7 _ _ n6.2.2, hrl6.same s7, (hS.same n6.1).same s7⟩
  have ho7 := s7 _ _ ho6
  have hL : Least rows (M93.cost (pR rows) (wR rows) 0 js) := ⟨⟨js, vo, rfl⟩, hmin⟩
  have b07 : But b H H7 := fun a u ha e => s7 _ _ (n6.1 _ _ (s5 _ _ (s4 _ _ (b3 _ _ ha (b02 _ _ ha e)))))
  have bx7 : BoxAt H7 b := (((bx3.same s4).same s5).same n6.1).same s7
  generalize hLc : M93.cost (pR rows) (wR rows) 0 js = L at hL ⊢
  walk_at "go"
  refine ⟨wa, o, L, 1, true, n, rows, js, rfl, hW7, wf, ho7, vo, hL, by decide, fun _ => by omega, fun H8 s8 => ?_⟩
  walk_at "go"
  refine iteF ?_
  walk_at "go"
  refine range_for (n := 30) (by decide) (by decide) (GrInv CS b wa r o n L rows js H) ⟨⟨_, _, _, rfl⟩, b07.then s8, bx7.same s8, hW7.same s8, (hrl6.same s7).same s8, s8 _ _ ho7⟩ (fun t σ' H9 ht I => ?_) (fun σ' H9 I => ?_)
  · obtain ⟨⟨x, y, z, rfl⟩, bt, bx, wo, rl, oo⟩ := I
    walk_at "go"
    refine ⟨b, 40, rfl, bx, by decide, by decide, fun sp HA i j k bA bxA hsp hij hjk hk => ?_⟩
    have woA := wo.but bx bA
    have rlA := rl.but bx bA
    have ooA : HA o = some (.lst (iv js)) := bA _ _ (box_ne bx oo) oo
    have btA := bt.trans bA
    walk_at "go"
    refine ⟨r, o, _, rows, js, some ((i : Int), (j : Int), (k : Int)), rfl, rlA, wf, ooA, vo, .tri hsp, fun HB sB => ?_⟩
    walk_at "go"
    cases hb' : swR rows js (some ((i : Int), (j : Int), (k : Int))) with
    | false =>
      refine iteF ?_
      refine iteF ?_
      walk_at "go"
      exact ⟨⟨_, _, _, rfl⟩, btA.then sB, bxA.same sB, woA.same sB, rlA.same sB, sB _ _ ooA⟩
    | true =>
      have hsw : swB rows js (i : Int) (j : Int) (k : Int) = true := hb'
      obtain ⟨vo', _⟩ := swap_vo wf vo hsw
      have hjl := vo.len
      refine iteT ?_
      walk_at "go"
      refine ⟨o, _, js, i, j, k, rfl, sB _ _ ooA, .tri (sB _ _ hsp), by omega, by omega, by omega, by omega, by omega, fun af HC nC => ?_⟩
      walk_at "go"
      obtain ⟨outC, houtC, hrvC⟩ := (rlA.same sB).same nC.1
      refine ⟨r, af, outC, rows, _, rfl, q_l houtC, hrvC, q_l nC.2.2, fun x hx => vo'.lt hx, wf, fun HD sD => ?_⟩
      have sAD : Same HA HD := fun a u e => sD _ _ (nC.1 _ _ (sB _ _ e))
      walk_at "go"
      refine ite2 (fun h1 => ?_) (fun h1 => ?_)
      · walk_at "go"
        refine ⟨o, _, js, i, j, k, rfl, sAD _ _ ooA, .tri (sAD _ _ hsp), by omega, by omega, by omega, by omega, by omega, fun af2 HE nE => ?_⟩
        walk_at "go"
        refine ⟨wa, af2, L, 2, false, _, rows, _, rfl, (woA.same sAD).same nE.1, wf, nE.2.2, vo', hL, by decide, fun z => (by cases z), fun HF sF => ?_⟩
        exact q HF (btA.then fun a u e => sF _ _ (nE.1 _ _ (sAD _ _ e))) (((bxA.same sAD).same nE.1).same sF)
      · walk_at "go"
        exact ⟨⟨_, _, _, rfl⟩, btA.then sAD, bxA.same sAD, woA.same sAD, rlA.same sAD, sAD _ _ ooA⟩
  · obtain ⟨⟨x, y, z, rfl⟩, bt, bx, wo, rl, oo⟩ := I
    walk_at "go"
    exact q H9 bt bx
end

end Cw
end

/-! text C93_odd -/
section
set_option Elab.async false
set_option linter.all false
set_option maxRecDepth 100000
set_option maxHeartbeats 4000000
namespace Cw
open PySem PySem.Spec PyProof.Rows L2
local macro_rules | `(tactic| walk_at "go1") => `(tactic| with_reducible first
  | refine w_seq ?_ | refine w_asgN ?_ | refine w_asgG ?_ | refine w_drop ?_ | refine w_ret ?_ | refine w_if ?_ | refine w_next ?_
  | refine w_var rfl ?_ | refine w_c ?_ | refine w_op ?_ | refine w_un ?_ | refine w_cb ?_ | refine w_cons ?_ | refine w_nil ?_ | refine w_call ?_
  | refine w_test ?_ | refine w_tB ?_ | refine w_bl ?_ | refine w_and ?_ | refine w_or ?_ | refine w_not ?_ | refine w_andV ?_ | refine w_orV ?_ | refine w_notV ?_ | refine w_ifE ?_ | refine w_blv ?_
  | refine w_I0 ?_ | refine w_eqI ?_ | refine w_neI ?_ | refine w_isN ?_ | refine w_notN ?_ | refine w_chain ?_ | refine w_for ?_ | refine w_iSeq ?_ | refine w_iR1 ?_ | refine w_iR2 ?_ | refine w_lc ?_
  | refine w_tupS ?_ | refine w_lstS ?_ | refine w_gN ?_ | refine w_gCons ?_ | refine w_gNil ?_ | refine w_aug rfl ?_ | refine w_ip ?_ | refine w_par ?_ | refine w_par2 ?_ | refine w_par3 ?_ | refine w_par33 ?_ | refine w_small (by first | decide | (simp only [List.length_cons, List.length_nil]; decide)) ?_ | refine w_bmL ?_ | refine w_gSub ?_ | refine w_lc2 ?_ | refine w_iEnum ?_ | refine w_yes ?_ | refine w_chN ?_ | refine w_chC ?_ | refine w_chL ?_ | refine w_tSl ?_ | refine w_pN ?_ | refine w_pS ?_ | refine w_pI ?_ | refine w_star ?_ | refine w_lrg ?_ | refine w_dget ?_ | refine w_dnotin ?_ | refine w_dget2 ?_ | refine w_dput ?_ | refine w_revR ?_ | refine w_cont ?_ | refine w_dpop ?_ | refine w_iKeys ?_)
local macro_rules | `(tactic| walk_at "hp") => `(tactic| (first | assumption | exact g_at (by assumption) | exact g_cat (by assumption) | (refine g_same (by assumption) ?_ ; walk_at "hp") | (refine g_new (by assumption) ?_ ; walk_at "hp") | (refine q_same (by assumption) ?_ ; walk_at "hp") | (refine q_new (by assumption) ?_ ; walk_at "hp")))
local macro_rules | `(tactic| walk_at "go") => `(tactic| repeat' walk_at "go1")
local macro_rules | `(tactic| walk_at "st") => `(tactic| simp only [cxK, L2.start, List.map_cons, List.map_nil, List.length_cons, List.length_nil, Nat.reduceAdd, Nat.reduceSub, List.replicate, List.cons_append, List.nil_append])

--import great
/-- a value that is asked: as a swap, and what repr says of it -/
def VV (H : Hp) (v : V) (o : Option (Int × Int × Int)) : Prop := SwV H v o ∧ ∀ g, ∃ t, RpT H g v t
theorem SwV.keep {H H' : Hp} {v : V} {o : Option (Int × Int × Int)} (k : ∀ a, v = .ref a → ∀ u, H a = some u → H' a = some u) (h : SwV H v o) : SwV H' v o := by
  cases h with
  | tri h => exact .tri (k _ rfl _ h)
  | boo h => exact .boo (k _ rfl _ h)
  | off h =>
    rcases h.no with ⟨va, xs, rfl, h2, hne⟩ | ⟨va, xs, rfl, h2⟩ | rfl | ⟨t, rfl⟩
    · have := TupK.tup (n := 3) (k _ rfl _ h2)
      rw [decide_eq_false hne] at this
      exact .off this
    · exact .off (.lst (k _ rfl _ h2))
    · exact .off .non
    · exact .off .str
theorem RpT_keep {H H' : Hp} {g : List Code} {v : V} {t : Str} (k : ∀ a, v = .ref a → ∀ u, H a = some u → H' a = some u) (h : RpT H g v t) : RpT H' g v t := by
  cases h with
  | non => exact .non
  | str h => exact .str h
  | lst h f l => exact .lst (k _ rfl _ h) f l
  | tup h f l => exact .tup (k _ rfl _ h) f l
def VVB (H : Hp) (b : Addr) (v : V) (o : Option (Int × Int × Int)) : Prop := VV H v o ∧ ∀ a, v = .ref a → a ≠ b
theorem VVB.but {H H' : Hp} {b : Addr} {v : V} {o : Option (Int × Int × Int)} (s : But b H H') (h : VVB H b v o) : VVB H' b v o :=
  ⟨⟨h.1.1.keep fun a e u hu => s _ _ (h.2 a e) hu, fun g => let ⟨t, ht⟩ := h.1.2 g; ⟨t, RpT_keep (fun a e u hu => s _ _ (h.2 a e) hu) ht⟩⟩, h.2⟩
theorem VVB.same {H H' : Hp} {b : Addr} {v : V} {o : Option (Int × Int × Int)} (s : Same H H') (h : VVB H b v o) : VVB H' b v o := h.but (Same.but s)
theorem vv_tri {H : Hp} {b a : Addr} {i j k : Int} (h : H a = some (.tup [.int i, .int j, .int k])) (hi : i.natAbs < 1000000 ∧ j.natAbs < 1000000 ∧ k.natAbs < 1000000) (n : a ≠ b) : VVB H b (.ref a) (some (i, j, k)) :=
  ⟨⟨.tri h, fun g => ⟨_, .tup h (by simp [flatS, hi]) (by simp)⟩⟩, fun a' e => by cases e; exact n⟩
theorem vv_tup {H : Hp} {b a : Addr} {xs : List V} (h : H a = some (.tup xs)) (hl : ¬ (xs.length : Int) = 3) (hf : xs.all flatS = true) (h2 : xs.length ≤ 100) (n : a ≠ b) : VVB H b (.ref a) none := by
  have := TupK.tup (n := 3) h
  rw [decide_eq_false hl] at this
  exact ⟨⟨.off this, fun g => ⟨_, .tup h hf h2⟩⟩, fun a' e => by cases e; exact n⟩
theorem box_new {H H' : Hp} {b p : Addr} {o : HO} (hb : BoxAt H b) (n : New H H' p o) : p ≠ b := fun z => by
  subst z
  obtain ⟨_, _, _, _, e⟩ := hb
  rw [n.2.1] at e
  cases e
theorem w_ifv {K : PySem.W.Frag} {σ : L2.St} {H : Hp} {Q : VK} {b : Bool} {r : R2} {ta tb : TE} {t : TA} (Pv : V → Hp → Prop) (h1 : b = true → ∀ Q' : VK, (∀ v HV, Pv v HV → Q' v HV) → tOp r ta tb σ H Q') (h2 : b = false → ∀ Q' : VK, (∀ v HV, Pv v HV → Q' v HV) → tTupS t σ H Q')
    (q : ∀ v HV, Pv v HV → Q v HV) : if b = true then tOp r ta tb σ H Q else tTupS t σ H Q := by
  cases b with
  | true => exact iteT (h1 rfl Q q)
  | false => exact iteF (h2 rfl Q q)
theorem SearchAt.but {CS : Addr} {H H' : Hp} {b s : Addr} {rows : List Row} (hb : BoxAt H b) (t : But b H H') : SearchAt CS H s rows → SearchAt CS H' s rows := by
  rintro ⟨dx, cv, tv, rv, av, rvs, avs, F⟩
  have hsb : s ≠ b := fun z => by
    subst z
    obtain ⟨x, f, c, d, e⟩ := hb
    have := F.ob
    rw [e] at this
    cases this
  exact ⟨dx, cv, tv, rv, av, rvs, avs, F.keep (hb.tups t) fun o e => t _ _ hsb e⟩
def spOdd (CS : Addr) : Sp := fun vs H Q _ => ∃ (b wa a : Addr) (n : Bool) (rows : List Row) (js : List Nat), vs = [V.ref b, .ref wa, .ref a, .bl n] ∧ BoxAt H b ∧ WorldAt CS H wa rows ∧ WfR rows ∧ H a = some (.lst (iv js)) ∧ VO rows js ∧ ∀ H', But b H H' → BoxAt H' b → Q (.bl true) H'
structure OdInv (CS b wa a r s : Addr) (n : Bool) (rows : List Row) (js : List Nat) (H0 : Hp) (t : Nat) (σ : L2.St) (H : Hp) : Prop where
  sl : ∃ x0 x1 x2 x3 x4 x5 x6 x7 x8 x9 xa, σ = [some (.ref b), some (.ref wa), some (.ref a), some (.bl n), some (.ref r), some (.ref s), x0, x1, x2, x3, x4, x5, x6, x7, x8, x9, xa]
  bt : But b H0 H
  bx : BoxAt H b
  rl : RowsL H r rows
  sa : SearchAt CS H s rows
  oo : H a = some (.lst (iv js))
section
variable {P : Program} {w : World} {K : PySem.W.Frag} {mg : Str → Option Value} {base : Heap} {CS CC CI CB : Addr}
theorem ok_law_odd_right (D : Df K mg "_law_odd_right" s__law_odd_right) (T : Txt K mg CS CC) (c__law_take : Dn P w K mg base CX0 1 "_law_take" s__law_take p__law_take spTake) (c__law_cost : Dn P w K mg base CX0 1 "_law_cost" s__law_cost p__law_cost (spCostBy K))
    (c__law_yes : Dn P w K mg base CX0 1 "_law_yes" s__law_yes p__law_yes spYes) (c__law_number : Dn P w K mg base CX0 1 "_law_number" s__law_number p__law_number spNum) (c__law_asked : Dn P w K mg base CX0 9 "_law_asked" s__law_asked p__law_asked (spAsked CS))
    (c__law_span : Dn P w K mg base CX0 2 "_law_span" s__law_span p__law_span spSpan) (c__law_is_swap : Dn P w K mg base CX0 1 "_law_is_swap" s__law_is_swap p__law_is_swap spIsSwap) (c__law_after : Dn P w K mg base CX0 1 "_law_after" s__law_after p__law_after spAfter) :
    Dn P w K mg base CX0 10 "_law_odd_right" s__law_odd_right p__law_odd_right (spOdd CS) := by
  refine dn_ok D sc__law_odd_right (fun vs H Q E h => by obtain ⟨_, _, _, _, _, _, rfl, _⟩ := h; rfl) fun f cdv A outer s H vs Q E hr h => ?_
  obtain ⟨b, wa, a, n, rows, js, rfl, hb, ⟨r, s, hwa, hrl, hS⟩, wf, ha, vo, q⟩ := h
  have wl := wf.len
  have hl := vo.len
  refine ⟨_, (pss_cons (ps_asg (pv 1) (pg_unl (n := 2) rfl (pgs_cons (pg_name (i := 4) sc__law_odd_right.nd rfl (by first | exact Or.inl rfl | exact Or.inr rfl)) (pgs_cons (pg_name (i := 5) sc__law_odd_right.nd rfl (by first | exact Or.inl rfl | exact Or.inr rfl)) pgs_nil))))
      (pss_cons (ps_if (pt_cmpR op_lt (pe_callB call_lenQ (by rfl) T.len (by decide +kernel) (pa_cons (pv 2) pa_nil)) pe_int (nomark _)) (pss_one (ps_ret (pe_cD c__law_yes b__law_yes (hr.mono (by decide)) (by rfl) pass0 (pa_cons (pe_cD c__law_asked b__law_asked (hr.mono (by decide)) (by rfl) pass0 (pa_cons pe_int (pa_cons (pv 5) (pa_cons (pe_callTy call_listS (by rfl) T.list (by decide +kernel) (pa_cons (pv 2) pa_nil)) (pa_cons (pe_tupS (pa_cons pe_int (pa_cons pe_int (pa_cons pe_int pa_nil)))) (pa_cons (pv 3) pa_nil)))))) (pa_cons pe_bl pa_nil))))) pss_nil)
      (pss_cons (ps_for PassesOwn.never rfl (pi_range1 (by rfl) T.range (pa_cons pe_int pa_nil)) (pg_name (i := 6) sc__law_odd_right.nd rfl (by first | exact Or.inl rfl | exact Or.inr rfl)) (pss_cons (ps_asg (pe_cD c__law_span b__law_span (hr.mono (by decide)) (by rfl) pass0 (pa_cons (pv 0) (pa_cons (pe_callB call_lenQ (by rfl) T.len (by decide +kernel) (pa_cons (pv 2) pa_nil)) pa_nil))) (pg_tup (n := 3) rfl (pgs_cons (pg_name (i := 10) sc__law_odd_right.nd rfl (by first | exact Or.inl rfl | exact Or.inr rfl)) (pgs_cons (pg_name (i := 11) sc__law_odd_right.nd rfl (by first | exact Or.inl rfl | exact Or.inr rfl)) (pgs_cons (pg_name (i := 12) sc__law_odd_right.nd rfl (by first | exact Or.inl rfl | exact Or.inr rfl)) pgs_nil)))))
      (pss_cons (ps_set (i := 7) sc__law_odd_right.nd rfl (by first | exact Or.inl rfl | exact Or.inr rfl) (pe_lstS (pa_cons (pe_lstS (pa_cons (pv 10) (pa_cons (pv 11) (pa_cons (pv 12) pa_nil)))) (pa_cons (pe_tupS (pa_cons (pv 10) (pa_cons (pv 11) pa_nil))) (pa_cons (pe_tupS (pa_cons (pv 10) (pa_cons (pv 11) (pa_cons (pv 12) (pa_cons pe_int pa_nil))))) (pa_cons (pe_tupS (pa_cons (pv 10) (pa_cons (pv 10) (pa_cons (pv 12) pa_nil)))) (pa_cons pe_non (pa_cons pe_str pa_nil))))))))
      (pss_cons (ps_set (i := 7) sc__law_odd_right.nd rfl (by first | exact Or.inl rfl | exact Or.inr rfl) (pe_op op_catS (pv 7) (pe_lstS (pa_cons (pe_tupS (pa_cons (pv 10) (pa_cons (pv 11) (pa_cons (pe_op op_add (pe_callB call_lenQ (by rfl) T.len (by decide +kernel) (pa_cons (pv 2) pa_nil)) pe_int) pa_nil)))) (pa_cons (pe_tupS (pa_cons (pe_un un_neg pe_int) (pa_cons (pv 11) (pa_cons (pv 12) pa_nil)))) (pa_cons (pe_tupS (pa_cons pe_bl (pa_cons pe_bl (pa_cons pe_int pa_nil)))) (pa_cons (pe_tupS (pa_cons (pv 10) (pa_cons (pv 12) (pa_cons (pv 11) pa_nil)))) pa_nil)))))))
      (pss_cons (ps_set (i := 8) sc__law_odd_right.nd rfl (by first | exact Or.inl rfl | exact Or.inr rfl) (pe_ifExp (pt_cmpR op_eq (pe_op op_modN (pv 6) pe_int) pe_int (nomark _)) (pe_ix ix_sq (pv 7) (pe_cD c__law_take b__law_take (hr.mono (by decide)) (by rfl) pass0 (pa_cons (pv 0) (pa_cons pe_int pa_nil))) (fun _ _ => rfl)) (pe_tupS (pa_cons (pv 10) (pa_cons (pv 11) (pa_cons (pv 12) pa_nil))))))
      (pss_cons (ps_par (i := 13) (j := 14) (by rfl) sc__law_odd_right.nd rfl rfl (by decide) rfl rfl (pa_cons (pe_cD c__law_is_swap b__law_is_swap (hr.mono (by decide)) (by rfl) pass0 (pa_cons (pv 4) (pa_cons (pv 2) (pa_cons (pv 8) pa_nil)))) (pa_cons (pe_callTy call_listS (by rfl) T.list (by decide +kernel) (pa_cons (pv 2) pa_nil)) pa_nil)) (by rfl))
      (pss_cons (ps_set (i := 9) sc__law_odd_right.nd rfl (by first | exact Or.inl rfl | exact Or.inr rfl) (pe_ifExp (pt_val (pv 13)) (pe_op op_sub (pe_cD c__law_cost b__law_cost (hr.mono (by decide)) (by rfl) pass0 (pa_cons (pv 4) (pa_cons (pv 2) pa_nil))) (pe_cD c__law_cost b__law_cost (hr.mono (by decide)) (by rfl) pass0 (pa_cons (pv 4) (pa_cons (pe_cD c__law_after b__law_after (hr.mono (by decide)) (by rfl) pass0 (pa_cons (pv 2) (pa_cons (pv 8) pa_nil))) pa_nil)))) pe_int))
      (pss_cons (ps_if (pt_not (pt_val (pe_cD c__law_yes b__law_yes (hr.mono (by decide)) (by rfl) pass0 (pa_cons (pe_cD c__law_asked b__law_asked (hr.mono (by decide)) (by rfl) pass0 (pa_cons pe_int (pa_cons (pv 5) (pa_cons (pv 14) (pa_cons (pv 8) (pa_cons (pv 3) pa_nil)))))) (pa_cons (pe_cmpR op_gt (pv 9) pe_int (nomark _)) pa_nil))))) (pss_one (ps_ret pe_bl)) pss_nil)
      (pss_cons (ps_par (i := 15) (j := 16) (by rfl) sc__law_odd_right.nd rfl rfl (by decide) rfl rfl (pa_cons (pe_cD c__law_asked b__law_asked (hr.mono (by decide)) (by rfl) pass0 (pa_cons pe_int (pa_cons (pv 5) (pa_cons (pv 14) (pa_cons (pv 8) (pa_cons (pv 3) pa_nil)))))) (pa_cons (pe_cD c__law_asked b__law_asked (hr.mono (by decide)) (by rfl) pass0 (pa_cons pe_int (pa_cons (pv 5) (pa_cons (pv 14) (pa_cons (pv 8) (pa_cons (pe_not (pv 3)) pa_nil)))))) pa_nil)) (by rfl))
      (pss_cons (ps_if (PW.pt (pw_and (pt_val (pv 13)) (pw_and1 (PW.pt (pw_or (pt_not (pt_val (pe_cD c__law_number b__law_number (hr.mono (by decide)) (by rfl) pass0 (pa_cons (pv 15) (pa_cons (pv 9) pa_nil))))) (pw_or1 (pt_cmpR (op_neD hr.units) (pv 16) (pe_lstS (pa_cons pe_str (pa_cons (pe_cD c__law_after b__law_after (hr.mono (by decide)) (by rfl) pass0 (pa_cons (pv 2) (pa_cons (pv 8) pa_nil))) pa_nil))) (nomark _)))))))) (pss_one (ps_ret pe_bl)) pss_nil)
      (pss_cons (ps_if (PW.pt (pw_and (pt_not (pt_val (pv 13))) (pw_and1 (PW.pt (pw_or (pt_cmpR op_ne (pe_ix ix_sq (pv 15) pe_int (fun _ _ => rfl)) pe_str (nomark _)) (pw_or (pt_gd fun g => (pt_cmpR op_ne (pe_callB (call_reprG (by rfl) (by exact hr.units)) (by rfl) T.repr (by decide +kernel) (pa_cons (pe_ix (ix_sqK (K := K)) (pv 15) pe_int (fun _ _ => rfl)) pa_nil)) (pe_callB (call_reprG (by rfl) (by exact hr.units)) (by rfl) T.repr (by decide +kernel) (pa_cons (pv 8) pa_nil)) (nomark _))) (pw_or1 (pt_cmpR op_ne (pe_ix ix_sq (pv 16) pe_int (fun _ _ => rfl)) pe_str (nomark _))))))))) (pss_one (ps_ret pe_bl)) pss_nil)
      (pss_one (ps_if (pt_cmpR (op_neD hr.units) (pv 14) (pv 2) (nomark _)) (pss_one (ps_ret pe_bl)) pss_nil)))))))))))))
      (pss_one (ps_ret pe_bl))))), ?_⟩
  walk_at "st"
  walk_at "go"
  refine w_gUnl hwa rfl ?_
  walk_at "go"
  refine w_len (q_l ha) ?_
  walk_at "go"
  rw [iv_length, hl]
  refine ite2 (fun h1 => ?_) (fun h1 => ?_)
  · walk_at "go"
    have h1 := of_decide_eq_true h1
    refine w_listS (q_l ha) fun p0 H1 n1 => ?_
    walk_at "go"
    intro v H2 n2
    walk_at "go"
    have s2 : Same H H2 := fun b o e => n2.1 _ _ (n1.1 _ _ e)
    refine ⟨2, s, p0, _, _, rows, js, rfl, hS.same s2, wf, Or.inl (n2.1 _ _ n1.2.2), vo, .w2 (some (0, 1, 2)) (.tri n2.2.2) fun H3 s3 p1 H4 n4 => ?_⟩
    walk_at "go"
    have eI : impB rows js (some (0, 1, 2)) = false := by
      show (swB rows js 0 1 2 && _) = false
      have : swB rows js 0 1 2 = false := by
        unfold swB
        rw [decide_eq_false (by omega)]
        rfl
      rw [this]
      rfl
    refine ⟨p1, _, _, rfl, n4.2.2, ?_⟩
    rw [eI]
    have s4 : Same H H4 := fun b o e => n4.1 _ _ (s3 _ _ (s2 _ _ e))
    exact q H4 (Same.but s4) (hb.same s4)
  · have h1 : ¬ (rows.length : Int) < 2 := fun z => h1 (decide_eq_true z)
    walk_at "go"
    refine range_for (n := 4) (by decide) (by decide) (OdInv CS b wa a r s n rows js H) ⟨⟨_, _, _, _, _, _, _, _, _, _, _, rfl⟩, fun _ _ _ e => e, hb, hrl, hS, ha⟩ (fun t σ' H1 ht I => ?_) (fun σ' H1 I => ?_)
    · obtain ⟨⟨x0, x1, x2, x3, x4, x5, x6, x7, x8, x9, xa, rfl⟩, bt, bx, rl, sa, oo⟩ := I
      walk_at "go"
      refine w_len (q_l oo) ?_
      rw [iv_length, hl]
      refine ⟨b, rows.length, rfl, bx, by omega, by omega, fun sp H2 i j k b2 bx2 hsp hij hjk hk => ?_⟩
      refine w_gTup hsp rfl ?_
      walk_at "go"
      have fi : ∀ m : Nat, m ≤ 200 → flatS (.int (m : Int)) = true := fun m hm => decide_eq_true (by omega)
      have gi := fi i (by omega)
      have gj := fi j (by omega)
      have gk := fi k (by omega)
      have g0 : flatS (.int 0) = true := by decide
      have b12 : But b H1 H2 := b2
      intro p0 H3 n3
      walk_at "go"
      intro t1 H4 n4
      walk_at "go"
      intro t2 H5 n5
      walk_at "go"
      intro t3 H6 n6
      walk_at "go"
      intro lA H7 n7
      walk_at "go"
      have s26 : Same H2 H6 := fun b o e => n6.1 _ _ (n5.1 _ _ (n4.1 _ _ (n3.1 _ _ e)))
      have s27 : Same H2 H7 := fun b o e => n7.1 _ _ (s26 _ _ e)
      have oo2 : H2 a = some (.lst (iv js)) := b2 _ _ (box_ne bx oo) oo
      refine w_len (q_l (s27 _ _ oo2)) ?_
      rw [iv_length, hl]
      walk_at "go"
      intro t6 H8 n8
      walk_at "go"
      refine ⟨_, rfl, ?_⟩
      walk_at "go"
      intro t7 H9 n9
      walk_at "go"
      intro t8 H10 n10
      walk_at "go"
      intro t9 H11 n11
      walk_at "go"
      intro lB H12 n12
      have s712 : Same H7 H12 := fun b o e => n12.1 _ _ (n11.1 _ _ (n10.1 _ _ (n9.1 _ _ (n8.1 _ _ e))))
      refine w_cat (s712 _ _ n7.2.2) n12.2.2 (by simp) fun lC H13 n13 => ?_
      walk_at "go"
      have s2X : Same H2 H13 := fun b o e => n13.1 _ _ (s712 _ _ (s27 _ _ e))
      have s7X : Same H7 H13 := fun b o e => n13.1 _ _ (s712 _ _ e)
      have bx3 := bx2.same n3.1
      have bx4 := bx3.same n4.1
      have bx5 := bx4.same n5.1
      have bx7 := bx2.same s27
      have bx8 := bx7.same n8.1
      have bx9 := bx8.same n9.1
      have bx10 := bx9.same n10.1
      have bx12 := bx7.same s712
      have bxX := bx2.same s2X
      have el : ∀ v ∈ ([V.ref p0, .ref t1, .ref t2, .ref t3, .non, .str "swap"] ++ [V.ref t6, .ref t7, .ref t8, .ref t9] : List V), ∃ o, VVB H13 b v o := by
        intro v hv
        simp only [List.cons_append, List.nil_append, List.mem_cons, List.not_mem_nil, or_false] at hv
        rcases hv with rfl | rfl | rfl | rfl | rfl | rfl | rfl | rfl | rfl | rfl
        · have h := s7X _ _ (n7.1 _ _ (n6.1 _ _ (n5.1 _ _ (n4.1 _ _ n3.2.2))))
          exact ⟨none, ⟨.off (.lst h), fun g => ⟨_, .lst h (by simp only [List.all_cons, List.all_nil, gi, gj, gk, g0, Bool.and_self, Bool.and_true]) (by simp)⟩⟩, fun a' e => by cases e; exact box_new bx2 n3⟩
        · exact ⟨none, vv_tup (s7X _ _ (n7.1 _ _ (n6.1 _ _ (n5.1 _ _ n4.2.2)))) (by simp) (by simp only [List.all_cons, List.all_nil, gi, gj, gk, g0, Bool.and_self, Bool.and_true]) (by simp) (box_new bx3 n4)⟩
        · exact ⟨none, vv_tup (s7X _ _ (n7.1 _ _ (n6.1 _ _ n5.2.2))) (by simp) (by simp only [List.all_cons, List.all_nil, gi, gj, gk, g0, Bool.and_self, Bool.and_true]) (by simp) (box_new bx4 n5)⟩
        · exact ⟨_, vv_tri (s7X _ _ (n7.1 _ _ n6.2.2)) (by omega) (box_new bx5 n6)⟩
        · exact ⟨none, ⟨.off .non, fun g => ⟨_, .non⟩⟩, fun a' e => by cases e⟩
        · exact ⟨none, ⟨.off .str, fun g => ⟨_, .str (by decide +kernel)⟩⟩, fun a' e => by cases e⟩
        · exact ⟨_, vv_tri (n13.1 _ _ (n12.1 _ _ (n11.1 _ _ (n10.1 _ _ (n9.1 _ _ n8.2.2))))) (by omega) (box_new bx7 n8)⟩
        · exact ⟨_, vv_tri (n13.1 _ _ (n12.1 _ _ (n11.1 _ _ (n10.1 _ _ n9.2.2)))) (by omega) (box_new bx8 n9)⟩
        · have h := n13.1 _ _ (n12.1 _ _ (n11.1 _ _ n10.2.2))
          exact ⟨none, ⟨.boo h, fun g => ⟨_, .tup h (by decide) (by simp)⟩⟩, fun a' e => by cases e; exact box_new bx9 n10⟩
        · exact ⟨_, vv_tri (n13.1 _ _ (n12.1 _ _ n11.2.2)) (by omega) (box_new bx10 n11)⟩
      refine w_I (show (2 : Int) ≠ 0 by decide) ?_
      walk_at "go"
      refine w_ifv (K := K) (fun v HV => ∃ o, But b H1 HV ∧ BoxAt HV b ∧ VVB HV b v o) (fun _ Q' k' => ?_) (fun _ Q' k' => ?_) ?_
      · walk_at "go"
        refine ⟨b, 10, rfl, bxX, by decide, by decide, fun m H14 hm b14 bx14 => ?_⟩
        obtain ⟨v, hv⟩ : ∃ v, ([V.ref p0, .ref t1, .ref t2, .ref t3, .non, .str "swap"] ++ [V.ref t6, .ref t7, .ref t8, .ref t9] : List V)[m]? = some v := ⟨_, List.getElem?_eq_getElem (by simp; omega)⟩
        refine w_ixn (q_l (b14 _ _ (box_new bx12 n13) n13.2.2)) hv ?_
        obtain ⟨o, ho⟩ := el v (List.mem_of_getElem? hv)
        exact k' v H14 ⟨o, (b2.then s2X).trans b14, bx14, ho.but b14⟩
      · walk_at "go"
        intro tE H14 n14
        exact k' _ H14 ⟨_, (b2.then s2X).then n14.1, bxX.same n14.1, vv_tri n14.2.2 (by omega) (box_new bxX n14)⟩
      rintro v HV ⟨o, bV, bxV, ⟨hsw, hrp⟩, hvb⟩
      have rlV := rl.but bx bV
      have saV := sa.but bx bV
      have ooV : HV a = some (.lst (iv js)) := bV _ _ (box_ne bx oo) oo
      walk_at "go"
      refine ⟨r, a, v, rows, js, o, rfl, rlV, wf, ooV, vo, hsw, fun HA sA => ?_⟩
      walk_at "go"
      refine w_listS (q_l (sA _ _ ooV)) fun pp HB nB => ?_
      walk_at "go"
      have sVB : Same HV HB := fun b o e => nB.1 _ _ (sA _ _ e)
      have hpp : HB pp = some (.lst (iv js)) := nB.2.2
      have ooB := sVB _ _ ooV
      have saB := saV.same sVB
      have rlB := rlV.same sVB
      have hswB := hsw.same sVB
      obtain ⟨outB, houtB, hrvB⟩ := id rlB
      have fin : ∀ (HZ : Hp) (σZ : L2.St), Same HB HZ → (∃ x0 x1 x2 x3 x4 x5 x6 x7 x8 x9 xa, σZ = [some (.ref b), some (.ref wa), some (.ref a), some (.bl n), some (.ref r), some (.ref s), x0, x1, x2, x3, x4, x5, x6, x7, x8, x9, xa]) → OdInv CS b wa a r s n rows js H (t + 1) σZ HZ := fun HZ σZ sZ sl => by
        have sVZ : Same HV HZ := fun b o e => sZ _ _ (sVB _ _ e)
        exact ⟨sl, (bt.trans bV).then sVZ, bxV.same sVZ, rlV.same sVZ, saV.same sVZ, sVZ _ _ ooV⟩
      cases hR : swR rows js o with
      | true =>
        obtain ⟨i', j', k', rfl⟩ : ∃ i' j' k', o = some (i', j', k') := by
          cases o with
          | none => cases hR
          | some t => obtain ⟨x, y, z⟩ := t; exact ⟨x, y, z, rfl⟩
        have hb' : swB rows js i' j' k' = true := hR
        obtain ⟨vo', cst'⟩ := swap_vo wf vo hb'
        obtain ⟨_, _, _, e1, e2, e3, g1, g2, g3, _⟩ := swB_nat hb'
        refine iteT ?_
        walk_at "go"
        refine ⟨r, a, outB, rows, js, rfl, q_l houtB, hrvB, q_l ooB, fun x hx => vo.lt hx, wf, fun HC sC => ?_⟩
        walk_at "go"
        refine ⟨a, v, js, i', j', k', rfl, sC _ _ ooB, hswB.same sC, by omega, by omega, by omega, by omega, by omega, fun af HD nD => ?_⟩
        walk_at "go"
        have sBD : Same HB HD := fun b o e => nD.1 _ _ (sC _ _ e)
        obtain ⟨outD, houtD, hrvD⟩ := rlB.same sBD
        refine ⟨r, af, outD, rows, _, rfl, q_l houtD, hrvD, q_l nD.2.2, fun x hx => vo'.lt hx, wf, fun HE sE => ?_⟩
        have sBE : Same HB HE := fun b o e => sE _ _ (sBD _ _ e)
        generalize hC' : M93.cost (pR rows) (wR rows) 0 (swJ js i' j' k') = C' at cst' ⊢
        generalize hC : M93.cost (pR rows) (wR rows) 0 js = C at cst' ⊢
        walk_at "go"
        refine ⟨2, s, pp, v, _, rows, js, rfl, saB.same sBE, wf, Or.inl (sBE _ _ hpp), vo, .w2 _ (hswB.same sBE) fun HF sF p3 HG nG => ?_⟩
        have sBG : Same HB HG := fun b o e => nG.1 _ _ (sF _ _ (sBE _ _ e))
        walk_at "go"
        refine ⟨p3, _, _, rfl, nG.2.2, ?_⟩
        have eI : (impB rows js (some (i', j', k')) == decide (0 < C - C')) = true := by
          show ((swB rows js i' j' k' && decide (0 < swG rows js i' j' k')) == _) = true
          rw [hb', show C - C' = swG rows js i' j' k' by omega]
          simp
        rw [eI]
        walk_at "go"
        refine iteF ?_
        walk_at "go"
        refine ⟨3, s, pp, v, _, rows, js, rfl, saB.same sBG, wf, Or.inl (sBG _ _ hpp), vo, .w3 _ (hswB.same sBG) (fun i2 j2 k2 e2 hb2 HH sH p4 HI nI => ?_) (fun hf => absurd (hR.symm.trans hf) (by decide))⟩
        obtain ⟨rfl, e3⟩ := Prod.mk.inj (Option.some.inj e2)
        obtain ⟨rfl, rfl⟩ := Prod.mk.inj e3
        have sBI : Same HB HI := fun b o e => nI.1 _ _ (sH _ _ (sBG _ _ e))
        walk_at "go"
        refine ⟨4, s, pp, v, _, rows, js, rfl, saB.same sBI, wf, Or.inl (sBI _ _ hpp), vo, .w4 _ (hswB.same sBI) (fun i2 j2 k2 e2 hb2 pe HJ nJ p5 HK nK => ?_) (fun hf => absurd (hR.symm.trans hf) (by decide))⟩
        obtain ⟨rfl, e3⟩ := Prod.mk.inj (Option.some.inj e2)
        obtain ⟨rfl, rfl⟩ := Prod.mk.inj e3
        have sIK : Same HI HK := fun b o e => nK.1 _ _ (nJ.1 _ _ e)
        have sBK : Same HB HK := fun b o e => sIK _ _ (sBI _ _ e)
        walk_at "go"
        refine iteT ?_
        walk_at "go"
        refine ⟨p4, _, _, rfl, sIK _ _ nI.2.2, ?_⟩
        rw [decide_eq_true (by omega : swG rows js i' j' k' = C - C')]
        walk_at "go"
        refine iteF ?_
        walk_at "go"
        refine ⟨a, v, js, i', j', k', rfl, sBK _ _ ooB, hswB.same sBK, by omega, by omega, by omega, by omega, by omega, fun af2 HL nL => ?_⟩
        walk_at "go"
        intro p6 HM nM
        refine w_neT (by decide +kernel) (nM.1 _ _ (nL.1 _ _ nK.2.2)) (nM.1 _ _ (nL.1 _ _ (nK.1 _ _ nJ.2.2))) nM.2.2 (nM.1 _ _ nL.2.2) ?_
        rw [decide_eq_true rfl]
        walk_at "go"
        refine iteF ?_
        walk_at "go"
        refine iteF ?_
        refine iteF ?_
        walk_at "go"
        have sBM : Same HB HM := fun b o e => nM.1 _ _ (nL.1 _ _ (sBK _ _ e))
        refine w_neL (sBM _ _ hpp) (sBM _ _ ooB) ?_
        rw [decide_eq_true rfl]
        walk_at "go"
        refine iteF ?_
        walk_at "go"
        exact fin HM _ sBM ⟨_, _, _, _, _, _, _, _, _, _, _, rfl⟩
      | false =>
        refine iteF ?_
        walk_at "go"
        refine ⟨2, s, pp, v, _, rows, js, rfl, saB, wf, Or.inl hpp, vo, .w2 _ hswB fun HF sF p3 HG nG => ?_⟩
        have sBG : Same HB HG := fun b o e => nG.1 _ _ (sF _ _ e)
        walk_at "go"
        refine ⟨p3, _, _, rfl, nG.2.2, ?_⟩
        have eI : impB rows js o = false := by
          cases o with
          | none => rfl
          | some t =>
            obtain ⟨x, y, z⟩ := t
            have hb' : swB rows js x y z = false := hR
            show (swB rows js x y z && _) = false
            rw [hb']
            rfl
        rw [eI]
        walk_at "go"
        refine iteF ?_
        walk_at "go"
        refine ⟨3, s, pp, v, _, rows, js, rfl, saB.same sBG, wf, Or.inl (sBG _ _ hpp), vo, .w3 _ (hswB.same sBG) (fun i2 j2 k2 e2 hb2 HH sH p4 HI nI => by subst e2; exact absurd (hR.symm.trans hb2) (by decide)) (fun hf HH sH p4 HI nI => ?_)⟩
        have sBI : Same HB HI := fun b o e => nI.1 _ _ (sH _ _ (sBG _ _ e))
        walk_at "go"
        refine ⟨4, s, pp, v, _, rows, js, rfl, saB.same sBI, wf, Or.inl (sBI _ _ hpp), vo, .w4 _ (hswB.same sBI) (fun i2 j2 k2 e2 hb2 => by subst e2; exact absurd (hR.symm.trans hb2) (by decide)) (fun hf HJ sJ p5 HK nK => ?_)⟩
        have sIK : Same HI HK := fun b o e => nK.1 _ _ (sJ _ _ e)
        have sBK : Same HB HK := fun b o e => sIK _ _ (sBI _ _ e)
        walk_at "go"
        refine iteF ?_
        refine iteF ?_
        walk_at "go"
        refine iteT ?_
        walk_at "go"
        refine w_ix (q_l (sIK _ _ nI.2.2)) rfl ?_
        walk_at "go"
        refine w_neS ?_
        rw [decide_eq_true rfl]
        walk_at "go"
        refine iteF ?_
        refine w_or ?_
        show ttGd _ _ _ _
        intro g
        walk_at "go"
        have hrK : ∃ t, RpT HK g v t := by
          obtain ⟨t, ht⟩ := hrp g
          exact ⟨t, RpT_keep (fun a' _ u hu => sBK _ _ (sVB _ _ hu)) ht⟩
        obtain ⟨tx, htx⟩ := hrK
        refine w_ix (q_l (sIK _ _ nI.2.2)) rfl ?_
        walk_at "go"
        refine ⟨v, tx, rfl, htx, ?_⟩
        walk_at "go"
        refine ⟨v, tx, rfl, htx, ?_⟩
        refine w_neS ?_
        rw [decide_eq_true rfl]
        walk_at "go"
        refine iteF ?_
        walk_at "go"
        refine w_ix (q_l nK.2.2) rfl ?_
        walk_at "go"
        refine w_neS ?_
        rw [decide_eq_true rfl]
        walk_at "go"
        refine iteF ?_
        walk_at "go"
        refine w_neL (sBK _ _ hpp) (sBK _ _ ooB) ?_
        rw [decide_eq_true rfl]
        walk_at "go"
        refine iteF ?_
        walk_at "go"
        exact fin HK _ sBK ⟨_, _, _, _, _, _, _, _, _, _, _, rfl⟩
    · obtain ⟨⟨x0, x1, x2, x3, x4, x5, x6, x7, x8, x9, xa, rfl⟩, bt, bx, rl, sa, oo⟩ := I
      walk_at "go"
      exact q H1 bt bx
end

end Cw
end

/-! text C93_cell -/
section
set_option Elab.async false
set_option linter.all false
set_option maxRecDepth 100000
set_option maxHeartbeats 4000000
namespace Cw
open PySem PySem.Spec PyProof.Rows L2
local macro_rules | `(tactic| walk_at "go1") => `(tactic| with_reducible first
  | refine w_seq ?_ | refine w_asgN ?_ | refine w_asgG ?_ | refine w_drop ?_ | refine w_ret ?_ | refine w_if ?_ | refine w_next ?_
  | refine w_var rfl ?_ | refine w_c ?_ | refine w_op ?_ | refine w_un ?_ | refine w_cb ?_ | refine w_cons ?_ | refine w_nil ?_ | refine w_call ?_
  | refine w_test ?_ | refine w_tB ?_ | refine w_bl ?_ | refine w_and ?_ | refine w_or ?_ | refine w_not ?_ | refine w_andV ?_ | refine w_orV ?_ | refine w_notV ?_ | refine w_ifE ?_ | refine w_blv ?_
  | refine w_I0 ?_ | refine w_eqI ?_ | refine w_neI ?_ | refine w_isN ?_ | refine w_notN ?_ | refine w_chain ?_ | refine w_for ?_ | refine w_iSeq ?_ | refine w_iR1 ?_ | refine w_iR2 ?_ | refine w_lc ?_
  | refine w_tupS ?_ | refine w_lstS ?_ | refine w_gN ?_ | refine w_gCons ?_ | refine w_gNil ?_ | refine w_aug rfl ?_ | refine w_ip ?_ | refine w_par ?_ | refine w_par2 ?_ | refine w_par3 ?_ | refine w_par33 ?_ | refine w_small (by first | decide | (simp only [List.length_cons, List.length_nil]; decide)) ?_ | refine w_bmL ?_ | refine w_gSub ?_ | refine w_lc2 ?_ | refine w_iEnum ?_ | refine w_yes ?_ | refine w_chN ?_ | refine w_chC ?_ | refine w_chL ?_ | refine w_tSl ?_ | refine w_pN ?_ | refine w_pS ?_ | refine w_pI ?_ | refine w_star ?_ | refine w_lrg ?_ | refine w_dget ?_ | refine w_dnotin ?_ | refine w_dget2 ?_ | refine w_dput ?_ | refine w_revR ?_ | refine w_cont ?_ | refine w_dpop ?_ | refine w_iKeys ?_)
local macro_rules | `(tactic| walk_at "hp") => `(tactic| (first | assumption | exact g_at (by assumption) | exact g_cat (by assumption) | (refine g_same (by assumption) ?_ ; walk_at "hp") | (refine g_new (by assumption) ?_ ; walk_at "hp") | (refine q_same (by assumption) ?_ ; walk_at "hp") | (refine q_new (by assumption) ?_ ; walk_at "hp")))
local macro_rules | `(tactic| walk_at "go") => `(tactic| repeat' walk_at "go1")
local macro_rules | `(tactic| walk_at "st") => `(tactic| simp only [cxK, L2.start, List.map_cons, List.map_nil, List.length_cons, List.length_nil, Nat.reduceAdd, Nat.reduceSub, List.replicate, List.cons_append, List.nil_append])

--import odd
theorem cost_bd {p w : Nat → Int} (hp : ∀ j, 0 ≤ p j ∧ p j ≤ 1000000) (hw : ∀ j, 0 ≤ w j ∧ w j ≤ 1000000) : ∀ (js : List Nat) (t : Int), 0 ≤ t → t + (js.length : Int) * 1000000 ≤ 1000000000 →
    0 ≤ M93.cost p w t js ∧ M93.cost p w t js ≤ (js.length : Int) * 1000000000000000 := by
  intro js
  induction js with
  | nil => intro t _ _; simp [M93.cost]
  | cons x r ih =>
    intro t h1 h2
    have hx := hp x
    have hy := hw x
    simp only [List.length_cons] at h2 ⊢
    have h3 := ih (t + p x) (by omega) (by push_cast at h2; omega)
    have h4 : 0 ≤ w x * (t + p x) := Int.mul_nonneg hy.1 (by omega)
    have h5 : w x * (t + p x) ≤ 1000000 * 1000000000 := Int.mul_le_mul hy.2 (by push_cast at h2; omega) (by omega) (by decide)
    show 0 ≤ w x * (t + p x) + M93.cost p w (t + p x) r ∧ w x * (t + p x) + M93.cost p w (t + p x) r ≤ _
    push_cast
    omega
def spCellR : Sp := fun vs H Q _ => ∃ b g, vs = [V.ref b, .bl g] ∧ BoxAt H b ∧ ∀ H', But b H H' → Q (.bl true) H'
def spLaw (K : PySem.W.Frag) : Sp := fun vs H Q _ => ∃ (a : Addr) (ns : List Int), vs = [V.ref a] ∧ SqL K H a (ns.map V.int) ∧ ∀ H', Q (.bl true) H'
section
variable {P : Program} {w : World} {K : PySem.W.Frag} {mg : Str → Option Value} {base : Heap} {CS CC CI CB : Addr}
theorem ok_law_cell_right (D : Df K mg "_law_cell_right" s__law_cell_right) (T : Txt K mg CS CC) (c__law_take : Dn P w K mg base CX0 1 "_law_take" s__law_take p__law_take spTake) (c__law_small : Dn P w K mg base CX0 3 "_law_small" s__law_small p__law_small spSmall)
    (c__law_search : Dn P w K mg base CX0 7 "_law_search" s__law_search p__law_search (spSearch CS)) (c__law_least : Dn P w K mg base CX0 1 "_law_least" s__law_least p__law_least spLeast) (c__law_odd_right : Dn P w K mg base CX0 10 "_law_odd_right" s__law_odd_right p__law_odd_right (spOdd CS))
    (c__law_cost : Dn P w K mg base CX0 1 "_law_cost" s__law_cost p__law_cost (spCostBy K)) (c__law_descent_right : Dn P w K mg base CX0 11 "_law_descent_right" s__law_descent_right p__law_descent_right (spDesc CS))
    (c__law_great_right : Dn P w K mg base CX0 12 "_law_great_right" s__law_great_right p__law_great_right spGreat) : Dn P w K mg base CX0 13 "_law_cell_right" s__law_cell_right p__law_cell_right spCellR := by
  refine dn_ok D sc__law_cell_right (fun vs H Q E h => by obtain ⟨_, _, rfl, _⟩ := h; rfl) fun f cdv A outer s H vs Q E hr h => ?_
  obtain ⟨b, g, rfl, hb, q⟩ := h
  refine ⟨_, (pss_cons (ps_set (i := 2) sc__law_cell_right.nd rfl (by first | exact Or.inl rfl | exact Or.inr rfl) (pe_cmpR op_eq (pe_cD c__law_take b__law_take (hr.mono (by decide)) (by rfl) pass0 (pa_cons (pv 0) (pa_cons pe_int pa_nil))) pe_int (nomark _)))
      (pss_cons (ps_asg (pe_cD c__law_small b__law_small (hr.mono (by decide)) (by rfl) pass0 (pa_cons (pv 0) pa_nil)) (pg_unl (n := 2) rfl (pgs_cons (pg_name (i := 3) sc__law_cell_right.nd rfl (by first | exact Or.inl rfl | exact Or.inr rfl)) (pgs_cons (pg_name (i := 4) sc__law_cell_right.nd rfl (by first | exact Or.inl rfl | exact Or.inr rfl)) pgs_nil))))
      (pss_cons (ps_par (i := 5) (j := 6) (by rfl) sc__law_cell_right.nd rfl rfl (by decide) rfl rfl (pa_cons (pe_lstS (pa_cons (pv 3) (pa_cons (pe_cD c__law_search b__law_search (hr.mono (by decide)) (by rfl) pass0 (pa_cons (pv 3) (pa_cons (pv 2) pa_nil))) pa_nil))) (pa_cons (pe_cD c__law_least b__law_least (hr.mono (by decide)) (by rfl) pass0 (pa_cons (pv 3) pa_nil)) pa_nil)) (by rfl))
      (pss_cons (ps_if (pt_not (pt_val (pe_cD c__law_odd_right b__law_odd_right (hr.mono (by decide)) (by rfl) pass0 (pa_cons (pv 0) (pa_cons (pv 5) (pa_cons (pv 4) (pa_cons (pv 2) pa_nil))))))) (pss_one (ps_ret pe_bl)) pss_nil)
      (pss_cons (ps_if (pt_not (pt_val (pe_cD c__law_descent_right b__law_descent_right (hr.mono (by decide)) (by rfl) pass0 (pa_cons (pv 5) (pa_cons (pv 4) (pa_cons (pv 6) (pa_cons (pe_op op_add (pe_op op_sub (pe_cD c__law_cost b__law_cost (hr.mono (by decide)) (by rfl) pass0 (pa_cons (pv 3) (pa_cons (pv 4) pa_nil))) (pv 6)) pe_int) (pa_cons pe_bl (pa_cons (pv 2) pa_nil))))))))) (pss_one (ps_ret pe_bl)) pss_nil)
      (pss_cons (ps_if (PW.pt (pw_and (pt_val (pv 1)) (pw_and1 (pt_not (pt_val (pe_cD c__law_great_right b__law_great_right (hr.mono (by decide)) (by rfl) pass0 (pa_cons (pv 0) (pa_cons (pv 2) pa_nil)))))))) (pss_one (ps_ret pe_bl)) pss_nil)
      (pss_one (ps_ret (pe_cD c__law_odd_right b__law_odd_right (hr.mono (by decide)) (by rfl) pass0 (pa_cons (pv 0) (pa_cons (pv 5) (pa_cons (pv 4) (pa_cons (pe_not (pv 2)) pa_nil))))))))))))), ?_⟩
  walk_at "st"
  walk_at "go"
  refine ⟨b, 2, rfl, hb, by decide, by decide, fun r1 H1 hr1 b1 bx1 => ?_⟩
  walk_at "go"
  generalize (decide ((r1 : Int) = 1)) = n
  refine ⟨b, rfl, bx1, fun p H2 r o rows c js b2 bx2 hp hrl hrc ho vo hl8 => ?_⟩
  have wf := hrc.wf
  refine w_gUnl hp rfl ?_
  walk_at "go"
  refine ⟨r, n, rows, c, rfl, hrl, hrc, fun sa H3 s3 hS => ?_⟩
  walk_at "go"
  intro wa H4 n4
  walk_at "go"
  have hrl4 := (hrl.same s3).same n4.1
  refine ⟨r, rows, rfl, hrl4, wf, hl8, fun L H5 s5 hL => ?_⟩
  walk_at "go"
  have hW5 : WorldAt CS H5 wa rows := ⟨r, sa, s5 _ _ n4.2.2, hrl4.same s5, (hS.same n4.1).same s5⟩
  have s25 : Same H2 H5 := fun b o e => s5 _ _ (n4.1 _ _ (s3 _ _ e))
  have ho5 := s25 _ _ ho
  have bx5 := bx2.same s25
  refine ⟨b, wa, o, n, rows, js, rfl, bx5, hW5, wf, ho5, vo, fun H6 b6 bx6 => ?_⟩
  have hW6 := hW5.but bx5 b6
  have ho6 : H6 o = some (.lst (iv js)) := b6 _ _ (box_ne bx5 ho5) ho5
  have hrl6 := (hrl4.same s5).but bx5 b6
  walk_at "go"
  refine iteF ?_
  walk_at "go"
  obtain ⟨out, hout, hrv⟩ := id hrl6
  refine ⟨r, o, out, rows, js, rfl, q_l hout, hrv, q_l ho6, fun x hx => vo.lt hx, wf, fun H7 s7 => ?_⟩
  have hle := hL.2 js vo
  have hlen := vo.len
  have bd := cost_bd wf.p0 wf.w0 js 0 (by decide) (by omega)
  obtain ⟨ys, vy, cy⟩ := hL.1
  have bd2 := cost_bd wf.p0 wf.w0 ys 0 (by decide) (by have := vy.len; omega)
  generalize hC : M93.cost (pR rows) (wR rows) 0 js = C at hle bd ⊢
  walk_at "go"
  obtain ⟨R, hR⟩ := Int.eq_ofNat_of_zero_le (show 0 ≤ C - L + 1 by omega)
  rw [hR]
  refine ⟨wa, o, L, R, true, n, rows, js, rfl, hW6.same s7, wf, s7 _ _ ho6, vo, hL, by omega, fun _ => by rw [hC]; omega, fun H8 s8 => ?_⟩
  walk_at "go"
  refine iteF ?_
  walk_at "go"
  have b28 : But b H H8 := (((b1.trans b2).then s25).trans b6).then fun b o e => s8 _ _ (s7 _ _ e)
  have bx8 : BoxAt H8 b := (bx6.same s7).same s8
  have hW8 := (hW6.same s7).same s8
  have ho8 := s8 _ _ (s7 _ _ ho6)
  cases g with
  | false =>
    refine iteF ?_
    refine iteF ?_
    walk_at "go"
    exact ⟨b, wa, o, _, rows, js, rfl, bx8, hW8, wf, ho8, vo, fun H9 b9 bx9 => q H9 (b28.trans b9)⟩
  | true =>
    refine iteT ?_
    walk_at "go"
    refine ⟨b, n, rfl, bx8, fun H9 b9 bx9 => ?_⟩
    walk_at "go"
    refine iteF ?_
    walk_at "go"
    exact ⟨b, wa, o, _, rows, js, rfl, bx9, hW8.but bx8 b9, wf, b9 _ _ (box_ne bx8 ho8) ho8, vo, fun H10 b10 bx10 => q H10 ((b28.trans b9).trans b10)⟩
theorem ok_law (D : Df K mg "law" s_law) (T : Txt K mg CS CC) (c__law_cell_right : Dn P w K mg base CX0 13 "_law_cell_right" s__law_cell_right p__law_cell_right spCellR) (c__law_box : Dn P w K mg base CX0 1 "_law_box" s__law_box p__law_box spBox)
    (c__law_cell : Dn P w K mg base CX0 1 "_law_cell" s__law_cell p__law_cell (spCell K)) : Dn P w K mg base CX0 14 "law" s_law p_law (spLaw K) := by
  refine dn_ok D sc_law (fun vs H Q E h => by obtain ⟨_, _, rfl, _⟩ := h; rfl) fun f cdv A outer s H vs Q E hr h => ?_
  obtain ⟨a, ns, rfl, ha, q⟩ := h
  refine ⟨_, (pss_cons (ps_for PassesOwn.never rfl (pi_range1 (by rfl) T.range (pa_cons (pe_callB (call_max2Q rfl) (by rfl) T.max (by decide +kernel) (pa_cons pe_int (pa_cons (pe_callB (call_min2Q rfl) (by rfl) T.min (by decide +kernel) (pa_cons pe_int (pa_cons (pe_callB call_lenQ (by rfl) T.len (by decide +kernel) (pa_cons (pv 0) pa_nil)) pa_nil))) pa_nil))) pa_nil)) (pg_name (i := 1) sc_law.nd rfl (by first | exact Or.inl rfl | exact Or.inr rfl)) (pss_one (ps_if (pt_not (pt_val (pe_cD c__law_cell_right b__law_cell_right (hr.mono (by decide)) (by rfl) pass0 (pa_cons (pe_cD c__law_box b__law_box (hr.mono (by decide)) (by rfl) pass0 (pa_cons (pe_cD c__law_cell b__law_cell (hr.mono (by decide)) (by rfl) pass0 (pa_cons (pv 0) (pa_cons (pv 1) pa_nil))) pa_nil)) (pa_cons (pe_cmpR op_eq (pv 1) pe_int (nomark _)) pa_nil))))) (pss_one (ps_ret pe_bl)) pss_nil)))
      (pss_one (ps_ret pe_bl))), ?_⟩
  walk_at "st"
  walk_at "go"
  refine w_len (Or.inl ha) ?_
  walk_at "go"
  refine ⟨_, _, rfl, ?_⟩
  walk_at "go"
  refine ⟨_, _, rfl, ?_⟩
  obtain ⟨N, hN, hN2⟩ : ∃ N : Nat, (if (if ((ns.map V.int).length : Int) < 5 then ((ns.map V.int).length : Int) else 5) > 2 then (if ((ns.map V.int).length : Int) < 5 then ((ns.map V.int).length : Int) else 5) else 2) = (N : Int) ∧ N ≤ 5 := by
    by_cases h1 : ((ns.map V.int).length : Int) < 5
    · rw [if_pos h1]
      by_cases h2 : ((ns.map V.int).length : Int) > 2
      · rw [if_pos h2]
        exact ⟨_, rfl, by omega⟩
      · rw [if_neg h2]
        exact ⟨2, rfl, by decide⟩
    · rw [if_neg h1]
      exact ⟨5, rfl, by decide⟩
  rw [hN]
  walk_at "go"
  refine range_for (by omega) (by omega) (fun i σ' H' => (∃ x, σ' = [some (.ref a), x]) ∧ Same H H') ⟨⟨_, rfl⟩, fun _ _ e => e⟩ (fun i σ' H' hi I => ?_) (fun σ' H' I => ?_)
  · obtain ⟨⟨x, rfl⟩, st⟩ := I
    walk_at "go"
    refine ⟨a, ns, i, rfl, SqL.same st ha, by omega, fun v H1 s1 => ?_⟩
    walk_at "go"
    refine ⟨v, rfl, fun b H2 s2 nb hb => ?_⟩
    walk_at "go"
    refine ⟨b, _, rfl, hb, fun H3 b3 => ?_⟩
    walk_at "go"
    refine iteF ?_
    walk_at "go"
    refine ⟨⟨_, rfl⟩, fun c o e => ?_⟩
    have h1 := s1 _ _ (st _ _ e)
    exact b3 _ _ (ne_of_none h1 nb) (s2 _ _ h1)
  · walk_at "go"
    exact q H'
end

end Cw
end

set_option Elab.async false
set_option linter.all false
set_option maxRecDepth 100000
set_option maxHeartbeats 4000000
namespace Cw
open PySem PySem.Spec PyProof.Rows L2
local macro_rules | `(tactic| walk_at "go1") => `(tactic| with_reducible first
  | refine w_seq ?_ | refine w_asgN ?_ | refine w_asgG ?_ | refine w_drop ?_ | refine w_ret ?_ | refine w_if ?_ | refine w_next ?_
  | refine w_var rfl ?_ | refine w_c ?_ | refine w_op ?_ | refine w_un ?_ | refine w_cb ?_ | refine w_cons ?_ | refine w_nil ?_ | refine w_call ?_
  | refine w_test ?_ | refine w_tB ?_ | refine w_bl ?_ | refine w_and ?_ | refine w_or ?_ | refine w_not ?_ | refine w_andV ?_ | refine w_orV ?_ | refine w_notV ?_ | refine w_ifE ?_ | refine w_blv ?_
  | refine w_I0 ?_ | refine w_eqI ?_ | refine w_neI ?_ | refine w_isN ?_ | refine w_notN ?_ | refine w_chain ?_ | refine w_for ?_ | refine w_iSeq ?_ | refine w_iR1 ?_ | refine w_iR2 ?_ | refine w_lc ?_
  | refine w_tupS ?_ | refine w_lstS ?_ | refine w_gN ?_ | refine w_gCons ?_ | refine w_gNil ?_ | refine w_aug rfl ?_ | refine w_ip ?_ | refine w_par ?_ | refine w_par2 ?_ | refine w_par3 ?_ | refine w_par33 ?_ | refine w_small (by first | decide | (simp only [List.length_cons, List.length_nil]; decide)) ?_ | refine w_bmL ?_ | refine w_gSub ?_ | refine w_lc2 ?_ | refine w_iEnum ?_ | refine w_yes ?_ | refine w_chN ?_ | refine w_chC ?_ | refine w_chL ?_ | refine w_tSl ?_ | refine w_pN ?_ | refine w_pS ?_ | refine w_pI ?_ | refine w_star ?_ | refine w_lrg ?_ | refine w_dget ?_ | refine w_dnotin ?_ | refine w_dget2 ?_ | refine w_dput ?_ | refine w_revR ?_ | refine w_cont ?_ | refine w_dpop ?_ | refine w_iKeys ?_)
local macro_rules | `(tactic| walk_at "hp") => `(tactic| (first | assumption | exact g_at (by assumption) | exact g_cat (by assumption) | (refine g_same (by assumption) ?_ ; walk_at "hp") | (refine g_new (by assumption) ?_ ; walk_at "hp") | (refine q_same (by assumption) ?_ ; walk_at "hp") | (refine q_new (by assumption) ?_ ; walk_at "hp")))
local macro_rules | `(tactic| walk_at "go") => `(tactic| repeat' walk_at "go1")
local macro_rules | `(tactic| walk_at "st") => `(tactic| simp only [cxK, L2.start, List.map_cons, List.map_nil, List.length_cons, List.length_nil, Nat.reduceAdd, Nat.reduceSub, List.replicate, List.cons_append, List.nil_append])

theorem bT {a b : Bool} (h : (a && b) = true) : a = true ∧ b = true := by cases a <;> cases b <;> simp_all
theorem sameF {K : PySem.W.Frag} {x q : Str} {ps : Arguments} {b : List Stmt} {sc : Scope} {f : Addr} {fd fd1 : FuncData} (F : FunD K x q ps b sc [] [] f fd) (F1 : FunD K x q ps b sc [] [] f fd1) : fd = fd1 := by
  obtain ⟨oc, od, dV, kV, doc, pm, an, cdv, ct, osl, e, lk, _, _, _⟩ := F.ex
  obtain ⟨oc1, od1, dV1, kV1, doc1, pm1, an1, cdv1, ct1, osl1, e1, lk1, _, _, _⟩ := F1.ex
  have z := lk.symm.trans lk1
  injection z with z
  injection z with z1 z2 z3 z4
  injection z3
section
variable {P : Program} {w : World} {K : PySem.W.Frag} {h : Heap} {mg : Str → Option Value}
theorem txtF (X : K.In h) (G : h.Ns mainGlobals mg) (c : SaysC C93.fa C93.fn C93.ex K) : Txt K mg (He.ga K "Search") (He.ga K "Covers") :=
  ⟨(He.free_ok X G (c.d.fact 57 (f := .free "len") rfl)), (He.free_ok X G (c.d.fact 58 (f := .free "isinstance") rfl)), (He.free_ok X G (c.d.fact 59 (f := .free "sum") rfl)), (He.free_ok X G (c.d.fact 60 (f := .free "any") rfl)), (He.free_ok X G (c.d.fact 61 (f := .free "all") rfl)), (He.free_ok X G (c.d.fact 62 (f := .free "range") rfl)), (He.free_ok X G (c.d.fact 63 (f := .free "list") rfl)), (He.free_ok X G (c.d.fact 64 (f := .free "tuple") rfl)), (He.free_ok X G (c.d.fact 65 (f := .free "int") rfl)), (He.free_ok X G (c.d.fact 67 (f := .free "abs") rfl)), (He.free_ok X G (c.d.fact 68 (f := .free "repr") rfl)), (He.free_ok X G (c.d.fact 69 (f := .free "min") rfl)), (He.free_ok X G (c.d.fact 70 (f := .free "max") rfl)), (He.free_ok X G (c.d.fact 71 (f := .free "enumerate") rfl)), (He.free_ok X G (c.d.fact 72 (f := .free "reversed") rfl)), (He.free_ok X G (c.d.fact 66 (f := .free "bool") rfl)),
    (He.cls_ok (c.d.fact 74 (f := .cls "Search") rfl)), (He.cls_ok (c.d.fact 80 (f := .cls "Covers") rfl)), (He.noat_ok (c.d.fact 79 (f := .noat "Search" "rows") rfl)), (He.noat_ok (c.d.fact 86 (f := .noat "Search" "covers") rfl)), (He.noat_ok (c.d.fact 87 (f := .noat "Search" "inspections") rfl)), (He.noat_ok (c.d.fact 88 (f := .noat "Search" "above") rfl)), (He.noat_ok (c.d.fact 85 (f := .noat "Covers" "rows") rfl)), (He.noat_ok (c.d.fact 89 (f := .noat "Covers" "paths") rfl))⟩
theorem sweF (X : K.In h) (G : h.Ns mainGlobals mg) (c : SaysC C93.fa C93.fn C93.ex K) : SwE K mg (He.ga K "InvalidSwap") (He.ga K "CrownError") := by
  obtain ⟨fd, F⟩ := c.d.def_ 3 (d := C93.d3) rfl
  obtain ⟨e1, e⟩ := bT (show (_ && _) = true from c.more)
  obtain ⟨e2, e⟩ := bT e
  obtain ⟨e3, e⟩ := bT e
  obtain ⟨e4, e⟩ := bT e
  obtain ⟨e5, e⟩ := bT e
  obtain ⟨e6, e7⟩ := bT e
  exact ⟨oexB_ok e1, (He.glo_ok X G (c.d.fact 4 (f := .glo "InvalidSwap") rfl)), (He.glo_ok X G (c.d.fact 0 (f := .glo "CrownError") rfl)), baseB_ok e6, of_decide_eq_true e3, xfB_ok e2, of_decide_eq_true e7, _, fd, F, of_decide_eq_true e4, of_decide_eq_true e5⟩
theorem df_is_integer (X : K.In h) (G : h.Ns mainGlobals mg) (c : SaysC C93.fa C93.fn C93.ex K) : Df K mg "is_integer" s_is_integer := by
  obtain ⟨fd, F⟩ := c.d.def_ 4 (d := C93.d4) rfl
  exact ⟨_, fd, F, (He.glo_ok X G (c.d.fact 5 (f := .glo "is_integer") rfl))⟩
theorem df_is_positive (X : K.In h) (G : h.Ns mainGlobals mg) (c : SaysC C93.fa C93.fn C93.ex K) : Df K mg "is_positive" s_is_positive := by
  obtain ⟨fd, F⟩ := c.d.def_ 5 (d := C93.d5) rfl
  exact ⟨_, fd, F, (He.glo_ok X G (c.d.fact 6 (f := .glo "is_positive") rfl))⟩
theorem df_is_index (X : K.In h) (G : h.Ns mainGlobals mg) (c : SaysC C93.fa C93.fn C93.ex K) : Df K mg "is_index" s_is_index := by
  obtain ⟨fd, F⟩ := c.d.def_ 6 (d := C93.d6) rfl
  exact ⟨_, fd, F, (He.glo_ok X G (c.d.fact 7 (f := .glo "is_index") rfl))⟩
theorem df_is_list (X : K.In h) (G : h.Ns mainGlobals mg) (c : SaysC C93.fa C93.fn C93.ex K) : Df K mg "is_list" s_is_list := by
  obtain ⟨fd, F⟩ := c.d.def_ 7 (d := C93.d7) rfl
  exact ⟨_, fd, F, (He.glo_ok X G (c.d.fact 8 (f := .glo "is_list") rfl))⟩
theorem df_is_tuple (X : K.In h) (G : h.Ns mainGlobals mg) (c : SaysC C93.fa C93.fn C93.ex K) : Df K mg "is_tuple" s_is_tuple := by
  obtain ⟨fd, F⟩ := c.d.def_ 8 (d := C93.d8) rfl
  exact ⟨_, fd, F, (He.glo_ok X G (c.d.fact 9 (f := .glo "is_tuple") rfl))⟩
theorem df_is_beginning (X : K.In h) (G : h.Ns mainGlobals mg) (c : SaysC C93.fa C93.fn C93.ex K) : Df K mg "is_beginning" s_is_beginning := by
  obtain ⟨fd, F⟩ := c.d.def_ 15 (d := C93.d15) rfl
  exact ⟨_, fd, F, (He.glo_ok X G (c.d.fact 13 (f := .glo "is_beginning") rfl))⟩
theorem df_is_order (X : K.In h) (G : h.Ns mainGlobals mg) (c : SaysC C93.fa C93.fn C93.ex K) : Df K mg "is_order" s_is_order := by
  obtain ⟨fd, F⟩ := c.d.def_ 16 (d := C93.d16) rfl
  exact ⟨_, fd, F, (He.glo_ok X G (c.d.fact 14 (f := .glo "is_order") rfl))⟩
theorem df_check_order (X : K.In h) (G : h.Ns mainGlobals mg) (c : SaysC C93.fa C93.fn C93.ex K) : Df K mg "check_order" s_check_order := by
  obtain ⟨fd, F⟩ := c.d.def_ 17 (d := C93.d17) rfl
  exact ⟨_, fd, F, (He.glo_ok X G (c.d.fact 15 (f := .glo "check_order") rfl))⟩
theorem df_cost_by (X : K.In h) (G : h.Ns mainGlobals mg) (c : SaysC C93.fa C93.fn C93.ex K) : Df K mg "cost_by" s_cost_by := by
  obtain ⟨fd, F⟩ := c.d.def_ 18 (d := C93.d18) rfl
  exact ⟨_, fd, F, (He.glo_ok X G (c.d.fact 16 (f := .glo "cost_by") rfl))⟩
theorem df_cost_of (X : K.In h) (G : h.Ns mainGlobals mg) (c : SaysC C93.fa C93.fn C93.ex K) : Df K mg "cost_of" s_cost_of := by
  obtain ⟨fd, F⟩ := c.d.def_ 19 (d := C93.d19) rfl
  exact ⟨_, fd, F, (He.glo_ok X G (c.d.fact 17 (f := .glo "cost_of") rfl))⟩
theorem df_totals_of (X : K.In h) (G : h.Ns mainGlobals mg) (c : SaysC C93.fa C93.fn C93.ex K) : Df K mg "totals_of" s_totals_of := by
  obtain ⟨fd, F⟩ := c.d.def_ 20 (d := C93.d20) rfl
  exact ⟨_, fd, F, (He.glo_ok X G (c.d.fact 18 (f := .glo "totals_of") rfl))⟩
theorem df_are_free (X : K.In h) (G : h.Ns mainGlobals mg) (c : SaysC C93.fa C93.fn C93.ex K) : Df K mg "are_free" s_are_free := by
  obtain ⟨fd, F⟩ := c.d.def_ 21 (d := C93.d21) rfl
  exact ⟨_, fd, F, (He.glo_ok X G (c.d.fact 19 (f := .glo "are_free") rfl))⟩
theorem df_swaps_in (X : K.In h) (G : h.Ns mainGlobals mg) (c : SaysC C93.fa C93.fn C93.ex K) : Df K mg "swaps_in" s_swaps_in := by
  obtain ⟨fd, F⟩ := c.d.def_ 22 (d := C93.d22) rfl
  exact ⟨_, fd, F, (He.glo_ok X G (c.d.fact 20 (f := .glo "swaps_in") rfl))⟩
theorem df_check_swap (X : K.In h) (G : h.Ns mainGlobals mg) (c : SaysC C93.fa C93.fn C93.ex K) : Df K mg "check_swap" s_check_swap := by
  obtain ⟨fd, F⟩ := c.d.def_ 23 (d := C93.d23) rfl
  exact ⟨_, fd, F, (He.glo_ok X G (c.d.fact 21 (f := .glo "check_swap") rfl))⟩
theorem df_gain_of (X : K.In h) (G : h.Ns mainGlobals mg) (c : SaysC C93.fa C93.fn C93.ex K) : Df K mg "gain_of" s_gain_of := by
  obtain ⟨fd, F⟩ := c.d.def_ 25 (d := C93.d25) rfl
  exact ⟨_, fd, F, (He.glo_ok X G (c.d.fact 23 (f := .glo "gain_of") rfl))⟩
theorem df_swap_gain (X : K.In h) (G : h.Ns mainGlobals mg) (c : SaysC C93.fa C93.fn C93.ex K) : Df K mg "swap_gain" s_swap_gain := by
  obtain ⟨fd, F⟩ := c.d.def_ 26 (d := C93.d26) rfl
  exact ⟨_, fd, F, (He.glo_ok X G (c.d.fact 24 (f := .glo "swap_gain") rfl))⟩
theorem df_swapped (X : K.In h) (G : h.Ns mainGlobals mg) (c : SaysC C93.fa C93.fn C93.ex K) : Df K mg "swapped" s_swapped := by
  obtain ⟨fd, F⟩ := c.d.def_ 24 (d := C93.d24) rfl
  exact ⟨_, fd, F, (He.glo_ok X G (c.d.fact 22 (f := .glo "swapped") rfl))⟩
theorem df_places_above (X : K.In h) (G : h.Ns mainGlobals mg) (c : SaysC C93.fa C93.fn C93.ex K) : Df K mg "places_above" s_places_above := by
  obtain ⟨fd, F⟩ := c.d.def_ 27 (d := C93.d27) rfl
  exact ⟨_, fd, F, (He.glo_ok X G (c.d.fact 25 (f := .glo "places_above") rfl))⟩
theorem df_better_end (X : K.In h) (G : h.Ns mainGlobals mg) (c : SaysC C93.fa C93.fn C93.ex K) : Df K mg "better_end" s_better_end := by
  obtain ⟨fd, F⟩ := c.d.def_ 28 (d := C93.d28) rfl
  exact ⟨_, fd, F, (He.glo_ok X G (c.d.fact 26 (f := .glo "better_end") rfl))⟩
theorem df_better_swap (X : K.In h) (G : h.Ns mainGlobals mg) (c : SaysC C93.fa C93.fn C93.ex K) : Df K mg "better_swap" s_better_swap := by
  obtain ⟨fd, F⟩ := c.d.def_ 29 (d := C93.d29) rfl
  exact ⟨_, fd, F, (He.glo_ok X G (c.d.fact 27 (f := .glo "better_swap") rfl))⟩
theorem df_is_least_order (X : K.In h) (G : h.Ns mainGlobals mg) (c : SaysC C93.fa C93.fn C93.ex K) : Df K mg "is_least_order" s_is_least_order := by
  obtain ⟨fd, F⟩ := c.d.def_ 30 (d := C93.d30) rfl
  exact ⟨_, fd, F, (He.glo_ok X G (c.d.fact 28 (f := .glo "is_least_order") rfl))⟩
theorem df_improving_swap (X : K.In h) (G : h.Ns mainGlobals mg) (c : SaysC C93.fa C93.fn C93.ex K) : Df K mg "improving_swap" s_improving_swap := by
  obtain ⟨fd, F⟩ := c.d.def_ 31 (d := C93.d31) rfl
  exact ⟨_, fd, F, (He.glo_ok X G (c.d.fact 29 (f := .glo "improving_swap") rfl))⟩
theorem df_is_improving_swap (X : K.In h) (G : h.Ns mainGlobals mg) (c : SaysC C93.fa C93.fn C93.ex K) : Df K mg "is_improving_swap" s_is_improving_swap := by
  obtain ⟨fd, F⟩ := c.d.def_ 32 (d := C93.d32) rfl
  exact ⟨_, fd, F, (He.glo_ok X G (c.d.fact 30 (f := .glo "is_improving_swap") rfl))⟩
theorem df_is_row (X : K.In h) (G : h.Ns mainGlobals mg) (c : SaysC C93.fa C93.fn C93.ex K) : Df K mg "is_row" s_is_row := by
  obtain ⟨fd, F⟩ := c.d.def_ 33 (d := C93.d33) rfl
  exact ⟨_, fd, F, (He.glo_ok X G (c.d.fact 31 (f := .glo "is_row") rfl))⟩
theorem df_is_inspection (X : K.In h) (G : h.Ns mainGlobals mg) (c : SaysC C93.fa C93.fn C93.ex K) : Df K mg "is_inspection" s_is_inspection := by
  obtain ⟨fd, F⟩ := c.d.def_ 9 (d := C93.d9) rfl
  exact ⟨_, fd, F, (He.glo_ok X G (c.d.fact 10 (f := .glo "is_inspection") rfl))⟩
theorem df_are_rows (X : K.In h) (G : h.Ns mainGlobals mg) (c : SaysC C93.fa C93.fn C93.ex K) : Df K mg "are_rows" s_are_rows := by
  obtain ⟨fd, F⟩ := c.d.def_ 34 (d := C93.d34) rfl
  exact ⟨_, fd, F, (He.glo_ok X G (c.d.fact 32 (f := .glo "are_rows") rfl))⟩
theorem df_paths_by (X : K.In h) (G : h.Ns mainGlobals mg) (c : SaysC C93.fa C93.fn C93.ex K) : Df K mg "paths_by" s_paths_by := by
  obtain ⟨fd, F⟩ := c.d.def_ 35 (d := C93.d35) rfl
  exact ⟨_, fd, F, (He.glo_ok X G (c.d.fact 33 (f := .glo "paths_by") rfl))⟩
theorem df_above_by (X : K.In h) (G : h.Ns mainGlobals mg) (c : SaysC C93.fa C93.fn C93.ex K) : Df K mg "above_by" s_above_by := by
  obtain ⟨fd, F⟩ := c.d.def_ 10 (d := C93.d10) rfl
  exact ⟨_, fd, F, (He.glo_ok X G (c.d.fact 11 (f := .glo "above_by") rfl))⟩
theorem df_law_cell (X : K.In h) (G : h.Ns mainGlobals mg) (c : SaysC C93.fa C93.fn C93.ex K) : Df K mg "_law_cell" s__law_cell := by
  obtain ⟨fd, F⟩ := c.d.def_ 40 (d := C93.d40) rfl
  exact ⟨_, fd, F, (He.glo_ok X G (c.d.fact 35 (f := .glo "_law_cell") rfl))⟩
theorem df_law_box (X : K.In h) (G : h.Ns mainGlobals mg) (c : SaysC C93.fa C93.fn C93.ex K) : Df K mg "_law_box" s__law_box := by
  obtain ⟨fd, F⟩ := c.d.def_ 41 (d := C93.d41) rfl
  exact ⟨_, fd, F, (He.glo_ok X G (c.d.fact 36 (f := .glo "_law_box") rfl))⟩
theorem df_law_take (X : K.In h) (G : h.Ns mainGlobals mg) (c : SaysC C93.fa C93.fn C93.ex K) : Df K mg "_law_take" s__law_take := by
  obtain ⟨fd, F⟩ := c.d.def_ 42 (d := C93.d42) rfl
  exact ⟨_, fd, F, (He.glo_ok X G (c.d.fact 37 (f := .glo "_law_take") rfl))⟩
theorem df_law_drawn (X : K.In h) (G : h.Ns mainGlobals mg) (c : SaysC C93.fa C93.fn C93.ex K) : Df K mg "_law_drawn" s__law_drawn := by
  obtain ⟨fd, F⟩ := c.d.def_ 43 (d := C93.d43) rfl
  exact ⟨_, fd, F, (He.glo_ok X G (c.d.fact 38 (f := .glo "_law_drawn") rfl))⟩
theorem df_law_order (X : K.In h) (G : h.Ns mainGlobals mg) (c : SaysC C93.fa C93.fn C93.ex K) : Df K mg "_law_order" s__law_order := by
  obtain ⟨fd, F⟩ := c.d.def_ 44 (d := C93.d44) rfl
  exact ⟨_, fd, F, (He.glo_ok X G (c.d.fact 39 (f := .glo "_law_order") rfl))⟩
theorem df_law_cost (X : K.In h) (G : h.Ns mainGlobals mg) (c : SaysC C93.fa C93.fn C93.ex K) : Df K mg "_law_cost" s__law_cost := by
  obtain ⟨fd, F⟩ := c.d.def_ 46 (d := C93.d46) rfl
  exact ⟨_, fd, F, (He.glo_ok X G (c.d.fact 41 (f := .glo "_law_cost") rfl))⟩
theorem df_law_small (X : K.In h) (G : h.Ns mainGlobals mg) (c : SaysC C93.fa C93.fn C93.ex K) : Df K mg "_law_small" s__law_small := by
  obtain ⟨fd, F⟩ := c.d.def_ 45 (d := C93.d45) rfl
  exact ⟨_, fd, F, (He.glo_ok X G (c.d.fact 40 (f := .glo "_law_small") rfl))⟩
theorem df_law_least (X : K.In h) (G : h.Ns mainGlobals mg) (c : SaysC C93.fa C93.fn C93.ex K) : Df K mg "_law_least" s__law_least := by
  obtain ⟨fd, F⟩ := c.d.def_ 47 (d := C93.d47) rfl
  exact ⟨_, fd, F, (He.glo_ok X G (c.d.fact 42 (f := .glo "_law_least") rfl))⟩
theorem df_law_merged (X : K.In h) (G : h.Ns mainGlobals mg) (c : SaysC C93.fa C93.fn C93.ex K) : Df K mg "_law_merged" s__law_merged := by
  obtain ⟨fd, F⟩ := c.d.def_ 48 (d := C93.d48) rfl
  exact ⟨_, fd, F, (He.glo_ok X G (c.d.fact 43 (f := .glo "_law_merged") rfl))⟩
theorem df_law_is_swap (X : K.In h) (G : h.Ns mainGlobals mg) (c : SaysC C93.fa C93.fn C93.ex K) : Df K mg "_law_is_swap" s__law_is_swap := by
  obtain ⟨fd, F⟩ := c.d.def_ 49 (d := C93.d49) rfl
  exact ⟨_, fd, F, (He.glo_ok X G (c.d.fact 44 (f := .glo "_law_is_swap") rfl))⟩
theorem df_law_after (X : K.In h) (G : h.Ns mainGlobals mg) (c : SaysC C93.fa C93.fn C93.ex K) : Df K mg "_law_after" s__law_after := by
  obtain ⟨fd, F⟩ := c.d.def_ 50 (d := C93.d50) rfl
  exact ⟨_, fd, F, (He.glo_ok X G (c.d.fact 45 (f := .glo "_law_after") rfl))⟩
theorem df_law_asked (X : K.In h) (G : h.Ns mainGlobals mg) (c : SaysC C93.fa C93.fn C93.ex K) : Df K mg "_law_asked" s__law_asked := by
  obtain ⟨fd, F⟩ := c.d.def_ 51 (d := C93.d51) rfl
  exact ⟨_, fd, F, (He.glo_ok X G (c.d.fact 46 (f := .glo "_law_asked") rfl))⟩
theorem df_law_yes (X : K.In h) (G : h.Ns mainGlobals mg) (c : SaysC C93.fa C93.fn C93.ex K) : Df K mg "_law_yes" s__law_yes := by
  obtain ⟨fd, F⟩ := c.d.def_ 52 (d := C93.d52) rfl
  exact ⟨_, fd, F, (He.glo_ok X G (c.d.fact 47 (f := .glo "_law_yes") rfl))⟩
theorem df_law_number (X : K.In h) (G : h.Ns mainGlobals mg) (c : SaysC C93.fa C93.fn C93.ex K) : Df K mg "_law_number" s__law_number := by
  obtain ⟨fd, F⟩ := c.d.def_ 53 (d := C93.d53) rfl
  exact ⟨_, fd, F, (He.glo_ok X G (c.d.fact 48 (f := .glo "_law_number") rfl))⟩
theorem df_law_step (X : K.In h) (G : h.Ns mainGlobals mg) (c : SaysC C93.fa C93.fn C93.ex K) : Df K mg "_law_step" s__law_step := by
  obtain ⟨fd, F⟩ := c.d.def_ 54 (d := C93.d54) rfl
  exact ⟨_, fd, F, (He.glo_ok X G (c.d.fact 49 (f := .glo "_law_step") rfl))⟩
theorem df_law_descent_right (X : K.In h) (G : h.Ns mainGlobals mg) (c : SaysC C93.fa C93.fn C93.ex K) : Df K mg "_law_descent_right" s__law_descent_right := by
  obtain ⟨fd, F⟩ := c.d.def_ 55 (d := C93.d55) rfl
  exact ⟨_, fd, F, (He.glo_ok X G (c.d.fact 50 (f := .glo "_law_descent_right") rfl))⟩
theorem df_law_span (X : K.In h) (G : h.Ns mainGlobals mg) (c : SaysC C93.fa C93.fn C93.ex K) : Df K mg "_law_span" s__law_span := by
  obtain ⟨fd, F⟩ := c.d.def_ 56 (d := C93.d56) rfl
  exact ⟨_, fd, F, (He.glo_ok X G (c.d.fact 51 (f := .glo "_law_span") rfl))⟩
theorem df_law_search (X : K.In h) (G : h.Ns mainGlobals mg) (c : SaysC C93.fa C93.fn C93.ex K) : Df K mg "_law_search" s__law_search := by
  obtain ⟨fd, F⟩ := c.d.def_ 58 (d := C93.d58) rfl
  exact ⟨_, fd, F, (He.glo_ok X G (c.d.fact 53 (f := .glo "_law_search") rfl))⟩
theorem df_law_great_right (X : K.In h) (G : h.Ns mainGlobals mg) (c : SaysC C93.fa C93.fn C93.ex K) : Df K mg "_law_great_right" s__law_great_right := by
  obtain ⟨fd, F⟩ := c.d.def_ 59 (d := C93.d59) rfl
  exact ⟨_, fd, F, (He.glo_ok X G (c.d.fact 54 (f := .glo "_law_great_right") rfl))⟩
theorem df_law_odd_right (X : K.In h) (G : h.Ns mainGlobals mg) (c : SaysC C93.fa C93.fn C93.ex K) : Df K mg "_law_odd_right" s__law_odd_right := by
  obtain ⟨fd, F⟩ := c.d.def_ 57 (d := C93.d57) rfl
  exact ⟨_, fd, F, (He.glo_ok X G (c.d.fact 52 (f := .glo "_law_odd_right") rfl))⟩
theorem df_law_cell_right (X : K.In h) (G : h.Ns mainGlobals mg) (c : SaysC C93.fa C93.fn C93.ex K) : Df K mg "_law_cell_right" s__law_cell_right := by
  obtain ⟨fd, F⟩ := c.d.def_ 60 (d := C93.d60) rfl
  exact ⟨_, fd, F, (He.glo_ok X G (c.d.fact 55 (f := .glo "_law_cell_right") rfl))⟩
theorem df_law (X : K.In h) (G : h.Ns mainGlobals mg) (c : SaysC C93.fa C93.fn C93.ex K) : Df K mg "law" s_law := by
  obtain ⟨fd, F⟩ := c.d.def_ 61 (d := C93.d61) rfl
  exact ⟨_, fd, F, (He.glo_ok X G (c.d.fact 56 (f := .glo "law") rfl))⟩
theorem mf_slen (c : SaysC C93.fa C93.fn C93.ex K) : Mf K (He.ga K "Search") "__len__" "Search.__len__" s_Search___len__ := by
  obtain ⟨fd, F⟩ := c.d.def_ 13 (d := C93.d13) rfl
  exact ⟨_, fd, F, (He.meth_ok (c.d.fact 76 (f := .meth "Search" "__len__") rfl))⟩
theorem mf_scon (c : SaysC C93.fa C93.fn C93.ex K) : Mf K (He.ga K "Search") "__contains__" "Search.__contains__" s_Search___contains__ := by
  obtain ⟨fd, F⟩ := c.d.def_ 14 (d := C93.d14) rfl
  exact ⟨_, fd, F, (He.meth_ok (c.d.fact 77 (f := .meth "Search" "__contains__") rfl))⟩
theorem mf_clen (c : SaysC C93.fa C93.fn C93.ex K) : Mf K (He.ga K "Covers") "__len__" "Covers.__len__" s_Covers___len__ := by
  obtain ⟨fd, F⟩ := c.d.def_ 38 (d := C93.d38) rfl
  exact ⟨_, fd, F, (He.meth_ok (c.d.fact 82 (f := .meth "Covers" "__len__") rfl))⟩
theorem facts {f : Addr} (X : K.In h) (G : h.Ns mainGlobals mg) (hfa : mg ("law" : Str) = some (.ref f)) (c : SaysC C93.fa C93.fn C93.ex K) :
    ∃ fd : FuncData, (∀ (s : Shared) (v : Value), BindsTo s fd ⟨[v], []⟩ [("script", v)]) ∧ ∀ base : Heap, K.In base → base.Ns mainGlobals mg → FnOk P w K mg base CX0 14 f fd ["script"] (spLaw K) := by
  obtain ⟨f0, fd, F, g⟩ := df_law X G c
  have e := hfa.symm.trans g
  cases e
  have b := FunD.bindsA (ps := ["script"]) F fun _ _ _ _ _ _ us hl => match us, hl with | [_], _ => rfl
  refine ⟨fd, fun s v => b s [v] rfl, fun base _ _ => ?_⟩
  have T := txtF X G c
  have S := sweF X G c
  obtain ⟨fdC, FC⟩ := c.d.def_ 36 (d := C93.d36) rfl
  obtain ⟨fdS, FS⟩ := c.d.def_ 11 (d := C93.d11) rfl
  have c_is_integer := ok_is_integer (P := P) (w := w) (base := base) (df_is_integer X G c) T
  have c_is_positive := ok_is_positive (P := P) (w := w) (base := base) (df_is_positive X G c) c_is_integer
  have c_is_index := ok_is_index (P := P) (w := w) (base := base) (df_is_index X G c) c_is_integer
  have c_is_list := ok_is_list (P := P) (w := w) (base := base) (df_is_list X G c) T
  have c_is_tuple := ok_is_tuple (P := P) (w := w) (base := base) (df_is_tuple X G c) T
  have c_slen := ok_slen (P := P) (w := w) (base := base) (mf_slen c) T
  have c_scon := ok_scon (P := P) (w := w) (base := base) (mf_scon c) T c_is_index
  have c_is_beginning := ok_is_beginning (P := P) (w := w) (base := base) (df_is_beginning X G c) T c_is_list c_slen c_scon
  have c_is_order := ok_is_order (P := P) (w := w) (base := base) (df_is_order X G c) T c_is_beginning c_slen
  have c_check_order := ok_check_order (P := P) (w := w) (base := base) (df_check_order X G c) T c_is_order
  have c_cost_by := ok_cost_by (P := P) (w := w) (base := base) (df_cost_by X G c)
  have c_cost_of := ok_cost_of (P := P) (w := w) (base := base) (df_cost_of X G c) T c_check_order c_cost_by
  have c_totals_of := ok_totals_of (P := P) (w := w) (base := base) (df_totals_of X G c) T
  have c_are_free := ok_are_free (P := P) (w := w) (base := base) (df_are_free X G c) T
  have c_swaps_in := ok_swaps_in (P := P) (w := w) (base := base) (df_swaps_in X G c) T c_is_tuple c_is_integer c_slen c_are_free
  have c_check_swap := ok_check_swap (P := P) (w := w) (base := base) (df_check_swap X G c) S c_check_order c_swaps_in
  have c_gain_of := ok_gain_of (P := P) (w := w) (base := base) (df_gain_of X G c) c_totals_of
  have c_swap_gain := ok_swap_gain (P := P) (w := w) (base := base) (df_swap_gain X G c) c_check_swap c_gain_of
  have c_swapped := ok_swapped (P := P) (w := w) (base := base) (df_swapped X G c) c_check_swap
  have c_places_above := ok_places_above (P := P) (w := w) (base := base) (df_places_above X G c) T c_slen
  have c_better_end := ok_better_end (P := P) (w := w) (base := base) (df_better_end X G c) T c_totals_of
  have c_better_swap := ok_better_swap (P := P) (w := w) (base := base) (df_better_swap X G c) T c_places_above c_better_end
  have c_is_least_order := ok_is_least_order (P := P) (w := w) (base := base) (df_is_least_order X G c) c_is_order c_better_swap
  have c_improving_swap := ok_improving_swap (P := P) (w := w) (base := base) (df_improving_swap X G c) c_check_order c_better_swap
  have c_is_improving_swap := ok_is_improving_swap (P := P) (w := w) (base := base) (df_is_improving_swap X G c) c_check_order c_swaps_in c_gain_of
  have c_is_row := ok_is_row (P := P) (w := w) (base := base) (df_is_row X G c) c_is_tuple c_is_index c_is_positive
  have c_is_inspection := ok_is_inspection (P := P) (w := w) (base := base) (df_is_inspection X G c) c_is_tuple c_is_index c_is_positive
  have c_are_rows := ok_are_rows (P := P) (w := w) (base := base) (df_are_rows X G c) T c_is_list c_is_row
  have c_paths_by := ok_paths_by (P := P) (w := w) (base := base) (df_paths_by X G c) T
  have c_above_by := ok_above_by (P := P) (w := w) (base := base) (df_above_by X G c) T
  have c_clen := ok_clen (P := P) (w := w) (base := base) (mf_clen c) T
  have c_cinit := ok_cinit (P := P) (w := w) (base := base) FC T c_are_rows c_paths_by
  have c_Covers : Cn P w K mg base 5 "Covers" "Covers.__init__" s_Covers___init__ p_Covers___init__ (He.ga K "Covers") (spCInit (He.ga K "Covers")) := ⟨_, fdC, FC, (He.glo_ok X G (c.d.fact 34 (f := .glo "Covers") rfl)), (He.mkr_ok (c.d.fact 81 (f := .mkr "Covers") rfl)), c_cinit⟩
  have c_sinit := ok_sinit (P := P) (w := w) (base := base) FS T c_is_list c_is_inspection c_above_by c_clen
  have c_Search : Cn P w K mg base 4 "Search" "Search.__init__" s_Search___init__ p_Search___init__ (He.ga K "Search") (spSInit (He.ga K "Search") (He.ga K "Covers")) := ⟨_, fdS, FS, (He.glo_ok X G (c.d.fact 12 (f := .glo "Search") rfl)), (He.mkr_ok (c.d.fact 75 (f := .mkr "Search") rfl)), c_sinit⟩
  have c_law_cell := ok_law_cell (P := P) (w := w) (base := base) (df_law_cell X G c) T
  have c_law_box := ok_law_box (P := P) (w := w) (base := base) (df_law_box X G c) T
  have c_law_take := ok_law_take (P := P) (w := w) (base := base) (df_law_take X G c) T
  have c_law_drawn := ok_law_drawn (P := P) (w := w) (base := base) (df_law_drawn X G c) T c_law_take
  have c_law_order := ok_law_order (P := P) (w := w) (base := base) (df_law_order X G c) T c_law_take
  have c_law_cost := ok_law_cost (P := P) (w := w) (base := base) (df_law_cost X G c)
  have c_law_small := ok_law_small (P := P) (w := w) (base := base) (df_law_small X G c) T c_law_take c_law_drawn c_law_order
  have c_law_least := ok_law_least (P := P) (w := w) (base := base) (df_law_least X G c) T
  have c_law_merged := ok_law_merged (P := P) (w := w) (base := base) (df_law_merged X G c) T
  have c_law_is_swap := ok_law_is_swap (P := P) (w := w) (base := base) (df_law_is_swap X G c) T
  have c_law_after := ok_law_after (P := P) (w := w) (base := base) (df_law_after X G c)
  have c_law_asked := ok_law_asked (P := P) (w := w) (base := base) (df_law_asked X G c) T S c_improving_swap c_is_least_order c_is_improving_swap c_swap_gain c_swapped c_cost_of
  have c_law_yes := ok_law_yes (P := P) (w := w) (base := base) (df_law_yes X G c)
  have c_law_number := ok_law_number (P := P) (w := w) (base := base) (df_law_number X G c) T
  have c_law_step := ok_law_step (P := P) (w := w) (base := base) (df_law_step X G c) T c_law_cost c_law_yes c_law_number c_law_asked c_law_is_swap c_law_after
  have c_law_descent_right := ok_law_descent_right (P := P) (w := w) (base := base) (df_law_descent_right X G c) T c_law_step
  have c_law_span := ok_law_span (P := P) (w := w) (base := base) (df_law_span X G c) T c_law_take
  have c_law_search := ok_law_search (P := P) (w := w) (base := base) (df_law_search X G c) T c_Covers c_Search
  have c_law_great_right := ok_law_great_right (P := P) (w := w) (base := base) (df_law_great_right X G c) T c_law_take c_law_drawn c_law_merged c_law_search c_law_cost c_law_descent_right c_law_span c_law_is_swap c_law_after
  have c_law_odd_right := ok_law_odd_right (P := P) (w := w) (base := base) (df_law_odd_right X G c) T c_law_take c_law_cost c_law_yes c_law_number c_law_asked c_law_span c_law_is_swap c_law_after
  have c_law_cell_right := ok_law_cell_right (P := P) (w := w) (base := base) (df_law_cell_right X G c) T c_law_take c_law_small c_law_search c_law_least c_law_odd_right c_law_cost c_law_descent_right c_law_great_right
  have c_law := ok_law (P := P) (w := w) (base := base) (df_law X G c) T c_law_cell_right c_law_box c_law_cell
  obtain ⟨f1, fd1, F1, g1, L⟩ := c_law
  have e1 := g.symm.trans g1
  cases e1
  have e2 : fd = fd1 := sameF F F1
  subst e2
  exact L
end

end Cw

open PySem PySem.W PySem.Calls PyProof.Rows
theorem PySem.Challenge.cw_crownwork_k93_whole_improving_swaps_end_holds : PySem.Challenge.rw_crownwork_k93_whole_improving_swaps_end.Holds := by
  w_on; o_law
  refine HandSHeadRun.head_any (r := OpenLaw.row PySem.Challenge.rw_crownwork_k93_whole_improving_swaps_end) (q := view (OpenLaw.row PySem.Challenge.rw_crownwork_k93_whole_improving_swaps_end).prog [62]) (H := C93.hk) (ob := C93.ob) (M := 6000) (loose := C93.loose) (d := HandSHeadRun.topDef (OpenLaw.row PySem.Challenge.rw_crownwork_k93_whole_improving_swaps_end).prog 62) (kwd := []) C93.ob_eq
    (by kernel_rfl) (fun s => by kernel_rfl) C93.run (by kernel_rfl) (by kernel_rfl) (by kernel_rfl) (by rfl) (by first | assumption | decide +kernel) (by decide +kernel) ⟨rfl, rfl, rfl, rfl, rfl, by decide +kernel⟩ ?hw ?hc
  case hw => w_witness2
  case hc =>
    refine L2.walk_ofE (l := PySem.Challenge.rw_crownwork_k93_whole_improving_swaps_end) (n := 63) (k := 14) (x := "script") (CX := L2.CX0) rfl (by decide) (by kernel_rfl) ⟨rfl, by decide, by decide⟩ ?F (fun _ _ _ _ z => z)
    intro w mg fa h Y G hmg0
    obtain ⟨K, KX, c⟩ := Y
    have hmg : mg ("law" : PySem.Str) = some (.ref fa) := by
      have e : (HandSHeadRun.topDef (OpenLaw.row PySem.Challenge.rw_crownwork_k93_whole_improving_swaps_end).prog 62).name = ("law" : PySem.Str) := by kernel_rfl
      rw [← e]
      exact hmg0
    obtain ⟨fd, hb, hF⟩ := Cw.facts (P := (PySem.Challenge.rw_crownwork_k93_whole_improving_swaps_end).prog) (w := w) KX G hmg c
    exact ⟨K, fd, Cw.spLaw K, KX, hb, fun H a ns hl _ hS => ⟨a, ns, rfl, hS, fun _ => rfl⟩, hF⟩
