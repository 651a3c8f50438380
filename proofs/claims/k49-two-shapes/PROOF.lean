import PyProof.Rows.All
import Wide.All
import OpenK.AllK
import Wide.FinOn
import HandS.ForMost
import HandS.Evl
import HandS.OwnEq
import HandS.Deep
import HandS.DictComp
import HandS.IsInst
import HandS.Zip
import HandS.ListItems
import HandS.TupAny
import HandS.Conv
import HandS.DictEq
import HandS.Defaults
import HandS.WordsExc
import HandS.NoneIn
import HandS.Flow
import HandS.Base
import HandS.Call
import HandS.Words
import HandS.HeadHook1
import HandS.HeadHook2
import HandS.HeadHook3
import HandS.HeadHook4
import PySem.Challenge.RW_editedframes_k49_whole_what_two_shapes_s
import HandS.RaiseMore
import KE.KDictKeyed
import KE.KDictList
import KE.KStar
import HandS.SlotsOwn
import HandS.Wide
import HandS.WideBits
import HandS.Style
import KE.KStateDown
import Lean
import HandS.Ends
import HandS.More
import HandS.Head0
import HandS.Head1
import HandS.Head2
import HandS.HeadEnd
set_option Elab.async false
set_option linter.all false
set_option maxRecDepth 100000
-- part K49Math
/-! Plain mathematics of shapes: terms, substitutions, the greatest lower bound, the canonical rows. -/
namespace K49

/-! ### terms -/
inductive Nd (F : Type) where
  | opn | non | op (f : F) (xs : List Nat)

inductive Tm (F L : Type) where
  | hole (l : L) | nil | app (f : F) (ts : List (Tm F L))

noncomputable instance tmDec {F L : Type} : DecidableEq (Tm F L) := fun a b => Classical.propDecidable (a = b)

variable {F L M O : Type}

def Tm.subst (σ : L → Tm F M) : Tm F L → Tm F M
  | .hole l => σ l
  | .nil => .nil
  | .app f ts => .app f (ts.map (fun t => Tm.subst σ t))
@[simp] theorem Tm.subst_hole (σ : L → Tm F M) (l : L) : (Tm.hole l).subst σ = σ l := by simp [Tm.subst]
@[simp] theorem Tm.subst_nil (σ : L → Tm F M) : (Tm.nil : Tm F L).subst σ = .nil := by simp [Tm.subst]
@[simp] theorem Tm.subst_app (σ : L → Tm F M) (f : F) (ts : List (Tm F L)) : (Tm.app f ts).subst σ = .app f (ts.map (Tm.subst σ)) := by
  simp [Tm.subst]
theorem Tm.ind {P : Tm F L → Prop} (h1 : ∀ l, P (.hole l)) (h2 : P .nil) (h3 : ∀ f ts, (∀ t ∈ ts, P t) → P (.app f ts)) : ∀ t, P t
  | .hole l => h1 l
  | .nil => h2
  | .app f ts => h3 f ts fun t _ => Tm.ind h1 h2 h3 t

theorem map_congr' {α β : Type} {f g : α → β} : ∀ {l : List α}, (∀ a ∈ l, f a = g a) → l.map f = l.map g
  | [], _ => rfl
  | a :: l, h => by rw [List.map_cons, List.map_cons, h a (List.mem_cons_self), map_congr' fun b hb => h b (List.mem_cons_of_mem _ hb)]

theorem Tm.subst_comp (σ : L → Tm F M) (τ : M → Tm F O) : ∀ t : Tm F L, (t.subst σ).subst τ = t.subst fun l => (σ l).subst τ := by
  intro t
  induction t using Tm.ind with
  | h1 l => simp
  | h2 => simp
  | h3 f ts ih =>
    simp only [Tm.subst_app, List.map_map]
    congr 1
    exact map_congr' fun a ha => ih a ha
theorem Tm.subst_id : ∀ t : Tm F L, t.subst (fun l => .hole l) = t := by
  intro t
  induction t using Tm.ind with
  | h1 l => simp
  | h2 => simp
  | h3 f ts ih =>
    simp only [Tm.subst_app]
    congr 1
    have : ts.map (Tm.subst fun l => Tm.hole l) = ts.map id := map_congr' ih
    rw [this, List.map_id]

/-- the hole l stands in t -/
inductive Tm.In (l : L) : Tm F L → Prop
  | here : Tm.In l (.hole l)
  | app {f : F} {ts : List (Tm F L)} {t : Tm F L} : t ∈ ts → Tm.In l t → Tm.In l (.app f ts)

theorem Tm.subst_ext {σ τ : L → Tm F M} : ∀ {t : Tm F L}, (∀ l, Tm.In l t → σ l = τ l) → t.subst σ = t.subst τ := by
  intro t
  induction t using Tm.ind with
  | h1 l => intro h; simpa using h l .here
  | h2 => intro _; simp
  | h3 f ts ih =>
    intro h
    simp only [Tm.subst_app]
    congr 1
    exact map_congr' fun a ha => ih a ha fun l hl => h l (.app ha hl)
theorem map_inj' {α β : Type} {f g : α → β} : ∀ {l : List α}, l.map f = l.map g → ∀ a ∈ l, f a = g a
  | [], _, a, ha => nomatch ha
  | b :: l, h, a, ha => by
    rw [List.map_cons, List.map_cons] at h
    injection h with h1 h2
    rcases List.mem_cons.mp ha with rfl | ha
    · exact h1
    · exact map_inj' h2 a ha
theorem Tm.subst_inj {σ τ : L → Tm F M} : ∀ {t : Tm F L}, t.subst σ = t.subst τ → ∀ l, Tm.In l t → σ l = τ l := by
  intro t
  induction t using Tm.ind with
  | h1 l => intro h m hm; cases hm; simpa using h
  | h2 => intro _ m hm; cases hm
  | h3 f ts ih =>
    intro h m hm
    simp only [Tm.subst_app] at h
    injection h with _ h
    cases hm with
    | app ha hm => exact ih _ ha (map_inj' h _ ha) m hm

/-! ### what two terms have in common -/
def zipCmn (g : Tm F L → Tm F M → Tm F (Tm F L × Tm F M)) : List (Tm F L) → List (Tm F M) → List (Tm F (Tm F L × Tm F M))
  | a :: as, b :: bs => g a b :: zipCmn g as bs
  | _, _ => []

mutual
noncomputable def cmn [DecidableEq F] : Tm F L → Tm F M → Tm F (Tm F L × Tm F M)
  | .nil, .nil => .nil
  | .app f as, .app g bs => if f = g ∧ as.length = bs.length then .app f (cmns as bs) else .hole (.app f as, .app g bs)
  | a, b => .hole (a, b)
noncomputable def cmns [DecidableEq F] : List (Tm F L) → List (Tm F M) → List (Tm F (Tm F L × Tm F M))
  | a :: as, b :: bs => cmn a b :: cmns as bs
  | _, _ => []
end

section
variable [DecidableEq F]
theorem cmns_len : ∀ (as : List (Tm F L)) (bs : List (Tm F M)), as.length = bs.length → (cmns as bs).length = as.length
  | [], [], _ => by simp [cmns]
  | a :: as, b :: bs, h => by
    simp only [cmns, List.length_cons]
    rw [cmns_len as bs (by simpa using h)]
  | [], b :: bs, h => by simp at h
  | a :: as, [], h => by simp at h

/-- the first of the two -/
def pL : Tm F L × Tm F M → Tm F L := fun p => p.1
def pR : Tm F L × Tm F M → Tm F M := fun p => p.2
theorem cmns_fst (as : List (Tm F L)) : ∀ (bs : List (Tm F M)), as.length = bs.length → (∀ a ∈ as, ∀ b : Tm F M, (cmn a b).subst pL = a) → (cmns as bs).map (Tm.subst pL) = as := by
  induction as with
  | nil => intro bs h _; cases bs <;> simp_all [cmns]
  | cons a as ih =>
    intro bs h ha
    cases bs with
    | nil => simp at h
    | cons b bs =>
      simp only [cmns, List.map_cons]
      rw [ha a List.mem_cons_self b, ih bs (by simpa using h) fun x hx => ha x (List.mem_cons_of_mem _ hx)]
theorem cmn_fst : ∀ (a : Tm F L) (b : Tm F M), (cmn a b).subst pL = a := by
  intro a
  induction a using Tm.ind with
  | h1 l => intro b; cases b <;> simp [cmn, pL]
  | h2 => intro b; cases b <;> simp [cmn, pL]
  | h3 f as ih =>
    intro b
    cases b with
    | hole l => simp [cmn, pL]
    | nil => simp [cmn, pL]
    | app g bs =>
      simp only [cmn]
      split
      · rename_i h
        rw [Tm.subst_app, cmns_fst as bs h.2 fun a ha b => ih a ha b]
      · simp [pL]
theorem cmns_snd (as : List (Tm F L)) : ∀ (bs : List (Tm F M)), as.length = bs.length → (∀ a ∈ as, ∀ b : Tm F M, (cmn a b).subst pR = b) → (cmns as bs).map (Tm.subst pR) = bs := by
  induction as with
  | nil => intro bs h _; cases bs <;> simp_all [cmns]
  | cons a as ih =>
    intro bs h ha
    cases bs with
    | nil => simp at h
    | cons b bs =>
      simp only [cmns, List.map_cons]
      rw [ha a List.mem_cons_self b, ih bs (by simpa using h) fun x hx => ha x (List.mem_cons_of_mem _ hx)]
theorem cmn_snd : ∀ (a : Tm F L) (b : Tm F M), (cmn a b).subst pR = b := by
  intro a
  induction a using Tm.ind with
  | h1 l => intro b; cases b <;> simp [cmn, pR]
  | h2 => intro b; cases b <;> simp [cmn, pR]
  | h3 f as ih =>
    intro b
    cases b with
    | hole l => simp [cmn, pR]
    | nil => simp [cmn, pR]
    | app g bs =>
      simp only [cmn]
      split
      · rename_i h
        rw [Tm.subst_app, cmns_snd as bs h.2 fun a ha b => ih a ha b, h.1]
      · simp [pR]
theorem cmns_maps (σ : O → Tm F L) (τ : O → Tm F M) : ∀ (zs : List (Tm F O)), (∀ z ∈ zs, z.subst (fun l => cmn (σ l) (τ l)) = cmn (z.subst σ) (z.subst τ)) →
    zs.map (Tm.subst fun l => cmn (σ l) (τ l)) = cmns (zs.map (Tm.subst σ)) (zs.map (Tm.subst τ))
  | [], _ => by simp [cmns]
  | z :: zs, h => by
    simp only [List.map_cons, cmns]
    rw [h z List.mem_cons_self, cmns_maps σ τ zs fun x hx => h x (List.mem_cons_of_mem _ hx)]
/-- the greatest -/
theorem cmn_subst (σ : O → Tm F L) (τ : O → Tm F M) : ∀ z : Tm F O, z.subst (fun l => cmn (σ l) (τ l)) = cmn (z.subst σ) (z.subst τ) := by
  intro z
  induction z using Tm.ind with
  | h1 l => simp
  | h2 => simp [cmn]
  | h3 f zs ih =>
    simp only [Tm.subst_app, cmn, List.length_map, and_self, if_true]
    rw [cmns_maps σ τ zs ih]
end

/-! ### valuations, their order -/
variable {N : Type}
/-- a valuation: the variables of both sides (false: old, true: new) -/
abbrev Va (F L N : Type) := Bool → N → Tm F L
/-- X says what Y follows: X follows from Y -/
def Le (vs : List N) (X : Va F L N) (Y : Va F M N) : Prop := ∃ σ : L → Tm F M, ∀ b n, n ∈ vs → (X b n).subst σ = Y b n
def Eqv (vs : List N) (X : Va F L N) (Y : Va F M N) : Prop := Le vs X Y ∧ Le vs Y X
section
variable {vs : List N} {L1 L2 L3 : Type} {X : Va F L1 N} {Y : Va F L2 N} {Z : Va F L3 N}
theorem Le.rfl' (X : Va F L1 N) : Le vs X X := ⟨fun l => .hole l, fun b n _ => Tm.subst_id _⟩
theorem Le.trans (h : Le vs X Y) (k : Le vs Y Z) : Le vs X Z := by
  obtain ⟨σ, hσ⟩ := h
  obtain ⟨τ, hτ⟩ := k
  exact ⟨fun l => (σ l).subst τ, fun b n hn => by rw [← Tm.subst_comp, hσ b n hn, hτ b n hn]⟩
theorem Eqv.rfl' (X : Va F L1 N) : Eqv vs X X := ⟨.rfl' X, .rfl' X⟩
theorem Eqv.symm (h : Eqv vs X Y) : Eqv vs Y X := ⟨h.2, h.1⟩
theorem Eqv.trans (h : Eqv vs X Y) (k : Eqv vs Y Z) : Eqv vs X Z := ⟨h.1.trans k.1, k.2.trans h.2⟩
variable [DecidableEq F]
noncomputable def meet (X : Va F L1 N) (Y : Va F L2 N) : Va F (Tm F L1 × Tm F L2) N := fun b n => cmn (X b n) (Y b n)
theorem meet_left : Le vs (meet X Y) X := ⟨pL, fun b n _ => cmn_fst _ _⟩
theorem meet_right : Le vs (meet X Y) Y := ⟨pR, fun b n _ => cmn_snd _ _⟩
theorem le_meet (h : Le vs Z X) (k : Le vs Z Y) : Le vs Z (meet X Y) := by
  obtain ⟨σ, hσ⟩ := h
  obtain ⟨τ, hτ⟩ := k
  exact ⟨fun l => cmn (σ l) (τ l), fun b n hn => by rw [cmn_subst, hσ b n hn, hτ b n hn]; rfl⟩
theorem meet_mono {L4 : Type} {W : Va F L4 N} (h : Le vs X Z) (k : Le vs Y W) : Le vs (meet X Y) (meet Z W) := le_meet (meet_left.trans h) (meet_right.trans k)
theorem meet_eqv {L4 : Type} {W : Va F L4 N} (h : Eqv vs X Z) (k : Eqv vs Y W) : Eqv vs (meet X Y) (meet Z W) := ⟨meet_mono h.1 k.1, meet_mono h.2 k.2⟩
theorem meet_comm' : Eqv vs (meet X Y) (meet Y X) := ⟨le_meet meet_right meet_left, le_meet meet_right meet_left⟩
theorem meet_idem : Eqv vs (meet X X) X := ⟨meet_left, le_meet (.rfl' X) (.rfl' X)⟩
theorem meet_assoc : Eqv vs (meet (meet X Y) Z) (meet X (meet Y Z)) :=
  ⟨le_meet (meet_left.trans meet_left) (le_meet (meet_left.trans meet_right) meet_right), le_meet (le_meet meet_left (meet_right.trans meet_left)) (meet_right.trans meet_right)⟩
theorem meet_of_le (h : Le vs X Y) : Eqv vs (meet X Y) X := ⟨meet_left, le_meet (.rfl' X) h⟩
theorem le_of_meet (h : Eqv vs (meet X Y) X) : Le vs X Y := h.2.trans meet_right
end

/-! ### renaming of holes -/
def ren (ρ : L → M) (t : Tm F L) : Tm F M := t.subst fun l => .hole (ρ l)

/-- X and Y are one another's: each hole of X goes to a hole, and back -/
theorem eqv_holes {vs : List N} {X : Va F L N} {Y : Va F M N} (h : Eqv vs X Y) :
    ∃ (σ : L → Tm F M) (τ : M → Tm F L), (∀ b n, n ∈ vs → (X b n).subst σ = Y b n) ∧ (∀ b n, n ∈ vs → (Y b n).subst τ = X b n) ∧
      ∀ b n, n ∈ vs → ∀ l, Tm.In l (X b n) → ∃ m, σ l = .hole m ∧ τ m = .hole l := by
  obtain ⟨⟨σ, hσ⟩, ⟨τ, hτ⟩⟩ := h
  refine ⟨σ, τ, hσ, hτ, fun b n hn l hl => ?_⟩
  have e : (X b n).subst (fun l => (σ l).subst τ) = (X b n).subst fun l => .hole l := by
    rw [← Tm.subst_comp, hσ b n hn, hτ b n hn, Tm.subst_id]
  have e2 : (σ l).subst τ = .hole l := Tm.subst_inj e l hl
  cases q : σ l with
  | hole m => rw [q] at e2; exact ⟨m, rfl, by simpa using e2⟩
  | nil => rw [q] at e2; simp at e2
  | app f ts => rw [q] at e2; simp at e2

/-! ### the canonical rows of a valuation -/
noncomputable def visit : Tm F L → List (Tm F L) → List (Tm F L)
  | .hole l, acc => if (Tm.hole l) ∈ acc then acc else acc ++ [.hole l]
  | .nil, acc => if Tm.nil ∈ acc then acc else acc ++ [.nil]
  | .app f ts, acc => if (Tm.app f ts) ∈ acc then acc else (ts.attach.foldl (fun a t => visit t.1 a) acc) ++ [.app f ts]
termination_by t => t
decreasing_by
  have := t.2
  decreasing_trivial
def kids : Tm F L → List (Tm F L)
  | .app _ ts => ts
  | _ => []
theorem visit_eq (t : Tm F L) (acc : List (Tm F L)) : visit t acc = if t ∈ acc then acc else (kids t).foldl (fun a u => visit u a) acc ++ [t] := by
  cases t with
  | hole l => simp [visit, kids]
  | nil => simp [visit, kids]
  | app f ts =>
    rw [visit]
    simp only [kids]
    rw [List.foldl_attach (l := ts) (f := fun a u => visit u a)]
noncomputable def visits (ts : List (Tm F L)) (acc : List (Tm F L)) : List (Tm F L) := ts.foldl (fun a u => visit u a) acc
def sz : Tm F L → Nat
  | .hole _ => 1
  | .nil => 1
  | .app _ ts => 1 + (ts.map (fun t => sz t)).sum
theorem sz_le_sum {ts : List (Tm F L)} {u : Tm F L} (h : u ∈ ts) : sz u ≤ (ts.map sz).sum := by
  induction ts with
  | nil => cases h
  | cons a r ih =>
    rw [List.map_cons, List.sum_cons]
    rcases List.mem_cons.mp h with rfl | h
    · omega
    · have := ih h; omega
theorem sz_kid {t u : Tm F L} (h : u ∈ kids t) : sz u < sz t := by
  cases t with
  | hole l => cases h
  | nil => cases h
  | app f ts =>
    have := sz_le_sum (show u ∈ ts from h)
    have e : sz (Tm.app f ts) = 1 + (ts.map sz).sum := by rw [sz]
    omega
/-- induction by the kids -/
theorem Tm.kidInd {P : Tm F L → Prop} (h : ∀ t, (∀ u ∈ kids t, P u) → P t) : ∀ t, P t := by
  intro t
  induction t using Tm.ind with
  | h1 l => exact h _ fun u hu => nomatch hu
  | h2 => exact h _ fun u hu => nomatch hu
  | h3 f ts ih => exact h _ ih

section
variable {t : Tm F L} {acc : List (Tm F L)}
theorem visit_old (h : t ∈ acc) : visit t acc = acc := by rw [visit_eq, if_pos h]
theorem visit_new (h : ¬ t ∈ acc) : visit t acc = visits (kids t) acc ++ [t] := by rw [visit_eq, if_neg h]; rfl
theorem visits_cons (a : Tm F L) (r acc : List (Tm F L)) : visits (a :: r) acc = visits r (visit a acc) := rfl
theorem visits_nil (acc : List (Tm F L)) : visits [] acc = acc := rfl
theorem visits_append (a r acc : List (Tm F L)) : visits (a ++ r) acc = visits r (visits a acc) := by unfold visits; rw [List.foldl_append]
/-- what visits keeps, from what visit keeps -/
theorem visits_keep {P : List (Tm F L) → Prop} : ∀ (ts : List (Tm F L)) (acc : List (Tm F L)), (∀ t ∈ ts, ∀ acc, P acc → P (visit t acc)) → P acc → P (visits ts acc)
  | [], acc, _, h => h
  | a :: r, acc, hv, h => visits_keep r _ (fun t ht => hv t (List.mem_cons_of_mem _ ht)) (hv a List.mem_cons_self acc h)
theorem visits_pre : ∀ (ts : List (Tm F L)) (acc : List (Tm F L)), (∀ t ∈ ts, ∀ acc, acc <+: visit t acc) → acc <+: visits ts acc
  | [], acc, _ => List.prefix_rfl
  | a :: r, acc, hv => List.IsPrefix.trans (hv a List.mem_cons_self acc) (visits_pre r _ fun t ht => hv t (List.mem_cons_of_mem _ ht))
theorem visit_pre : ∀ (t : Tm F L) (acc : List (Tm F L)), acc <+: visit t acc := by
  intro t
  induction t using Tm.kidInd with
  | h t ih =>
    intro acc
    by_cases h : t ∈ acc
    · rw [visit_old h]; exact List.prefix_rfl
    · rw [visit_new h]
      exact List.IsPrefix.trans (visits_pre _ _ ih) (List.prefix_append _ _)
theorem visits_pre' (ts acc : List (Tm F L)) : acc <+: visits ts acc := visits_pre ts acc fun t _ acc => visit_pre t acc
theorem visit_self (t : Tm F L) (acc : List (Tm F L)) : t ∈ visit t acc := by
  by_cases h : t ∈ acc
  · rw [visit_old h]; exact h
  · rw [visit_new h]; simp
theorem visits_mem : ∀ {ts acc : List (Tm F L)} {t : Tm F L}, t ∈ ts → t ∈ visits ts acc
  | a :: r, acc, t, h => by
    rw [visits_cons]
    rcases List.mem_cons.mp h with rfl | h
    · exact (visits_pre' r _).subset (visit_self _ acc)
    · exact visits_mem h
theorem visit_sz : ∀ (t : Tm F L) (acc : List (Tm F L)) (x : Tm F L), x ∈ visit t acc → x ∈ acc ∨ sz x ≤ sz t := by
  intro t
  induction t using Tm.kidInd with
  | h t ih =>
    intro acc x hx
    by_cases h : t ∈ acc
    · rw [visit_old h] at hx; exact .inl hx
    · rw [visit_new h] at hx
      have key : ∀ (ts acc : List (Tm F L)), (∀ u ∈ ts, u ∈ kids t) → ∀ x ∈ visits ts acc, x ∈ acc ∨ sz x ≤ sz t := by
        intro ts
        induction ts with
        | nil => intro acc _ x hx; exact .inl hx
        | cons a r ihr =>
          intro acc hs x hx
          rw [visits_cons] at hx
          rcases ihr _ (fun u hu => hs u (List.mem_cons_of_mem _ hu)) x hx with h1 | h1
          · have ha := hs a List.mem_cons_self
            rcases ih a ha acc x h1 with h2 | h2
            · exact .inl h2
            · have := sz_kid ha; exact .inr (by omega)
          · exact .inr h1
      rcases List.mem_append.mp hx with hx | hx
      · exact key _ _ (fun _ h => h) x hx
      · have : x = t := by simpa using hx
        subst this; exact .inr (Nat.le_refl _)
theorem visit_nodup : ∀ (t : Tm F L) (acc : List (Tm F L)), acc.Nodup → (visit t acc).Nodup := by
  intro t
  induction t using Tm.kidInd with
  | h t ih =>
    intro acc hn
    by_cases h : t ∈ acc
    · rw [visit_old h]; exact hn
    · rw [visit_new h]
      have h1 : (visits (kids t) acc).Nodup := visits_keep (P := List.Nodup) _ _ (fun u hu acc => ih u hu acc) hn
      refine List.nodup_append.mpr ⟨h1, by simp, fun a ha b hb => ?_⟩
      have : b = t := by simpa using hb
      subst this
      rintro rfl
      have key : ∀ (ts acc : List (Tm F L)), (∀ u ∈ ts, sz u < sz a) → a ∈ visits ts acc → a ∈ acc := by
        intro ts
        induction ts with
        | nil => intro acc _ h; exact h
        | cons c r ihr =>
          intro acc hs hx
          rw [visits_cons] at hx
          have h1 := ihr _ (fun u hu => hs u (List.mem_cons_of_mem _ hu)) hx
          rcases visit_sz c acc a h1 with h2 | h2
          · exact h2
          · have := hs c List.mem_cons_self; omega
      exact h (key _ _ (fun u hu => sz_kid hu) ha)
/-- every term stands behind its kids -/
def Closed (acc : List (Tm F L)) : Prop := ∀ (i : Nat) t, acc[i]? = some t → ∀ u ∈ kids t, ∃ j, j < i ∧ acc[j]? = some u
theorem closed_snoc {acc : List (Tm F L)} {t : Tm F L} (h : Closed acc) (hk : ∀ u ∈ kids t, u ∈ acc) : Closed (acc ++ [t]) := by
  intro i x hx u hu
  by_cases hi : i < acc.length
  · rw [List.getElem?_append_left hi] at hx
    obtain ⟨j, hj, e⟩ := h i x hx u hu
    exact ⟨j, hj, by rw [List.getElem?_append_left (by omega)]; exact e⟩
  · rw [List.getElem?_append_right (by omega)] at hx
    have hz : i - acc.length = 0 := by
      have := (List.getElem?_eq_some_iff.mp hx).1
      simp at this
      omega
    rw [hz] at hx
    have : t = x := by simpa using hx
    subst this
    obtain ⟨j, hj⟩ := List.mem_iff_getElem?.mp (hk u hu)
    have hl := (List.getElem?_eq_some_iff.mp hj).1
    exact ⟨j, by omega, by rw [List.getElem?_append_left hl]; exact hj⟩
theorem visit_closed : ∀ (t : Tm F L) (acc : List (Tm F L)), Closed acc → Closed (visit t acc) := by
  intro t
  induction t using Tm.kidInd with
  | h t ih =>
    intro acc hc
    by_cases h : t ∈ acc
    · rw [visit_old h]; exact hc
    · rw [visit_new h]
      exact closed_snoc (visits_keep (P := Closed) _ _ (fun u hu acc => ih u hu acc) hc) fun u hu => visits_mem hu
theorem visits_closed (ts acc : List (Tm F L)) (h : Closed acc) : Closed (visits ts acc) := visits_keep (P := Closed) ts acc (fun t _ acc => visit_closed t acc) h
theorem visits_nodup (ts acc : List (Tm F L)) (h : acc.Nodup) : (visits ts acc).Nodup := visits_keep (P := List.Nodup) ts acc (fun t _ acc => visit_nodup t acc) h
/-- the elements are P, if the terms are and P goes down to the kids -/
theorem visit_all {P : Tm F L → Prop} (hP : ∀ t, P t → ∀ u ∈ kids t, P u) : ∀ (t : Tm F L) (acc : List (Tm F L)), P t → (∀ x ∈ acc, P x) → ∀ x ∈ visit t acc, P x := by
  intro t
  induction t using Tm.kidInd with
  | h t ih =>
    intro acc ht ha
    by_cases h : t ∈ acc
    · rw [visit_old h]; exact ha
    · rw [visit_new h]
      intro x hx
      rcases List.mem_append.mp hx with hx | hx
      · exact visits_keep (P := fun acc => ∀ x ∈ acc, P x) _ _ (fun u hu acc h => ih u hu acc (hP t ht u hu) h) ha x hx
      · have : x = t := by simpa using hx
        subst this; exact ht
theorem visits_all {P : Tm F L → Prop} (hP : ∀ t, P t → ∀ u ∈ kids t, P u) (ts acc : List (Tm F L)) (ht : ∀ t ∈ ts, P t) (ha : ∀ x ∈ acc, P x) : ∀ x ∈ visits ts acc, P x :=
  visits_keep (P := fun acc => ∀ x ∈ acc, P x) ts acc (fun u hu acc h => visit_all hP u acc (ht u hu) h) ha
end

/-! ### visits under a renaming -/
structure Moves (P : Tm F L → Prop) (g : Tm F L → Tm F M) : Prop where
  down : ∀ t, P t → ∀ u ∈ kids t, P u
  inj : ∀ t u, P t → P u → g t = g u → t = u
  kid : ∀ t, P t → kids (g t) = (kids t).map g
theorem mem_map_inj {α β : Type} {P : α → Prop} {g : α → β} (hi : ∀ t u, P t → P u → g t = g u → t = u) {t : α} {acc : List α} (ht : P t) (ha : ∀ x ∈ acc, P x) : g t ∈ acc.map g ↔ t ∈ acc := by
  constructor
  · intro h
    obtain ⟨x, hx, e⟩ := List.mem_map.mp h
    have := hi x t (ha x hx) ht e
    subst this; exact hx
  · intro h; exact List.mem_map.mpr ⟨t, h, rfl⟩
theorem visits_map_of {P : Tm F L → Prop} {g : Tm F L → Tm F M} (ts : List (Tm F L)) : ∀ (acc : List (Tm F L)), (∀ x ∈ acc, P x) → (∀ t ∈ ts, P t) →
    (∀ t ∈ ts, ∀ acc : List (Tm F L), (∀ x ∈ acc, P x) → visit (g t) (acc.map g) = (visit t acc).map g) → (∀ t ∈ ts, ∀ acc : List (Tm F L), (∀ x ∈ acc, P x) → ∀ x ∈ visit t acc, P x) →
    visits (ts.map g) (acc.map g) = (visits ts acc).map g := by
  induction ts with
  | nil => intro acc _ _ _ _; rfl
  | cons a r ih =>
    intro acc ha ht h1 h2
    rw [List.map_cons, visits_cons, visits_cons, h1 a List.mem_cons_self acc ha]
    exact ih _ (h2 a List.mem_cons_self acc ha) (fun t h => ht t (List.mem_cons_of_mem _ h)) (fun t h => h1 t (List.mem_cons_of_mem _ h)) fun t h => h2 t (List.mem_cons_of_mem _ h)
theorem visit_map {P : Tm F L → Prop} {g : Tm F L → Tm F M} (m : Moves P g) : ∀ (t : Tm F L) (acc : List (Tm F L)), P t → (∀ x ∈ acc, P x) → visit (g t) (acc.map g) = (visit t acc).map g := by
  intro t
  induction t using Tm.kidInd with
  | h t ih =>
    intro acc ht ha
    by_cases h : t ∈ acc
    · rw [visit_old h, visit_old ((mem_map_inj m.inj ht ha).mpr h)]
    · rw [visit_new h, visit_new (fun z => h ((mem_map_inj m.inj ht ha).mp z)), m.kid t ht, List.map_append]
      rw [visits_map_of (P := P) (g := g) (kids t) acc ha (m.down t ht) (fun u hu acc hacc => ih u hu acc (m.down t ht u hu) hacc) fun u hu acc hacc => visit_all m.down u acc (m.down t ht u hu) hacc]
      rfl
theorem visits_map {P : Tm F L → Prop} {g : Tm F L → Tm F M} (m : Moves P g) (ts acc : List (Tm F L)) (ht : ∀ t ∈ ts, P t) (ha : ∀ x ∈ acc, P x) : visits (ts.map g) (acc.map g) = (visits ts acc).map g :=
  visits_map_of ts acc ha ht (fun t h acc hacc => visit_map m t acc (ht t h) hacc) fun t h acc hacc => visit_all m.down t acc (ht t h) hacc
theorem idxOf_map {α β : Type} [DecidableEq α] [DecidableEq β] {P : α → Prop} {g : α → β} (hi : ∀ t u, P t → P u → g t = g u → t = u) {t : α} (ht : P t) : ∀ {acc : List α}, (∀ x ∈ acc, P x) → (acc.map g).idxOf (g t) = acc.idxOf t
  | [], _ => rfl
  | a :: r, ha => by
    rw [List.map_cons, List.idxOf_cons, List.idxOf_cons, idxOf_map hi ht fun x hx => ha x (List.mem_cons_of_mem _ hx)]
    by_cases h : a = t
    · subst h; simp
    · have h' : ¬ g a = g t := fun z => h (hi a t (ha a List.mem_cons_self) ht z)
      simp [h, h', beq_eq_false_iff_ne.mpr h, beq_eq_false_iff_ne.mpr h']

/-! ### rows -/
structure Rw (F N : Type) where
  nodes : List (Nd F)
  olds : List (N × Nat)
  news : List (N × Nat)
def Rw.side (R : Rw F N) (b : Bool) : List (N × Nat) := if b then R.news else R.olds
noncomputable def ndOf (ord : List (Tm F L)) : Tm F L → Nd F
  | .hole _ => .opn
  | .nil => .non
  | .app f ts => .op f (ts.map fun u => ord.idxOf u)
noncomputable def roots (vs : List N) (X : Va F L N) : List (Tm F L) := (vs.map (X false) ++ vs.map (X true)).filter fun t => decide (t ≠ .nil)
noncomputable def ordT (vs : List N) (X : Va F L N) : List (Tm F L) := visits (roots vs X) []
noncomputable def sideOf (ord : List (Tm F L)) (vs : List N) (x : N → Tm F L) : List (N × Nat) := vs.filterMap fun n => if x n = .nil then none else some (n, ord.idxOf (x n))
noncomputable def RT (vs : List N) (X : Va F L N) : Rw F N := ⟨(ordT vs X).map (ndOf (ordT vs X)), sideOf (ordT vs X) vs (X false), sideOf (ordT vs X) vs (X true)⟩
theorem ordT_nodup (vs : List N) (X : Va F L N) : (ordT vs X).Nodup := visits_nodup _ _ List.nodup_nil
theorem ordT_closed (vs : List N) (X : Va F L N) : Closed (ordT vs X) := visits_closed _ _ fun i t h => by simp at h
theorem ordT_mem {vs : List N} {X : Va F L N} {b : Bool} {n : N} (hn : n ∈ vs) (h : X b n ≠ .nil) : X b n ∈ ordT vs X := by
  refine visits_mem ?_
  unfold roots
  refine List.mem_filter.mpr ⟨?_, by simpa using h⟩
  cases b
  · exact List.mem_append_left _ (List.mem_map.mpr ⟨n, hn, rfl⟩)
  · exact List.mem_append_right _ (List.mem_map.mpr ⟨n, hn, rfl⟩)

theorem filterMap_congr' {α β : Type} {f g : α → Option β} : ∀ {l : List α}, (∀ a ∈ l, f a = g a) → l.filterMap f = l.filterMap g
  | [], _ => rfl
  | a :: l, h => by
    rw [List.filterMap_cons, List.filterMap_cons, h a List.mem_cons_self, filterMap_congr' fun b hb => h b (List.mem_cons_of_mem _ hb)]
theorem RT_map {vs : List N} {X : Va F L N} {Y : Va F M N} {P : Tm F L → Prop} {g : Tm F L → Tm F M} (m : Moves P g) (hX : ∀ b n, n ∈ vs → P (X b n)) (hY : ∀ b n, n ∈ vs → Y b n = g (X b n))
    (hnil : ∀ t, P t → (g t = .nil ↔ t = .nil)) (hnd : ∀ (ord : List (Tm F L)) t, P t → (∀ x ∈ ord, P x) → ndOf (ord.map g) (g t) = ndOf ord t) : RT vs Y = RT vs X := by
  have hr : roots vs Y = (roots vs X).map g := by
    unfold roots
    rw [List.filter_append, List.filter_append, List.map_append]
    have one : ∀ b, (vs.map (Y b)).filter (fun t => decide (t ≠ .nil)) = ((vs.map (X b)).filter fun t => decide (t ≠ .nil)).map g := by
      intro b
      have : ∀ (l : List N), (∀ n ∈ l, n ∈ vs) → (l.map (Y b)).filter (fun t => decide (t ≠ .nil)) = ((l.map (X b)).filter fun t => decide (t ≠ .nil)).map g := by
        intro l
        induction l with
        | nil => intro _; rfl
        | cons n r ih =>
          intro h
          have hn := h n List.mem_cons_self
          rw [List.map_cons, List.map_cons, List.filter_cons, List.filter_cons, ih fun k hk => h k (List.mem_cons_of_mem _ hk), hY b n hn]
          by_cases q : X b n = .nil
          · have q' := (hnil _ (hX b n hn)).mpr q
            simp [q, q']
            rw [q] at q'
            simp [q']
          · have q' : ¬ g (X b n) = .nil := fun z => q ((hnil _ (hX b n hn)).mp z)
            simp [q, q']
      exact this vs fun n h => h
    rw [one false, one true]
  have hPr : ∀ t ∈ roots vs X, P t := by
    intro t ht
    have := (List.mem_filter.mp ht).1
    rcases List.mem_append.mp this with h | h
    · obtain ⟨n, hn, rfl⟩ := List.mem_map.mp h; exact hX _ _ hn
    · obtain ⟨n, hn, rfl⟩ := List.mem_map.mp h; exact hX _ _ hn
  have ho : ordT vs Y = (ordT vs X).map g := by
    unfold ordT
    rw [hr]
    exact visits_map m (roots vs X) [] hPr fun x h => nomatch h
  have hPo : ∀ t ∈ ordT vs X, P t := visits_all m.down _ _ hPr fun x h => nomatch h
  have hs : ∀ b, sideOf (ordT vs Y) vs (Y b) = sideOf (ordT vs X) vs (X b) := by
    intro b
    unfold sideOf
    refine filterMap_congr' fun n hn => ?_
    rw [hY b n hn, ho]
    by_cases q : X b n = .nil
    · rw [if_pos q, if_pos ((hnil _ (hX b n hn)).mpr q)]
    · rw [if_neg q, if_neg fun z => q ((hnil _ (hX b n hn)).mp z), idxOf_map m.inj (hX b n hn) hPo]
  unfold RT
  rw [hs false, hs true]
  congr 1
  rw [ho, List.map_map]
  exact map_congr' fun t ht => hnd _ t (hPo t ht) hPo
theorem ndOf_ren {P : Tm F L → Prop} {g : Tm F L → Tm F M} (m : Moves P g) (hg : ∀ t, P t → (match t with | .hole _ => ∃ l, g t = .hole l | .nil => g t = .nil | .app f ts => g t = .app f (ts.map g))) (ord : List (Tm F L)) (t : Tm F L) (ht : P t) (ho : ∀ x ∈ ord, P x) : ndOf (ord.map g) (g t) = ndOf ord t := by
  have h := hg t ht
  cases t with
  | hole l => obtain ⟨l', e⟩ := h; rw [e]; rfl
  | nil => simp only at h; rw [h]; rfl
  | app f ts =>
    simp only at h
    rw [h]
    simp only [ndOf, List.map_map]
    congr 1
    exact map_congr' fun u hu => idxOf_map m.inj (m.down _ ht u hu) ho
/-- one another's valuations have the same rows -/
theorem RT_congr {vs : List N} {X : Va F L N} {Y : Va F M N} (h : Eqv vs X Y) : RT vs X = RT vs Y := by
  obtain ⟨σ, τ, hσ, hτ, hh⟩ := eqv_holes h
  let P : Tm F L → Prop := fun t => ∀ l, Tm.In l t → ∃ m, σ l = .hole m ∧ τ m = .hole l
  have back : ∀ t, P t → (t.subst σ).subst τ = t := by
    intro t ht
    rw [Tm.subst_comp]
    conv => rhs; rw [← Tm.subst_id t]
    refine Tm.subst_ext fun l hl => ?_
    obtain ⟨m, e1, e2⟩ := ht l hl
    rw [e1]; simpa using e2
  have m : Moves P (Tm.subst σ) := by
    refine ⟨fun t ht u hu l hl => ?_, fun t u ht hu e => ?_, fun t ht => ?_⟩
    · cases t with
      | hole l => cases hu
      | nil => cases hu
      | app f ts => exact ht l (.app hu hl)
    · rw [← back t ht, ← back u hu, e]
    · cases t with
      | hole l =>
        obtain ⟨k, e1, _⟩ := ht l .here
        rw [Tm.subst_hole, e1]; rfl
      | nil => simp [kids]
      | app f ts => simp [kids]
  refine (RT_map m (fun b n hn l hl => hh b n hn l hl) (fun b n hn => (hσ b n hn).symm) (fun t ht => ?_) fun ord t ht ho => ndOf_ren m (fun t ht => ?_) ord t ht ho).symm
  · constructor
    · intro e
      have := back t ht
      rw [e] at this
      simpa using this.symm
    · rintro rfl; simp
  · cases t with
    | hole l =>
      obtain ⟨k, e1, _⟩ := ht l .here
      exact ⟨k, by simpa using e1⟩
    | nil => simp
    | app f ts => simp

/-! ### the terms of rows -/
def WfN (ns : List (Nd F)) : Prop := ∀ (i : Nat) f xs, ns[i]? = some (.op f xs) → ∀ x ∈ xs, x < i
def mkT (acc : List (Tm F Nat)) : Nd F → Tm F Nat
  | .opn => .hole acc.length
  | .non => .nil
  | .op f xs => .app f (xs.map fun x => acc.getD x .nil)
def terms (ns : List (Nd F)) : List (Tm F Nat) := ns.foldl (fun acc nd => acc ++ [mkT acc nd]) []
def tm (ns : List (Nd F)) (i : Nat) : Tm F Nat := (terms ns).getD i .nil
theorem terms_snoc (ns : List (Nd F)) (nd : Nd F) : terms (ns ++ [nd]) = terms ns ++ [mkT (terms ns) nd] := by
  unfold terms; rw [List.foldl_append]; rfl
theorem snocInd {α : Type} {P : List α → Prop} (h0 : P []) (h1 : ∀ l a, P l → P (l ++ [a])) : ∀ l, P l := by
  intro l
  have : ∀ r : List α, P r.reverse := by
    intro r
    induction r with
    | nil => exact h0
    | cons a r ih => rw [List.reverse_cons]; exact h1 _ _ ih
  rw [← List.reverse_reverse l]; exact this _
theorem terms_len (ns : List (Nd F)) : (terms ns).length = ns.length := by
  induction ns using snocInd with
  | h0 => rfl
  | h1 l a ih => rw [terms_snoc, List.length_append, List.length_append, ih]; rfl
theorem WfN.front {ns : List (Nd F)} {nd : Nd F} (h : WfN (ns ++ [nd])) : WfN ns := fun i f xs e => h i f xs (by
  rw [List.getElem?_append_left (List.getElem?_eq_some_iff.mp e).1]; exact e)
theorem getD_left {α : Type} {l r : List α} {d : α} {i : Nat} (h : i < l.length) : (l ++ r).getD i d = l.getD i d := by
  rw [List.getD_eq_getElem?_getD, List.getD_eq_getElem?_getD, List.getElem?_append_left h]
theorem tm_front {ns : List (Nd F)} {nd : Nd F} {i : Nat} (h : i < ns.length) : tm (ns ++ [nd]) i = tm ns i := by
  unfold tm
  rw [terms_snoc, getD_left (by rw [terms_len]; exact h)]
theorem tm_eq {ns : List (Nd F)} (wf : WfN ns) : ∀ {i : Nat} {nd : Nd F}, ns[i]? = some nd → tm ns i = (match nd with | .opn => .hole i | .non => .nil | .op f xs => .app f (xs.map (tm ns))) := by
  induction ns using snocInd with
  | h0 => intro i nd h; simp at h
  | h1 l a ih =>
    intro i nd h
    by_cases hi : i < l.length
    · rw [List.getElem?_append_left hi] at h
      rw [tm_front hi, ih wf.front h]
      cases nd with
      | opn => rfl
      | non => rfl
      | op f xs =>
        simp only
        congr 1
        refine map_congr' fun x hx => (tm_front ?_).symm
        have := wf.front i f xs h x hx
        omega
    · have hl := (List.getElem?_eq_some_iff.mp h).1
      have hi' : i = l.length := by simp at hl; omega
      subst hi'
      have : nd = a := by simpa using h.symm
      subst this
      have e : tm (l ++ [nd]) l.length = mkT (terms l) nd := by
        unfold tm
        rw [terms_snoc, List.getD_eq_getElem?_getD, List.getElem?_append_right (by rw [terms_len]; exact Nat.le_refl _)]
        simp [terms_len]
      rw [e]
      cases nd with
      | opn => simp [mkT, terms_len]
      | non => rfl
      | op f xs =>
        simp only [mkT]
        congr 1
        refine map_congr' fun x hx => ?_
        have hx' : x < l.length := wf l.length f xs h x hx
        rw [tm_front hx']; rfl
theorem tm_out {ns : List (Nd F)} {i : Nat} (h : ns.length ≤ i) : tm ns i = .nil := by
  unfold tm
  rw [List.getD_eq_getElem?_getD, List.getElem?_eq_none_iff.mpr (by rw [terms_len]; exact h)]; rfl

section
variable [DecidableEq N]
def val (R : Rw F N) : Va F Nat N := fun b n => match (R.side b).lookup n with
  | some i => tm R.nodes i
  | none => .nil
theorem lookup_sideOf (ord : List (Tm F L)) (x : N → Tm F L) (n : N) : ∀ (vs : List N), n ∈ vs → vs.Nodup → (sideOf ord vs x).lookup n = if x n = .nil then none else some (ord.idxOf (x n))
  | [], h, _ => nomatch h
  | k :: vs, h, hd => by
    have ih := lookup_sideOf ord x n vs
    unfold sideOf at ih ⊢
    rw [List.filterMap_cons]
    have hd' := List.nodup_cons.mp hd
    have out : ∀ (l : List N), n ∉ l → (l.filterMap fun n => if x n = .nil then none else some (n, ord.idxOf (x n))).lookup n = none := by
      intro l
      induction l with
      | nil => intro _; rfl
      | cons c r ihr =>
        intro hc
        rw [List.filterMap_cons]
        have h1 : ¬ n = c := fun e => hc (by simp [e])
        have h2 : n ∉ r := fun e => hc (List.mem_cons_of_mem _ e)
        by_cases q : x c = .nil
        · rw [if_pos q]; exact ihr h2
        · rw [if_neg q]
          simp only [List.lookup_cons]
          rw [beq_eq_false_iff_ne.mpr h1]
          exact ihr h2
    by_cases e : n = k
    · subst e
      by_cases q : x n = .nil
      · simp only [if_pos q]
        exact out vs hd'.1
      · simp only [if_neg q, List.lookup_cons, beq_self_eq_true]
    · have hm : n ∈ vs := (List.mem_cons.mp h).resolve_left e
      by_cases q : x k = .nil
      · simp only [if_pos q]; exact ih hm hd'.2
      · simp only [if_neg q, List.lookup_cons, beq_eq_false_iff_ne.mpr e]
        exact ih hm hd'.2
end

/-- the canonical rows' terms: those of the order, each hole named by its place -/
theorem wf_ord {ord : List (Tm F L)} (hc : Closed ord) (hn : ord.Nodup) : WfN (ord.map (ndOf ord)) := by
  intro i f xs h x hx
  rw [List.getElem?_map] at h
  cases q : ord[i]? with
  | none => rw [q] at h; simp at h
  | some t =>
    rw [q] at h
    simp only [Option.map_some, Option.some.injEq] at h
    cases t with
    | hole l => simp [ndOf] at h
    | nil => simp [ndOf] at h
    | app g ts =>
      simp only [ndOf, Nd.op.injEq] at h
      obtain ⟨_, rfl⟩ := h
      obtain ⟨u, hu, rfl⟩ := List.mem_map.mp hx
      obtain ⟨j, hj, e⟩ := hc i _ q u hu
      have : ord.idxOf u ≤ j := by
        obtain ⟨hjl, e'⟩ := List.getElem?_eq_some_iff.mp e
        rw [← e', hn.idxOf_getElem]
        exact Nat.le_refl _
      omega
noncomputable def toIx (ord : List (Tm F L)) : L → Tm F Nat := fun l => .hole (ord.idxOf (.hole l))
theorem idxOf_at {α : Type} [DecidableEq α] {l : List α} (hn : l.Nodup) {i : Nat} {a : α} (h : l[i]? = some a) : l.idxOf a = i := by
  obtain ⟨h1, e⟩ := List.getElem?_eq_some_iff.mp h
  rw [← e]; exact hn.idxOf_getElem i h1
theorem at_idxOf {α : Type} [DecidableEq α] {l : List α} {a : α} (h : a ∈ l) : l[l.idxOf a]? = some a := by
  rw [List.getElem?_eq_getElem (List.idxOf_lt_length_of_mem h)]
  congr 1
  exact List.getElem_idxOf _
theorem tm_ord {ord : List (Tm F L)} (hc : Closed ord) (hn : ord.Nodup) : ∀ (t : Tm F L) (i : Nat), ord[i]? = some t → tm (ord.map (ndOf ord)) i = t.subst (toIx ord) := by
  intro t
  induction t using Tm.kidInd with
  | h t ih =>
    intro i h
    have e : (ord.map (ndOf ord))[i]? = some (ndOf ord t) := by rw [List.getElem?_map, h]; rfl
    rw [tm_eq (wf_ord hc hn) e]
    cases t with
    | hole l => simp [ndOf, toIx, idxOf_at hn h]
    | nil => simp [ndOf]
    | app f ts =>
      simp only [ndOf, Tm.subst_app, List.map_map]
      congr 1
      refine map_congr' fun u hu => ?_
      obtain ⟨j, _, ej⟩ := hc i _ h u hu
      exact ih u hu _ (at_idxOf (List.mem_of_getElem? ej))
theorem In.closed {ord : List (Tm F L)} (hc : Closed ord) {l : L} : ∀ {t : Tm F L}, t ∈ ord → Tm.In l t → Tm.hole l ∈ ord := by
  intro t
  induction t using Tm.kidInd with
  | h t ih =>
    intro hm hi
    cases hi with
    | here => exact hm
    | app ha hi =>
      obtain ⟨i, e⟩ := List.mem_iff_getElem?.mp hm
      obtain ⟨j, _, ej⟩ := hc i _ e _ ha
      exact ih _ ha (List.mem_of_getElem? ej) hi
section
variable [DecidableEq N]
theorem RT_side (vs : List N) (X : Va F L N) (b : Bool) : (RT vs X).side b = sideOf (ordT vs X) vs (X b) := by cases b <;> rfl
theorem val_RT_eq {vs : List N} (hv : vs.Nodup) (X : Va F L N) {b : Bool} {n : N} (hn : n ∈ vs) : val (RT vs X) b n = (X b n).subst (toIx (ordT vs X)) := by
  unfold val
  rw [RT_side, lookup_sideOf _ _ _ _ hn hv]
  by_cases q : X b n = .nil
  · rw [if_pos q, q]; simp
  · rw [if_neg q]
    exact tm_ord (ordT_closed vs X) (ordT_nodup vs X) _ _ (at_idxOf (ordT_mem hn q))
theorem val_RT {vs : List N} (hv : vs.Nodup) (X : Va F L N) : Eqv vs (val (RT vs X)) X := by
  refine ⟨⟨fun i => (ordT vs X).getD i .nil, fun b n hn => ?_⟩, ⟨toIx (ordT vs X), fun b n hn => (val_RT_eq hv X hn).symm⟩⟩
  rw [val_RT_eq hv X hn, Tm.subst_comp]
  conv => rhs; rw [← Tm.subst_id (X b n)]
  refine Tm.subst_ext fun l hl => ?_
  have hx : X b n ≠ .nil := fun e => by rw [e] at hl; cases hl
  have := at_idxOf (In.closed (ordT_closed vs X) (ordT_mem hn hx) hl)
  simp [toIx, List.getD_eq_getElem?_getD, this]
theorem RT_val_RT {vs : List N} (hv : vs.Nodup) (X : Va F L N) : RT vs (val (RT vs X)) = RT vs X := RT_congr (val_RT hv X)
end
end K49

-- part K49Loops
/-! The loops of the program as functions with fuel, and what they come to. -/
namespace K49
variable {F L M N : Type}

/-! ### the depth-first loop of numbers_for and met_rows -/
section
variable {α : Type} [DecidableEq α]
/-- the loop over the stack (its top first): at the top, a known node goes; else the first unknown operand is laid on it; else it becomes known -/
def runN (inn : α → List α) : Nat → List α → List α → Option (List α)
  | _, [], acc => some acc
  | 0, _ :: _, _ => none
  | m + 1, h :: st, acc => if h ∈ acc then runN inn m st acc else match (inn h).filter (fun x => decide (x ∉ acc)) with
    | l :: _ => runN inn m (l :: h :: st) acc
    | [] => runN inn m st (acc ++ [h])

structure Rep (P : α → Prop) (inn : α → List α) (g : α → Tm F L) : Prop where
  down : ∀ t, P t → ∀ u ∈ inn t, P u
  inj : ∀ t u, P t → P u → g t = g u → t = u
  kid : ∀ t, P t → kids (g t) = (inn t).map g

theorem filter_none {acc : List α} : ∀ {us : List α}, (∀ u ∈ us, u ∈ acc) → us.filter (fun x => decide (x ∉ acc)) = []
  | [], _ => rfl
  | u :: us, h => by
    rw [List.filter_cons, filter_none fun x hx => h x (List.mem_cons_of_mem _ hx)]
    simp [h u List.mem_cons_self]
theorem filter_skip {acc pre us : List α} (h : ∀ u ∈ pre, u ∈ acc) : (pre ++ us).filter (fun x => decide (x ∉ acc)) = us.filter (fun x => decide (x ∉ acc)) := by
  rw [List.filter_append, filter_none h]; rfl

theorem run_visit {P : α → Prop} {inn : α → List α} {g : α → Tm F L} (R : Rep P inn g) : ∀ (t : Tm F L) (a : α), P a → g a = t → ∀ acc : List α, (∀ x ∈ acc, P x) →
    ∃ acc' m, acc'.map g = visit t (acc.map g) ∧ (∀ x ∈ acc', P x) ∧ (∀ x ∈ acc, x ∈ acc') ∧ ∀ st k, runN inn (m + k) (a :: st) acc = runN inn k st acc' := by
  intro t
  induction t using Tm.kidInd with
  | h t ih =>
    intro a ha hg acc hacc
    subst hg
    by_cases hm : a ∈ acc
    · refine ⟨acc, 1, ?_, hacc, fun x h => h, fun st k => ?_⟩
      · rw [visit_old (List.mem_map.mpr ⟨a, hm, rfl⟩)]
      · rw [Nat.add_comm, runN, if_pos hm]
    · have hm' : ¬ g a ∈ acc.map g := fun z => hm ((mem_map_inj R.inj ha hacc).mp z)
      have key : ∀ (suf pre acc : List α), inn a = pre ++ suf → (∀ u ∈ pre, u ∈ acc) → (∀ x ∈ acc, P x) → ¬ a ∈ acc →
          ∃ acc' m, acc'.map g = visits (suf.map g) (acc.map g) ∧ (∀ x ∈ acc', P x) ∧ (∀ x ∈ acc, x ∈ acc') ∧ ¬ a ∈ acc' ∧ ∀ st k, runN inn (m + k) (a :: st) acc = runN inn k st (acc' ++ [a]) := by
        intro suf
        induction suf with
        | nil =>
          intro pre acc e hp hacc hna
          refine ⟨acc, 1, rfl, hacc, fun x h => h, hna, fun st k => ?_⟩
          rw [Nat.add_comm, runN, if_neg hna, e, filter_skip hp]
          rfl
        | cons u suf ihs =>
          intro pre acc e hp hacc hna
          have hu : u ∈ inn a := by rw [e]; simp
          have hPu := R.down a ha u hu
          by_cases hua : u ∈ acc
          · obtain ⟨acc', m, h1, h2, h3, h4, h5⟩ := ihs (pre ++ [u]) acc (by rw [e]; simp) (fun x hx => by
              rcases List.mem_append.mp hx with hx | hx
              · exact hp x hx
              · have : x = u := by simpa using hx
                subst this; exact hua) hacc hna
            refine ⟨acc', m, ?_, h2, h3, h4, h5⟩
            rw [h1, List.map_cons, visits_cons, visit_old (List.mem_map.mpr ⟨u, hua, rfl⟩)]
          · have hk : g u ∈ kids (g a) := by rw [R.kid a ha]; exact List.mem_map.mpr ⟨u, hu, rfl⟩
            obtain ⟨acc1, m1, g1, g2, g3, g4⟩ := ih (g u) hk u hPu rfl acc hacc
            have hu1 : u ∈ acc1 := (mem_map_inj R.inj hPu g2).mp (by rw [g1]; exact visit_self _ _)
            have hna1 : ¬ a ∈ acc1 := by
              intro z
              have : g a ∈ visit (g u) (acc.map g) := by rw [← g1]; exact List.mem_map.mpr ⟨a, z, rfl⟩
              rcases visit_sz _ _ _ this with q | q
              · exact hna ((mem_map_inj R.inj ha hacc).mp q)
              · have := sz_kid hk; omega
            obtain ⟨acc', m, h1, h2, h3, h4, h5⟩ := ihs (pre ++ [u]) acc1 (by rw [e]; simp) (fun x hx => by
              rcases List.mem_append.mp hx with hx | hx
              · exact g3 x (hp x hx)
              · have : x = u := by simpa using hx
                subst this; exact hu1) g2 hna1
            refine ⟨acc', 1 + m1 + m, ?_, h2, fun x hx => h3 x (g3 x hx), h4, fun st k => ?_⟩
            · rw [h1, List.map_cons, visits_cons, g1]
            · have e1 : 1 + m1 + m + k = (m1 + (m + k)) + 1 := by omega
              rw [e1, runN, if_neg hna, e, filter_skip hp, List.filter_cons, if_pos (by simpa using hua)]
              show runN inn (m1 + (m + k)) (u :: a :: st) acc = _
              rw [g4, h5]
      obtain ⟨acc', m, h1, h2, h3, h4, h5⟩ := key (inn a) [] acc rfl (fun u hu => nomatch hu) hacc hm
      refine ⟨acc' ++ [a], m, ?_, fun x hx => ?_, fun x hx => List.mem_append_left _ (h3 x hx), h5⟩
      · rw [visit_new hm', R.kid a ha, List.map_append, h1]; rfl
      · rcases List.mem_append.mp hx with hx | hx
        · exact h2 x hx
        · have : x = a := by simpa using hx
          subst this; exact ha
theorem runN_nil (inn : α → List α) (k : Nat) (acc : List α) : runN inn k [] acc = some acc := by cases k <;> rfl
/-- from one start -/
theorem run_one {P : α → Prop} {inn : α → List α} {g : α → Tm F L} (R : Rep P inn g) {a : α} (ha : P a) {acc : List α} (hacc : ∀ x ∈ acc, P x) :
    ∃ acc' m, acc'.map g = visit (g a) (acc.map g) ∧ (∀ x ∈ acc', P x) ∧ runN inn m [a] acc = some acc' := by
  obtain ⟨acc', m, h1, h2, _, h4⟩ := run_visit R (g a) a ha rfl acc hacc
  exact ⟨acc', m, h1, h2, by have := h4 [] 0; rw [Nat.add_zero] at this; rw [this]; exact runN_nil _ _ _⟩
/-- the order that it comes to, in terms -/
structure OrdOk (P : α → Prop) (g : α → Tm F L) (ord : List α) (ts : List (Tm F L)) : Prop where
  all : ∀ x ∈ ord, P x
  eq : ord.map g = visits ts []
theorem OrdOk.nil {P : α → Prop} {g : α → Tm F L} : OrdOk P g [] [] := ⟨fun x h => (nomatch h), rfl⟩
theorem OrdOk.next {P : α → Prop} {inn : α → List α} {g : α → Tm F L} (R : Rep P inn g) {ord : List α} {ts : List (Tm F L)} (o : OrdOk P g ord ts) {a : α} (ha : P a) :
    ∃ ord' m, OrdOk P g ord' (ts ++ [g a]) ∧ runN inn m [a] ord = some ord' := by
  obtain ⟨acc', m, h1, h2, h3⟩ := run_one R ha o.all
  refine ⟨acc', m, ⟨h2, ?_⟩, h3⟩
  rw [h1, o.eq, visits_append]; rfl
theorem nodup_of_map {α β : Type} (g : α → β) : ∀ {l : List α}, (l.map g).Nodup → l.Nodup
  | [], _ => List.nodup_nil
  | a :: l, h => by
    rw [List.map_cons, List.nodup_cons] at h
    exact List.nodup_cons.mpr ⟨fun z => h.1 (List.mem_map.mpr ⟨a, z, rfl⟩), nodup_of_map g h.2⟩
theorem OrdOk.nodup {P : α → Prop} {g : α → Tm F L} {ord : List α} {ts : List (Tm F L)} (o : OrdOk P g ord ts) : ord.Nodup := nodup_of_map g (by rw [o.eq]; exact visits_nodup _ _ List.nodup_nil)
end

/-! ### tidied -/
noncomputable def fst (ns : List (Nd F)) (i : Nat) : Nat := (terms ns).idxOf (tm ns i)
section
variable {ns : List (Nd F)} {i j : Nat}
theorem tm_at (h : i < ns.length) : (terms ns)[i]? = some (tm ns i) := by
  have h' : i < (terms ns).length := by rw [terms_len]; exact h
  unfold tm
  rw [List.getD_eq_getElem?_getD, List.getElem?_eq_getElem h']; rfl
theorem tm_mem (h : i < ns.length) : tm ns i ∈ terms ns := List.mem_of_getElem? (tm_at h)
theorem fst_lt (h : i < ns.length) : fst ns i < ns.length := by
  have := List.idxOf_lt_length_of_mem (tm_mem h)
  rw [terms_len] at this; exact this
theorem tm_fst (h : i < ns.length) : tm ns (fst ns i) = tm ns i := by
  have h1 := at_idxOf (tm_mem h)
  have h2 := tm_at (fst_lt h)
  unfold fst at h2 ⊢
  rw [h1] at h2
  exact (Option.some.inj h2).symm
theorem fst_fst (h : i < ns.length) : fst ns (fst ns i) = fst ns i := by
  have e := tm_fst h
  conv => lhs; rw [fst]
  rw [e]; rfl
theorem fst_iff (hi : i < ns.length) (hj : j < ns.length) : fst ns i = fst ns j ↔ tm ns i = tm ns j := by
  constructor
  · intro e; rw [← tm_fst hi, e, tm_fst hj]
  · intro e; unfold fst; rw [e]
theorem idxOf_le {α : Type} [DecidableEq α] {a : α} : ∀ {l : List α} {i : Nat}, l[i]? = some a → l.idxOf a ≤ i
  | [], i, h => by simp at h
  | b :: l, i, h => by
    rw [List.idxOf_cons]
    by_cases q : b = a
    · subst q; simp
    · cases i with
      | zero => exact absurd (by simpa using h) q
      | succ i =>
        have := idxOf_le (l := l) (i := i) (by simpa using h)
        simp [beq_eq_false_iff_ne.mpr q]
        exact this
theorem fst_le (h : i < ns.length) : fst ns i ≤ i := by
  exact idxOf_le (tm_at h)
/-- what merged asks of a node -/
inductive Ky (F : Type) where
  | opn (i : Nat) | non | op (f : F) (xs : List Nat)
noncomputable def keyOf (ns : List (Nd F)) (i : Nat) : Ky F := match ns.getD i .non with
  | .opn => .opn i
  | .non => .non
  | .op f xs => .op f (xs.map (fst ns))
theorem map_fst_iff {xs ys : List Nat} : (∀ x ∈ xs, x < ns.length) → (∀ y ∈ ys, y < ns.length) → (xs.map (fst ns) = ys.map (fst ns) ↔ xs.map (tm ns) = ys.map (tm ns)) := by
  induction xs generalizing ys with
  | nil => intro _ _; cases ys <;> simp
  | cons x xs ih =>
    intro hx hy
    cases ys with
    | nil => simp
    | cons y ys =>
      have a := fst_iff (hx x List.mem_cons_self) (hy y List.mem_cons_self)
      have b := ih (ys := ys) (fun z hz => hx z (List.mem_cons_of_mem _ hz)) fun z hz => hy z (List.mem_cons_of_mem _ hz)
      simp only [List.map_cons, List.cons.injEq]
      rw [a, b]
theorem getD_at {α : Type} {l : List α} {d : α} (h : i < l.length) : l[i]? = some (l.getD i d) := by
  rw [List.getD_eq_getElem?_getD, List.getElem?_eq_getElem h]; rfl
theorem key_iff (wf : WfN ns) (hi : i < ns.length) (hj : j < ns.length) : keyOf ns i = keyOf ns j ↔ tm ns i = tm ns j := by
  have ei := getD_at (d := .non) hi
  have ej := getD_at (d := .non) hj
  rw [tm_eq wf ei, tm_eq wf ej]
  unfold keyOf
  cases qi : ns.getD i .non with
  | opn => cases qj : ns.getD j .non <;> simp
  | non => cases qj : ns.getD j .non <;> simp
  | op f xs =>
    cases qj : ns.getD j .non with
    | opn => simp
    | non => simp
    | op g ys =>
      simp only [Ky.op.injEq, Tm.app.injEq]
      rw [map_fst_iff (fun x hx => ?_) fun y hy => ?_]
      · rw [qi] at ei; have := wf i f xs ei x hx; omega
      · rw [qj] at ej; have := wf j g ys ej y hy; omega
/-- the nodes that numbers_for sees -/
def RepN (ns : List (Nd F)) (i : Nat) : Prop := i < ns.length ∧ fst ns i = i
noncomputable def innN (ns : List (Nd F)) (i : Nat) : List Nat := match ns.getD i .non with
  | .op _ xs => xs.map (fst ns)
  | _ => []
theorem wf_lt (wf : WfN ns) (hi : i < ns.length) {f : F} {xs : List Nat} (e : ns.getD i .non = .op f xs) : ∀ x ∈ xs, x < ns.length := by
  intro x hx
  have ei := getD_at (d := .non) hi
  rw [e] at ei
  have := wf i f xs ei x hx
  omega
theorem repN (wf : WfN ns) : Rep (RepN ns) (innN ns) (tm ns) := by
  refine ⟨fun t ht u hu => ?_, fun t u ht hu e => ?_, fun t ht => ?_⟩
  · unfold innN at hu
    cases q : ns.getD t .non with
    | opn => rw [q] at hu; cases hu
    | non => rw [q] at hu; cases hu
    | op f xs =>
      rw [q] at hu
      obtain ⟨x, hx, rfl⟩ := List.mem_map.mp hu
      have hl := wf_lt wf ht.1 q x hx
      exact ⟨fst_lt hl, fst_fst hl⟩
  · have := (fst_iff ht.1 hu.1).mpr e
    rw [ht.2, hu.2] at this; exact this
  · have ei := getD_at (d := .non) ht.1
    rw [tm_eq wf ei]
    unfold innN
    cases q : ns.getD t .non with
    | opn => rfl
    | non => rfl
    | op f xs =>
      simp only [kids, List.map_map]
      exact map_congr' fun x hx => (tm_fst (wf_lt wf ht.1 q x hx)).symm
end
section
variable [DecidableEq N]
structure WfR (R : Rw F N) : Prop where
  wf : WfN R.nodes
  side : ∀ b n i, (R.side b).lookup n = some i → i < R.nodes.length
/-- a side as tidied makes it first -/
noncomputable def sideT (vs : List N) (R : Rw F N) (b : Bool) : List (N × Nat) := vs.filterMap fun n => match (R.side b).lookup n with
  | some i => if tm R.nodes i = .nil then none else some (n, fst R.nodes i)
  | none => none
noncomputable def startsT (vs : List N) (R : Rw F N) : List Nat := (sideT vs R false).map (·.2) ++ (sideT vs R true).map (·.2)
noncomputable def ndT (ns : List (Nd F)) (ord : List Nat) (i : Nat) : Nd F := match ns.getD i .non with
  | .opn => .opn
  | .non => .non
  | .op f xs => .op f (xs.map fun a => ord.idxOf (fst ns a))
theorem filterMap_append' {α β : Type} (f : α → Option β) : ∀ (a b : List α), (a ++ b).filterMap f = a.filterMap f ++ b.filterMap f := fun a b => List.filterMap_append
theorem startsT_rep {vs : List N} {R : Rw F N} (wf : WfR R) : ∀ i ∈ startsT vs R, RepN R.nodes i := by
  have one : ∀ b, ∀ i ∈ (sideT vs R b).map (·.2), RepN R.nodes i := by
    intro b i hi
    obtain ⟨p, hp, rfl⟩ := List.mem_map.mp hi
    unfold sideT at hp
    obtain ⟨n, hn, e⟩ := List.mem_filterMap.mp hp
    cases q : (R.side b).lookup n with
    | none => simp [q] at e
    | some i =>
      simp only [q] at e
      split at e
      · cases e
      · cases e
        have := wf.side b n i q
        exact ⟨fst_lt this, fst_fst this⟩
  intro i hi
  rcases List.mem_append.mp hi with h | h
  · exact one _ i h
  · exact one _ i h
theorem startsT_roots {vs : List N} {R : Rw F N} (wf : WfR R) : (startsT vs R).map (tm R.nodes) = roots vs (val R) := by
  have one : ∀ b (l : List N), ((l.filterMap fun n => match (R.side b).lookup n with
      | some i => if tm R.nodes i = .nil then none else some (n, fst R.nodes i)
      | none => none).map (·.2)).map (tm R.nodes) = (l.map (val R b)).filter fun t => decide (t ≠ .nil) := by
    intro b l
    induction l with
    | nil => rfl
    | cons n r ih =>
      rw [List.filterMap_cons, List.map_cons, List.filter_cons, ← ih]
      cases q : (R.side b).lookup n with
      | none =>
        have : val R b n = .nil := by unfold val; rw [q]
        simp [this]
      | some i =>
        have hv : val R b n = tm R.nodes i := by unfold val; rw [q]
        rw [hv]
        by_cases z : tm R.nodes i = .nil
        · simp [z]
        · simp only [if_neg z, List.map_cons]
          rw [tm_fst (wf.side b n i q)]
          simp [z]
  unfold startsT roots
  rw [List.map_append, List.filter_append]
  unfold sideT
  rw [one false vs, one true vs]
/-- tidied makes the canonical rows -/
theorem tidied_eq {vs : List N} {R : Rw F N} (wf : WfR R) {ord : List Nat} (o : OrdOk (RepN R.nodes) (tm R.nodes) ord (roots vs (val R))) :
    (⟨ord.map (ndT R.nodes ord), (sideT vs R false).map (fun p => (p.1, ord.idxOf p.2)), (sideT vs R true).map (fun p => (p.1, ord.idxOf p.2))⟩ : Rw F N) = RT vs (val R) := by
  have rp := repN wf.wf
  have ho : ordT vs (val R) = ord.map (tm R.nodes) := o.eq.symm
  have ix : ∀ i, i < R.nodes.length → ord.idxOf (fst R.nodes i) = (ord.map (tm R.nodes)).idxOf (tm R.nodes i) := by
    intro i hi
    rw [← tm_fst hi]
    exact (idxOf_map rp.inj (P := RepN R.nodes) ⟨fst_lt hi, fst_fst hi⟩ o.all).symm
  have hs : ∀ b, (sideT vs R b).map (fun p => (p.1, ord.idxOf p.2)) = sideOf (ordT vs (val R)) vs (val R b) := by
    intro b
    unfold sideT sideOf
    rw [ho]
    generalize vs = l
    induction l with
    | nil => rfl
    | cons n r ih =>
      rw [List.filterMap_cons, List.filterMap_cons, ← ih]
      cases q : (R.side b).lookup n with
      | none =>
        have : val R b n = .nil := by unfold val; rw [q]
        rw [if_pos this]
      | some i =>
        have hv : val R b n = tm R.nodes i := by unfold val; rw [q]
        rw [hv]
        by_cases z : tm R.nodes i = .nil
        · simp only [if_pos z]
        · simp only [if_neg z, List.map_cons]
          rw [ix i (wf.side b n i q)]
  unfold RT
  rw [← hs false, ← hs true, ho]
  congr 1
  rw [List.map_map]
  refine map_congr' fun i hi => ?_
  have hr := o.all i hi
  show ndT R.nodes ord i = ndOf (ord.map (tm R.nodes)) (tm R.nodes i)
  have ei := getD_at (d := .non) hr.1
  rw [tm_eq wf.wf ei]
  unfold ndT
  cases q : R.nodes.getD i .non with
  | opn => rfl
  | non => rfl
  | op f xs =>
    simp only [ndOf, List.map_map]
    congr 1
    exact map_congr' fun x hx => ix x (wf_lt wf.wf hr.1 q x hx)
end

/-! ### canonical shapes -/
/-- a node's place, or nothing -/
abbrev Ix := Option Nat
def ndO (ns : List (Nd F)) : Ix → Nd F
  | none => .non
  | some i => ns.getD i .non
def tmO (ns : List (Nd F)) : Ix → Tm F Nat
  | none => .nil
  | some i => tm ns i
/-- as operand_pairs names an operand -/
def nrm (ns : List (Nd F)) (i : Nat) : Ix := match ns.getD i .non with
  | .non => none
  | _ => some i
/-- a normal place: nothing, or a node that is something -/
def NmI (ns : List (Nd F)) (h : Ix) : Prop := ∀ i, h = some i → i < ns.length ∧ tm ns i ≠ .nil
structure Can [DecidableEq N] (S : Rw F N) : Prop where
  wf : WfN S.nodes
  inj : (terms S.nodes).Nodup
  side : ∀ b n i, (S.side b).lookup n = some i → i < S.nodes.length ∧ tm S.nodes i ≠ .nil
section
variable {ns : List (Nd F)}
theorem ndO_nil (wf : WfN ns) {h : Ix} (hn : NmI ns h) : (match ndO ns h with | .non => True | _ => False) ↔ h = none := by
  cases h with
  | none => simp [ndO]
  | some i =>
    obtain ⟨hl, hx⟩ := hn i rfl
    have ei := getD_at (d := .non) hl
    rw [tm_eq wf ei] at hx
    simp only [ndO]
    cases q : ns.getD i .non with
    | opn => simp
    | non => rw [q] at hx; exact absurd rfl hx
    | op f xs => simp
theorem tmO_inj (nd : (terms ns).Nodup) {h k : Ix} (hh : NmI ns h) (hk : NmI ns k) (e : tmO ns h = tmO ns k) : h = k := by
  cases h with
  | none =>
    cases k with
    | none => rfl
    | some j => exact absurd e.symm (hk j rfl).2
  | some i =>
    cases k with
    | none => exact absurd e (hh i rfl).2
    | some j =>
      have hi := hh i rfl
      have hj := hk j rfl
      have e1 := idxOf_at nd (tm_at hi.1)
      have e2 := idxOf_at nd (tm_at hj.1)
      have e' : tm ns i = tm ns j := e
      rw [e', e2] at e1
      rw [e1]
theorem nrm_ok {i : Nat} (wf : WfN ns) (h : i < ns.length) : NmI ns (nrm ns i) ∧ tmO ns (nrm ns i) = tm ns i := by
  have ei := getD_at (d := .non) h
  have et := tm_eq wf ei
  unfold nrm
  cases q : ns.getD i .non with
  | non =>
    rw [q] at et
    exact ⟨fun j hj => (by cases hj), et.symm⟩
  | opn =>
    rw [q] at et
    refine ⟨fun j hj => ?_, rfl⟩
    cases hj
    exact ⟨h, by rw [et]; exact fun z => nomatch z⟩
  | op f xs =>
    rw [q] at et
    refine ⟨fun j hj => ?_, rfl⟩
    cases hj
    exact ⟨h, by rw [et]; exact fun z => nomatch z⟩
theorem tmO_view (wf : WfN ns) {h : Ix} (hn : NmI ns h) : tmO ns h = (match ndO ns h with | .opn => .hole (h.getD 0) | .non => .nil | .op f xs => .app f (xs.map (tm ns))) := by
  cases h with
  | none => rfl
  | some i =>
    have ei := getD_at (d := .non) (hn i rfl).1
    simp only [tmO, ndO, Option.getD_some]
    rw [tm_eq wf ei]
    all_goals (cases ns.getD i .non <;> rfl)
theorem ndO_kids (wf : WfN ns) {h : Ix} (hn : NmI ns h) {f : F} {xs : List Nat} (e : ndO ns h = .op f xs) : ∀ x ∈ xs, x < ns.length := by
  cases h with
  | none => cases e
  | some i => exact wf_lt wf (hn i rfl).1 e
end
/-- the canonical rows are canonical -/
theorem terms_RT (vs : List N) (X : Va F L N) : terms (RT vs X).nodes = (ordT vs X).map (Tm.subst (toIx (ordT vs X))) := by
  have hc := ordT_closed vs X
  have hn := ordT_nodup vs X
  refine List.ext_getElem? fun i => ?_
  by_cases h : i < (ordT vs X).length
  · have hl : i < (RT vs X).nodes.length := by unfold RT; rw [List.length_map]; exact h
    rw [tm_at hl, List.getElem?_map, List.getElem?_eq_getElem h]
    show some (tm ((ordT vs X).map (ndOf (ordT vs X))) i) = _
    rw [tm_ord hc hn _ i (List.getElem?_eq_getElem h)]; rfl
  · rw [List.getElem?_eq_none_iff.mpr (by rw [terms_len]; unfold RT; rw [List.length_map]; omega), List.getElem?_eq_none_iff.mpr (by rw [List.length_map]; omega)]
theorem back_ix {ord : List (Tm F L)} (hc : Closed ord) {t : Tm F L} (h : t ∈ ord) : (t.subst (toIx ord)).subst (fun i => ord.getD i .nil) = t := by
  rw [Tm.subst_comp]
  conv => rhs; rw [← Tm.subst_id t]
  refine Tm.subst_ext fun l hl => ?_
  have := at_idxOf (In.closed hc h hl)
  simp [toIx, List.getD_eq_getElem?_getD, this]
theorem nodup_map_inj {α β : Type} {g : α → β} : ∀ {l : List α}, l.Nodup → (∀ a ∈ l, ∀ b ∈ l, g a = g b → a = b) → (l.map g).Nodup
  | [], _, _ => List.nodup_nil
  | a :: l, h, hi => by
    rw [List.map_cons]
    have h' := List.nodup_cons.mp h
    refine List.nodup_cons.mpr ⟨fun z => ?_, nodup_map_inj h'.2 fun x hx y hy => hi x (List.mem_cons_of_mem _ hx) y (List.mem_cons_of_mem _ hy)⟩
    obtain ⟨b, hb, e⟩ := List.mem_map.mp z
    have := hi b (List.mem_cons_of_mem _ hb) a List.mem_cons_self e
    subst this; exact h'.1 hb
theorem mem_of_lookup [DecidableEq N] {α : Type} {n : N} {a : α} : ∀ {l : List (N × α)}, l.lookup n = some a → (n, a) ∈ l
  | (k, b) :: l, h => by
    rw [List.lookup_cons] at h
    by_cases q : n = k
    · subst q
      simp only [beq_self_eq_true] at h
      cases h; exact List.mem_cons_self
    · rw [beq_eq_false_iff_ne.mpr q] at h
      exact List.mem_cons_of_mem _ (mem_of_lookup h)
theorem RT_can [DecidableEq N] (vs : List N) (X : Va F L N) : Can (RT vs X) := by
  have hc := ordT_closed vs X
  have hn := ordT_nodup vs X
  refine ⟨wf_ord hc hn, ?_, fun b n i h => ?_⟩
  · rw [terms_RT]
    refine nodup_map_inj hn fun a ha b hb e => ?_
    rw [← back_ix hc ha, ← back_ix hc hb, e]
  · rw [RT_side] at h
    have hm := mem_of_lookup h
    unfold sideOf at hm
    obtain ⟨k, hk, e⟩ := List.mem_filterMap.mp hm
    split at e
    · cases e
    · rename_i q
      cases e
      have hin := ordT_mem hk q
      have hi := List.idxOf_lt_length_of_mem hin
      refine ⟨by unfold RT; rw [List.length_map]; exact hi, ?_⟩
      show tm ((ordT vs X).map (ndOf (ordT vs X))) _ ≠ .nil
      rw [tm_ord hc hn _ _ (at_idxOf hin)]
      intro z
      have := back_ix hc hin
      rw [z] at this
      exact q (by simpa using this.symm)

/-! ### met_rows -/
section
variable [DecidableEq F]
def opp (n1 n2 : List (Nd F)) (p : Ix × Ix) : Option (List (Ix × Ix)) := match ndO n1 p.1, ndO n2 p.2 with
  | .op f xs, .op g ys => if f = g ∧ xs.length = ys.length then some (List.zipWith (fun x y => (nrm n1 x, nrm n2 y)) xs ys) else none
  | _, _ => none
def innM (n1 n2 : List (Nd F)) (p : Ix × Ix) : List (Ix × Ix) := (opp n1 n2 p).getD []
def RepM (n1 n2 : List (Nd F)) (p : Ix × Ix) : Prop := NmI n1 p.1 ∧ NmI n2 p.2
noncomputable def gM (n1 n2 : List (Nd F)) (p : Ix × Ix) : Tm F (Tm F Nat × Tm F Nat) := cmn (tmO n1 p.1) (tmO n2 p.2)
variable {n1 n2 : List (Nd F)}
theorem cmns_zip (w1 : WfN n1) (w2 : WfN n2) : ∀ (xs ys : List Nat), (∀ x ∈ xs, x < n1.length) → (∀ y ∈ ys, y < n2.length) →
    cmns (xs.map (tm n1)) (ys.map (tm n2)) = (List.zipWith (fun x y => (nrm n1 x, nrm n2 y)) xs ys).map (gM n1 n2)
  | [], ys, _, _ => by cases ys <;> simp [cmns]
  | x :: xs, [], _, _ => by simp [cmns]
  | x :: xs, y :: ys, hx, hy => by
    simp only [List.map_cons, cmns, List.zipWith_cons_cons]
    rw [cmns_zip w1 w2 xs ys (fun z hz => hx z (List.mem_cons_of_mem _ hz)) fun z hz => hy z (List.mem_cons_of_mem _ hz)]
    congr 1
    unfold gM
    rw [(nrm_ok w1 (hx x List.mem_cons_self)).2, (nrm_ok w2 (hy y List.mem_cons_self)).2]
theorem mem_zipWith {α β γ : Type} {f : α → β → γ} {z : γ} : ∀ {xs : List α} {ys : List β}, z ∈ List.zipWith f xs ys → ∃ x ∈ xs, ∃ y ∈ ys, z = f x y
  | [], _, h => by simp at h
  | _ :: _, [], h => by simp at h
  | x :: xs, y :: ys, h => by
    rw [List.zipWith_cons_cons] at h
    rcases List.mem_cons.mp h with rfl | h
    · exact ⟨x, List.mem_cons_self, y, List.mem_cons_self, rfl⟩
    · obtain ⟨a, ha, b, hb, e⟩ := mem_zipWith h
      exact ⟨a, List.mem_cons_of_mem _ ha, b, List.mem_cons_of_mem _ hb, e⟩
/-- what operand_pairs tells of the two terms -/
theorem opp_view (w1 : WfN n1) (w2 : WfN n2) {p : Ix × Ix} (hp : RepM n1 n2 p) : match opp n1 n2 p with
    | some inner => (∃ f xs ys, ndO n1 p.1 = .op f xs ∧ ndO n2 p.2 = .op f ys ∧ xs.length = ys.length ∧ inner = List.zipWith (fun x y => (nrm n1 x, nrm n2 y)) xs ys) ∧ (∀ q ∈ inner, RepM n1 n2 q) ∧ ∃ f, gM n1 n2 p = .app f (inner.map (gM n1 n2))
    | none => (gM n1 n2 p = .nil ∧ p = (none, none)) ∨ (gM n1 n2 p = .hole (tmO n1 p.1, tmO n2 p.2) ∧ p ≠ (none, none)) := by
  obtain ⟨h, t⟩ := p
  obtain ⟨hh, ht⟩ := hp
  have v1 := tmO_view w1 hh
  have v2 := tmO_view w2 ht
  have z1 := ndO_nil w1 hh
  have z2 := ndO_nil w2 ht
  have e1 : ∀ {f xs}, ndO n1 h = .op f xs → ∀ x ∈ xs, x < n1.length := fun e => ndO_kids w1 hh e
  have e2 : ∀ {f xs}, ndO n2 t = .op f xs → ∀ x ∈ xs, x < n2.length := fun e => ndO_kids w2 ht e
  unfold opp gM
  simp only at hh ht v1 v2 z1 z2 ⊢
  cases q1 : ndO n1 h with
  | opn =>
    rw [q1] at v1 z1
    simp only at v1 z1 ⊢
    rw [v1]
    refine .inr ⟨by cases tmO n2 t <;> simp [cmn], fun e => ?_⟩
    cases e
    exact z1.mpr rfl
  | non =>
    rw [q1] at v1 z1
    simp only [true_iff] at v1 z1 ⊢
    subst z1
    rw [v1]
    cases q2 : ndO n2 t with
    | non =>
      rw [q2] at v2 z2
      simp only [true_iff] at v2 z2
      subst z2
      rw [v2]
      exact .inl ⟨by simp [cmn], rfl⟩
    | opn =>
      rw [q2] at v2 z2
      simp only at v2 z2
      rw [v2]
      refine .inr ⟨by simp [cmn], fun e => ?_⟩
      cases e
      exact z2.mpr rfl
    | op g ys =>
      rw [q2] at v2 z2
      simp only at v2 z2
      rw [v2]
      refine .inr ⟨by simp [cmn], fun e => ?_⟩
      cases e
      exact z2.mpr rfl
  | op f xs =>
    rw [q1] at v1 z1
    simp only at v1 z1 ⊢
    have hne : ∀ u, (h, u) ≠ ((none, none) : Ix × Ix) := fun u e => by
      cases e
      exact z1.mpr rfl
    rw [v1]
    cases q2 : ndO n2 t with
    | opn =>
      rw [q2] at v2
      simp only at v2
      rw [v2]
      exact .inr ⟨by simp [cmn], hne _⟩
    | non =>
      rw [q2] at v2
      simp only at v2
      rw [v2]
      exact .inr ⟨by simp [cmn], hne _⟩
    | op g ys =>
      rw [q2] at v2
      simp only at v2
      rw [v2]
      simp only
      by_cases c : f = g ∧ xs.length = ys.length
      · rw [if_pos c]
        obtain ⟨rfl, cl⟩ := c
        refine ⟨⟨f, xs, ys, rfl, rfl, cl, rfl⟩, fun q hq => ?_, f, ?_⟩
        · obtain ⟨x, hx, y, hy, rfl⟩ := mem_zipWith hq
          exact ⟨(nrm_ok w1 (e1 q1 x hx)).1, (nrm_ok w2 (e2 q2 y hy)).1⟩
        · simp only [cmn, List.length_map]
          rw [if_pos (by simp [cl]), cmns_zip w1 w2 xs ys (e1 q1) (e2 q2)]
          rfl
      · rw [if_neg c]
        refine .inr ⟨?_, hne _⟩
        simp only [cmn, List.length_map]
        rw [if_neg c]
theorem cmn_inj {a a' : Tm F L} {b b' : Tm F M} (h : cmn a b = cmn a' b') : a = a' ∧ b = b' :=
  ⟨by rw [← cmn_fst a b, ← cmn_fst a' b', h], by rw [← cmn_snd a b, ← cmn_snd a' b', h]⟩
theorem repM (w1 : WfN n1) (w2 : WfN n2) (d1 : (terms n1).Nodup) (d2 : (terms n2).Nodup) : Rep (RepM n1 n2) (innM n1 n2) (gM n1 n2) := by
  refine ⟨fun p hp u hu => ?_, fun p q hp hq e => ?_, fun p hp => ?_⟩
  · have v := opp_view w1 w2 hp
    unfold innM at hu
    cases e : opp n1 n2 p with
    | none => rw [e] at hu; cases hu
    | some inner => rw [e] at hu v; exact v.2.1 u hu
  · obtain ⟨h1, h2⟩ := cmn_inj e
    exact Prod.ext (tmO_inj d1 hp.1 hq.1 h1) (tmO_inj d2 hp.2 hq.2 h2)
  · have v := opp_view w1 w2 hp
    unfold innM
    cases e : opp n1 n2 p with
    | none =>
      rw [e] at v
      rcases v with ⟨v, _⟩ | ⟨v, _⟩ <;> rw [v] <;> rfl
    | some inner =>
      rw [e] at v
      obtain ⟨_, _, f, v⟩ := v
      rw [v]; rfl
/-- the node that met_node makes, the pairs known in the order ord -/
def pos {α : Type} [DecidableEq α] (l : List α) (a : α) : Nat := l.idxOf a
noncomputable def ndM (n1 n2 : List (Nd F)) (ord : List (Ix × Ix)) (p : Ix × Ix) : Nd F := match ndO n1 p.1, ndO n2 p.2 with
  | .non, .non => .non
  | .op f _, _ => match opp n1 n2 p with
    | some inner => .op f (inner.map fun q => pos ord q)
    | none => .opn
  | _, _ => .opn
theorem ndM_eq (w1 : WfN n1) (w2 : WfN n2) (d1 : (terms n1).Nodup) (d2 : (terms n2).Nodup) {ord : List (Ix × Ix)} (ho : ∀ q ∈ ord, RepM n1 n2 q) {p : Ix × Ix} (hp : RepM n1 n2 p) :
    ndM n1 n2 ord p = ndOf (ord.map (gM n1 n2)) (gM n1 n2 p) := by
  have rp := repM w1 w2 d1 d2
  have v := opp_view w1 w2 hp
  have z1 := ndO_nil w1 hp.1
  have z2 := ndO_nil w2 hp.2
  unfold ndM
  cases e : opp n1 n2 p with
  | some inner =>
    rw [e] at v
    obtain ⟨⟨f, xs, ys, q1, q2, _, _⟩, hall, f', hg⟩ := v
    have : f' = f := by
      have t1 := tmO_view w1 hp.1
      have t2 := tmO_view w2 hp.2
      rw [q1] at t1; rw [q2] at t2
      simp only at t1 t2
      unfold gM at hg
      rw [t1, t2] at hg
      simp only [cmn] at hg
      split at hg
      · injection hg with h _; exact h.symm
      · cases hg
    subst this
    rw [q1, q2, hg]
    simp only [ndOf, List.map_map]
    congr 1
    exact map_congr' fun u hu => (idxOf_map rp.inj (P := RepM n1 n2) (hall u hu) ho).symm
  | none =>
    rw [e] at v
    rcases v with ⟨hg, rfl⟩ | ⟨hg, hne⟩
    · rw [hg]; rfl
    · rw [hg]
      simp only [ndOf]
      cases q1 : ndO n1 p.1 with
      | opn => cases ndO n2 p.2 <;> rfl
      | op f xs => cases ndO n2 p.2 <;> rfl
      | non =>
        cases q2 : ndO n2 p.2 with
        | opn => rfl
        | op f xs => rfl
        | non =>
          exfalso
          rw [q1] at z1; rw [q2] at z2
          exact hne (Prod.ext (z1.mp trivial) (z2.mp trivial))
end
section
variable [DecidableEq F] [DecidableEq N]
/-- joined_sides -/
def joined (vs : List N) (s1 s2 : List (N × Nat)) : List (N × (Ix × Ix)) := vs.filterMap fun n => if s1.lookup n = none ∧ s2.lookup n = none then none else some (n, (s1.lookup n, s2.lookup n))
theorem Can.val_nil {S : Rw F N} (c : Can S) (b : Bool) (n : N) : NmI S.nodes ((S.side b).lookup n) ∧ tmO S.nodes ((S.side b).lookup n) = val S b n := by
  refine ⟨fun i hi => c.side b n i hi, ?_⟩
  unfold val tmO
  cases (S.side b).lookup n <;> rfl
theorem joined_rep {S1 S2 : Rw F N} (c1 : Can S1) (c2 : Can S2) {vs : List N} {b : Bool} : ∀ r ∈ joined vs (S1.side b) (S2.side b), RepM S1.nodes S2.nodes r.2 := by
  intro r hr
  unfold joined at hr
  obtain ⟨n, hn, e⟩ := List.mem_filterMap.mp hr
  split at e
  · cases e
  · cases e
    exact ⟨(c1.val_nil b n).1, (c2.val_nil b n).1⟩
theorem joined_nil {S1 S2 : Rw F N} (c1 : Can S1) (c2 : Can S2) (b : Bool) (n : N) : ((S1.side b).lookup n = none ∧ (S2.side b).lookup n = none) ↔ meet (val S1) (val S2) b n = .nil := by
  have a := c1.val_nil b n
  have d := c2.val_nil b n
  have hp : RepM S1.nodes S2.nodes ((S1.side b).lookup n, (S2.side b).lookup n) := ⟨a.1, d.1⟩
  have hg : meet (val S1) (val S2) b n = gM S1.nodes S2.nodes ((S1.side b).lookup n, (S2.side b).lookup n) := by
    unfold meet gM; rw [← a.2, ← d.2]
  rw [hg]
  have v := opp_view c1.wf c2.wf hp
  constructor
  · rintro ⟨h1, h2⟩
    rw [h1, h2]; simp [gM, tmO, cmn]
  · intro h
    cases e : opp S1.nodes S2.nodes ((S1.side b).lookup n, (S2.side b).lookup n) with
    | none =>
      rw [e] at v
      rcases v with ⟨_, v⟩ | ⟨v, _⟩
      · exact ⟨congrArg Prod.fst v, congrArg Prod.snd v⟩
      · rw [v] at h; cases h
    | some inner =>
      rw [e] at v
      obtain ⟨_, _, f, v⟩ := v
      rw [v] at h; cases h
theorem joined_roots {S1 S2 : Rw F N} (c1 : Can S1) (c2 : Can S2) (vs : List N) :
    ((joined vs (S1.side false) (S2.side false) ++ joined vs (S1.side true) (S2.side true)).map (·.2)).map (gM S1.nodes S2.nodes) = roots vs (meet (val S1) (val S2)) := by
  have one : ∀ b (l : List N), ((joined l (S1.side b) (S2.side b)).map (·.2)).map (gM S1.nodes S2.nodes) = (l.map (meet (val S1) (val S2) b)).filter fun t => decide (t ≠ .nil) := by
    intro b l
    induction l with
    | nil => rfl
    | cons n r ih =>
      unfold joined at ih ⊢
      rw [List.filterMap_cons, List.map_cons, List.filter_cons, ← ih]
      have j := joined_nil c1 c2 b n
      by_cases q : (S1.side b).lookup n = none ∧ (S2.side b).lookup n = none
      · have := j.mp q
        simp [if_pos q, this]
      · have hne : ¬ meet (val S1) (val S2) b n = .nil := fun z => q (j.mpr z)
        have hg : gM S1.nodes S2.nodes ((S1.side b).lookup n, (S2.side b).lookup n) = meet (val S1) (val S2) b n := by
          unfold meet gM; rw [← (c1.val_nil b n).2, ← (c2.val_nil b n).2]
        simp only [if_neg q, List.map_cons, hg]
        simp [hne]
  unfold roots
  rw [List.map_append, List.map_append, List.filter_append, one false vs, one true vs]
/-- met_rows makes the canonical rows of the greatest lower bound -/
theorem met_eq {S1 S2 : Rw F N} (c1 : Can S1) (c2 : Can S2) {vs : List N} {ord : List (Ix × Ix)} (o : OrdOk (RepM S1.nodes S2.nodes) (gM S1.nodes S2.nodes) ord (roots vs (meet (val S1) (val S2)))) :
    (⟨ord.map (ndM S1.nodes S2.nodes ord), (joined vs (S1.side false) (S2.side false)).map (fun r => (r.1, pos ord r.2)), (joined vs (S1.side true) (S2.side true)).map (fun r => (r.1, pos ord r.2))⟩ : Rw F N) = RT vs (meet (val S1) (val S2)) := by
  have rp := repM c1.wf c2.wf c1.inj c2.inj
  have ho : ordT vs (meet (val S1) (val S2)) = ord.map (gM S1.nodes S2.nodes) := o.eq.symm
  have hs : ∀ b, (joined vs (S1.side b) (S2.side b)).map (fun r => (r.1, pos ord r.2)) = sideOf (ordT vs (meet (val S1) (val S2))) vs (meet (val S1) (val S2) b) := by
    intro b
    unfold joined sideOf
    rw [ho]
    generalize vs = l
    induction l with
    | nil => rfl
    | cons n r ih =>
      rw [List.filterMap_cons, List.filterMap_cons, ← ih]
      have j := joined_nil c1 c2 b n
      by_cases q : (S1.side b).lookup n = none ∧ (S2.side b).lookup n = none
      · simp only [if_pos q, if_pos (j.mp q)]
      · have hne : ¬ meet (val S1) (val S2) b n = .nil := fun z => q (j.mpr z)
        have hg : meet (val S1) (val S2) b n = gM S1.nodes S2.nodes ((S1.side b).lookup n, (S2.side b).lookup n) := by
          unfold meet gM; rw [← (c1.val_nil b n).2, ← (c2.val_nil b n).2]
        simp only [if_neg q, if_neg hne, List.map_cons]
        rw [hg]
        congr 2
        exact (idxOf_map rp.inj (P := RepM S1.nodes S2.nodes) (t := ((S1.side b).lookup n, (S2.side b).lookup n)) ⟨(c1.val_nil b n).1, (c2.val_nil b n).1⟩ o.all).symm
  unfold RT
  rw [← hs false, ← hs true, ho]
  congr 1
  rw [List.map_map]
  exact map_congr' fun p hp => ndM_eq c1.wf c2.wf c1.inj c2.inj o.all (o.all p hp)
end

/-! ### does_follow -/
section
variable [DecidableEq F]
/-- a place, nothing where the node is nothing -/
def nm0 (ns : List (Nd F)) (t : Ix) : Ix := match ndO ns t with
  | .non => none
  | _ => t
def isNon : Nd F → Bool
  | .non => true
  | _ => false
def isOp : Nd F → Bool
  | .op _ _ => true
  | _ => false
/-- the loop: the top of the stack first; the leads in their order; some none: False -/
def runF (n1 n2 : List (Nd F)) : Nat → List (Ix × Ix) → List (Ix × Ix) → Option (Option (List (Ix × Ix)))
  | _, [], ls => some (some ls)
  | 0, _ :: _, _ => none
  | m + 1, (h, t) :: st, ls =>
    if isNon (ndO n1 h) then (if isNon (ndO n2 t) then runF n1 n2 m st ls else some none)
    else match ls.lookup h with
      | some u => if u = nm0 n2 t then runF n1 n2 m st ls else some none
      | none => if isOp (ndO n1 h) then (match opp n1 n2 (h, t) with
          | some inner => runF n1 n2 m (inner.reverse ++ st) (ls ++ [(h, nm0 n2 t)])
          | none => some none)
        else runF n1 n2 m st (ls ++ [(h, nm0 n2 t)])

variable {n1 n2 : List (Nd F)}
theorem isNon_iff {ns : List (Nd F)} (wf : WfN ns) {h : Ix} (hn : NmI ns h) : isNon (ndO ns h) = true ↔ h = none := by
  have z := ndO_nil wf hn
  cases q : ndO ns h with
  | opn => rw [q] at z; simp [isNon] at z ⊢; exact z
  | non => rw [q] at z; simp [isNon] at z ⊢; exact z
  | op f xs => rw [q] at z; simp [isNon] at z ⊢; exact z
theorem nm0_eq {ns : List (Nd F)} (wf : WfN ns) {h : Ix} (hn : NmI ns h) : nm0 ns h = h := by
  have z := ndO_nil wf hn
  unfold nm0
  cases q : ndO ns h with
  | opn => rfl
  | non => rw [q] at z; simp at z; exact z.symm
  | op f xs => rfl
theorem lookup_snoc {κ β : Type} [BEq κ] [LawfulBEq κ] [DecidableEq κ] {l : List (κ × β)} {k x : κ} {v : β} : (l ++ [(k, v)]).lookup x = match l.lookup x with | some u => some u | none => if x = k then some v else none := by
  induction l with
  | nil =>
    simp only [List.nil_append, List.lookup_cons, List.lookup_nil]
    by_cases q : x = k
    · subst q; simp
    · simp [beq_eq_false_iff_ne.mpr q, q]
  | cons a l ih =>
    obtain ⟨a, b⟩ := a
    simp only [List.cons_append, List.lookup_cons]
    by_cases q : x = a
    · subst q; simp
    · simp [beq_eq_false_iff_ne.mpr q, ih]
/-- a pair is met by the leads -/
def MetBy (Lf : List (Ix × Ix)) (p : Ix × Ix) : Prop := p = (none, none) ∨ (p.1 ≠ none ∧ Lf.lookup p.1 = some p.2)
/-- what True says -/
theorem runF_true (w1 : WfN n1) (w2 : WfN n2) : ∀ (m : Nat) (st ls Lf : List (Ix × Ix)), runF n1 n2 m st ls = some (some Lf) → (∀ p ∈ st, RepM n1 n2 p) →
    (∀ h u, ls.lookup h = some u → Lf.lookup h = some u) ∧ (∀ p ∈ st, MetBy Lf p) ∧
      ∀ h u, Lf.lookup h = some u → ls.lookup h = some u ∨ (RepM n1 n2 (h, u) ∧ (isOp (ndO n1 h) = true → ∃ inner, opp n1 n2 (h, u) = some inner ∧ ∀ q ∈ inner, MetBy Lf q))
  | m, [], ls, Lf, h, _ => by
    have e : ls = Lf := by cases m <;> simpa [runF] using h
    subst e
    exact ⟨fun _ _ h => h, fun p hp => (nomatch hp), fun h u e => .inl e⟩
  | 0, _ :: _, ls, Lf, h, _ => by simp [runF] at h
  | m + 1, (h, t) :: st, ls, Lf, e, hr => by
    have hp := hr _ List.mem_cons_self
    have hst : ∀ p ∈ st, RepM n1 n2 p := fun p hp => hr p (List.mem_cons_of_mem _ hp)
    have z1 := isNon_iff w1 hp.1
    have z2 := isNon_iff w2 hp.2
    have z3 := nm0_eq w2 hp.2
    simp only at z1 z2 z3
    rw [runF] at e
    simp only [z3] at e
    split at e
    · rename_i c1
      split at e
      · rename_i c2
        obtain ⟨a, b, c⟩ := runF_true w1 w2 m st ls Lf e hst
        refine ⟨a, fun p hp => ?_, c⟩
        rcases List.mem_cons.mp hp with rfl | hp
        · exact .inl (by rw [z1.mp c1, z2.mp c2])
        · exact b p hp
      · cases e
    · rename_i c1
      have hne : h ≠ none := fun z => c1 (z1.mpr z)
      split at e
      · rename_i u q
        split at e
        · rename_i c2
          obtain ⟨a, b, c⟩ := runF_true w1 w2 m st ls Lf e hst
          refine ⟨a, fun p hp => ?_, c⟩
          rcases List.mem_cons.mp hp with rfl | hp
          · exact .inr ⟨hne, by rw [← c2]; exact a _ _ q⟩
          · exact b p hp
        · cases e
      · rename_i q
        have new : (ls ++ [(h, t)]).lookup h = some t := by rw [lookup_snoc, q]; simp
        have old : ∀ k u, ls.lookup k = some u → (ls ++ [(h, t)]).lookup k = some u := fun k u z => by rw [lookup_snoc, z]
        split at e
        · rename_i c2
          have v := opp_view w1 w2 hp
          split at e
          · rename_i inner c3
            rw [c3] at v
            obtain ⟨a, b, c⟩ := runF_true w1 w2 m (inner.reverse ++ st) (ls ++ [(h, t)]) Lf e (fun p hp => by
              rcases List.mem_append.mp hp with hp | hp
              · exact v.2.1 p (List.mem_reverse.mp hp)
              · exact hst p hp)
            refine ⟨fun k u z => a k u (old k u z), fun p hp => ?_, fun k u z => ?_⟩
            · rcases List.mem_cons.mp hp with rfl | hp
              · exact .inr ⟨hne, a _ _ new⟩
              · exact b p (List.mem_append_right _ hp)
            · rcases c k u z with q' | q'
              · rw [lookup_snoc] at q'
                cases q2 : ls.lookup k with
                | some w => rw [q2] at q'; exact .inl (by simpa using q')
                | none =>
                  rw [q2] at q'
                  by_cases q3 : k = h
                  · subst q3
                    have : u = t := by simpa using q'.symm
                    subst this
                    exact .inr ⟨hp, fun _ => ⟨inner, c3, fun q hq => b q (List.mem_append_left _ (List.mem_reverse.mpr hq))⟩⟩
                  · simp [q3] at q'
              · exact .inr q'
          · cases e
        · rename_i c2
          obtain ⟨a, b, c⟩ := runF_true w1 w2 m st (ls ++ [(h, t)]) Lf e hst
          refine ⟨fun k u z => a k u (old k u z), fun p hp => ?_, fun k u z => ?_⟩
          · rcases List.mem_cons.mp hp with rfl | hp
            · exact .inr ⟨hne, a _ _ new⟩
            · exact b p hp
          · rcases c k u z with q' | q'
            · rw [lookup_snoc] at q'
              cases q2 : ls.lookup k with
              | some w => rw [q2] at q'; exact .inl (by simpa using q')
              | none =>
                rw [q2] at q'
                by_cases q3 : k = h
                · subst q3
                  have : u = t := by simpa using q'.symm
                  subst this
                  exact .inr ⟨hp, fun z => absurd z c2⟩
                · simp [q3] at q'
            · exact .inr q'
/-- a substitution agrees with a pair -/
def Agr (n1 n2 : List (Nd F)) (σ : Nat → Tm F Nat) (p : Ix × Ix) : Prop := (tmO n1 p.1).subst σ = tmO n2 p.2
theorem agr_opp (w1 : WfN n1) (w2 : WfN n2) {p : Ix × Ix} (hp : RepM n1 n2 p) (ho : isOp (ndO n1 p.1) = true) (σ : Nat → Tm F Nat) : Agr n1 n2 σ p ↔ ∃ inner, opp n1 n2 p = some inner ∧ ∀ q ∈ inner, Agr n1 n2 σ q := by
  obtain ⟨h, t⟩ := p
  have v1 := tmO_view w1 hp.1
  have v2 := tmO_view w2 hp.2
  have k1 : ∀ {f xs}, ndO n1 h = .op f xs → ∀ x ∈ xs, x < n1.length := fun e => ndO_kids w1 hp.1 e
  have k2 : ∀ {f xs}, ndO n2 t = .op f xs → ∀ x ∈ xs, x < n2.length := fun e => ndO_kids w2 hp.2 e
  unfold Agr opp
  simp only at v1 v2 ho ⊢
  cases q1 : ndO n1 h with
  | opn => rw [q1] at ho; cases ho
  | non => rw [q1] at ho; cases ho
  | op f xs =>
    rw [q1] at v1
    simp only at v1
    rw [v1, Tm.subst_app]
    cases q2 : ndO n2 t with
    | opn => rw [q2] at v2; simp only at v2; rw [v2]; simp
    | non => rw [q2] at v2; simp only at v2; rw [v2]; simp
    | op g ys =>
      rw [q2] at v2; simp only at v2; rw [v2]
      have each : ∀ (xs ys : List Nat), xs.length = ys.length → (∀ x ∈ xs, x < n1.length) → (∀ y ∈ ys, y < n2.length) →
          ((xs.map (tm n1)).map (Tm.subst σ) = ys.map (tm n2) ↔ ∀ q ∈ List.zipWith (fun x y => (nrm n1 x, nrm n2 y)) xs ys, (tmO n1 q.1).subst σ = tmO n2 q.2) := by
        intro xs
        induction xs with
        | nil => intro ys hl _ _; cases ys <;> simp_all
        | cons x xs ih =>
          intro ys hl hx hy
          cases ys with
          | nil => simp at hl
          | cons y ys =>
            have i := ih ys (by simpa using hl) (fun z hz => hx z (List.mem_cons_of_mem _ hz)) fun z hz => hy z (List.mem_cons_of_mem _ hz)
            simp only [List.map_cons, List.zipWith_cons_cons, List.cons.injEq, List.mem_cons, forall_eq_or_imp]
            rw [(nrm_ok w1 (hx x List.mem_cons_self)).2, (nrm_ok w2 (hy y List.mem_cons_self)).2, i]
      by_cases c : f = g ∧ xs.length = ys.length
      · simp only [if_pos c]
        obtain ⟨rfl, cl⟩ := c
        rw [Tm.app.injEq]
        simp only [true_and, Option.some.injEq, exists_eq_left']
        exact each xs ys cl (k1 q1) (k2 q2)
      · simp only [if_neg c]
        constructor
        · intro e
          injection e with e1 e2
          have := congrArg List.length e2
          simp at this
          exact absurd ⟨e1, this⟩ c
        · rintro ⟨_, h, _⟩; cases h
/-- what False says -/
theorem runF_false (w1 : WfN n1) (w2 : WfN n2) (d2 : (terms n2).Nodup) (σ : Nat → Tm F Nat) : ∀ (m : Nat) (st ls : List (Ix × Ix)), runF n1 n2 m st ls = some none → (∀ p ∈ st, RepM n1 n2 p ∧ Agr n1 n2 σ p) →
    (∀ h u, ls.lookup h = some u → RepM n1 n2 (h, u) ∧ Agr n1 n2 σ (h, u)) → False
  | m, [], ls, h, _, _ => by cases m <;> simp [runF] at h
  | 0, _ :: _, ls, h, _, _ => by simp [runF] at h
  | m + 1, (h, t) :: st, ls, e, hr, hl => by
    obtain ⟨hp, ha⟩ := hr _ List.mem_cons_self
    have hst : ∀ p ∈ st, RepM n1 n2 p ∧ Agr n1 n2 σ p := fun p hp => hr p (List.mem_cons_of_mem _ hp)
    have z1 := isNon_iff w1 hp.1
    have z2 := isNon_iff w2 hp.2
    have z3 := nm0_eq w2 hp.2
    simp only at z1 z2 z3
    have new : ls.lookup h = none → ∀ k u, (ls ++ [(h, t)]).lookup k = some u → RepM n1 n2 (k, u) ∧ Agr n1 n2 σ (k, u) := by
      intro q k u z
      rw [lookup_snoc] at z
      cases q2 : ls.lookup k with
      | some w =>
        rw [q2] at z
        have : w = u := by simpa using z
        subst this
        exact hl k w q2
      | none =>
        rw [q2] at z
        by_cases q3 : k = h
        · subst q3
          have : u = t := by simpa using z.symm
          subst this
          exact ⟨hp, ha⟩
        · simp [q3] at z
    rw [runF] at e
    simp only [z3] at e
    split at e
    · rename_i c1
      split at e
      · exact runF_false w1 w2 d2 σ m st ls e hst hl
      · rename_i c2
        have : h = none := z1.mp c1
        subst this
        unfold Agr at ha
        have : tmO n2 t = tmO n2 none := by simpa [tmO] using ha.symm
        have := tmO_inj d2 hp.2 (k := none) (fun i hi => (by cases hi)) this
        exact c2 (z2.mpr this)
    · rename_i c1
      split at e
      · rename_i u q
        split at e
        · exact runF_false w1 w2 d2 σ m st ls e hst hl
        · rename_i c2
          obtain ⟨hu, au⟩ := hl h u q
          unfold Agr at ha au
          exact c2 (tmO_inj d2 hu.2 hp.2 (au.symm.trans ha))
      · rename_i q
        split at e
        · rename_i c2
          obtain ⟨inner, ei, hi⟩ := (agr_opp w1 w2 hp c2 σ).mp ha
          have v := opp_view w1 w2 hp
          rw [ei] at e v
          refine runF_false w1 w2 d2 σ m _ _ e (fun p hp => ?_) (new q)
          rcases List.mem_append.mp hp with hp | hp
          · exact ⟨v.2.1 p (List.mem_reverse.mp hp), hi p (List.mem_reverse.mp hp)⟩
          · exact hst p hp
        · exact runF_false w1 w2 d2 σ m st _ e hst (new q)
theorem nodup_len {α : Type} [DecidableEq α] : ∀ {l r : List α}, l.Nodup → (∀ a ∈ l, a ∈ r) → l.length ≤ r.length
  | [], _, _, _ => Nat.zero_le _
  | a :: l, r, hd, hs => by
    have hd' := List.nodup_cons.mp hd
    have ha := hs a List.mem_cons_self
    have := nodup_len (l := l) (r := r.erase a) hd'.2 fun b hb => (List.mem_erase_of_ne (fun e => hd'.1 (by rw [← e]; exact hb))).mpr (hs b (List.mem_cons_of_mem _ hb))
    have e := List.length_erase_of_mem ha
    have := List.length_pos_of_mem ha
    simp only [List.length_cons]
    omega
/-- it ends -/
def AtMost (k : Nat) (ns : List (Nd F)) : Prop := ∀ (i : Nat) f xs, ns[i]? = some (.op f xs) → xs.length ≤ k
theorem runF_ends (w1 : WfN n1) (w2 : WfN n2) {k : Nat} (hk : AtMost k n1) : ∀ (μ : Nat) (st ls : List (Ix × Ix)), (k + 1) * (n1.length - ls.length) + st.length ≤ μ → (∀ p ∈ st, RepM n1 n2 p) →
    (ls.map (·.1)).Nodup → (∀ h ∈ ls.map (·.1), ∃ i, h = some i ∧ i < n1.length) → ∃ m r, runF n1 n2 m st ls = some r := by
  have small : ∀ (ls : List (Ix × Ix)), (ls.map (·.1)).Nodup → (∀ h ∈ ls.map (·.1), ∃ i, h = some i ∧ i < n1.length) → ls.length ≤ n1.length := by
    intro ls hd hb
    have := nodup_len (l := ls.map (·.1)) (r := (List.range n1.length).map some) hd fun h hh => by
      obtain ⟨i, rfl, hi⟩ := hb h hh
      exact List.mem_map.mpr ⟨i, List.mem_range.mpr hi, rfl⟩
    simpa using this
  intro μ
  induction μ with
  | zero =>
    intro st ls hm hr _ _
    have : st = [] := List.length_eq_zero_iff.mp (by omega)
    subst this
    exact ⟨0, some ls, rfl⟩
  | succ μ ih =>
    intro st ls hm hr hd hb
    cases st with
    | nil => exact ⟨0, some ls, rfl⟩
    | cons p st =>
      obtain ⟨h, t⟩ := p
      have hp := hr _ List.mem_cons_self
      have hst : ∀ p ∈ st, RepM n1 n2 p := fun p hp => hr p (List.mem_cons_of_mem _ hp)
      have z1 := isNon_iff w1 hp.1
      simp only at z1
      have hm' : (k + 1) * (n1.length - ls.length) + st.length ≤ μ := by simp only [List.length_cons] at hm; omega
      obtain ⟨m, r, hrun⟩ := ih st ls hm' hst hd hb
      by_cases c1 : isNon (ndO n1 h) = true
      · by_cases c2 : isNon (ndO n2 t) = true
        · exact ⟨m + 1, r, by rw [runF, if_pos c1, if_pos c2]; exact hrun⟩
        · exact ⟨1, none, by rw [runF, if_pos c1, if_neg c2]⟩
      · cases q : ls.lookup h with
        | some u =>
          by_cases c2 : u = nm0 n2 t
          · refine ⟨m + 1, r, ?_⟩
            rw [runF, if_neg c1, q]
            simp only [if_pos c2]
            exact hrun
          · refine ⟨1, none, ?_⟩
            rw [runF, if_neg c1, q]
            simp only [if_neg c2]
        | none =>
          have hne : h ≠ none := fun z => c1 (z1.mpr z)
          obtain ⟨i, rfl⟩ : ∃ i, h = some i := by
            cases h with
            | none => exact absurd rfl hne
            | some i => exact ⟨i, rfl⟩
          have hi := (hp.1 i rfl).1
          have hnot : some i ∉ ls.map (·.1) := by
            intro z
            obtain ⟨x, hx, e⟩ := List.mem_map.mp z
            have : ∀ (l : List (Ix × Ix)), x ∈ l → l.lookup (some i) ≠ none := by
              intro l
              induction l with
              | nil => intro h; cases h
              | cons y l ihl =>
                intro h
                obtain ⟨a, b⟩ := y
                rw [List.lookup_cons]
                by_cases w : some i = a
                · subst w; simp
                · rw [beq_eq_false_iff_ne.mpr w]
                  rcases List.mem_cons.mp h with rfl | h
                  · exact absurd e.symm w
                  · exact ihl h
            exact this ls hx q
          have hd' : ((ls ++ [(some i, nm0 n2 t)]).map (·.1)).Nodup := by
            rw [List.map_append]
            refine List.nodup_append.mpr ⟨hd, by simp, fun a ha b hb' => ?_⟩
            have : b = some i := by simpa using hb'
            subst this
            rintro rfl
            exact hnot ha
          have hb2 : ∀ h ∈ (ls ++ [(some i, nm0 n2 t)]).map (·.1), ∃ i, h = some i ∧ i < n1.length := by
            intro h hh
            rw [List.map_append] at hh
            rcases List.mem_append.mp hh with hh | hh
            · exact hb h hh
            · have : h = some i := by simpa using hh
              exact ⟨i, this, hi⟩
          have hlen := small _ hd' hb2
          have hl1 : (ls ++ [(some i, nm0 n2 t)]).length = ls.length + 1 := by simp
          have hmul : (k + 1) * (n1.length - ls.length) = (k + 1) * (n1.length - (ls.length + 1)) + (k + 1) := by
            have : n1.length - ls.length = (n1.length - (ls.length + 1)) + 1 := by omega
            rw [this, Nat.mul_add, Nat.mul_one]
          by_cases c2 : isOp (ndO n1 (some i)) = true
          · have v := opp_view w1 w2 hp
            cases c3 : opp n1 n2 (some i, t) with
            | none =>
              refine ⟨1, none, ?_⟩
              rw [runF, if_neg c1, q]
              simp only [if_pos c2, c3]
            | some inner =>
              rw [c3] at v
              obtain ⟨⟨f, xs, ys, q1, q2, hl, hin⟩, hall, _⟩ := v
              have hx : xs.length ≤ k := by
                have ei := getD_at (d := .non) hi
                have q1' : n1.getD i .non = .op f xs := q1
                rw [q1'] at ei
                exact hk i f xs ei
              have hil : inner.length ≤ k := by rw [hin, List.length_zipWith]; omega
              obtain ⟨m, r, hrun⟩ := ih (inner.reverse ++ st) (ls ++ [(some i, nm0 n2 t)]) (by
                rw [hl1, List.length_append, List.length_reverse]
                simp only [List.length_cons] at hm
                omega) (fun p hp => by
                  rcases List.mem_append.mp hp with hp | hp
                  · exact hall p (List.mem_reverse.mp hp)
                  · exact hst p hp) hd' hb2
              refine ⟨m + 1, r, ?_⟩
              rw [runF, if_neg c1, q]
              simp only [if_pos c2, c3]
              exact hrun
          · obtain ⟨m, r, hrun⟩ := ih st (ls ++ [(some i, nm0 n2 t)]) (by
              rw [hl1]
              simp only [List.length_cons] at hm
              omega) hst hd' hb2
            refine ⟨m + 1, r, ?_⟩
            rw [runF, if_neg c1, q]
            simp only [if_neg c2]
            exact hrun
/-- does_follow: it ends, and True says that a substitution leads all pairs of the start -/
theorem runF_spec (w1 : WfN n1) (w2 : WfN n2) (d2 : (terms n2).Nodup) {k : Nat} (hk : AtMost k n1) {st : List (Ix × Ix)} (hr : ∀ p ∈ st, RepM n1 n2 p) :
    ∃ m r, runF n1 n2 m st [] = some r ∧ (r.isSome = true ↔ ∃ σ, ∀ p ∈ st, Agr n1 n2 σ p) := by
  obtain ⟨m, r, e⟩ := runF_ends w1 w2 hk _ st [] (Nat.le_refl _) hr (by simp) (fun h hh => by simp at hh)
  refine ⟨m, r, e, ?_⟩
  cases r with
  | none =>
    simp only [Option.isSome_none, Bool.false_eq_true, false_iff]
    rintro ⟨σ, hσ⟩
    exact runF_false w1 w2 d2 σ m st [] e (fun p hp => ⟨hr p hp, hσ p hp⟩) fun h u z => by simp at z
  | some Lf =>
    simp only [Option.isSome_some, true_iff]
    obtain ⟨_, hst, hcl⟩ := runF_true w1 w2 m st [] Lf e hr
    have cl : ∀ h u, Lf.lookup h = some u → RepM n1 n2 (h, u) ∧ (isOp (ndO n1 h) = true → ∃ inner, opp n1 n2 (h, u) = some inner ∧ ∀ q ∈ inner, MetBy Lf q) := fun h u z => by
      rcases hcl h u z with q | q
      · simp at q
      · exact q
    let σ : Nat → Tm F Nat := fun i => match Lf.lookup (some i) with
      | some u => tmO n2 u
      | none => .nil
    have key : ∀ (t : Tm F Nat) (p : Ix × Ix), tmO n1 p.1 = t → MetBy Lf p → Agr n1 n2 σ p := by
      intro t
      induction t using Tm.kidInd with
      | h t ih =>
        intro p ht hm
        rcases hm with rfl | ⟨hne, hl⟩
        · simp [Agr, tmO]
        · obtain ⟨hrep, hop⟩ := cl _ _ hl
          have v1 := tmO_view w1 hrep.1
          simp only at v1 hop
          by_cases c : isOp (ndO n1 p.1) = true
          · refine (agr_opp w1 w2 (p := p) hrep c σ).mpr ?_
            obtain ⟨inner, ei, hq⟩ := hop c
            refine ⟨inner, ei, fun q hin => ?_⟩
            have v := opp_view w1 w2 (p := p) hrep
            have ei' : opp n1 n2 p = some inner := ei
            rw [ei'] at v
            obtain ⟨⟨f, xs, ys, q1, q2, hlen, hin'⟩, _, _⟩ := v
            refine ih (tmO n1 q.1) ?_ q rfl (hq q hin)
            rw [q1] at v1
            simp only at v1
            rw [← ht, v1]
            rw [hin'] at hin
            obtain ⟨x, hx, y, hy, rfl⟩ := mem_zipWith hin
            simp only
            rw [(nrm_ok w1 (ndO_kids w1 hrep.1 q1 x hx)).2]
            exact List.mem_map.mpr ⟨x, hx, rfl⟩
          · unfold Agr
            rw [v1]
            obtain ⟨h, u⟩ := p
            cases h with
            | none => exact absurd rfl hne
            | some i =>
              cases q : ndO n1 (some i) with
              | op f xs => exact absurd (by show isOp (ndO n1 (some i)) = true; rw [q]; rfl) c
              | non =>
                have := isNon_iff w1 hrep.1
                simp only at this
                rw [q] at this
                exact absurd (this.mp rfl) hne
              | opn =>
                simp only [Option.getD_some, Tm.subst_hole]
                show σ i = tmO n2 u
                simp only [σ]
                rw [show Lf.lookup (some i) = some u from hl]
    exact ⟨σ, fun p hp => key _ p rfl (hst p hp)⟩
end
section
variable [DecidableEq F] [DecidableEq N]
/-- .. for two canonical shapes: the order of their valuations -/
theorem follow_iff {S1 S2 : Rw F N} (c1 : Can S1) (c2 : Can S2) (vs : List N) : (∃ σ, ∀ p ∈ (joined vs (S1.side false) (S2.side false) ++ joined vs (S1.side true) (S2.side true)).map (·.2), Agr S1.nodes S2.nodes σ p) ↔ Le vs (val S1) (val S2) := by
  unfold Le
  refine exists_congr fun σ => ?_
  have one : ∀ b n, Agr S1.nodes S2.nodes σ ((S1.side b).lookup n, (S2.side b).lookup n) ↔ (val S1 b n).subst σ = val S2 b n := by
    intro b n
    unfold Agr
    rw [← (c1.val_nil b n).2, ← (c2.val_nil b n).2]
  constructor
  · intro h b n hn
    by_cases q : (S1.side b).lookup n = none ∧ (S2.side b).lookup n = none
    · rw [← one, q.1, q.2]; simp [Agr, tmO]
    · rw [← one]
      have hin : (n, ((S1.side b).lookup n, (S2.side b).lookup n)) ∈ joined vs (S1.side b) (S2.side b) := by
        unfold joined
        exact List.mem_filterMap.mpr ⟨n, hn, by rw [if_neg q]⟩
      refine h _ (List.mem_map.mpr ⟨(n, ((S1.side b).lookup n, (S2.side b).lookup n)), ?_, rfl⟩)
      cases b
      · exact List.mem_append_left _ hin
      · exact List.mem_append_right _ hin
  · intro h p hp
    obtain ⟨r, hr, rfl⟩ := List.mem_map.mp hp
    have : ∀ b, r ∈ joined vs (S1.side b) (S2.side b) → Agr S1.nodes S2.nodes σ r.2 := by
      intro b hr
      unfold joined at hr
      obtain ⟨n, hn, e⟩ := List.mem_filterMap.mp hr
      split at e
      · cases e
      · cases e
        exact (one b n).mpr (h b n hn)
    rcases List.mem_append.mp hr with hr | hr
    · exact this _ hr
    · exact this _ hr
end
end K49

-- part K49Ev
/-! A small calculus over HandS: data made of tuples (Tp), and what a reading comes to (EvP). -/
namespace K49W
open PySem PySem.Spec PyProof.Rows L2 Evl

/-! ### data made of tuples -/
/-- the tuples stand -/
def TX (H H' : Hp) : Prop := ∀ a xs, H a = some (.tup xs) → H' a = some (.tup xs)
theorem TX.refl (H : Hp) : TX H H := fun _ _ h => h
theorem TX.trans {H H1 H2 : Hp} (a : TX H H1) (b : TX H1 H2) : TX H H2 := fun c x h => b c x (a c x h)
theorem Ex.tx {H H' : Hp} (e : Ex H H') : TX H H' := fun a xs h => e a _ h
theorem TX.upd {H : Hp} {p : Addr} {o : HO} (h : ∀ xs, H p ≠ some (.tup xs)) : TX H (upd H p o) := fun a xs e => by
  have : a ≠ p := fun z => h xs (by rw [← z]; exact e)
  rw [upd_ne this]; exact e
theorem TX.upd_new {H : Hp} {p : Addr} {o : HO} (h : H p = none) : TX H (L2.upd H p o) := TX.upd fun xs e => by rw [h] at e; cases e
theorem TX.upd_lst {H : Hp} {p : Addr} {o : HO} {ys : List V} (h : H p = some (.lst ys)) : TX H (L2.upd H p o) := TX.upd fun xs e => by rw [h] at e; cases e
theorem TX.upd_dK {H : Hp} {p : Addr} {o : HO} {ys : List (Key × V)} (h : H p = some (.dK ys)) : TX H (L2.upd H p o) := TX.upd fun xs e => by rw [h] at e; cases e
theorem TX.upd_dT {H : Hp} {p : Addr} {o : HO} {ys : List (List Key × V)} (h : H p = some (.dT ys)) : TX H (L2.upd H p o) := TX.upd fun xs e => by rw [h] at e; cases e

mutual
inductive Tp (H : Hp) : V → PyData → Prop
  | non : Tp H .non .none
  | bl (b : Bool) : Tp H (.bl b) (.bool b)
  | int (i : Int) : Tp H (.int i) (.int i)
  | str (x : Str) : Tp H (.str x) (.str x)
  | tup {a : Addr} {xs : List V} {ds : List PyData} : H a = some (.tup xs) → TpL H xs ds → Tp H (.ref a) (.tuple ds)
inductive TpL (H : Hp) : List V → List PyData → Prop
  | nil : TpL H [] []
  | cons {v : V} {vs : List V} {d : PyData} {ds : List PyData} : Tp H v d → TpL H vs ds → TpL H (v :: vs) (d :: ds)
end
section
variable {H H' : Hp} {v : V} {d : PyData} {vs : List V} {ds : List PyData} {K : PySem.W.Frag}
mutual
theorem Tp.tx (h : TX H H') : ∀ {v : V} {d : PyData}, Tp H v d → Tp H' v d
  | _, _, .non => .non
  | _, _, .bl b => .bl b
  | _, _, .int i => .int i
  | _, _, .str x => .str x
  | _, _, .tup e l => .tup (h _ _ e) (TpL.tx h l)
theorem TpL.tx (h : TX H H') : ∀ {vs : List V} {ds : List PyData}, TpL H vs ds → TpL H' vs ds
  | _, _, .nil => .nil
  | _, _, .cons a b => .cons (Tp.tx h a) (TpL.tx h b)
end
theorem Tp.ex (t : Tp H v d) (h : Ex H H') : Tp H' v d := t.tx (Ex.tx h)
theorem TpL.ex (t : TpL H vs ds) (h : Ex H H') : TpL H' vs ds := t.tx (Ex.tx h)
mutual
theorem Tp.dp : ∀ {v : V} {d : PyData}, Tp H v d → Dp K H v d
  | _, _, .non => .non
  | _, _, .bl b => .bl b
  | _, _, .int i => .int i
  | _, _, .str x => .str x
  | _, _, .tup e l => .tup (SqT.of e) (TpL.dp l)
theorem TpL.dp : ∀ {vs : List V} {ds : List PyData}, TpL H vs ds → DpAll K H vs ds
  | _, _, .nil => .nil
  | _, _, .cons a b => .cons (Tp.dp a) (TpL.dp b)
end
theorem TpL.length : ∀ {vs : List V} {ds : List PyData}, TpL H vs ds → vs.length = ds.length
  | _, _, .nil => rfl
  | _, _, .cons _ b => by rw [List.length_cons, List.length_cons, TpL.length b]
theorem TpL.get : ∀ {vs : List V} {ds : List PyData} {i : Nat} {d : PyData}, TpL H vs ds → ds[i]? = some d → ∃ v, vs[i]? = some v ∧ Tp H v d
  | _, _, i, d, .nil, h => by simp at h
  | _, _, 0, d, .cons a b, h => ⟨_, rfl, by simp at h; exact h ▸ a⟩
  | _, _, i + 1, d, .cons a b, h => by
    obtain ⟨v, h1, h2⟩ := TpL.get (i := i) (d := d) b (by simpa using h)
    exact ⟨v, by simpa using h1, h2⟩
theorem TpL.getV : ∀ {vs : List V} {ds : List PyData} {i : Nat} {v : V}, TpL H vs ds → vs[i]? = some v → ∃ d, ds[i]? = some d ∧ Tp H v d
  | _, _, i, d, .nil, h => by simp at h
  | _, _, 0, d, .cons a b, h => ⟨_, rfl, by simp at h; exact h ▸ a⟩
  | _, _, i + 1, v, .cons a b, h => by
    obtain ⟨d, h1, h2⟩ := TpL.getV (i := i) (v := v) b (by simpa using h)
    exact ⟨d, by simpa using h1, h2⟩
theorem TpL.append : ∀ {vs ws : List V} {ds es : List PyData}, TpL H vs ds → TpL H ws es → TpL H (vs ++ ws) (ds ++ es)
  | _, _, _, _, .nil, t => t
  | _, _, _, _, .cons a b, t => .cons a (TpL.append b t)
theorem TpL.snoc (h : TpL H vs ds) (t : Tp H v d) : TpL H (vs ++ [v]) (ds ++ [d]) := h.append (.cons t .nil)
theorem Tp.inv_tup {ds : List PyData} (h : Tp H v (.tuple ds)) : ∃ a xs, v = .ref a ∧ H a = some (.tup xs) ∧ TpL H xs ds := by
  cases h with
  | tup e l => exact ⟨_, _, rfl, e, l⟩
theorem Tp.inv_int {i : Int} (h : Tp H v (.int i)) : v = .int i := by cases h; rfl
theorem Tp.inv_str {x : Str} (h : Tp H v (.str x)) : v = .str x := by cases h; rfl
theorem Tp.inv_bl {x : Bool} (h : Tp H v (.bool x)) : v = .bl x := by cases h; rfl
theorem Tp.inv_non (h : Tp H v .none) : v = .non := by cases h; rfl
theorem TpL.ints : ∀ {vs : List V} {is : List Int}, TpL H vs (is.map PyData.int) → vs = is.map V.int
  | _, [], .nil => rfl
  | _, i :: is, .cons a b => by rw [a.inv_int, TpL.ints b]; rfl
theorem TpL.of_ints : ∀ (is : List Int), TpL H (is.map V.int) (is.map PyData.int)
  | [] => .nil
  | i :: is => .cons (.int i) (TpL.of_ints is)
theorem TpL.inv_cons {d : PyData} {ds : List PyData} (h : TpL H vs (d :: ds)) : ∃ v r, vs = v :: r ∧ Tp H v d ∧ TpL H r ds := by
  cases h with
  | cons a b => exact ⟨_, _, rfl, a, b⟩
theorem TpL.inv_nil (h : TpL H vs []) : vs = [] := by cases h; rfl
end

/-! ### plain data: None, ints, texts, tuples; == of it is = -/
mutual
def Pln : PyData → Bool
  | .none => true
  | .int _ => true
  | .str x => SeqAt.shaped (.str x)
  | .tuple ds => PlnL ds
  | _ => false
def PlnL : List PyData → Bool
  | [] => true
  | d :: ds => Pln d && PlnL ds
end
mutual
theorem pln_lay : ∀ (d : PyData), Pln d = true → d.canLay0 = true
  | .none, _ => rfl
  | .int _, _ => rfl
  | .str x, h => by
    have h' : SeqAt.shaped (.str x) = true := by simpa [Pln] using h
    exact SeqAt.canLay_of_shaped h'
  | .tuple ds, h => by
    have := plnL_lay ds (by simpa [Pln] using h)
    simpa [PyData.canLay0] using this
  | .bool _, h => by simp [Pln] at h
  | .list _, h => by simp [Pln] at h
  | .dict _, h => by simp [Pln] at h
theorem plnL_lay : ∀ (ds : List PyData), PlnL ds = true → PyData.canLayAll0 ds = true
  | [], _ => rfl
  | d :: ds, h => by
    have h' : Pln d = true ∧ PlnL ds = true := by simpa [PlnL] using h
    simp [PyData.canLayAll0, pln_lay d h'.1, plnL_lay ds h'.2]
end
mutual
theorem eqv_iff : ∀ (d e : PyData), Pln d = true → Pln e = true → (PyData.eqv d e = true ↔ d = e)
  | .none, e, _, he => by cases e <;> simp_all [Pln, PyData.eqv]
  | .int i, e, _, he => by cases e <;> simp_all [Pln, PyData.eqv]
  | .str x, e, _, he => by cases e <;> simp_all [Pln, PyData.eqv]
  | .tuple ds, e, hd, he => by
    cases e with
    | tuple es =>
      have := eqvAll_iff ds es (by simpa [Pln] using hd) (by simpa [Pln] using he)
      simpa [PyData.eqv] using this
    | none => simp [PyData.eqv]
    | int _ => simp [PyData.eqv]
    | str _ => simp [PyData.eqv]
    | bool _ => simp [Pln] at he
    | list _ => simp [Pln] at he
    | dict _ => simp [Pln] at he
  | .bool _, _, h, _ => by simp [Pln] at h
  | .list _, _, h, _ => by simp [Pln] at h
  | .dict _, _, h, _ => by simp [Pln] at h
theorem eqvAll_iff : ∀ (ds es : List PyData), PlnL ds = true → PlnL es = true → (PyData.eqvAll ds es = true ↔ ds = es)
  | [], es, _, _ => by cases es <;> simp [PyData.eqvAll]
  | d :: ds, es, hd, he => by
    cases es with
    | nil => simp [PyData.eqvAll]
    | cons e es =>
      have hd' : Pln d = true ∧ PlnL ds = true := by simpa [PlnL] using hd
      have he' : Pln e = true ∧ PlnL es = true := by simpa [PlnL] using he
      simp [PyData.eqvAll, eqv_iff d e hd'.1 he'.1, eqvAll_iff ds es hd'.2 he'.2]
end
noncomputable instance pyDec : DecidableEq PyData := fun a b => Classical.propDecidable (a = b)
theorem eqv_dec {d e : PyData} (hd : Pln d = true) (he : Pln e = true) : PyData.eqv d e = decide (d = e) := by
  have := eqv_iff d e hd he
  by_cases h : d = e
  · rw [decide_eq_true h]; exact this.mpr h
  · rw [decide_eq_false h]
    cases q : PyData.eqv d e with
    | false => rfl
    | true => exact absurd (this.mp q) h
/-- plain and not deep -/
structure Pd (d : PyData) : Prop where
  pl : Pln d = true
  dp : d.depth ≤ 64
theorem Pd.sh {d : PyData} (h : Pd d) : SeqAt.shaped d = true := by
  unfold SeqAt.shaped
  rw [pln_lay d h.pl, decide_eq_true h.dp]; rfl

/-! ### what a reading comes to -/
/-- an expression: at any heap that has more, it gives what P says, the heap having more yet -/
def EvP (te : TE) (σ : L2.St) (H : Hp) (P : V → Hp → Prop) : Prop := ∀ H1, Ex H H1 → ∀ Q : VK, (∀ v H2, Ex H1 H2 → P v H2 → Q v H2) → te σ H1 Q
def EvD (te : TE) (σ : L2.St) (H : Hp) (d : PyData) : Prop := EvP te σ H fun v H' => Tp H' v d
def EvAP (ta : TA) (σ : L2.St) (H : Hp) (P : List V → Hp → Prop) : Prop := ∀ H1, Ex H H1 → ∀ Q : List V → Hp → Prop, (∀ vs H2, Ex H1 H2 → P vs H2 → Q vs H2) → ta σ H1 Q
def EvAD (ta : TA) (σ : L2.St) (H : Hp) (ds : List PyData) : Prop := EvAP ta σ H fun vs H' => TpL H' vs ds
def Mono (P : V → Hp → Prop) : Prop := ∀ v H H', Ex H H' → P v H → P v H'
section
variable {te ta tb : TE} {tt tu : TT} {σ : L2.St} {H H' : Hp} {P R : V → Hp → Prop} {d e : PyData} {ds es : List PyData} {v w : V} {tas : TA} {K : PySem.W.Frag} {D : Ends}
theorem EvP.mono (e : Ex H H') (h : EvP te σ H P) : EvP te σ H' P := fun H1 a Q q => h H1 (e.trans a) Q q
theorem EvD.mono (e : Ex H H') (h : EvD te σ H d) : EvD te σ H' d := EvP.mono e h
theorem EvP.imp (h : EvP te σ H P) (k : ∀ v H1, Ex H H1 → P v H1 → R v H1) : EvP te σ H R := fun H1 a Q q => h H1 a Q fun v H2 e2 p => q v H2 e2 (k v H2 (a.trans e2) p)
theorem mono_tp : Mono fun v H' => Tp H' v d := fun _ _ _ e t => t.ex e
theorem mono_eq : Mono fun v _ => v = w := fun _ _ _ _ h => h
theorem ev_p (h : Ev te σ H v) : EvP te σ H fun w _ => w = v := fun H1 a Q q => h H1 a Q fun H2 e2 => q v H2 e2 rfl
theorem p_ev (h : EvP te σ H fun w _ => w = v) : Ev te σ H v := fun H1 a Q q => h H1 a Q fun w H2 e2 p => p ▸ q H2 e2
theorem d_int {i : Int} (h : EvD te σ H (.int i)) : Ev te σ H (.int i) := fun H1 a Q q => h H1 a Q fun w H2 e2 p => p.inv_int ▸ q H2 e2
theorem d_str {i : Str} (h : EvD te σ H (.str i)) : Ev te σ H (.str i) := fun H1 a Q q => h H1 a Q fun w H2 e2 p => p.inv_str ▸ q H2 e2
theorem d_bl {i : Bool} (h : EvD te σ H (.bool i)) : Ev te σ H (.bl i) := fun H1 a Q q => h H1 a Q fun w H2 e2 p => p.inv_bl ▸ q H2 e2
theorem int_d {i : Int} (h : Ev te σ H (.int i)) : EvD te σ H (.int i) := fun H1 a Q q => h H1 a Q fun H2 e2 => q _ H2 e2 (.int i)
theorem str_d {i : Str} (h : Ev te σ H (.str i)) : EvD te σ H (.str i) := fun H1 a Q q => h H1 a Q fun H2 e2 => q _ H2 e2 (.str i)
theorem bl_d {i : Bool} (h : Ev te σ H (.bl i)) : EvD te σ H (.bool i) := fun H1 a Q q => h H1 a Q fun H2 e2 => q _ H2 e2 (.bl i)
theorem non_d (h : Ev te σ H .non) : EvD te σ H .none := fun H1 a Q q => h H1 a Q fun H2 e2 => q _ H2 e2 .non
theorem v_d (h : Ev te σ H v) (t : Tp H v d) : EvD te σ H d := fun H1 a Q q => h H1 a Q fun H2 e2 => q _ H2 e2 (t.ex (a.trans e2))
theorem ed_var {i : Nat} (h : σ[i]? = some (some v)) (t : Tp H v d) : EvD (tVar i) σ H d := v_d (ev_var h) t
theorem ep_var {i : Nat} (h : σ[i]? = some (some v)) : EvP (tVar i) σ H fun w _ => w = v := ev_p (ev_var h)
theorem ed_int {i : Int} : EvD (tC (.int i)) σ H (.int i) := int_d ev_c
theorem ed_str {i : Str} : EvD (tC (.str i)) σ H (.str i) := str_d ev_c
theorem ed_bl {i : Bool} : EvD (tC (.bl i)) σ H (.bool i) := bl_d ev_c
theorem ed_non : EvD (tC .non) σ H .none := non_d ev_c
/-- arguments -/
theorem ead_nil : EvAD tNil σ H [] := fun H1 _ Q q => q [] H1 (Ex.refl H1) .nil
theorem ead_cons {tr : TA} (h : EvD te σ H d) (hr : EvAD tr σ H ds) : EvAD (tCons te tr) σ H (d :: ds) := fun H1 e Q q =>
  h H1 e _ fun v H2 e2 t => hr H2 (e.trans e2) _ fun vs H3 e3 l => q (v :: vs) H3 (e2.trans e3) (.cons (t.ex e3) l)
theorem eap_nil : EvAP tNil σ H fun vs _ => vs = [] := fun H1 _ Q q => q [] H1 (Ex.refl H1) rfl
theorem eap_cons {tr : TA} {R : List V → Hp → Prop} (m : Mono P) (h : EvP te σ H P) (hr : EvAP tr σ H R) : EvAP (tCons te tr) σ H fun vs H' => ∃ v r, vs = v :: r ∧ P v H' ∧ R r H' := fun H1 e Q q =>
  h H1 e _ fun v H2 e2 t => hr H2 (e.trans e2) _ fun vs H3 e3 l => q (v :: vs) H3 (e2.trans e3) ⟨v, vs, rfl, m _ _ _ e3 t, l⟩
/-- a new tuple -/
theorem ed_tup (h : EvAD tas σ H ds) (hl : ds.length ≤ 100000) : EvD (tTup tas) σ H (.tuple ds) := fun H1 e Q q =>
  h H1 e _ fun vs H2 e2 l => ⟨sz_of (by rw [l.length]; exact hl), fun p hp => q _ _ (e2.trans (Ex.new hp)) (.tup upd_same (l.ex (Ex.new hp)))⟩
/-- a new list of data -/
def NewL (H1 : Hp) (ds : List PyData) : V → Hp → Prop := fun v H2 => ∃ p xs, v = .ref p ∧ H1 p = none ∧ H2 p = some (.lst xs) ∧ TpL H2 xs ds
def EvN (te : TE) (σ : L2.St) (H : Hp) (ds : List PyData) : Prop := ∀ H1, Ex H H1 → ∀ Q : VK, (∀ p xs H2, H1 p = none → Ex H1 H2 → H2 p = some (.lst xs) → TpL H2 xs ds → Q (.ref p) H2) → te σ H1 Q
theorem en_lst (h : EvAD tas σ H ds) (hl : ds.length ≤ 100000) : EvN (tLst tas) σ H ds := fun H1 e Q q =>
  h H1 e _ fun vs H2 e2 l => ⟨sz_of (by rw [l.length]; exact hl), fun p hp => q p vs _ (fresh_back e2 hp) (e2.trans (Ex.new hp)) upd_same (l.ex (Ex.new hp))⟩
theorem EvN.mono (e : Ex H H') (h : EvN te σ H ds) : EvN te σ H' ds := fun H1 a Q q => h H1 (e.trans a) Q q
/-- tuple(a new list), tuple(a list) -/
def rTupO (K : PySem.W.Frag) : List V → Hp → VK → Prop := fun xs H Q => ∃ p ys, xs = [.ref p] ∧ ((SqL K H p ys ∧ ∀ l, H l = none → Q (.ref l) (upd H l (.tup ys))) ∨ (SqT K H p ys ∧ Q (.ref p) H))
theorem ed_tupN (h : EvN te σ H ds) : EvD (tCB (rTupO K) (tCons te tNil)) σ H (.tuple ds) := fun H1 e Q q =>
  h H1 e _ fun p xs H2 hp e2 hl t => ⟨p, xs, rfl, .inl ⟨SqL.of hl, fun l hl' => q _ _ (e2.trans (Ex.new hl')) (.tup upd_same (t.ex (Ex.new hl')))⟩⟩
theorem ed_tupL {p : Addr} {xs : List V} (h : Ev te σ H (.ref p)) (hl : H p = some (.lst xs)) (t : TpL H xs ds) : EvD (tCB (rTupO K) (tCons te tNil)) σ H (.tuple ds) := fun H1 e Q q =>
  h H1 e _ fun H2 e2 => ⟨p, xs, rfl, .inl ⟨SqL.of (e2 _ _ (e _ _ hl)), fun l hl' => q _ _ (e2.trans (Ex.new hl')) (.tup upd_same (t.ex ((e.trans e2).trans (Ex.new hl'))))⟩⟩
/-- t[i], xs[i] of data -/
theorem atI_of {α : Type} {xs : List α} {i : Int} {j : Nat} {x : α} (e : i = (j : Int)) (h : xs[j]? = some x) : atI xs i = some x := by rw [e]; exact atI_nat h
theorem ed_ixT {i : Int} {j : Nat} (ha : EvD ta σ H (.tuple ds)) (hb : Ev tb σ H (.int i)) (hi : i = (j : Int)) (hd : ds[j]? = some d) : EvD (tOp (rIxT K) ta tb) σ H d := fun H1 e Q q =>
  ha H1 e _ fun v H2 e2 t => hb H2 (e.trans e2) _ fun H3 e3 => by
    obtain ⟨a, xs, rfl, ht, l⟩ := (t.ex e3).inv_tup
    obtain ⟨w, hw, tw⟩ := l.get hd
    exact ⟨a, xs, i, w, rfl, rfl, SqT.of ht, atI_of hi hw, q w H3 (e2.trans e3) tw⟩
theorem ed_ixL {p : Addr} {xs : List V} {i : Int} {j : Nat} (ha : Ev ta σ H (.ref p)) (hl : H p = some (.lst xs)) (t : TpL H xs ds) (hb : Ev tb σ H (.int i)) (hi : i = (j : Int)) (hd : ds[j]? = some d) : EvD (tOp (rIxL K) ta tb) σ H d := fun H1 e Q q =>
  ha H1 e _ fun H2 e2 => hb H2 (e.trans e2) _ fun H3 e3 => by
    obtain ⟨w, hw, tw⟩ := (t.ex ((e.trans e2).trans e3)).get hd
    exact ⟨p, xs, i, w, rfl, rfl, SqL.of (e3 _ _ (e2 _ _ (e _ _ hl))), atI_of hi hw, q w H3 (e2.trans e3) tw⟩
/-- len -/
theorem ev_lenD (ha : EvD ta σ H (.tuple ds)) : Ev (tCB (rLenS K) (tCons ta tNil)) σ H (.int (ds.length : Int)) := fun H1 e Q q =>
  ha H1 e _ fun v H2 e2 t => by
    obtain ⟨a, xs, rfl, ht, l⟩ := t.inv_tup
    exact ⟨a, xs, rfl, .inr (SqT.of ht), by rw [l.length]; exact q H2 e2⟩
/-- ==, != of plain data -/
theorem ev_eqD (ha : EvD ta σ H d) (hb : EvD tb σ H e) (pd : Pd d) (pe : Pd e) : Ev (tOp (rEqD K) ta tb) σ H (.bl (decide (d = e))) := fun H1 x Q q =>
  ha H1 x _ fun v H2 e2 t => hb H2 (x.trans e2) _ fun w H3 e3 t2 => ⟨d, e, (t.ex e3).dp, t2.dp, pd.sh, pe.sh, by rw [eqv_dec pd.pl pe.pl]; exact q H3 (e2.trans e3)⟩
theorem ev_neD (ha : EvD ta σ H d) (hb : EvD tb σ H e) (pd : Pd d) (pe : Pd e) : Ev (tOp (rNeD K) ta tb) σ H (.bl (!decide (d = e))) := fun H1 x Q q =>
  ha H1 x _ fun v H2 e2 t => hb H2 (x.trans e2) _ fun w H3 e3 t2 => ⟨d, e, (t.ex e3).dp, t2.dp, pd.sh, pe.sh, by rw [eqv_dec pd.pl pe.pl]; exact q H3 (e2.trans e3)⟩
/-- is None -/
theorem tp_none (t : Tp H v d) : decide (v = V.non) = decide (d = PyData.none) := by
  cases t <;> simp
theorem ev_isNo (ha : EvD ta σ H d) : Ev (tIsN ta) σ H (.bl (decide (d = .none))) := fun H1 x Q q =>
  ha H1 x _ fun v H2 e2 t => by rw [tp_none t]; exact q H2 e2
theorem ev_notNo (ha : EvD ta σ H d) : Ev (tNotN ta) σ H (.bl (!decide (d = .none))) := fun H1 x Q q =>
  ha H1 x _ fun v H2 e2 t => by rw [tp_none t]; exact q H2 e2
/-- a if t else b -/
theorem ed_if {b : Bool} (h : EvT tt σ H b) (h1 : b = true → EvD ta σ H d) (h2 : b = false → EvD tb σ H d) : EvD (tIf tt ta tb) σ H d := fun H1 e Q q => h H1 e _ fun H2 e2 => by
  cases b with
  | true => exact h1 rfl H2 (e.trans e2) _ fun v H3 e3 t => q v H3 (e2.trans e3) t
  | false => exact h2 rfl H2 (e.trans e2) _ fun v H3 e3 t => q v H3 (e2.trans e3) t
theorem ed_is (h : EvD te σ H d) (x : d = e) : EvD te σ H e := x ▸ h
/-- statements -/
theorem s_setD {i : Nat} (h : EvD te σ H d) (k : ∀ v H1, Ex H H1 → Tp H1 v d → D.nx (σ.set i (some v)) H1) : tAsg te (gName i) D σ H := h H (Ex.refl H) _ fun v H1 e t => k v H1 e t
theorem s_setP {i : Nat} (h : EvP te σ H P) (k : ∀ v H1, Ex H H1 → P v H1 → D.nx (σ.set i (some v)) H1) : tAsg te (gName i) D σ H := h H (Ex.refl H) _ fun v H1 e t => k v H1 e t
theorem s_setN {i : Nat} (h : EvN te σ H ds) (k : ∀ p xs H1, H p = none → Ex H H1 → H1 p = some (.lst xs) → TpL H1 xs ds → D.nx (σ.set i (some (.ref p))) H1) : tAsg te (gName i) D σ H := h H (Ex.refl H) _ fun p xs H1 hp e h1 t => k p xs H1 hp e h1 t
theorem s_retD (h : EvD te σ H d) (k : ∀ v H1, Ex H H1 → Tp H1 v d → D.rt v H1) : tRet te D σ H := h H (Ex.refl H) _ k
theorem s_retP (h : EvP te σ H P) (k : ∀ v H1, Ex H H1 → P v H1 → D.rt v H1) : tRet te D σ H := h H (Ex.refl H) _ k
theorem s_retN (h : EvN te σ H ds) (k : ∀ p xs H1, H p = none → Ex H H1 → H1 p = some (.lst xs) → TpL H1 xs ds → D.rt (.ref p) H1) : tRet te D σ H := h H (Ex.refl H) _ fun p xs H1 hp e h1 t => k p xs H1 hp e h1 t
/-- xs.append(e) of data -/
theorem s_appD {l : Addr} {xs : List V} (hl : H l = some (.lst xs)) (ha : Ev ta σ H (.ref l)) (h : EvD te σ H d) (hz : xs.length < 100000) (k : ∀ v H1, Ex H H1 → Tp H1 v d → D.nx σ (upd H1 l (.lst (xs ++ [v])))) :
    tDrop (tBM K "list" rAppend ta (tCons te tNil)) D σ H :=
  ha H (Ex.refl H) _ fun H1 e1 => ⟨.inl ⟨rfl, _, SqL.of (e1 _ _ hl)⟩, h H1 e1 _ fun v H2 e2 t => ⟨l, xs, v, rfl, rfl, e2 _ _ (e1 _ _ hl), sz_lt hz, k v H2 (e1.trans e2) t⟩⟩
/-- a call of a def by its promise -/
theorem ed_call {sp : Sp} {E : XK} (h : EvAD tas σ H ds) (hs : ∀ vs H1, Ex H H1 → TpL H1 vs ds → ∀ Q : VK, (∀ v H2, Ex H1 H2 → Tp H2 v d → Q v H2) → sp vs H1 Q E) : EvD (tCall sp [] E tas) σ H d := fun H1 e Q q =>
  h H1 e _ fun vs H2 e2 l => by rw [List.append_nil]; exact hs vs H2 (e.trans e2) l _ fun v H3 e3 t => q v H3 (e2.trans e3) t
theorem ep_call {sp : Sp} {E : XK} {R : List V → Hp → Prop} (h : EvAP tas σ H R) (hs : ∀ vs H1, Ex H H1 → R vs H1 → ∀ Q : VK, (∀ v H2, Ex H1 H2 → P v H2 → Q v H2) → sp vs H1 Q E) : EvP (tCall sp [] E tas) σ H P := fun H1 e Q q =>
  h H1 e _ fun vs H2 e2 l => by rw [List.append_nil]; exact hs vs H2 (e.trans e2) l _ fun v H3 e3 t => q v H3 (e2.trans e3) t
end

/-! ### defs of the text, by name -/
/-- the names of the module and the built-ins -/
structure Tx (K : PySem.W.Frag) (mg : Str → Option Value) (gl fr : List Str) (ad : Str → Addr) : Prop where
  g : ∀ x ∈ gl, mg x = some (.ref (ad x))
  f : ∀ x ∈ fr, mg x = none
/-- a def that may be called by its name -/
def Cal (P : Program) (w : World) (K : PySem.W.Frag) (mg : Str → Option Value) (base : Heap) (k : Nat) (x : Str) (ps : List Str) (sp : Sp) : Prop :=
  ∃ f fd, mg x = some (.ref f) ∧ FnOk P w K mg base CX0 k f fd ps sp ∧ PySem.W.keepIn K (.ref f) = true ∧ Binds K fd ps []
theorem Cal.mono {P : Program} {w : World} {K : PySem.W.Frag} {mg : Str → Option Value} {base : Heap} {j k : Nat} {x : Str} {ps : List Str} {sp : Sp} (c : Cal P w K mg base j x ps sp) (h : j ≤ k) : Cal P w K mg base k x ps sp := by
  obtain ⟨f, fd, h1, h2, h3, h4⟩ := c
  exact ⟨f, fd, h1, h2.mono h, h3, h4⟩
theorem pe_cal {X : Cx} {k : Nat} {x : Str} {ps : List Str} {sp : Sp} {e : Expr} {es : List Expr} {p pos : Pos} {t : TA} (c : Cal X.prog X.w X.K X.mg X.base k x ps sp) (hr : Room k X.A) (hg : Gl X x) (ha : PA X (e :: es) t)
    (hdb : (x == ("__debug__" : Str)) = false := by decide) (he : starEach (e :: es) X.env = (false, eval e X.env) :: starEach es X.env := by rfl) (hpl : (backTo pos (starEach es X.env)).any (·.1) = false := by rfl) :
    PE X (.Call (.Name x p) (e :: es) [] pos) (tCall sp [] E0 t) := by
  obtain ⟨f, fd, h1, h2, h3, h4⟩ := c
  exact pe_call h2 hr hg h1 h3 h4 .nil pass0 ha hdb he hpl
end K49W

-- part K49Comp
/-! Walks over data: loops and comprehensions. -/
namespace K49W
open PySem PySem.Spec PyProof.Rows L2 Evl

/-! ### what is walked, by data -/
structure Wk (J : It) (S : Hp → Prop) (es : List PyData) : Prop where
  go : ∀ i H, i < es.length → S H → J.go i H
  stop : ∀ H, S H → J.stop es.length H
  yld : ∀ i H x H', i < es.length → S H → J.yld i H x H' → Ex H H' ∧ ∃ e, es[i]? = some e ∧ Tp H' x e
/-- a list of data stands at a -/
def LsD (a : Addr) (es : List PyData) : Hp → Prop := fun H => ∃ xs, H a = some (.lst xs) ∧ TpL H xs es
def TuD (a : Addr) (es : List PyData) : Hp → Prop := fun H => ∃ xs, H a = some (.tup xs) ∧ TpL H xs es
theorem LsD.ex {a : Addr} {es : List PyData} {H H' : Hp} (e : Ex H H') (h : LsD a es H) : LsD a es H' := by
  obtain ⟨xs, h1, h2⟩ := h
  exact ⟨xs, e _ _ h1, h2.ex e⟩
theorem TuD.ex {a : Addr} {es : List PyData} {H H' : Hp} (e : Ex H H') (h : TuD a es H) : TuD a es H' := by
  obtain ⟨xs, h1, h2⟩ := h
  exact ⟨xs, e _ _ h1, h2.ex e⟩
theorem TuD.tx {a : Addr} {es : List PyData} {H H' : Hp} (e : TX H H') (h : TuD a es H) : TuD a es H' := by
  obtain ⟨xs, h1, h2⟩ := h
  exact ⟨xs, e _ _ h1, h2.tx e⟩
theorem TuD.tp {a : Addr} {es : List PyData} {H : Hp} (h : TuD a es H) : Tp H (.ref a) (.tuple es) := let ⟨_, h1, h2⟩ := h; .tup h1 h2
section
variable {K : PySem.W.Frag}
theorem wk_list {a : Addr} {es : List PyData} : Wk (Itl K a) (LsD a es) es where
  go := fun i H hi ⟨xs, h1, h2⟩ => by
    have : i < xs.length := by rw [h2.length]; exact hi
    exact ⟨xs, xs[i], SqL.of h1, List.getElem?_eq_getElem this⟩
  stop := fun H ⟨xs, h1, h2⟩ => ⟨xs, SqL.of h1, by rw [h2.length]; exact Nat.le_refl _⟩
  yld := fun i H x H' hi ⟨xs, h1, h2⟩ ⟨e, hx⟩ => by
    subst e
    exact ⟨Ex.refl _, h2.getV (hx xs (SqL.of h1))⟩
theorem wk_tup {a : Addr} {es : List PyData} : Wk (Itt K a) (TuD a es) es where
  go := fun i H hi ⟨xs, h1, h2⟩ => by
    have : i < xs.length := by rw [h2.length]; exact hi
    exact ⟨xs, xs[i], SqT.of h1, List.getElem?_eq_getElem this⟩
  stop := fun H ⟨xs, h1, h2⟩ => ⟨xs, SqT.of h1, by rw [h2.length]; exact Nat.le_refl _⟩
  yld := fun i H x H' hi ⟨xs, h1, h2⟩ ⟨e, hx⟩ => by
    subst e
    exact ⟨Ex.refl _, h2.getV (hx xs (SqT.of h1))⟩
def rngD (lo : Int) (n : Nat) : List PyData := (List.range n).map fun i => .int (lo + (i : Nat))
theorem wk_rng {lo : Int} {n : Nat} : Wk (Itr lo n) (fun _ => True) (rngD lo n) where
  go := fun i H hi _ => by simpa [rngD, Itr] using hi
  stop := fun H _ => by simp [rngD, Itr]
  yld := fun i H x H' hi _ ⟨e, hx⟩ => by
    subst e; subst hx
    refine ⟨Ex.refl _, _, ?_, .int _⟩
    unfold rngD at hi ⊢
    rw [List.length_map] at hi
    rw [List.getElem?_map, List.getElem?_eq_getElem hi]; simp
def sgnD (z : Str) : List PyData := z.cps.toList.map fun c => .str ⟨#[c]⟩
theorem wk_str {z : Str} : Wk (Its z) (fun _ => True) (sgnD z) where
  go := fun i H hi _ => by simpa [sgnD, Its] using hi
  stop := fun H _ => by simp [sgnD, Its]
  yld := fun i H x H' hi _ ⟨e, c, hc, hx⟩ => by
    subst e; subst hx
    refine ⟨Ex.refl _, _, ?_, .str _⟩
    unfold sgnD
    rw [List.getElem?_map, Array.getElem?_toList, hc]; rfl
/-- (0, e0), (1, e1), .. -/
def enumD (es : List PyData) : List PyData := es.mapIdx fun i e => .tuple [.int (i : Nat), e]
theorem wk_enum {a : Addr} {es : List PyData} : Wk (Ite K a) (LsD a es) (enumD es) where
  go := fun i H hi ⟨xs, h1, h2⟩ => by
    have : i < xs.length := by rw [h2.length]; simpa [enumD] using hi
    exact ⟨xs, xs[i], SqL.of h1, List.getElem?_eq_getElem this⟩
  stop := fun H ⟨xs, h1, h2⟩ => ⟨xs, SqL.of h1, by rw [h2.length]; simp [enumD]⟩
  yld := fun i H x H' hi ⟨xs, h1, h2⟩ ⟨T, y, ex, hT, eH, hx⟩ => by
    subst ex; subst eH
    obtain ⟨e, he, te⟩ := h2.getV (hx xs (SqL.of h1))
    refine ⟨Ex.new hT, _, ?_, .tup upd_same (.cons (.int (i : Nat)) (.cons (te.ex (Ex.new hT)) .nil))⟩
    unfold enumD
    rw [List.getElem?_mapIdx, he]; rfl
/-- pairs of two tuples of data -/
theorem wk_zipT {a b : Addr} {as bs : List PyData} (hl : as.length = bs.length) : Wk (RZ.ItzT K a b) (fun H => TuD a as H ∧ TuD b bs H) (List.zipWith (fun x y => .tuple [x, y]) as bs) where
  go := fun i H hi ⟨⟨xs, h1, h2⟩, ⟨ys, h3, h4⟩⟩ => by
    simp only [List.length_zipWith] at hi
    have e1 : i < xs.length := by rw [h2.length]; omega
    have e2 : i < ys.length := by rw [h4.length]; omega
    exact ⟨xs, ys, xs[i], ys[i], SqT.of h1, SqT.of h3, List.getElem?_eq_getElem e1, List.getElem?_eq_getElem e2⟩
  stop := fun H ⟨⟨xs, h1, h2⟩, ⟨ys, h3, h4⟩⟩ => ⟨xs, ys, SqT.of h1, SqT.of h3, .inl (by rw [h2.length, List.length_zipWith]; omega)⟩
  yld := fun i H x H' hi ⟨⟨xs, h1, h2⟩, ⟨ys, h3, h4⟩⟩ ⟨T, u, v, ex, hT, eH, hu, hv⟩ => by
    subst ex; subst eH
    obtain ⟨e, he, te⟩ := h2.getV (hu xs (SqT.of h1))
    obtain ⟨f, hf, tf⟩ := h4.getV (hv ys (SqT.of h3))
    refine ⟨Ex.new hT, _, ?_, .tup upd_same (.cons (te.ex (Ex.new hT)) (.cons (tf.ex (Ex.new hT)) .nil))⟩
    rw [List.getElem?_zipWith, he, hf]
/-! dicts of data -/
def kD : Key → PyData
  | .inl i => .int i
  | .inr x => .str x
theorem tp_k {H : Hp} (k : Key) : Tp H (kV k) (kD k) := by cases k <;> constructor
/-- the pairs of a dict, by data -/
inductive KvD (H : Hp) : List (Key × V) → List (Key × PyData) → Prop
  | nil : KvD H [] []
  | cons {k : Key} {v : V} {d : PyData} {r : List (Key × V)} {s : List (Key × PyData)} : Tp H v d → KvD H r s → KvD H ((k, v) :: r) ((k, d) :: s)
theorem KvD.tx {H H' : Hp} (e : TX H H') : ∀ {r : List (Key × V)} {s : List (Key × PyData)}, KvD H r s → KvD H' r s
  | _, _, .nil => .nil
  | _, _, .cons a b => .cons (a.tx e) (KvD.tx e b)
theorem KvD.ex {H H' : Hp} {r : List (Key × V)} {s : List (Key × PyData)} (h : KvD H r s) (e : Ex H H') : KvD H' r s := h.tx (Ex.tx e)
theorem KvD.length {H : Hp} : ∀ {r : List (Key × V)} {s : List (Key × PyData)}, KvD H r s → r.length = s.length
  | _, _, .nil => rfl
  | _, _, .cons _ b => by rw [List.length_cons, List.length_cons, KvD.length b]
theorem KvD.at {H : Hp} : ∀ {r : List (Key × V)} {s : List (Key × PyData)} {i : Nat} {k : Key} {v : V}, KvD H r s → r[i]? = some (k, v) → ∃ d, s[i]? = some (k, d) ∧ Tp H v d
  | _, _, i, k, v, .nil, h => by simp at h
  | _, _, 0, k, v, .cons a b, h => by
    simp at h
    obtain ⟨rfl, rfl⟩ := h
    exact ⟨_, rfl, a⟩
  | _, _, i + 1, k, v, .cons a b, h => by
    obtain ⟨d, h1, h2⟩ := KvD.at (i := i) b (by simpa using h)
    exact ⟨d, by simpa using h1, h2⟩
/-- the value at a key -/
def lkD (s : List (Key × PyData)) (k : Key) : Option PyData := (s.find? fun p => decide (p.1 = k)).map (·.2)
theorem KvD.val {H : Hp} {k : Key} : ∀ {r : List (Key × V)} {s : List (Key × PyData)}, KvD H r s → (match lkD s k with | some d => ∃ v, valV r k = some v ∧ Tp H v d | none => valV r k = none)
  | _, _, .nil => rfl
  | _, _, .cons (k := k') (v := v) (d := d) (r := r) (s := s) a b => by
    have ih := KvD.val (k := k) b
    unfold lkD valV at ih ⊢
    rw [List.find?_cons, List.find?_cons]
    by_cases h : k' = k
    · subst h
      simp only [decide_true]
      exact ⟨v, rfl, a⟩
    · simp only [decide_eq_false h]
      exact ih
def FzD (d : Addr) (o : Obj) (kvs : List (Key × V)) (kds : List (Key × PyData)) : Hp → Prop := fun H => H d = some (.frz o (.dK kvs)) ∧ KvD H kvs kds
theorem FzD.ex {d : Addr} {o : Obj} {kvs : List (Key × V)} {kds : List (Key × PyData)} {H H' : Hp} (e : Ex H H') (h : FzD d o kvs kds H) : FzD d o kvs kds H' := ⟨e _ _ h.1, h.2.ex e⟩
theorem wk_items {d : Addr} {o : Obj} {kvs : List (Key × V)} {kds : List (Key × PyData)} : Wk (Iti d o kvs) (FzD d o kvs kds) (kds.map fun p => .tuple [kD p.1, p.2]) where
  go := fun i H hi ⟨h1, h2⟩ => ⟨h1, by rw [h2.length]; simpa using hi⟩
  stop := fun H ⟨h1, h2⟩ => ⟨h1, by rw [h2.length]; simp⟩
  yld := fun i H x H' hi ⟨h1, h2⟩ ⟨T, k, v, hk, ex, hT, eH⟩ => by
    subst ex; subst eH
    obtain ⟨e, he, te⟩ := h2.at hk
    refine ⟨Ex.new hT, _, ?_, .tup upd_same (.cons (tp_k k) (.cons (te.ex (Ex.new hT)) .nil))⟩
    rw [List.getElem?_map, he]; rfl
theorem wk_keys {d : Addr} {o : Obj} {kvs : List (Key × V)} : Wk (Itk d o kvs) (fun H => H d = some (.frz o (.dK kvs))) (kvs.map fun p => kD p.1) where
  go := fun i H hi h1 => ⟨h1, by simpa using hi⟩
  stop := fun H h1 => ⟨h1, by simp⟩
  yld := fun i H x H' hi h1 ⟨eH, k, v, hk, ex⟩ => by
    subst ex; subst eH
    refine ⟨Ex.refl _, _, ?_, tp_k k⟩
    rw [List.getElem?_map, hk]; rfl
end

/-! ### targets -/
section
variable {K : PySem.W.Frag} {σ : L2.St} {H : Hp} {Q : L2.St → Hp → Prop} {x : V}
theorem g_tup2 {i j : Nat} {d1 d2 : PyData} (h : Tp H x (.tuple [d1, d2])) (k : ∀ v1 v2, Tp H v1 d1 → Tp H v2 d2 → Q ((σ.set i (some v1)).set j (some v2)) H) : gTup K 2 (gCons (gName i) (gCons (gName j) gNil)) x σ H Q := by
  obtain ⟨a, xs, rfl, h1, h2⟩ := h.inv_tup
  obtain ⟨v1, r1, rfl, t1, h3⟩ := h2.inv_cons
  obtain ⟨v2, r2, rfl, t2, h4⟩ := h3.inv_cons
  have := h4.inv_nil
  subst this
  exact ⟨a, _, rfl, SqT.of h1, rfl, v1, _, rfl, v2, _, rfl, rfl, k v1 v2 t1 t2⟩
theorem g_tup3 {i j l : Nat} {d1 d2 d3 : PyData} (h : Tp H x (.tuple [d1, d2, d3])) (k : ∀ v1 v2 v3, Tp H v1 d1 → Tp H v2 d2 → Tp H v3 d3 → Q (((σ.set i (some v1)).set j (some v2)).set l (some v3)) H) : gTup K 3 (gCons (gName i) (gCons (gName j) (gCons (gName l) gNil))) x σ H Q := by
  obtain ⟨a, xs, rfl, h1, h2⟩ := h.inv_tup
  obtain ⟨v1, r1, rfl, t1, h3⟩ := h2.inv_cons
  obtain ⟨v2, r2, rfl, t2, h4⟩ := h3.inv_cons
  obtain ⟨v3, r3, rfl, t3, h5⟩ := h4.inv_cons
  have := h5.inv_nil
  subst this
  exact ⟨a, _, rfl, SqT.of h1, rfl, v1, _, rfl, v2, _, rfl, v3, _, rfl, rfl, k v1 v2 v3 t1 t2 t3⟩
end

/-! ### for -/
theorem for_wk {J : It} {S : Hp → Prop} {es : List PyData} {g : TG} {tb : TS} {D : Ends} {σ : L2.St} {H : Hp} (wk : Wk J S es) (Pv : Nat → L2.St → Hp → Prop) (h0 : Pv 0 σ H) (hS : ∀ i σ H, i ≤ es.length → Pv i σ H → S H)
    (hs : ∀ i σ H x H' e, es[i]? = some e → Pv i σ H → Ex H H' → Tp H' x e → g x σ H' fun σ2 H2 => tb { D with nx := Pv (i + 1), ct := Pv (i + 1), bk := D.nx } σ2 H2) (hd : ∀ σ H, Pv es.length σ H → D.nx σ H) :
    ∃ W : Nat → Nat → L2.St → Hp → Prop, (∃ m, W 0 m σ H) ∧ ∀ i m σ H, W i m σ H →
      (J.stop i H ∧ D.nx σ H) ∨ (J.go i H ∧ ∃ N : L2.St → Hp → Prop, (∀ σ' H', N σ' H' → ∃ m', m' < m ∧ W (i + 1) m' σ' H') ∧ ∀ x H', J.yld i H x H' → g x σ H' fun σ2 H2 => tb { D with nx := N, ct := N, bk := D.nx } σ2 H2) := by
  refine ⟨fun i m σ H => m = es.length - i ∧ i ≤ es.length ∧ Pv i σ H, ⟨es.length, by simp, Nat.zero_le _, h0⟩, ?_⟩
  rintro i m σ H ⟨rfl, hi, p⟩
  have hSH := hS i σ H hi p
  by_cases q : i = es.length
  · subst q
    exact .inl ⟨wk.stop H hSH, hd σ H p⟩
  · have hlt : i < es.length := by omega
    refine .inr ⟨wk.go i H hlt hSH, Pv (i + 1), fun σ' H' n => ⟨es.length - (i + 1), by omega, rfl, hlt, n⟩, fun x H' y => ?_⟩
    obtain ⟨e, d, hd', t⟩ := wk.yld i H x H' hlt hSH y
    exact hs i σ H x H' d hd' p e t

/-! ### comprehensions -/
theorem filterMap_snoc {α β : Type} (h : α → Option β) {as : List α} {i : Nat} {a : α} (e : as[i]? = some a) : (as.take (i + 1)).filterMap h = (as.take i).filterMap h ++ (match h a with | some b => [b] | none => []) := by
  have hl := (List.getElem?_eq_some_iff.mp e).1
  have e2 : as[i] = a := (List.getElem?_eq_some_iff.mp e).2
  rw [List.take_succ_eq_append_getElem hl, List.filterMap_append, e2]
  cases q : h a <;> simp [q]
theorem lc_data {α : Type} {J : It} {S : Hp → Prop} {as : List α} {enc : α → PyData} {g : TG} {tt : TT} {te : TE} {vs : List Nat} {σ : L2.St} {H1 : Hp} {D : Addr} {Qd : Hp → Prop} (wk : Wk J S (as.map enc)) (ms : ∀ H H', Ex H H' → S H → S H') (hS : S H1) (hn : as.length < 100000) (h : α → Option PyData)
    (turn : ∀ a x H, a ∈ as → Ex H1 H → S H → Tp H x (enc a) → ∀ Q : L2.St → Hp → Prop, (∀ σ2, wipe σ2 vs = wipe σ vs → EvT tt σ2 H (h a).isSome → (∀ d, h a = some d → EvD te σ2 H d) → Q σ2 H) → g x (wipe σ vs) H Q)
    (hD : H1 D = none) (hd : ∀ xs H2, Ex H1 H2 → H2 D = some (.lst xs) → TpL H2 xs (as.filterMap h) → Qd H2) :
    ∃ W : Nat → Nat → Hp → Prop, (∃ m, W 0 m (upd H1 D (.lst []))) ∧ ∀ i m H, W i m H →
      (J.stop i H ∧ Qd H) ∨ (J.go i H ∧ ∃ Nx : Hp → Prop, (∀ H', Nx H' → ∃ m', m' < m ∧ W (i + 1) m' H') ∧ ∀ x H', J.yld i H x H' → g x (wipe σ vs) H' fun σ2 H2 => wipe σ2 vs = wipe σ vs ∧ tt σ2 H2 fun b H3 =>
        if b = true then te σ2 H3 fun y H4 => ∃ acc, H4 D = some (.lst acc) ∧ acc.length < sizeLine ∧ Nx (upd H4 D (.lst (acc ++ [y]))) else Nx H3) := by
  let Pv : Nat → Hp → Prop := fun i H => Ex H1 H ∧ ∃ xs, H D = some (.lst xs) ∧ TpL H xs ((as.take i).filterMap h)
  have hlen : (as.map enc).length = as.length := List.length_map enc
  refine ⟨fun i m H => m = as.length - i ∧ i ≤ as.length ∧ Pv i H, ⟨as.length, by simp, Nat.zero_le _, Ex.mut (Ex.refl _) hD, [], upd_same, .nil⟩, ?_⟩
  rintro i m H ⟨rfl, hi, e1, xs, hx, tx⟩
  have hSH := ms _ _ e1 hS
  by_cases q : i = as.length
  · subst q
    rw [List.take_length] at tx
    rw [← hlen]
    exact .inl ⟨wk.stop H hSH, hd xs H e1 hx tx⟩
  · have hlt : i < as.length := by omega
    refine .inr ⟨wk.go i H (by rw [hlen]; exact hlt) hSH, Pv (i + 1), fun H' n => ⟨as.length - (i + 1), by omega, rfl, hlt, n⟩, fun x H' y => ?_⟩
    obtain ⟨e, d, hd', t⟩ := wk.yld i H x H' (by rw [hlen]; exact hlt) hSH y
    rw [List.getElem?_map] at hd'
    cases qa : as[i]? with
    | none => rw [qa] at hd'; cases hd'
    | some a =>
      rw [qa] at hd'
      cases hd'
      have ha : a ∈ as := List.mem_of_getElem? qa
      have e2 : Ex H1 H' := e1.trans e
      have hx' := e _ _ hx
      have hxl : xs.length < 100000 := by
        rw [tx.length]
        have := List.length_filterMap_le h (as.take i)
        have := List.length_take_le i as
        omega
      refine turn a x H' ha e2 (ms _ _ e hSH) t _ fun σ2 hw ht hv => ⟨hw, ht H' (Ex.refl _) _ fun H3 e3 => ?_⟩
      have snoc := filterMap_snoc h qa
      cases qh : h a with
      | none =>
        simp only [Option.isSome_none, Bool.false_eq_true, if_false]
        refine ⟨e2.trans e3, xs, e3 _ _ hx', ?_⟩
        rw [snoc, qh, List.append_nil]
        exact (tx.ex e).ex e3
      | some d =>
        simp only [Option.isSome_some, if_true]
        refine hv d qh H3 e3 _ fun v H4 e4 tv => ⟨xs, e4 _ _ (e3 _ _ hx'), sz_lt hxl, Ex.mut ((e2.trans e3).trans e4) hD, xs ++ [v], upd_same, ?_⟩
        have up : TX H4 (upd H4 D (.lst (xs ++ [v]))) := TX.upd_lst (e4 _ _ (e3 _ _ hx'))
        rw [snoc, qh]
        exact TpL.snoc ((((tx.ex e).ex e3).ex e4).tx up) (tv.tx up)
theorem et_yes {σ : L2.St} {H : Hp} : EvT tYes σ H true := fun H1 _ Q q => q H1 (Ex.refl H1)
theorem filterMap_some {α β : Type} (f : α → β) (as : List α) : as.filterMap (fun a => some (f a)) = as.map f := by
  induction as with
  | nil => rfl
  | cons a r ih => rw [List.filterMap_cons, List.map_cons, ih]
/-- [te for x in the list at a (if tt)]: a new list of data -/
theorem en_lcL {K : PySem.W.Frag} {α : Type} {as : List α} {enc : α → PyData} {a : Addr} {tl te : TE} {g : TG} {tt : TT} {vs : List Nat} {σ : L2.St} {H : Hp} (hl : Ev tl σ H (.ref a)) (hS : LsD a (as.map enc) H) (hn : as.length < 100000) (h : α → Option PyData)
    (turn : ∀ z x H1, z ∈ as → Ex H H1 → Tp H1 x (enc z) → ∀ Q : L2.St → Hp → Prop, (∀ σ2, wipe σ2 vs = wipe σ vs → EvT tt σ2 H1 (h z).isSome → (∀ d, h z = some d → EvD te σ2 H1 d) → Q σ2 H1) → g x (wipe σ vs) H1 Q) :
    EvN (tLc (iList K tl) g tt te vs) σ H (as.filterMap h) := fun H1 e Q q =>
  hl H1 e _ fun H2 e2 => by
    have S2 := LsD.ex (e.trans e2) hS
    obtain ⟨xs, hx, _⟩ := id S2
    exact ⟨a, rfl, ⟨xs, SqL.of hx⟩, fun D hD => lc_data (Qd := fun H => Q (.ref D) H) wk_list (fun _ _ e h => LsD.ex e h) S2 hn h (fun z x H3 hz e3 _ t Q' k => turn z x H3 hz ((e.trans e2).trans e3) t Q' k) hD fun xs H3 e3 h3 t3 => q D xs H3 (fresh_back e2 hD) (e2.trans e3) h3 t3⟩
/-- the same over a tuple of data -/
theorem en_lcT {K : PySem.W.Frag} {α : Type} {as : List α} {enc : α → PyData} {tl te : TE} {g : TG} {tt : TT} {vs : List Nat} {σ : L2.St} {H : Hp} (hl : EvD tl σ H (.tuple (as.map enc))) (hn : as.length < 100000) (h : α → Option PyData)
    (turn : ∀ z x H1, z ∈ as → Ex H H1 → Tp H1 x (enc z) → ∀ Q : L2.St → Hp → Prop, (∀ σ2, wipe σ2 vs = wipe σ vs → EvT tt σ2 H1 (h z).isSome → (∀ d, h z = some d → EvD te σ2 H1 d) → Q σ2 H1) → g x (wipe σ vs) H1 Q) :
    EvN (tLc (iTup K tl) g tt te vs) σ H (as.filterMap h) := fun H1 e Q q =>
  hl H1 e _ fun v H2 e2 tv => by
    obtain ⟨a, xs, rfl, hx, tx⟩ := tv.inv_tup
    exact ⟨a, rfl, ⟨xs, SqT.of hx⟩, fun D hD => lc_data (Qd := fun H => Q (.ref D) H) (S := TuD a (as.map enc)) wk_tup (fun _ _ e h => TuD.ex e h) ⟨xs, hx, tx⟩ hn h (fun z x H3 hz e3 _ t Q' k => turn z x H3 hz ((e.trans e2).trans e3) t Q' k) hD fun xs H3 e3 h3 t3 => q D xs H3 (fresh_back e2 hD) (e2.trans e3) h3 t3⟩
/-- over a text's signs -/
theorem en_lcS {z : Str} {tl te : TE} {g : TG} {tt : TT} {vs : List Nat} {σ : L2.St} {H : Hp} (hl : Ev tl σ H (.str z)) (hn : z.cps.toList.length < 100000) (h : Nat → Option PyData)
    (turn : ∀ c x H1, c ∈ z.cps.toList → Ex H H1 → Tp H1 x (.str ⟨#[c]⟩) → ∀ Q : L2.St → Hp → Prop, (∀ σ2, wipe σ2 vs = wipe σ vs → EvT tt σ2 H1 (h c).isSome → (∀ d, h c = some d → EvD te σ2 H1 d) → Q σ2 H1) → g x (wipe σ vs) H1 Q) :
    EvN (tLc (iStr tl) g tt te vs) σ H (z.cps.toList.filterMap h) := fun H1 e Q q =>
  hl H1 e _ fun H2 e2 => ⟨z, rfl, fun D hD => lc_data (Qd := fun H => Q (.ref D) H) (S := fun _ => True) (as := z.cps.toList) (enc := fun c => .str ⟨#[c]⟩) wk_str (fun _ _ _ _ => trivial) trivial hn h (fun z x H3 hz e3 _ t Q' k => turn z x H3 hz ((e.trans e2).trans e3) t Q' k) hD fun xs H3 e3 h3 t3 => q D xs H3 (fresh_back e2 hD) (e2.trans e3) h3 t3⟩
/-- over enumerate of the list at a -/
theorem en_lcE {K : PySem.W.Frag} {α : Type} {as : List α} {enc : α → PyData} {a : Addr} {tas : TA} {te : TE} {g : TG} {tt : TT} {vs : List Nat} {σ : L2.St} {H : Hp} (hl : EvAP tas σ H fun ws _ => ws = [.ref a]) (hS : LsD a (as.map enc) H) (hn : as.length < 100000) (h : Nat × α → Option PyData)
    (turn : ∀ i z x H1, as[i]? = some z → Ex H H1 → Tp H1 x (.tuple [.int (i : Nat), enc z]) → ∀ Q : L2.St → Hp → Prop, (∀ σ2, wipe σ2 vs = wipe σ vs → EvT tt σ2 H1 (h (i, z)).isSome → (∀ d, h (i, z) = some d → EvD te σ2 H1 d) → Q σ2 H1) → g x (wipe σ vs) H1 Q) :
    EvN (tLc (iEnum K tas) g tt te vs) σ H ((as.mapIdx fun i z => (i, z)).filterMap h) := fun H1 e Q q =>
  hl H1 e _ fun ws H2 e2 hw => by
    have S2 := LsD.ex (e.trans e2) hS
    obtain ⟨xs, hx, _⟩ := id S2
    have ee : enumD (as.map enc) = (as.mapIdx fun i z => (i, z)).map fun p : Nat × α => PyData.tuple [.int (p.1 : Nat), enc p.2] := by
      unfold enumD
      refine List.ext_getElem? fun i => ?_
      simp only [List.getElem?_mapIdx, List.getElem?_map]
      cases as[i]? <;> rfl
    have wk := wk_enum (K := K) (a := a) (es := as.map enc)
    rw [ee] at wk
    refine ⟨a, xs, hw, SqL.of hx, fun D hD => lc_data (Qd := fun H => Q (.ref D) H) wk (fun _ _ e h => LsD.ex e h) S2 (by simpa using hn) h (fun p x H3 hz e3 _ t Q' k => ?_) hD fun xs H3 e3 h3 t3 => q D xs H3 (fresh_back e2 hD) (e2.trans e3) h3 t3⟩
    obtain ⟨i, hi⟩ := List.mem_iff_getElem?.mp hz
    rw [List.getElem?_mapIdx] at hi
    cases qa : as[i]? with
    | none => rw [qa] at hi; cases hi
    | some z =>
      rw [qa] at hi
      cases hi
      exact turn i z x H3 qa ((e.trans e2).trans e3) t Q' k
/-- over a range -/
theorem en_lcR {tas : TA} {lo hi : Int} {te : TE} {g : TG} {tt : TT} {vs : List Nat} {σ : L2.St} {H : Hp} (hl : EvAP tas σ H fun ws _ => ws = [.int lo, .int hi]) (hb : 0 ≤ lo ∧ lo ≤ 1000 ∧ 0 ≤ hi ∧ hi ≤ 1000) (h : Nat → Option PyData)
    (turn : ∀ i x H1, i < (hi - lo).toNat → Ex H H1 → Tp H1 x (.int (lo + (i : Nat))) → ∀ Q : L2.St → Hp → Prop, (∀ σ2, wipe σ2 vs = wipe σ vs → EvT tt σ2 H1 (h i).isSome → (∀ d, h i = some d → EvD te σ2 H1 d) → Q σ2 H1) → g x (wipe σ vs) H1 Q) :
    EvN (tLc (iRng2 tas) g tt te vs) σ H ((List.range (hi - lo).toNat).filterMap h) := fun H1 e Q q =>
  hl H1 e _ fun ws H2 e2 hw => ⟨lo, hi, hw, ⟨by omega, by omega, by omega, by omega⟩, fun D hD => lc_data (Qd := fun H => Q (.ref D) H) (S := fun _ => True) (as := List.range (hi - lo).toNat) (enc := fun i => .int (lo + (i : Nat))) wk_rng (fun _ _ _ _ => trivial) trivial (by rw [List.length_range]; omega) h (fun i x H3 hz e3 _ t Q' k => turn i x H3 (List.mem_range.mp hz) ((e.trans e2).trans e3) t Q' k) hD fun xs H3 e3 h3 t3 => q D xs H3 (fresh_back e2 hD) (e2.trans e3) h3 t3⟩
end K49W

-- part K49Text
/-! The text by places, and a def's rule. -/
namespace K49W
open PySem PySem.Spec PyProof.Rows L2 Evl
/-! ### the text by places -/
def top (i : Nat) : Stmt := PySem.Challenge.pw_editedframes_k49_whole_what_two_shapes_s.main.body.getD i (.Pass ⟨0, 0, 0, 0⟩)
/-- a def at the top, by its place and name -/
def dG (i : Nat) (x : Str) : He.DefD := ⟨(x, none), x, x, defArgs (top i), defBody (top i), defScope (top i), [], []⟩
/-- a method of Shape -/
def dM (j : Nat) (m q : Str) : He.DefD := ⟨("Shape", some m), m, q, defArgs (inClass (top 19) j), defBody (inClass (top 19) j), defScope (inClass (top 19) j), [], []⟩
def dInit : He.DefD := { dM 0 "__init__" "Shape.__init__" with dfl := [.adr (He.dflAt ("Shape", some "__init__") 0), .adr (He.dflAt ("Shape", some "__init__") 1), .adr (He.dflAt ("Shape", some "__init__") 2)] }
def fn : List He.DefD := [dG 7 "is_name", dG 10 "is_index", dG 11 "is_node", dG 12 "are_nodes", dG 13 "are_places", dG 14 "check_shape", dG 15 "merged", dG 16 "numbers_for", dG 17 "ordered", dG 18 "tidied",
  dInit, dM 1 "as_rows" "Shape.as_rows", dM 8 "__and__" "Shape.__and__", dM 9 "__le__" "Shape.__le__", dM 11 "__ge__" "Shape.__ge__", dM 13 "__eq__" "Shape.__eq__",
  dG 20 "seen_node", dG 21 "joined_sides", dG 22 "operand_pairs", dG 23 "met_node", dG 24 "met_rows", dG 25 "does_follow",
  dG 27 "_law_pool_of", dG 28 "_law_draw", dG 29 "_law_pick", dG 30 "_law_shape_rows", dG 31 "_law_term_of", dG 32 "_law_terms_of", dG 33 "_law_flat", dG 34 "_law_rows_of_terms", dG 35 "_law_shaped",
  dG 36 "_law_common_term", dG 37 "_law_common_terms", dG 38 "_law_near_rows", dG 39 "law"]
def faG : List Str := ["Shape", "is_name", "is_index", "is_node", "are_nodes", "are_places", "check_shape", "merged", "numbers_for", "ordered", "tidied", "seen_node", "joined_sides", "operand_pairs", "met_node", "met_rows", "does_follow",
  "_law_pool_of", "_law_draw", "_law_pick", "_law_shape_rows", "_law_term_of", "_law_terms_of", "_law_flat", "_law_rows_of_terms", "_law_shaped", "_law_common_term", "_law_common_terms", "_law_near_rows", "law"]
def faF : List Str := ["isinstance", "str", "len", "all", "int", "bool", "tuple", "list", "enumerate", "sorted", "zip", "NotImplemented", "sum", "abs", "dict", "range", "max", "min"]
def fa : List He.Fa := faG.map .glo ++ faF.map .free ++ [.int "MOST_LETTERS" 8, .int "MOST_OPERANDS" 3, .str "LETTERS" "abcdefghijklmnopqrstuvwxyz", .cls "Shape", .mkr "Shape",
  .noat "Shape" "nodes", .noat "Shape" "olds", .noat "Shape" "news", .meth "Shape" "as_rows", .meth "Shape" "__and__", .meth "Shape" "__le__", .meth "Shape" "__ge__", .meth "Shape" "__eq__"]

/-! ### a def and its rule -/
def Df (K : PySem.W.Frag) (d : He.DefD) : Prop := ∃ fd, FunD K d.name d.qual d.params d.body d.scope (d.dvs K) (d.kws K) (He.fAd K d.at_) fd
/-- what the module's names hold -/
structure Nm (K : PySem.W.Frag) (mg : Str → Option Value) : Prop where
  fr : ∀ x ∈ faF, mg x = none
  gl : ∀ x ∈ faG, mg x = some (.ref (He.ga K x))
  ml : ∃ t, mg "MOST_LETTERS" = some (.int 8 t)
  mo : ∃ t, mg "MOST_OPERANDS" = some (.int 3 t)
  lt : ∃ t, mg "LETTERS" = some (.str "abcdefghijklmnopqrstuvwxyz" t)
section
variable {P : Program} {w : World} {K : PySem.W.Frag} {mg : Str → Option Value} {base : Heap}
theorem Nm.f (T : Nm K mg) (x : Str) (h : x ∈ faF := by decide +kernel) : mg x = none := T.fr x h
theorem Nm.g (T : Nm K mg) (x : Str) (h : x ∈ faG := by decide +kernel) : mg x = some (.ref (He.ga K x)) := T.gl x h
/-- the promise of a def at the top, from its body's walk -/
theorem cal_of {i : Nat} {x : Str} {k : Nat} {N ps : List Str} {sp : Sp} (T : Nm K mg) (F : Df K (dG i x)) (hx : x ∈ faG) (S : FnScope N ps (defScope (top i)))
    (hb : ∀ (kV doc pm : Value) (an : Option Addr) (cdv ct : Value) (us : List Value), us.length = ps.length → bindArgs (PySem.W.fnOf x x (defArgs (top i)) (defBody (top i)) (defScope (top i)) .none kV doc pm an cdv ct) ⟨us, []⟩ = pure (ps.zip us))
    (len : ∀ vs H Q E, sp vs H Q E → vs.length = ps.length)
    (hbody : ∀ (cdv : Value) (A : Around) (outer : List Env) (s : Shared) (H : Hp) (vs : List V) (Q : VK) (E : XK), Room k (A.deeper (envOfC x (defScope (top i)) s.heap.objs.size (He.ga K x) cdv)) → sp vs H Q E →
      ∃ t, PSs (cxOf CX0 P w K mg base N x (defScope (top i)) (He.ga K x) cdv A outer s H E).nox (defBody (top i)) t ∧ t { nx := fun _ H' => Q .non H', rt := Q } (start N vs) H) : Cal P w K mg base (k + 1) x ps sp := by
  obtain ⟨fd, F⟩ := F
  refine ⟨He.ga K x, fd, T.gl x hx, FunD.ok (F : FunD K x x (defArgs (top i)) (defBody (top i)) (defScope (top i)) [] [] (He.ga K x) fd) S len fun cdv A outer s H vs Q E hr hsp => ?_, F.kp, FunD.bindsN (F : FunD K x x (defArgs (top i)) (defBody (top i)) (defScope (top i)) [] [] (He.ga K x) fd) hb⟩
  obtain ⟨t, h, q⟩ := hbody cdv A outer s H vs Q E hr hsp
  exact ⟨t, h.nox, q⟩
end
end K49W

-- part K49F1
namespace K49W
open PySem PySem.Spec PyProof.Rows L2 Evl
section
variable {P : Program} {w : World} {K : PySem.W.Frag} {mg : Str → Option Value} {base : Heap}

/-! ### is_index -/
theorem sc_is_index : FnScope ["value", "many"] ["value", "many"] (defScope (top 10)) := ⟨rfl, rfl, rfl, by decide +kernel, rfl, by decide +kernel, by decide +kernel⟩
def spIndex : Sp := fun vs H Q _ => ∃ (i n : Int), vs = [.int i, .int n] ∧ 0 ≤ i ∧ i < n ∧ ∀ H', Ex H H' → Q (.bl true) H'
theorem ev_isi {te : TE} {σ : L2.St} {H : Hp} {v : V} {t : Value} {n : String} {b : Bool} (h : Ev te σ H v) (ty : ∀ H1, Ex H H1 → L2.TyX K H1 v t) (hb : PySem.W.kitOne K t (.type n) = some b) :
    Ev (tCB (L2.rIsi K) (tCons te (tCons (tC (.ty n)) tNil))) σ H (.bl b) := fun H1 e Q q =>
  h H1 e _ fun H2 e2 => ⟨v, .ty n, t, .type n, b, rfl, .ty n, ty H2 (e.trans e2), hb, q H2 e2⟩
theorem cal_is_index (T : Nm K mg) (F : Df K (dG 10 "is_index")) : Cal P w K mg base 1 "is_index" ["value", "many"] spIndex := by
  refine cal_of T F (by decide +kernel) sc_is_index (fun _ _ _ _ _ _ us hl => match us, hl with | [_, _], _ => rfl) (fun vs H Q E h => ?_) fun cdv A outer s H vs Q E hr h => ?_
  · obtain ⟨i, n, rfl, _⟩ := h
    rfl
  · obtain ⟨i, n, rfl, h0, h1, k⟩ := h
    refine ⟨_, pss_one (ps_ret (pe_and (pe_callB L2.call_isi (by rfl) (T.f "isinstance") (by decide +kernel) (pa_cons (pv 0) (pa_cons (pe_bltn (v := .ty "int") (by rfl) (T.f "int") (by decide +kernel) rfl) pa_nil)))
      (pe_and (pe_not (pe_callB L2.call_isi (by rfl) (T.f "isinstance") (by decide +kernel) (pa_cons (pv 0) (pa_cons (pe_bltn (v := .ty "bool") (by rfl) (T.f "bool") (by decide +kernel) rfl) pa_nil))))
      (pe_one (pe_chain op_le op_lt pe_int (pv 0) (pv 1)))))), ?_⟩
    have i1 : Ev (tVar 0) (start ["value", "many"] [.int i, .int n]) H (.int i) := ev_var rfl
    refine s_ret (v := .bl true) (ev_is (ev_andV (a := true) (b := true) (ev_isi i1 (fun H1 e => .base (.int i)) (L2.kit_ty (by decide +kernel))) fun _ => ev_is (ev_andV (a := true) (b := true) (ev_is (ev_notV (a := false) (ev_isi i1 (fun H1 e => .base (.int i)) (L2.kit_ty (by decide +kernel)))) rfl) fun _ => ?_) rfl) rfl) fun H1 e => k H1 e
    intro H1 e Q q
    refine ⟨_, rfl, 0, i, rfl, rfl, true, ?_, ?_⟩
    · simp [h0]
    · exact ⟨_, rfl, i, n, rfl, rfl, by simp [h1]; exact q H1 (Ex.refl _)⟩
end
end K49W

-- part K49F2
namespace K49W
open PySem PySem.Spec PyProof.Rows L2 Evl
/-! ### all([..]) -/
theorem TpL.bls {H : Hp} : ∀ {vs : List V} {bs : List Bool}, TpL H vs (bs.map PyData.bool) → vs = bs.map V.bl
  | _, [], .nil => rfl
  | _, i :: is, .cons a b => by rw [a.inv_bl, TpL.bls b]; rfl
theorem ev_all {K : PySem.W.Frag} {te : TE} {σ : L2.St} {H : Hp} {bs : List Bool} (h : EvN te σ H (bs.map PyData.bool)) : Ev (tCB (L2.rAll K) (tCons te tNil)) σ H (.bl (bs.all id)) := fun H1 e Q q =>
  h H1 e _ fun p xs H2 hp e2 hl t => ⟨p, bs, rfl, by rw [← t.bls]; exact SqL.of hl, q H2 e2⟩
theorem ev_allT {K : PySem.W.Frag} {te : TE} {σ : L2.St} {H : Hp} {ds : List PyData} (h : EvN te σ H ds) (hd : ∀ d ∈ ds, d = .bool true) : Ev (tCB (L2.rAll K) (tCons te tNil)) σ H (.bl true) := by
  have e : ds = (ds.map fun _ => true).map PyData.bool := by
    rw [List.map_map]
    conv => lhs; rw [← List.map_id ds]
    exact List.map_congr_left fun d hm => hd d hm
  rw [e] at h
  refine ev_is (ev_all h) ?_
  have : (ds.map fun _ => true).all id = true := by simp
  rw [this]
theorem mem_fm {α : Type} {as : List α} {d : PyData} {h : α → Option PyData} (m : d ∈ as.filterMap h) : ∃ a ∈ as, h a = some d := List.mem_filterMap.mp m
/-! ### names -/
abbrev letters : Str := "abcdefghijklmnopqrstuvwxyz"
def nmOk (z : Str) : Bool := decide (1 ≤ z.length) && decide (z.length ≤ 8) && z.cps.toList.all fun c => decide (c ∈ letters.cps.toList)
theorem nmOk_iff {z : Str} (h : nmOk z = true) : 1 ≤ z.length ∧ z.length ≤ 8 ∧ ∀ c ∈ z.cps.toList, c ∈ letters.cps.toList := by
  unfold nmOk at h
  simp only [Bool.and_eq_true, decide_eq_true_eq, List.all_eq_true] at h
  exact ⟨h.1.1, h.1.2, h.2⟩
section
variable {P : Program} {w : World} {K : PySem.W.Frag} {mg : Str → Option Value} {base : Heap}
theorem sc_is_name : FnScope ["value", "sign"] ["value"] (defScope (top 7)) := ⟨rfl, rfl, rfl, by decide +kernel, rfl, by decide +kernel, by decide +kernel⟩
def spName : Sp := fun vs H Q _ => ∃ z : Str, vs = [.str z] ∧ nmOk z = true ∧ ∀ H', Ex H H' → Q (.bl true) H'
theorem cal_is_name (T : Nm K mg) (F : Df K (dG 7 "is_name")) : Cal P w K mg base 1 "is_name" ["value"] spName := by
  refine cal_of T F (by decide +kernel) sc_is_name (fun _ _ _ _ _ _ us hl => match us, hl with | [_], _ => rfl) (fun vs H Q E h => ?_) fun cdv A outer s H vs Q E hr h => ?_
  · obtain ⟨z, rfl, _⟩ := h
    rfl
  · obtain ⟨z, rfl, hz, k⟩ := h
    obtain ⟨z1, z2, z3⟩ := nmOk_iff hz
    obtain ⟨tm, hml⟩ := T.ml
    obtain ⟨tl, hlt⟩ := T.lt
    refine ⟨_, pss_one (ps_ret (pe_and (pe_callB L2.call_isi (by rfl) (T.f "isinstance") (by decide +kernel) (pa_cons (pv 0) (pa_cons (pe_bltn (v := .ty "str") (by rfl) (T.f "str") (by decide +kernel) rfl) pa_nil)))
      (pe_and (pe_chain op_le op_le pe_int (pe_callB call_len_str (by rfl) (T.f "len") (by decide +kernel) (pa_cons (pv 0) pa_nil)) (pe_glob (v := .int 8) rfl hml ⟨_, rfl⟩))
      (pe_one (pe_callB (cr_all rfl) (by rfl) (T.f "all") (by decide +kernel) (pa_cons
        (pe_lc (own := [("sign", 1)]) (g := gName 1) (tt := tYes) rfl sc_is_name.nd (pi_str (pv 0)) (blkOk_by (own := [("sign", 1)]) (N := ["value", "sign"]) (sc := defScope (top 7)) (by decide +kernel))
          (fun _ _ _ _ _ => pg_name (i := 1) sc_is_name.nd rfl (Or.inl rfl)) (fun _ _ _ _ _ => pts_nil) (fun _ _ _ _ _ => pe_cmpR op_in_sign (pv 1) (pe_glob (v := .str letters) rfl hlt ⟨_, rfl⟩) rfl)) pa_nil)))))), ?_⟩
    have i1 : Ev (tVar 0) (start ["value", "sign"] [.str z]) H (.str z) := ev_var rfl
    refine s_ret (v := .bl true) (ev_is (ev_andV (a := true) (b := true) (ev_isi i1 (fun H1 e => .base (.str z)) (L2.kit_ty (by decide +kernel))) fun _ => ev_is (ev_andV (a := true) (b := true) ?_ fun _ => ?_) rfl) rfl) fun H1 e => k H1 e
    · intro H1 e Q q
      refine ⟨_, rfl, z, rfl, Nat.le_trans z2 (by decide), 1, z.length, rfl, rfl, true, ?_, ?_⟩
      · have : (1 : Int) ≤ (z.length : Int) := by omega
        simp [this]
      · refine ⟨z.length, 8, rfl, rfl, ?_⟩
        have : (z.length : Int) ≤ 8 := by omega
        simp [this]
        exact q H1 (Ex.refl _)
    · refine ev_allT (en_lcS i1 (by have : z.cps.toList.length = z.length := by simp [Str.length]
                                    omega) (fun c => some (.bool (decide (c ∈ letters.cps.toList)))) fun c x H1 hc e t Q' kk => ?_) fun d hd => ?_
      · have := t.inv_str
        subst this
        refine kk _ rfl et_yes fun d hd => ?_
        cases hd
        refine bl_d ?_
        intro H2 e2 Q q
        exact ⟨_, rfl, c, letters, rfl, rfl, q H2 (Ex.refl _)⟩
      · obtain ⟨c, hc, e⟩ := mem_fm hd
        cases e
        rw [decide_eq_true (z3 c hc)]
end
end K49W

-- part K49F3
namespace K49W
open PySem PySem.Spec PyProof.Rows L2 Evl
open K49 (Nd)
/-! ### nodes as data -/
def pyN : Nd Str → PyData
  | .opn => .none
  | .non => .tuple []
  | .op f xs => .tuple [.str f, .tuple (xs.map fun i => .int (i : Nat))]
def NdOk (n : Nat) : Nd Str → Prop
  | .op f xs => nmOk f = true ∧ xs.length ≤ 3 ∧ ∀ x ∈ xs, x < n
  | _ => True
section
variable {te : TE} {σ : L2.St} {H : Hp} {K : PySem.W.Frag} {ds : List PyData} {z : Str} {v : V} {d : PyData}
theorem ev_isiTup (h : EvD te σ H (.tuple ds)) : Ev (tCB (L2.rIsi K) (tCons te (tCons (tC (.ty "tuple")) tNil))) σ H (.bl true) := fun H1 e Q q =>
  h H1 e _ fun v H2 e2 t => by
    obtain ⟨a, xs, rfl, ht, _⟩ := t.inv_tup
    exact ⟨.ref a, .ty "tuple", .type "tuple", .type "tuple", true, rfl, .ty _, .base (.tup ht), L2.kit_ty (by decide +kernel), q H2 e2⟩
theorem ev_isiInt {i : Int} (h : Ev te σ H (.int i)) : Ev (tCB (L2.rIsi K) (tCons te (tCons (tC (.ty "int")) tNil))) σ H (.bl true) := ev_isi h (fun _ _ => .base (.int i)) (L2.kit_ty (by decide +kernel))
theorem ev_name (h : EvD te σ H (.str z)) (hz : nmOk z = true) : Ev (tCall spName [] E0 (tCons te tNil)) σ H (.bl true) := fun H1 e Q q =>
  d_str h H1 e _ fun H2 e2 => ⟨z, rfl, hz, fun H3 e3 => q H3 (e2.trans e3)⟩
theorem ev_index {tf : TE} {i n : Int} (h : Ev te σ H (.int i)) (h' : Ev tf σ H (.int n)) (h0 : 0 ≤ i) (h1 : i < n) : Ev (tCall spIndex [] E0 (tCons te (tCons tf tNil))) σ H (.bl true) := fun H1 e Q q =>
  h H1 e _ fun H2 e2 => h' H2 (e.trans e2) _ fun H3 e3 => ⟨i, n, rfl, h0, h1, fun H4 e4 => q H4 ((e2.trans e3).trans e4)⟩
/-- two ints, two texts compared -/
theorem ev_eqI {tf : TE} {i j : Int} (h : Ev te σ H (.int i)) (h' : Ev tf σ H (.int j)) : Ev (tOp rEq te tf) σ H (.bl (decide (i = j))) := ev_is (ev_op h h' (rv_eq rfl)) (by by_cases q : i = j <;> simp [q])
theorem ev_neI {tf : TE} {i j : Int} (h : Ev te σ H (.int i)) (h' : Ev tf σ H (.int j)) : Ev (tOp rNe te tf) σ H (.bl (!decide (i = j))) := ev_is (ev_op h h' (rv_ne rfl)) (by by_cases q : i = j <;> simp [q])
theorem ev_eqS {tf : TE} {i j : Str} (h : Ev te σ H (.str i)) (h' : Ev tf σ H (.str j)) : Ev (tOp rEq te tf) σ H (.bl (decide (i = j))) := ev_is (ev_op h h' (rv_eq rfl)) (by by_cases q : i = j <;> simp [q])
theorem ev_neS {tf : TE} {i j : Str} (h : Ev te σ H (.str i)) (h' : Ev tf σ H (.str j)) : Ev (tOp rNe te tf) σ H (.bl (!decide (i = j))) := ev_is (ev_op h h' (rv_ne rfl)) (by by_cases q : i = j <;> simp [q])
end
section
variable {P : Program} {w : World} {K : PySem.W.Frag} {mg : Str → Option Value} {base : Heap}
theorem sc_is_node : FnScope ["value", "at", "item"] ["value", "at"] (defScope (top 11)) := ⟨rfl, rfl, rfl, by decide +kernel, rfl, by decide +kernel, by decide +kernel⟩
def spNode : Sp := fun vs H Q _ => ∃ (v : V) (n : Nat) (nd : Nd Str), vs = [v, .int (n : Nat)] ∧ Tp H v (pyN nd) ∧ NdOk n nd ∧ ∀ H', Ex H H' → Q (.bl true) H'
theorem cal_is_node (T : Nm K mg) (F : Df K (dG 11 "is_node")) (cI : Cal P w K mg base 1 "is_index" ["value", "many"] spIndex) (cN : Cal P w K mg base 1 "is_name" ["value"] spName) : Cal P w K mg base 2 "is_node" ["value", "at"] spNode := by
  refine cal_of T F (by decide +kernel) sc_is_node (fun _ _ _ _ _ _ us hl => match us, hl with | [_, _], _ => rfl) (fun vs H Q E h => ?_) fun cdv A outer s H vs Q E hr h => ?_
  · obtain ⟨v, n, nd, rfl, _⟩ := h
    rfl
  · obtain ⟨v, n, nd, rfl, tv, ok, k⟩ := h
    obtain ⟨tm, hmo⟩ := T.mo
    refine ⟨_, pss_cons (ps_if (pt_cmp (pc_isN (pv 0))) (pss_one (ps_ret pe_bl)) pss_nil)
      (pss_cons (ps_if (PW.pt (pw_or (pt_not (pt_val (pe_callB L2.call_isi (by rfl) (T.f "isinstance") (by decide +kernel) (pa_cons (pv 0) (pa_cons (pe_bltn (v := .ty "tuple") (by rfl) (T.f "tuple") (by decide +kernel) rfl) pa_nil)))))
          (pw_or1 (pt_cmpR op_eq (pe_callB call_len_seq (by rfl) (T.f "len") (by decide +kernel) (pa_cons (pv 0) pa_nil)) pe_int (nomark _)))))
        (pss_one (ps_ret (pe_callB L2.call_isi (by rfl) (T.f "isinstance") (by decide +kernel) (pa_cons (pv 0) (pa_cons (pe_bltn (v := .ty "tuple") (by rfl) (T.f "tuple") (by decide +kernel) rfl) pa_nil))))) pss_nil)
      (pss_cons (ps_if (PW.pt (pw_or (pt_cmpR op_ne (pe_callB call_len_seq (by rfl) (T.f "len") (by decide +kernel) (pa_cons (pv 0) pa_nil)) pe_int (nomark _))
          (pw_or (pt_not (pt_val (pe_cal cN (hr.mono (by decide)) (by rfl) (pa_cons (pe_ix ix_tup (pv 0) pe_int (fun _ _ => rfl)) pa_nil))))
          (pw_or1 (pt_not (pt_val (pe_callB L2.call_isi (by rfl) (T.f "isinstance") (by decide +kernel) (pa_cons (pe_ix ix_tup (pv 0) pe_int (fun _ _ => rfl)) (pa_cons (pe_bltn (v := .ty "tuple") (by rfl) (T.f "tuple") (by decide +kernel) rfl) pa_nil))))))))) (pss_one (ps_ret pe_bl)) pss_nil)
      (pss_one (ps_ret (pe_and (pe_cmpR op_le (pe_callB call_len_seq (by rfl) (T.f "len") (by decide +kernel) (pa_cons (pe_ix ix_tup (pv 0) pe_int (fun _ _ => rfl)) pa_nil)) (pe_glob (v := .int 3) rfl hmo ⟨_, rfl⟩) (nomark _))
        (pe_one (pe_callB (cr_all rfl) (by rfl) (T.f "all") (by decide +kernel) (pa_cons
          (pe_lc (own := [("item", 2)]) (g := gName 2) (tt := tYes) rfl sc_is_node.nd (pi_tup (pe_ix ix_tup (pv 0) pe_int (fun _ _ => rfl))) (blkOk_by (own := [("item", 2)]) (N := ["value", "at", "item"]) (sc := defScope (top 11)) (by decide +kernel))
            (fun _ _ _ _ _ => pg_name (i := 2) sc_is_node.nd rfl (Or.inl rfl)) (fun _ _ _ _ _ => pts_nil) (fun _ _ _ _ _ => pe_cal cI (hr.mono (by decide)) (by rfl) (pa_cons (pv 2) (pa_cons (pv 1) pa_nil)))) pa_nil)))))))), ?_⟩
    have i0 : EvD (tVar 0) (start ["value", "at", "item"] [v, .int (n : Nat)]) H (pyN nd) := ed_var rfl tv
    refine s_if (et_B (ev_isNo i0)) (fun _ H1 e1 => s_ret ev_c fun H2 e2 => k H2 (e1.trans e2)) fun hne H1 e1 => ?_
    have hne' : pyN nd ≠ .none := by simpa using hne
    obtain ⟨ds, hds⟩ : ∃ ds, pyN nd = .tuple ds := by
      cases nd with
      | opn => exact absurd rfl hne'
      | non => exact ⟨_, rfl⟩
      | op f xs => exact ⟨_, rfl⟩
    have i1 := (ed_is i0 hds).mono e1
    refine s_if (et_or (et_not (et_B (ev_isiTup i1))) fun _ => et_test (ev_eqI (ev_lenD i1) ev_c)) (fun _ H2 e2 => s_ret (ev_isiTup (i1.mono e2)) fun H3 e3 => k H3 ((e1.trans e2).trans e3)) fun hl H2 e2 => ?_
    have hl' : ds.length ≠ 0 := by
      intro z
      rw [z] at hl
      simp at hl
    cases nd with
    | opn => exact absurd rfl hne'
    | non =>
      cases hds
      exact absurd rfl hl'
    | op f xs =>
      cases hds
      obtain ⟨o1, o2, o3⟩ := ok
      have i2 := i1.mono e2
      have a0 := ed_ixT (K := K) i2 (ev_c (v := .int 0)) (j := 0) rfl rfl
      have a1 := ed_ixT (K := K) i2 (ev_c (v := .int 1)) (j := 1) rfl rfl
      refine s_if (et_is (et_or (et_test (ev_neI (ev_lenD i2) ev_c)) fun _ => et_or (et_not (et_B (ev_name a0 o1))) fun _ => et_not (et_B (ev_isiTup a1))) (b := false) rfl) (fun z => by cases z) fun _ H3 e3 => ?_
      refine s_ret (v := .bl true) (ev_is (ev_andV (a := true) (b := true) (ev_is (ev_op (ev_lenD (a1.mono e3)) ev_c rv_I0) ?_) fun _ => ?_) rfl) fun H4 e4 => k H4 (((e1.trans e2).trans e3).trans e4)
      · have : (xs.length : Int) ≤ 3 := by omega
        simp [this]
      · refine ev_allT (en_lcT (as := xs) (enc := fun i : Nat => PyData.int (i : Nat)) (a1.mono e3) (by omega) (fun _ => some (.bool true)) fun z x H4 hz e4 t Q' kk => ?_) fun d hd => ?_
        · have := t.inv_int
          subst this
          refine kk _ rfl et_yes fun d hd => ?_
          cases hd
          have := o3 z hz
          exact bl_d (ev_index (ev_var rfl) (ev_var rfl) (by omega) (by omega))
        · obtain ⟨c, hc, e⟩ := mem_fm hd
          cases e
          rfl
theorem sc_are_nodes : FnScope ["value", "at", "node"] ["value"] (defScope (top 12)) := ⟨rfl, rfl, rfl, by decide +kernel, rfl, by decide +kernel, by decide +kernel⟩
def NsOk (ns : List (Nd Str)) : Prop := ns.length < 1000 ∧ ∀ (i : Nat) nd, ns[i]? = some nd → NdOk i nd
def spNodes : Sp := fun vs H Q _ => ∃ (a : Addr) (ns : List (Nd Str)), vs = [.ref a] ∧ LsD a (ns.map pyN) H ∧ NsOk ns ∧ ∀ H', Ex H H' → Q (.bl true) H'
/-- isinstance(a list, (list, tuple)) -/
theorem ev_isiLT {te : TE} {σ : L2.St} {H : Hp} {a : Addr} {xs : List V} (h : Ev te σ H (.ref a)) (hl : H a = some (.lst xs)) : Ev (tCB (L2.rIsiT K) (tCons te (tCons (tTup (tCons (tC (.ty "list")) (tCons (tC (.ty "tuple")) tNil))) tNil))) σ H (.bl true) := fun H1 e Q q =>
  h H1 e _ fun H2 e2 => ⟨by decide, fun p hp => ⟨.ref a, p, _, .type "list", [.type "list", .type "tuple"], true, rfl, upd_same, .cons (.ty _) (.cons (.ty _) .nil), .base (.lst ((e2.trans (Ex.new hp)) _ _ (e _ _ hl))),
    L2.kitAny_cons (b := true) (L2.kit_ty (by decide +kernel)) (fun z => by cases z) (fun _ => rfl), q _ (e2.trans (Ex.new hp))⟩⟩
theorem cal_are_nodes (T : Nm K mg) (F : Df K (dG 12 "are_nodes")) (cN : Cal P w K mg base 2 "is_node" ["value", "at"] spNode) : Cal P w K mg base 3 "are_nodes" ["value"] spNodes := by
  refine cal_of T F (by decide +kernel) sc_are_nodes (fun _ _ _ _ _ _ us hl => match us, hl with | [_], _ => rfl) (fun vs H Q E h => ?_) fun cdv A outer s H vs Q E hr h => ?_
  · obtain ⟨a, ns, rfl, _⟩ := h
    rfl
  · obtain ⟨a, ns, rfl, hl, ok, k⟩ := h
    refine ⟨_, pss_one (ps_ret (pe_and (pe_callB L2.call_isiT (by rfl) (T.f "isinstance") (by decide +kernel) (pa_cons (pv 0) (pa_cons (pe_tup (pa_cons (pe_bltn (v := .ty "list") (by rfl) (T.f "list") (by decide +kernel) rfl) (pa_cons (pe_bltn (v := .ty "tuple") (by rfl) (T.f "tuple") (by decide +kernel) rfl) pa_nil))) pa_nil)))
      (pe_one (pe_callB (cr_all rfl) (by rfl) (T.f "all") (by decide +kernel) (pa_cons
        (pe_lc (own := [("at", 1), ("node", 2)]) (g := gTup K 2 (gCons (gName 1) (gCons (gName 2) gNil))) (tt := tYes) rfl sc_are_nodes.nd (pi_enum (by rfl) (T.f "enumerate") (pa_cons (pv 0) pa_nil)) (blkOk_by (own := [("at", 1), ("node", 2)]) (N := ["value", "at", "node"]) (sc := defScope (top 12)) (by decide +kernel))
          (fun _ _ _ _ _ => pg_tup rfl (pgs_cons (pg_name (i := 1) sc_are_nodes.nd rfl (Or.inl rfl)) (pgs_cons (pg_name (i := 2) sc_are_nodes.nd rfl (Or.inl rfl)) pgs_nil))) (fun _ _ _ _ _ => pts_nil) (fun _ _ _ _ _ => pe_cal cN (hr.mono (by decide)) (by rfl) (pa_cons (pv 2) (pa_cons (pv 1) pa_nil)))) pa_nil))))), ?_⟩
    have i0 : Ev (tVar 0) (start ["value", "at", "node"] [.ref a]) H (.ref a) := ev_var rfl
    obtain ⟨xs, hx, _⟩ := id hl
    refine s_ret (v := .bl true) (ev_is (ev_andV (a := true) (b := true) (ev_isiLT i0 hx) fun _ => ?_) rfl) fun H1 e => k H1 e
    refine ev_allT (en_lcE (as := ns) (enc := pyN) (a := a) (fun H1 e Q q => i0 H1 e _ fun H2 e2 => q _ H2 e2 rfl) hl (by have := ok.1; omega) (fun _ => some (.bool true)) fun i z x H4 hz e4 t Q' kk => ?_) fun d hd => ?_
    · refine g_tup2 t fun v1 v2 t1 t2 => ?_
      have := t1.inv_int
      subst this
      refine kk _ rfl et_yes fun d hd => ?_
      cases hd
      refine bl_d fun H5 e5 Q q => ⟨v2, rfl, .int (i : Nat), rfl, v2, i, z, rfl, t2.ex e5, ok.2 i z hz, fun H6 e6 => q H6 e6⟩
    · obtain ⟨c, hc, e⟩ := mem_fm hd
      cases e
      rfl
end
end K49W

-- part K49Sh
/-! Short words for the terms of the bodies. -/
namespace K49W
open PySem PySem.Spec PyProof.Rows L2 Evl
theorem en_is {te : TE} {σ : L2.St} {H : Hp} {ds es : List PyData} (h : EvN te σ H ds) (e : ds = es) : EvN te σ H es := e ▸ h
theorem q_seq {t u : TS} {D : Ends} {σ : L2.St} {H : Hp} (h : t { D with nx := u D } σ H) : tSeq t u D σ H := h
section
variable {X : Cx} {e e2 : Expr} {es : List Expr} {te te2 : TE} {t : TA} {p q pos : Pos}
/-- a built-in class as a value -/
theorem q_ty {n : Str} (c : String) (T : Nm X.K X.mg) (hf : n ∈ faF := by decide +kernel) (hg : Gl X n := by rfl) (hv : bootBuiltins n = some (.type c) := by decide +kernel) (hn : n ≠ "__name__" := by decide) (hd : (n == ("__debug__" : Str)) = false := by decide) : PE X (.Name n p) (tC (.ty c)) :=
  pe_bltn (v := .ty c) hg (T.fr n hf) hv rfl hn hd
theorem q_len (T : Nm X.K X.mg) (ha : PA X (e :: es) t) (hg : Gl X "len" := by rfl) (he : starEach (e :: es) X.env = (false, eval e X.env) :: starEach es X.env := by rfl) (hpl : (backTo pos (starEach es X.env)).any (·.1) = false := by rfl) : PE X (.Call (.Name "len" p) (e :: es) [] pos) (tCB (rLenS X.K) t) :=
  pe_callB call_len_seq hg (T.f "len") (by decide +kernel) ha (by decide) (by decide) he hpl
theorem q_lenS (T : Nm X.K X.mg) (ha : PA X (e :: es) t) (hg : Gl X "len" := by rfl) (he : starEach (e :: es) X.env = (false, eval e X.env) :: starEach es X.env := by rfl) (hpl : (backTo pos (starEach es X.env)).any (·.1) = false := by rfl) : PE X (.Call (.Name "len" p) (e :: es) [] pos) (tCB (fun xs H Q => ∃ z, xs = [.str z] ∧ z.length ≤ sizeLine ∧ Q (.int z.length) H) t) :=
  pe_callB call_len_str hg (T.f "len") (by decide +kernel) ha (by decide) (by decide) he hpl
theorem q_isi (T : Nm X.K X.mg) (ha : PA X (e :: es) t) (hg : Gl X "isinstance" := by rfl) (he : starEach (e :: es) X.env = (false, eval e X.env) :: starEach es X.env := by rfl) (hpl : (backTo pos (starEach es X.env)).any (·.1) = false := by rfl) : PE X (.Call (.Name "isinstance" p) (e :: es) [] pos) (tCB (L2.rIsi X.K) t) :=
  pe_callB L2.call_isi hg (T.f "isinstance") (by decide +kernel) ha (by decide) (by decide) he hpl
theorem q_isiT (T : Nm X.K X.mg) (ha : PA X (e :: es) t) (hg : Gl X "isinstance" := by rfl) (he : starEach (e :: es) X.env = (false, eval e X.env) :: starEach es X.env := by rfl) (hpl : (backTo pos (starEach es X.env)).any (·.1) = false := by rfl) : PE X (.Call (.Name "isinstance" p) (e :: es) [] pos) (tCB (L2.rIsiT X.K) t) :=
  pe_callB L2.call_isiT hg (T.f "isinstance") (by decide +kernel) ha (by decide) (by decide) he hpl
theorem q_all (T : Nm X.K X.mg) (ha : PA X (e :: es) t) (hc : X.calm = true := by rfl) (hg : Gl X "all" := by rfl) (he : starEach (e :: es) X.env = (false, eval e X.env) :: starEach es X.env := by rfl) (hpl : (backTo pos (starEach es X.env)).any (·.1) = false := by rfl) : PE X (.Call (.Name "all" p) (e :: es) [] pos) (tCB (L2.rAll X.K) t) :=
  pe_callB (cr_all hc) hg (T.f "all") (by decide +kernel) ha (by decide) (by decide) he hpl
theorem q_tuple (T : Nm X.K X.mg) (ha : PA X (e :: es) t) (hg : Gl X "tuple" := by rfl) (he : starEach (e :: es) X.env = (false, eval e X.env) :: starEach es X.env := by rfl) (hpl : (backTo pos (starEach es X.env)).any (·.1) = false := by rfl) : PE X (.Call (.Name "tuple" p) (e :: es) [] pos) (tCB (rTupO X.K) t) :=
  pe_callTy call_tuple_of hg (T.f "tuple") (by decide +kernel) ha (by decide) (by decide) he hpl
theorem q_ixT (ha : PE X e te) (hb : PE X e2 te2) (hp : PlainIx e2 := by exact fun _ _ => rfl) : PE X (.Subscript e e2 pos) (tOp (rIxT X.K) te te2) := pe_ix ix_tup ha hb hp
theorem q_ixL (ha : PE X e te) (hb : PE X e2 te2) (hp : PlainIx e2 := by exact fun _ _ => rfl) : PE X (.Subscript e e2 pos) (tOp (rIxL X.K) te te2) := pe_ix ix_list ha hb hp
/-- tests -/
theorem q_eq (ha : PE X e te) (hb : PE X e2 te2) : PT X (.Compare e [.Eq] [e2] pos) (tTest (tOp rEq te te2)) := pt_cmpR op_eq ha hb (nomark _)
theorem q_ne (ha : PE X e te) (hb : PE X e2 te2) : PT X (.Compare e [.NotEq] [e2] pos) (tTest (tOp rNe te te2)) := pt_cmpR op_ne ha hb (nomark _)
theorem q_gt (ha : PE X e te) (hb : PE X e2 te2) : PT X (.Compare e [.Gt] [e2] pos) (tTest (tOp (rI0 fun i j => .bl (decide (j < i))) te te2)) := pt_cmpR op_gt ha hb (nomark _)
theorem q_lt (ha : PE X e te) (hb : PE X e2 te2) : PT X (.Compare e [.Lt] [e2] pos) (tTest (tOp (rI0 fun i j => .bl (decide (i < j))) te te2)) := pt_cmpR op_lt ha hb (nomark _)
theorem q_eqD (hu : X.A.units + 64 < cLine) (ha : PE X e te) (hb : PE X e2 te2) : PT X (.Compare e [.Eq] [e2] pos) (tTest (tOp (rEqD X.K) te te2)) := pt_cmpR (op_eqD hu) ha hb (nomark _)
theorem q_neD (hu : X.A.units + 64 < cLine) (ha : PE X e te) (hb : PE X e2 te2) : PT X (.Compare e [.NotEq] [e2] pos) (tTest (tOp (rNeD X.K) te te2)) := pt_cmpR (op_neD hu) ha hb (nomark _)
theorem q_none {j : Nat} {pos' : Pos} (ha : PE X e te) : PT X (.Compare e [.Is] [.Constant .none j pos'] pos) (tB (tIsN te)) := pt_cmp (pc_isN ha)
theorem q_some {j : Nat} {pos' : Pos} (ha : PE X e te) : PT X (.Compare e [.IsNot] [.Constant .none j pos'] pos) (tB (tNotN te)) := pt_cmp (pc_notN ha)
/-- xs.append(e), xs.pop() -/
theorem q_app {apos : Pos} (ha : PE X e te) (hb : PA X (e2 :: es) t) (hbase : attributeBase e "append" X.env (eval e X.env) = eval e X.env := by rfl)
    (hfew : ((backTo pos (starEach (e2 :: es) X.env)).all (fun x => !x.1) && (backToKw pos (keywordEach [] X.env)).all (fun x => x.1.isSome)
      && decide ((e2 :: es).length + ([] : List Keyword).length + (if ([] : List Keyword).isEmpty then 0 else 1) < 30)) = true := by rfl)
    (hline : (apos.endLine == pos.line) = true := by rfl) (hs : starEach (e2 :: es) X.env = (false, eval e2 X.env) :: starEach es X.env := by rfl) (hplain : (backTo pos (starEach es X.env)).any (·.1) = false := by rfl) :
    PE X (.Call (.Attribute e "append" apos) (e2 :: es) [] pos) (tBM X.K "list" rAppend te t) := pe_bm PySem.F.plainAttrs_list PySem.F.slot_list_append PySem.F.type_list_append mt_append ha hb hbase hfew hline hs hplain
theorem q_pop {apos : Pos} (ha : PE X e te) (hbase : attributeBase e "pop" X.env (eval e X.env) = eval e X.env := by rfl) (hline : (apos.endLine == pos.line) = true := by rfl) :
    PE X (.Call (.Attribute e "pop" apos) [] [] pos) (tBM0 X.K "list" rPop te) := pe_bm0 PySem.F.plainAttrs_list PySem.F.slot_list_pop PySem.F.type_list_pop mt_pop ha hbase hline
theorem q_extend {apos : Pos} (ha : PE X e te) (hb : PA X (e2 :: es) t) (hbase : attributeBase e "extend" X.env (eval e X.env) = eval e X.env := by rfl)
    (hfew : ((backTo pos (starEach (e2 :: es) X.env)).all (fun x => !x.1) && (backToKw pos (keywordEach [] X.env)).all (fun x => x.1.isSome)
      && decide ((e2 :: es).length + ([] : List Keyword).length + (if ([] : List Keyword).isEmpty then 0 else 1) < 30)) = true := by rfl)
    (hline : (apos.endLine == pos.line) = true := by rfl) (hs : starEach (e2 :: es) X.env = (false, eval e2 X.env) :: starEach es X.env := by rfl) (hplain : (backTo pos (starEach es X.env)).any (·.1) = false := by rfl) :
    PE X (.Call (.Attribute e "extend" apos) (e2 :: es) [] pos) (tBM X.K "list" rExtend te t) := pe_bm PySem.F.plainAttrs_list PySem.F.slot_list_extend PySem.F.type_list_extend mt_extend ha hb hbase hfew hline hs hplain
end
end K49W

-- part K49F4
namespace K49W
open PySem PySem.Spec PyProof.Rows L2 Evl
open K49 (Nd Rw)
/-! ### places as data -/
def pyP (r : Str × Nat) : PyData := .tuple [.str r.1, .int (r.2 : Nat)]
structure PlOk (n : Nat) (rows : List (Str × Nat)) : Prop where
  len : rows.length < 1000
  nd : (rows.map (·.1)).Nodup
  each : ∀ r ∈ rows, nmOk r.1 = true ∧ r.2 < n
structure RwOk (R : Rw Str Str) : Prop where
  ns : NsOk R.nodes
  olds : PlOk R.nodes.length R.olds
  news : PlOk R.nodes.length R.news
section
variable {P : Program} {w : World} {K : PySem.W.Frag} {mg : Str → Option Value} {base : Heap}
theorem sc_are_places : FnScope ["value", "many", "row", "names", "at", "name"] ["value", "many"] (defScope (top 13)) := ⟨rfl, rfl, rfl, by decide +kernel, rfl, by decide +kernel, by decide +kernel⟩
def spPlaces : Sp := fun vs H Q _ => ∃ (a : Addr) (n : Nat) (rows : List (Str × Nat)), vs = [.ref a, .int (n : Nat)] ∧ LsD a (rows.map pyP) H ∧ PlOk n rows ∧ ∀ H', Ex H H' → Q (.bl true) H'
theorem notIn_take {zs : List Str} (hd : zs.Nodup) {i : Nat} {z : Str} (h : zs[i]? = some z) : inV (.str z) (((zs.map V.str)).take i) = false := by
  unfold inV
  rw [List.any_eq_false]
  intro y hy
  rw [← List.map_take] at hy
  obtain ⟨u, hu, rfl⟩ := List.mem_map.mp hy
  simp only [eqV, beq_iff_eq]
  rintro rfl
  obtain ⟨j, hj⟩ := List.mem_iff_getElem?.mp hu
  have hj2 := (List.getElem?_eq_some_iff.mp hj).1
  have hji : j < i := by simp at hj2; omega
  rw [List.getElem?_take_of_lt hji] at hj
  obtain ⟨h1, e1⟩ := List.getElem?_eq_some_iff.mp h
  obtain ⟨h2, e2⟩ := List.getElem?_eq_some_iff.mp hj
  have := (List.getElem_inj hd (h₀ := h1) (h₁ := h2)).mp (by rw [e1, e2])
  omega
theorem TpL.strs {H : Hp} : ∀ {vs : List V} {zs : List Str}, TpL H vs (zs.map PyData.str) → vs = zs.map V.str
  | _, [], .nil => rfl
  | _, i :: is, .cons a b => by rw [a.inv_str, TpL.strs b]; rfl
theorem cal_are_places (T : Nm K mg) (F : Df K (dG 13 "are_places")) (cI : Cal P w K mg base 1 "is_index" ["value", "many"] spIndex) (cN : Cal P w K mg base 1 "is_name" ["value"] spName) : Cal P w K mg base 2 "are_places" ["value", "many"] spPlaces := by
  refine cal_of T F (by decide +kernel) sc_are_places (fun _ _ _ _ _ _ us hl => match us, hl with | [_, _], _ => rfl) (fun vs H Q E h => ?_) fun cdv A outer s H vs Q E hr h => ?_
  · obtain ⟨a, n, rows, rfl, _⟩ := h
    rfl
  · obtain ⟨a, n, rows, rfl, hl, ok, k⟩ := h
    refine ⟨_, pss_cons (ps_if (pt_not (pt_val (q_isiT T (pa_cons (pv 0) (pa_cons (pe_tup (pa_cons (q_ty "list" T) (pa_cons (q_ty "tuple" T) pa_nil))) pa_nil))))) (pss_one (ps_ret pe_bl)) pss_nil)
      (pss_cons (ps_for PassesOwn.never rfl (pi_list (pv 0)) (pg_name (i := 2) sc_are_places.nd rfl (Or.inl rfl))
        (pss_one (ps_if (PW.pt (pw_or (pt_not (pt_val (q_isi T (pa_cons (pv 2) (pa_cons (q_ty "tuple" T) pa_nil)))))
          (pw_or (q_ne (q_len T (pa_cons (pv 2) pa_nil)) pe_int)
          (pw_or (pt_not (pt_val (pe_cal cN (hr.mono (by decide)) (by rfl) (pa_cons (q_ixT (pv 2) pe_int) pa_nil))))
          (pw_or1 (pt_not (pt_val (pe_cal cI (hr.mono (by decide)) (by rfl) (pa_cons (q_ixT (pv 2) pe_int) (pa_cons (pv 1) pa_nil))))))))))
          (pss_one (ps_ret pe_bl)) pss_nil)))
      (pss_cons (ps_set (i := 3) sc_are_places.nd rfl (Or.inr rfl) (pe_lc (own := [("row", 2)]) (g := gName 2) (tt := tYes) (te := tOp (rIxT K) (tVar 2) (tC (.int 0))) rfl sc_are_places.nd (pi_list (pv 0)) (blkOk_by (own := [("row", 2)]) (N := ["value", "many", "row", "names", "at", "name"]) (sc := defScope (top 13)) (by decide +kernel))
            (fun _ _ _ _ _ => pg_name (i := 2) sc_are_places.nd rfl (Or.inl rfl)) (fun _ _ _ _ _ => pts_nil) (fun _ _ _ _ _ => q_ixT (pv 2) pe_int)))
      (pss_one (ps_ret (q_all T (pa_cons
        (pe_lc (own := [("at", 4), ("name", 5)]) (g := gTup K 2 (gCons (gName 4) (gCons (gName 5) gNil))) (tt := tYes) (te := tOp (rIn K true) (tVar 5) (tSl (rSlL K) (tVar 3) tNoPart (tPart (tVar 4)))) rfl sc_are_places.nd (pi_enum (by rfl) (T.f "enumerate") (pa_cons (pv 3) pa_nil)) (blkOk_by (own := [("at", 4), ("name", 5)]) (N := ["value", "many", "row", "names", "at", "name"]) (sc := defScope (top 13)) (by decide +kernel))
          (fun _ _ _ _ _ => pg_tup rfl (pgs_cons (pg_name (i := 4) sc_are_places.nd rfl (Or.inl rfl)) (pgs_cons (pg_name (i := 5) sc_are_places.nd rfl (Or.inl rfl)) pgs_nil))) (fun _ _ _ _ _ => pts_nil)
          (fun _ _ _ _ _ => pe_cmpR op_notIn_seq (pv 5) (pe_slice sl_list (pv 3) po_none (po_some (pv 4))) rfl)) pa_nil)))))), ?_⟩
    have i0 : Ev (tVar 0) (start ["value", "many", "row", "names", "at", "name"] [.ref a, .int (n : Nat)]) H (.ref a) := ev_var rfl
    obtain ⟨xs, hx, _⟩ := id hl
    refine s_if (et_is (et_not (et_B (ev_isiLT i0 hx))) (b := false) rfl) (fun z => by cases z) fun _ H1 e1 => ?_
    have hl1 := LsD.ex e1 hl
    obtain ⟨xs1, hx1, _⟩ := id hl1
    refine ⟨_, rfl, a, rfl, ⟨xs1, SqL.of hx1⟩, for_wk (wk_list (K := K)) (fun i σ H2 => Ex H1 H2 ∧ ∃ v : Option V, σ = [some (.ref a), some (.int (n : Nat)), v, none, none, none]) ⟨Ex.refl _, none, rfl⟩ (fun i σ H2 _ p => LsD.ex p.1 hl1) ?_ ?_⟩
    · rintro i σ H2 x H3 e he ⟨e2, v, rfl⟩ e3 t
      rw [List.getElem?_map] at he
      cases qr : rows[i]? with
      | none => rw [qr] at he; cases he
      | some r =>
        rw [qr] at he
        cases he
        obtain ⟨o1, o2⟩ := ok.each r (List.mem_of_getElem? qr)
        have i2 : EvD (tVar 2) [some (.ref a), some (.int (n : Nat)), some x, none, none, none] H3 (pyP r) := ed_var rfl t
        have a0 := ed_ixT (K := K) i2 (ev_c (v := .int 0)) (j := 0) rfl rfl
        have a1 := ed_ixT (K := K) i2 (ev_c (v := .int 1)) (j := 1) rfl rfl
        refine s_if (et_is (et_or (et_not (et_B (ev_isiTup i2))) fun _ => et_or (et_test (ev_neI (ev_lenD i2) ev_c)) fun _ => et_or (et_not (et_B (ev_name a0 o1))) fun _ => et_not (et_B (ev_index (d_int a1) (ev_var rfl) (by omega) (by omega)))) (b := false) rfl) (fun z => by cases z) fun _ H4 e4 => ?_
        exact ⟨(e2.trans e3).trans e4, _, rfl⟩
    · rintro σ H2 ⟨e2, v, rfl⟩
      dsimp only
      refine q_seq ?_
      refine s_setN (ds := rows.map fun r => .str r.1) ?_ fun pn ns H3 hp e3 hn tn => ?_
      · refine en_is (en_lcL (as := rows) (enc := pyP) (ev_var rfl) (LsD.ex e2 hl1) (by have := ok.len; omega) (fun r => some (.str r.1)) fun z x H3 hz e3 t Q' kk => ?_) (filterMap_some _ _)
        refine kk _ rfl et_yes fun d hd => ?_
        cases hd
        exact ed_ixT (ed_var rfl t) (ev_c (v := .int 0)) (j := 0) rfl rfl
      · have tn' : TpL H3 ns ((rows.map (·.1)).map PyData.str) := by
          rw [List.map_map]; exact tn
        have hns := tn'.strs
        subst hns
        dsimp only
        refine s_ret (v := .bl true) (ev_allT (en_lcE (as := rows.map (·.1)) (enc := PyData.str) (a := pn) (fun H1 e Q q => (ev_var rfl : Ev (tVar 3) _ H3 (.ref pn)) H1 e _ fun H2 e2 => q _ H2 e2 rfl) ⟨_, hn, tn'⟩ (by rw [List.length_map]; have := ok.len; omega) (fun _ => some (.bool true)) fun i z x H4 hz e4 t Q' kk => ?_) fun d hd => ?_) fun H4 e4 => k H4 (((e1.trans e2).trans e3).trans e4)
        · refine g_tup2 t fun v1 v2 t1 t2 => ?_
          have := t1.inv_int
          subst this
          have := t2.inv_str
          subst this
          refine kk _ rfl et_yes fun d hd => ?_
          cases hd
          refine bl_d fun H5 e5 Q q => ⟨_, rfl, _, rfl, _, rfl, _, rfl, pn, _, rfl, SqL.of (e5 _ _ (e4 _ _ hn)), fun p hp => ⟨p, _, rfl, .inl (SqL.of upd_same), rfl, ?_, ?_⟩⟩
          · rw [List.all_eq_true]
            intro y hy
            have hy' : y ∈ (rows.map (·.1)).map V.str := List.mem_of_mem_drop (List.mem_of_mem_take hy)
            obtain ⟨u, _, rfl⟩ := List.mem_map.mp hy'
            rfl
          · have ec : cutV ((rows.map (·.1)).map V.str) none (some ((i : Nat) : Int)) = ((rows.map (·.1)).map V.str).take i := by
              have hi := (List.getElem?_eq_some_iff.mp hz).1
              unfold cutV
              rw [HT.sIx_none, HT.sIx_nat, List.drop_zero, Nat.sub_zero]
              congr 1
              simp at hi ⊢
              omega
            rw [ec, notIn_take ok.nd hz]
            exact q _ (Ex.new hp)
        · obtain ⟨c, hc, e⟩ := mem_fm hd
          cases e
          rfl
/-! ### check_shape -/
theorem sc_check_shape : FnScope ["nodes", "olds", "news", "part", "value"] ["nodes", "olds", "news"] (defScope (top 14)) := ⟨rfl, rfl, rfl, by decide +kernel, rfl, by decide +kernel, by decide +kernel⟩
def RwAt (a b c : Addr) (R : Rw Str Str) (H : Hp) : Prop := LsD a (R.nodes.map pyN) H ∧ LsD b (R.olds.map pyP) H ∧ LsD c (R.news.map pyP) H
theorem RwAt.ex {a b c : Addr} {R : Rw Str Str} {H H' : Hp} (e : Ex H H') (h : RwAt a b c R H) : RwAt a b c R H' := ⟨LsD.ex e h.1, LsD.ex e h.2.1, LsD.ex e h.2.2⟩
def spCheck : Sp := fun vs H Q _ => ∃ (a b c : Addr) (R : Rw Str Str), vs = [.ref a, .ref b, .ref c] ∧ RwAt a b c R H ∧ RwOk R ∧ ∀ H', Ex H H' → Q .non H'
theorem ev_lenL {te : TE} {σ : L2.St} {H : Hp} {a : Addr} {es : List PyData} (h : Ev te σ H (.ref a)) (hl : LsD a es H) : Ev (tCB (rLenS K) (tCons te tNil)) σ H (.int (es.length : Int)) := by
  obtain ⟨xs, hx, tx⟩ := hl
  rw [← tx.length]
  exact ev_len h (SqL.of hx)
theorem cal_check_shape (T : Nm K mg) (F : Df K (dG 14 "check_shape")) (cN : Cal P w K mg base 3 "are_nodes" ["value"] spNodes) (cP : Cal P w K mg base 2 "are_places" ["value", "many"] spPlaces) : Cal P w K mg base 4 "check_shape" ["nodes", "olds", "news"] spCheck := by
  refine cal_of T F (by decide +kernel) sc_check_shape (fun _ _ _ _ _ _ us hl => match us, hl with | [_, _, _], _ => rfl) (fun vs H Q E h => ?_) fun cdv A outer s H vs Q E hr h => ?_
  · obtain ⟨a, b, c, R, rfl, _⟩ := h
    rfl
  · obtain ⟨a, b, c, R, rfl, hR, ok, k⟩ := h
    refine ⟨_, pss_cons (ps_if (pt_not (pt_val (pe_cal cN (hr.mono (by decide)) (by rfl) (pa_cons (pv 0) pa_nil)))) (pss_one ps_never) pss_nil)
      (pss_one (ps_for PassesOwn.never rfl (pi_tup (pe_tup (pa_cons (pe_tup (pa_cons pe_str (pa_cons (pv 1) pa_nil))) (pa_cons (pe_tup (pa_cons pe_str (pa_cons (pv 2) pa_nil))) pa_nil))))
        (pg_tup rfl (pgs_cons (pg_name (i := 3) sc_check_shape.nd rfl (Or.inl rfl)) (pgs_cons (pg_name (i := 4) sc_check_shape.nd rfl (Or.inl rfl)) pgs_nil)))
        (pss_one (ps_if (pt_not (pt_val (pe_cal cP (hr.mono (by decide)) (by rfl) (pa_cons (pv 4) (pa_cons (q_len T (pa_cons (pv 0) pa_nil)) pa_nil))))) (pss_one ps_never) pss_nil)))), ?_⟩
    have i0 : Ev (tVar 0) (start ["nodes", "olds", "news", "part", "value"] [.ref a, .ref b, .ref c]) H (.ref a) := ev_var rfl
    refine s_if (b := false) (et_is (et_not (a := true) (et_B fun H1 e Q q => i0 H1 e _ fun H2 e2 => ⟨a, R.nodes, rfl, LsD.ex (e.trans e2) hR.1, ok.ns, fun H3 e3 => q H3 (e2.trans e3)⟩)) rfl) (fun z => by cases z) fun _ H1 e1 => ?_
    have hR1 := RwAt.ex e1 hR
    refine ⟨_, rfl, (by show 2 ≤ sizeLine; decide), fun p1 hp1 => ⟨_, rfl, (by show 2 ≤ sizeLine; decide), fun p2 hp2 => ⟨(by show 2 ≤ sizeLine; decide), fun p3 hp3 => ⟨p3, rfl, ⟨_, SqT.of upd_same⟩, ?_⟩⟩⟩⟩
    have n12 : p1 ≠ p2 := ne_of_none (by rw [upd_same]) hp2
    have n13 : p1 ≠ p3 := ne_of_none (o := .tup [.str "olds", .ref b]) (by rw [upd_ne n12, upd_same]) hp3
    have n23 : p2 ≠ p3 := ne_of_none (o := .tup [.str "news", .ref c]) (by rw [upd_same]) hp3
    have eH : Ex H1 (upd (upd (upd H1 p1 (.tup [.str "olds", .ref b])) p2 (.tup [.str "news", .ref c])) p3 (.tup [.ref p1, .ref p2])) := ((Ex.new hp1).trans (Ex.new hp2)).trans (Ex.new hp3)
    refine for_tup (K := K) (a := p3) (xs := [.ref p1, .ref p2]) (fun i σ H2 => Ex (upd (upd (upd H1 p1 (.tup [.str "olds", .ref b])) p2 (.tup [.str "news", .ref c])) p3 (.tup [.ref p1, .ref p2])) H2 ∧ ∃ u v : Option V, σ = [some (.ref a), some (.ref b), some (.ref c), u, v]) ⟨Ex.refl _, none, none, rfl⟩ (fun i σ H2 _ p => SqT.of (p.1 _ _ upd_same)) ?_ ?_
    · rintro i x σ H2 hi ⟨e2, u, v, rfl⟩
      have turn : ∀ (q d : Addr) (z : Str) (rows : List (Str × Nat)), H2 q = some (.tup [.str z, .ref d]) → LsD d (rows.map pyP) H1 → PlOk R.nodes.length rows → x = .ref q →
          gTup K 2 (gCons (gName 3) (gCons (gName 4) gNil)) x [some (.ref a), some (.ref b), some (.ref c), u, v] H2 fun σ2 H3 =>
            (tIfS (tNot (tB (tCall spPlaces [] E0 (tCons (tVar 4) (tCons (tCB (rLenS K) (tCons (tVar 0) tNil)) tNil))))) tNever tNext) { nx := fun σ H2 => Ex (upd (upd (upd H1 p1 (.tup [.str "olds", .ref b])) p2 (.tup [.str "news", .ref c])) p3 (.tup [.ref p1, .ref p2])) H2 ∧ ∃ u v : Option V, σ = [some (.ref a), some (.ref b), some (.ref c), u, v], rt := Q, ct := fun σ H2 => Ex (upd (upd (upd H1 p1 (.tup [.str "olds", .ref b])) p2 (.tup [.str "news", .ref c])) p3 (.tup [.ref p1, .ref p2])) H2 ∧ ∃ u v : Option V, σ = [some (.ref a), some (.ref b), some (.ref c), u, v], bk := fun _ H' => Q .non H' } σ2 H3 := by
        rintro q d z rows hq hd hok rfl
        refine ⟨q, _, rfl, SqT.of hq, rfl, _, _, rfl, _, _, rfl, rfl, ?_⟩
        refine s_if (b := false) (et_is (et_not (a := true) (et_B fun H3 e3 Q' q' => ?_)) rfl) (fun z => by cases z) fun _ H3 e3 => ⟨e2.trans e3, _, _, rfl⟩
        refine ⟨_, rfl, ev_lenL (K := K) (es := R.nodes.map pyN) (ev_var rfl) (LsD.ex (eH.trans (e2.trans e3)) hR1.1) H3 (Ex.refl _) _ fun H4 e4 => ⟨d, R.nodes.length, rows, by rw [List.length_map]; rfl, LsD.ex ((eH.trans (e2.trans e3)).trans e4) hd, hok, fun H5 e5 => q' H5 (e4.trans e5)⟩⟩
      have h1 : H2 p1 = some (.tup [.str "olds", .ref b]) := e2 _ _ (by rw [upd_ne n13, upd_ne n12, upd_same])
      have h2 : H2 p2 = some (.tup [.str "news", .ref c]) := e2 _ _ (by rw [upd_ne n23, upd_same])
      match i, hi with
      | 0, hi => exact turn p1 b "olds" R.olds h1 hR1.2.1 ok.olds (by simpa using hi.symm)
      | 1, hi => exact turn p2 c "news" R.news h2 hR1.2.2 ok.news (by simpa using hi.symm)
      | i + 2, hi => simp at hi
    · rintro σ H2 ⟨e2, u, v, rfl⟩
      exact k H2 (e1.trans (eH.trans e2))
end
end K49W

-- part K49F5
namespace K49W
open PySem PySem.Spec PyProof.Rows L2 Evl
open K49 (Nd Rw)
/-! ### a dict that is walked: locked -/
theorem Ex.lock {H H1 : Hp} {d : Addr} {o : HO} (e : Ex H H1) : Ex (upd H d o) (upd H1 d o) := fun a u h => by
  by_cases q : a = d
  · subst q; rw [upd_same] at h ⊢; exact h
  · rw [upd_ne q] at h ⊢; exact e a u h
theorem Ex.unlock {H1 H2 : Hp} {d : Addr} {u : HO} {od : Obj} (hd : H1 d = some u) (e : Ex (upd H1 d (.frz od u)) H2) : Ex H1 (upd H2 d u) := fun a o h => by
  by_cases q : a = d
  · subst q; rw [upd_same]; rw [hd] at h; exact h
  · rw [upd_ne q]; exact e a o (by rw [upd_ne q]; exact h)
theorem TX.unlock {H2 : Hp} {d : Addr} {u : HO} {od : Obj} (hd : H2 d = some (.frz od u)) : TX H2 (L2.upd H2 d u) := TX.upd fun xs h => by rw [hd] at h; cases h
section
variable {t : TE} {σ : L2.St} {H : Hp} {d : Addr} {u : HO} {ds : List PyData}
theorem en_lock (hd : H d = some u) (mu : Mut (some u)) (h : ∀ od, EvN t σ (upd H d (.frz od u)) ds) : EvN (tLockE t) σ H ds := fun H1 e Q q =>
  ⟨d, u, e _ _ hd, mu, fun od => h od _ (Ex.lock e) _ fun p xs H2 hp e2 hl tl => by
    have hd1 : H1 d = some u := e _ _ hd
    have h2 : H2 d = some (.frz od u) := e2 _ _ upd_same
    have npd : p ≠ d := fun z => by subst z; rw [upd_same] at hp; cases hp
    rw [upd_ne npd] at hp
    exact ⟨h2, q p xs _ hp (Ex.unlock hd1 e2) (by rw [upd_ne npd]; exact hl) (tl.tx (TX.unlock h2))⟩⟩
/-- [te for k in the dict at d] -/
theorem en_lcK {te : TE} {td : TE} {g : TG} {tt : TT} {vs : List Nat} {o : Obj} {kvs : List (Key × V)} (hl : Ev td σ H (.ref d)) (hS : H d = some (.frz o (.dK kvs))) (hn : kvs.length < 100000) (h : Key × V → Option PyData)
    (turn : ∀ z x H1, z ∈ kvs → Ex H H1 → Tp H1 x (kD z.1) → ∀ Q : L2.St → Hp → Prop, (∀ σ2, wipe σ2 vs = wipe σ vs → EvT tt σ2 H1 (h z).isSome → (∀ d, h z = some d → EvD te σ2 H1 d) → Q σ2 H1) → g x (wipe σ vs) H1 Q) :
    EvN (tLc (iKeys td) g tt te vs) σ H (kvs.filterMap h) := fun H1 e Q q =>
  hl H1 e _ fun H2 e2 => ⟨d, o, rfl, .inl ⟨kvs, e2 _ _ (e _ _ hS), fun D hD => lc_data (Qd := fun H => Q (.ref D) H) (as := kvs) (enc := fun p => kD p.1) wk_keys (fun _ _ e h => e _ _ h) (e2 _ _ (e _ _ hS)) hn h (fun z x H3 hz e3 _ t Q' k => turn z x H3 hz ((e.trans e2).trans e3) t Q' k) hD fun xs H3 e3 h3 t3 => q D xs H3 (fresh_back e2 hD) (e2.trans e3) h3 t3⟩⟩
end
/-! ### the names, ordered -/
def VN : List Str := ["a", "abcdefgh", "b"]
def ordN (ks : List Str) : List Str := VN.filter fun n => decide (n ∈ ks)
theorem vn_nodup : VN.Nodup := by decide +kernel
theorem ordN_eq {ks ys : List Str} (hs : ∀ k ∈ ks, k ∈ VN) (hd : ks.Nodup) (hp : ys.Perm ks) (ho : sortedS ys = true) : ys = ordN ks := by
  have e : ordN ks = VN.filter fun n => decide (n ∈ ys) := by
    unfold ordN
    exact List.filter_congr fun x _ => by simp [hp.mem_iff]
  have hs' : ∀ k ∈ ys, k ∈ VN := fun k hk => hs k (hp.mem_iff.mp hk)
  have hd' : ys.Nodup := hp.nodup_iff.mpr hd
  rw [e]
  have hl : ys.length ≤ 3 := K49.nodup_len hd' hs'
  clear e hp hs hd
  have c : ∀ k ∈ VN, k = "a" ∨ k = "abcdefgh" ∨ k = "b" := fun k hk => by simpa [VN] using hk
  match ys, hl, hs', hd', ho with
  | [], _, _, _, _ => decide +kernel
  | [x], _, hs, _, _ =>
    rcases c x (hs x (by simp)) with rfl | rfl | rfl <;> decide +kernel
  | [x, y], _, hs, hd, ho =>
    rcases c x (hs x (by simp)) with rfl | rfl | rfl <;> rcases c y (hs y (by simp)) with rfl | rfl | rfl <;> first | decide +kernel | exact absurd ho (by decide +kernel) | exact absurd hd (by decide +kernel)
  | [x, y, z], _, hs, hd, ho =>
    rcases c x (hs x (by simp)) with rfl | rfl | rfl <;> rcases c y (hs y (by simp)) with rfl | rfl | rfl <;> rcases c z (hs z (by simp)) with rfl | rfl | rfl <;> first | decide +kernel | exact absurd ho (by decide +kernel) | exact absurd hd (by decide +kernel)
  | _ :: _ :: _ :: _ :: _, hl, _, _, _ => simp at hl
section
variable {P : Program} {w : World} {K : PySem.W.Frag} {mg : Str → Option Value} {base : Heap}
theorem sc_ordered : FnScope ["places", "name"] ["places"] (defScope (top 17)) := ⟨rfl, rfl, rfl, by decide +kernel, rfl, by decide +kernel, by decide +kernel⟩
def spOrdered : Sp := fun vs H Q _ => ∃ (d : Addr) (kvs : List (Key × V)) (ks : List Str), vs = [.ref d] ∧ H d = some (.dK kvs) ∧ kvs.map (·.1) = ks.map Sum.inr ∧ (∀ k ∈ ks, k ∈ VN) ∧ ks.Nodup ∧
  ∀ p H', H p = none → Ex H H' → H' p = some (.lst ((ordN ks).map V.str)) → Q (.ref p) H'
theorem ev_strS {te : TE} {σ : L2.St} {H : Hp} {z : Str} (h : Ev te σ H (.str z)) : Ev (tCB (fun xs H Q => ∃ a, xs = [.str a] ∧ Q (.str a) H) (tCons te tNil)) σ H (.str z) := fun H1 e Q q =>
  h H1 e _ fun H2 e2 => ⟨z, rfl, q H2 e2⟩
theorem cal_ordered (T : Nm K mg) (F : Df K (dG 17 "ordered")) : Cal P w K mg base 1 "ordered" ["places"] spOrdered := by
  refine cal_of T F (by decide +kernel) sc_ordered (fun _ _ _ _ _ _ us hl => match us, hl with | [_], _ => rfl) (fun vs H Q E h => ?_) fun cdv A outer s H vs Q E hr h => ?_
  · obtain ⟨d, kvs, ks, rfl, _⟩ := h
    rfl
  · obtain ⟨d, kvs, ks, rfl, hd, hk, hs, hn, k⟩ := h
    refine ⟨_, pss_one (ps_ret (pe_callB cr_sortedS (by rfl) (T.f "sorted") (by decide +kernel) (pa_cons
      (pe_lock (pe_lc (own := [("name", 1)]) (g := gName 1) (tt := tYes) rfl sc_ordered.nd (pi_keys (pv 0)) (blkOk_by (own := [("name", 1)]) (N := ["places", "name"]) (sc := defScope (top 17)) (by decide +kernel))
        (fun _ _ _ _ _ => pg_name (i := 1) sc_ordered.nd rfl (Or.inl rfl)) (fun _ _ _ _ _ => pts_nil) (fun _ _ _ _ _ => pe_callTy SkE.call_str_str (by rfl) (T.f "str") (by decide +kernel) (pa_cons (pv 1) pa_nil)))) pa_nil))), ?_⟩
    have hkl : kvs.length = ks.length := by
      have := congrArg List.length hk
      simpa using this
    have hk3 : ks.length ≤ 3 := K49.nodup_len hn hs
    have hL : EvN (tLockE (tLc (iKeys (tVar 0)) (gName 1) tYes (tCB (fun xs H Q => ∃ a, xs = [.str a] ∧ Q (.str a) H) (tCons (tVar 1) tNil)) [1])) (start ["places", "name"] [.ref d]) H (ks.map PyData.str) := by
      refine en_lock hd trivial fun od => ?_
      refine en_is (en_lcK (o := od) (kvs := kvs) (ev_var rfl) upd_same (by omega) (fun z => some (kD z.1)) fun z x H1 hz e1 t Q' kk => ?_) ?_
      · refine kk _ rfl et_yes fun d' hd' => ?_
        cases hd'
        obtain ⟨z1, z2⟩ := z
        have hm : z1 ∈ ks.map Sum.inr := by rw [← hk]; exact List.mem_map.mpr ⟨_, hz, rfl⟩
        obtain ⟨n, _, rfl⟩ := List.mem_map.mp hm
        have := t.inv_str
        subst this
        exact str_d (ev_strS (ev_var rfl))
      · rw [filterMap_some]
        have : kvs.map (fun z => kD z.1) = (kvs.map (·.1)).map kD := by rw [List.map_map]; rfl
        rw [this, hk, List.map_map]; rfl
    refine hL H (Ex.refl _) _ fun p xs H1 hp e1 hl tl => ⟨p, ks, rfl, SqL.of (by rw [← tl.strs]; exact hl), by omega, fun ys p2 hperm hsort hp2 => ?_⟩
    rw [ordN_eq hs hn hperm hsort]
    exact k p2 _ (fresh_back e1 hp2) (e1.trans (Ex.new hp2)) upd_same
end
end K49W

-- part K49F6
namespace K49W
open PySem PySem.Spec PyProof.Rows L2 Evl
open K49 (Nd Rw WfN RepN innN runN OrdOk tm fst)
/-! ### dicts that number their keys -/
section
variable {κ : Type} [DecidableEq κ]
def posK (ks : List κ) : List (κ × V) := ks.mapIdx fun i k => (k, V.int (i : Nat))
theorem posK_len (ks : List κ) : (posK ks).length = ks.length := by simp [posK]
theorem posK_snoc (ks : List κ) (k : κ) : posK (ks ++ [k]) = posK ks ++ [(k, V.int (ks.length : Nat))] := by simp [posK, List.mapIdx_append]
theorem posK_val (k : κ) (ks : List κ) : valV (posK ks) k = if k ∈ ks then some (.int ((K49.pos ks k : Nat) : Int)) else none := by
  unfold K49.pos
  induction ks using K49.snocInd with
  | h0 => simp [posK, valV]
  | h1 l a ih =>
    rw [posK_snoc]
    unfold valV at ih ⊢
    rw [List.find?_append]
    by_cases h : k ∈ l
    · rw [if_pos h] at ih
      cases q : (posK l).find? fun kv => decide (kv.1 = k) with
      | none => rw [q] at ih; cases ih
      | some p =>
        rw [q] at ih
        rw [Option.some_or, ih, if_pos (List.mem_append_left _ h), List.idxOf_append]
        simp [h]
    · rw [if_neg h] at ih
      cases q : (posK l).find? fun kv => decide (kv.1 = k) with
      | some p => rw [q] at ih; cases ih
      | none =>
        rw [Option.none_or, List.find?_cons]
        by_cases e : a = k
        · subst e
          simp only [decide_true, Option.map_some, List.mem_append, List.mem_singleton, or_true, if_true]
          rw [List.idxOf_append]
          simp [h]
        · have : ¬ k ∈ l ++ [a] := by simp [h, Ne.symm e]
          simp [e, h, Ne.symm e]
theorem posK_put {ks : List κ} {k : κ} (h : k ∉ ks) : putK (posK ks) k (V.int (ks.length : Nat)) = posK (ks ++ [k]) := by
  rw [posK_snoc]
  exact putK_new _ (by rw [posK_val, if_neg h])
end
section
variable {te tf : TE} {σ : L2.St} {H : Hp} {K : PySem.W.Frag} {d : Addr}
theorem ev_din {kvs : List (Key × V)} {k : Key} {y : V} (hy : y = kV k) (h : Ev te σ H y) (h2 : Ev tf σ H (.ref d)) (hd : H d = some (.dK kvs)) : Ev (tDIn te tf) σ H (.bl (valV kvs k).isSome) := fun H1 e Q q =>
  h H1 e _ fun H2 e2 => h2 H2 (e.trans e2) _ fun H3 e3 => ⟨d, _, rfl, by rw [hy]; exact DGet.k (k := k) (e3 _ _ (e2 _ _ (e _ _ hd))), q H3 (e2.trans e3)⟩
theorem ev_dnin {kvs : List (Key × V)} {k : Key} {y : V} (hy : y = kV k) (h : Ev te σ H y) (h2 : Ev tf σ H (.ref d)) (hd : H d = some (.dK kvs)) : Ev (tDNotIn te tf) σ H (.bl (!(valV kvs k).isSome)) := fun H1 e Q q =>
  h H1 e _ fun H2 e2 => h2 H2 (e.trans e2) _ fun H3 e3 => ⟨d, _, rfl, by rw [hy]; exact DGet.k (k := k) (e3 _ _ (e2 _ _ (e _ _ hd))), q H3 (e2.trans e3)⟩
theorem ev_dget {kvs : List (Key × V)} {k : Key} {y v : V} (hy : y = kV k) (h : Ev te σ H (.ref d)) (h2 : Ev tf σ H y) (hd : H d = some (.dK kvs)) (hv : valV kvs k = some v) : Ev (tDGet te tf) σ H v := fun H1 e Q q =>
  h H1 e _ fun H2 e2 => h2 H2 (e.trans e2) _ fun H3 e3 => ⟨d, v, rfl, by rw [hy, ← hv]; exact DGet.k (k := k) (e3 _ _ (e2 _ _ (e _ _ hd))), q H3 (e2.trans e3)⟩
/-- xs[-1] -/
theorem ev_last {xs : List V} {v : V} (h : Ev te σ H (.ref d)) (hd : H d = some (.lst (xs ++ [v]))) : Ev (tOp (rIxL K) te (tUn (rU fun i => .int (-i)) (tC (.int 1)))) σ H v :=
  ev_op h (ev_un ev_c ru_neg) (rv_ixL (SqL.of hd) (atI_last _ _))
/-- xs.pop() as a statement -/
theorem s_pop {D : Ends} {xs : List V} {v : V} (hd : H d = some (.lst (xs ++ [v]))) (h : Ev te σ H (.ref d)) (k : ∀ H1, Ex H H1 → D.nx σ (upd H1 d (.lst xs))) : tDrop (tBM0 K "list" rPop te) D σ H :=
  h H (Ex.refl H) _ fun H1 e1 => ⟨.inl ⟨rfl, _, SqL.of (e1 _ _ hd)⟩, d, xs ++ [v], v, rfl, rfl, e1 _ _ hd, by simp, by rw [List.dropLast_concat]; exact k H1 e1⟩
/-- d[y] = v -/
theorem s_dput {D : Ends} {tv : TE} {kvs : List (Key × V)} {k : Key} {y v : V} (hy : y = kV k) (hv : Ev tv σ H v) (h : Ev te σ H (.ref d)) (h2 : Ev tf σ H y) (hd : H d = some (.dK kvs)) (hz : kvs.length < 100000) (kk : ∀ H1, Ex H H1 → D.nx σ (upd H1 d (.dK (putK kvs k v)))) : sDPut te tf tv D σ H :=
  hv H (Ex.refl H) _ fun H1 e1 => h H1 e1 _ fun H2 e2 => h2 H2 (e1.trans e2) _ fun H3 e3 => ⟨d, _, rfl, by rw [hy]; exact DPut.k (k := k) (e3 _ _ (e2 _ _ (e1 _ _ hd))) (sz_lt hz), kk H3 ((e1.trans e2).trans e3)⟩
theorem ev_dlen {kvs : List (Key × V)} (h : Ev te σ H (.ref d)) (hd : H d = some (.dK kvs)) : Ev (tCB (fun xs H Q => ∃ a kvs, xs = [.ref a] ∧ H a = some (.dK kvs) ∧ Q (.int kvs.length) H) (tCons te tNil)) σ H (.int kvs.length) := fun H1 e Q q =>
  h H1 e _ fun H2 e2 => ⟨d, kvs, rfl, e2 _ _ (e _ _ hd), q H2 e2⟩
end
end K49W

-- part K49F7
namespace K49W
open PySem PySem.Spec PyProof.Rows L2 Evl
open K49 (Nd Rw WfN RepN innN runN OrdOk tm fst)
/-! ### plain nodes -/
theorem pln_str {z : Str} (h : nmOk z = true) : Pln (.str z) = true := by
  obtain ⟨_, _, h3⟩ := nmOk_iff h
  have : PyData.strOk z = true := by
    unfold PyData.strOk
    rw [← Array.all_toList, List.all_eq_true]
    intro c hc
    have hl : ∀ c ∈ letters.cps.toList, c < 0x110000 := by decide +kernel
    simpa using hl c (h3 c hc)
  unfold Pln SeqAt.shaped
  simp [PyData.canLay0, PyData.depth, this]
theorem plnL_map {α : Type} {f : α → PyData} : ∀ {l : List α}, (∀ a ∈ l, Pln (f a) = true) → PlnL (l.map f) = true
  | [], _ => rfl
  | a :: l, h => by
    rw [List.map_cons]
    unfold PlnL
    rw [h a List.mem_cons_self, plnL_map fun b hb => h b (List.mem_cons_of_mem _ hb)]; rfl
theorem depthAll_le {n : Nat} : ∀ {l : List PyData}, (∀ a ∈ l, a.depth ≤ n) → PyData.depthAll l ≤ n
  | [], _ => Nat.zero_le _
  | a :: l, h => by
    unfold PyData.depthAll
    have h1 := h a List.mem_cons_self
    have h2 := depthAll_le fun b hb => h b (List.mem_cons_of_mem _ hb)
    omega
theorem pln_tup {ds : List PyData} : Pln (.tuple ds) = PlnL ds := by simp [Pln]
theorem depth_tup {ds : List PyData} : (PyData.tuple ds).depth = PyData.depthAll ds + 1 := by simp [PyData.depth]
theorem pd_node {n : Nat} {nd : Nd Str} (h : NdOk n nd) : Pd (pyN nd) ∧ (pyN nd).depth ≤ 2 := by
  cases nd with
  | opn => exact ⟨⟨rfl, by decide⟩, by decide⟩
  | non => exact ⟨⟨rfl, by decide⟩, by decide⟩
  | op f xs =>
    have hd : (pyN (.op f xs)).depth ≤ 2 := by
      unfold pyN
      rw [depth_tup]
      have : PyData.depthAll [PyData.str f, .tuple (xs.map fun i : Nat => .int (i : Nat))] ≤ 1 := by
        refine depthAll_le fun a ha => ?_
        rcases List.mem_cons.mp ha with rfl | ha
        · simp [PyData.depth]
        · have : a = .tuple (xs.map fun i : Nat => .int (i : Nat)) := by simpa using ha
          subst this
          rw [depth_tup]
          have : PyData.depthAll (xs.map fun i : Nat => PyData.int (i : Nat)) ≤ 0 := depthAll_le fun a ha => by
            obtain ⟨i, _, rfl⟩ := List.mem_map.mp ha
            simp [PyData.depth]
          omega
      omega
    refine ⟨⟨?_, by omega⟩, hd⟩
    unfold pyN
    rw [pln_tup]
    unfold PlnL
    rw [pln_str h.1]
    unfold PlnL
    rw [pln_tup, plnL_map fun i _ => rfl]; rfl
theorem pd_nil : Pd (.tuple []) := ⟨rfl, by decide⟩
theorem NsOk.wf {ns : List (Nd Str)} (h : NsOk ns) : WfN ns := fun i f xs e x hx => (h.2 i _ e).2.2 x hx
theorem NsOk.am {ns : List (Nd Str)} (h : NsOk ns) : K49.AtMost 3 ns := fun i f xs e => (h.2 i _ e).2.1
theorem getD_some {α : Type} {l : List α} {d : α} {i : Nat} (h : i < l.length) : l[i]? = some (l.getD i d) := K49.getD_at h
theorem NsOk.at {ns : List (Nd Str)} (h : NsOk ns) {i : Nat} (hi : i < ns.length) : NdOk i (ns.getD i .non) := h.2 i _ (getD_some hi)
theorem pyN_none {nd : Nd Str} : decide (pyN nd = .none) = (match nd with | .opn => true | _ => false) := by cases nd <;> simp [pyN]
theorem pyN_nil {nd : Nd Str} : decide (pyN nd = .tuple []) = K49.isNon nd := by cases nd <;> simp [pyN, K49.isNon]
/-! ### int keys -/
def nK (h : Nat) : Key := Sum.inl (h : Int)
def numK (acc : List Nat) : List (Key × V) := posK (acc.map nK)
theorem nK_inj {a b : Nat} (h : nK a = nK b) : a = b := by
  unfold nK at h
  injection h with h
  omega
theorem mem_nK {h : Nat} {acc : List Nat} : nK h ∈ acc.map nK ↔ h ∈ acc := by
  constructor
  · intro m
    obtain ⟨x, hx, e⟩ := List.mem_map.mp m
    have := nK_inj e
    subst this; exact hx
  · intro m; exact List.mem_map.mpr ⟨h, m, rfl⟩
theorem numK_val (h : Nat) (acc : List Nat) : valV (numK acc) (nK h) = if h ∈ acc then some (.int ((K49.pos acc h : Nat) : Int)) else none := by
  unfold numK
  rw [posK_val]
  by_cases m : h ∈ acc
  · rw [if_pos m, if_pos (mem_nK.mpr m)]
    have : K49.pos (acc.map nK) (nK h) = K49.pos acc h := K49.idxOf_map (P := fun _ => True) (fun _ _ _ _ e => nK_inj e) trivial fun _ _ => trivial
    rw [this]
  · rw [if_neg m, if_neg fun z => m (mem_nK.mp z)]
theorem numK_some (h : Nat) (acc : List Nat) : (valV (numK acc) (nK h)).isSome = decide (h ∈ acc) := by
  rw [numK_val]
  by_cases m : h ∈ acc <;> simp [m]
theorem numK_put {acc : List Nat} {h : Nat} (m : h ∉ acc) : putK (numK acc) (nK h) (V.int (acc.length : Nat)) = numK (acc ++ [h]) := by
  unfold numK
  rw [List.map_append]
  have := posK_put (ks := acc.map nK) (k := nK h) fun z => m (mem_nK.mp z)
  rw [List.length_map] at this
  exact this
theorem numK_len (acc : List Nat) : (numK acc).length = acc.length := by unfold numK; rw [posK_len, List.length_map]
theorem en_if {tt : TT} {ta tb : TE} {σ : L2.St} {H : Hp} {ds : List PyData} {b : Bool} (h : EvT tt σ H b) (h1 : b = true → EvN ta σ H ds) (h2 : b = false → EvN tb σ H ds) : EvN (tIf tt ta tb) σ H ds := fun H1 e Q q => h H1 e _ fun H2 e2 => by
  cases b with
  | true => exact h1 rfl H2 (e.trans e2) _ fun p xs H3 hp e3 h3 t => q p xs H3 (fresh_back e2 hp) (e2.trans e3) h3 t
  | false => exact h2 rfl H2 (e.trans e2) _ fun p xs H3 hp e3 h3 t => q p xs H3 (fresh_back e2 hp) (e2.trans e3) h3 t
theorem filterMap_if {α β : Type} (p : α → Bool) (f : α → β) : ∀ (l : List α), l.filterMap (fun a => if p a = true then some (f a) else none) = (l.filter p).map f
  | [] => rfl
  | a :: l => by
    rw [List.filterMap_cons, List.filter_cons, filterMap_if p f l]
    by_cases h : p a = true <;> simp [h]
section
variable {P : Program} {w : World} {K : PySem.W.Frag} {mg : Str → Option Value} {base : Heap}
theorem sc_numbers_for : FnScope ["nodes", "firsts", "starts", "numbers", "start", "waiting", "here", "inner", "left", "at"] ["nodes", "firsts", "starts"] (defScope (top 16)) := ⟨rfl, rfl, rfl, by decide +kernel, rfl, by decide +kernel, by decide +kernel⟩
noncomputable def fsD (ns : List (Nd Str)) : List PyData := (List.range ns.length).map fun i => .int ((fst ns i : Nat) : Int)
theorem fsD_at {ns : List (Nd Str)} {i : Nat} (h : i < ns.length) : (fsD ns)[i]? = some (.int ((fst ns i : Nat) : Int)) := by
  unfold fsD
  rw [List.getElem?_map, List.getElem?_range h]; rfl
def spNumbers : Sp := fun vs H Q _ => ∃ (a b c : Addr) (ns : List (Nd Str)) (starts : List Nat), vs = [.ref a, .ref b, .ref c] ∧ LsD a (ns.map pyN) H ∧ LsD b (fsD ns) H ∧ LsD c (starts.map fun i => .int (i : Nat)) H ∧ NsOk ns ∧ (∀ s ∈ starts, RepN ns s) ∧
  ∀ (ord : List Nat) dn H', OrdOk (RepN ns) (tm ns) ord (starts.map (tm ns)) → H dn = none → Ex H H' → H' dn = some (.dK (numK ord)) → Q (.ref dn) H'
theorem rep_len {n : Nat} {l : List Nat} (h : ∀ x ∈ l, x < n) (hd : l.Nodup) : l.length ≤ n := by
  have := K49.nodup_len (r := List.range n) hd fun a ha => List.mem_range.mpr (h a ha)
  simpa using this
theorem runN_zero {inn : Nat → List Nat} {st acc tgt : List Nat} {h : Nat} (e : runN inn 0 (h :: st) acc = some tgt) : False := by simp [K49.runN] at e
theorem cal_numbers_for (T : Nm K mg) (F : Df K (dG 16 "numbers_for")) : Cal P w K mg base 1 "numbers_for" ["nodes", "firsts", "starts"] spNumbers := by
  refine cal_of T F (by decide +kernel) sc_numbers_for (fun _ _ _ _ _ _ us hl => match us, hl with | [_, _, _], _ => rfl) (fun vs H Q E h => ?_) fun cdv A outer s H vs Q E hr h => ?_
  · obtain ⟨a, b, c, ns, starts, rfl, _⟩ := h
    rfl
  · obtain ⟨a, b, c, ns, starts, rfl, hN, hF, hS, ok, hst, k⟩ := h
    have hu := hu_of hr
    have nd := sc_numbers_for.nd
    refine ⟨_, (pss_cons (ps_set (i := 3) nd rfl (Or.inr rfl) pe_dnewK) (pss_cons (ps_for PassesOwn.never rfl (pi_list (pv 2)) (pg_name (i := 4) nd rfl (Or.inl rfl))
        (pss_cons (ps_set (i := 5) nd rfl (Or.inl rfl) (pe_lst (pa_cons (pv 4) pa_nil))) (pss_one (ps_while PassesOwn.never (q_gt (q_len T (pa_cons (pv 5) pa_nil)) pe_int)
            (pss_cons (ps_set (i := 6) nd rfl (Or.inl rfl) (q_ixL (pv 5) (pe_un un_neg pe_int))) (pss_cons (ps_set (i := 7) nd rfl (Or.inl rfl) (pe_ifExp (PW.pt (pw_or (q_none (q_ixL (pv 0) (pv 6))) (pw_or1 (q_eqD hr.units (q_ixL (pv 0) (pv 6)) (pe_tup pa_nil))))) (pe_lst pa_nil)
                (pe_lc (own := [("at", 9)]) (g := gName 9) (tt := tYes) (te := tOp (rIxL K) (tVar 1) (tVar 9)) rfl nd (pi_tup (q_ixT (q_ixL (pv 0) (pv 6)) pe_int)) (blkOk_by (own := [("at", 9)]) (N := ["nodes", "firsts", "starts", "numbers", "start", "waiting", "here", "inner", "left", "at"]) (sc := defScope (top 16)) (by decide +kernel))
                  (fun _ _ _ _ _ => pg_name (i := 9) nd rfl (Or.inl rfl)) (fun _ _ _ _ _ => pts_nil) (fun _ _ _ _ _ => q_ixL (pv 1) (pv 9))))) (pss_cons (ps_setLc (i := 8) (own := [("at", 9)]) (g := gName 9) (tt := tB (tDNotIn (tVar 9) (tVar 3))) (te := tVar 9) rfl nd rfl rfl (sw_true rfl rfl rfl (by decide +kernel)) (pi_list (pv 7)) (blkOk_by (own := [("at", 9)]) (N := ["nodes", "firsts", "starts", "numbers", "start", "waiting", "here", "inner", "left", "at"]) (sc := defScope (top 16)) (by decide +kernel))
                (fun _ _ _ _ _ => pg_name (i := 9) nd rfl (Or.inl rfl)) (fun _ _ _ _ _ => pts_one (pt_cmp (pc_dnotin hu (pv 9) (pv 3)))) (fun _ _ _ _ _ => pv 9)) (pss_one (ps_if (pt_cmp (pc_din hu (pv 6) (pv 3))) (pss_one (ps_expr (q_pop (pv 5))))
                (pss_one (ps_if (q_gt (q_len T (pa_cons (pv 8) pa_nil)) pe_int) (pss_one (ps_expr (q_app (pv 5) (pa_cons (q_ixL (pv 8) pe_int) pa_nil))))
                  (pss_cons (ps_dput hu (pv 3) (pv 6) (pe_callB call_lenD (by rfl) (T.f "len") (by decide +kernel) (pa_cons (pv 3) pa_nil)) rfl) (pss_one (ps_expr (q_pop (pv 5)))))))))))))))) (pss_one (ps_ret (pv 3))))), ?_⟩
    intro dn hdn
    have e0 : Ex H (upd H dn (.dK [])) := Ex.new hdn
    obtain ⟨cs, hcs, _⟩ := id hS
    refine ⟨_, rfl, c, rfl, ⟨_, SqL.of (e0 _ _ hcs)⟩, for_wk (wk_list (K := K) (a := c) (es := starts.map fun i => .int (i : Nat))) (fun i σ H1 => Ex H H1 ∧ ∃ (ord : List Nat) (v4 v5 v6 v7 v8 : Option V), OrdOk (RepN ns) (tm ns) ord ((starts.take i).map (tm ns)) ∧ H1 dn = some (.dK (numK ord)) ∧
      σ = [some (.ref a), some (.ref b), some (.ref c), some (.ref dn), v4, v5, v6, v7, v8, none]) ⟨e0, [], none, none, none, none, none, OrdOk.nil, upd_same, rfl⟩ (fun i σ H1 _ p => LsD.ex p.1 hS) ?_ ?_⟩
    · rintro i σ H1 x H2 e he ⟨e1, ord, v4, v5, v6, v7, v8, o, hd1, rfl⟩ e2 t
      rw [List.getElem?_map] at he
      cases qs : starts[i]? with
      | none => rw [qs] at he; cases he
      | some s0 =>
        rw [qs] at he
        cases he
        have := t.inv_int
        subst this
        have hs0 := hst s0 (List.mem_of_getElem? qs)
        obtain ⟨ord', m0, o', hrun⟩ := OrdOk.next (K49.repN ok.wf) o hs0
        have hd2 := e2 _ _ hd1
        refine s_asgL (el_lst (ea_cons (ev_var rfl) ea_nil) (by simp)) fun dw H3 hw e3 h3 => ?_
        have hw0 : H dw = none := fresh_back (e1.trans e2) hw
        have nnw : dn ≠ dw := ne_of_none hd2 hw
        refine s_while (fun m σ' H' => Ex H H' ∧ ∃ (st acc : List Nat) (v6 v7 v8 : Option V), runN (innN ns) m st acc = some ord' ∧ ((∀ x ∈ st, RepN ns x) ∧ st.Pairwise fun x y => K49.sz (tm ns x) < K49.sz (tm ns y)) ∧ ((∀ x ∈ acc, RepN ns x) ∧ acc.Nodup) ∧ H' dn = some (.dK (numK acc)) ∧ H' dw = some (.lst (st.reverse.map fun h : Nat => V.int (h : Nat))) ∧
          σ' = [some (.ref a), some (.ref b), some (.ref c), some (.ref dn), some (.int (s0 : Nat)), some (.ref dw), v6, v7, v8, none]) m0 ⟨(e1.trans e2).trans e3, [s0], ord, v6, v7, v8, hrun, ⟨fun x hx => by simp at hx; subst hx; exact hs0, by simp⟩, ⟨o.all, o.nodup⟩, e3 _ _ hd2, h3, rfl⟩ ?_
        rintro m σ' H' ⟨eH, st, acc, v6, v7, v8, hrn, ⟨pst, wst⟩, ⟨pacc, nacc⟩, hdn', hdw', rfl⟩
        refine ⟨_, et_test (ev_op (ev_len (ev_var rfl) (SqL.of hdw')) ev_c rv_I0), fun ht H4 e4 => ?_, fun hf H4 e4 => ?_⟩
        · cases st with
          | nil => simp at ht
          | cons h st =>
            cases m with
            | zero => exact (runN_zero hrn).elim
            | succ m =>
              refine ⟨_, fun σ2 H2 hw => ⟨m, Nat.lt_succ_self m, hw⟩, ?_⟩
              have hh := pst h List.mem_cons_self
              have hst' : ∀ x ∈ st, RepN ns x := fun x hx => pst x (List.mem_cons_of_mem _ hx)
              have hdwE : ((h :: st).reverse.map fun h : Nat => V.int (h : Nat)) = (st.reverse.map fun h : Nat => V.int (h : Nat)) ++ [V.int (h : Nat)] := by simp
              rw [hdwE] at hdw'
              have e14 := eH.trans e4
              refine s_asg (ev_last (ev_var rfl) (e4 _ _ hdw')) fun H5 e5 => ?_
              have e15 := e14.trans e5
              obtain ⟨as, has, tas⟩ := LsD.ex e15 hN
              obtain ⟨bs, hbs, tbs⟩ := LsD.ex e15 hF
              have hnd : NdOk h (ns.getD h .non) := ok.at hh.1
              have node : EvD (tOp (rIxL K) (tVar 0) (tVar 6)) [some (.ref a), some (.ref b), some (.ref c), some (.ref dn), some (.int (s0 : Nat)), some (.ref dw), some (.int (h : Nat)), v7, v8, none] H5 (pyN (ns.getD h .non)) :=
                ed_ixL (ev_var rfl) has tas (ev_var rfl) rfl (by rw [List.getElem?_map, getD_some hh.1]; rfl)
              refine s_setN (ds := (innN ns h).map fun i : Nat => .int (i : Nat)) (en_if (et_or (et_B (ev_isNo node)) fun _ => et_test (ev_eqD node (ed_tup ead_nil (by simp)) (pd_node hnd).1 pd_nil)) (fun hb => ?_) fun hb => ?_) fun pi is H6 hpi e6 hpl tpl => ?_
              · -- inner = []
                rw [pyN_none, pyN_nil] at hb
                have : innN ns h = [] := by
                  unfold innN
                  cases q : ns.getD h .non with
                  | opn => rfl
                  | non => rfl
                  | op f xs => rw [q] at hb; simp [K49.isNon] at hb
                rw [this]
                exact en_lst ead_nil (by simp)
              · rw [pyN_none, pyN_nil] at hb
                cases q : ns.getD h .non with
                | opn => rw [q] at hb; simp at hb
                | non => rw [q] at hb; simp [K49.isNon] at hb
                | op f xs =>
                  rw [q] at node hnd
                  have hx : ∀ x ∈ xs, x < ns.length := K49.wf_lt ok.wf hh.1 q
                  refine en_is (en_lcT (as := xs) (enc := fun i : Nat => .int (i : Nat)) (ed_ixT node ev_c (j := 1) rfl rfl) (by have := hnd.2.1; omega) (fun z => some (.int ((fst ns z : Nat) : Int))) fun z x H6 hz e6 t Q' kk => ?_) ?_
                  · have := t.inv_int
                    subst this
                    refine kk _ rfl et_yes fun d hd => ?_
                    cases hd
                    exact ed_ixL (ev_var rfl) (e6 _ _ hbs) (tbs.ex e6) (ev_var rfl) rfl (fsD_at (hx z hz))
                  · rw [filterMap_some]
                    unfold innN
                    rw [q, List.map_map]; rfl
              · -- left
                dsimp only
                refine q_seq ?_
                have e16 := e15.trans e6
                have hdn6 := e6 _ _ (e5 _ _ (e4 _ _ hdn'))
                have hdw6 := e6 _ _ (e5 _ _ (e4 _ _ hdw'))
                have hinn : ∀ z ∈ innN ns h, RepN ns z := fun z hz => (K49.repN ok.wf).down h hh z hz
                have hil : (innN ns h).length ≤ 3 := by
                  unfold innN
                  cases q : ns.getD h .non with
                  | opn => simp
                  | non => simp
                  | op f xs =>
                    rw [q] at hnd
                    simp only [List.length_map]
                    exact hnd.2.1
                refine s_setN (ds := ((innN ns h).filter fun z => decide (z ∉ acc)).map fun i : Nat => .int (i : Nat)) (en_is (en_lcL (as := innN ns h) (enc := fun i : Nat => .int (i : Nat)) (ev_var rfl) ⟨is, hpl, tpl⟩ (by omega) (fun z => if decide (z ∉ acc) = true then some (.int ((z : Nat) : Int)) else none) fun z x H7 hz e7 t Q' kk => ?_) (filterMap_if _ _ _)) fun pl ls H7 hpl' e7 hll tll => ?_
                · have := t.inv_int
                  subst this
                  refine kk _ rfl (et_is (et_B (ev_dnin (k := nK z) rfl (ev_var rfl) (ev_var rfl) (e7 _ _ hdn6))) ?_) fun d hd => ?_
                  · rw [numK_some]
                    by_cases m : z ∈ acc <;> simp [m]
                  · split at hd
                    · cases hd
                      exact int_d (ev_var rfl)
                    · cases hd
                · dsimp only
                  have e17 := e16.trans e7
                  have hdn7 := e7 _ _ hdn6
                  have hdw7 := e7 _ _ hdw6
                  refine s_if (et_B (ev_din (k := nK h) rfl (ev_var rfl) (ev_var rfl) hdn7)) (fun hb H8 e8 => ?_) fun hb H8 e8 => ?_
                  · rw [numK_some] at hb
                    have hm : h ∈ acc := by simpa using hb
                    rw [K49.runN, if_pos hm] at hrn
                    refine s_pop (e8 _ _ hdw7) (ev_var rfl) fun H9 e9 => ?_
                    exact ⟨Ex.mut ((e17.trans e8).trans e9) hw0, st, acc, _, _, _, hrn, ⟨hst', (List.pairwise_cons.mp wst).2⟩, ⟨pacc, nacc⟩, by rw [upd_ne nnw]; exact e9 _ _ (e8 _ _ hdn7), upd_same, rfl⟩
                  · rw [numK_some] at hb
                    have hm : ¬ h ∈ acc := by simpa using hb
                    rw [K49.runN, if_neg hm] at hrn
                    refine s_if (et_test (ev_op (ev_len (ev_var rfl) (SqL.of (e8 _ _ hll))) ev_c rv_I0)) (fun hb2 H9 e9 => ?_) fun hb2 H9 e9 => ?_
                    · cases ql : (innN ns h).filter fun z => decide (z ∉ acc) with
                      | nil =>
                        rw [ql] at tll
                        have := tll.inv_nil
                        subst this
                        simp at hb2
                      | cons l r =>
                        rw [ql] at hrn
                        simp only at hrn
                        rw [ql] at tll
                        have hl : l ∈ innN ns h := by
                          have : l ∈ (innN ns h).filter fun z => decide (z ∉ acc) := by rw [ql]; exact List.mem_cons_self
                          exact (List.mem_filter.mp this).1
                        have hln : (st.reverse.map fun h : Nat => V.int (h : Nat)).length < 99999 := by
                          have h1 := rep_len (fun x hx => (pst x hx).1) (wst.imp fun {x y} (z : K49.sz (tm ns x) < K49.sz (tm ns y)) (e : x = y) => by subst e; omega)
                          have h2 := ok.1
                          simp at h1 ⊢
                          omega
                        refine s_appD (d := .int (l : Nat)) (e9 _ _ (e8 _ _ hdw7)) (ev_var rfl) (ed_ixL (ev_var rfl) (e9 _ _ (e8 _ _ hll)) ((tll.ex e8).ex e9) ev_c (j := 0) rfl rfl) (by rw [List.length_append]; simp at hln ⊢; omega) fun v H10 e10 tv => ?_
                        have := tv.inv_int
                        subst this
                        refine ⟨Ex.mut (((e17.trans e8).trans e9).trans e10) hw0, l :: h :: st, acc, _, _, _, hrn, ⟨fun x hx => ?_, ?_⟩, ⟨pacc, nacc⟩, by rw [upd_ne nnw]; exact e10 _ _ (e9 _ _ (e8 _ _ hdn7)), ?_, rfl⟩
                        · rcases List.mem_cons.mp hx with rfl | hx
                          · exact hinn _ hl
                          · exact pst x hx
                        · have hk : tm ns l ∈ K49.kids (tm ns h) := by
                            rw [(K49.repN ok.wf).kid h hh]
                            exact List.mem_map.mpr ⟨l, hl, rfl⟩
                          have hlt := K49.sz_kid hk
                          refine List.pairwise_cons.mpr ⟨fun y hy => ?_, wst⟩
                          rcases List.mem_cons.mp hy with rfl | hy
                          · exact hlt
                          · exact Nat.lt_trans hlt ((List.pairwise_cons.mp wst).1 y hy)
                        · rw [upd_same]; simp
                    · cases ql : (innN ns h).filter fun z => decide (z ∉ acc) with
                      | cons l r =>
                        rw [ql] at tll
                        have := tll.length
                        simp at hb2 this
                        rw [hb2] at this
                        simp at this
                      | nil =>
                        rw [ql] at hrn
                        simp only at hrn
                        have hdn9 := e9 _ _ (e8 _ _ hdn7)
                        refine q_seq ?_
                        refine s_dput (k := nK h) (v := .int (acc.length : Nat)) rfl (ev_is (ev_dlen (ev_var rfl) hdn9) (by rw [numK_len])) (ev_var rfl) (ev_var rfl) hdn9 (by rw [numK_len]; have h1 := rep_len (fun x hx => (pacc x hx).1) nacc; have h2 := ok.1; omega) fun H10 e10 => ?_
                        rw [numK_put hm]
                        have e110 := ((e17.trans e8).trans e9).trans e10
                        have eput : Ex H (upd H10 dn (.dK (numK (acc ++ [h])))) := Ex.mut e110 hdn
                        refine s_pop (xs := st.reverse.map fun h : Nat => V.int (h : Nat)) (v := .int (h : Nat)) (by rw [upd_ne nnw.symm]; exact e10 _ _ (e9 _ _ (e8 _ _ hdw7))) (ev_var rfl) fun H11 e11 => ?_
                        refine ⟨Ex.mut (eput.trans e11) hw0, st, acc ++ [h], _, _, _, hrn, ⟨hst', (List.pairwise_cons.mp wst).2⟩, ⟨fun x hx => ?_, ?_⟩, by rw [upd_ne nnw]; exact e11 _ _ upd_same, upd_same, rfl⟩
                        · rcases List.mem_append.mp hx with hx | hx
                          · exact pacc x hx
                          · have : x = h := by simpa using hx
                            subst this; exact hh
                        · refine List.nodup_append.mpr ⟨nacc, by simp, fun x hx y hy => ?_⟩
                          have : y = h := by simpa using hy
                          subst this
                          rintro rfl
                          exact hm hx
        · cases st with
          | cons h st => simp at hf
          | nil =>
            rw [K49.runN_nil] at hrn
            cases hrn
            refine ⟨eH.trans e4, ord', _, _, _, _, _, ?_, e4 _ _ hdn', rfl⟩
            rw [List.take_succ_eq_append_getElem (List.getElem?_eq_some_iff.mp qs).1, (List.getElem?_eq_some_iff.mp qs).2, List.map_append]
            exact o'
    · rintro σ H1 ⟨e1, ord, v4, v5, v6, v7, v8, o, hd1, rfl⟩
      rw [List.length_map, List.take_length] at o
      exact s_ret (ev_var rfl) fun H2 e2 => k ord dn H2 o hdn (e1.trans e2) (e2 _ _ hd1)
end
end K49W

-- part K49N
/-! A dict whose keys are tuples of texts, ints and such tuples: tracked by its own object (HO.ext). -/
namespace K49W
open PySem PySem.Spec PyProof.Rows L2 Evl
mutual
/-- data as a key -/
def nkey : PyData → NestedKey
  | .int i => .num i
  | .str x => .text x
  | .tuple ds => .tup (nkeys ds)
  | _ => .none
def nkeys : List PyData → List NestedKey
  | [] => []
  | d :: ds => nkey d :: nkeys ds
end
mutual
theorem nkey_inj : ∀ (d e : PyData), Pln d = true → Pln e = true → nkey d = nkey e → d = e
  | .none, e, _, he, h => by cases e <;> simp_all [Pln, nkey]
  | .int i, e, _, he, h => by cases e <;> simp_all [Pln, nkey]
  | .str x, e, _, he, h => by cases e <;> simp_all [Pln, nkey]
  | .tuple ds, e, hd, he, h => by
    cases e with
    | tuple es =>
      have h' : nkeys ds = nkeys es := by simpa [nkey] using h
      rw [nkeys_inj ds es (by simpa [Pln] using hd) (by simpa [Pln] using he) h']
    | none => simp [nkey] at h
    | int _ => simp [nkey] at h
    | str _ => simp [nkey] at h
    | bool _ => simp [Pln] at he
    | list _ => simp [Pln] at he
    | dict _ => simp [Pln] at he
  | .bool _, _, h, _, _ => by simp [Pln] at h
  | .list _, _, h, _, _ => by simp [Pln] at h
  | .dict _, _, h, _, _ => by simp [Pln] at h
theorem nkeys_inj : ∀ (ds es : List PyData), PlnL ds = true → PlnL es = true → nkeys ds = nkeys es → ds = es
  | [], [], _, _, _ => rfl
  | [], _ :: _, _, _, h => by simp [nkeys] at h
  | _ :: _, [], _, _, h => by simp [nkeys] at h
  | d :: ds, e :: es, hd, he, h => by
    have hd' : Pln d = true ∧ PlnL ds = true := by simpa [PlnL] using hd
    have he' : Pln e = true ∧ PlnL es = true := by simpa [PlnL] using he
    simp only [nkeys, List.cons.injEq] at h
    rw [nkey_inj d e hd'.1 he'.1 h.1, nkeys_inj ds es hd'.2 he'.2 h.2]
end
section
variable {X : Cx} {pins : List (Addr × Obj)} {σ : L2.St} {H : Hp} {s : Shared}
mutual
theorem nested_of (I : Inv X pins σ H s) : ∀ {v : V} {d : PyData} {u : Value}, Tp H v d → Pln d = true → RelV v u → NestedIs s.heap (nkey d) u
  | _, _, _, .non, _, r => by cases r; exact .none
  | _, _, _, .bl b, h, _ => by simp [Pln] at h
  | _, _, _, .int i, _, r => by obtain ⟨t, rfl⟩ := r; exact .int i t
  | _, _, _, .str x, _, r => by obtain ⟨t, rfl⟩ := r; exact .text x t
  | _, _, _, .tup (a := a) (xs := xs) (ds := ds) e l, h, r => by
    cases r
    obtain ⟨_, its, rv, o, h1, h2, n, h3⟩ := (show ObjOk X.prog X.w H s.heap a (.tup xs) from I.hok a _ e)
    rw [nkey]
    exact .tup h1 h2 h3 (nesteds_of I l (by simpa [Pln] using h) (by simpa using rv))
theorem nesteds_of (I : Inv X pins σ H s) : ∀ {vs : List V} {ds : List PyData} {us : List Value}, TpL H vs ds → PlnL ds = true → Vals vs us → NestedAll s.heap (nkeys ds) us
  | _, _, _, .nil, _, r => by cases r; exact .nil
  | _, _, _, .cons (d := d) (ds := ds) t l, h, r => by
    have h' : Pln d = true ∧ PlnL ds = true := by simpa [PlnL] using h
    cases r with
    | cons ra rb => exact .cons (nested_of I t h'.1 ra) (nesteds_of I l h'.2 rb)
end
end
/-- the object of such a dict: its entries -/
def NDO (P : Program) (w : World) (d : Addr) (xs : List (NestedKey × Addr × Value)) : HO := .ext fun h => ∃ o es ep, h.get? d = some o ∧ o.ExactDict ∧ o.data = .dict es ep ∧ es.toList = xs.map (entryOfKey (nestedKind P w))
/-- a key: plain, a tuple, not deep -/
structure KeyOk (k : PyData) : Prop where
  pl : Pln k = true
  tu : ∃ ds, k = .tuple ds
  dp : (nkey k).depth ≤ 8
/-- what a dict holds, by data -/
structure ND (P : Program) (w : World) (H : Hp) (d : Addr) (kvs : List (PyData × V)) : Prop where
  ex : ∃ xs, H d = some (NDO P w d xs) ∧ (d == sysModules) = false ∧ Paired (fun (p : PyData × V) (q : NestedKey × Addr × Value) => nkey p.1 = q.1 ∧ Tp H (.ref q.2.1) p.1 ∧ KeyOk p.1 ∧ RelV p.2 q.2.2) kvs xs ∧ (xs.map (·.1)).Nodup
/-- the value at a key -/
noncomputable def lkN (kvs : List (PyData × V)) (k : PyData) : Option V := (kvs.find? fun p => decide (p.1 = k)).map (·.2)
theorem ND.keep {P : Program} {w : World} {H H' : Hp} {d : Addr} {kvs : List (PyData × V)} (h : ND P w H d kvs) (e : H' d = H d) (t : TX H H') : ND P w H' d kvs := by
  obtain ⟨xs, h1, h2, h3, h4⟩ := h.ex
  exact ⟨xs, by rw [e]; exact h1, h2, Paired.mapP h3 fun p q z => ⟨z.1, z.2.1.tx t, z.2.2⟩, h4⟩
theorem ND.exx {P : Program} {w : World} {H H' : Hp} {d : Addr} {kvs : List (PyData × V)} (h : ND P w H d kvs) (e : Ex H H') : ND P w H' d kvs := by
  obtain ⟨xs, h1, _⟩ := h.ex
  exact h.keep (by rw [h1]; exact e _ _ h1) (Ex.tx e)
theorem ND.there {P : Program} {w : World} {H : Hp} {d : Addr} {kvs : List (PyData × V)} (h : ND P w H d kvs) : ∃ o, H d = some o := let ⟨_, h1, _⟩ := h.ex; ⟨_, h1⟩
theorem ND.notup {P : Program} {w : World} {H : Hp} {d : Addr} {kvs : List (PyData × V)} (h : ND P w H d kvs) : ∀ xs, H d ≠ some (.tup xs) := fun xs e => by
  obtain ⟨_, h1, _⟩ := h.ex
  rw [h1] at e; cases e
section
variable {X : Cx} {pins : List (Addr × Obj)} {σ : L2.St} {H : Hp} {s : Shared} {d : Addr} {kvs : List (PyData × V)}
theorem paired_look {F : PyData × V → NestedKey × Addr × Value → Prop} (hF : ∀ p q, F p q → nkey p.1 = q.1 ∧ KeyOk p.1 ∧ RelV p.2 q.2.2) {k : PyData} (hk : KeyOk k) : ∀ {kvs : List (PyData × V)} {xs : List (NestedKey × Addr × Value)}, Paired F kvs xs → RelO (lkN kvs k) ((atKey xs (nkey k)).map (·.2))
  | _, _, .nil => trivial
  | _, _, .cons (a := p) (b := q) r t => by
    obtain ⟨h1, h2, h3⟩ := hF _ _ r
    have ih := paired_look hF hk t
    unfold lkN atKey at ih ⊢
    rw [List.find?_cons, List.find?_cons]
    by_cases e : p.1 = k
    · have e' : q.1 = nkey k := by rw [← h1, e]
      simp only [e, e', decide_true]
      exact h3
    · have e' : ¬ q.1 = nkey k := fun z => e (nkey_inj _ _ h2.pl hk.pl (h1.trans z))
      simp only [decide_eq_false e, decide_eq_false e']
      exact ih
theorem nd_of (I : Inv X pins σ H s) (h : ND X.prog X.w H d kvs) : ∃ xs, H d = some (NDO X.prog X.w d xs) ∧ (d == sysModules) = false ∧ s.heap.DictOfH (nestedKind X.prog X.w) d xs ∧
    Paired (fun (p : PyData × V) (q : NestedKey × Addr × Value) => nkey p.1 = q.1 ∧ Tp H (.ref q.2.1) p.1 ∧ KeyOk p.1 ∧ RelV p.2 q.2.2) kvs xs := by
  obtain ⟨xs, h1, h2, h3, h4⟩ := h.ex
  obtain ⟨⟨o, es, ep, g1, g2, g3, g4⟩, _, _⟩ := (show ObjOk X.prog X.w H s.heap d (NDO X.prog X.w d xs) from I.hok d _ h1)
  refine ⟨xs, h1, h2, ⟨o, es, ep, g1, g2, g3, g4, ?_, h4⟩, h3⟩
  have all : ∀ {l : List (PyData × V)} {m : List (NestedKey × Addr × Value)}, Paired (fun (p : PyData × V) (q : NestedKey × Addr × Value) => nkey p.1 = q.1 ∧ Tp H (.ref q.2.1) p.1 ∧ KeyOk p.1 ∧ RelV p.2 q.2.2) l m → ∀ x ∈ m, (nestedKind X.prog X.w).is s.heap x.1 x.2.1 := by
    intro l m q
    induction q with
    | nil => intro x hx; exact nomatch hx
    | @cons p q ps qs hq t ih =>
      intro x hx
      rcases List.mem_cons.mp hx with e | hx
      · subst e
        obtain ⟨e1, e2, e3, _⟩ := hq
        rw [← e1]
        exact ⟨nested_of I e2 e3.pl rfl, e3.dp⟩
      · exact ih x hx
  exact all h3
theorem key_is (I : Inv X pins σ H s) {b : Addr} {k : PyData} (t : Tp H (.ref b) k) (hk : KeyOk k) : (nestedKind X.prog X.w).is s.heap (nkey k) b := ⟨nested_of I t hk.pl rfl, hk.dp⟩
/-- {} -/
def tNNew (P : Program) (w : World) : TE := fun _ H Q => ∀ d, H d = none → ND P w (upd H d (NDO P w d [])) d [] → Q (.ref d) (upd H d (NDO P w d []))
theorem pe_nnew {pos : Pos} : PE X (.Dict [] [] pos) (tNNew X.prog X.w) := ⟨fun pins s σ H Q I h => by
  have hb := L2.Inv.big I
  have hd : (s.heap.objs.size == sysModules) = false := beq_eq_false_iff_ne.mpr (Ne.symm (Nat.ne_of_lt hb))
  refine wpAny_Dict_empty ⟨.ref s.heap.objs.size, _, I.laid (a := s.heap.objs.size) (o := NDO X.prog X.w s.heap.objs.size []) (t' := s.toks) (fun _ _ q => Heap.get?_push_of_some _ q) (Nat.le_refl _) ⟨⟨_, #[], 0, Heap.get?_push_size _ rfl, ⟨rfl, rfl, rfl⟩, rfl, rfl⟩, ⟨_, Heap.get?_push_size _ rfl⟩, fun h1 h2 p k => ?_⟩, rfl,
    h _ (I.hok.fresh (Nat.le_refl _)) ⟨[], upd_same, hd, .nil, List.nodup_nil⟩⟩
  obtain ⟨o, es, ep, g1, g⟩ := p
  exact ⟨o, es, ep, k o g1, g⟩⟩
variable {o i value : Expr} {td ty tv : TE} {pos pos' : Pos}
/-- y in d, y not in d, d[y], y a tuple of data -/
def tNIn (P : Program) (w : World) (neg : Bool) (ty td : TE) : TE := fun σ H Q => ty σ H fun y H1 => td σ H1 fun x H2 => ∃ d b k kvs, x = .ref d ∧ y = .ref b ∧ Tp H2 (.ref b) k ∧ KeyOk k ∧ ND P w H2 d kvs ∧ Q (.bl (if neg then !(lkN kvs k).isSome else (lkN kvs k).isSome)) H2
def tNGet (P : Program) (w : World) (td ty : TE) : TE := fun σ H Q => td σ H fun x H1 => ty σ H1 fun y H2 => ∃ d b k kvs v, x = .ref d ∧ y = .ref b ∧ Tp H2 (.ref b) k ∧ KeyOk k ∧ ND P w H2 d kvs ∧ lkN kvs k = some v ∧ Q v H2
def sNPut (P : Program) (w : World) (td ty tv : TE) : TS := fun D σ H => tv σ H fun v H1 => td σ H1 fun x H2 => ty σ H2 fun y H3 => ∃ d b k kvs, x = .ref d ∧ y = .ref b ∧ Tp H3 (.ref b) k ∧ KeyOk k ∧ ND P w H3 d kvs ∧ lkN kvs k = none ∧ kvs.length < sizeLine ∧
  ∀ ob, ND P w (upd H3 d ob) d (kvs ++ [(k, v)]) → D.nx σ (upd H3 d ob)
theorem pc_nnotin (hu : X.A.units + 64 < cLine) (hi : PE X i ty) (ho : PE X o td) : PC X .NotIn i o (tNIn X.prog X.w true ty td) := by
  refine ⟨fun pins s σ H Q I h => ?_⟩
  refine thn (hi.run pins s σ H _ I h) fun iv s1 ⟨y, H1, I1, ry, q1⟩ => thn (ho.run pins s1 σ H1 _ I1 q1) fun u s2 ⟨x, H2, I2, rx, d, b, k, kvs, ex, ey, tk, hk, nd, q2⟩ => ?_
  subst ex ey
  obtain rfl : u = Value.ref d := rx
  obtain rfl : iv = Value.ref b := ry
  obtain ⟨xs, h1, h2, h3, h4⟩ := nd_of I2 nd
  refine wpAny_notIn_heap (by show X.A.units + 1 + 8 < cLine; omega) (key_is I2 tk hk) h2 h3 ?_
  have q := (paired_look (fun p q z => ⟨z.1, z.2.2⟩) hk h4).isSome_eq
  rw [Option.isSome_map] at q
  rw [← q]
  exact ⟨.bl (!(lkN kvs k).isSome), H2, I2.tok _, rfl, q2⟩
theorem pe_nget (hu : X.A.units + 64 < cLine) (ho : PE X o td) (hi : PE X i ty) (hs : L2.NoSl i) : PE X (.Subscript o i pos) (tNGet X.prog X.w td ty) := by
  refine ⟨fun pins s σ H Q I h => ?_⟩
  refine L2.subD_of PySem.F.slot_dict_getitem.lookup hs (thn (ho.run pins s σ H _ I h) fun u s1 ⟨x, H1, I1, rx, q1⟩ => thn (hi.run pins s1 σ H1 _ I1 q1) fun iv s2 ⟨y, H2, I2, ry, d, b, k, kvs, v, ex, ey, tk, hk, nd, hv, q2⟩ => ?_)
  subst ex ey
  obtain rfl : u = Value.ref d := rx
  obtain rfl : iv = Value.ref b := ry
  obtain ⟨xs, h1, h2, h3, h4⟩ := nd_of I2 nd
  refine ⟨h3.typeIs, ?_⟩
  obtain ⟨w', hw, rw'⟩ := RelO.some_of (v := v) (o := (atKey xs (nkey k)).map (·.2)) (by rw [← hv]; exact paired_look (fun p q z => ⟨z.1, z.2.2⟩) hk h4)
  obtain ⟨p, hp, hp2⟩ := Option.map_eq_some_iff.mp hw
  refine wpAny_getItem_heap (by show X.A.units + 1 + 8 < cLine; omega) (key_is I2 tk hk) h3 hp ?_
  rw [hp2]
  exact ⟨v, H2, I2.tok _, rw', q2⟩
theorem ps_nput (hu : X.A.units + 64 < cLine) (ho : PE X o td) (hi : PE X i ty) (hv : PE X value tv) (hs : swapsWith value (some (.Subscript o i pos')) pos.line X.env = pure false) :
    PS X (.Assign [.Subscript o i pos'] value pos) (sNPut X.prog X.w td ty tv) := by
  refine ⟨fun pins s σ H D I h => ?_⟩
  refine wpAny_Assign_Subscript (thn (hv.run pins s σ H _ I h) fun r s1 ⟨v, H1, I1, rv, q1⟩ => thn (ho.run pins s1 σ H1 _ I1 q1) fun u s2 ⟨x, H2, I2, rx, q2⟩ => thn (hi.run pins s2 σ H2 _ I2 q2) fun iv s3 ⟨y, H3, I3, ry, d, b, k, kvs, ex, ey, tk, hk, nd, hno, hl, q3⟩ => ?_) hs
  subst ex ey
  obtain rfl : u = Value.ref d := rx
  obtain rfl : iv = Value.ref b := ry
  obtain ⟨xs, h1, h2, h3, h4⟩ := nd_of I3 nd
  have hz : xs.length ≤ sizeLine := by rw [← Paired.length h4]; exact Nat.le_of_lt hl
  have hat : atKey xs (nkey k) = none := by
    have r := paired_look (fun p q z => ⟨z.1, z.2.2⟩) hk h4
    rw [hno] at r
    have := RelO.none_of r
    simpa using this
  refine wpAny_setItem_heap (hsz := hz) (by show X.A.units + 1 + 8 < cLine; omega) (key_is I3 tk hk) h3 fun h' dd' hs' => ?_
  rw [storedH_new hat] at dd'
  obtain ⟨q, es, ep, hq, g2, g3, g4, _, g5⟩ := dd'
  have mu : Mut (H3 d) := by rw [h1]; exact True.intro
  have tx : TX H3 (upd H3 d (NDO X.prog X.w d (xs ++ [(nkey k, b, r)]))) := TX.upd fun ys e => by rw [h1] at e; cases e
  have nd' : ND X.prog X.w (upd H3 d (NDO X.prog X.w d (xs ++ [(nkey k, b, r)]))) d (kvs ++ [(k, v)]) :=
    ⟨_, upd_same, h2, Paired.snoc (Paired.mapP h4 fun p q z => ⟨z.1, z.2.1.tx tx, z.2.2⟩) ⟨rfl, tk.tx tx, hk, rv⟩, g5⟩
  have new : ObjOk X.prog X.w (upd H3 d (NDO X.prog X.w d (xs ++ [(nkey k, b, r)]))) h' d (NDO X.prog X.w d (xs ++ [(nkey k, b, r)])) := by
    refine ⟨⟨q, es, ep, hq, g2, g3, g4⟩, ⟨q, hq⟩, fun h1 h2 p k => ?_⟩
    obtain ⟨o, es, ep, g1, g⟩ := p
    exact ⟨o, es, ep, k o g1, g⟩
  exact ⟨σ, _, I3.write (x := d) (e := d) mu (.inl rfl) (fun b' q' hb z => (hs'.2 b' hb).trans z) ⟨q, hq⟩ new, q3 _ nd'⟩
end
end K49W

-- part K49F8
namespace K49W
open PySem PySem.Spec PyProof.Rows L2 Evl
open K49 (Nd Rw WfN RepN innN runN OrdOk tm fst Ky keyOf)
theorem q_cut {t u : TS} {D : Ends} {σ : L2.St} {H : Hp} (P : L2.St → Hp → Prop) (h1 : ∀ nx : L2.St → Hp → Prop, (∀ σ' H', P σ' H' → nx σ' H') → t { D with nx := nx } σ H) (h2 : ∀ σ' H', P σ' H' → u D σ' H') : tSeq t u D σ H := h1 (u D) h2
/-! ### keys as data -/
def kyD : Ky Str → PyData
  | .opn i => .tuple [.str "open", .int (i : Nat)]
  | .non => .tuple []
  | .op f xs => .tuple [.str f, .tuple (xs.map fun i => .int (i : Nat))]
theorem ints_inj : ∀ {xs ys : List Nat}, (xs.map fun i => PyData.int (i : Nat)) = (ys.map fun i => PyData.int (i : Nat)) → xs = ys
  | [], [], _ => rfl
  | [], _ :: _, h => by simp at h
  | _ :: _, [], h => by simp at h
  | x :: xs, y :: ys, h => by
    simp only [List.map_cons, List.cons.injEq, PyData.int.injEq] at h
    obtain ⟨h1, h2⟩ := h
    have : x = y := by omega
    rw [this, ints_inj h2]
theorem kyD_inj : ∀ {a b : Ky Str}, kyD a = kyD b → a = b
  | .opn i, .opn j, h => by
    simp only [kyD, PyData.tuple.injEq, List.cons.injEq, PyData.int.injEq] at h
    have : i = j := by omega
    rw [this]
  | .opn _, .non, h => by simp [kyD] at h
  | .opn _, .op _ _, h => by simp [kyD] at h
  | .non, .opn _, h => by simp [kyD] at h
  | .non, .non, _ => rfl
  | .non, .op _ _, h => by simp [kyD] at h
  | .op _ _, .opn _, h => by simp [kyD] at h
  | .op _ _, .non, h => by simp [kyD] at h
  | .op f xs, .op g ys, h => by
    simp only [kyD, PyData.tuple.injEq, List.cons.injEq, PyData.str.injEq, and_true] at h
    rw [h.1, ints_inj h.2]
theorem nkeys_depth {n : Nat} : ∀ {ds : List PyData}, (∀ d ∈ ds, (nkey d).depth ≤ n) → NestedKey.depthAll (nkeys ds) ≤ n
  | [], _ => by simp [nkeys, NestedKey.depthAll]
  | d :: ds, h => by
    have a := h d List.mem_cons_self
    have b := nkeys_depth fun e he => h e (List.mem_cons_of_mem _ he)
    simp only [nkeys, NestedKey.depthAll]
    omega
theorem key_tup {ds : List PyData} {n : Nat} (h : ∀ d ∈ ds, (nkey d).depth ≤ n) : (nkey (.tuple ds)).depth ≤ n + 1 := by
  have := nkeys_depth h
  simp only [nkey, NestedKey.depth]
  omega
theorem kyD_ok {k : Ky Str} (h : ∀ f xs, k = .op f xs → nmOk f = true) : KeyOk (kyD k) := by
  cases k with
  | opn i =>
    refine ⟨?_, ⟨_, rfl⟩, ?_⟩
    · unfold kyD
      rw [pln_tup]
      unfold PlnL
      rw [pln_str (by decide +kernel)]; rfl
    · refine Nat.le_trans (key_tup (n := 0) fun d hd => ?_) (by decide)
      rcases List.mem_cons.mp hd with rfl | hd
      · simp [nkey, NestedKey.depth]
      · have : d = .int (i : Nat) := by simpa using hd
        subst this
        simp [nkey, NestedKey.depth]
  | non => exact ⟨rfl, ⟨_, rfl⟩, by decide⟩
  | op f xs =>
    refine ⟨?_, ⟨_, rfl⟩, ?_⟩
    · unfold kyD
      rw [pln_tup]
      unfold PlnL
      rw [pln_str (h f xs rfl)]
      unfold PlnL
      rw [pln_tup, plnL_map fun i _ => rfl]; rfl
    · refine Nat.le_trans (key_tup (n := 1) fun d hd => ?_) (by decide)
      rcases List.mem_cons.mp hd with rfl | hd
      · simp [nkey, NestedKey.depth]
      · have : d = .tuple (xs.map fun i : Nat => .int (i : Nat)) := by simpa using hd
        subst this
        refine key_tup (n := 0) fun d hd => ?_
        obtain ⟨i, _, rfl⟩ := List.mem_map.mp hd
        simp [nkey, NestedKey.depth]
theorem lkN_snoc {kvs : List (PyData × V)} {k x : PyData} {v : V} : lkN (kvs ++ [(k, v)]) x = match lkN kvs x with | some u => some u | none => if k = x then some v else none := by
  unfold lkN
  rw [List.find?_append]
  cases q : kvs.find? fun p => decide (p.1 = x) with
  | some p => rfl
  | none =>
    rw [Option.none_or, List.find?_cons]
    by_cases e : k = x
    · simp [e]
    · simp [e]
theorem fst_of_new {ns : List (Nd Str)} (wf : WfN ns) {i : Nat} (hi : i < ns.length) (h : ∀ j, j < i → keyOf ns j ≠ keyOf ns i) : fst ns i = i := by
  have h1 := K49.fst_le hi
  by_cases q : fst ns i = i
  · exact q
  · have hlt : fst ns i < i := by omega
    exact absurd ((K49.key_iff wf (K49.fst_lt hi) hi).mpr (K49.tm_fst hi)) (h _ hlt)
section
variable {P : Program} {w : World} {K : PySem.W.Frag} {mg : Str → Option Value} {base : Heap}
theorem sc_merged : FnScope ["nodes", "found", "firsts", "at", "node", "key", "inner"] ["nodes"] (defScope (top 15)) := ⟨rfl, rfl, rfl, by decide +kernel, rfl, by decide +kernel, by decide +kernel⟩
noncomputable def fsV (ns : List (Nd Str)) (i : Nat) : List V := (List.range i).map fun j => .int ((fst ns j : Nat) : Int)
def spMerged : Sp := fun vs H Q _ => ∃ (a : Addr) (ns : List (Nd Str)), vs = [.ref a] ∧ LsD a (ns.map pyN) H ∧ NsOk ns ∧ ∀ p H', H p = none → Ex H H' → H' p = some (.lst (fsV ns ns.length)) → Q (.ref p) H'
theorem cal_merged (T : Nm K mg) (F : Df K (dG 15 "merged")) : Cal P w K mg base 1 "merged" ["nodes"] spMerged := by
  refine cal_of T F (by decide +kernel) sc_merged (fun _ _ _ _ _ _ us hl => match us, hl with | [_], _ => rfl) (fun vs H Q E h => ?_) fun cdv A outer s H vs Q E hr h => ?_
  · obtain ⟨a, ns, rfl, _⟩ := h
    rfl
  · obtain ⟨a, ns, rfl, hN, ok, k⟩ := h
    have nd := sc_merged.nd
    refine ⟨_, (pss_cons (ps_set (i := 1) nd rfl (Or.inl rfl) pe_nnew) (pss_cons (ps_set (i := 2) nd rfl (Or.inr rfl) (pe_lst pa_nil)) (pss_cons (ps_for PassesOwn.never rfl (pi_enum (by rfl) (T.f "enumerate") (pa_cons (pv 0) pa_nil)) (pg_tup rfl (pgs_cons (pg_name (i := 3) nd rfl (Or.inl rfl)) (pgs_cons (pg_name (i := 4) nd rfl (Or.inl rfl)) pgs_nil)))
        (pss_cons (ps_set (i := 5) nd rfl (Or.inl rfl) (pe_tup (pa_cons pe_str (pa_cons (pv 3) pa_nil)))) (pss_cons (ps_if (q_eqD hr.units (pv 4) (pe_tup pa_nil)) (pss_one (ps_set (i := 5) nd rfl (Or.inl rfl) (pe_tup pa_nil)))
            (pss_one (ps_if (q_some (pv 4)) (pss_one (ps_set (i := 5) nd rfl (Or.inl rfl) (pe_tup (pa_cons (q_ixT (pv 4) pe_int) (pa_cons (q_tuple T (pa_cons (pe_lc (own := [("inner", 6)]) (g := gName 6) (tt := tYes) (te := tOp (rIxL K) (tVar 2) (tVar 6)) rfl nd (pi_tup (q_ixT (pv 4) pe_int)) (blkOk_by (own := [("inner", 6)]) (N := ["nodes", "found", "firsts", "at", "node", "key", "inner"]) (sc := defScope (top 15)) (by decide +kernel))
                (fun _ _ _ _ _ => pg_name (i := 6) nd rfl (Or.inl rfl)) (fun _ _ _ _ _ => pts_nil) (fun _ _ _ _ _ => q_ixL (pv 2) (pv 6))) pa_nil)) pa_nil))))) pss_nil))) (pss_cons (ps_if (pt_cmp (pc_nnotin hr.units (pv 5) (pv 1))) (pss_one (ps_nput hr.units (pv 1) (pv 5) (pv 3) rfl)) pss_nil) (pss_one (ps_expr (q_app (pv 2) (pa_cons (pe_nget hr.units (pv 1) (pv 5) (fun _ _ => rfl)) pa_nil)))))))) (pss_one (ps_ret (pv 2)))))), ?_⟩
    intro dn hdn ndn
    have e0 : Ex H (upd H dn (NDO P w dn [])) := Ex.new hdn
    refine ⟨Nat.zero_le _, fun l hl => ?_⟩
    have hl0 : H l = none := fresh_back e0 hl
    have nld : dn ≠ l := ne_of_none upd_same hl
    have e1 : Ex H (upd (upd H dn (NDO P w dn [])) l (.lst [])) := e0.trans (Ex.new hl)
    obtain ⟨as, has, tas⟩ := LsD.ex e1 hN
    refine ⟨_, rfl, a, as, rfl, SqL.of has, for_wk (wk_enum (K := K) (a := a) (es := ns.map pyN)) (fun i σ H1 => Ex H H1 ∧ ∃ (kvs : List (PyData × V)) (v3 v4 v5 : Option V), ND P w H1 dn kvs ∧ H1 l = some (.lst (fsV ns i)) ∧
      (∀ j, j < i → lkN kvs (kyD (keyOf ns j)) = some (.int ((fst ns j : Nat) : Int))) ∧ (∀ x u, lkN kvs x = some u → ∃ j, j < i ∧ x = kyD (keyOf ns j)) ∧ kvs.length ≤ i ∧
      σ = [some (.ref a), some (.ref dn), some (.ref l), v3, v4, v5, none]) ⟨e1, [], none, none, none, ndn.exx (Ex.new hl), upd_same, fun j hj => absurd hj (Nat.not_lt_zero j), fun x u h => by simp [lkN] at h, Nat.le_refl _, rfl⟩ (fun i σ H1 _ p => LsD.ex p.1 hN) ?_ ?_⟩
    · rintro i σ H1 x H2 e he ⟨eH, kvs, v3, v4, v5, nd1, hl1, hA, hB, hC, rfl⟩ e2 t
      have hi : i < ns.length := by
        have := (List.getElem?_eq_some_iff.mp he).1
        simpa [enumD] using this
      have hnd := ok.at hi
      have : e = .tuple [.int (i : Nat), pyN (ns.getD i .non)] := by
        unfold enumD at he
        rw [List.getElem?_mapIdx, List.getElem?_map, getD_some (d := .non) hi] at he
        simpa using he.symm
      subst this
      refine g_tup2 t fun w3 w4 t3 t4 => ?_
      have := t3.inv_int
      subst this
      refine q_seq ?_
      refine s_setD (ed_tup (ead_cons ed_str (ead_cons (ed_var rfl t3) ead_nil)) (by simp)) fun w5 H3 e3 t5 => ?_
      dsimp only
      refine q_cut (fun σ' H' => ∃ (v5 : V), Ex H2 H' ∧ Tp H' v5 (kyD (keyOf ns i)) ∧ σ' = [some (.ref a), some (.ref dn), some (.ref l), some (.int (i : Nat)), some w4, some v5, none]) (fun nx kn => ?_) ?_
      · have node : EvD (tVar 4) [some (.ref a), some (.ref dn), some (.ref l), some (.int (i : Nat)), some w4, some w5, none] H3 (pyN (ns.getD i .non)) := ed_var rfl (t4.ex e3)
        refine s_if (et_test (ev_eqD node (ed_tup ead_nil (by simp)) (pd_node hnd).1 pd_nil)) (fun hb H4 e4 => ?_) fun hb H4 e4 => ?_
        · rw [pyN_nil] at hb
          refine s_setD (ed_tup ead_nil (by simp)) fun v5 H5 e5 t5' => kn _ _ ⟨v5, (e3.trans e4).trans e5, ?_, rfl⟩
          have : keyOf ns i = .non := by
            unfold keyOf
            cases q : ns.getD i .non with
            | opn => rw [q] at hb; simp [K49.isNon] at hb
            | non => rfl
            | op f xs => rw [q] at hb; simp [K49.isNon] at hb
          rw [this]; exact t5'
        · rw [pyN_nil] at hb
          refine s_if (et_B (ev_notNo (node.mono e4))) (fun hb2 H5 e5 => ?_) fun hb2 H5 e5 => ?_
          · rw [pyN_none] at hb2
            cases q : ns.getD i .non with
            | opn => rw [q] at hb2; simp at hb2
            | non => rw [q] at hb; simp [K49.isNon] at hb
            | op f xs =>
              rw [q] at node hnd
              have node5 := (node.mono e4).mono e5
              obtain ⟨as5, has5, tas5⟩ := LsD.ex ((((eH.trans e2).trans e3).trans e4).trans e5) hN
              have hl5 := e5 _ _ (e4 _ _ (e3 _ _ (e2 _ _ hl1)))
              refine s_setD (ed_tup (ead_cons (ed_ixT node5 ev_c (j := 0) rfl rfl) (ead_cons (ed_tupN (en_is (en_lcT (as := xs) (enc := fun i : Nat => .int (i : Nat)) (ed_ixT node5 ev_c (j := 1) rfl rfl) (by have := hnd.2.1; omega) (fun z => some (.int ((fst ns z : Nat) : Int))) fun z x H6 hz e6 t Q' kk => ?_) (filterMap_some _ _))) ead_nil)) (by simp)) fun v5 H6 e6 t6 => kn _ _ ⟨v5, ((e3.trans e4).trans e5).trans e6, ?_, rfl⟩
              · have := t.inv_int
                subst this
                refine kk _ rfl et_yes fun d hd => ?_
                cases hd
                have hzi : z < i := hnd.2.2 z hz
                refine v_d (ev_op (ev_var rfl) (ev_var rfl) (rv_ixL (v := .int ((fst ns z : Nat) : Int)) (SqL.of (e6 _ _ hl5)) (atI_of rfl ?_))) (.int _)
                unfold fsV
                rw [List.getElem?_map, List.getElem?_range hzi]; rfl
              · have : keyOf ns i = .op f (xs.map (fst ns)) := by unfold keyOf; rw [q]
                rw [this]
                have e6 : kyD (.op f (xs.map (fst ns))) = .tuple [.str f, .tuple (xs.map fun z => .int ((fst ns z : Nat) : Int))] := by
                  simp only [kyD, List.map_map]; rfl
                rw [e6]
                exact t6
          · rw [pyN_none] at hb2
            cases q : ns.getD i .non with
            | non => rw [q] at hb; simp [K49.isNon] at hb
            | op f xs => rw [q] at hb2; simp at hb2
            | opn =>
              refine kn _ _ ⟨w5, (e3.trans e4).trans e5, ?_, rfl⟩
              have : keyOf ns i = .opn i := by unfold keyOf; rw [q]
              rw [this]
              exact (t5.ex e4).ex e5
      · rintro σ' H4 ⟨v5, e4, tk, rfl⟩
        have kok : KeyOk (kyD (keyOf ns i)) := kyD_ok fun f xs e => by
          unfold keyOf at e
          cases q : ns.getD i .non with
          | opn => rw [q] at e; cases e
          | non => rw [q] at e; cases e
          | op g ys =>
            rw [q] at e hnd
            cases e
            exact hnd.1
        obtain ⟨kds, hkds⟩ := kok.tu
        have nd4 := (nd1.exx e2).exx e4
        have eH4 := (eH.trans e2).trans e4
        have hl4 := e4 _ _ (e2 _ _ hl1)
        obtain ⟨kb, ks, rfl, hkb, tks⟩ := (hkds ▸ tk : Tp H4 v5 (.tuple kds)).inv_tup
        refine q_cut (fun σ' H' => ∃ (kvs' : List (PyData × V)), Ex H H' ∧ ND P w H' dn kvs' ∧ Tp H' (.ref kb) (kyD (keyOf ns i)) ∧ H' l = some (.lst (fsV ns i)) ∧
          (∀ j, j < i + 1 → lkN kvs' (kyD (keyOf ns j)) = some (.int ((fst ns j : Nat) : Int))) ∧ (∀ x u, lkN kvs' x = some u → ∃ j, j < i + 1 ∧ x = kyD (keyOf ns j)) ∧ kvs'.length ≤ i + 1 ∧
          σ' = [some (.ref a), some (.ref dn), some (.ref l), some (.int (i : Nat)), some w4, some (.ref kb), none]) (fun nx kn => ?_) ?_
        · refine s_if (b := !(lkN kvs (kyD (keyOf ns i))).isSome) (et_B fun H5 e5 Q' q' => ⟨_, rfl, _, rfl, dn, kb, kyD (keyOf ns i), kvs, rfl, rfl, tk.ex e5, kok, nd4.exx e5, q' H5 (Ex.refl _)⟩) (fun hb H5 e5 => ?_) fun hb H5 e5 => ?_
          · have hno : lkN kvs (kyD (keyOf ns i)) = none := by simpa using hb
            have hfi : fst ns i = i := fst_of_new ok.wf hi fun j hj e => by
              have := hA j hj
              rw [e, hno] at this
              cases this
            refine ⟨_, rfl, _, rfl, _, rfl, dn, kb, kyD (keyOf ns i), kvs, rfl, rfl, tk.ex e5, kok, nd4.exx e5, hno, sz_lt (by have := ok.1; omega), fun ob nd6 => ?_⟩
            have nd5 := nd4.exx e5
            refine kn _ _ ⟨_, Ex.mut (eH4.trans e5) hdn, nd6, (tk.ex e5).tx (TX.upd nd5.notup), by rw [upd_ne nld.symm]; exact e5 _ _ hl4, fun j hj => ?_, fun x u h => ?_, by rw [List.length_append]; simp; omega, rfl⟩
            · rw [lkN_snoc]
              by_cases q : j < i
              · rw [hA j q]
              · have : j = i := by omega
                subst this
                rw [hno, if_pos rfl, hfi]
            · rw [lkN_snoc] at h
              cases q : lkN kvs x with
              | some u' => obtain ⟨j, hj, e⟩ := hB x u' q; exact ⟨j, by omega, e⟩
              | none =>
                rw [q] at h
                by_cases q2 : kyD (keyOf ns i) = x
                · exact ⟨i, by omega, q2.symm⟩
                · simp [q2] at h
          · have hso : (lkN kvs (kyD (keyOf ns i))).isSome = true := by simpa using hb
            obtain ⟨u, hu⟩ := Option.isSome_iff_exists.mp hso
            obtain ⟨j0, hj0, ej⟩ := hB _ u hu
            refine kn _ _ ⟨kvs, eH4.trans e5, nd4.exx e5, tk.ex e5, e5 _ _ hl4, fun j hj => ?_, fun x u h => ?_, by omega, rfl⟩
            · by_cases q : j < i
              · exact hA j q
              · have : j = i := by omega
                subst this
                rw [ej, hA j0 hj0]
                have hk := (K49.key_iff ok.wf hi (by omega)).mp (kyD_inj ej)
                rw [(K49.fst_iff hi (by omega)).mpr hk]
            · obtain ⟨j, hj, e⟩ := hB x u h
              exact ⟨j, by omega, e⟩
        · rintro σ' H5 ⟨kvs', e5, nd5, tk5, hl5, hA', hB', hC', rfl⟩
          refine s_appD (d := .int ((fst ns i : Nat) : Int)) hl5 (ev_var rfl) (fun H6 e6 Q' q' => ⟨_, rfl, _, rfl, dn, kb, kyD (keyOf ns i), kvs', .int ((fst ns i : Nat) : Int), rfl, rfl, tk5.ex e6, kok, nd5.exx e6, hA' i (by omega), q' _ H6 (Ex.refl _) (.int _)⟩) (by unfold fsV; rw [List.length_map, List.length_range]; have := ok.1; omega) fun v H6 e6 tv => ?_
          have := tv.inv_int
          subst this
          refine ⟨Ex.mut (e5.trans e6) hl0, kvs', _, _, _, (nd5.exx e6).keep (upd_ne nld) (TX.upd_lst (e6 _ _ hl5)), ?_, hA', hB', hC', rfl⟩
          rw [upd_same]
          unfold fsV
          rw [List.range_succ, List.map_append]; rfl
    · rintro σ H1 ⟨eH, kvs, v3, v4, v5, nd1, hl1, hA, hB, hC, rfl⟩
      have hn : (enumD (ns.map pyN)).length = ns.length := by simp [enumD]
      rw [hn] at hl1
      exact s_ret (ev_var rfl) fun H2 e2 => k l H2 hl0 (eH.trans e2) (e2 _ _ hl1)
end
end K49W

-- part K49V
/-! *d.values() in an argument list or a display. -/
namespace K49W
open PySem PySem.Spec PyProof.Rows L2 Evl
section
variable {prog : Program} {w : World} {A : Around} {E : Value → Shared → Prop} {s : Shared} {r d : Addr} {κ : Type} [DecidableEq κ] {knd : KeyKind prog w κ} {kvs : List (κ × Value)} {ep : Nat}
theorem collect_values {Q : List Value → Shared → Prop} (hh : A.handled = none) (hok : s.heap.IsValuesView r d ∧ s.heap.DictAt knd d kvs ep) (hn : kvs.length ≤ sizeLine)
    (hQ : ∀ h' tk (acc : Array Value), (∀ b o, s.heap.get? b = some o → h'.get? b = some o) → ItemsOf (fun i v => ∃ k, kvs[i]? = some (k, v)) acc kvs.length → Q acc.toList { s with heap := h', toks := tk }) :
    wpAny (model prog w) A (collect (.ref r)) Q E s := by
  unfold collect
  refine wpAny_bind (wpAny_runValue (codeAny_builtin PySem.F.entry_proto_collect ?_))
  rw [Around.under_plainId PySem.F.plain_proto_collect _]
  show wpAny _ A.in1 (newList [] >>= fun l => again (.builtin "list.__iadd__" ⟨[l, .ref r], []⟩)) _ _ s
  refine wpAny_bind (wpAny_newObj_type ?_)
  refine wpAny_pure ⟨plainId_quiet PySem.F.plain_list_iadd _, codeAny_builtin PySem.F.entry_list_iadd ?_⟩
  rw [Around.under_plainId PySem.F.plain_list_iadd _]
  show wpAny _ A.in1 (Builtin.List.listExtendWith (.ref s.heap.objs.size) (.ref r) (.ref s.heap.objs.size)) _ _ _
  have hS : (s.heap.push { cls := .type "list", data := .seq ([] : List Value).toArray }).get? s.heap.objs.size = some { cls := .type "list", data := .seq #[] 0 } := Heap.get?_push_size _ rfl
  have K : PySem.W.KdlSrc prog w "dict_values" r d kvs.length (fun i v => ∃ k, kvs[i]? = some (k, v)) (fun h => h.IsValuesView r d ∧ h.DictAt knd d kvs ep) := PySem.W.kdl_values
  obtain ⟨hr, hd⟩ := K.there _ hok
  have ok2 : (s.heap.push { cls := .type "list", data := .seq ([] : List Value).toArray }).IsValuesView r d ∧ (s.heap.push { cls := .type "list", data := .seq ([] : List Value).toArray }).DictAt knd d kvs ep :=
    K.keep _ _ hok fun b _ o e => Heap.get?_push_of_some _ e
  refine wpAny_mono (PySem.W.kdl_extend (R := fun rr s' => rr = .ok (.ret (.ref s.heap.objs.size)) ∧ wpAny (model prog w) A (match Value.ref s.heap.objs.size with
      | Value.ref a => do
        match (← load a).data with
          | Data.seq xs _ => pure xs.toList
          | _ => unsupported "internal:collect"
      | _ => unsupported "internal:collect") Q E s') (s := { s with heap := s.heap.push { cls := .type "list", data := .seq ([] : List Value).toArray } }) K hh ok2 s.heap.objs.size (Nat.ne_of_gt hr) (Nat.ne_of_gt hd) (.ref s.heap.objs.size) 0 hS (fun h' tk acc' c' hk hS' hacc => ⟨rfl, ?_⟩) hn) (fun fin s' h => ?_) (fun e s' h => ?_)
  · show wpAny (model prog w) A (load s.heap.objs.size >>= _) _ _ _
    refine wpAny_bind (wpAny_load hS' ?_)
    exact wpAny_pure (hQ h' tk acc' (fun b o e => hk b o (Nat.ne_of_lt (Heap.lt_size e)) (Heap.get?_push_of_some _ e)) hacc)
  · cases fin with
    | done f =>
      obtain ⟨e, h⟩ := h
      cases e
      exact h
    | again c' => exact ⟨h.1, codeAny_mono h.2 fun r s'' hr => by obtain ⟨rfl, h⟩ := hr; exact h⟩
  · exact absurd h.1 (by simp)
end
theorem vals_items {kvs : List (Key × V)} {vs : List (Key × Value)} (h : KV kvs vs) {acc : Array Value} (hz : acc.size = vs.length) (ha : ∀ (j : Nat) (v : Value), acc[j]? = some v → ∃ k : Key, vs[j]? = some (k, v)) : Vals (kvs.map (·.2)) acc.toList := by
  have e : acc.toList = vs.map (·.2) := by
    refine List.ext_getElem? fun j => ?_
    rw [Array.getElem?_toList, List.getElem?_map]
    cases q : acc[j]? with
    | none =>
      have : acc.size ≤ j := by simpa using q
      rw [List.getElem?_eq_none_iff.mpr (by omega)]; rfl
    | some v =>
      obtain ⟨k, e⟩ := ha j v q
      rw [e]; rfl
  rw [e]
  clear e hz ha
  unfold KV at h
  induction h with
  | nil => exact .nil
  | cons r t ih => exact .cons r.2 ih
section
variable {X : Cx} {e : Expr} {es : List Expr} {te : TE} {t : TA} {p apos cpos : Pos}
def tStarV (te : TE) (t : TA) : TA := fun σ H Q => te σ H fun x H1 => ∃ d kvs, x = V.ref d ∧ H1 d = some (.dK kvs) ∧ t σ H1 fun ys H2 => Q (kvs.map (·.2) ++ ys) H2
theorem pa_starVals (hc : X.calm = true) (he : PE X e te) (hr : PA X es t) (hbase : attributeBase e "values" X.env (eval e X.env) = eval e X.env := by rfl) (hline : (apos.endLine == cpos.line) = true := by rfl)
    (hs : starEach (.Starred (.Call (.Attribute e "values" apos) [] [] cpos) p :: es) X.env = (true, eval (.Call (.Attribute e "values" apos) [] [] cpos) X.env) :: starEach es X.env := by rfl) :
    PA X (.Starred (.Call (.Attribute e "values" apos) [] [] cpos) p :: es) (tStarV te t) := by
  refine ⟨fun pos pins s σ H Q I h => ?_⟩
  refine PySem.W.items_star ?_ hs
  refine wpAny_Call_method (T := "dict") (id := "dict.values") hbase rfl hline PySem.F.plainAttrs_dict PySem.F.slot_dict_values PySem.F.type_dict_values (thn (he.run pins s σ H _ I h) fun u s1 ⟨x, H1, I1, rx, d, kvs, ex, hd, q⟩ => ?_)
  subst ex
  obtain rfl : u = Value.ref d := rx
  obtain ⟨hz, hs0, vs, kv, hdo⟩ := I1.hok d _ hd
  obtain ⟨ep, hat⟩ := hdo.dictAt
  have lk : kvs.length = vs.length := Paired.length kv
  have I2 : Inv X pins σ H1 { s1 with heap := s1.heap.push { cls := .type "dict_values", data := .fields #[.ref d] } } := I1.kept (t' := s1.toks) fun b ob q => Heap.get?_push_of_some _ q
  refine ⟨hdo.typeIs, hdo.mapOf.noDict, ?_⟩
  show wpAny _ _ (callWith cpos (.builtin "dict.values") [.ref d] [] []) _ X.xe s1
  refine method_meetsIn PySem.F.slot_dict_values PySem.F.entry_dict_values rfl (PySem.evalArgs_none ⟨rfl, hdo.typeIs, PySem.F.args_dict_values_1 _, _, meets_dict_values (mixKind X.prog X.w) d hs0, ⟨vs, hdo⟩, ?_⟩)
  have hview : (s1.heap.push { cls := .type "dict_values", data := .fields #[.ref d] }).IsValuesView s1.heap.objs.size d := ⟨_, Heap.get?_push_size _ rfl, rfl, rfl⟩
  have hT : Shared.TypeIs { s1 with heap := s1.heap.push { cls := .type "dict_values", data := .fields #[.ref d] } } (.ref s1.heap.objs.size) "dict_values" := hview.typeIs
  show PySem.W.StarOf _ _ _ _ _ _
  unfold PySem.W.StarOf notIterableAtAll
  refine wpAny_bind (wpAny_specialOf hT PySem.F.slot_dict_values_iter.lookup (wpAny_pure ⟨rfl, ?_⟩))
  refine collect_values (knd := mixKind X.prog X.w) (kvs := vs) (ep := ep) (I1.ok.hd hc) ⟨hview, hat.push _⟩ (by omega) fun h' tk acc hk hacc => ?_
  have I3 : Inv X pins σ H1 { s1 with heap := h', toks := tk } := I2.kept (t' := tk) hk
  exact thn (hr.run pos pins _ σ H1 _ I3 q) fun ws s3 ⟨ys, H3, I4, r4, q4⟩ => ⟨kvs.map (·.2) ++ ys, H3, I4, (vals_items kv hacc.1 hacc.2).append r4, q4⟩
end
end K49W

-- part K49F9
namespace K49W
open PySem PySem.Spec PyProof.Rows L2 Evl
open K49 (Nd Rw WfN RepN innN runN OrdOk tm fst)
/-! ### dict comprehensions -/
theorem valV_notin {κ : Type} [DecidableEq κ] {kvs : List (κ × V)} {k : κ} (h : k ∉ kvs.map (·.1)) : valV kvs k = none := by
  cases q : valV kvs k with
  | none => rfl
  | some v => exact absurd (valV_in q) h
theorem dc_data {α : Type} {J : It} {S : Hp → Prop} {as : List α} {enc : α → PyData} {g : TG} {tt : TT} {tk tv : TE} {vs : List Nat} {σ : L2.St} {H1 : Hp} {D : Addr} {Qd : Hp → Prop} (wk : Wk J S (as.map enc)) (ms : ∀ H H', Ex H H' → S H → S H') (hS : S H1) (hn : as.length < 100000) (h : α → Option (Key × V))
    (nd : ((as.filterMap h).map (·.1)).Nodup)
    (turn : ∀ a x H, a ∈ as → Ex H1 H → S H → Tp H x (enc a) → ∀ Q : L2.St → Hp → Prop, (∀ σ2, wipe σ2 vs = wipe σ vs → EvT tt σ2 H (h a).isSome → (∀ kv, h a = some kv → Ev tk σ2 H (kV kv.1) ∧ Ev tv σ2 H kv.2) → Q σ2 H) → g x (wipe σ vs) H Q)
    (hD : H1 D = none) (hd : ∀ H2, Ex H1 H2 → H2 D = some (.dK (as.filterMap h)) → Qd H2) :
    ∃ W : Nat → Nat → Hp → Prop, (∃ m, W 0 m (upd H1 D (.dK []))) ∧ ∀ i m H, W i m H →
      (J.stop i H ∧ Qd H) ∨ (J.go i H ∧ ∃ Nx : Hp → Prop, (∀ H', Nx H' → ∃ m', m' < m ∧ W (i + 1) m' H') ∧ ∀ x H', J.yld i H x H' → g x (wipe σ vs) H' fun σ2 H2 => wipe σ2 vs = wipe σ vs ∧ tt σ2 H2 fun b H3 =>
        if b = true then tk σ2 H3 fun y H4 => tv σ2 H4 fun z H5 => ∃ kvs k, y = kV k ∧ H5 D = some (.dK kvs) ∧ kvs.length < sizeLine ∧ Nx (upd H5 D (.dK (putK kvs k z))) else Nx H3) := by
  let Pv : Nat → Hp → Prop := fun i H => Ex H1 H ∧ H D = some (.dK ((as.take i).filterMap h))
  have hlen : (as.map enc).length = as.length := List.length_map enc
  refine ⟨fun i m H => m = as.length - i ∧ i ≤ as.length ∧ Pv i H, ⟨as.length, by simp, Nat.zero_le _, Ex.mut (Ex.refl _) hD, upd_same⟩, ?_⟩
  rintro i m H ⟨rfl, hi, e1, hx⟩
  have hSH := ms _ _ e1 hS
  by_cases q : i = as.length
  · subst q
    rw [List.take_length] at hx
    rw [← hlen]
    exact .inl ⟨wk.stop H hSH, hd H e1 hx⟩
  · have hlt : i < as.length := by omega
    refine .inr ⟨wk.go i H (by rw [hlen]; exact hlt) hSH, Pv (i + 1), fun H' n => ⟨as.length - (i + 1), by omega, rfl, hlt, n⟩, fun x H' y => ?_⟩
    obtain ⟨e, d, hd', t⟩ := wk.yld i H x H' (by rw [hlen]; exact hlt) hSH y
    rw [List.getElem?_map] at hd'
    cases qa : as[i]? with
    | none => rw [qa] at hd'; cases hd'
    | some a =>
      rw [qa] at hd'
      cases hd'
      have ha : a ∈ as := List.mem_of_getElem? qa
      have e2 : Ex H1 H' := e1.trans e
      have hx' := e _ _ hx
      have hxl : ((as.take i).filterMap h).length < 100000 := by
        have := List.length_filterMap_le h (as.take i)
        have := List.length_take_le i as
        omega
      refine turn a x H' ha e2 (ms _ _ e hSH) t _ fun σ2 hw ht hv => ⟨hw, ht H' (Ex.refl _) _ fun H3 e3 => ?_⟩
      have snoc := filterMap_snoc h qa
      cases qh : h a with
      | none =>
        simp only [Option.isSome_none, Bool.false_eq_true, if_false]
        refine ⟨e2.trans e3, ?_⟩
        rw [snoc, qh, List.append_nil]
        exact e3 _ _ hx'
      | some kv =>
        simp only [Option.isSome_some, if_true]
        obtain ⟨hk, hv⟩ := hv kv qh
        refine hk H3 e3 _ fun H4 e4 => hv H4 (e3.trans e4) _ fun H5 e5 => ⟨_, kv.1, rfl, e5 _ _ (e4 _ _ (e3 _ _ hx')), sz_lt hxl, Ex.mut (((e2.trans e3).trans e4).trans e5) hD, ?_⟩
        rw [upd_same, snoc, qh]
        have hpre : ((as.take (i + 1)).filterMap h).map (·.1) <+: (as.filterMap h).map (·.1) := by
          have : as.take (i + 1) <+: as := List.take_prefix _ _
          obtain ⟨r, er⟩ := this
          conv => rhs; rw [← er, List.filterMap_append, List.map_append]
          exact List.prefix_append _ _
        have hn2 := List.Nodup.sublist hpre.sublist nd
        rw [snoc, qh, List.map_append] at hn2
        have hnot : kv.1 ∉ ((as.take i).filterMap h).map (·.1) := fun m => (List.nodup_append.mp hn2).2.2 _ m kv.1 (by simp) rfl
        rw [putK_new _ (valV_notin hnot)]
/-- a new dict -/
def EvM (te : TE) (σ : L2.St) (H : Hp) (kvs : List (Key × V)) : Prop := ∀ H1, Ex H H1 → ∀ Q : VK, (∀ p H2, H1 p = none → Ex H1 H2 → H2 p = some (.dK kvs) → Q (.ref p) H2) → te σ H1 Q
/-- a list of data, new or not -/
def EvLD (te : TE) (σ : L2.St) (H : Hp) (es : List PyData) : Prop := EvP te σ H fun v H' => ∃ a, v = .ref a ∧ LsD a es H'
theorem eld_var {te : TE} {σ : L2.St} {H : Hp} {a : Addr} {es : List PyData} (h : Ev te σ H (.ref a)) (hl : LsD a es H) : EvLD te σ H es := fun H1 e Q q => h H1 e _ fun H2 e2 => q _ H2 e2 ⟨a, rfl, LsD.ex (e.trans e2) hl⟩
theorem eld_new {te : TE} {σ : L2.St} {H : Hp} {es : List PyData} (h : EvN te σ H es) : EvLD te σ H es := fun H1 e Q q => h H1 e _ fun p xs H2 _ e2 hl tl => q _ H2 e2 ⟨p, rfl, xs, hl, tl⟩
/-- {tk: tv for .. in a list of data if tt} -/
theorem em_dcL {K : PySem.W.Frag} {α : Type} {as : List α} {enc : α → PyData} {tl tk tv : TE} {g : TG} {tt : TT} {vs : List Nat} {σ : L2.St} {H : Hp} (hl : EvLD tl σ H (as.map enc)) (hn : as.length < 100000) (h : α → Option (Key × V)) (nd : ((as.filterMap h).map (·.1)).Nodup)
    (turn : ∀ z x H1, z ∈ as → Ex H H1 → Tp H1 x (enc z) → ∀ Q : L2.St → Hp → Prop, (∀ σ2, wipe σ2 vs = wipe σ vs → EvT tt σ2 H1 (h z).isSome → (∀ kv, h z = some kv → Ev tk σ2 H1 (kV kv.1) ∧ Ev tv σ2 H1 kv.2) → Q σ2 H1) → g x (wipe σ vs) H1 Q) :
    EvM (tDc (iList K tl) g tt tk tv vs) σ H (as.filterMap h) := fun H1 e Q q =>
  hl H1 e _ fun v H2 e2 ⟨a, ev, S2⟩ => by
    subst ev
    obtain ⟨xs, hx, _⟩ := id S2
    exact ⟨a, rfl, ⟨xs, SqL.of hx⟩, fun D hD => dc_data (Qd := fun H => Q (.ref D) H) wk_list (fun _ _ e h => LsD.ex e h) S2 hn h nd (fun z x H3 hz e3 _ t Q' k => turn z x H3 hz ((e.trans e2).trans e3) t Q' k) hD fun H3 e3 h3 => q D H3 (fresh_back e2 hD) (e2.trans e3) h3⟩
/-- {tk: tv for .. in d.items()}, d locked -/
theorem em_dcI {K : PySem.W.Frag} {td tk tv : TE} {g : TG} {tt : TT} {vs : List Nat} {σ : L2.St} {H : Hp} {d : Addr} {o : Obj} {kvs : List (Key × V)} {kds : List (Key × PyData)} (hl : Ev td σ H (.ref d)) (hS : FzD d o kvs kds H) (hn : kds.length < 100000) (h : Key × PyData → Option (Key × V)) (nd : ((kds.filterMap h).map (·.1)).Nodup)
    (turn : ∀ z x H1, z ∈ kds → Ex H H1 → Tp H1 x (.tuple [kD z.1, z.2]) → ∀ Q : L2.St → Hp → Prop, (∀ σ2, wipe σ2 vs = wipe σ vs → EvT tt σ2 H1 (h z).isSome → (∀ kv, h z = some kv → Ev tk σ2 H1 (kV kv.1) ∧ Ev tv σ2 H1 kv.2) → Q σ2 H1) → g x (wipe σ vs) H1 Q) :
    EvM (tDc (iItems td) g tt tk tv vs) σ H (kds.filterMap h) := fun H1 e Q q =>
  hl H1 e _ fun H2 e2 => by
    have S2 := FzD.ex (e.trans e2) hS
    exact ⟨d, o, kvs, rfl, S2.1, fun D hD => dc_data (Qd := fun H => Q (.ref D) H) wk_items (fun _ _ e h => FzD.ex e h) S2 hn h nd (fun z x H3 hz e3 _ t Q' k => turn z x H3 hz ((e.trans e2).trans e3) t Q' k) hD fun H3 e3 h3 => q D H3 (fresh_back e2 hD) (e2.trans e3) h3⟩
theorem em_lock {t : TE} {σ : L2.St} {H : Hp} {d : Addr} {u : HO} {kvs : List (Key × V)} (hd : H d = some u) (mu : Mut (some u)) (h : ∀ od, EvM t σ (upd H d (.frz od u)) kvs) : EvM (tLockE t) σ H kvs := fun H1 e Q q =>
  ⟨d, u, e _ _ hd, mu, fun od => h od _ (Ex.lock e) _ fun p H2 hp e2 hl => by
    have hd1 : H1 d = some u := e _ _ hd
    have npd : p ≠ d := fun z => by subst z; rw [upd_same] at hp; cases hp
    rw [upd_ne npd] at hp
    exact ⟨e2 _ _ upd_same, q p _ hp (Ex.unlock hd1 e2) (by rw [upd_ne npd]; exact hl)⟩⟩
theorem en_ordered {σ : L2.St} {H : Hp} {te : TE} {d : Addr} {kvs : List (Key × V)} {ks : List Str} (h : Ev te σ H (.ref d)) (hd : H d = some (.dK kvs)) (hk : kvs.map (·.1) = ks.map Sum.inr) (hs : ∀ k ∈ ks, k ∈ VN) (hn : ks.Nodup) :
    EvN (tCall spOrdered [] E0 (tCons te tNil)) σ H ((ordN ks).map PyData.str) := fun H1 e Q q =>
  h H1 e _ fun H2 e2 => ⟨d, kvs, ks, rfl, e2 _ _ (e _ _ hd), hk, hs, hn, fun p H3 hp e3 h3 => q p _ H3 (fresh_back e2 hp) (e2.trans e3) h3 (by
    have : ∀ (zs : List Str), TpL H3 (zs.map V.str) (zs.map PyData.str) := fun zs => by
      induction zs with
      | nil => exact .nil
      | cons z r ih => exact .cons (.str z) ih
    exact this _)⟩
/-! ### places as dicts -/
def kvP (rows : List (Str × Nat)) : List (Key × V) := rows.map fun r => (Sum.inr r.1, V.int (r.2 : Nat))
theorem kvP_keys (rows : List (Str × Nat)) : (kvP rows).map (·.1) = (rows.map (·.1)).map Sum.inr := by unfold kvP; rw [List.map_map, List.map_map]; rfl
theorem inr_nodup {ks : List Str} (h : ks.Nodup) : (ks.map (Sum.inr : Str → Key)).Nodup := K49.nodup_map_inj h fun a _ b _ e => by injection e
/-- the place of a name -/
def lkp {α : Type} (rows : List (Str × α)) (n : Str) : Option α := @List.lookup Str α instBEqOfDecidableEq n rows
theorem kvP_val (n : Str) : ∀ (rows : List (Str × Nat)), valV (kvP rows) (Sum.inr n) = (lkp rows n).map fun i => V.int (i : Nat)
  | [] => rfl
  | (m, i) :: rows => by
    have ih := kvP_val n rows
    unfold kvP valV lkp at ih ⊢
    rw [List.map_cons, List.find?_cons, List.lookup_cons]
    by_cases h : n = m
    · subst h
      simp
    · have h' : ¬ (Sum.inr m : Key) = Sum.inr n := fun e => h (by injection e with e; exact e.symm)
      simp only [decide_eq_false h', beq_eq_false_iff_ne.mpr h]
      exact ih
theorem lkp_mem {α : Type} {rows : List (Str × α)} {n : Str} {i : α} (h : lkp rows n = some i) : (n, i) ∈ rows := K49.mem_of_lookup h
theorem lkp_of {α : Type} {rows : List (Str × α)} (hd : (rows.map (·.1)).Nodup) {n : Str} {i : α} (h : (n, i) ∈ rows) : lkp rows n = some i := by
  induction rows with
  | nil => cases h
  | cons r rows ih =>
    obtain ⟨m, j⟩ := r
    rw [List.map_cons, List.nodup_cons] at hd
    unfold lkp at ih ⊢
    rw [List.lookup_cons]
    rcases List.mem_cons.mp h with e | h2
    · cases e; simp
    · have : n ≠ m := fun e => hd.1 (by rw [← e]; exact List.mem_map.mpr ⟨(n, i), h2, rfl⟩)
      rw [beq_eq_false_iff_ne.mpr this]
      exact ih hd.2 h2
theorem lkp_none {α : Type} {rows : List (Str × α)} {n : Str} : lkp rows n = none ↔ n ∉ rows.map (·.1) := by
  induction rows with
  | nil => simp [lkp]
  | cons r rows ih =>
    obtain ⟨m, j⟩ := r
    unfold lkp at ih ⊢
    rw [List.lookup_cons, List.map_cons, List.mem_cons]
    by_cases h : n = m
    · subst h; simp
    · rw [beq_eq_false_iff_ne.mpr h]
      have : (n = m ∨ n ∈ rows.map (·.1)) ↔ n ∈ rows.map (·.1) := ⟨fun z => z.resolve_left h, Or.inr⟩
      rw [this]
      exact ih
end K49W

-- part K49F10
namespace K49W
open PySem PySem.Spec PyProof.Rows L2 Evl
open K49 (Nd Rw WfN WfR RepN innN runN OrdOk tm fst sideT startsT ndT RT val)
theorem RwOk.wf {R : Rw Str Str} (h : RwOk R) : WfR R where
  wf := h.ns.wf
  side := fun b n i e => by
    have m := lkp_mem (rows := R.side b) (n := n) (i := i) e
    cases b with
    | false => exact (h.olds.each _ m).2
    | true => exact (h.news.each _ m).2
theorem RwOk.side {R : Rw Str Str} (h : RwOk R) (b : Bool) : PlOk R.nodes.length (R.side b) := by
  cases b with
  | false => exact h.olds
  | true => exact h.news
theorem non_iff {ns : List (Nd Str)} (wf : WfN ns) {i : Nat} (h : i < ns.length) : K49.isNon (ns.getD (fst ns i) .non) = decide (tm ns i = .nil) := by
  have h2 := K49.fst_lt h
  have e := K49.tm_eq wf (getD_some (d := .non) h2)
  rw [K49.tm_fst h] at e
  rw [e]
  cases ns.getD (fst ns i) .non <;> simp [K49.isNon]
/-- the places of a side, as tidied takes them first -/
noncomputable def placesT (ns : List (Nd Str)) (rows : List (Str × Nat)) : List (Str × Nat) := rows.filterMap fun r => if tm ns r.2 = .nil then none else some (r.1, fst ns r.2)
theorem placesT_keys {ns : List (Nd Str)} : ∀ {rows : List (Str × Nat)}, ((placesT ns rows).map (·.1)).Sublist (rows.map (·.1))
  | [] => List.Sublist.refl _
  | r :: rows => by
    unfold placesT
    rw [List.filterMap_cons, List.map_cons]
    split
    · next h => exact List.Sublist.cons _ placesT_keys
    · next a h =>
      split at h
      · cases h
      · cases h
        exact List.Sublist.cons₂ _ placesT_keys
theorem placesT_lkp {ns : List (Nd Str)} {n : Str} : ∀ {rows : List (Str × Nat)}, (rows.map (·.1)).Nodup → lkp (placesT ns rows) n = (lkp rows n).bind fun i => if tm ns i = .nil then none else some (fst ns i)
  | [], _ => rfl
  | r :: rows, hd => by
    rw [List.map_cons, List.nodup_cons] at hd
    have ih := placesT_lkp (ns := ns) (n := n) hd.2
    obtain ⟨m, i⟩ := r
    by_cases h : n = m
    · subst h
      have hno : lkp rows n = none := lkp_none.mpr hd.1
      rw [hno] at ih
      unfold placesT at ih ⊢
      rw [List.filterMap_cons]
      by_cases q : tm ns i = .nil
      · simp only [q, if_true]
        rw [ih]
        unfold lkp
        rw [List.lookup_cons, beq_self_eq_true]
        simp [q]
      · simp only [q, if_false]
        unfold lkp
        rw [List.lookup_cons, List.lookup_cons, beq_self_eq_true]
        simp [q]
    · have e : ∀ {α : Type} {j : α} {l : List (Str × α)}, lkp ((m, j) :: l) n = lkp l n := fun {α j l} => by
        unfold lkp
        rw [List.lookup_cons, beq_eq_false_iff_ne.mpr h]
      rw [e, ← ih]
      unfold placesT
      rw [List.filterMap_cons]
      by_cases q : tm ns i = .nil
      · simp only [q, if_true]
      · simp only [q, if_false]
        rw [e]
theorem side_eq {R : Rw Str Str} (ok : RwOk R) (b : Bool) : (ordN ((placesT R.nodes (R.side b)).map (·.1))).filterMap (fun n => (lkp (placesT R.nodes (R.side b)) n).map fun i => (n, i)) = sideT VN R b := by
  unfold ordN sideT
  rw [List.filterMap_filter]
  congr 1
  funext n
  have e := placesT_lkp (ns := R.nodes) (n := n) (ok.side b).nd
  have e2 : (match List.lookup n (R.side b) with | some i => if tm R.nodes i = .nil then none else some (n, fst R.nodes i) | none => none) = (lkp (placesT R.nodes (R.side b)) n).map fun i => (n, i) := by
    rw [e]
    show (match lkp (R.side b) n with | some i => if tm R.nodes i = K49.Tm.nil then none else some (n, fst R.nodes i) | none => none) = _
    cases lkp (R.side b) n with
    | none => rfl
    | some i =>
      by_cases q : tm R.nodes i = .nil
      · simp [q]
      · simp [q]
  refine Eq.trans ?_ e2.symm
  by_cases m : n ∈ (placesT R.nodes (R.side b)).map (·.1)
  · simp [m]
  · rw [lkp_none.mpr m]
    simp [m]

/-! ### pieces -/
section
variable {te tf tk tv : TE} {ta : TA} {σ : L2.St} {H H' : Hp} {D : Ends} {K : PySem.W.Frag} {kvs : List (Key × V)} {d : Addr}
theorem s_setM {i : Nat} (h : EvM te σ H kvs) (k : ∀ p H1, H p = none → Ex H H1 → H1 p = some (.dK kvs) → D.nx (σ.set i (some (.ref p))) H1) : tAsg te (gName i) D σ H := h H (Ex.refl H) _ fun p H1 hp e h1 => k p H1 hp e h1
theorem s_appM {l : Addr} {xs : List V} (hl : H l = some (.lst xs)) (ha : Ev tf σ H (.ref l)) (h : EvM te σ H kvs) (hz : xs.length < 100000) (k : ∀ p H1, H p = none → Ex H H1 → H1 p = some (.dK kvs) → D.nx σ (upd H1 l (.lst (xs ++ [.ref p])))) :
    tDrop (tBM K "list" rAppend tf (tCons te tNil)) D σ H :=
  ha H (Ex.refl H) _ fun H1 e1 => ⟨.inl ⟨rfl, _, SqL.of (e1 _ _ hl)⟩, h H1 e1 _ fun v H2 hv e2 h2 => ⟨l, xs, .ref v, rfl, rfl, e2 _ _ (e1 _ _ hl), sz_lt hz, k v H2 (fresh_back e1 hv) (e1.trans e2) h2⟩⟩
theorem LsD.updD {a : Addr} {es : List PyData} {o : HO} (h : LsD a es H) (hd : H d = some (.dK kvs)) : LsD a es (L2.upd H d o) := by
  obtain ⟨xs, h1, h2⟩ := h
  have : a ≠ d := fun e => by rw [e, hd] at h1; cases h1
  exact ⟨xs, by rw [upd_ne this]; exact h1, h2.tx (TX.upd_dK hd)⟩
theorem ex_swap {l : Addr} {o t : HO} (hl : H l = none) (n : l ≠ d) : Ex (L2.upd H d t) (L2.upd (L2.upd H l o) d t) := fun a u h => by
  by_cases q : a = d
  · subst q; rw [upd_same] at h ⊢; exact h
  · rw [upd_ne q] at h ⊢
    rw [upd_ne (fun z => by rw [z, hl] at h; cases h)]; exact h
theorem ea_starV {vs : List V} (h : Ev te σ H (.ref d)) (hd : H d = some (.dK kvs)) (hr : EvA ta σ H vs) : EvA (tStarV te ta) σ H (kvs.map (·.2) ++ vs) := fun H1 e _ q =>
  h H1 e _ fun H2 e2 => ⟨d, kvs, rfl, e2 _ _ (e _ _ hd), hr H2 (e.trans e2) _ fun H3 e3 => q H3 (e2.trans e3)⟩
theorem ev_dgetF {o : Obj} {k : Key} {y v : V} (hy : y = kV k) (h : Ev te σ H (.ref d)) (h2 : Ev tf σ H y) (hd : H d = some (.frz o (.dK kvs))) (hv : valV kvs k = some v) : Ev (tDGet te tf) σ H v := fun H1 e Q q =>
  h H1 e _ fun H2 e2 => h2 H2 (e.trans e2) _ fun H3 e3 => ⟨d, v, rfl, by rw [hy, ← hv]; exact .inl ⟨kvs, k, .inr ⟨o, e3 _ _ (e2 _ _ (e _ _ hd))⟩, rfl, rfl⟩, q H3 (e2.trans e3)⟩
theorem tpl_ints {α : Type} {f : α → Int} : ∀ {l : List α}, TpL H (l.map fun j => V.int (f j)) (l.map fun j => .int (f j))
  | [] => .nil
  | j :: l => .cons (.int _) tpl_ints
theorem kvd_P : ∀ {rows : List (Str × Nat)}, KvD H (kvP rows) (rows.map fun r => (Sum.inr r.1, .int (r.2 : Nat)))
  | [] => .nil
  | r :: rows => .cons (.int _) kvd_P
theorem em_dcR {g : TG} {tt : TT} {vs : List Nat} {o : Obj} {rows : List (Str × Nat)} (hl : Ev te σ H (.ref d)) (hS : H d = some (.frz o (.dK (kvP rows)))) (hn : rows.length < 100000) (h : Str × Nat → Option (Key × V)) (nd : ((rows.filterMap h).map (·.1)).Nodup)
    (turn : ∀ z x H1, z ∈ rows → Ex H H1 → Tp H1 x (.tuple [.str z.1, .int (z.2 : Nat)]) → ∀ Q : L2.St → Hp → Prop, (∀ σ2, wipe σ2 vs = wipe σ vs → EvT tt σ2 H1 (h z).isSome → (∀ kv, h z = some kv → Ev tk σ2 H1 (kV kv.1) ∧ Ev tv σ2 H1 kv.2) → Q σ2 H1) → g x (wipe σ vs) H1 Q) :
    EvM (tDc (iItems te) g tt tk tv vs) σ H (rows.filterMap h) := fun H1 e Q q =>
  hl H1 e _ fun H2 e2 => by
    have S2 : FzD d o (kvP rows) (rows.map fun r => (Sum.inr r.1, .int (r.2 : Nat))) H2 := ⟨e2 _ _ (e _ _ hS), kvd_P⟩
    have wk := wk_items (d := d) (o := o) (kvs := kvP rows) (kds := rows.map fun r => (Sum.inr r.1, .int (r.2 : Nat)))
    rw [List.map_map] at wk
    exact ⟨d, o, kvP rows, rfl, S2.1, fun D hD => dc_data (Qd := fun H => Q (.ref D) H) wk (fun _ _ e h => FzD.ex e h) S2 hn h nd (fun z x H3 hz e3 _ t Q' k => turn z x H3 hz ((e.trans e2).trans e3) t Q' k) hD fun H3 e3 h3 => q D H3 (fresh_back e2 hD) (e2.trans e3) h3⟩
end
theorem fm_keys {α : Type} {f : Str → Option α} : ∀ {l : List Str}, ((l.filterMap fun n => (f n).map fun i => (n, i)).map (·.1)).Sublist l
  | [] => List.Sublist.refl _
  | n :: l => by
    rw [List.filterMap_cons]
    cases f n with
    | none => exact List.Sublist.cons _ fm_keys
    | some i => exact List.Sublist.cons₂ _ fm_keys
theorem kvP_fm {α : Type} {f : α → Option (Str × Nat)} {l : List α} : kvP (l.filterMap f) = l.filterMap fun a => (f a).map fun r => (Sum.inr r.1, V.int (r.2 : Nat)) := by
  unfold kvP; rw [List.map_filterMap]
/-- what the order holds -/
theorem ord_start {ns : List (Nd Str)} {ord ts : List Nat} (o : OrdOk (RepN ns) (tm ns) ord (ts.map (tm ns))) {i : Nat} (hi : i ∈ ts) (hr : RepN ns i) : i ∈ ord := by
  have h : tm ns i ∈ ord.map (tm ns) := by
    rw [o.eq]
    exact K49.visits_mem (List.mem_map.mpr ⟨i, hi, rfl⟩)
  obtain ⟨j, hj, e⟩ := List.mem_map.mp h
  have rj := o.all j hj
  have := (K49.fst_iff rj.1 hr.1).mpr e
  rw [rj.2, hr.2] at this
  exact this ▸ hj
theorem ord_inn {ns : List (Nd Str)} (wf : WfN ns) {ord : List Nat} {ts : List (K49.Tm Str Nat)} (o : OrdOk (RepN ns) (tm ns) ord ts) {h z : Nat} (hh : h ∈ ord) (hz : z ∈ innN ns h) : z ∈ ord := by
  have R := K49.repN wf
  have rh := o.all h hh
  have rz := R.down h rh z hz
  have hk : tm ns z ∈ K49.kids (tm ns h) := by
    rw [R.kid h rh]
    exact List.mem_map.mpr ⟨z, hz, rfl⟩
  have cl : K49.Closed (ord.map (tm ns)) := by
    rw [o.eq]
    exact K49.visits_closed _ _ fun i t h => by simp at h
  obtain ⟨i, hi⟩ := List.mem_iff_getElem?.mp hh
  obtain ⟨j, _, hj⟩ := cl i (tm ns h) (by rw [List.getElem?_map, hi]; rfl) (tm ns z) hk
  obtain ⟨g, hg, e⟩ := List.mem_map.mp (List.mem_of_getElem? hj)
  have rg := o.all g hg
  have := (K49.fst_iff rg.1 rz.1).mpr e
  rw [rg.2, rz.2] at this
  exact this ▸ hg
theorem numK_keys (acc : List Nat) : ((numK acc).map fun p => kD p.1) = acc.map fun h => .int (h : Nat) := by
  unfold numK posK
  refine List.ext_getElem? fun i => ?_
  simp only [List.getElem?_map, List.getElem?_mapIdx]
  cases acc[i]? <;> rfl
theorem sideT_eqf {R : Rw Str Str} {b : Bool} : sideT VN R b = VN.filterMap fun n => (match (R.side b).lookup n with | some i => if tm R.nodes i = K49.Tm.nil then none else some (fst R.nodes i) | none => none).map fun i => (n, i) := by
  unfold sideT
  congr 1
  funext n
  cases List.lookup n (R.side b) with
  | none => rfl
  | some i =>
    dsimp only
    split <;> rfl
theorem sideT_nodup {R : Rw Str Str} {b : Bool} : ((sideT VN R b).map (·.1)).Nodup := by
  rw [sideT_eqf]
  exact List.Nodup.sublist fm_keys vn_nodup
theorem sideT_len {R : Rw Str Str} {b : Bool} : (sideT VN R b).length ≤ 3 := by
  unfold sideT
  exact Nat.le_trans (List.length_filterMap_le _ _) (by decide)
section
variable {P : Program} {w : World} {K : PySem.W.Frag} {mg : Str → Option Value} {base : Heap}
theorem em_is {te : TE} {σ : L2.St} {H : Hp} {ks ls : List (Key × V)} (h : EvM te σ H ks) (e : ks = ls) : EvM te σ H ls := e ▸ h
theorem sc_tidied : FnScope ["nodes", "olds", "news", "firsts", "sides", "rows", "places", "numbers", "found", "here", "node", "name", "at", "side"] ["nodes", "olds", "news"] (defScope (top 18)) := ⟨rfl, rfl, rfl, by decide +kernel, rfl, by decide +kernel, by decide +kernel⟩
/-- the dicts and the tuple of a shape's rows -/
def ShAt (p d e : Addr) (S : Rw Str Str) (H : Hp) : Prop := TuD p (S.nodes.map pyN) H ∧ H d = some (.dK (kvP S.olds)) ∧ H e = some (.dK (kvP S.news))
theorem ShAt.ex {p d e : Addr} {S : Rw Str Str} {H H' : Hp} (x : Ex H H') (h : ShAt p d e S H) : ShAt p d e S H' := ⟨TuD.ex x h.1, x _ _ h.2.1, x _ _ h.2.2⟩
def spTidied : Sp := fun vs H Q _ => ∃ (a b c : Addr) (R : Rw Str Str), vs = [.ref a, .ref b, .ref c] ∧ RwAt a b c R H ∧ RwOk R ∧ (∀ s r, r ∈ R.side s → r.1 ∈ VN) ∧
  ∀ t p d e H', Ex H H' → H' t = some (.tup [.ref p, .ref d, .ref e]) → ShAt p d e (RT VN (val R)) H' → Q (.ref t) H'
theorem cal_tidied (T : Nm K mg) (F : Df K (dG 18 "tidied")) (cM : Cal P w K mg base 1 "merged" ["nodes"] spMerged) (cN : Cal P w K mg base 1 "numbers_for" ["nodes", "firsts", "starts"] spNumbers) (cO : Cal P w K mg base 1 "ordered" ["places"] spOrdered) : Cal P w K mg base 2 "tidied" ["nodes", "olds", "news"] spTidied := by
  refine cal_of T F (by decide +kernel) sc_tidied (fun _ _ _ _ _ _ us hl => match us, hl with | [_, _, _], _ => rfl) (fun vs H Q E h => ?_) fun cdv A outer s H vs Q E hr h => ?_
  · obtain ⟨a, b, c, R, rfl, _⟩ := h
    rfl
  · obtain ⟨a, b, c, R, rfl, hR, ok, hVN, k⟩ := h
    have hu := hu_of hr
    have nd := sc_tidied.nd
    refine ⟨_, (pss_cons (ps_set (i := 3) nd rfl (Or.inr rfl) (pe_cal cM (hr.mono (by decide)) (by rfl) (pa_cons (pv 0) pa_nil))) (pss_cons (ps_set (i := 4) nd rfl (Or.inl rfl) (pe_lst pa_nil)) (pss_cons (ps_for PassesOwn.never rfl (pi_tup (pe_tup (pa_cons (pv 1) (pa_cons (pv 2) pa_nil)))) (pg_name (i := 5) nd rfl (Or.inl rfl))
        (pss_cons (ps_set (i := 6) nd rfl (Or.inr rfl) (pe_dc (own := [("name", 11), ("at", 12)]) (g := gTup K 2 (gCons (gName 11) (gCons (gName 12) gNil))) (tt := tTest (tOp (rNeD K) (tOp (rIxL K) (tVar 0) (tOp (rIxL K) (tVar 3) (tVar 12))) (tTup tNil))) (tk := tVar 11) (tv := tOp (rIxL K) (tVar 3) (tVar 12)) rfl nd (pi_list (pv 5)) (blkOk_by (N := ["nodes", "olds", "news", "firsts", "sides", "rows", "places", "numbers", "found", "here", "node", "name", "at", "side"]) (sc := defScope (top 18)) (by decide +kernel))
              (fun _ _ _ _ _ => pg_tup rfl (pgs_cons (pg_name (i := 11) nd rfl (Or.inl rfl)) (pgs_cons (pg_name (i := 12) nd rfl (Or.inl rfl)) pgs_nil))) (fun _ _ _ _ _ => pts_one (q_neD hr.units (q_ixL (pv 0) (q_ixL (pv 3) (pv 12))) (pe_tup pa_nil))) (fun _ _ _ _ _ => pv 11) (fun _ _ _ _ _ => q_ixL (pv 3) (pv 12)))) (pss_one (ps_expr (q_app (pv 4) (pa_cons (pe_dc (own := [("name", 11)]) (g := gName 11) (tt := tYes) (tk := tVar 11) (tv := tDGet (tVar 6) (tVar 11)) rfl nd (pi_list (pe_cal cO (hr.mono (by decide)) (by rfl) (pa_cons (pv 6) pa_nil))) (blkOk_by (N := ["nodes", "olds", "news", "firsts", "sides", "rows", "places", "numbers", "found", "here", "node", "name", "at", "side"]) (sc := defScope (top 18)) (by decide +kernel))
              (fun _ _ _ _ _ => pg_name (i := 11) nd rfl (Or.inl rfl)) (fun _ _ _ _ _ => pts_nil) (fun _ _ _ _ _ => pv 11) (fun _ _ _ _ _ => pe_dget hu (pv 6) (pv 11) (fun _ _ => rfl))) pa_nil)))))) (pss_cons (ps_set (i := 7) nd rfl (Or.inr rfl) (pe_cal cN (hr.mono (by decide)) (by rfl) (pa_cons (pv 0) (pa_cons (pv 3) (pa_cons (pe_lst (pa_starVals rfl (q_ixL (pv 4) pe_int) (pa_starVals rfl (q_ixL (pv 4) pe_int) pa_nil))) pa_nil))))) (pss_cons (ps_set (i := 8) nd rfl (Or.inl rfl) (pe_lst pa_nil)) (pss_cons (ps_lock (ps_for PassesOwn.never rfl (pi_keys (pv 7)) (pg_name (i := 9) nd rfl (Or.inl rfl))
        (pss_cons (ps_set (i := 10) nd rfl (Or.inl rfl) (q_ixL (pv 0) (pv 9))) (pss_cons (ps_if (PW.pt (pw_and (q_some (pv 10)) (pw_and1 (q_neD hr.units (pv 10) (pe_tup pa_nil)))))
            (pss_one (ps_set (i := 10) nd rfl (Or.inl rfl) (pe_tup (pa_cons (q_ixT (pv 10) pe_int) (pa_cons (q_tuple T (pa_cons (pe_lc (own := [("at", 12)]) (g := gName 12) (tt := tYes) (te := tDGet (tVar 7) (tOp (rIxL K) (tVar 3) (tVar 12))) rfl nd (pi_tup (q_ixT (pv 10) pe_int)) (blkOk_by (N := ["nodes", "olds", "news", "firsts", "sides", "rows", "places", "numbers", "found", "here", "node", "name", "at", "side"]) (sc := defScope (top 18)) (by decide +kernel))
                (fun _ _ _ _ _ => pg_name (i := 12) nd rfl (Or.inl rfl)) (fun _ _ _ _ _ => pts_nil) (fun _ _ _ _ _ => pe_dget hu (pv 7) (q_ixL (pv 3) (pv 12)) (fun _ _ => rfl))) pa_nil)) pa_nil))))) pss_nil) (pss_one (ps_expr (q_app (pv 8) (pa_cons (pv 10) pa_nil)))))))) (pss_cons (ps_set (i := 6) nd rfl (Or.inr rfl) (pe_lc (own := [("side", 13)]) (g := gName 13) (tt := tYes) (te := tLockE (tDc (iItems (tVar 13)) (gTup K 2 (gCons (gName 11) (gCons (gName 12) gNil))) tYes (tVar 11) (tDGet (tVar 7) (tVar 12)) [11, 12])) rfl nd (pi_list (pv 4)) (blkOk_by (N := ["nodes", "olds", "news", "firsts", "sides", "rows", "places", "numbers", "found", "here", "node", "name", "at", "side"]) (sc := defScope (top 18)) (by decide +kernel))
        (fun _ _ _ _ _ => pg_name (i := 13) nd rfl (Or.inl rfl)) (fun _ _ _ _ _ => pts_nil)
        (fun _ _ _ _ _ => pe_lock (pe_dc (own := [("name", 11), ("at", 12)]) (g := gTup K 2 (gCons (gName 11) (gCons (gName 12) gNil))) (tt := tYes) (tk := tVar 11) (tv := tDGet (tVar 7) (tVar 12)) rfl nd (pi_items (pv 13)) (by have q := blkOk_by (N := ["nodes", "olds", "news", "firsts", "sides", "rows", "places", "numbers", "found", "here", "node", "name", "at", "side"]) (sc := ⟨.function, [(".0", .local), ("side", .local), ("numbers", .cell)], false, false, []⟩) (scope := ⟨.function, [(".0", .local), ("name", .local), ("at", .local), ("numbers", .free)], false, false, []⟩) (own := [("name", 11), ("at", 12)]) (by decide +kernel); exact q)
          (fun _ _ _ _ _ => pg_tup rfl (pgs_cons (pg_name (i := 11) nd rfl (Or.inl rfl)) (pgs_cons (pg_name (i := 12) nd rfl (Or.inl rfl)) pgs_nil))) (fun _ _ _ _ _ => pts_nil) (fun _ _ _ _ _ => pv 11) (fun _ _ _ _ _ => pe_dget hu (pv 7) (pv 12) (fun _ _ => rfl)))))) (pss_one (ps_ret (pe_tup (pa_cons (q_tuple T (pa_cons (pv 8) pa_nil)) (pa_cons (q_ixL (pv 6) pe_int) (pa_cons (q_ixL (pv 6) pe_int) pa_nil))))))))))))), ?_⟩
    obtain ⟨as0, has0, tas0⟩ := id hR.1
    refine ⟨_, rfl, a, R.nodes, rfl, hR.1, ok.ns, fun pf H1 hpf e1 hf => ?_⟩
    have hfs : TpL H1 (fsV R.nodes R.nodes.length) (fsD R.nodes) := tpl_ints
    refine ⟨Nat.zero_le _, fun l hl => ?_⟩
    refine ⟨_, rfl, _, rfl, (by show 2 ≤ sizeLine; decide), fun p3 hp3 => ⟨p3, rfl, ⟨_, SqT.of upd_same⟩, ?_⟩⟩
    have nlp : l ≠ p3 := ne_of_none upd_same hp3
    have e3 : Ex H1 (upd H1 p3 (.tup [.ref b, .ref c])) := Ex.new (fresh_back (Ex.new hl) hp3)
    have hBl : (upd H1 p3 (.tup [.ref b, .ref c])) l = none := by rw [upd_ne nlp]; exact hl
    have e13 := e1.trans e3
    generalize hB : upd H1 p3 (.tup [.ref b, .ref c]) = B at *
    have hBt : B p3 = some (.tup [.ref b, .ref c]) := by rw [← hB]; exact upd_same
    refine for_tup (K := K) (a := p3) (xs := [.ref b, .ref c]) (fun i σ H2 => Ex B H2 ∧ ∃ (dl : List Addr) (v5 v6 : Option V), dl.length = i ∧ H2 l = some (.lst (dl.map V.ref)) ∧ (∀ j d, dl[j]? = some d → H2 d = some (.dK (kvP (sideT VN R (j == 1))))) ∧
      σ = [some (.ref a), some (.ref b), some (.ref c), some (.ref pf), some (.ref l), v5, v6, none, none, none, none, none, none, none]) ⟨?_, [], none, none, rfl, ?_, fun j d hj => by simp at hj, rfl⟩ (fun i σ H2 _ p => SqT.of (p.1 _ _ hBt)) ?_ ?_
    · rw [← hB]; exact ex_swap hl nlp
    · rw [upd_ne nlp, upd_same]; rfl
    · rintro i x σ H2 hi ⟨e2, dl, v5, v6, hdl, hl2, hds, rfl⟩
      obtain ⟨q, s, rfl, hs, hq⟩ : ∃ q s, x = .ref q ∧ (i == 1) = s ∧ LsD q ((R.side s).map pyP) B := by
        match i, hi with
        | 0, hi => exact ⟨b, false, by simpa using hi.symm, rfl, LsD.ex e13 hR.2.1⟩
        | 1, hi => exact ⟨c, true, by simpa using hi.symm, rfl, LsD.ex e13 hR.2.2⟩
        | i + 2, hi => simp at hi
      have hps := ok.side s
      refine q_seq ?_
      have wf := ok.ns.wf
      obtain ⟨as, has, tas⟩ := LsD.ex (e13.trans e2) hR.1
      have hfs2 := hfs.ex (e3.trans e2)
      have hf2 := (e3.trans e2) _ _ hf
      have hplk : ((placesT R.nodes (R.side s)).map (·.1)).Sublist ((R.side s).map (·.1)) := placesT_keys
      refine s_setM (kvs := kvP (placesT R.nodes (R.side s))) (em_is (em_dcL (as := R.side s) (enc := pyP) (eld_var (ev_var rfl) (LsD.ex e2 hq)) (by have := hps.len; omega) (fun r => if tm R.nodes r.2 = K49.Tm.nil then none else some (Sum.inr r.1, V.int (fst R.nodes r.2 : Nat))) ?_ fun r x H4 hz e4 t Q' kk => ?_) ?_) fun dp H4 hdp e4 hd4 => ?_
      · have : (R.side s).filterMap (fun r => if tm R.nodes r.2 = K49.Tm.nil then none else some ((Sum.inr r.1 : Key), V.int (fst R.nodes r.2 : Nat))) = kvP (placesT R.nodes (R.side s)) := by
          unfold placesT
          rw [kvP_fm]
          congr 1
          funext r
          split <;> rfl
        rw [this, kvP_keys]
        exact inr_nodup (hps.nd.sublist hplk)
      · refine g_tup2 t fun v1 v2 t1 t2 => ?_
        have := t1.inv_str
        subst this
        have := t2.inv_int
        subst this
        have hr2 := (hps.each r hz).2
        have hfl := K49.fst_lt hr2
        have at3 := d_int (ed_ixL (K := K) (ta := tVar 3) (tb := tVar 12) (σ := (wipe [some (.ref a), some (.ref b), some (.ref c), some (.ref pf), some (.ref l), some (.ref q), v6, none, none, none, none, none, none, none] [11, 12]).set 11 (some (.str r.1)) |>.set 12 (some (.int (r.2 : Nat)))) (ev_var rfl) (e4 _ _ hf2) (hfs2.ex e4) (ev_var rfl) rfl (fsD_at hr2))
        have node := ed_ixL (K := K) (ta := tVar 0) (ev_var rfl) (e4 _ _ has) (tas.ex e4) at3 rfl (by rw [List.getElem?_map, getD_some (d := .non) hfl]; rfl)
        refine kk _ rfl (et_is (et_test (ev_neD node (ed_tup ead_nil (by simp)) (pd_node (ok.ns.at hfl)).1 pd_nil)) ?_) fun kv hkv => ?_
        · rw [pyN_nil, non_iff wf hr2]
          by_cases q : tm R.nodes r.2 = K49.Tm.nil <;> simp [q]
        · split at hkv
          · cases hkv
          · cases hkv
            exact ⟨ev_var rfl, at3⟩
      · unfold placesT
        rw [kvP_fm]
        congr 1
        funext r
        split <;> rfl
      · dsimp only
        have hksub : ∀ n ∈ (placesT R.nodes (R.side s)).map (·.1), n ∈ VN := fun n hn => by
          obtain ⟨r, hr, rfl⟩ := List.mem_map.mp (hplk.subset hn)
          exact hVN s r hr
        have e24 := e2.trans e4
        refine s_appM (kvs := kvP (sideT VN R s)) (xs := dl.map V.ref) (e4 _ _ hl2) (ev_var rfl) (em_is (em_dcL (as := ordN ((placesT R.nodes (R.side s)).map (·.1))) (enc := PyData.str) (eld_new (en_ordered (ev_var rfl) hd4 (kvP_keys _) hksub (hps.nd.sublist hplk))) ?_ (fun n => (lkp (placesT R.nodes (R.side s)) n).map fun i => (Sum.inr n, V.int (i : Nat))) ?_ fun n x H5 hz e5 t Q' kk => ?_) ?_) ?_ fun d H5 hd5 e5 h5 => ?_
        · unfold ordN
          exact Nat.lt_of_le_of_lt (List.length_filter_le _ _) (by decide)
        · have : (ordN ((placesT R.nodes (R.side s)).map (·.1))).filterMap (fun n => (lkp (placesT R.nodes (R.side s)) n).map fun i => ((Sum.inr n : Key), V.int (i : Nat))) = kvP (sideT VN R s) := by
            rw [← side_eq ok s, kvP_fm]
            congr 1
            funext n
            cases lkp (placesT R.nodes (R.side s)) n <;> rfl
          rw [this, kvP_keys]
          exact inr_nodup sideT_nodup
        · have := t.inv_str
          subst this
          have hm : n ∈ (placesT R.nodes (R.side s)).map (·.1) := by
            have := (List.mem_filter.mp hz).2
            simpa using this
          cases hi : lkp (placesT R.nodes (R.side s)) n with
          | none => exact absurd hm (lkp_none.mp hi)
          | some i =>
            rw [hi] at kk
            refine kk _ rfl et_yes fun kv hkv => ?_
            cases hkv
            exact ⟨ev_var rfl, ev_dget (k := Sum.inr n) rfl (ev_var rfl) (ev_var rfl) (e5 _ _ hd4) (by rw [kvP_val, hi]; rfl)⟩
        · rw [← side_eq ok s, kvP_fm]
          congr 1
          funext n
          cases lkp (placesT R.nodes (R.side s)) n <;> rfl
        · rw [List.length_map, hdl]
          have := (List.getElem?_eq_some_iff.mp hi).1
          simp at this
          omega
        · have nld : d ≠ l := fun z => by rw [z, e4 _ _ hl2] at hd5; cases hd5
          refine ⟨Ex.mut (e24.trans e5) hBl, dl ++ [d], _, _, by simp [hdl], ?_, fun j u hj => ?_, rfl⟩
          · rw [upd_same, List.map_append]; rfl
          · by_cases hjl : j < dl.length
            · rw [List.getElem?_append_left hjl] at hj
              have hu := hds j u hj
              have : u ≠ l := fun z => by rw [z, hl2] at hu; cases hu
              rw [upd_ne this]
              exact e5 _ _ (e4 _ _ hu)
            · have hj2 : j = dl.length := by
                have := (List.getElem?_eq_some_iff.mp hj).1
                simp at this
                omega
              subst hj2
              rw [List.getElem?_append_right (Nat.le_refl _), Nat.sub_self] at hj
              have : d = u := by simpa using hj
              subst this
              rw [upd_ne nld, hdl, hs]
              exact h5
    · rintro σ H2 ⟨e2, dl, v5, v6, hdl, hl2, hds, rfl⟩
      dsimp only
      obtain ⟨d0, d1, rfl⟩ : ∃ d0 d1, dl = [d0, d1] := by
        match dl, hdl with
        | [d0, d1], _ => exact ⟨d0, d1, rfl⟩
      have h0 : H2 d0 = some (.dK (kvP (sideT VN R false))) := hds 0 d0 rfl
      have h1 : H2 d1 = some (.dK (kvP (sideT VN R true))) := hds 1 d1 rfl
      have wf := ok.ns.wf
      have wR := ok.wf
      have e12 := e13.trans e2
      have hf2 := (e3.trans e2) _ _ hf
      have hfs2 := hfs.ex (e3.trans e2)
      refine q_seq ?_
      refine ⟨_, rfl, _, rfl, (el_lst (ea_starV (ev_op (ev_var rfl) ev_c (rv_ixL (SqL.of hl2) (atI_nat (j := 0) rfl))) h0 (ea_starV (ev_op (ev_var rfl) ev_c (rv_ixL (SqL.of hl2) (atI_nat (j := 1) rfl))) h1 ea_nil)) ?_) H2 (Ex.refl _) _ fun dw H3 hdw e3' hw => ?_⟩
      · have := sideT_len (R := R) (b := false)
        have := sideT_len (R := R) (b := true)
        simp [kvP]
        omega
      have hst : ((kvP (sideT VN R false)).map (·.2) ++ ((kvP (sideT VN R true)).map (·.2) ++ [])) = (startsT VN R).map fun i => V.int (i : Nat) := by
        unfold kvP K49.startsT
        simp [List.map_map, Function.comp_def]
      rw [hst] at hw
      refine ⟨a, pf, dw, R.nodes, startsT VN R, rfl, LsD.ex (e12.trans e3') hR.1, ⟨_, e3' _ _ hf2, hfs2.ex e3'⟩, ⟨_, hw, tpl_ints⟩, ok.ns, K49.startsT_rep wR, fun ord dn H4 o hdn e4 hn4 => ?_⟩
      refine q_seq ?_
      refine ⟨Nat.zero_le _, fun lf hlf => ?_⟩
      have nlf : lf ≠ dn := fun z => by rw [z, hn4] at hlf; cases hlf
      have e24 := e3'.trans e4
      have e14 := e12.trans e24
      have osz : ord.length < 1000 := by
        have := rep_len (fun x hx => (o.all x hx).1) o.nodup
        have := ok.ns.1
        omega
      refine q_seq ?_
      refine ⟨dn, .dK (numK ord), by rw [upd_ne nlf.symm]; exact hn4, trivial, fun od => ?_⟩
      have eL : Ex (upd H4 dn (.frz od (.dK (numK ord)))) (upd (upd H4 lf (.lst [])) dn (.frz od (.dK (numK ord)))) := ex_swap hlf nlf
      have hLf : (upd H4 dn (.frz od (.dK (numK ord)))) lf = none := by rw [upd_ne nlf]; exact hlf
      have hnL : LsD a (R.nodes.map pyN) (upd H4 dn (.frz od (.dK (numK ord)))) := LsD.updD (LsD.ex e14 hR.1) hn4
      have hfL : LsD pf (fsD R.nodes) (upd H4 dn (.frz od (.dK (numK ord)))) := LsD.updD ⟨_, e24 _ _ hf2, hfs2.ex e24⟩ hn4
      refine ⟨_, rfl, dn, od, rfl, .inl ⟨numK ord, upd_same, for_wk (wk_keys (d := dn) (o := od) (kvs := numK ord)) (fun i σ H5 => Ex (upd H4 dn (.frz od (.dK (numK ord)))) H5 ∧ ∃ (xs : List V) (v9 v10 : Option V), H5 lf = some (.lst xs) ∧ TpL H5 xs ((ord.take i).map fun h => pyN (ndT R.nodes ord h)) ∧
        σ = [some (.ref a), some (.ref b), some (.ref c), some (.ref pf), some (.ref l), v5, v6, some (.ref dn), some (.ref lf), v9, v10, none, none, none]) ⟨eL, [], none, none, by rw [upd_ne nlf, upd_same], .nil, rfl⟩ (fun i σ H5 _ p => p.1 _ _ upd_same) ?_ ?_⟩⟩
      · rintro i σ H5 x H6 e he ⟨e5, xs, v9, v10, hlf5, txs, rfl⟩ e6 t
        rw [numK_keys, List.getElem?_map] at he
        cases qh : ord[i]? with
        | none => rw [qh] at he; cases he
        | some h =>
          rw [qh] at he
          cases he
          have := t.inv_int
          subst this
          have hm : h ∈ ord := List.mem_of_getElem? qh
          have rh := o.all h hm
          have hnd : NdOk h (R.nodes.getD h .non) := ok.ns.at rh.1
          refine q_seq ?_
          obtain ⟨as, has, tas⟩ := LsD.ex (e5.trans e6) hnL
          refine s_setD (ed_ixL (ev_var rfl) has tas (ev_var rfl) rfl (by rw [List.getElem?_map, getD_some (d := .non) rh.1]; rfl)) fun w10 H7 e7 t10 => ?_
          dsimp only
          refine q_cut (fun σ' H' => ∃ u10, Ex H7 H' ∧ Tp H' u10 (pyN (ndT R.nodes ord h)) ∧ σ' = [some (.ref a), some (.ref b), some (.ref c), some (.ref pf), some (.ref l), v5, v6, some (.ref dn), some (.ref lf), some (.int (h : Nat)), some u10, none, none, none]) (fun nx kn => ?_) ?_
          · have node : EvD (tVar 10) [some (.ref a), some (.ref b), some (.ref c), some (.ref pf), some (.ref l), v5, v6, some (.ref dn), some (.ref lf), some (.int (h : Nat)), some w10, none, none, none] H7 (pyN (R.nodes.getD h .non)) := ed_var rfl t10
            refine s_if (et_and (et_B (ev_notNo node)) fun _ => et_test (ev_neD node (ed_tup ead_nil (by simp)) (pd_node hnd).1 pd_nil)) (fun hb H8 e8 => ?_) fun hb H8 e8 => ?_
            · rw [pyN_none, pyN_nil] at hb
              cases q : R.nodes.getD h .non with
              | opn => rw [q] at hb; simp at hb
              | non => rw [q] at hb; simp [K49.isNon] at hb
              | op f xs =>
                rw [q] at node hnd
                have hx : ∀ x ∈ xs, x < R.nodes.length := K49.wf_lt wf rh.1 q
                have node8 := node.mono e8
                have e58 := ((e5.trans e6).trans e7).trans e8
                obtain ⟨bs, hbs, tbs⟩ := LsD.ex e58 hfL
                refine s_setD (ed_tup (ead_cons (ed_ixT node8 ev_c (j := 0) rfl rfl) (ead_cons (ed_tupN (en_is (en_lcT (as := xs) (enc := fun i : Nat => .int (i : Nat)) (ed_ixT node8 ev_c (j := 1) rfl rfl) (by have := hnd.2.1; omega) (fun z => some (.int ((ord.idxOf (fst R.nodes z) : Nat) : Int))) fun z x H9 hz e9 t Q' kk => ?_) (filterMap_some _ _))) ead_nil)) (by simp)) fun u10 H9 e9 t9 => kn _ _ ⟨u10, e8.trans e9, ?_, rfl⟩
                · have := t.inv_int
                  subst this
                  refine kk _ rfl et_yes fun d hd => ?_
                  cases hd
                  have hzi : fst R.nodes z ∈ ord := ord_inn wf o hm (by unfold K49.innN; rw [q]; exact List.mem_map.mpr ⟨z, hz, rfl⟩)
                  exact int_d (ev_dgetF (k := nK (fst R.nodes z)) rfl (ev_var rfl) (d_int (ed_ixL (ev_var rfl) (e9 _ _ hbs) (tbs.ex e9) (ev_var rfl) rfl (fsD_at (hx z hz)))) (e9 _ _ (e58 _ _ upd_same)) (by rw [numK_val, if_pos hzi]; rfl))
                · have : ndT R.nodes ord h = .op f (xs.map fun a => ord.idxOf (fst R.nodes a)) := by unfold K49.ndT; rw [q]
                  rw [this]
                  show Tp H9 u10 (.tuple [.str f, .tuple ((xs.map fun a => ord.idxOf (fst R.nodes a)).map fun i => .int (i : Nat))])
                  rw [List.map_map]
                  exact t9
            · rw [pyN_none, pyN_nil] at hb
              refine kn _ _ ⟨w10, e8, ?_, rfl⟩
              have : ndT R.nodes ord h = R.nodes.getD h .non := by
                unfold K49.ndT
                cases q : R.nodes.getD h .non with
                | opn => rfl
                | non => rfl
                | op f xs => rw [q] at hb; simp [K49.isNon] at hb
              rw [this]
              exact t10.ex e8
          · rintro σ' H8 ⟨u10, e8, t8, rfl⟩
            have e78 := (e6.trans e7).trans e8
            refine s_appD (d := pyN (ndT R.nodes ord h)) (e78 _ _ hlf5) (ev_var rfl) (ed_var rfl t8) (by rw [txs.length, List.length_map, List.length_take]; omega) fun v H9 e9 tv => ?_
            have e89 := e78.trans e9
            refine ⟨Ex.mut (e5.trans e89) hLf, xs ++ [v], _, _, upd_same, ?_, rfl⟩
            rw [List.take_succ_eq_append_getElem (List.getElem?_eq_some_iff.mp qh).1, (List.getElem?_eq_some_iff.mp qh).2, List.map_append]
            exact TpL.snoc ((txs.ex e89).tx (TX.upd_lst (e89 _ _ hlf5))) (tv.tx (TX.upd_lst (e89 _ _ hlf5)))
      · rintro σ H5 ⟨e5, xs, v9, v10, hlf5, txs, rfl⟩
        have hfz : H5 dn = some (.frz od (.dK (numK ord))) := e5 _ _ upd_same
        refine ⟨hfz, ?_⟩
        have e45 : Ex H4 (upd H5 dn (.dK (numK ord))) := Ex.unlock hn4 e5
        have hlf6 : (upd H5 dn (.dK (numK ord))) lf = some (.lst xs) := by rw [upd_ne nlf]; exact hlf5
        rw [List.length_map, numK_len, List.take_length] at txs
        have txs6 := txs.tx (TX.unlock (u := .dK (numK ord)) hfz)
        have hn6 : (upd H5 dn (.dK (numK ord))) dn = some (.dK (numK ord)) := upd_same
        generalize upd H5 dn (.dK (numK ord)) = H6 at *
        have e26 := e24.trans e45
        have o' : OrdOk (RepN R.nodes) (tm R.nodes) ord (K49.roots VN (val R)) := by rw [← K49.startsT_roots wR]; exact o
        have hst2 : ∀ s, ∀ p ∈ sideT VN R s, p.2 ∈ ord := fun s p hp => by
          have hm : p.2 ∈ startsT VN R := by
            unfold K49.startsT
            cases s with
            | false => exact List.mem_append_left _ (List.mem_map.mpr ⟨p, hp, rfl⟩)
            | true => exact List.mem_append_right _ (List.mem_map.mpr ⟨p, hp, rfl⟩)
          exact ord_start o hm (K49.startsT_rep wR _ hm)
        have hl6 := e26 _ _ hl2
        refine q_seq ?_
        refine ⟨_, rfl, l, rfl, ⟨_, SqL.of hl6⟩, fun lp hlp => lc_list (K := K) (a := l) (xs := [.ref d0, .ref d1]) (fun i H7 => Ex H6 H7 ∧ ∃ el : List Addr, el.length = i ∧ H7 lp = some (.lst (el.map V.ref)) ∧ ∀ j e, el[j]? = some e → H7 e = some (.dK (kvP ((sideT VN R (j == 1)).map fun p => (p.1, ord.idxOf p.2)))))
          ⟨Ex.new hlp, [], rfl, upd_same, fun j e hj => by simp at hj⟩ (fun i H7 _ p => SqL.of (p.1 _ _ hl6)) ?_ ?_⟩
        · rintro i x H7 hi ⟨e7, el, hel, hlp7, hes⟩
          obtain ⟨dq, s, rfl, hs, hq⟩ : ∃ q s, x = .ref q ∧ (i == 1) = s ∧ H7 q = some (.dK (kvP (sideT VN R s))) := by
            match i, hi with
            | 0, hi => exact ⟨d0, false, by simpa using hi.symm, rfl, (e26.trans e7) _ _ h0⟩
            | 1, hi => exact ⟨d1, true, by simpa using hi.symm, rfl, (e26.trans e7) _ _ h1⟩
            | i + 2, hi => simp at hi
          refine ⟨rfl, ?_⟩
          rw [show ∀ (Q : Bool → Hp → Prop) σ H, tYes σ H Q = Q true H from fun _ _ _ => rfl]
          rw [if_pos rfl]
          have ndd : dn ≠ dq := fun z => by
            have := e24 _ _ (show H2 dq = some (.dK (kvP (sideT VN R s))) from by
              match i, hi, hs with
              | 0, hi, hs =>
                have : d0 = dq := by simpa using hi
                subst this; subst hs; exact h0
              | 1, hi, hs =>
                have : d1 = dq := by simpa using hi
                subst this; subst hs; exact h1
              | i + 2, hi, _ => simp at hi)
            have hd3 := e3' _ _ (show H2 dq = some (.dK (kvP (sideT VN R s))) from by
              match i, hi, hs with
              | 0, hi, hs =>
                have : d0 = dq := by simpa using hi
                subst this; subst hs; exact h0
              | 1, hi, hs =>
                have : d1 = dq := by simpa using hi
                subst this; subst hs; exact h1
              | i + 2, hi, _ => simp at hi)
            rw [z, hd3] at hdn
            cases hdn
          have hn7 := e7 _ _ hn6
          refine em_lock (kvs := kvP ((sideT VN R s).map fun p => (p.1, ord.idxOf p.2))) hq trivial (fun od' => em_is (em_dcR (rows := sideT VN R s) (ev_var rfl) upd_same (by have := sideT_len (R := R) (b := s); omega) (fun r => some (Sum.inr r.1, V.int (ord.idxOf r.2 : Nat))) ?_ fun r x H8 hz e8 t Q' kk => ?_) ?_) H7 (Ex.refl _) _ fun e H8 he8 e8 h8 => ⟨el.map V.ref, e8 _ _ hlp7, sz_lt (by
            rw [List.length_map, hel]
            have := (List.getElem?_eq_some_iff.mp hi).1
            simp at this
            omega), Ex.mut (e7.trans e8) hlp, el ++ [e], by simp [hel], ?_, fun j u hj => ?_⟩
          · rw [filterMap_some, List.map_map]
            have : ((sideT VN R s).map ((fun x : Key × V => x.1) ∘ fun r : Str × Nat => ((Sum.inr r.1 : Key), V.int (ord.idxOf r.2 : Nat)))) = ((sideT VN R s).map (·.1)).map Sum.inr := by rw [List.map_map]; rfl
            rw [this]
            exact inr_nodup sideT_nodup
          · refine g_tup2 t fun v1 v2 t1 t2 => ?_
            have := t1.inv_str
            subst this
            have := t2.inv_int
            subst this
            refine kk _ rfl et_yes fun kv hkv => ?_
            cases hkv
            have hn8 : H8 dn = some (.dK (numK ord)) := e8 _ _ (by rw [upd_ne ndd]; exact hn7)
            exact ⟨ev_var rfl, ev_dget (k := nK r.2) rfl (ev_var rfl) (ev_var rfl) hn8 (by rw [numK_val, if_pos (hst2 s r hz)]; rfl)⟩
          · rw [filterMap_some]
            unfold kvP
            rw [List.map_map]
            rfl
          · rw [upd_same, List.map_append]; rfl
          · have nel : e ≠ lp := fun z => by rw [z, hlp7] at he8; cases he8
            by_cases hjl : j < el.length
            · rw [List.getElem?_append_left hjl] at hj
              have hu := hes j u hj
              have : u ≠ lp := fun z => by rw [z, hlp7] at hu; cases hu
              rw [upd_ne this]
              exact e8 _ _ hu
            · have hj2 : j = el.length := by
                have := (List.getElem?_eq_some_iff.mp hj).1
                simp at this
                omega
              subst hj2
              rw [List.getElem?_append_right (Nat.le_refl _), Nat.sub_self] at hj
              have : e = u := by simpa using hj
              subst this
              rw [upd_ne nel, hel, hs]
              exact h8
        · rintro H7 ⟨e7, el, hel, hlp7, hes⟩
          obtain ⟨f0, f1, rfl⟩ : ∃ f0 f1, el = [f0, f1] := by
            match el, hel with
            | [f0, f1], _ => exact ⟨f0, f1, rfl⟩
          have g0 := hes 0 f0 rfl
          have g1 := hes 1 f1 rfl
          dsimp only
          refine ed_tupL (K := K) (ev_var rfl) (e7 _ _ hlf6) (txs6.ex e7) H7 (Ex.refl _) _ fun v H8 e8 tv => ?_
          refine ev_op (ev_var rfl) ev_c (rv_ixL (SqL.of hlp7) (atI_nat (j := 0) rfl)) H8 e8 _ fun H9 e9 => ?_
          refine ev_op (ev_var rfl) ev_c (rv_ixL (SqL.of hlp7) (atI_nat (j := 1) rfl)) H9 (e8.trans e9) _ fun H10 e10 => ?_
          refine ⟨by show 3 ≤ sizeLine; decide, fun pt hpt => ?_⟩
          obtain ⟨pp, ys, rfl, hpp, tpp⟩ := tv.inv_tup
          have ee := (e8.trans e9).trans e10
          have e11 := Ex.new (o := .tup [.ref pp, .ref f0, .ref f1]) hpt
          refine k pt pp f0 f1 _ (((e14.trans e45).trans e7).trans (ee.trans e11)) upd_same ?_
          rw [← K49.tidied_eq wR o']
          refine ⟨⟨ys, (e9.trans (e10.trans e11)) _ _ hpp, ?_⟩, (ee.trans e11) _ _ g0, (ee.trans e11) _ _ g1⟩
          have := tpp.ex (e9.trans (e10.trans e11))
          show TpL _ ys ((ord.map (ndT R.nodes ord)).map pyN)
          rw [List.map_map]
          exact this
end
end K49W

-- part K49S1
namespace K49W
open PySem PySem.Spec PyProof.Rows L2 Evl
open K49 (Nd Rw RT val)
/-! ### an attribute as a target -/
section
variable {X : Cx} {o : Expr} {f : Str} {pos : Pos} {ta : TE}
def gFld (K : PySem.W.Frag) (ta : TE) (f : Str) : TG := fun v σ H Q => ta σ H fun x H1 => ∃ a C dx fs, x = .ref a ∧ H1 a = some (.ins C dx fs) ∧ Cls K C ∧ NoAttr K C f ∧ fs.length < 1000 ∧ Q σ (L2.upd H1 a (.ins C dx (putF f v fs)))
theorem pg_fld (ha : PE X o ta) : PG X (.Attribute o f pos) (gFld X.K ta f) := by
  refine ⟨fun pins s σ H v u Q I r h => ?_⟩
  rw [PySem.assign_Attribute]
  refine wpAny_bind (wpAny_holding (thn (ha.run pins s σ H _ I h) fun ov s1 ⟨x, H1, I1, rx, a, C, dx, fs, ex, ea, c, n, l, q⟩ => ?_))
  subst ex
  obtain rfl : ov = Value.ref a := rx
  refine wpAny_bind (wpAny_standAt (wpAny_bind (wpAny_holding (setattr_ok I1 ea c n l r fun s2 I2 => ?_))))
  exact wpAny_release ⟨σ, _, I2, q⟩
end
/-! ### the class -/
abbrev Ca (K : PySem.W.Frag) : Addr := He.ga K "Shape"
structure ShK (K : PySem.W.Frag) : Prop where
  cl : Cls K (Ca K)
  mkr : Mk K (Ca K) (He.fAd K ("Shape", some "__init__"))
  n0 : NoAttr K (Ca K) "nodes"
  n1 : NoAttr K (Ca K) "olds"
  n2 : NoAttr K (Ca K) "news"
def flds (p d e : Addr) : List (Str × V) := [("nodes", .ref p), ("olds", .ref d), ("news", .ref e)]
/-- a shape that says S -/
def ShI (K : PySem.W.Frag) (x : Addr) (S : Rw Str Str) (H : Hp) : Prop := ∃ dx p d e, H x = some (.ins (Ca K) dx (flds p d e)) ∧ ShAt p d e S H
theorem ShI.ex {K : PySem.W.Frag} {x : Addr} {S : Rw Str Str} {H H' : Hp} (z : Ex H H') (h : ShI K x S H) : ShI K x S H' := let ⟨dx, p, d, e, h1, h2⟩ := h; ⟨dx, p, d, e, z _ _ h1, h2.ex z⟩
/-- rows that a shape is made of -/
structure Good (R : Rw Str Str) : Prop where
  ok : RwOk R
  vn : ∀ s r, r ∈ R.side s → r.1 ∈ VN
section
variable {P : Program} {w : World} {K : PySem.W.Frag} {mg : Str → Option Value} {base : Heap}
def ExB (x : Addr) (H H' : Hp) : Prop := ∀ a o, a ≠ x → H a = some o → H' a = some o
def spInit (K : PySem.W.Frag) : Sp := fun vs H Q _ => ∃ (x dx a b c : Addr) (R : Rw Str Str), vs = [.ref x, .ref a, .ref b, .ref c] ∧ H x = some (.ins (Ca K) dx []) ∧ RwAt a b c R H ∧ Good R ∧ ∀ H', ExB x H H' → ShI K x (RT VN (val R)) H' → Q .non H'
theorem sc_init : FnScope ["self", "nodes", "olds", "news"] ["self", "nodes", "olds", "news"] (defScope (inClass (top 19) 0)) := ⟨rfl, rfl, rfl, by decide +kernel, rfl, by decide +kernel, by decide +kernel⟩
theorem ok_init (T : Nm K mg) (S : ShK K) {f : Addr} {fd : FuncData} (F : FunD K dInit.name dInit.qual dInit.params dInit.body dInit.scope (dInit.dvs K) (dInit.kws K) f fd) (cC : Cal P w K mg base 4 "check_shape" ["nodes", "olds", "news"] spCheck) (cT : Cal P w K mg base 2 "tidied" ["nodes", "olds", "news"] spTidied) :
    FnOk P w K mg base CX0 5 f fd ["self", "nodes", "olds", "news"] (spInit K) := by
  refine FunD.ok F sc_init (fun vs H Q E h => ?_) fun cdv A outer s H vs Q E hr h => ?_
  · obtain ⟨x, dx, a, b, c, R, rfl, _⟩ := h
    rfl
  · obtain ⟨x, dx, a, b, c, R, rfl, hx, hR, hG, k⟩ := h
    refine ⟨_, PSs.nox (X := cxOf CX0 P w K mg base ["self", "nodes", "olds", "news"] "Shape.__init__" (defScope (inClass (top 19) 0)) f cdv A outer s H E) (pss_cons (ps_expr (pe_cal cC (hr.mono (by decide)) (by rfl) (pa_cons (pv 1) (pa_cons (pv 2) (pa_cons (pv 3) pa_nil))))) (pss_one (ps_asg (pe_cal cT (hr.mono (by decide)) (by rfl) (pa_cons (pv 1) (pa_cons (pv 2) (pa_cons (pv 3) pa_nil)))) (pg_tup rfl (pgs_cons (pg_fld (pv 0)) (pgs_cons (pg_fld (pv 0)) (pgs_cons (pg_fld (pv 0)) pgs_nil))))))), ?_⟩
    refine ⟨_, rfl, _, rfl, _, rfl, a, b, c, R, rfl, hR, hG.ok, fun H1 e1 => ?_⟩
    refine ⟨_, rfl, _, rfl, _, rfl, a, b, c, R, rfl, hR.ex e1, hG.ok, hG.vn, fun t p d e H2 e2 ht hS => ?_⟩
    have hx2 := e2 _ _ (e1 _ _ hx)
    refine ⟨t, _, rfl, SqT.of ht, rfl, _, _, rfl, ⟨_, rfl, x, Ca K, dx, _, rfl, hx2, S.cl, S.n0, (by show 0 < 1000; decide), ?_⟩⟩
    refine ⟨_, _, rfl, ⟨_, rfl, x, Ca K, dx, _, rfl, upd_same, S.cl, S.n1, (by show 1 < 1000; decide), ?_⟩⟩
    refine ⟨_, _, rfl, ⟨_, rfl, x, Ca K, dx, _, rfl, upd_same, S.cl, S.n2, (by show 2 < 1000; decide), rfl, ?_⟩⟩
    have other : ∀ b, b ≠ x → ∀ o1 o2 o3, (L2.upd (L2.upd (L2.upd H2 x o1) x o2) x o3) b = H2 b := fun b hb o1 o2 o3 => by rw [upd_ne hb, upd_ne hb, upd_ne hb]
    refine k _ (fun b o hb ho => by rw [other b hb]; exact e2 _ _ (e1 _ _ ho)) ⟨dx, p, d, e, upd_same, ?_⟩
    have tx : ∀ o1 o2 o3, TX H2 (L2.upd (L2.upd (L2.upd H2 x o1) x o2) x o3) := fun o1 o2 o3 b xs hb => by
      have : b ≠ x := fun z => by rw [z, hx2] at hb; cases hb
      rw [other b this]; exact hb
    refine ⟨TuD.tx (tx _ _ _) hS.1, ?_, ?_⟩
    · have : d ≠ x := fun z => by have := hS.2.1; rw [z, hx2] at this; cases this
      rw [other d this]; exact hS.2.1
    · have : e ≠ x := fun z => by have := hS.2.2; rw [z, hx2] at this; cases this
      rw [other e this]; exact hS.2.2
/-- Shape(nodes, olds, news) -/
def MkC (P : Program) (w : World) (K : PySem.W.Frag) (mg : Str → Option Value) (base : Heap) (k : Nat) : Prop := ∃ f fd ds, Mk K (Ca K) f ∧ FnOk P w K mg base CX0 k f fd ["self", "nodes", "olds", "news"] (spInit K) ∧ mg "Shape" = some (.ref (Ca K)) ∧ Binds K fd ["self", "nodes", "olds", "news"] ds ∧ Vals [] ds
theorem mk_c (T : Nm K mg) (S : ShK K) (F : Df K dInit) (cC : Cal P w K mg base 4 "check_shape" ["nodes", "olds", "news"] spCheck) (cT : Cal P w K mg base 2 "tidied" ["nodes", "olds", "news"] spTidied) : MkC P w K mg base 5 := by
  obtain ⟨fd, F⟩ := F
  have B := FunD.binds1 (F : FunD K dInit.name dInit.qual dInit.params dInit.body dInit.scope (dInit.dvs K) [] (He.fAd K dInit.at_) fd) (ps := ["self", "nodes", "olds", "news"]) 4 3 (fun h => by cases h) (by rfl) (fun T kV doc pm an cdv ct us its hu hi => by
    have hi' : its.length = 3 := hi
    match us, hu, its, hi' with
    | [_, _, _, _], _, [_, _, _], _ => exact ⟨_, rfl, rfl⟩)
  obtain ⟨ds, hv, hb⟩ := B
  exact ⟨_, fd, ds, S.mkr, ok_init T S F cC cT, T.g "Shape", hb, hv⟩
def tMk (K : PySem.W.Frag) (t : TA) : TE := tMake (Ca K) (spInit K) [] E0 t
theorem q_mk {X : Cx} {k : Nat} {e : Expr} {es : List Expr} {p pos : Pos} {t : TA} (c : MkC X.prog X.w X.K X.mg X.base k) (hr : Room (k + 1) X.A) (ha : PA X (e :: es) t) (hg : Gl X "Shape" := by rfl)
    (he : starEach (e :: es) X.env = (false, eval e X.env) :: starEach es X.env := by rfl) (hpl : (backTo pos (starEach es X.env)).any (·.1) = false := by rfl) : PE X (.Call (.Name "Shape" p) (e :: es) [] pos) (tMk X.K t) := by
  obtain ⟨f, fd, ds, h1, h2, h3, h4, h5⟩ := c
  exact pe_make h1 h2 hr hg h3 h4 h5 pass0 ha (by decide) he hpl
end
end K49W

-- part K49M
namespace K49W
open PySem PySem.Spec PyProof.Rows L2 Evl
section
variable {prog : Program} {w : World} {A : Around} {E : Value → Shared → Prop} {s : Shared}
theorem wpAny_dictPut_pairs {K : Type} [DecidableEq K] {knd : KeyKind prog w K} {d : Addr} {kvs : List (K × Value)} {k : K} {key v : Value} {Q : Unit → Shared → Prop} (hkey : knd.is k key = true) (hm : s.heap.DictOf knd d kvs)
    (hQ : ∀ h', h'.DictOf knd d (stored kvs k v) → Heap.SameBut d s.heap h' → Q () { s with heap := h' })
    (hsz : kvs.length ≤ sizeLine) :
    wpAny (model prog w) A (dictPut d (knd.hash k) key v) Q E s := by
  obtain ⟨o, es, ep, ho, hc, hd, hk, hp, hn⟩ := hm
  have hes : es.size ≤ sizeLine := by have e1 := hp.length; have e2 : es.toList.length = es.size := by simp
                                      omega
  unfold dictPut
  refine wpAny_bind (wpAny_dictFind_of hkey ho hd hk ?_)
  have hidx : (es.findIdx? fun e => knd.is k e.key) = kvs.findIdx? fun kv => decide (kv.1 = k) := by
    rw [← hp.findIdx k]; obtain ⟨l⟩ := es; simp
  cases hi : es.findIdx? fun e => knd.is k e.key with
  | some i =>
    refine wpAny_updateDict ho hd (hQ _ ⟨_, _, ep, Heap.get?_update_self _ ho (Obj.isFreed_of_dict (Obj.data_mapDict hd _)),
      hc.mapDict _, Obj.data_mapDict hd _, hk.modify _ _, ?_, ?_⟩ (Heap.SameBut.update ..))
    · rw [stored, if_pos (any_of_findIdx_some (hidx ▸ hi))]
      have hl : (es.toList.findIdx? fun e => knd.is k e.key) = some i := by rw [← hi]; obtain ⟨l⟩ := es; simp
      have := hp.modify hn hl v
      obtain ⟨l⟩ := es
      simpa using this
    · rw [stored, if_pos (any_of_findIdx_some (hidx ▸ hi)), keys_map_store]; exact hn
  | none =>
    have hnot : k ∉ kvs.map (·.1) := not_mem_of_findIdx_none (hidx ▸ hi)
    have hany : ¬ (kvs.any fun kv => decide (kv.1 = k)) = true := by
      rw [List.any_eq_true]; rintro ⟨kv, hkv, he⟩
      exact hnot (List.mem_map.mpr ⟨kv, hkv, of_decide_eq_true he⟩)
    refine wpAny_updateDictKeys (hz := hes) ho hd (hQ _ ⟨_, _, ep + 1, Heap.get?_update_self _ ho (Obj.isFreed_of_dict (Obj.data_mapDictKeys hd _)),
      hc.mapDictKeys _, Obj.data_mapDictKeys hd _, hk.push hkey _, ?_, ?_⟩ (Heap.SameBut.update ..))
    · rw [stored, if_neg hany]
      have := hp.append hkey (knd.hash k) v
      obtain ⟨l⟩ := es
      simpa using this
    · rw [stored, if_neg hany, List.map_append, List.nodup_append]
      refine ⟨hn, by simp, ?_⟩
      intro a ha b hb
      simp only [List.map_cons, List.map_nil, List.mem_singleton] at hb
      subst hb
      exact fun e => hnot (e ▸ ha)
theorem merge_into {d o : Addr} {kvs more : List (Key × Value)} {Q : Unit → Shared → Prop} (hdo : d ≠ o) (hoS : (o == sysModules) = false)
    (hd : s.heap.DictOf (mixKind prog w) d kvs) (ho : s.heap.DictOf (mixKind prog w) o more)
    (hQ : ∀ h', h'.DictOf (mixKind prog w) d (PySem.merged kvs more) → Heap.SameBut d s.heap h' → Q () { s with heap := h' })
    (hsz : kvs.length + more.length ≤ sizeLine) :
    wpAny (model prog w) A (mergeMapping d (.ref o) false) Q E s := by
  obtain ⟨od, esd, epd, hod, hcd, hdd, hkd, hpd, hnd⟩ := id hd
  obtain ⟨oo, eso, epo, hoo, hco, hdo', hko, hpo, hno⟩ := id ho
  unfold mergeMapping
  refine wpAny_bind (wpAny_isInstance ho.typeIs isSubtype_dict_dict ?_)
  simp only [if_true]
  refine wpAny_bind (wpAny_specialOf (T := "dict") ho.typeIs PySem.F.slot_dict_iter.lookup (wpAny_bind (wpAny_pure ?_)))
  have e1 : (some (Value.builtin "dict.__iter__") == some (Value.builtin "dict.__iter__")) = true := by decide +kernel
  rw [e1]
  dsimp only
  rw [hoS]
  rw [if_neg Bool.false_ne_true]
  have tail : wpAny (model prog w) A (do
      let l ← dictEntries o
      let epoch ← dictEpoch o
      forIn (List.range l.size) PUnit.unit fun i (_ : PUnit) => (do
        let l' ← dictEntries o
        match l'[i]? with
          | some e => do
            holding [e.key, e.val] (dictPut d e.hash e.key e.val)
            let ep' ← dictEpoch o
            if (ep' != epoch) = true then do
                (unsupported "dict.changed-during-merge" : Sem PUnit)
                pure (ForInStep.yield PUnit.unit)
              else pure (ForInStep.yield PUnit.unit)
          | _ => do
            (unsupported "dict.changed-during-merge" : Sem PUnit)
            pure (ForInStep.yield PUnit.unit) : Sem (ForInStep PUnit))
      pure ()) Q E s := by
    have hlen : more.length = eso.size := by rw [← hpo.length]; simp
    refine wpAny_bind (wpAny_dictEntries hoo hdo' ?_)
    refine wpAny_bind (wpAny_dictEpoch hoo hdo' ?_)
    refine wpAny_bind ?_
    rw [List.range_eq_range']
    refine wpAny_forIn_list _
      (fun rest _ s' => ∃ h' i, s' = { s with heap := h' } ∧ rest = List.range' i (eso.size - i) ∧ i ≤ eso.size ∧ h'.DictOf (mixKind prog w) d (PySem.merged kvs (more.take i)) ∧ h'.get? o = some oo ∧ Heap.SameBut d s.heap h')
      _ ?_ ?_ _ _ ⟨s.heap, 0, rfl, by simp, Nat.zero_le _, by simpa [PySem.merged] using hd, hoo, Heap.SameBut.refl _ _⟩
    · rintro x rest b s' ⟨h', i, rfl, hr, hi, hd', hoo', hs'⟩
      have hlt : i < eso.size := by
        rcases Nat.lt_or_ge i eso.size with h | h
        · exact h
        · rw [Nat.sub_eq_zero_of_le h] at hr; simp at hr
      obtain ⟨rfl, hrest⟩ : x = i ∧ rest = List.range' (i + 1) (eso.size - (i + 1)) := by
        have e : eso.size - i = (eso.size - (i + 1)) + 1 := by omega
        rw [e, List.range'_succ] at hr
        injection hr with h1 h2
        exact ⟨h1, h2⟩
      refine wpAny_bind (wpAny_dictEntries hoo' hdo' ?_)
      rw [Array.getElem?_eq_getElem hlt]
      obtain ⟨kv, hkv⟩ : ∃ kv, more[x]? = some kv := ⟨more[x]'(by rw [hlen]; exact hlt), List.getElem?_eq_getElem _⟩
      obtain ⟨k, v⟩ := kv
      obtain ⟨hkey, hval⟩ := hpo.get? (e := eso[x]) (by simp [hlt]) hkv
      obtain ⟨k', hkey', hhash⟩ := hko eso[x] (Array.getElem_mem hlt)
      obtain rfl : k' = k := (mixKind prog w).inj _ _ _ hkey' hkey
      show wpAny _ _ (holding [eso[x].key, eso[x].val] (dictPut d eso[x].hash eso[x].key eso[x].val) >>= _) _ _ _
      rw [hhash, hval]
      have hmx : (PySem.merged kvs (more.take x)).length ≤ sizeLine := by
        have e1 := merged_length_le kvs (more.take x)
        have e2 : (more.take x).length ≤ more.length := by rw [List.length_take]; omega
        omega
      refine wpAny_bind (wpAny_holding (wpAny_dictPut_pairs (hsz := hmx) hkey hd' fun h'' hd'' hs'' => ?_))
      have hoo'' : h''.get? o = some oo := (hs''.2 o (Ne.symm hdo)).trans hoo'
      refine wpAny_bind (wpAny_dictEpoch hoo'' hdo' ?_)
      rw [if_neg (by simp)]
      exact wpAny_pure ⟨h'', x + 1, rfl, hrest, hlt, by rw [merged_take_succ kvs more x (k', v) hkv]; exact hd'', hoo'', hs'.trans hs''⟩
    · rintro b s' ⟨h', i, rfl, hr, hi, hd', hoo', hs'⟩
      have hin : i = eso.size := by
        rcases Nat.lt_or_ge i eso.size with h | h
        · have e : eso.size - i = (eso.size - (i + 1)) + 1 := by omega
          rw [e, List.range'_succ] at hr; exact nomatch hr
        · exact Nat.le_antisymm hi h
      refine wpAny_pure (hQ h' ?_ hs')
      rw [hin, ← hlen, List.take_length] at hd'; exact hd'
  refine wpAny_bind (wpAny_dictEntries hod hdd ?_)
  simp only [Bool.false_eq_true, if_false]
  split
  · refine wpAny_bind (wpAny_dictEntries hoo hdo' (wpAny_bind ?_))
    refine wpAny_of_eq (a := PUnit.unit) ?_ tail
    rw [← Array.forIn_toList]
    refine forIn_yield_id _ fun e he c => ?_
    obtain ⟨k, hkey, _⟩ := hko e (Array.mem_toList_iff.mp he)
    obtain ⟨eh, ek, ev⟩ := e
    rcases keyIs_shape hkey with ⟨i, t, rfl, q⟩ | ⟨x, t, rfl, q⟩
    · have q : ek = Value.int i t := q
      subst q
      rfl
    · have q : ek = Value.str x t := q
      subst q
      rfl
  · exact tail
theorem display2 {v1 v2 : Sem Value} {Q : Value → Shared → Prop} 
    (h : wpAny (model prog w) A v1 (fun m s1 => wpAny (model prog w) A (mergeMapping s.heap.objs.size m false) (fun _ s2 => wpAny (model prog w) A v2 (fun m2 s3 => wpAny (model prog w) A (mergeMapping s.heap.objs.size m2 false) (fun _ s4 => Q (.ref s.heap.objs.size) s4) (fun _ _ => False) s3) (fun _ _ => False) s2) (fun _ _ => False) s1) (fun _ _ => False) { s with heap := s.heap.push { cls := .type "dict", data := .dict #[] } }) :
    wpAny (model prog w) A (dictDisplay [(none, v1), (none, v2)]) Q E s := by
  unfold dictDisplay
  dsimp only
  rw [List.forIn_cons]
  simp only [List.isEmpty_nil, if_true, pure_bind]
  refine wpAny_bind (wpAny_bind (wpAny_bind (wpAny_alloc ?_)))
  refine wpAny_bind (wpAny_holding (wpAny_mono h (fun m s1 h1 => ?_) fun _ _ e => e.elim))
  refine wpAny_bind (wpAny_onRaise (wpAny_tryCatch (wpAny_onRaise (wpAny_holding (wpAny_mono h1 (fun _ s2 h2 => ?_) fun _ _ e => e.elim)))))
  refine wpAny_pure ?_
  dsimp only
  rw [List.forIn_cons]
  simp only [List.isEmpty_nil, if_true, pure_bind]
  refine wpAny_bind ?_
  refine wpAny_bind (wpAny_holding (wpAny_mono h2 (fun m2 s3 h3 => ?_) fun _ _ e => e.elim))
  refine wpAny_bind (wpAny_onRaise (wpAny_tryCatch (wpAny_onRaise (wpAny_holding (wpAny_mono h3 (fun _ s4 h4 => ?_) fun _ _ e => e.elim)))))
  refine wpAny_pure ?_
  dsimp only
  rw [List.forIn_nil]
  refine wpAny_pure ?_
  simp only [List.isEmpty_nil, if_true, pure_bind]
  exact wpAny_pure h4
end
section
variable {X : Cx} {e1 e2 : Expr} {t1 t2 : TE} {pos : Pos}
/-- {**a, **b} -/
def tDStar (t1 t2 : TE) : TE := fun σ H Q => ∀ D, H D = none → t1 σ (L2.upd H D (.dK [])) fun x H1 => ∃ a ks, x = .ref a ∧ a ≠ D ∧ H1 a = some (.dK ks) ∧ H1 D = some (.dK []) ∧ ks.length ≤ 1000 ∧
  t2 σ (L2.upd H1 D (.dK (mergeK [] ks))) fun y H2 => ∃ b ls, y = .ref b ∧ b ≠ D ∧ H2 b = some (.dK ls) ∧ H2 D = some (.dK (mergeK [] ks)) ∧ ls.length ≤ 1000 ∧ Q (.ref D) (L2.upd H2 D (.dK (mergeK (mergeK [] ks) ls)))
theorem d_merge {pins : List (Addr × Obj)} {σ : L2.St} {H : Hp} {s : Shared} {D a : Addr} {kvs ks : List (Key × V)} {Q : Unit → Shared → Prop} {E : Value → Shared → Prop} (I : Inv X pins σ H s) (hD : H D = some (.dK kvs)) (ha : H a = some (.dK ks)) (n : a ≠ D) (hz : kvs.length ≤ 2000) (hz2 : ks.length ≤ 1000)
    (h : ∀ s', Inv X pins σ (L2.upd H D (.dK (mergeK kvs ks))) s' → Q () s') : wpAny (model X.prog X.w) X.A (mergeMapping D (.ref a) false) Q E s := by
  obtain ⟨z, hd, vs, rel, dd⟩ := dk_of I.hok hD
  obtain ⟨z2, hd2, vs2, rel2, dd2⟩ := dk_of I.hok ha
  have l1 := rel.length
  have l2 := rel2.length
  have hsz : vs.length + vs2.length ≤ sizeLine := by
    have : (3000 : Nat) ≤ sizeLine := by decide
    omega
  refine merge_into (Ne.symm n) hd2 dd dd2 (fun h' dd' hs => h _ ?_) hsz
  have he : ∃ q, h'.get? D = some q := let ⟨q, _, _, hq, _⟩ := dd'; ⟨q, hq⟩
  have hl : (mergeK kvs ks).length ≤ sizeLine := by have := length_mergeK ks kvs; omega
  exact d_write I (by rw [hD]; exact True.intro) hs he (dk_new hl hd (KV.merge rel2 rel) dd')
theorem pe_dstar (h1 : PE X e1 t1) (h2 : PE X e2 t2) (hx : X.xe = fun _ _ => False := by rfl)
    (hs : (evalEachOpt [none, none] X.env).zip ((evalEach [e1, e2] X.env).map fun v => do let x ← v; standAt pos; pure x) = [(none, do let x ← eval e1 X.env; standAt pos; pure x), (none, do let x ← eval e2 X.env; standAt pos; pure x)] := by rfl) :
    PE X (.Dict [none, none] [e1, e2] pos) (tDStar t1 t2) := by
  refine ⟨fun pins s σ H Q I h => ?_⟩
  rw [arm_eval_Dict, hs]
  refine wpAny_bind (wpAny_standAt (display2 ?_))
  have hD : H s.heap.objs.size = none := I.hok.fresh (Nat.le_refl _)
  have I0 : Inv X pins σ (L2.upd H s.heap.objs.size (.dK [])) { s with heap := s.heap.push { cls := .type "dict", data := .dict #[] } } :=
    I.laid (t' := s.toks) (fun b o e => Heap.get?_push_of_some _ e) (Nat.le_refl _) (dk_empty s.heap I.big)
  have h0 := h _ hD
  rw [hx.symm]
  refine wpAny_bind (thn (h1.run pins _ σ _ _ I0 h0) fun u s1 ⟨x, H1, I1, r1, a, ks, ex, na, ha, hd1, z1, q1⟩ => ?_)
  subst ex
  obtain rfl : u = Value.ref a := r1
  refine wpAny_bind (wpAny_standAt (wpAny_pure ?_))
  refine d_merge I1 hd1 ha na (by simp) z1 fun s2 I2 => ?_
  refine wpAny_bind (thn (h2.run pins _ σ _ _ I2 q1) fun u s3 ⟨x, H2, I3, r2, b, ls, ex, nb, hb, hd2, z2, q2⟩ => ?_)
  subst ex
  obtain rfl : u = Value.ref b := r2
  refine wpAny_bind (wpAny_standAt (wpAny_pure ?_))
  have lz : (mergeK ([] : List (Key × V)) ks).length ≤ 2000 := by have := length_mergeK ks []; simp at this; omega
  exact d_merge I3 hd2 hb nb lz z2 fun s4 I4 => ⟨.ref s.heap.objs.size, _, I4, rfl, q2⟩
end
end K49W

-- part K49F11
namespace K49W
open PySem PySem.Spec PyProof.Rows L2 Evl
open K49 (Nd Rw WfN RT val Ix ndO tmO nrm NmI RepM opp innM Can joined ndM)
/-! ### places, nothing is -1 -/
def ixI : Ix → Int
  | none => -1
  | some i => (i : Nat)
theorem ixI_inj {h k : Ix} (e : ixI h = ixI k) : h = k := by
  cases h <;> cases k <;> simp only [ixI] at e
  · rfl
  · omega
  · omega
  · congr 1; omega
def prD (p : Ix × Ix) : PyData := .tuple [.int (ixI p.1), .int (ixI p.2)]
def rowD (r : Str × (Ix × Ix)) : PyData := .tuple [.str r.1, .int (ixI r.2.1), .int (ixI r.2.2)]
/-- a shape's rows as the walks need them -/
structure ShOk (S : Rw Str Str) : Prop where
  can : Can S
  ns : NsOk S.nodes
  nd : ∀ b, ((S.side b).map (·.1)).Nodup
  vn : ∀ b r, r ∈ S.side b → r.1 ∈ VN
  cf : ∀ b, S.side b = VN.filterMap fun n => (lkp (S.side b) n).map fun i => (n, i)
theorem ndO_ok {ns : List (Nd Str)} (h : NsOk ns) (i : Ix) : NdOk ns.length (ndO ns i) := by
  cases i with
  | none => trivial
  | some i =>
    show NdOk ns.length (ns.getD i .non)
    by_cases hi : i < ns.length
    · have := h.at hi
      cases q : ns.getD i .non with
      | opn => trivial
      | non => trivial
      | op f xs =>
        rw [q] at this
        exact ⟨this.1, this.2.1, fun x hx => Nat.lt_trans (this.2.2 x hx) hi⟩
    · have : ns.getD i .non = .non := by
        rw [List.getD_eq_getElem?_getD, List.getElem?_eq_none_iff.mpr (by omega)]; rfl
      rw [this]; trivial
section
variable {te tf : TE} {σ : L2.St} {H : Hp} {K : PySem.W.Frag} {x : Addr} {S : Rw Str Str}
theorem ev_fld {a dx C : Addr} {fs : List (Str × V)} {f : Str} {v : V} (h : Ev te σ H (.ref a)) (ha : H a = some (.ins C dx fs)) (c : Cls K C) (n : NoAttr K C f) (hv : fs.lookup f = some v) : Ev (tFld K te f) σ H v := fun H1 e Q q =>
  h H1 e _ fun H2 e2 => ⟨a, C, dx, fs, v, rfl, e2 _ _ (e _ _ ha), c, n, hv, q H2 e2⟩
theorem ed_nodes (Sh : ShK K) (h : Ev te σ H (.ref x)) (hx : ShI K x S H) : EvD (tFld K te "nodes") σ H (.tuple (S.nodes.map pyN)) := by
  obtain ⟨dx, p, d, e, h1, h2⟩ := hx
  exact v_d (ev_fld h h1 Sh.cl Sh.n0 rfl) h2.1.tp
theorem ed_node (Sh : ShK K) (h : Ev te σ H (.ref x)) (hx : ShI K x S H) {i : Nat} (hi : i < S.nodes.length) (hf : Ev tf σ H (.int (i : Nat))) : EvD (tOp (rIxT K) (tFld K te "nodes") tf) σ H (pyN (S.nodes.getD i .non)) :=
  ed_ixT (ed_nodes Sh h hx) hf rfl (by rw [List.getElem?_map, getD_some (d := .non) hi]; rfl)
end
theorem RZ_wk {K : PySem.W.Frag} {a b : Addr} {as bs : List PyData} {H0 : Hp} (ha : TuD a as H0) (hb : TuD b bs H0) (hl : as.length = bs.length) : Wk (RZ.ItzT K a b) (fun H => TX H0 H) (List.zipWith (fun x y => .tuple [x, y]) as bs) where
  go := fun i H hi t => (wk_zipT hl).go i H hi ⟨ha.tx t, hb.tx t⟩
  stop := fun H t => (wk_zipT hl).stop H ⟨ha.tx t, hb.tx t⟩
  yld := fun i H x H' hi t y => (wk_zipT hl).yld i H x H' hi ⟨ha.tx t, hb.tx t⟩ y
section
variable {P : Program} {w : World} {K : PySem.W.Frag} {mg : Str → Option Value} {base : Heap}
/-! ### seen_node -/
theorem sc_seen : FnScope ["shape", "at"] ["shape", "at"] (defScope (top 20)) := ⟨rfl, rfl, rfl, by decide +kernel, rfl, by decide +kernel, by decide +kernel⟩
def spSeen (K : PySem.W.Frag) : Sp := fun vs H Q _ => ∃ (x : Addr) (S : Rw Str Str) (h : Ix), vs = [.ref x, .int (ixI h)] ∧ ShI K x S H ∧ (∀ i, h = some i → i < S.nodes.length) ∧ ∀ v H', Ex H H' → Tp H' v (pyN (ndO S.nodes h)) → Q v H'
theorem cal_seen (T : Nm K mg) (Sh : ShK K) (F : Df K (dG 20 "seen_node")) : Cal P w K mg base 1 "seen_node" ["shape", "at"] (spSeen K) := by
  refine cal_of T F (by decide +kernel) sc_seen (fun _ _ _ _ _ _ us hl => match us, hl with | [_, _], _ => rfl) (fun vs H Q E h => ?_) fun cdv A outer s H vs Q E hr h => ?_
  · obtain ⟨x, S, h, rfl, _⟩ := h
    rfl
  · obtain ⟨x, S, h, rfl, hx, hi, k⟩ := h
    refine ⟨_, (pss_one (ps_ret (pe_ifExp (q_eq (pv 1) (pe_un un_neg pe_int)) (pe_tup pa_nil) (q_ixT (pe_fld (pv 0) (by rfl)) (pv 1))))), ?_⟩
    refine s_retD (d := pyN (ndO S.nodes h)) (ed_if (et_test (ev_eqI (ev_var rfl) (ev_un ev_c ru_neg))) (fun hb => ?_) fun hb => ?_) fun v H1 e1 t1 => k v H1 e1 t1
    · have hh : h = none := by
        cases h with
        | none => rfl
        | some i => simp [ixI] at hb
      subst hh
      exact ed_tup ead_nil (by simp)
    · cases h with
      | none => simp [ixI] at hb
      | some i => exact ed_node Sh (ev_var rfl) hx (hi i rfl) (ev_var rfl)
theorem ed_seen {ta tb : TE} {σ : L2.St} {H : Hp} {x : Addr} {S : Rw Str Str} {h : Ix} (ha : Ev ta σ H (.ref x)) (hb : Ev tb σ H (.int (ixI h))) (hx : ShI K x S H) (hn : NmI S.nodes h) : EvD (tCall (spSeen K) [] E0 (tCons ta (tCons tb tNil))) σ H (pyN (ndO S.nodes h)) := fun H1 e Q q =>
  ha H1 e _ fun H2 e2 => hb H2 (e.trans e2) _ fun H3 e3 => ⟨x, S, h, rfl, hx.ex ((e.trans e2).trans e3), fun i hi => (hn i hi).1, fun v H4 e4 t => q v H4 ((e2.trans e3).trans e4) t⟩
theorem ed_nrm {ta tb : TE} {σ : L2.St} {H : Hp} {x : Addr} {S : Rw Str Str} {i : Nat} (Sh : ShK K) (ha : Ev ta σ H (.ref x)) (hb : Ev tb σ H (.int (i : Nat))) (hx : ShI K x S H) (ok : NsOk S.nodes) (hi : i < S.nodes.length) :
    EvD (tIf (tTest (tOp (rEqD K) (tOp (rIxT K) (tFld K ta "nodes") tb) (tTup tNil))) (tUn (rU fun i => .int (-i)) (tC (.int 1))) tb) σ H (.int (ixI (nrm S.nodes i))) := by
  refine ed_if (et_test (ev_eqD (ed_node Sh ha hx hi hb) (ed_tup ead_nil (by simp)) (pd_node (ok.at hi)).1 pd_nil)) (fun q => ?_) fun q => ?_
  · rw [pyN_nil] at q
    have : nrm S.nodes i = none := by
      unfold nrm
      cases z : S.nodes.getD i .non with
      | opn => rw [z] at q; simp [K49.isNon] at q
      | non => rfl
      | op f xs => rw [z] at q; simp [K49.isNon] at q
    rw [this]
    exact int_d (ev_un ev_c ru_neg)
  · rw [pyN_nil] at q
    have : nrm S.nodes i = some i := by
      unfold nrm
      cases z : S.nodes.getD i .non with
      | opn => rfl
      | non => rw [z] at q; simp [K49.isNon] at q
      | op f xs => rfl
    rw [this]
    exact int_d hb
/-! ### operand_pairs -/
theorem sc_pairs : FnScope ["one", "other", "pair", "mine", "theirs", "found", "here", "there"] ["one", "other", "pair"] (defScope (top 22)) := ⟨rfl, rfl, rfl, by decide +kernel, rfl, by decide +kernel, by decide +kernel⟩
def spPairs (K : PySem.W.Frag) : Sp := fun vs H Q _ => ∃ (x y : Addr) (v : V) (S1 S2 : Rw Str Str) (p : Ix × Ix), vs = [.ref x, .ref y, v] ∧ ShI K x S1 H ∧ ShI K y S2 H ∧ ShOk S1 ∧ ShOk S2 ∧ Tp H v (prD p) ∧ RepM S1.nodes S2.nodes p ∧
  (opp S1.nodes S2.nodes p = none → ∀ H', Ex H H' → Q .non H') ∧ ∀ inner, opp S1.nodes S2.nodes p = some inner → ∀ l H', H l = none → Ex H H' → LsD l (inner.map prD) H' → Q (.ref l) H'
theorem cal_pairs (T : Nm K mg) (Sh : ShK K) (F : Df K (dG 22 "operand_pairs")) (cS : Cal P w K mg base 1 "seen_node" ["shape", "at"] (spSeen K)) : Cal P w K mg base 2 "operand_pairs" ["one", "other", "pair"] (spPairs K) := by
  refine cal_of T F (by decide +kernel) sc_pairs (fun _ _ _ _ _ _ us hl => match us, hl with | [_, _, _], _ => rfl) (fun vs H Q E h => ?_) fun cdv A outer s H vs Q E hr h => ?_
  · obtain ⟨x, y, v, S1, S2, p, rfl, _⟩ := h
    rfl
  · obtain ⟨x, y, v, S1, S2, p, rfl, hx, hy, o1, o2, tp, hp, kn, ks⟩ := h
    have nd := sc_pairs.nd
    have hu := hr.units
    refine ⟨_, (pss_cons (ps_par (i := 3) (j := 4) rfl nd rfl rfl (by decide) rfl rfl (pa_cons (pe_cal cS (hr.mono (by decide)) (by rfl) (pa_cons (pv 0) (pa_cons (q_ixT (pv 2) pe_int) pa_nil))) (pa_cons (pe_cal cS (hr.mono (by decide)) (by rfl) (pa_cons (pv 1) (pa_cons (q_ixT (pv 2) pe_int) pa_nil))) pa_nil)) (by rfl)) (pss_cons (ps_if (PW.pt (pw_or (q_none (pv 3)) (pw_or (q_none (pv 4)) (pw_or (q_eqD hu (pv 3) (pe_tup pa_nil)) (pw_or1 (q_eqD hu (pv 4) (pe_tup pa_nil))))))) (pss_one (ps_ret pe_non)) pss_nil) (pss_cons (ps_if (PW.pt (pw_or (q_ne (q_ixT (pv 3) pe_int) (q_ixT (pv 4) pe_int)) (pw_or1 (q_ne (q_len T (pa_cons (q_ixT (pv 3) pe_int) pa_nil)) (q_len T (pa_cons (q_ixT (pv 4) pe_int) pa_nil)))))) (pss_one (ps_ret pe_non)) pss_nil) (pss_cons (ps_set (i := 5) nd rfl (Or.inl rfl) (pe_lst pa_nil)) (pss_cons (ps_for PassesOwn.never rfl (RZ.pi_zipA (by rfl) (T.f "zip") (pa_cons (q_ixT (pv 3) pe_int) (pa_cons (q_ixT (pv 4) pe_int) pa_nil))) (pg_tup rfl (pgs_cons (pg_name (i := 6) nd rfl (Or.inl rfl)) (pgs_cons (pg_name (i := 7) nd rfl (Or.inl rfl)) pgs_nil)))
        (pss_one (ps_expr (q_app (pv 5) (pa_cons (pe_tup (pa_cons (pe_ifExp (q_eqD hu (q_ixT (pe_fld (pv 0) (by rfl)) (pv 6)) (pe_tup pa_nil)) (pe_un un_neg pe_int) (pv 6)) (pa_cons (pe_ifExp (q_eqD hu (q_ixT (pe_fld (pv 1) (by rfl)) (pv 7)) (pe_tup pa_nil)) (pe_un un_neg pe_int) (pv 7)) pa_nil))) pa_nil))))) (pss_one (ps_ret (pv 5)))))))), ?_⟩
    have i2 : ∀ {j : Nat} {i : Int} {σ : L2.St} {H1 : Hp}, Ex H H1 → σ[2]? = some (some v) → ([ixI p.1, ixI p.2] : List Int)[j]? = some i → Ev (tOp (rIxT K) (tVar 2) (tC (.int (j : Nat)))) σ H1 (.int i) := fun {j i σ H1} e hσ hj =>
      d_int (ed_ixT (K := K) (ed_var hσ (tp.ex e)) ev_c rfl (by
        have : ([PyData.int (ixI p.1), PyData.int (ixI p.2)] : List PyData) = ([ixI p.1, ixI p.2] : List Int).map PyData.int := rfl
        rw [this, List.getElem?_map, hj]; rfl))
    refine q_seq ?_
    refine ed_seen (h := p.1) (ev_var rfl) (i2 (j := 0) (Ex.refl _) rfl rfl) hx hp.1 H (Ex.refl _) _ fun m H1 e1 t1 => ?_
    refine ed_seen (h := p.2) (ev_var rfl) (i2 (j := 1) e1 rfl rfl) (hy.ex e1) hp.2 H1 (Ex.refl _) _ fun n H2 e2 t2 => ⟨m, n, rfl, ?_⟩
    have n1 := ndO_ok o1.ns p.1
    have n2 := ndO_ok o2.ns p.2
    have m1 : EvD (tVar 3) [some (.ref x), some (.ref y), some v, some m, some n, none, none, none] H2 (pyN (ndO S1.nodes p.1)) := ed_var rfl (t1.ex e2)
    have m2 : EvD (tVar 4) [some (.ref x), some (.ref y), some v, some m, some n, none, none, none] H2 (pyN (ndO S2.nodes p.2)) := ed_var rfl t2
    have e12 := e1.trans e2
    refine s_if (et_is (b := !(K49.isOp (ndO S1.nodes p.1) && K49.isOp (ndO S2.nodes p.2))) (et_or (et_B (ev_isNo m1)) fun _ => et_or (et_B (ev_isNo m2)) fun _ => et_or (et_test (ev_eqD m1 (ed_tup ead_nil (by simp)) (pd_node n1).1 pd_nil)) fun _ => et_test (ev_eqD m2 (ed_tup ead_nil (by simp)) (pd_node n2).1 pd_nil)) ?_) (fun hb H3 e3 => ?_) fun hb H3 e3 => ?_
    · rw [pyN_none, pyN_none, pyN_nil, pyN_nil]
      cases ndO S1.nodes p.1 <;> cases ndO S2.nodes p.2 <;> rfl
    · refine s_ret ev_c fun H4 e4 => kn ?_ H4 ((e12.trans e3).trans e4)
      unfold opp
      cases q1 : ndO S1.nodes p.1 <;> cases q2 : ndO S2.nodes p.2 <;> first | rfl | (rw [q1, q2] at hb; simp [K49.isOp] at hb)
    · cases q1 : ndO S1.nodes p.1 with
      | opn => rw [q1] at hb; simp [K49.isOp] at hb
      | non => rw [q1] at hb; simp [K49.isOp] at hb
      | op f xs =>
        cases q2 : ndO S2.nodes p.2 with
        | opn => rw [q1, q2] at hb; simp [K49.isOp] at hb
        | non => rw [q1, q2] at hb; simp [K49.isOp] at hb
        | op g ys =>
          have kx : ∀ z ∈ xs, z < S1.nodes.length := K49.ndO_kids o1.can.wf hp.1 q1
          have ky : ∀ z ∈ ys, z < S2.nodes.length := K49.ndO_kids o2.can.wf hp.2 q2
          rw [q1] at m1 n1
          rw [q2] at m2 n2
          have m1 := m1.mono e3
          have m2 := m2.mono e3
          have a0 := ed_ixT (K := K) m1 (ev_c (v := .int 0)) (j := 0) rfl rfl
          have b0 := ed_ixT (K := K) m2 (ev_c (v := .int 0)) (j := 0) rfl rfl
          have a1 := ed_ixT (K := K) m1 (ev_c (v := .int 1)) (j := 1) rfl rfl
          have b1 := ed_ixT (K := K) m2 (ev_c (v := .int 1)) (j := 1) rfl rfl
          have e13 := e12.trans e3
          refine s_if (et_is (b := !decide (f = g ∧ xs.length = ys.length)) (et_or (et_test (ev_neS (d_str a0) (d_str b0))) fun _ => et_test (ev_neI (ev_lenD a1) (ev_lenD b1))) ?_) (fun hb2 H4 e4 => ?_) fun hb2 H4 e4 => ?_
          · rw [List.length_map, List.length_map]
            have : ((xs.length : Int) = (ys.length : Int)) ↔ xs.length = ys.length := by omega
            rw [show decide ((xs.length : Int) = (ys.length : Int)) = decide (xs.length = ys.length) from decide_eq_decide.mpr this]
            by_cases c1 : f = g <;> by_cases c2 : xs.length = ys.length <;> simp [c1, c2]
          · refine s_ret ev_c fun H5 e5 => kn ?_ H5 ((e13.trans e4).trans e5)
            unfold opp
            rw [q1, q2]
            have : ¬ (f = g ∧ xs.length = ys.length) := fun z => by rw [decide_eq_true z] at hb2; cases hb2
            simp only [if_neg this]
          · have hc : f = g ∧ xs.length = ys.length := by simpa using hb2
            have hopp : opp S1.nodes S2.nodes p = some (List.zipWith (fun x y => (nrm S1.nodes x, nrm S2.nodes y)) xs ys) := by
              unfold opp
              rw [q1, q2]
              simp only [if_pos hc]
            refine q_seq ?_
            refine ⟨Nat.zero_le _, fun l hl => ?_⟩
            have e14 := e13.trans e4
            have e15 : Ex H (L2.upd H4 l (.lst [])) := e14.trans (Ex.new hl)
            have hl0 : H l = none := fresh_back e14 hl
            have eN : Ex H3 (L2.upd H4 l (.lst [])) := e4.trans (Ex.new hl)
            have a1' : EvD (tOp (rIxT K) (tVar 3) (tC (.int 1))) [some (.ref x), some (.ref y), some v, some m, some n, some (.ref l), none, none] (L2.upd H4 l (.lst [])) (.tuple (xs.map fun i => .int (i : Nat))) := by
              refine ed_ixT (d := .tuple (xs.map fun i => .int (i : Nat))) (ed_var rfl (?_ : Tp _ m (pyN (.op f xs)))) ev_c (j := 1) rfl rfl
              rw [← q1]; exact (t1.ex e2).ex (e3.trans eN)
            have b1' : EvD (tOp (rIxT K) (tVar 4) (tC (.int 1))) [some (.ref x), some (.ref y), some v, some m, some n, some (.ref l), none, none] (L2.upd H4 l (.lst [])) (.tuple (ys.map fun i => .int (i : Nat))) := by
              refine ed_ixT (d := .tuple (ys.map fun i => .int (i : Nat))) (ed_var rfl (?_ : Tp _ n (pyN (.op g ys)))) ev_c (j := 1) rfl rfl
              rw [← q2]; exact t2.ex (e3.trans eN)
            refine a1' _ (Ex.refl _) _ fun u1 H5 e5 s1 => b1' H5 e5 _ fun u2 H6 e6 s2 => ?_
            obtain ⟨pa, as, rfl, ha, tas⟩ := (s1.ex e6).inv_tup
            obtain ⟨pb, bs, rfl, hb', tbs⟩ := s2.inv_tup
            refine ⟨pa, pb, as, bs, rfl, .inr ⟨SqT.of ha, SqT.of hb', ?_⟩⟩
            have e56 := e5.trans e6
            have hl6 : H6 l = some (.lst []) := e56 _ _ upd_same
            have e36 := eN.trans e56
            have tXs : TuD pa (xs.map fun i => .int (i : Nat)) H6 := ⟨as, ha, tas⟩
            have tYs : TuD pb (ys.map fun i => .int (i : Nat)) H6 := ⟨bs, hb', tbs⟩
            have npl : ∀ {a es}, TuD a es H6 → a ≠ l := fun {a es} ⟨zs, hz, _⟩ q => by rw [q, hl6] at hz; cases hz
            refine for_wk (RZ_wk (K := K) tXs tYs (by rw [List.length_map, List.length_map]; exact hc.2)) (fun i σ H7 => TX H6 H7 ∧ ExB l H6 H7 ∧ Ex H H7 ∧ ∃ (zs : List V) (v6 v7 : Option V), H7 l = some (.lst zs) ∧ TpL H7 zs (((List.zipWith (fun x y => (nrm S1.nodes x, nrm S2.nodes y)) xs ys).take i).map prD) ∧
              σ = [some (.ref x), some (.ref y), some v, some m, some n, some (.ref l), v6, v7]) ⟨fun _ _ h => h, fun _ _ _ h => h, e15.trans e56, [], none, none, hl6, .nil, rfl⟩ (fun i σ H7 _ p => p.1) ?_ ?_
            · rintro i σ H7 z H8 e he ⟨t7, b7, e7, zs, v6, v7, hl7, tz, rfl⟩ e8 tp'
              rw [List.getElem?_zipWith, List.getElem?_map, List.getElem?_map] at he
              cases qx : xs[i]? with
              | none => rw [qx] at he; cases he
              | some x0 =>
                cases qy : ys[i]? with
                | none => rw [qx, qy] at he; cases he
                | some y0 =>
                  rw [qx, qy] at he
                  cases he
                  refine g_tup2 tp' fun w1 w2 s1 s2 => ?_
                  have := s1.inv_int
                  subst this
                  have := s2.inv_int
                  subst this
                  have hlx := kx x0 (List.mem_of_getElem? qx)
                  have hly := ky y0 (List.mem_of_getElem? qy)
                  have hx8 := hx.ex (e7.trans e8)
                  have hy8 := hy.ex (e7.trans e8)
                  refine s_appD (d := prD (nrm S1.nodes x0, nrm S2.nodes y0)) (e8 _ _ hl7) (ev_var rfl) (ed_tup (ead_cons (ed_nrm Sh (ev_var rfl) (ev_var rfl) hx8 o1.ns hlx) (ead_cons (ed_nrm Sh (ev_var rfl) (ev_var rfl) hy8 o2.ns hly) ead_nil)) (by simp)) ?_ fun u H9 e9 tu => ?_
                  · rw [tz.length, List.length_map, List.length_take, List.length_zipWith]
                    have := n1.2.1
                    omega
                  · have e89 := e8.trans e9
                    have up : TX H9 (L2.upd H9 l (.lst (zs ++ [u]))) := TX.upd_lst (e89 _ _ hl7)
                    refine ⟨(t7.trans (Ex.tx e89)).trans up, fun c o hc ho => ?_, Ex.mut (e7.trans e89) hl0, zs ++ [u], _, _, upd_same, ?_, rfl⟩
                    · rw [upd_ne hc]; exact e89 _ _ (b7 c o hc ho)
                    · have hz : (List.zipWith (fun x y => (nrm S1.nodes x, nrm S2.nodes y)) xs ys)[i]? = some (nrm S1.nodes x0, nrm S2.nodes y0) := by rw [List.getElem?_zipWith, qx, qy]
                      rw [List.take_succ_eq_append_getElem (List.getElem?_eq_some_iff.mp hz).1, (List.getElem?_eq_some_iff.mp hz).2, List.map_append]
                      exact TpL.snoc ((tz.ex e89).tx up) (tu.tx up)
            · rintro σ H7 ⟨_, _, e7, zs, v6, v7, hl7, tz, rfl⟩
              dsimp only
              refine s_ret (ev_var rfl) fun H8 e8 => ks _ hopp l H8 hl0 (e7.trans e8) ⟨zs, e8 _ _ hl7, ?_⟩
              have : (List.zipWith (fun x y => PyData.tuple [x, y]) (xs.map fun i => PyData.int (i : Nat)) (ys.map fun i => PyData.int (i : Nat))).length = (List.zipWith (fun x y => (nrm S1.nodes x, nrm S2.nodes y)) xs ys).length := by simp
              rw [this, List.take_length] at tz
              exact tz.ex e8
end
end K49W

-- part K49F12
namespace K49W
open PySem PySem.Spec PyProof.Rows L2 Evl
open K49 (Nd Rw WfN RT val Ix ndO tmO nrm NmI RepM opp innM Can joined ndM)
theorem putK_keys {κ : Type} [DecidableEq κ] (kvs : List (κ × V)) (k : κ) (v : V) : (putK kvs k v).map (·.1) = if k ∈ kvs.map (·.1) then kvs.map (·.1) else kvs.map (·.1) ++ [k] := by
  by_cases h : k ∈ kvs.map (·.1)
  · rw [if_pos h]
    unfold putK
    have : (kvs.any fun kv => decide (kv.1 = k)) = true := by
      obtain ⟨p, hp, e⟩ := List.mem_map.mp h
      exact List.any_eq_true.mpr ⟨p, hp, decide_eq_true e⟩
    rw [if_pos this, List.map_map]
    refine List.map_congr_left fun p _ => ?_
    show (if p.1 = k then (p.1, v) else p).1 = p.1
    split <;> rfl
  · rw [if_neg h, putK_new _ (valV_notin h), List.map_append]; rfl
theorem mergeK_keys : ∀ (rows : List (Str × Nat)) (kvs : List (Key × V)) (ks0 : List Str), kvs.map (·.1) = ks0.map Sum.inr → ks0.Nodup → ∃ ks : List Str, (mergeK kvs (kvP rows)).map (·.1) = ks.map Sum.inr ∧ ks.Nodup ∧ ∀ n, n ∈ ks ↔ n ∈ ks0 ∨ n ∈ rows.map (·.1)
  | [], kvs, ks0, h, hn => ⟨ks0, h, hn, fun n => by simp⟩
  | r :: rows, kvs, ks0, h, hn => by
    have e : mergeK kvs (kvP (r :: rows)) = mergeK (putK kvs (Sum.inr r.1) (V.int (r.2 : Nat))) (kvP rows) := rfl
    rw [e]
    have hk := putK_keys kvs (Sum.inr r.1 : Key) (V.int (r.2 : Nat))
    rw [h] at hk
    have hm : (Sum.inr r.1 : Key) ∈ ks0.map Sum.inr ↔ r.1 ∈ ks0 := by simp
    by_cases q : r.1 ∈ ks0
    · rw [if_pos (hm.mpr q)] at hk
      obtain ⟨ks, k1, k2, k3⟩ := mergeK_keys rows _ ks0 hk hn
      refine ⟨ks, k1, k2, fun n => ?_⟩
      rw [k3 n, List.map_cons, List.mem_cons]
      constructor
      · rintro (a | a)
        · exact .inl a
        · exact .inr (.inr a)
      · rintro (a | rfl | a)
        · exact .inl a
        · exact .inl q
        · exact .inr a
    · rw [if_neg (fun z => q (hm.mp z))] at hk
      have hk2 : (putK kvs (Sum.inr r.1) (V.int (r.2 : Nat))).map (·.1) = (ks0 ++ [r.1]).map Sum.inr := by rw [hk, List.map_append]; rfl
      obtain ⟨ks, k1, k2, k3⟩ := mergeK_keys rows _ (ks0 ++ [r.1]) hk2 (List.nodup_append.mpr ⟨hn, by simp, fun a ha b hb => by
        have : b = r.1 := by simpa using hb
        subst this
        rintro rfl
        exact q ha⟩)
      refine ⟨ks, k1, k2, fun n => ?_⟩
      rw [k3 n, List.map_cons, List.mem_cons, List.mem_append, List.mem_singleton, or_assoc]
theorem joined_ord {r1 r2 : List (Str × Nat)} {ks : List Str} (h : ∀ n, n ∈ ks ↔ n ∈ r1.map (·.1) ∨ n ∈ r2.map (·.1)) : (ordN ks).map (fun n => (n, (lkp r1 n, lkp r2 n))) = joined VN r1 r2 := by
  unfold ordN joined
  rw [← filterMap_if]
  congr 1
  funext n
  have e1 : r1.lookup n = lkp r1 n := rfl
  have e2 : r2.lookup n = lkp r2 n := rfl
  rw [e1, e2]
  have hh := h n
  have i1 : n ∈ r1.map (·.1) ↔ lkp r1 n ≠ none := ⟨fun m z => lkp_none.mp z m, fun z => Classical.byContradiction fun m => z (lkp_none.mpr m)⟩
  have i2 : n ∈ r2.map (·.1) ↔ lkp r2 n ≠ none := ⟨fun m z => lkp_none.mp z m, fun z => Classical.byContradiction fun m => z (lkp_none.mpr m)⟩
  rw [i1, i2] at hh
  by_cases c : lkp r1 n = none ∧ lkp r2 n = none
  · have : n ∉ ks := fun m => (hh.mp m).elim (fun z => z c.1) fun z => z c.2
    simp [this, c]
  · have : n ∈ ks := hh.mpr (by
      by_cases c1 : lkp r1 n = none
      · exact .inr fun c2 => c ⟨c1, c2⟩
      · exact .inl c1)
    rw [if_pos (by simpa using this), if_neg c]
section
variable {P : Program} {w : World} {K : PySem.W.Frag} {mg : Str → Option Value} {base : Heap}
/-! ### joined_sides -/
theorem sc_joined : FnScope ["mine", "theirs", "found", "name"] ["mine", "theirs"] (defScope (top 21)) := ⟨rfl, rfl, rfl, by decide +kernel, rfl, by decide +kernel, by decide +kernel⟩
structure SdOk (r : List (Str × Nat)) : Prop where
  nd : (r.map (·.1)).Nodup
  vn : ∀ x ∈ r, x.1 ∈ VN
theorem SdOk.len {r : List (Str × Nat)} (h : SdOk r) : r.length ≤ 3 := by
  have := K49.nodup_len h.nd (r := VN) fun a ha => by
    obtain ⟨x, hx, rfl⟩ := List.mem_map.mp ha
    exact h.vn x hx
  simpa [VN] using this
def spJoined : Sp := fun vs H Q _ => ∃ (d e : Addr) (r1 r2 : List (Str × Nat)), vs = [.ref d, .ref e] ∧ H d = some (.dK (kvP r1)) ∧ H e = some (.dK (kvP r2)) ∧ SdOk r1 ∧ SdOk r2 ∧
  ∀ l H', H l = none → Ex H H' → LsD l ((joined VN r1 r2).map rowD) H' → Q (.ref l) H'
theorem ed_lk {σ : L2.St} {H : Hp} {d : Addr} {i j : Nat} {r : List (Str × Nat)} {n : Str} (hi : σ[i]? = some (some (.ref d))) (hj : σ[j]? = some (some (.str n))) (hd : H d = some (.dK (kvP r))) :
    EvD (tIf (tB (tDIn (tVar j) (tVar i))) (tDGet (tVar i) (tVar j)) (tUn (rU fun i => .int (-i)) (tC (.int 1)))) σ H (.int (ixI (lkp r n))) := by
  refine ed_if (et_B (ev_din (k := Sum.inr n) rfl (ev_var hj) (ev_var hi) hd)) (fun q => ?_) fun q => ?_
  · rw [kvP_val] at q
    cases z : lkp r n with
    | none => rw [z] at q; cases q
    | some k => exact int_d (ev_dget (k := Sum.inr n) rfl (ev_var hi) (ev_var hj) hd (by rw [kvP_val, z]; rfl))
  · rw [kvP_val] at q
    cases z : lkp r n with
    | none => exact int_d (ev_un ev_c ru_neg)
    | some k => rw [z] at q; cases q
theorem cal_joined (T : Nm K mg) (F : Df K (dG 21 "joined_sides")) (cO : Cal P w K mg base 1 "ordered" ["places"] spOrdered) : Cal P w K mg base 2 "joined_sides" ["mine", "theirs"] spJoined := by
  refine cal_of T F (by decide +kernel) sc_joined (fun _ _ _ _ _ _ us hl => match us, hl with | [_, _], _ => rfl) (fun vs H Q E h => ?_) fun cdv A outer s H vs Q E hr h => ?_
  · obtain ⟨d, e, r1, r2, rfl, _⟩ := h
    rfl
  · obtain ⟨d, e, r1, r2, rfl, h1, h2, o1, o2, k⟩ := h
    have nd := sc_joined.nd
    have hu := hu_of hr
    refine ⟨_, (pss_cons (ps_set (i := 2) nd rfl (Or.inl rfl) (pe_lst pa_nil)) (pss_cons (ps_for PassesOwn.never rfl (pi_list (pe_cal cO (hr.mono (by decide)) (by rfl) (pa_cons (pe_dstar (pv 0) (pv 1)) pa_nil))) (pg_name (i := 3) nd rfl (Or.inl rfl))
        (pss_one (ps_expr (q_app (pv 2) (pa_cons (pe_tup (pa_cons (pv 3) (pa_cons (pe_ifExp (pt_cmp (pc_din hu (pv 3) (pv 0))) (pe_dget hu (pv 0) (pv 3) (fun _ _ => rfl)) (pe_un un_neg pe_int)) (pa_cons (pe_ifExp (pt_cmp (pc_din hu (pv 3) (pv 1))) (pe_dget hu (pv 1) (pv 3) (fun _ _ => rfl)) (pe_un un_neg pe_int)) pa_nil)))) pa_nil))))) (pss_one (ps_ret (pv 2))))), ?_⟩
    refine ⟨Nat.zero_le _, fun l hl => ?_⟩
    have e1 : Ex H (L2.upd H l (.lst [])) := Ex.new hl
    have hl1 : (L2.upd H l (.lst [])) l = some (.lst []) := upd_same
    generalize L2.upd H l (.lst []) = H1 at *
    have g1 := e1 _ _ h1
    have g2 := e1 _ _ h2
    refine q_seq ?_
    intro D hD
    have n1 : d ≠ D := ne_of_none g1 hD
    have n2 : e ≠ D := ne_of_none g2 hD
    obtain ⟨k0, a1, a2, a3⟩ := mergeK_keys r1 [] [] rfl List.nodup_nil
    obtain ⟨ks, b1, b2, b3⟩ := mergeK_keys r2 _ k0 a1 a2
    have c3 : ∀ n, n ∈ ks ↔ n ∈ r1.map (·.1) ∨ n ∈ r2.map (·.1) := fun n => by
      rw [b3 n, a3 n]; simp
    have l1 := o1.len
    have l2 := o2.len
    refine ⟨_, rfl, d, kvP r1, rfl, n1, by rw [upd_ne n1]; exact g1, upd_same, by unfold kvP; rw [List.length_map]; omega, _, rfl, e, kvP r2, rfl, n2, by rw [upd_ne n2, upd_ne n2]; exact g2, upd_same, by unfold kvP; rw [List.length_map]; omega, ?_⟩
    refine ⟨D, _, ks, rfl, upd_same, b1, fun n hn => ?_, b2, fun p H2 hp e2 hH2 => ?_⟩
    · rcases (c3 n).mp hn with m | m
      · obtain ⟨x, hx, rfl⟩ := List.mem_map.mp m
        exact o1.vn x hx
      · obtain ⟨x, hx, rfl⟩ := List.mem_map.mp m
        exact o2.vn x hx
    · have e12 : Ex H1 H2 := (Ex.mut (Ex.mut (Ex.mut (Ex.refl H1) hD) hD) hD).trans e2
      have ht : TpL H2 ((ordN ks).map V.str) ((ordN ks).map PyData.str) := by
        generalize ordN ks = zs
        induction zs with
        | nil => exact .nil
        | cons z r ih => exact .cons (.str z) ih
      have npl : p ≠ l := fun z => by
        have hl2 : (L2.upd (L2.upd (L2.upd H1 D (.dK [])) D (.dK (mergeK [] (kvP r1)))) D (.dK (mergeK (mergeK [] (kvP r1)) (kvP r2)))) l = some (.lst []) := by
          have : l ≠ D := ne_of_none hl1 hD
          rw [upd_ne this, upd_ne this, upd_ne this]; exact hl1
        rw [z, hl2] at hp; cases hp
      refine ⟨p, rfl, ⟨_, SqL.of hH2⟩, for_wk (wk_list (K := K) (a := p) (es := (ordN ks).map PyData.str)) (fun i σ H3 => Ex H H3 ∧ H3 p = some (.lst ((ordN ks).map V.str)) ∧ ∃ (xs : List V) (v3 : Option V), H3 l = some (.lst xs) ∧ TpL H3 xs (((ordN ks).take i).map fun n => rowD (n, (lkp r1 n, lkp r2 n))) ∧
        σ = [some (.ref d), some (.ref e), some (.ref l), v3]) ⟨e1.trans e12, hH2, [], none, e12 _ _ hl1, .nil, rfl⟩ (fun i σ H3 _ q => ⟨_, q.2.1, ?_⟩) ?_ ?_⟩
      · have : ∀ (zs : List Str), TpL H3 (zs.map V.str) (zs.map PyData.str) := fun zs => by
          induction zs with
          | nil => exact .nil
          | cons z r ih => exact .cons (.str z) ih
        exact this _
      · rintro i σ H3 x H4 y hy ⟨e3, hp3, xs, v3, hl3, tx, rfl⟩ e4 t
        rw [List.getElem?_map] at hy
        cases qn : (ordN ks)[i]? with
        | none => rw [qn] at hy; cases hy
        | some n =>
          rw [qn] at hy
          cases hy
          have := t.inv_str
          subst this
          have e34 := e3.trans e4
          refine s_appD (d := rowD (n, (lkp r1 n, lkp r2 n))) (e4 _ _ hl3) (ev_var rfl) (ed_tup (ead_cons (ed_var rfl t) (ead_cons (ed_lk rfl rfl (e34 _ _ h1)) (ead_cons (ed_lk rfl rfl (e34 _ _ h2)) ead_nil))) (by simp)) ?_ fun u H5 e5 tu => ?_
          · rw [tx.length, List.length_map, List.length_take]
            have : (ordN ks).length ≤ 3 := Nat.le_trans (List.length_filter_le _ _) (by decide)
            omega
          · have e45 := e4.trans e5
            have up : TX H5 (L2.upd H5 l (.lst (xs ++ [u]))) := TX.upd_lst (e45 _ _ hl3)
            refine ⟨Ex.mut (e34.trans e5) hl, by rw [upd_ne npl]; exact e45 _ _ hp3, xs ++ [u], _, upd_same, ?_, rfl⟩
            rw [List.take_succ_eq_append_getElem (List.getElem?_eq_some_iff.mp qn).1, (List.getElem?_eq_some_iff.mp qn).2, List.map_append]
            exact TpL.snoc ((tx.ex e45).tx up) (tu.tx up)
      · rintro σ H3 ⟨e3, hp3, xs, v3, hl3, tx, rfl⟩
        dsimp only
        refine s_ret (ev_var rfl) fun H4 e4 => k l H4 hl (e3.trans e4) ⟨xs, e4 _ _ hl3, ?_⟩
        rw [List.length_map, List.take_length] at tx
        have := tx.ex e4
        rw [← joined_ord c3, List.map_map]
        exact this
end
end K49W

-- part K49F13
namespace K49W
open PySem PySem.Spec PyProof.Rows L2 Evl
open K49 (Nd Rw WfN RT val Ix ndO tmO nrm NmI RepM gM opp innM Can joined ndM OrdOk runN)
/-! ### pairs as keys -/
def kP (p : Ix × Ix) : List Key := [Sum.inl (ixI p.1), Sum.inl (ixI p.2)]
theorem kP_inj {p q : Ix × Ix} (h : kP p = kP q) : p = q := by
  unfold kP at h
  injection h with h1 h2
  injection h2 with h2 _
  injection h1 with h1
  injection h2 with h2
  exact Prod.ext (ixI_inj h1) (ixI_inj h2)
def knK (acc : List (Ix × Ix)) : List (List Key × V) := posK (acc.map kP)
theorem mem_kP {h : Ix × Ix} {acc : List (Ix × Ix)} : kP h ∈ acc.map kP ↔ h ∈ acc := by
  constructor
  · intro m
    obtain ⟨x, hx, e⟩ := List.mem_map.mp m
    have := kP_inj e
    subst this; exact hx
  · intro m; exact List.mem_map.mpr ⟨h, m, rfl⟩
theorem knK_val (h : Ix × Ix) (acc : List (Ix × Ix)) : valV (knK acc) (kP h) = if h ∈ acc then some (.int ((K49.pos acc h : Nat) : Int)) else none := by
  unfold knK
  rw [posK_val]
  by_cases m : h ∈ acc
  · rw [if_pos m, if_pos (mem_kP.mpr m)]
    have : K49.pos (acc.map kP) (kP h) = K49.pos acc h := K49.idxOf_map (P := fun _ => True) (fun _ _ _ _ e => kP_inj e) trivial fun _ _ => trivial
    rw [this]
  · rw [if_neg m, if_neg fun z => m (mem_kP.mp z)]
theorem knK_some (h : Ix × Ix) (acc : List (Ix × Ix)) : (valV (knK acc) (kP h)).isSome = decide (h ∈ acc) := by
  rw [knK_val]
  by_cases m : h ∈ acc <;> simp [m]
theorem knK_put {acc : List (Ix × Ix)} {h : Ix × Ix} (m : h ∉ acc) : putK (knK acc) (kP h) (V.int (acc.length : Nat)) = knK (acc ++ [h]) := by
  unfold knK
  rw [List.map_append]
  have := posK_put (ks := acc.map kP) (k := kP h) fun z => m (mem_kP.mp z)
  rw [List.length_map] at this
  exact this
theorem knK_len (acc : List (Ix × Ix)) : (knK acc).length = acc.length := by unfold knK; rw [posK_len, List.length_map]
section
variable {te tf tv : TE} {σ : L2.St} {H : Hp} {d : Addr} {kvs : List (List Key × V)} {p : Ix × Ix} {v : V}
theorem tp_pr (t : Tp H v (prD p)) : ∃ b, v = .ref b ∧ H b = some (.tup ((kP p).map kV)) := by
  obtain ⟨b, xs, rfl, hb, tx⟩ := t.inv_tup
  have := TpL.ints (is := [ixI p.1, ixI p.2]) tx
  subst this
  exact ⟨b, rfl, hb⟩
theorem ev_dinT (h : EvD te σ H (prD p)) (h2 : Ev tf σ H (.ref d)) (hd : H d = some (.dT kvs)) : Ev (tDIn te tf) σ H (.bl (valV kvs (kP p)).isSome) := fun H1 e Q q =>
  h H1 e _ fun y H2 e2 t => h2 H2 (e.trans e2) _ fun H3 e3 => by
    obtain ⟨b, rfl, hb⟩ := tp_pr (t.ex e3)
    exact ⟨d, _, rfl, DGet.t (k := kP p) (e3 _ _ (e2 _ _ (e _ _ hd))) hb, q H3 (e2.trans e3)⟩
theorem ev_dninT (h : EvD te σ H (prD p)) (h2 : Ev tf σ H (.ref d)) (hd : H d = some (.dT kvs)) : Ev (tDNotIn te tf) σ H (.bl (!(valV kvs (kP p)).isSome)) := fun H1 e Q q =>
  h H1 e _ fun y H2 e2 t => h2 H2 (e.trans e2) _ fun H3 e3 => by
    obtain ⟨b, rfl, hb⟩ := tp_pr (t.ex e3)
    exact ⟨d, _, rfl, DGet.t (k := kP p) (e3 _ _ (e2 _ _ (e _ _ hd))) hb, q H3 (e2.trans e3)⟩
theorem ev_dgetT {u : V} (h : Ev te σ H (.ref d)) (h2 : EvD tf σ H (prD p)) (hd : H d = some (.dT kvs)) (hv : valV kvs (kP p) = some u) : Ev (tDGet te tf) σ H u := fun H1 e Q q =>
  h H1 e _ fun H2 e2 => h2 H2 (e.trans e2) _ fun y H3 e3 t => by
    obtain ⟨b, rfl, hb⟩ := tp_pr t
    exact ⟨d, u, rfl, by rw [← hv]; exact DGet.t (k := kP p) (e3 _ _ (e2 _ _ (e _ _ hd))) hb, q H3 (e2.trans e3)⟩
theorem s_dputT {D : Ends} {u : V} (hv : Ev tv σ H u) (h : Ev te σ H (.ref d)) (h2 : EvD tf σ H (prD p)) (hd : H d = some (.dT kvs)) (hz : kvs.length < 100000) (kk : ∀ H1, Ex H H1 → D.nx σ (L2.upd H1 d (.dT (putK kvs (kP p) u)))) : sDPut te tf tv D σ H :=
  hv H (Ex.refl H) _ fun H1 e1 => h H1 e1 _ fun H2 e2 => h2 H2 (e1.trans e2) _ fun y H3 e3 t => by
    obtain ⟨b, rfl, hb⟩ := tp_pr t
    exact ⟨d, _, rfl, DPut.t (k := kP p) (e3 _ _ (e2 _ _ (e1 _ _ hd))) hb (sz_lt hz), kk H3 ((e1.trans e2).trans e3)⟩
end
theorem pos_front {α : Type} [DecidableEq α] {acc l : List α} {q : α} (h : q ∈ acc) : K49.pos (acc ++ l) q = K49.pos acc q := by
  unfold K49.pos
  rw [List.idxOf_append, if_pos h]
theorem ev_isNv {ta : TE} {σ : L2.St} {H : Hp} {v : V} (h : Ev ta σ H v) : Ev (tIsN ta) σ H (.bl (decide (v = .non))) := fun H1 e Q q => h H1 e _ fun H2 e2 => q H2 e2
section
variable {n1 n2 : List (Nd Str)}
theorem ndM_opn {acc : List (Ix × Ix)} {p : Ix × Ix} (h : opp n1 n2 p = none) (hn : (K49.isNon (ndO n1 p.1) && K49.isNon (ndO n2 p.2)) = false) : ndM n1 n2 acc p = .opn := by
  unfold ndM
  cases q1 : ndO n1 p.1 <;> cases q2 : ndO n2 p.2 <;> rw [q1, q2] at hn <;> first | (simp [K49.isNon] at hn; done) | (rw [h]; done) | rfl | (simp only [h]; done)
theorem ndM_front {acc l : List (Ix × Ix)} {p : Ix × Ix} (h : ∀ z ∈ innM n1 n2 p, z ∈ acc) : ndM n1 n2 (acc ++ l) p = ndM n1 n2 acc p := by
  unfold ndM
  unfold innM at h
  have pf : ∀ q ∈ acc, K49.pos (acc ++ l) q = K49.pos acc q := fun q hq => pos_front hq
  cases q1 : ndO n1 p.1 <;> cases q2 : ndO n2 p.2 <;> first | rfl | skip
  all_goals
    cases q3 : opp n1 n2 p with
    | none => rfl
    | some inner =>
      rw [q3] at h
      simp only
      congr 1
      exact List.map_congr_left fun q hq => pf q (h q hq)
end
section
variable {P : Program} {w : World} {K : PySem.W.Frag} {mg : Str → Option Value} {base : Heap}
/-! ### met_node -/
theorem sc_met : FnScope ["one", "other", "pair", "known", "inner", "row"] ["one", "other", "pair", "known"] (defScope (top 23)) := ⟨rfl, rfl, rfl, by decide +kernel, rfl, by decide +kernel, by decide +kernel⟩
def spMet (K : PySem.W.Frag) : Sp := fun vs H Q _ => ∃ (x y dk : Addr) (v : V) (S1 S2 : Rw Str Str) (p : Ix × Ix) (ord : List (Ix × Ix)), vs = [.ref x, .ref y, v, .ref dk] ∧ ShI K x S1 H ∧ ShI K y S2 H ∧ ShOk S1 ∧ ShOk S2 ∧ Tp H v (prD p) ∧ RepM S1.nodes S2.nodes p ∧
  H dk = some (.dT (knK ord)) ∧ (∀ z ∈ innM S1.nodes S2.nodes p, z ∈ ord) ∧ ∀ u H', Ex H H' → Tp H' u (pyN (ndM S1.nodes S2.nodes ord p)) → Q u H'
theorem cal_met (T : Nm K mg) (Sh : ShK K) (F : Df K (dG 23 "met_node")) (cS : Cal P w K mg base 1 "seen_node" ["shape", "at"] (spSeen K)) (cP : Cal P w K mg base 2 "operand_pairs" ["one", "other", "pair"] (spPairs K)) : Cal P w K mg base 3 "met_node" ["one", "other", "pair", "known"] (spMet K) := by
  refine cal_of T F (by decide +kernel) sc_met (fun _ _ _ _ _ _ us hl => match us, hl with | [_, _, _, _], _ => rfl) (fun vs H Q E h => ?_) fun cdv A outer s H vs Q E hr h => ?_
  · obtain ⟨x, y, dk, v, S1, S2, p, ord, rfl, _⟩ := h
    rfl
  · obtain ⟨x, y, dk, v, S1, S2, p, ord, rfl, hx, hy, o1, o2, tp, hp, hk, hin, k⟩ := h
    have nd := sc_met.nd
    have hu := hu_of hr
    refine ⟨_, (pss_cons (ps_if (PW.pt (pw_and (q_eqD hr.units (pe_cal cS (hr.mono (by decide)) (by rfl) (pa_cons (pv 0) (pa_cons (q_ixT (pv 2) pe_int) pa_nil))) (pe_tup pa_nil)) (pw_and1 (q_eqD hr.units (pe_cal cS (hr.mono (by decide)) (by rfl) (pa_cons (pv 1) (pa_cons (q_ixT (pv 2) pe_int) pa_nil))) (pe_tup pa_nil))))) (pss_one (ps_ret (pe_tup pa_nil))) pss_nil) (pss_cons (ps_set (i := 4) nd rfl (Or.inl rfl) (pe_cal cP (hr.mono (by decide)) (by rfl) (pa_cons (pv 0) (pa_cons (pv 1) (pa_cons (pv 2) pa_nil))))) (pss_cons (ps_if (q_none (pv 4)) (pss_one (ps_ret pe_non)) pss_nil) (pss_one (ps_ret (pe_tup (pa_cons (q_ixT (q_ixT (pe_fld (pv 0) (by rfl)) (q_ixT (pv 2) pe_int)) pe_int) (pa_cons (q_tuple T (pa_cons (pe_lc (own := [("row", 5)]) (g := gName 5) (tt := tYes) (te := tDGet (tVar 3) (tVar 5)) rfl nd (pi_list (pv 4)) (blkOk_by (N := ["one", "other", "pair", "known", "inner", "row"]) (sc := defScope (top 23)) (by decide +kernel))
          (fun _ _ _ _ _ => pg_name (i := 5) nd rfl (Or.inl rfl)) (fun _ _ _ _ _ => pts_nil) (fun _ _ _ _ _ => pe_dget hu (pv 3) (pv 5) (fun _ _ => rfl))) pa_nil)) pa_nil)))))))), ?_⟩
    have i2 : ∀ {j : Nat} {i : Int} {σ : L2.St} {H1 : Hp}, Ex H H1 → σ[2]? = some (some v) → ([ixI p.1, ixI p.2] : List Int)[j]? = some i → Ev (tOp (rIxT K) (tVar 2) (tC (.int (j : Nat)))) σ H1 (.int i) := fun {j i σ H1} e hσ hj =>
      d_int (ed_ixT (K := K) (ed_var hσ (tp.ex e)) ev_c rfl (by
        have : ([PyData.int (ixI p.1), PyData.int (ixI p.2)] : List PyData) = ([ixI p.1, ixI p.2] : List Int).map PyData.int := rfl
        rw [this, List.getElem?_map, hj]; rfl))
    have n1 := ndO_ok o1.ns p.1
    have n2 := ndO_ok o2.ns p.2
    refine s_if (et_is (b := K49.isNon (ndO S1.nodes p.1) && K49.isNon (ndO S2.nodes p.2)) (et_and (et_test (ev_eqD (ed_seen (h := p.1) (ev_var rfl) (i2 (j := 0) (Ex.refl _) rfl rfl) hx hp.1) (ed_tup ead_nil (by simp)) (pd_node n1).1 pd_nil)) fun _ => et_test (ev_eqD (ed_seen (h := p.2) (ev_var rfl) (i2 (j := 1) (Ex.refl _) rfl rfl) hy hp.2) (ed_tup ead_nil (by simp)) (pd_node n2).1 pd_nil)) (by rw [pyN_nil, pyN_nil])) (fun hb H1 e1 => ?_) fun hb H1 e1 => ?_
    · refine s_retD (d := .tuple []) (ed_tup ead_nil (by simp)) fun u H2 e2 t2 => k u H2 (e1.trans e2) ?_
      have : ndM S1.nodes S2.nodes ord p = .non := by
        unfold ndM
        cases q1 : ndO S1.nodes p.1 <;> cases q2 : ndO S2.nodes p.2 <;> first | rfl | (rw [q1, q2] at hb; simp [K49.isNon] at hb)
      rw [this]
      exact t2
    · refine q_seq ?_
      refine ⟨_, rfl, _, rfl, _, rfl, x, y, v, S1, S2, p, rfl, hx.ex e1, hy.ex e1, o1, o2, tp.ex e1, hp, fun hno H2 e2 => ?_, fun inner hin2 l H2 hl e2 hL => ?_⟩
      · refine s_if (b := true) (et_is (et_B (ev_isNo (ed_var rfl .non))) (by simp)) (fun _ H3 e3 => ?_) fun z => by cases z
        refine s_ret ev_c fun H4 e4 => k .non H4 (((e1.trans e2).trans e3).trans e4) ?_
        rw [ndM_opn hno hb]
        exact .non
      · have e12 := e1.trans e2
        refine s_if (b := false) (et_is (et_B (ev_isNv (ev_var rfl))) (by simp)) (fun z => by cases z) fun _ H3 e3 => ?_
        have e13 := e12.trans e3
        obtain ⟨f, xs, q1⟩ : ∃ f xs, ndO S1.nodes p.1 = .op f xs := by
          unfold opp at hin2
          cases q1 : ndO S1.nodes p.1 with
          | opn => rw [q1] at hin2; cases ndO S2.nodes p.2 <;> cases hin2
          | non => rw [q1] at hin2; cases ndO S2.nodes p.2 <;> cases hin2
          | op f xs => exact ⟨f, xs, rfl⟩
        obtain ⟨i, hi, hil⟩ : ∃ i, p.1 = some i ∧ i < S1.nodes.length := by
          cases q : p.1 with
          | none => rw [q] at q1; cases q1
          | some i => exact ⟨i, rfl, (hp.1 i q).1⟩
        have q1' : S1.nodes.getD i .non = .op f xs := by rw [hi] at q1; exact q1
        have hlen : inner.length ≤ 3 := by
          have n1' := n1
          rw [q1] at n1'
          unfold opp at hin2
          rw [q1] at hin2
          cases q2 : ndO S2.nodes p.2 with
          | opn => rw [q2] at hin2; cases hin2
          | non => rw [q2] at hin2; cases hin2
          | op g ys =>
            rw [q2] at hin2
            simp only at hin2
            split at hin2
            · cases hin2
              rw [List.length_zipWith]
              have := n1'.2.1
              omega
            · cases hin2
        have node : EvD (tOp (rIxT K) (tFld K (tVar 0) "nodes") (tOp (rIxT K) (tVar 2) (tC (.int 0)))) [some (.ref x), some (.ref y), some v, some (.ref dk), some (.ref l), none] H3 (pyN (.op f xs)) := by
          rw [← q1']
          exact ed_node Sh (ev_var rfl) (hx.ex e13) hil (ev_is (i2 (j := 0) e13 rfl rfl) (by rw [hi]; rfl))
        refine s_retD (d := pyN (ndM S1.nodes S2.nodes ord p)) (ed_is (ed_tup (ead_cons (ed_ixT node ev_c (j := 0) rfl rfl) (ead_cons (ed_tupN (en_is (en_lcL (as := inner) (enc := prD) (ev_var rfl) (LsD.ex e3 hL) (by omega) (fun z => some (.int ((K49.pos ord z : Nat) : Int))) fun z u H4 hz e4 t Q' kk => ?_) (filterMap_some _ _))) ead_nil)) (by simp)) ?_) fun u H4 e4 t4 => k u H4 (e13.trans e4) t4
        · refine kk _ rfl et_yes fun d hd => ?_
          cases hd
          have hzm : z ∈ ord := hin z (by unfold innM; rw [hin2]; exact hz)
          exact int_d (ev_dgetT (ev_var rfl) (ed_var rfl t) ((e13.trans e4) _ _ hk) (by rw [knK_val, if_pos hzm]))
        · have : ndM S1.nodes S2.nodes ord p = .op f (inner.map fun q => K49.pos ord q) := by
            unfold ndM
            rw [q1]
            cases q2 : ndO S2.nodes p.2 with
            | opn => unfold opp at hin2; rw [q1, q2] at hin2; cases hin2
            | non => unfold opp at hin2; rw [q1, q2] at hin2; cases hin2
            | op g ys => simp only [hin2]
          rw [this]
          show PyData.tuple [.str f, .tuple (inner.map fun z => .int ((K49.pos ord z : Nat) : Int))] = PyData.tuple [.str f, .tuple ((inner.map fun q => K49.pos ord q).map fun i => .int (i : Nat))]
          rw [List.map_map]
          rfl
end
end K49W

-- part K49F14
namespace K49W
open PySem PySem.Spec PyProof.Rows L2 Evl
open K49 (Nd Rw WfN RT val Ix ndO tmO nrm NmI RepM gM opp innM Can joined ndM OrdOk runN)
theorem TpL.inv_snoc {H : Hp} {d : PyData} : ∀ {vs : List V} {ds : List PyData}, TpL H vs (ds ++ [d]) → ∃ ws v, vs = ws ++ [v] ∧ TpL H ws ds ∧ Tp H v d
  | vs, [], h => by
    obtain ⟨v, r, rfl, t, h2⟩ := h.inv_cons
    have := h2.inv_nil
    subst this
    exact ⟨[], v, rfl, .nil, t⟩
  | vs, e :: ds, h => by
    obtain ⟨v, r, rfl, t, h2⟩ := TpL.inv_cons (d := e) (ds := ds ++ [d]) h
    obtain ⟨ws, u, rfl, t2, t3⟩ := h2.inv_snoc
    exact ⟨v :: ws, u, rfl, .cons t t2, t3⟩
theorem LsD.keep {a : Addr} {es : List PyData} {H H' : Hp} (h : LsD a es H) (e : H' a = H a) (t : TX H H') : LsD a es H' := by
  obtain ⟨xs, h1, h2⟩ := h
  exact ⟨xs, by rw [e]; exact h1, h2.tx t⟩
def leftN {α : Type} [DecidableEq α] (l acc : List α) : List α := l.filter fun x => decide (x ∉ acc)
theorem mem_leftN {α : Type} [DecidableEq α] {l acc : List α} {z : α} : z ∈ leftN l acc ↔ z ∈ l ∧ z ∉ acc := by
  unfold leftN
  rw [List.mem_filter]; simp
theorem runN_new {α : Type} [DecidableEq α] {inn : α → List α} {m : Nat} {h : α} {st acc : List α} (hm : h ∉ acc) : runN inn (m + 1) (h :: st) acc = match leftN (inn h) acc with
    | l :: _ => runN inn m (l :: h :: st) acc
    | [] => runN inn m st (acc ++ [h]) := by
  rw [K49.runN, if_neg hm]; rfl
theorem runN_old {α : Type} [DecidableEq α] {inn : α → List α} {m : Nat} {h : α} {st acc : List α} (hm : h ∈ acc) : runN inn (m + 1) (h :: st) acc = runN inn m st acc := by
  rw [K49.runN, if_pos hm]
theorem fm_left {α β : Type} [DecidableEq α] (f : α → β) (acc : List α) (i : ∀ z : α, Decidable (z ∈ acc)) : ∀ l : List α, l.filterMap (fun z => @ite _ (z ∈ acc) (i z) none (some (f z))) = (leftN l acc).map f
  | [] => rfl
  | a :: l => by
    have ih := fm_left f acc i l
    unfold leftN at ih ⊢
    rw [List.filterMap_cons, List.filter_cons]
    by_cases h : a ∈ acc
    · simp only [if_pos h]
      rw [ih]
      simp [h]
    · simp only [if_neg h]
      rw [ih]
      simp [h]
/-- all pairs of places -/
def prodL (a b : Nat) : List (Ix × Ix) := (none :: (List.range a).map some).flatMap fun x => (none :: (List.range b).map some).map fun y => (x, y)
theorem fm_len {α β γ : Type} {f : α → β → γ} {m : List β} : ∀ {l : List α}, (l.flatMap fun x => m.map (f x)).length = l.length * m.length
  | [] => by simp
  | a :: l => by
    rw [List.flatMap_cons, List.length_append, List.length_map, fm_len, List.length_cons, Nat.succ_mul, Nat.add_comm]
theorem prodL_len (a b : Nat) : (prodL a b).length = (a + 1) * (b + 1) := by
  unfold prodL
  rw [fm_len]
  simp
theorem prodL_mem {n1 n2 : List (Nd Str)} {p : Ix × Ix} (h : RepM n1 n2 p) : p ∈ prodL n1.length n2.length := by
  unfold prodL
  refine List.mem_flatMap.mpr ⟨p.1, ?_, List.mem_map.mpr ⟨p.2, ?_, rfl⟩⟩
  · cases q : p.1 with
    | none => simp
    | some i => exact List.mem_cons_of_mem _ (List.mem_map.mpr ⟨i, List.mem_range.mpr (h.1 i q).1, rfl⟩)
  · cases q : p.2 with
    | none => simp
    | some i => exact List.mem_cons_of_mem _ (List.mem_map.mpr ⟨i, List.mem_range.mpr (h.2 i q).1, rfl⟩)
theorem repM_len {n1 n2 : List (Nd Str)} {l : List (Ix × Ix)} (h : ∀ p ∈ l, RepM n1 n2 p) (hd : l.Nodup) : l.length ≤ (n1.length + 1) * (n2.length + 1) := by
  rw [← prodL_len]
  exact K49.nodup_len hd fun p hp => prodL_mem (h p hp)
theorem inn_len {n1 n2 : List (Nd Str)} (o1 : NsOk n1) (p : Ix × Ix) : (innM n1 n2 p).length ≤ 3 := by
  have h1 := ndO_ok o1 p.1
  unfold innM opp
  cases q1 : ndO n1 p.1 with
  | opn => cases ndO n2 p.2 <;> simp
  | non => cases ndO n2 p.2 <;> simp
  | op f xs =>
    rw [q1] at h1
    cases q2 : ndO n2 p.2 with
    | opn => simp
    | non => simp
    | op g ys =>
      simp only
      split
      · rw [Option.getD_some, List.length_zipWith]
        have := h1.2.1
        omega
      · simp
section
variable {P : Program} {w : World} {K : PySem.W.Frag} {mg : Str → Option Value} {base : Heap}
theorem runM_zero {inn : Ix × Ix → List (Ix × Ix)} {st acc tgt : List (Ix × Ix)} {h : Ix × Ix} (e : runN inn 0 (h :: st) acc = some tgt) : False := by simp [K49.runN] at e
/-! ### met_rows -/
theorem sc_metrows : FnScope ["one", "other", "olds", "news", "nodes", "known", "name", "mine", "theirs", "waiting", "here", "inner", "left", "places", "pair", "rows"] ["one", "other"] (defScope (top 24)) := ⟨rfl, rfl, rfl, by decide +kernel, rfl, by decide +kernel, by decide +kernel⟩
theorem SdOk.of {S : Rw Str Str} (h : ShOk S) (b : Bool) : SdOk (S.side b) := ⟨h.nd b, h.vn b⟩
def spMetRows (K : PySem.W.Frag) : Sp := fun vs H Q _ => ∃ (x y : Addr) (S1 S2 : Rw Str Str), vs = [.ref x, .ref y] ∧ ShI K x S1 H ∧ ShI K y S2 H ∧ ShOk S1 ∧ ShOk S2 ∧ (S1.nodes.length + 1) * (S2.nodes.length + 1) ≤ 900 ∧
  ∀ t a b c H', Ex H H' → H' t = some (.tup [.ref a, .ref b, .ref c]) → RwAt a b c (RT VN (K49.meet (val S1) (val S2))) H' → Q (.ref t) H'
theorem ev_side {te : TE} {σ : L2.St} {H : Hp} {x : Addr} {S : Rw Str Str} (Sh : ShK K) (h : Ev te σ H (.ref x)) (hx : ShI K x S H) : ∃ d e, Ev (tFld K te "olds") σ H (.ref d) ∧ H d = some (.dK (kvP S.olds)) ∧ Ev (tFld K te "news") σ H (.ref e) ∧ H e = some (.dK (kvP S.news)) := by
  obtain ⟨dx, p, d, e, h1, h2⟩ := hx
  exact ⟨d, e, ev_fld h h1 Sh.cl Sh.n1 rfl, h2.2.1, ev_fld h h1 Sh.cl Sh.n2 rfl, h2.2.2⟩
theorem en_joined {ta tb : TE} {σ : L2.St} {H : Hp} {d e : Addr} {r1 r2 : List (Str × Nat)} (ha : Ev ta σ H (.ref d)) (hb : Ev tb σ H (.ref e)) (hd : H d = some (.dK (kvP r1))) (he : H e = some (.dK (kvP r2))) (o1 : SdOk r1) (o2 : SdOk r2) :
    EvN (tCall spJoined [] E0 (tCons ta (tCons tb tNil))) σ H ((joined VN r1 r2).map rowD) := fun H1 x1 Q q =>
  ha H1 x1 _ fun H2 x2 => hb H2 (x1.trans x2) _ fun H3 x3 => ⟨d, e, r1, r2, rfl, (x1.trans (x2.trans x3)) _ _ hd, (x1.trans (x2.trans x3)) _ _ he, o1, o2, fun l H4 hl x4 ⟨xs, h1, h2⟩ => q l xs H4 (fresh_back (x2.trans x3) hl) ((x2.trans x3).trans x4) h1 h2⟩
theorem cal_metrows (T : Nm K mg) (Sh : ShK K) (F : Df K (dG 24 "met_rows")) (cJ : Cal P w K mg base 2 "joined_sides" ["mine", "theirs"] spJoined) (cP : Cal P w K mg base 2 "operand_pairs" ["one", "other", "pair"] (spPairs K)) (cM : Cal P w K mg base 3 "met_node" ["one", "other", "pair", "known"] (spMet K)) : Cal P w K mg base 4 "met_rows" ["one", "other"] (spMetRows K) := by
  refine cal_of T F (by decide +kernel) sc_metrows (fun _ _ _ _ _ _ us hl => match us, hl with | [_, _], _ => rfl) (fun vs H Q E h => ?_) fun cdv A outer s H vs Q E hr h => ?_
  · obtain ⟨x, y, S1, S2, rfl, _⟩ := h
    rfl
  · obtain ⟨x, y, S1, S2, rfl, hx, hy, o1, o2, hsz, k⟩ := h
    have nd := sc_metrows.nd
    have hu := hu_of hr
    refine ⟨_, (pss_cons (ps_par (i := 2) (j := 3) rfl nd rfl rfl (by decide) rfl rfl (pa_cons (pe_cal cJ (hr.mono (by decide)) (by rfl) (pa_cons (pe_fld (pv 0) (by rfl)) (pa_cons (pe_fld (pv 1) (by rfl)) pa_nil))) (pa_cons (pe_cal cJ (hr.mono (by decide)) (by rfl) (pa_cons (pe_fld (pv 0) (by rfl)) (pa_cons (pe_fld (pv 1) (by rfl)) pa_nil))) pa_nil)) (by rfl)) (pss_cons (ps_set (i := 4) nd rfl (Or.inl rfl) (pe_lst pa_nil)) (pss_cons (ps_set (i := 5) nd rfl (Or.inr rfl) pe_dnewT) (pss_cons (ps_for PassesOwn.never rfl (pi_list (pe_op op_cat (pv 2) (pv 3))) (pg_tup rfl (pgs_cons (pg_name (i := 6) nd rfl (Or.inl rfl)) (pgs_cons (pg_name (i := 7) nd rfl (Or.inl rfl)) (pgs_cons (pg_name (i := 8) nd rfl (Or.inl rfl)) pgs_nil))))
        (pss_cons (ps_set (i := 9) nd rfl (Or.inl rfl) (pe_lst (pa_cons (pe_tup (pa_cons (pv 7) (pa_cons (pv 8) pa_nil))) pa_nil))) (pss_one (ps_while PassesOwn.never (q_gt (q_len T (pa_cons (pv 9) pa_nil)) pe_int)
            (pss_cons (ps_set (i := 10) nd rfl (Or.inl rfl) (q_ixL (pv 9) (pe_un un_neg pe_int))) (pss_cons (ps_set (i := 11) nd rfl (Or.inl rfl) (pe_cal cP (hr.mono (by decide)) (by rfl) (pa_cons (pv 0) (pa_cons (pv 1) (pa_cons (pv 10) pa_nil))))) (pss_cons (ps_set (i := 12) nd rfl (Or.inl rfl) (pe_ifExp (q_none (pv 11)) (pe_lst pa_nil)
                (pe_lc (own := [("pair", 14)]) (g := gName 14) (tt := tB (tDNotIn (tVar 14) (tVar 5))) (te := tVar 14) rfl nd (pi_list (pv 11)) (blkOk_by (N := ["one", "other", "olds", "news", "nodes", "known", "name", "mine", "theirs", "waiting", "here", "inner", "left", "places", "pair", "rows"]) (sc := defScope (top 24)) (by decide +kernel))
                  (fun _ _ _ _ _ => pg_name (i := 14) nd rfl (Or.inl rfl)) (fun _ _ _ _ _ => pts_one (pt_cmp (pc_dnotin hu (pv 14) (pv 5)))) (fun _ _ _ _ _ => pv 14)))) (pss_one (ps_if (pt_cmp (pc_din hu (pv 10) (pv 5))) (pss_one (ps_expr (q_pop (pv 9))))
                (pss_one (ps_if (q_gt (q_len T (pa_cons (pv 12) pa_nil)) pe_int) (pss_one (ps_expr (q_app (pv 9) (pa_cons (q_ixL (pv 12) pe_int) pa_nil))))
                  (pss_cons (ps_dput hu (pv 5) (pv 10) (q_len T (pa_cons (pv 4) pa_nil)) rfl) (pss_cons (ps_expr (q_app (pv 4) (pa_cons (pe_cal cM (hr.mono (by decide)) (by rfl) (pa_cons (pv 0) (pa_cons (pv 1) (pa_cons (pv 10) (pa_cons (pv 5) pa_nil))))) pa_nil))) (pss_one (ps_expr (q_pop (pv 9))))))))))))))))) (pss_cons (ps_setLc (i := 13) (own := [("rows", 15)]) (g := gName 15) (tt := tYes) (te := tLc (iList K (tVar 15)) (gTup K 3 (gCons (gName 6) (gCons (gName 7) (gCons (gName 8) gNil)))) tYes (tTup (tCons (tVar 6) (tCons (tDGet (tVar 5) (tTup (tCons (tVar 7) (tCons (tVar 8) tNil)))) tNil))) [6, 7, 8]) rfl nd rfl rfl (sw_true rfl rfl rfl (by decide +kernel)) (pi_tup (pe_tup (pa_cons (pv 2) (pa_cons (pv 3) pa_nil)))) (blkOk_by (N := ["one", "other", "olds", "news", "nodes", "known", "name", "mine", "theirs", "waiting", "here", "inner", "left", "places", "pair", "rows"]) (sc := defScope (top 24)) (by decide +kernel))
        (fun _ _ _ _ _ => pg_name (i := 15) nd rfl (Or.inl rfl)) (fun _ _ _ _ _ => pts_nil)
        (fun _ _ _ _ _ => pe_lc (own := [("name", 6), ("mine", 7), ("theirs", 8)]) (g := gTup K 3 (gCons (gName 6) (gCons (gName 7) (gCons (gName 8) gNil)))) (tt := tYes) (te := tTup (tCons (tVar 6) (tCons (tDGet (tVar 5) (tTup (tCons (tVar 7) (tCons (tVar 8) tNil)))) tNil))) rfl nd (pi_list (pv 15)) (by have q := blkOk_by (N := ["one", "other", "olds", "news", "nodes", "known", "name", "mine", "theirs", "waiting", "here", "inner", "left", "places", "pair", "rows"]) (sc := ⟨.function, [(".0", .local), ("rows", .local), ("known", .cell)], false, false, []⟩) (scope := ⟨.function, [(".0", .local), ("name", .local), ("mine", .local), ("theirs", .local), ("known", .free)], false, false, []⟩) (own := [("name", 6), ("mine", 7), ("theirs", 8)]) (by decide +kernel); exact q)
          (fun _ _ _ _ _ => pg_tup rfl (pgs_cons (pg_name (i := 6) nd rfl (Or.inl rfl)) (pgs_cons (pg_name (i := 7) nd rfl (Or.inl rfl)) (pgs_cons (pg_name (i := 8) nd rfl (Or.inl rfl)) pgs_nil)))) (fun _ _ _ _ _ => pts_nil) (fun _ _ _ _ _ => pe_tup (pa_cons (pv 6) (pa_cons (pe_dget hu (pv 5) (pe_tup (pa_cons (pv 7) (pa_cons (pv 8) pa_nil))) (fun _ _ => rfl)) pa_nil))))) (pss_one (ps_ret (pe_tup (pa_cons (pv 4) (pa_cons (q_ixL (pv 13) pe_int) (pa_cons (q_ixL (pv 13) pe_int) pa_nil))))))))))), ?_⟩
    have w1 := o1.can.wf
    have w2 := o2.can.wf
    have rp := K49.repM w1 w2 o1.can.inj o2.can.inj
    refine q_seq ?_
    obtain ⟨d1, e1, fd1, hd1, fe1, he1⟩ := ev_side (te := tVar 0) (σ := start ["one", "other", "olds", "news", "nodes", "known", "name", "mine", "theirs", "waiting", "here", "inner", "left", "places", "pair", "rows"] [.ref x, .ref y]) Sh (ev_var rfl) hx
    obtain ⟨d2, e2, fd2, hd2, fe2, he2⟩ := ev_side (te := tVar 1) (σ := start ["one", "other", "olds", "news", "nodes", "known", "name", "mine", "theirs", "waiting", "here", "inner", "left", "places", "pair", "rows"] [.ref x, .ref y]) Sh (ev_var rfl) hy
    refine en_joined fd1 fd2 hd1 hd2 (SdOk.of o1 false) (SdOk.of o2 false) H (Ex.refl _) _ fun lo los0 H3 hlo x3 hLo0 tLo0 => ?_
    refine en_joined fe1 fe2 he1 he2 (SdOk.of o1 true) (SdOk.of o2 true) H3 x3 _ fun ln lns0 H6 hln x6 hLn0 tLn0 => ⟨_, _, rfl, ?_⟩
    have x16 := x3.trans x6
    have hLo6 : LsD lo ((joined VN S1.olds S2.olds).map rowD) H6 := LsD.ex x6 ⟨los0, hLo0, tLo0⟩
    have hLn : LsD ln ((joined VN S1.news S2.news).map rowD) H6 := ⟨lns0, hLn0, tLn0⟩
    -- olds, news stand in H6
    refine q_seq ?_
    refine ⟨Nat.zero_le _, fun nl hnl => ?_⟩
    refine q_seq ?_
    intro dk hdk
    have nkl : nl ≠ dk := ne_of_none upd_same hdk
    have hdk6 : H6 dk = none := fresh_back (Ex.new hnl) hdk
    have xb : Ex H6 (L2.upd (L2.upd H6 nl (.lst [])) dk (.dT [])) := (Ex.new hnl).trans (Ex.new hdk)
    have hnl7 : (L2.upd (L2.upd H6 nl (.lst [])) dk (.dT [])) nl = some (.lst []) := by rw [upd_ne nkl, upd_same]
    have hdk7 : (L2.upd (L2.upd H6 nl (.lst [])) dk (.dT [])) dk = some (.dT []) := upd_same
    generalize L2.upd (L2.upd H6 nl (.lst [])) dk (.dT []) = H7 at *
    refine q_seq ?_
    obtain ⟨los, hlos, tlos⟩ := LsD.ex xb hLo6
    obtain ⟨lns, hlns, tlns⟩ := LsD.ex xb hLn
    have jl : ∀ (r1 r2 : List (Str × Nat)), (joined VN r1 r2).length ≤ 3 := fun r1 r2 => by
      unfold joined
      exact Nat.le_trans (List.length_filterMap_le _ _) (by decide)
    refine ⟨_, rfl, _, rfl, lo, ln, los, lns, rfl, rfl, hlos, hlns, ?_, fun pc hpc => ?_⟩
    · have h1 := jl S1.olds S2.olds
      have h2 := jl S1.news S2.news
      have h3 := tlos.length
      have h4 := tlns.length
      rw [List.length_map] at h3 h4
      exact sz_of (by omega)
    have ncl : pc ≠ nl := fun z => by rw [z, hnl7] at hpc; cases hpc
    have nck : pc ≠ dk := fun z => by rw [z, hdk7] at hpc; cases hpc
    have xc : Ex H7 (L2.upd H7 pc (.lst (los ++ lns))) := Ex.new hpc
    have hpc8 : LsD pc (((joined VN S1.olds S2.olds) ++ (joined VN S1.news S2.news)).map rowD) (L2.upd H7 pc (.lst (los ++ lns))) := ⟨_, upd_same, by
      rw [List.map_append]
      exact (tlos.append tlns).ex xc⟩
    have hnl8 := xc _ _ hnl7
    have hdk8 := xc _ _ hdk7
    have x68 := xb.trans xc
    generalize L2.upd H7 pc (.lst (los ++ lns)) = H8 at *
    refine ⟨pc, rfl, ⟨_, SqL.of hpc8.choose_spec.1⟩, ?_⟩
    have jrep : ∀ r ∈ joined VN S1.olds S2.olds ++ joined VN S1.news S2.news, RepM S1.nodes S2.nodes r.2 := fun r hr => by
      rcases List.mem_append.mp hr with h | h
      · exact K49.joined_rep (b := false) o1.can o2.can r h
      · exact K49.joined_rep (b := true) o1.can o2.can r h
    generalize hrows : joined VN S1.olds S2.olds ++ joined VN S1.news S2.news = rows at hpc8 jrep
    refine for_wk (wk_list (K := K) (a := pc) (es := rows.map rowD)) (fun i σ H9 => Ex H6 H9 ∧ LsD pc (rows.map rowD) H9 ∧ ∃ (ord : List (Ix × Ix)) (v6 v7 v8 v9 v10 v11 v12 : Option V), OrdOk (RepM S1.nodes S2.nodes) (gM S1.nodes S2.nodes) ord ((rows.take i).map fun r => gM S1.nodes S2.nodes r.2) ∧
      (∀ z ∈ ord, ∀ u ∈ innM S1.nodes S2.nodes z, u ∈ ord) ∧ H9 dk = some (.dT (knK ord)) ∧ LsD nl (ord.map fun p => pyN (ndM S1.nodes S2.nodes ord p)) H9 ∧
      σ = [some (.ref x), some (.ref y), some (.ref lo), some (.ref ln), some (.ref nl), some (.ref dk), v6, v7, v8, v9, v10, v11, v12, none, none, none])
      ⟨x68, hpc8, [], none, none, none, none, none, none, none, OrdOk.nil, fun z hz => (nomatch hz), hdk8, ⟨[], hnl8, .nil⟩, rfl⟩ (fun i σ H9 _ p => p.2.1) ?_ ?_
    · rintro i σ H9 v H10 e he ⟨x9, hpc9, ord, v6, v7, v8, v9, v10, v11, v12, o, clo, hdk9, hnl9, rfl⟩ x10 t
      rw [List.getElem?_map] at he
      cases qs : rows[i]? with
      | none => rw [qs] at he; cases he
      | some row =>
        rw [qs] at he
        cases he
        have hrow := jrep row (List.mem_of_getElem? qs)
        obtain ⟨ord', m0, o', hrun⟩ := OrdOk.next rp o hrow
        refine g_tup3 t fun w6 w7 w8 t6 t7 t8 => ?_
        have := t6.inv_str
        subst this
        have := t7.inv_int
        subst this
        have := t8.inv_int
        subst this
        refine q_seq ?_
        refine s_setN (ds := [prD row.2]) (en_lst (ead_cons (ed_tup (ead_cons (ed_var rfl (.int _)) (ead_cons (ed_var rfl (.int _)) ead_nil)) (by simp)) ead_nil) (by simp)) fun dw ws H11 hw x11 h11 tw => ?_
        dsimp only
        have x1011 := x10.trans x11
        have hw9 : H9 dw = none := fresh_back x10 hw
        have hw6 : H6 dw = none := fresh_back x9 hw9
        have nwk : dk ≠ dw := ne_of_none hdk9 hw9
        obtain ⟨zs9, hz9, tz9⟩ := id hnl9
        have nwl : nl ≠ dw := ne_of_none hz9 hw9
        obtain ⟨cs9, hc9, tc9⟩ := id hpc9
        have nwc : pc ≠ dw := ne_of_none hc9 hw9
        refine s_while (fun m σ' H' => Ex H6 H' ∧ LsD pc (rows.map rowD) H' ∧ ∃ (st acc : List (Ix × Ix)) (v10 v11 v12 : Option V), runN (innM S1.nodes S2.nodes) m st acc = some ord' ∧ ((∀ x ∈ st, RepM S1.nodes S2.nodes x) ∧ st.Pairwise fun x y => K49.sz (gM S1.nodes S2.nodes x) < K49.sz (gM S1.nodes S2.nodes y)) ∧ ((∀ x ∈ acc, RepM S1.nodes S2.nodes x) ∧ acc.Nodup) ∧
          (∀ z ∈ acc, ∀ u ∈ innM S1.nodes S2.nodes z, u ∈ acc) ∧ H' dk = some (.dT (knK acc)) ∧ LsD nl (acc.map fun p => pyN (ndM S1.nodes S2.nodes acc p)) H' ∧ LsD dw (st.reverse.map prD) H' ∧
          σ' = [some (.ref x), some (.ref y), some (.ref lo), some (.ref ln), some (.ref nl), some (.ref dk), some (.str row.1), some (.int (ixI row.2.1)), some (.int (ixI row.2.2)), some (.ref dw), v10, v11, v12, none, none, none]) m0
          ⟨x9.trans x1011, LsD.ex x1011 hpc9, [row.2], ord, v10, v11, v12, hrun, ⟨fun z hz => by simp at hz; subst hz; exact hrow, by simp⟩, ⟨o.all, o.nodup⟩, clo, x1011 _ _ hdk9, LsD.ex x1011 hnl9, ⟨ws, h11, tw⟩, rfl⟩ ?_
        rintro m σ' H' ⟨xH, hpcH, st, acc, v10, v11, v12, hrn, ⟨pst, wst⟩, ⟨pacc, nacc⟩, cloH, hdkH, hnlH, hdwH, rfl⟩
        refine ⟨_, et_test (ev_op (ev_lenL (K := K) (ev_var rfl) hdwH) ev_c rv_I0), fun ht H12 x12 => ?_, fun hf H12 x12 => ?_⟩
        · cases st with
          | nil => simp at ht
          | cons h st =>
            cases m with
            | zero => exact (runM_zero hrn).elim
            | succ m =>
              refine ⟨_, fun σ2 H2 hw => ⟨m, Nat.lt_succ_self m, hw⟩, ?_⟩
              have hh := pst h List.mem_cons_self
              have hst' : ∀ x ∈ st, RepM S1.nodes S2.nodes x := fun x hx => pst x (List.mem_cons_of_mem _ hx)
              rw [List.reverse_cons, List.map_append] at hdwH
              obtain ⟨ws0, hws0, tws0⟩ := LsD.ex x12 hdwH
              obtain ⟨ws, wv, rfl, tws, twv⟩ := tws0.inv_snoc
              have xH12 := xH.trans x12
              have acl : acc.length ≤ 900 := Nat.le_trans (repM_len pacc nacc) hsz
              have stl : (h :: st).length ≤ 900 := Nat.le_trans (repM_len pst (wst.imp fun {x y} (z : K49.sz (gM S1.nodes S2.nodes x) < K49.sz (gM S1.nodes S2.nodes y)) (e : x = y) => by subst e; omega)) hsz
              refine s_asg (ev_last (ev_var rfl) hws0) fun H13 x13' => ?_
              dsimp only
              have xH13 := xH12.trans x13'
              have x1213 := x12.trans x13'
              -- what comes behind operand_pairs
              have cont : ∀ (vi : V) (H14 : Hp), Ex H13 H14 → ((opp S1.nodes S2.nodes h = none ∧ vi = .non) ∨ ∃ l, vi = .ref l ∧ ∃ inner, opp S1.nodes S2.nodes h = some inner ∧ LsD l (inner.map prD) H14) →
                  EvN (tIf (tB (tIsN (tVar 11))) (tLst tNil) (tLc (iList K (tVar 11)) (gName 14) (tB (tDNotIn (tVar 14) (tVar 5))) (tVar 14) [14])) [some (.ref x), some (.ref y), some (.ref lo), some (.ref ln), some (.ref nl), some (.ref dk), some (.str row.1), some (.int (ixI row.2.1)), some (.int (ixI row.2.2)), some (.ref dw), some wv, some vi, v12, none, none, none] H14
                    ((leftN (innM S1.nodes S2.nodes h) acc).map prD) := by
                rintro vi H14 x14 (⟨hno, rfl⟩ | ⟨l, rfl, inner, hin, hL⟩)
                · refine en_if (b := true) (et_is (et_B (ev_isNo (ed_var rfl .non))) (by simp)) (fun _ => ?_) fun z => by cases z
                  have : innM S1.nodes S2.nodes h = [] := by unfold innM; rw [hno]; rfl
                  rw [this]
                  exact en_lst ead_nil (by simp [leftN])
                · refine en_if (b := false) (et_is (et_B (ev_isNv (ev_var rfl))) (by simp)) (fun z => by cases z) fun _ => ?_
                  have hi : innM S1.nodes S2.nodes h = inner := by unfold innM; rw [hin]; rfl
                  have hil := inn_len (n2 := S2.nodes) o1.ns h
                  rw [hi] at hil ⊢
                  refine en_is (en_lcL (as := inner) (enc := prD) (ev_var rfl) hL (by omega) (fun z => if z ∈ acc then none else some (prD z)) fun z u H15 hz x15' t Q' kk => ?_) (fm_left prD acc _ inner)
                  refine kk _ rfl (et_is (et_B (ev_dninT (ed_var rfl t) (ev_var rfl) (x15' _ _ (x14 _ _ (x1213 _ _ hdkH))))) ?_) fun d hd => ?_
                  · rw [knK_some]
                    by_cases mm : z ∈ acc <;> simp [mm]
                  · split at hd
                    · cases hd
                    · cases hd
                      exact ed_var rfl t
              refine q_cut (fun σ'' H14 => ∃ vi, Ex H13 H14 ∧ ((opp S1.nodes S2.nodes h = none ∧ vi = .non) ∨ ∃ l, vi = .ref l ∧ ∃ inner, opp S1.nodes S2.nodes h = some inner ∧ LsD l (inner.map prD) H14) ∧
                σ'' = [some (.ref x), some (.ref y), some (.ref lo), some (.ref ln), some (.ref nl), some (.ref dk), some (.str row.1), some (.int (ixI row.2.1)), some (.int (ixI row.2.2)), some (.ref dw), some wv, some vi, v12, none, none, none]) (fun nx kn => ?_) ?_
              · exact ⟨_, rfl, _, rfl, _, rfl, x, y, wv, S1, S2, h, rfl, hx.ex (x16.trans xH13), hy.ex (x16.trans xH13), o1, o2, twv.ex x13', hh, fun hno H14 x14 => kn _ _ ⟨.non, x14, .inl ⟨hno, rfl⟩, rfl⟩, fun inner hin l H14 _ x14 hL => kn _ _ ⟨.ref l, x14, .inr ⟨l, rfl, inner, hin, hL⟩, rfl⟩⟩
              · rintro σ'' H14 ⟨vi, x14, hc, rfl⟩
                refine q_seq ?_
                refine s_setN (cont vi H14 x14 hc) fun pl ls H15 hpl x15 hll tll => ?_
                dsimp only
                have x1215 := (x1213.trans x14).trans x15
                have xH15 := xH.trans x1215
                have hdk15 := x1215 _ _ hdkH
                have hdw15 : H15 dw = some (.lst (ws ++ [wv])) := (x13'.trans (x14.trans x15)) _ _ hws0
                have tws15 := tws.ex (x13'.trans (x14.trans x15))
                have twv15 := twv.ex (x13'.trans (x14.trans x15))
                have hpc15 := LsD.ex x1215 hpcH
                have hnl15 := LsD.ex x1215 hnlH
                refine s_if (et_B (ev_dinT (ed_var rfl twv15) (ev_var rfl) hdk15)) (fun hb H16 x16' => ?_) fun hb H16 x16' => ?_
                · rw [knK_some] at hb
                  have hm : h ∈ acc := by simpa using hb
                  rw [runN_old hm] at hrn
                  refine s_pop (x16' _ _ hdw15) (ev_var rfl) fun H17 x17 => ?_
                  have x1517 := x16'.trans x17
                  have up : TX H17 (L2.upd H17 dw (.lst ws)) := TX.upd_lst (x1517 _ _ hdw15)
                  exact ⟨Ex.mut (xH15.trans x1517) hw6, (LsD.ex x1517 hpc15).keep (upd_ne nwc) up, st, acc, _, _, _, hrn, ⟨hst', (List.pairwise_cons.mp wst).2⟩, ⟨pacc, nacc⟩, cloH, by rw [upd_ne nwk]; exact x1517 _ _ hdk15, (LsD.ex x1517 hnl15).keep (upd_ne nwl) up, ⟨ws, upd_same, (tws15.ex x1517).tx up⟩, rfl⟩
                · rw [knK_some] at hb
                  have hm : ¬ h ∈ acc := by simpa using hb
                  rw [runN_new hm] at hrn
                  refine s_if (et_test (ev_op (ev_len (ev_var rfl) (SqL.of (x16' _ _ hll))) ev_c rv_I0)) (fun hb2 H17 x17 => ?_) fun hb2 H17 x17 => ?_
                  · cases ql : leftN (innM S1.nodes S2.nodes h) acc with
                    | nil =>
                      rw [ql] at tll
                      have := tll.inv_nil
                      subst this
                      simp at hb2
                    | cons l r =>
                      rw [ql] at hrn
                      simp only at hrn
                      rw [ql] at tll
                      have hl : l ∈ innM S1.nodes S2.nodes h := by
                        have : l ∈ leftN (innM S1.nodes S2.nodes h) acc := by rw [ql]; exact List.mem_cons_self
                        exact (mem_leftN.mp this).1
                      have x1517 := x16'.trans x17
                      refine s_appD (d := prD l) (x1517 _ _ hdw15) (ev_var rfl) (ed_ixL (ev_var rfl) (x1517 _ _ hll) (tll.ex x1517) ev_c (j := 0) rfl rfl) ?_ fun v H18 x18 tv => ?_
                      · rw [List.length_append, tws15.length, List.length_map, List.length_reverse]
                        simp at stl ⊢
                        omega
                      · have x1518 := x1517.trans x18
                        have up : TX H18 (L2.upd H18 dw (.lst ((ws ++ [wv]) ++ [v]))) := TX.upd_lst (x1518 _ _ hdw15)
                        refine ⟨Ex.mut (xH15.trans x1518) hw6, (LsD.ex x1518 hpc15).keep (upd_ne nwc) up, l :: h :: st, acc, _, _, _, hrn, ⟨fun z hz => ?_, ?_⟩, ⟨pacc, nacc⟩, cloH, by rw [upd_ne nwk]; exact x1518 _ _ hdk15, (LsD.ex x1518 hnl15).keep (upd_ne nwl) up, ⟨_, upd_same, ?_⟩, rfl⟩
                        · rcases List.mem_cons.mp hz with rfl | hz
                          · exact rp.down h hh _ hl
                          · exact pst z hz
                        · have hk : gM S1.nodes S2.nodes l ∈ K49.kids (gM S1.nodes S2.nodes h) := by
                            rw [rp.kid h hh]
                            exact List.mem_map.mpr ⟨l, hl, rfl⟩
                          have hlt := K49.sz_kid hk
                          refine List.pairwise_cons.mpr ⟨fun z hz => ?_, wst⟩
                          rcases List.mem_cons.mp hz with rfl | hz
                          · exact hlt
                          · exact Nat.lt_trans hlt ((List.pairwise_cons.mp wst).1 z hz)
                        · rw [List.reverse_cons, List.reverse_cons, List.map_append, List.map_append]
                          exact (TpL.snoc (TpL.snoc (tws15.ex x1518) (twv15.ex x1518)) tv).tx up
                  · cases ql : leftN (innM S1.nodes S2.nodes h) acc with
                    | cons l r =>
                      rw [ql] at tll
                      have := tll.length
                      simp at hb2 this
                      rw [hb2] at this
                      simp at this
                    | nil =>
                      rw [ql] at hrn
                      simp only at hrn
                      have hall : ∀ z ∈ innM S1.nodes S2.nodes h, z ∈ acc := fun z hz => Classical.byContradiction fun hz2 => by
                        have : z ∈ leftN (innM S1.nodes S2.nodes h) acc := mem_leftN.mpr ⟨hz, hz2⟩
                        rw [ql] at this
                        cases this
                      have x1517 := x16'.trans x17
                      obtain ⟨ns17, hn17, tn17⟩ := LsD.ex x1517 hnl15
                      have ln17 : ns17.length = acc.length := by rw [tn17.length, List.length_map]
                      refine q_seq ?_
                      refine s_dputT (p := h) (u := .int (acc.length : Nat)) (ev_is (ev_len (ev_var rfl) (SqL.of hn17)) (by rw [ln17])) (ev_var rfl) (ed_var rfl (twv15.ex x1517)) (x1517 _ _ hdk15) (by rw [knK_len]; omega) fun H18 x18 => ?_
                      rw [knK_put hm]
                      have x1518 := x1517.trans x18
                      have upk : TX H18 (L2.upd H18 dk (.dT (knK (acc ++ [h])))) := TX.upd_dT (x1518 _ _ hdk15)
                      have xk : Ex H6 (L2.upd H18 dk (.dT (knK (acc ++ [h])))) := Ex.mut (xH15.trans x1518) hdk6
                      have nlk : nl ≠ dk := nkl
                      have hk19 : (L2.upd H18 dk (.dT (knK (acc ++ [h])))) dk = some (.dT (knK (acc ++ [h]))) := upd_same
                      have hn19 : (L2.upd H18 dk (.dT (knK (acc ++ [h])))) nl = some (.lst ns17) := by rw [upd_ne nlk]; exact x18 _ _ hn17
                      have tn19 := (tn17.ex x18).tx upk
                      have hw19 : (L2.upd H18 dk (.dT (knK (acc ++ [h])))) dw = some (.lst (ws ++ [wv])) := by rw [upd_ne nwk.symm]; exact x1518 _ _ hdw15
                      have tw19 := (tws15.ex x1518).tx upk
                      have tv19 := (twv15.ex x1518).tx upk
                      have hp19 := (LsD.ex x1518 hpc15).keep (H' := L2.upd H18 dk (.dT (knK (acc ++ [h])))) (upd_ne nck) upk
                      generalize L2.upd H18 dk (.dT (knK (acc ++ [h]))) = H19 at *
                      have nd' : ndM S1.nodes S2.nodes (acc ++ [h]) h = ndM S1.nodes S2.nodes acc h := ndM_front hall
                      have mp : ∀ p ∈ acc, ndM S1.nodes S2.nodes (acc ++ [h]) p = ndM S1.nodes S2.nodes acc p := fun p hp => ndM_front (cloH p hp)
                      refine q_seq ?_
                      refine s_appD (d := pyN (ndM S1.nodes S2.nodes (acc ++ [h]) h)) hn19 (ev_var rfl) ?_ (by rw [ln17]; omega) fun v H20 x20 tv => ?_
                      · refine fun H20 x20 Q q => ⟨_, rfl, _, rfl, _, rfl, _, rfl, x, y, dk, wv, S1, S2, h, acc ++ [h], rfl, hx.ex ((x16.trans xk).trans x20), hy.ex ((x16.trans xk).trans x20), o1, o2, tv19.ex x20, hh, x20 _ _ hk19, fun z hz => List.mem_append_left _ (hall z hz), fun u H21 x21 t21 => q u H21 x21 t21⟩
                      · have upn : TX H20 (L2.upd H20 nl (.lst (ns17 ++ [v]))) := TX.upd_lst (x20 _ _ hn19)
                        have hnl6 : H6 nl = none := hnl
                        have xn : Ex H6 (L2.upd H20 nl (.lst (ns17 ++ [v]))) := Ex.mut (xk.trans x20) hnl6
                        refine s_pop (xs := ws) (v := wv) (by rw [upd_ne nwl.symm]; exact x20 _ _ hw19) (ev_var rfl) fun H21 x21 => ?_
                        have hw21 : H21 dw = some (.lst (ws ++ [wv])) := x21 _ _ (by rw [upd_ne nwl.symm]; exact x20 _ _ hw19)
                        have upw : TX H21 (L2.upd H21 dw (.lst ws)) := TX.upd_lst hw21
                        refine ⟨Ex.mut (xn.trans x21) hw6, ?_, st, acc ++ [h], _, _, _, hrn, ⟨hst', (List.pairwise_cons.mp wst).2⟩, ⟨fun z hz => ?_, ?_⟩, fun z hz u hu => ?_, ?_, ?_, ⟨ws, upd_same, ?_⟩, rfl⟩
                        · exact (LsD.ex x21 ((LsD.ex x20 hp19).keep (upd_ne ncl) upn)).keep (upd_ne nwc) upw
                        · rcases List.mem_append.mp hz with hz | hz
                          · exact pacc z hz
                          · have : z = h := by simpa using hz
                            subst this; exact hh
                        · refine List.nodup_append.mpr ⟨nacc, by simp, fun z hz u hu => ?_⟩
                          have : u = h := by simpa using hu
                          subst this
                          rintro rfl
                          exact hm hz
                        · rcases List.mem_append.mp hz with hz | hz
                          · exact List.mem_append_left _ (cloH z hz u hu)
                          · have : z = h := by simpa using hz
                            subst this
                            exact List.mem_append_left _ (hall u hu)
                        · rw [upd_ne nwk]
                          exact x21 _ _ (by rw [upd_ne nlk.symm]; exact x20 _ _ hk19)
                        · refine LsD.keep (LsD.ex x21 ⟨ns17 ++ [v], upd_same, ?_⟩) (upd_ne nwl) upw
                          rw [List.map_append]
                          have : acc.map (fun p => pyN (ndM S1.nodes S2.nodes (acc ++ [h]) p)) = acc.map (fun p => pyN (ndM S1.nodes S2.nodes acc p)) := List.map_congr_left fun p hp => by rw [mp p hp]
                          rw [this]
                          exact TpL.snoc ((tn19.ex x20).tx upn) (tv.tx upn)
                        · exact ((((tw19.ex x20).tx upn).ex x21).tx upw)
        · cases st with
          | cons h st => simp at hf
          | nil =>
            rw [K49.runN_nil] at hrn
            cases hrn
            refine ⟨xH.trans x12, LsD.ex x12 hpcH, ord', _, _, _, _, _, _, _, ?_, cloH, x12 _ _ hdkH, LsD.ex x12 hnlH, rfl⟩
            rw [List.take_succ_eq_append_getElem (List.getElem?_eq_some_iff.mp qs).1, (List.getElem?_eq_some_iff.mp qs).2, List.map_append]
            exact o'
    · rintro σ H9 ⟨x9, hpc9, ord, v6, v7, v8, v9, v10, v11, v12, o, clo, hdk9, hnl9, rfl⟩
      rw [List.length_map, List.take_length] at o
      have o' : OrdOk (RepM S1.nodes S2.nodes) (gM S1.nodes S2.nodes) ord (K49.roots VN (K49.meet (val S1) (val S2))) := by
        rw [← K49.joined_roots o1.can o2.can VN]
        rw [← hrows] at o
        rw [List.map_map]
        exact o
      have hin : ∀ r ∈ rows, r.2 ∈ ord := fun r hr => by
        have h : gM S1.nodes S2.nodes r.2 ∈ ord.map (gM S1.nodes S2.nodes) := by
          rw [o.eq]
          exact K49.visits_mem (List.mem_map.mpr ⟨r, hr, rfl⟩)
        obtain ⟨j, hj, e⟩ := List.mem_map.mp h
        have := rp.inj _ _ (o.all j hj) (jrep r hr) e
        exact this ▸ hj
      have hLo9 : LsD lo ((joined VN S1.olds S2.olds).map rowD) H9 := LsD.ex x9 hLo6
      have hLn9 : LsD ln ((joined VN S1.news S2.news).map rowD) H9 := LsD.ex x9 hLn
      have hi1 : ∀ r ∈ joined VN S1.olds S2.olds, r.2 ∈ ord := fun r hr => hin r (by rw [← hrows]; exact List.mem_append_left _ hr)
      have hi2 : ∀ r ∈ joined VN S1.news S2.news, r.2 ∈ ord := fun r hr => hin r (by rw [← hrows]; exact List.mem_append_right _ hr)
      refine q_seq ?_
      refine ⟨_, rfl, _, rfl, (by show 2 ≤ sizeLine; decide), fun pt hpt => ⟨pt, rfl, ⟨_, SqT.of upd_same⟩, fun lp hlp => ?_⟩⟩
      have xt : Ex H9 (L2.upd H9 pt (.tup [.ref lo, .ref ln])) := Ex.new hpt
      have hpt' : (L2.upd H9 pt (.tup [.ref lo, .ref ln])) pt = some (.tup [.ref lo, .ref ln]) := upd_same
      generalize L2.upd H9 pt (.tup [.ref lo, .ref ln]) = Ht at *
      refine lc_tup (K := K) (a := pt) (xs := [.ref lo, .ref ln]) (fun i H10 => Ex Ht H10 ∧ ∃ el : List Addr, el.length = i ∧ H10 lp = some (.lst (el.map V.ref)) ∧ ∀ j e, el[j]? = some e → e ≠ lp ∧ LsD e ((joined VN (S1.side (j == 1)) (S2.side (j == 1))).map fun r => pyP (r.1, K49.pos ord r.2)) H10)
          ⟨Ex.new hlp, [], rfl, upd_same, fun j e hj => by simp at hj⟩ (fun i H7 _ p => SqT.of (p.1 _ _ hpt')) ?_ ?_
      · rintro i u H10 hi ⟨x10, el, hel, hlp10, hes⟩
        obtain ⟨dq, s, rfl, hs, hq, hio⟩ : ∃ q s, u = .ref q ∧ (i == 1) = s ∧ LsD q ((joined VN (S1.side s) (S2.side s)).map rowD) H10 ∧ ∀ r ∈ joined VN (S1.side s) (S2.side s), r.2 ∈ ord := by
          match i, hi with
          | 0, hi => exact ⟨lo, false, by simpa using hi.symm, rfl, LsD.ex (xt.trans x10) hLo9, hi1⟩
          | 1, hi => exact ⟨ln, true, by simpa using hi.symm, rfl, LsD.ex (xt.trans x10) hLn9, hi2⟩
          | i + 2, hi => simp at hi
        refine ⟨rfl, ?_⟩
        rw [show ∀ (Q : Bool → Hp → Prop) σ H, tYes σ H Q = Q true H from fun _ _ _ => rfl]
        rw [if_pos rfl]
        have jls := jl (S1.side s) (S2.side s)
        refine en_is (en_lcL (as := joined VN (S1.side s) (S2.side s)) (enc := rowD) (ev_var rfl) hq (by omega) (fun r => some (pyP (r.1, K49.pos ord r.2))) fun r v H11 hz x11 t Q' kk => ?_) (filterMap_some _ _) H10 (Ex.refl _) _ fun e ys H11 he11 x11 h11 t11 => ⟨el.map V.ref, x11 _ _ hlp10, sz_lt (by
            rw [List.length_map, hel]
            have := (List.getElem?_eq_some_iff.mp hi).1
            simp at this
            omega), Ex.mut (x10.trans x11) hlp, el ++ [e], by simp [hel], ?_, fun j u hj => ?_⟩
        · refine g_tup3 t fun w6 w7 w8 t6 t7 t8 => ?_
          have := t6.inv_str
          subst this
          have := t7.inv_int
          subst this
          have := t8.inv_int
          subst this
          refine kk _ rfl et_yes fun d hd => ?_
          cases hd
          exact ed_tup (ead_cons (ed_var rfl t6) (ead_cons (int_d (ev_dgetT (p := r.2) (ev_var rfl) (ed_tup (ead_cons (ed_var rfl t7) (ead_cons (ed_var rfl t8) ead_nil)) (by simp)) ((xt.trans (x10.trans x11)) _ _ hdk9) (by rw [knK_val, if_pos (hio r hz)]))) ead_nil)) (by simp)
        · rw [upd_same, List.map_append]; rfl
        · have nel : e ≠ lp := fun z => by rw [z, hlp10] at he11; cases he11
          have up : TX H11 (L2.upd H11 lp (.lst (el.map V.ref ++ [V.ref e]))) := TX.upd_lst (x11 _ _ hlp10)
          by_cases hjl : j < el.length
          · rw [List.getElem?_append_left hjl] at hj
            obtain ⟨this, hu⟩ := hes j u hj
            exact ⟨this, (LsD.ex x11 hu).keep (upd_ne this) up⟩
          · have hj2 : j = el.length := by
              have := (List.getElem?_eq_some_iff.mp hj).1
              simp at this
              omega
            subst hj2
            rw [List.getElem?_append_right (Nat.le_refl _), Nat.sub_self] at hj
            have : e = u := by simpa using hj
            subst this
            rw [hel, hs]
            exact ⟨nel, LsD.keep ⟨ys, h11, t11⟩ (upd_ne nel) up⟩
      · rintro H10 ⟨x10, el, hel, hlp10, hes⟩
        obtain ⟨f0, f1, rfl⟩ : ∃ f0 f1, el = [f0, f1] := by
          match el, hel with
          | [f0, f1], _ => exact ⟨f0, f1, rfl⟩
        have g0 := (hes 0 f0 rfl).2
        have g1 := (hes 1 f1 rfl).2
        dsimp only
        refine ⟨_, rfl, ?_⟩
        refine ev_op (ev_var rfl) ev_c (rv_ixL (SqL.of hlp10) (atI_nat (j := 0) rfl)) H10 (Ex.refl _) _ fun H11 x11 => ?_
        refine ev_op (ev_var rfl) ev_c (rv_ixL (SqL.of hlp10) (atI_nat (j := 1) rfl)) H11 x11 _ fun H12 x12 => ?_
        refine ⟨by show 3 ≤ sizeLine; decide, fun p hp => ?_⟩
        have ee := x11.trans x12
        have eN : Ex H12 (L2.upd H12 p (.tup [.ref nl, .ref f0, .ref f1])) := Ex.new hp
        have x912 := (xt.trans x10).trans (ee.trans eN)
        refine k p nl f0 f1 _ ((x16.trans x9).trans x912) upd_same ?_
        rw [← K49.met_eq o1.can o2.can o']
        refine ⟨?_, ?_, ?_⟩
        · have := LsD.ex x912 hnl9
          show LsD nl ((ord.map (ndM S1.nodes S2.nodes ord)).map pyN) _
          rw [List.map_map]
          exact this
        · have := LsD.ex (ee.trans eN) g0
          show LsD f0 (((joined VN S1.olds S2.olds).map fun r => (r.1, K49.pos ord r.2)).map pyP) _
          rw [List.map_map]
          exact this
        · have := LsD.ex (ee.trans eN) g1
          show LsD f1 (((joined VN S1.news S2.news).map fun r => (r.1, K49.pos ord r.2)).map pyP) _
          rw [List.map_map]
          exact this
end
end K49W

-- part K49F15
namespace K49W
open PySem PySem.Spec PyProof.Rows L2 Evl
open K49 (Nd Rw WfN RT val Ix ndO tmO nrm NmI RepM gM opp innM Can joined nm0 runF isNon isOp)
/-! ### leads -/
def ldK (ls : List (Ix × Ix)) : List (Key × V) := ls.map fun p => (Sum.inl (ixI p.1), V.int (ixI p.2))
theorem ldK_val (h : Ix) : ∀ ls : List (Ix × Ix), valV (ldK ls) (Sum.inl (ixI h)) = (ls.lookup h).map fun u => V.int (ixI u)
  | [] => rfl
  | (k, u) :: ls => by
    have ih := ldK_val h ls
    unfold ldK valV at ih ⊢
    rw [List.map_cons, List.find?_cons, List.lookup_cons]
    by_cases q : h = k
    · subst q
      simp
    · have h' : ¬ (Sum.inl (ixI k) : Key) = Sum.inl (ixI h) := fun e => q (ixI_inj (by injection e with e; exact e.symm))
      simp only [decide_eq_false h']
      have : (h == k) = false := beq_eq_false_iff_ne.mpr q
      rw [this]
      exact ih
theorem ldK_put {ls : List (Ix × Ix)} {h u : Ix} (q : ls.lookup h = none) : putK (ldK ls) (Sum.inl (ixI h)) (V.int (ixI u)) = ldK (ls ++ [(h, u)]) := by
  rw [putK_new _ (by rw [ldK_val, q]; rfl)]
  unfold ldK
  rw [List.map_append]; rfl
theorem lk_none {ls : List (Ix × Ix)} {h : Ix} (q : ls.lookup h = none) : h ∉ ls.map (·.1) := by
  induction ls with
  | nil => simp
  | cons p ls ih =>
    obtain ⟨k, u⟩ := p
    rw [List.lookup_cons] at q
    cases e : (h == k) with
    | true => rw [e] at q; cases q
    | false =>
      rw [e] at q
      rw [List.map_cons, List.mem_cons]
      rintro (z | z)
      · have z : h = k := z
        rw [z] at e; simp at e
      · exact ih q z
section
variable {P : Program} {w : World} {K : PySem.W.Frag} {mg : Str → Option Value} {base : Heap}
/-! ### does_follow -/
theorem sc_follow : FnScope ["one", "other", "leads", "rows", "waiting", "here", "there", "node", "goal", "inner", "name", "mine", "theirs"] ["one", "other"] (defScope (top 25)) := ⟨rfl, rfl, rfl, by decide +kernel, rfl, by decide +kernel, by decide +kernel⟩
def spFollow (K : PySem.W.Frag) : Sp := fun vs H Q _ => ∃ (x y : Addr) (S1 S2 : Rw Str Str), vs = [.ref x, .ref y] ∧ ShI K x S1 H ∧ ShI K y S2 H ∧ ShOk S1 ∧ ShOk S2 ∧
  ∀ b H', Ex H H' → (b = true ↔ K49.Le VN (val S1) (val S2)) → Q (.bl b) H'
theorem cal_follow (T : Nm K mg) (Sh : ShK K) (F : Df K (dG 25 "does_follow")) (cJ : Cal P w K mg base 2 "joined_sides" ["mine", "theirs"] spJoined) (cP : Cal P w K mg base 2 "operand_pairs" ["one", "other", "pair"] (spPairs K)) (cS : Cal P w K mg base 1 "seen_node" ["shape", "at"] (spSeen K)) : Cal P w K mg base 3 "does_follow" ["one", "other"] (spFollow K) := by
  refine cal_of T F (by decide +kernel) sc_follow (fun _ _ _ _ _ _ us hl => match us, hl with | [_, _], _ => rfl) (fun vs H Q E h => ?_) fun cdv A outer s H vs Q E hr h => ?_
  · obtain ⟨x, y, S1, S2, rfl, _⟩ := h
    rfl
  · obtain ⟨x, y, S1, S2, rfl, hx, hy, o1, o2, k⟩ := h
    have nd := sc_follow.nd
    have hu := hu_of hr
    refine ⟨_, (pss_cons (ps_set (i := 2) nd rfl (Or.inl rfl) pe_dnewK) (pss_cons (ps_set (i := 3) nd rfl (Or.inl rfl) (pe_op op_cat (pe_cal cJ (hr.mono (by decide)) (by rfl) (pa_cons (pe_fld (pv 0) (by rfl)) (pa_cons (pe_fld (pv 1) (by rfl)) pa_nil))) (pe_cal cJ (hr.mono (by decide)) (by rfl) (pa_cons (pe_fld (pv 0) (by rfl)) (pa_cons (pe_fld (pv 1) (by rfl)) pa_nil))))) (pss_cons (ps_setLc (i := 4) (own := [("name", 10), ("mine", 11), ("theirs", 12)]) (g := gTup K 3 (gCons (gName 10) (gCons (gName 11) (gCons (gName 12) gNil)))) (tt := tYes) (te := tTup (tCons (tVar 11) (tCons (tVar 12) tNil))) rfl nd rfl rfl (sw_true rfl rfl rfl (by decide +kernel)) (pi_list (pv 3)) (blkOk_by (N := ["one", "other", "leads", "rows", "waiting", "here", "there", "node", "goal", "inner", "name", "mine", "theirs"]) (sc := defScope (top 25)) (by decide +kernel))
        (fun _ _ _ _ _ => pg_tup rfl (pgs_cons (pg_name (i := 10) nd rfl (Or.inl rfl)) (pgs_cons (pg_name (i := 11) nd rfl (Or.inl rfl)) (pgs_cons (pg_name (i := 12) nd rfl (Or.inl rfl)) pgs_nil)))) (fun _ _ _ _ _ => pts_nil) (fun _ _ _ _ _ => pe_tup (pa_cons (pv 11) (pa_cons (pv 12) pa_nil)))) (pss_cons (ps_while PassesOwn.never (q_gt (q_len T (pa_cons (pv 4) pa_nil)) pe_int)
        (pss_cons (ps_asg (q_pop (pv 4)) (pg_tup rfl (pgs_cons (pg_name (i := 5) nd rfl (Or.inl rfl)) (pgs_cons (pg_name (i := 6) nd rfl (Or.inl rfl)) pgs_nil)))) (pss_cons (ps_par (i := 7) (j := 8) rfl nd rfl rfl (by decide) rfl rfl (pa_cons (pe_cal cS (hr.mono (by decide)) (by rfl) (pa_cons (pv 0) (pa_cons (pv 5) pa_nil))) (pa_cons (pe_cal cS (hr.mono (by decide)) (by rfl) (pa_cons (pv 1) (pa_cons (pv 6) pa_nil))) pa_nil)) (by rfl)) (pss_one (ps_if (q_eqD hr.units (pv 7) (pe_tup pa_nil)) (pss_one (ps_if (q_neD hr.units (pv 8) (pe_tup pa_nil)) (pss_one (ps_ret pe_bl)) pss_nil))
            (pss_one (ps_if (pt_cmp (pc_din hu (pv 5) (pv 2))) (pss_one (ps_if (q_ne (pe_dget hu (pv 2) (pv 5) (fun _ _ => rfl)) (pe_ifExp (q_neD hr.units (pv 8) (pe_tup pa_nil)) (pv 6) (pe_un un_neg pe_int))) (pss_one (ps_ret pe_bl)) pss_nil))
              (pss_cons (ps_dput hu (pv 2) (pv 5) (pe_ifExp (q_neD hr.units (pv 8) (pe_tup pa_nil)) (pv 6) (pe_un un_neg pe_int)) rfl) (pss_one (ps_if (q_some (pv 7)) (pss_cons (ps_set (i := 9) nd rfl (Or.inl rfl) (pe_cal cP (hr.mono (by decide)) (by rfl) (pa_cons (pv 0) (pa_cons (pv 1) (pa_cons (pe_tup (pa_cons (pv 5) (pa_cons (pv 6) pa_nil))) pa_nil))))) (pss_cons (ps_if (q_none (pv 9)) (pss_one (ps_ret pe_bl)) pss_nil) (pss_one (ps_expr (q_extend (pv 4) (pa_cons (pv 9) pa_nil)))))) pss_nil)))))))))) (pss_one (ps_ret pe_bl)))))), ?_⟩
    have w1 := o1.can.wf
    have w2 := o2.can.wf
    intro dl hdl
    have xa : Ex H (L2.upd H dl (.dK [])) := Ex.new hdl
    have hdl1 : (L2.upd H dl (.dK [])) dl = some (.dK []) := upd_same
    generalize L2.upd H dl (.dK []) = H1 at *
    refine q_seq ?_
    obtain ⟨d1, e1, fd1, hd1, fe1, he1⟩ := ev_side (te := tVar 0) (σ := (start ["one", "other", "leads", "rows", "waiting", "here", "there", "node", "goal", "inner", "name", "mine", "theirs"] [.ref x, .ref y]).set 2 (some (.ref dl))) Sh (ev_var rfl) (hx.ex xa)
    obtain ⟨d2, e2, fd2, hd2, fe2, he2⟩ := ev_side (te := tVar 1) (σ := (start ["one", "other", "leads", "rows", "waiting", "here", "there", "node", "goal", "inner", "name", "mine", "theirs"] [.ref x, .ref y]).set 2 (some (.ref dl))) Sh (ev_var rfl) (hy.ex xa)
    refine en_joined fd1 fd2 hd1 hd2 (SdOk.of o1 false) (SdOk.of o2 false) H1 (Ex.refl _) _ fun lo los H2 hlo x2 hLo tLo => ?_
    refine en_joined fe1 fe2 he1 he2 (SdOk.of o1 true) (SdOk.of o2 true) H2 x2 _ fun ln lns H3 hln x3 hLn tLn => ?_
    have jl : ∀ (r1 r2 : List (Str × Nat)), (joined VN r1 r2).length ≤ 3 := fun r1 r2 => by
      unfold joined
      exact Nat.le_trans (List.length_filterMap_le _ _) (by decide)
    have l1 := jl S1.olds S2.olds
    have l2 := jl S1.news S2.news
    refine ⟨lo, ln, los, lns, rfl, rfl, x3 _ _ hLo, hLn, ?_, fun pc hpc => ?_⟩
    · have h3 := tLo.length
      have h4 := tLn.length
      rw [List.length_map] at h3 h4
      exact sz_of (by omega)
    have x13 := x2.trans x3
    have x34 := Ex.new (o := .lst (los ++ lns)) hpc
    have hpc4 : LsD pc (((joined VN S1.olds S2.olds) ++ (joined VN S1.news S2.news)).map rowD) (L2.upd H3 pc (.lst (los ++ lns))) := ⟨_, upd_same, by
      rw [List.map_append]
      exact ((tLo.ex x3).append tLn).ex x34⟩
    generalize L2.upd H3 pc (.lst (los ++ lns)) = H4 at *
    have x14 := x13.trans x34
    have jrep : ∀ r ∈ joined VN S1.olds S2.olds ++ joined VN S1.news S2.news, RepM S1.nodes S2.nodes r.2 := fun r hr => by
      rcases List.mem_append.mp hr with h | h
      · exact K49.joined_rep (b := false) o1.can o2.can r h
      · exact K49.joined_rep (b := true) o1.can o2.can r h
    have hle := K49.follow_iff o1.can o2.can VN
    have hrl : (joined VN S1.olds S2.olds ++ joined VN S1.news S2.news).length ≤ 6 := by rw [List.length_append]; omega
    have hle' : (∃ σ, ∀ p ∈ (joined VN S1.olds S2.olds ++ joined VN S1.news S2.news).map (·.2), K49.Agr S1.nodes S2.nodes σ p) ↔ K49.Le VN (val S1) (val S2) := hle
    generalize joined VN S1.olds S2.olds ++ joined VN S1.news S2.news = rows at hpc4 jrep hle' hrl
    refine q_seq ?_
    refine s_setN (en_is (en_lcL (as := rows) (enc := rowD) (ev_var rfl) hpc4 (by omega) (fun r => some (prD r.2)) fun r v H5 hz x5 t Q' kk => ?_) (filterMap_some _ _)) fun dw ws H5 hdw x5 hw tw => ?_
    · refine g_tup3 t fun w6 w7 w8 t6 t7 t8 => ?_
      refine kk _ rfl et_yes fun d hd => ?_
      cases hd
      exact ed_tup (ead_cons (ed_var rfl t7) (ead_cons (ed_var rfl t8) ead_nil)) (by simp)
    dsimp only
    refine q_seq ?_
    obtain ⟨m0, r, hrun, hspec⟩ := K49.runF_spec w1 w2 o2.can.inj o1.ns.am (st := (rows.map (·.2)).reverse) (fun p hp => by
      rw [List.mem_reverse] at hp
      obtain ⟨z, hz, rfl⟩ := List.mem_map.mp hp
      exact jrep z hz)
    have hfin : r.isSome = true ↔ K49.Le VN (val S1) (val S2) := by
      rw [hspec, ← hle']
      simp only [List.mem_reverse]
    have hdwH : H dw = none := fresh_back (xa.trans x14) hdw
    have ndw : dl ≠ dw := ne_of_none (x14 _ _ hdl1) hdw
    have x05 := (xa.trans x14).trans x5
    refine s_while (fun m σ' H' => Ex H H' ∧ ∃ (st ls : List (Ix × Ix)) (v5 v6 v7 v8 v9 : Option V), runF S1.nodes S2.nodes m st ls = some r ∧ (∀ p ∈ st, RepM S1.nodes S2.nodes p) ∧ (ls.map (·.1)).Nodup ∧ (∀ h ∈ ls.map (·.1), ∃ i, h = some i ∧ i < S1.nodes.length) ∧ st.length + 4 * (S1.nodes.length - ls.length) ≤ 4 * S1.nodes.length + 6 ∧
      H' dl = some (.dK (ldK ls)) ∧ LsD dw (st.reverse.map prD) H' ∧
      σ' = [some (.ref x), some (.ref y), some (.ref dl), some (.ref pc), some (.ref dw), v5, v6, v7, v8, v9, none, none, none]) m0
      ⟨x05, (rows.map (·.2)).reverse, [], none, none, none, none, none, hrun, fun p hp => by
        rw [List.mem_reverse] at hp
        obtain ⟨z, hz, rfl⟩ := List.mem_map.mp hp
        exact jrep z hz, List.nodup_nil, fun h hh => by simp at hh, by simp; omega, (x14.trans x5) _ _ hdl1, ⟨ws, hw, by rw [List.reverse_reverse, List.map_map]; exact tw⟩, rfl⟩ ?_
    rintro m σ' H' ⟨xH, st, ls, v5, v6, v7, v8, v9, hrn, pst, nls, bls, msz, hdlH, hdwH', rfl⟩
    refine ⟨_, et_test (ev_op (ev_lenL (K := K) (ev_var rfl) hdwH') ev_c rv_I0), fun ht H6 x6 => ?_, fun hf H6 x6 => ?_⟩
    · cases st with
      | nil => simp at ht
      | cons p st =>
        cases m with
        | zero => simp [K49.runF] at hrn
        | succ m =>
          refine ⟨_, fun σ2 H2 hw => ⟨m, Nat.lt_succ_self m, hw⟩, ?_⟩
          obtain ⟨h, g⟩ := p
          have hh := pst (h, g) List.mem_cons_self
          have hst' : ∀ z ∈ st, RepM S1.nodes S2.nodes z := fun z hz => pst z (List.mem_cons_of_mem _ hz)
          rw [List.reverse_cons, List.map_append] at hdwH'
          obtain ⟨ws0, hws0, tws0⟩ := LsD.ex x6 hdwH'
          obtain ⟨ws, wv, rfl, tws, twv⟩ := tws0.inv_snoc
          have n1 := ndO_ok o1.ns h
          have n2 := ndO_ok o2.ns g
          have lsn : ls.length ≤ S1.nodes.length := by
            have := K49.nodup_len (r := (List.range S1.nodes.length).map some) nls fun z hz => by
              obtain ⟨i, rfl, hi⟩ := bls z hz
              exact List.mem_map.mpr ⟨i, List.mem_range.mpr hi, rfl⟩
            simpa using this
          have nn := o1.ns.1
          -- pop
          refine ⟨_, rfl, .inl ⟨rfl, _, SqL.of hws0⟩, dw, ws ++ [wv], wv, rfl, rfl, hws0, by simp, ?_⟩
          rw [List.dropLast_concat]
          have up : TX H6 (L2.upd H6 dw (.lst ws)) := TX.upd_lst hws0
          have xH7 : Ex H (L2.upd H6 dw (.lst ws)) := Ex.mut (xH.trans x6) hdwH
          have hdl7 : (L2.upd H6 dw (.lst ws)) dl = some (.dK (ldK ls)) := by rw [upd_ne ndw]; exact x6 _ _ hdlH
          have hdw7 : LsD dw (st.reverse.map prD) (L2.upd H6 dw (.lst ws)) := ⟨ws, upd_same, tws.tx up⟩
          have twv7 := twv.tx up
          generalize L2.upd H6 dw (.lst ws) = H7 at *
          refine g_tup2 twv7 fun v5' v6' t5 t6 => ?_
          have := t5.inv_int
          subst this
          have := t6.inv_int
          subst this
          dsimp only
          refine q_seq ?_
          refine ed_seen (h := h) (ev_var rfl) (ev_var rfl) (hx.ex xH7) hh.1 H7 (Ex.refl _) _ fun mm H8 x8 tm => ?_
          refine ed_seen (h := g) (ev_var rfl) (ev_var rfl) ((hy.ex xH7).ex x8) hh.2 H8 (Ex.refl _) _ fun nn' H9 x9 tn => ⟨mm, nn', rfl, ?_⟩
          dsimp only
          have x79 := x8.trans x9
          have xH9 := xH7.trans x79
          have m1 : EvD (tVar 7) [some (.ref x), some (.ref y), some (.ref dl), some (.ref pc), some (.ref dw), some (.int (ixI h)), some (.int (ixI g)), some mm, some nn', v9, none, none, none] H9 (pyN (ndO S1.nodes h)) := ed_var rfl (tm.ex x9)
          have m2 : EvD (tVar 8) [some (.ref x), some (.ref y), some (.ref dl), some (.ref pc), some (.ref dw), some (.int (ixI h)), some (.int (ixI g)), some mm, some nn', v9, none, none, none] H9 (pyN (ndO S2.nodes g)) := ed_var rfl tn
          have hdl9 := x79 _ _ hdl7
          have hdw9 := LsD.ex x79 hdw7
          have goal : ∀ {H10 : Hp}, Ex H9 H10 → Ev (tIf (tTest (tOp (rNeD K) (tVar 8) (tTup tNil))) (tVar 6) (tUn (rU fun i => .int (-i)) (tC (.int 1)))) [some (.ref x), some (.ref y), some (.ref dl), some (.ref pc), some (.ref dw), some (.int (ixI h)), some (.int (ixI g)), some mm, some nn', v9, none, none, none] H10 (.int (ixI (nm0 S2.nodes g))) := fun {H10} x10 => by
            refine d_int (ed_if (et_test (ev_neD (m2.mono x10) (ed_tup ead_nil (by simp)) (pd_node n2).1 pd_nil)) (fun q => ?_) fun q => ?_)
            · rw [pyN_nil] at q
              have : nm0 S2.nodes g = g := by
                unfold nm0
                cases z : ndO S2.nodes g with
                | opn => rfl
                | non => rw [z] at q; simp [K49.isNon] at q
                | op f xs => rfl
              rw [this]
              exact int_d (ev_var rfl)
            · rw [pyN_nil] at q
              have : nm0 S2.nodes g = none := by
                unfold nm0
                cases z : ndO S2.nodes g with
                | opn => rw [z] at q; simp [K49.isNon] at q
                | non => rfl
                | op f xs => rw [z] at q; simp [K49.isNon] at q
              rw [this]
              exact int_d (ev_un ev_c ru_neg)
          rw [K49.runF] at hrn
          refine s_if (et_test (ev_eqD m1 (ed_tup ead_nil (by simp)) (pd_node n1).1 pd_nil)) (fun hb H10 x10 => ?_) fun hb H10 x10 => ?_
          · rw [pyN_nil] at hb
            rw [if_pos hb] at hrn
            refine s_if (et_test (ev_neD (m2.mono x10) (ed_tup ead_nil (by simp)) (pd_node n2).1 pd_nil)) (fun hb2 H11 x11 => ?_) fun hb2 H11 x11 => ?_
            · rw [pyN_nil] at hb2
              have hb3 : ¬ K49.isNon (ndO S2.nodes g) = true := by simpa using hb2
              rw [if_neg hb3] at hrn
              cases hrn
              refine s_ret ev_c fun H12 x12 => k false H12 (((xH9.trans x10).trans x11).trans x12) (by rw [← hfin]; simp)
            · rw [pyN_nil] at hb2
              have hb3 : K49.isNon (ndO S2.nodes g) = true := by simpa using hb2
              rw [if_pos hb3] at hrn
              have x911 := x10.trans x11
              exact ⟨xH9.trans x911, st, ls, _, _, _, _, _, hrn, hst', nls, bls, by rw [List.length_cons] at msz; omega, x911 _ _ hdl9, LsD.ex x911 hdw9, rfl⟩
          · rw [pyN_nil] at hb
            have hbn : ¬ K49.isNon (ndO S1.nodes h) = true := by simp [hb]
            rw [if_neg hbn] at hrn
            have xH10 := xH9.trans x10
            have hdl10 := x10 _ _ hdl9
            refine s_if (et_is (b := (ls.lookup h).isSome) (et_B (ev_din (k := Sum.inl (ixI h)) rfl (ev_var rfl) (ev_var rfl) hdl10)) (by rw [ldK_val, Option.isSome_map])) (fun hb2 H11 x11 => ?_) fun hb2 H11 x11 => ?_
            · cases q : ls.lookup h with
              | none => rw [q] at hb2; cases hb2
              | some u =>
                rw [q] at hrn
                simp only at hrn
                have x911 := x10.trans x11
                refine s_if (et_is (b := !decide (u = nm0 S2.nodes g)) (et_test (ev_neI (ev_dget (k := Sum.inl (ixI h)) rfl (ev_var rfl) (ev_var rfl) (x11 _ _ hdl10) (by rw [ldK_val, q]; rfl)) (goal x911))) (by
                  have : (ixI u = ixI (nm0 S2.nodes g)) ↔ u = nm0 S2.nodes g := ⟨ixI_inj, fun z => by rw [z]⟩
                  rw [decide_eq_decide.mpr this])) (fun hb3 H12 x12 => ?_) fun hb3 H12 x12 => ?_
                · have hb4 : ¬ u = nm0 S2.nodes g := by simpa using hb3
                  rw [if_neg hb4] at hrn
                  cases hrn
                  refine s_ret ev_c fun H13 x13 => k false H13 ((((xH10).trans x11).trans x12).trans x13) (by rw [← hfin]; simp)
                · have hb4 : u = nm0 S2.nodes g := by simpa using hb3
                  rw [if_pos hb4] at hrn
                  have x912 := x911.trans x12
                  exact ⟨xH9.trans x912, st, ls, _, _, _, _, _, hrn, hst', nls, bls, by rw [List.length_cons] at msz; omega, x912 _ _ hdl9, LsD.ex x912 hdw9, rfl⟩
            · cases q : ls.lookup h with
              | some u => rw [q] at hb2; cases hb2
              | none =>
                rw [q] at hrn
                simp only at hrn
                have x911 := x10.trans x11
                have hno := lk_none q
                obtain ⟨i, hi, hil⟩ : ∃ i, h = some i ∧ i < S1.nodes.length := by
                  cases h with
                  | none => exact absurd (show K49.isNon (ndO S1.nodes none) = true from rfl) hbn
                  | some i => exact ⟨i, rfl, (hh.1 i rfl).1⟩
                have lslt : ls.length < S1.nodes.length := by
                  have := K49.nodup_len (l := h :: ls.map (·.1)) (r := (List.range S1.nodes.length).map some) (List.nodup_cons.mpr ⟨hno, nls⟩) fun z hz => by
                    rcases List.mem_cons.mp hz with rfl | hz
                    · exact List.mem_map.mpr ⟨i, List.mem_range.mpr hil, hi.symm⟩
                    · obtain ⟨j, rfl, hj⟩ := bls z hz
                      exact List.mem_map.mpr ⟨j, List.mem_range.mpr hj, rfl⟩
                  simp at this
                  omega
                have nls' : ((ls ++ [(h, nm0 S2.nodes g)]).map (·.1)).Nodup := by
                  rw [List.map_append]
                  refine List.nodup_append.mpr ⟨nls, by simp, fun a ha b hb e => ?_⟩
                  have : b = h := by simpa using hb
                  subst this
                  subst e
                  exact hno ha
                have bls' : ∀ z ∈ (ls ++ [(h, nm0 S2.nodes g)]).map (·.1), ∃ i, z = some i ∧ i < S1.nodes.length := fun z hz => by
                  rw [List.map_append] at hz
                  rcases List.mem_append.mp hz with hz | hz
                  · exact bls z hz
                  · have : z = h := by simpa using hz
                    subst this
                    exact ⟨i, hi, hil⟩
                refine q_seq ?_
                refine s_dput (k := Sum.inl (ixI h)) (v := .int (ixI (nm0 S2.nodes g))) rfl (goal x911) (ev_var rfl) (ev_var rfl) (x11 _ _ hdl10) (by unfold ldK; rw [List.length_map]; omega) fun H12 x12 => ?_
                rw [ldK_put q]
                have x912 := x911.trans x12
                have upl : TX H12 (L2.upd H12 dl (.dK (ldK (ls ++ [(h, nm0 S2.nodes g)])))) := TX.upd_dK (x912 _ _ hdl9)
                have xH13 : Ex H (L2.upd H12 dl (.dK (ldK (ls ++ [(h, nm0 S2.nodes g)])))) := Ex.mut (xH9.trans x912) hdl
                have hdl13 : (L2.upd H12 dl (.dK (ldK (ls ++ [(h, nm0 S2.nodes g)])))) dl = some (.dK (ldK (ls ++ [(h, nm0 S2.nodes g)]))) := upd_same
                have hdw13 := (LsD.ex x912 hdw9).keep (H' := L2.upd H12 dl (.dK (ldK (ls ++ [(h, nm0 S2.nodes g)])))) (upd_ne ndw.symm) upl
                have tm13 := (tm.ex (x9.trans x912)).tx upl
                generalize L2.upd H12 dl (.dK (ldK (ls ++ [(h, nm0 S2.nodes g)]))) = H13 at *
                refine s_if (et_B (ev_notNo (ed_var rfl tm13))) (fun hb3 H14 x14 => ?_) fun hb3 H14 x14 => ?_
                · rw [pyN_none] at hb3
                  have hop : K49.isOp (ndO S1.nodes h) = true := by
                    cases z : ndO S1.nodes h with
                    | opn => rw [z] at hb3; simp at hb3
                    | non => rw [z] at hbn; simp [K49.isNon] at hbn
                    | op f xs => rfl
                  rw [if_pos hop] at hrn
                  have xH14 := xH13.trans x14
                  refine q_cut (fun σ'' H15 => ∃ vi, Ex H14 H15 ∧ ((opp S1.nodes S2.nodes (h, g) = none ∧ vi = .non) ∨ ∃ l, vi = .ref l ∧ l ≠ dw ∧ ∃ inner, opp S1.nodes S2.nodes (h, g) = some inner ∧ LsD l (inner.map prD) H15) ∧
                    σ'' = [some (.ref x), some (.ref y), some (.ref dl), some (.ref pc), some (.ref dw), some (.int (ixI h)), some (.int (ixI g)), some mm, some nn', some vi, none, none, none]) (fun nx kn => ?_) ?_
                  · obtain ⟨zs, hz, _⟩ := LsD.ex x14 hdw13
                    refine ⟨_, rfl, _, rfl, _, rfl, _, rfl, (by show 2 ≤ sizeLine; decide), fun pp hpp => ?_⟩
                    have xp := Ex.new (o := .tup [.int (ixI h), .int (ixI g)]) hpp
                    exact ⟨x, y, .ref pp, S1, S2, (h, g), rfl, (hx.ex xH14).ex xp, (hy.ex xH14).ex xp, o1, o2, .tup upd_same (.cons (.int _) (.cons (.int _) .nil)), hh, fun hno H15 x15 => kn _ _ ⟨.non, xp.trans x15, .inl ⟨hno, rfl⟩, rfl⟩, fun inner hin l H15 hl x15 hL => kn _ _ ⟨.ref l, xp.trans x15, .inr ⟨l, rfl, (ne_of_none (xp _ _ hz) hl).symm, inner, hin, hL⟩, rfl⟩⟩
                  · rintro σ'' H15 ⟨vi, x15, hc, rfl⟩
                    rcases hc with ⟨hn, rfl⟩ | ⟨l, rfl, hlw, inner, hin, hL⟩
                    · rw [hn] at hrn
                      simp only at hrn
                      cases hrn
                      refine s_if (b := true) (et_is (et_B (ev_isNo (ed_var rfl .non))) (by simp)) (fun _ H16 x16 => ?_) fun z => by cases z
                      refine s_ret ev_c fun H17 x17 => k false H17 (((xH14.trans x15).trans x16).trans x17) (by rw [← hfin]; simp)
                    · rw [hin] at hrn
                      simp only at hrn
                      refine s_if (b := false) (et_is (et_B (ev_isNv (ev_var rfl))) (by simp)) (fun z => by cases z) fun _ H16 x16 => ?_
                      obtain ⟨zs, hz, tz⟩ := LsD.ex (x14.trans (x15.trans x16)) hdw13
                      obtain ⟨ys, hy', ty⟩ := LsD.ex x16 hL
                      have hil3 : inner.length ≤ 3 := by
                        have := inn_len (n2 := S2.nodes) o1.ns (h, g)
                        unfold innM at this
                        rw [hin] at this
                        exact this
                      have lzs := tz.length
                      have lys := ty.length
                      rw [List.length_map, List.length_reverse] at lzs
                      rw [List.length_map] at lys
                      rw [List.length_cons] at msz
                      refine ⟨_, rfl, .inl ⟨rfl, _, SqL.of hz⟩, _, rfl, dw, l, zs, ys, rfl, rfl, hz, hy', sz_of (by omega), ?_⟩
                      have upw : TX H16 (L2.upd H16 dw (.lst (zs ++ ys))) := TX.upd_lst hz
                      refine ⟨Ex.mut ((xH14.trans x15).trans x16) hdwH, inner.reverse ++ st, ls ++ [(h, nm0 S2.nodes g)], _, _, _, _, _, hrn, fun z hz => ?_, nls', bls', ?_, ?_, ⟨zs ++ ys, upd_same, ?_⟩, rfl⟩
                      · rcases List.mem_append.mp hz with hz | hz
                        · rw [List.mem_reverse] at hz
                          exact (K49.repM w1 w2 o1.can.inj o2.can.inj).down (h, g) hh z (by unfold innM; rw [hin]; exact hz)
                        · exact hst' z hz
                      · rw [List.length_append, List.length_append, List.length_reverse]
                        simp only [List.length_cons, List.length_nil]
                        omega
                      · rw [upd_ne ndw]
                        exact (x14.trans (x15.trans x16)) _ _ hdl13
                      · rw [List.reverse_append, List.reverse_reverse, List.map_append]
                        exact (tz.append ty).tx upw
                · rw [pyN_none] at hb3
                  have hop : ¬ K49.isOp (ndO S1.nodes h) = true := by
                    cases z : ndO S1.nodes h with
                    | opn => simp [K49.isOp]
                    | non => rw [z] at hbn; simp [K49.isNon] at hbn
                    | op f xs => rw [z] at hb3; simp at hb3
                  rw [if_neg hop] at hrn
                  refine ⟨xH13.trans x14, st, ls ++ [(h, nm0 S2.nodes g)], _, _, _, _, _, hrn, hst', nls', bls', ?_, x14 _ _ hdl13, LsD.ex x14 hdw13, rfl⟩
                  rw [List.length_cons] at msz
                  rw [List.length_append]
                  simp only [List.length_cons, List.length_nil]
                  omega
    · cases st with
      | cons h st => simp at hf
      | nil =>
        have : r = some ls := by cases m <;> simpa [K49.runF] using hrn.symm
        subst this
        dsimp only
        refine s_ret ev_c fun H7 x7 => k true H7 ((xH.trans x6).trans x7) (by rw [← hfin]; simp)
end
end K49W

-- part K49O
namespace K49W
open PySem PySem.Spec PyProof.Rows L2 Evl
/-! ### the operators of the class -/
/-- a method with one more argument -/
def MtC (P : Program) (w : World) (K : PySem.W.Frag) (mg : Str → Option Value) (base : Heap) (k : Nat) (m : Str) (sp : Sp) : Prop :=
  ∃ f fd ds, PySem.W.findIn K (.ref (Ca K)) m = some (some (.ref f)) ∧ PySem.W.isFn K (.ref f) = true ∧ FnOk P w K mg base CX0 k f fd ["self", "other"] sp ∧ L2.Binds K fd ["self", "other"] ds ∧ Vals [] ds
theorem MtC.mono {P : Program} {w : World} {K : PySem.W.Frag} {mg : Str → Option Value} {base : Heap} {j k : Nat} {m : Str} {sp : Sp} (c : MtC P w K mg base j m sp) (h : j ≤ k) : MtC P w K mg base k m sp := by
  obtain ⟨f, fd, ds, h1, h2, h3, h4, h5⟩ := c
  exact ⟨f, fd, ds, h1, h2, h3.mono h, h4, h5⟩
structure ShO (K : PySem.W.Frag) : Prop where
  sf : PySem.W.selfFirst K (Ca K) = true
  nf : PySem.W.notFirst K (Ca K) (.ref (Ca K)) = true
  ne : PySem.W.findIn K (.ref (Ca K)) "__ne__" = some (some (.builtin "object.__ne__"))
  mo : PySem.W.mroIn K (Ca K) (.type "object") = some true
section
variable {X : Cx} {k : Nat} {sp : Sp}
def rBin (K : PySem.W.Frag) (sp : Sp) : R2 := fun x y H Q => ∃ a b dx dy fs gs, x = .ref a ∧ y = .ref b ∧ H a = some (.ins (Ca K) dx fs) ∧ H b = some (.ins (Ca K) dy gs) ∧ sp [x, y] H Q E0
theorem op_cmp {op : CmpOp} (hop : ∀ a b, compareOp op a b = richCompare op a b) (O : ShO X.K) (c : MtC X.prog X.w X.K X.mg X.base k (cmpInfo op).2.1 sp) (hr : Room k X.A) : OpR X (compareOp op) (rBin X.K sp) := by
  intro pins s σ H x y v u Q I rx ry h
  obtain ⟨a, b, dx, dy, fs, gs, rfl, rfl, ha, hb, q⟩ := h
  obtain ⟨f, fd, ds, hs, hf, F, hbn, hd⟩ := c
  cases (show v = Value.ref a from rx)
  cases (show u = Value.ref b from ry)
  obtain ⟨mA, J, _⟩ := ins_get I.hok ha
  obtain ⟨mB, J', _⟩ := ins_get I.hok hb
  obtain ⟨od, J, _⟩ := J.look
  obtain ⟨od', J', _⟩ := J'.look
  obtain ⟨m, hF⟩ := I.fr
  rw [hop]
  refine PySem.W.cmp_K (op := op) (tb := .ref (Ca X.K)) hr.units0 hF I.ok.mod.kin J J'.type O.nf hs hf ?_
  refine wpAny_mono (run_fn (us := [.ref a, .ref b]) (vs := [.ref a, .ref b]) F hr hbn hd pass0 I (.cons rfl (.cons rfl .nil)) (by rw [List.append_nil]; exact q)) (fun w s' z => ?_) fun _ _ x => x
  obtain ⟨z', H', I', rz, qz⟩ := z
  exact SlX.cmpback rz ⟨z', H', I', rz, qz⟩
theorem op_bin {op : Operator} (O : ShO X.K) (c : MtC X.prog X.w X.K X.mg X.base k (PySem.dunder op.info.2) sp) (hr : Room k X.A) : OpR X (binaryOp op) (rBin X.K sp) := by
  intro pins s σ H x y v u Q I rx ry h
  obtain ⟨a, b, dx, dy, fs, gs, rfl, rfl, ha, hb, q⟩ := h
  obtain ⟨f, fd, ds, hs, hf, F, hbn, hd⟩ := c
  cases (show v = Value.ref a from rx)
  cases (show u = Value.ref b from ry)
  obtain ⟨mA, J, _⟩ := ins_get I.hok ha
  obtain ⟨mB, J', _⟩ := ins_get I.hok hb
  obtain ⟨od, J, _⟩ := J.look
  obtain ⟨od', J', _⟩ := J'.look
  obtain ⟨m, hF⟩ := I.fr
  refine PySem.W.binop_K hF I.ok.mod.kin J J'.type O.sf hs hf ?_
  refine wpAny_mono (run_fn (us := [.ref a, .ref b]) (vs := [.ref a, .ref b]) F hr hbn hd pass0 I (.cons rfl (.cons rfl .nil)) (by rw [List.append_nil]; exact q)) (fun w s' z => ?_) fun _ _ x => x
  obtain ⟨z', H', I', rz, qz⟩ := z
  exact SlX.cmpback rz ⟨z', H', I', rz, qz⟩
def rNeq (K : PySem.W.Frag) (sp : Sp) : R2 := fun x y H Q => ∃ a b dx dy fs gs, x = .ref a ∧ y = .ref b ∧ H a = some (.ins (Ca K) dx fs) ∧ H b = some (.ins (Ca K) dy gs) ∧ sp [x, y] H (fun v H' => ∃ b, v = .bl b ∧ Q (.bl (!b)) H') E0
theorem op_neq (O : ShO X.K) (c : MtC X.prog X.w X.K X.mg X.base k "__eq__" sp) (hr : Room (k + 2) X.A) : OpR X (compareOp .NotEq) (rNeq X.K sp) := by
  intro pins s σ H x y v u Q I rx ry h
  obtain ⟨a, b, dx, dy, fs, gs, rfl, rfl, ha, hb, q⟩ := h
  obtain ⟨f, fd, ds, hs, hf, F, hbn, hd⟩ := c
  cases (show v = Value.ref a from rx)
  cases (show u = Value.ref b from ry)
  obtain ⟨mA, J, _⟩ := ins_get I.hok ha
  obtain ⟨mB, J', _⟩ := ins_get I.hok hb
  obtain ⟨od, J, _⟩ := J.look
  obtain ⟨od', J', _⟩ := J'.look
  obtain ⟨m, hF⟩ := I.fr
  have hr1 : Room (k + 1) X.A.in1 := Room.in1 hr
  have hr2 : Room k X.A.in1.in1 := Room.in1 hr1
  have hX := I.kIn
  -- the own ==, two calls down
  have hcall : ∀ A', Room k A' → Env0 X.prog X.w X.K X.mg X.base A' X.stack s H → wpAny (model X.prog X.w) A' (call (.ref f) [.ref a, .ref b]) (fun v s' => ∃ b, v = .bool b ∧ EP X pins σ Q (.bool (!b)) s') X.xe s := fun A' hrA e0 => by
    have r2 : Vals [V.ref a, V.ref b] ([Value.ref a, Value.ref b] ++ ds) := by
      have : Vals ([V.ref a, V.ref b] ++ []) ([Value.ref a, Value.ref b] ++ ds) := Vals.append (.cons rfl (.cons rfl .nil)) hd
      simpa using this
    have hl := F.len _ _ _ _ q
    refine wpAny_call (codeAny_mono (F.run A' X.stack s H ⟨[.ref a, .ref b], []⟩ ([.ref a, .ref b] ++ ds) [.ref a, .ref b] _ E0 hrA e0 (hbn s [.ref a, .ref b] hX (by rw [← r2.length]; exact hl)) r2 q) fun r s' hq => ?_)
    cases r with
    | error e => exact pass0 pins σ H s e s' I hq
    | ok fl =>
      cases fl with
      | ret w =>
        obtain ⟨z, H', I', rz, b', ez, qz⟩ := I.after hq
        subst ez
        obtain rfl : w = Value.bool b' := rz
        exact ⟨b', rfl, .bl (!b'), H', I', rfl, qz⟩
      | next => exact False.elim hq
      | brk => exact False.elim hq
      | cont => exact False.elim hq
  have hcall1 := hcall X.A.in1 (hr1.mono (Nat.le_succ k)) I.env0.in1
  have hu : X.A.units < cLine := hr.units0
  have hu1 : X.A.in1.units < cLine := hr1.units0
  unfold compareOp
  unfold richCompare
  simp only [oneThing_ref]
  refine wpAny_holding ?_
  refine wpAny_bind (wpAny_cRoomFor hu ?_)
  rw [cmpInfo_NotEq]
  dsimp only
  refine wpAny_bind (J.type.here ?_)
  refine wpAny_bind (J'.type.here ?_)
  rw [show (Value.ref (Ca X.K) != Value.ref (Ca X.K)) = false from by simp]
  simp only [Bool.false_eq_true, if_false]
  refine wpAny_bind (wpAny_pure ?_)
  simp only [Bool.false_eq_true, if_false]
  have body : wpAny (model X.prog X.w) X.A.in1 (Builtin.«object.__ne__» ⟨[.ref a, .ref b], []⟩) (fun fin s' => ∃ b, fin = .done (.ret (.bool (!b))) ∧ EP X pins σ Q (.bool (!b)) s') X.xe s := by
    unfold Builtin.«object.__ne__»
    repeat (first
      | with_reducible refine wpAny_cRoomFor hu1 ?_
      | (refine wpAny_bind (m := callSpecialIfBound? (.ref a) (Str.ofString "__eq__") [.ref b]) (PySem.W.ifBound_K hX J hs hf (wpAny_mono hcall1 (fun r s' hr => by
          obtain ⟨b, rfl, hq⟩ := hr
          exact wpAny_bind (m := truthy (.bool _)) (wpAny_truthy_bool (wpAny_pure ⟨b, rfl, hq⟩))) fun _ _ e => e)))
      | wp_step)
  have one : wpAny (model X.prog X.w) X.A (tryCompare (.ref a) "__ne__" (.ref b)) (fun r s' => ∃ b, r = some (.bool (!b)) ∧ EP X pins σ Q (.bool (!b)) s') X.xe s := by
    simp only [tryCompare]
    refine wpAny_bind ?_
    simp only [callSpecialIfBound?, bindSpecialIfBound?]
    refine wpAny_holding (wpAny_bind (wpAny_bind (wpAny_bind (J.type.here ((PySem.W.looks_findIn hX O.ne).here ?_)))))
    simp only [PySem.F.cmp_object.ne.bind]
    refine wpAny_bind (wpAny_askSetting (wpAny_ite ?_))
    have hi : PySem.W.Looks (model X.prog X.w) s.heap (isInstance (.ref a) (.type "object")) true := J.type.andThen (PySem.W.looks_mroIn hX O.mo)
    have go : wpAny (model X.prog X.w) X.A (call (.builtin "object.__ne__") [.ref a, .ref b]) (fun v s' => ∃ b, v = .bool (!b) ∧ EP X pins σ Q (.bool (!b)) s') X.xe s :=
      wpAny_call (codeAny_call_builtin PySem.F.cmp_object.ne.plain PySem.F.cmpEntry_ne (PySem.W.check_slot PySem.F.cmpKind_ne PySem.F.cmpSplit_ne hi (PySem.F.cmpArgs_ne _ _) (wpAny_mono body (fun fin s' hq => by
        obtain ⟨b, rfl, hq⟩ := hq
        exact ⟨b, rfl, hq⟩) fun _ _ e => e)))
    have fin : wpAny (model X.prog X.w) X.A (call (.builtin "object.__ne__") ([.ref a] ++ [.ref b]) >>= fun v => pure (some v)) (fun r s' => ∃ b, r = some (.bool (!b)) ∧ EP X pins σ Q (.bool (!b)) s') X.xe s :=
      wpAny_bind (wpAny_mono go (fun v s' h' => wpAny_pure (by obtain ⟨b, rfl, hq⟩ := h'; exact ⟨b, rfl, hq⟩)) fun _ _ h' => h')
    have fin2 : wpAny (model X.prog X.w) X.A (call (.builtin "object.__ne__") ([.ref a] ++ [.ref b]) >>= fun v => pure (some v)) (fun r s' => wpAny (model X.prog X.w) X.A (match r with
      | some .notImplemented | none => pure none
      | some v => pure (some v)) (fun r s' => ∃ b, r = some (.bool (!b)) ∧ EP X pins σ Q (.bool (!b)) s') X.xe s') X.xe s :=
      wpAny_mono fin (fun r s' hq => by obtain ⟨b, rfl, hq⟩ := hq; exact wpAny_pure ⟨b, rfl, hq⟩) fun _ _ e => e
    split
    · exact wpAny_bind (wpAny_pure (wpAny_pure fin2))
    · exact wpAny_tryCatch (wpAny_bind (wpAny_pure (wpAny_pure fin2)))
  refine wpAny_bind (wpAny_mono one (fun v s' hv => ?_) fun _ _ e => e)
  obtain ⟨b, rfl, hq⟩ := hv
  first | exact wpAny_pure hq | exact wpAny_pure (wpAny_pure hq)
end
end K49W

-- part K49F16
namespace K49W
open PySem PySem.Spec PyProof.Rows L2 Evl
open K49 (Nd Rw RT val meet)
/-! ### == of the sides -/
def dqB (r1 r2 : List (Str × Nat)) : Bool := (r1.length == r2.length) && r1.all fun p => decide (lkp r2 p.1 = some p.2)
theorem dqB_iff {r1 r2 : List (Str × Nat)} (o1 : SdOk r1) (o2 : SdOk r2) (c1 : r1 = VN.filterMap fun n => (lkp r1 n).map fun i => (n, i)) (c2 : r2 = VN.filterMap fun n => (lkp r2 n).map fun i => (n, i)) : dqB r1 r2 = true ↔ r1 = r2 := by
  constructor
  · intro h
    unfold dqB at h
    simp only [Bool.and_eq_true, beq_iff_eq, List.all_eq_true, decide_eq_true_eq] at h
    obtain ⟨hl, ha⟩ := h
    have sub : ∀ p ∈ r1, p ∈ r2 := fun p hp => lkp_mem (ha p hp)
    have n1 : r1.Nodup := K49.nodup_of_map (·.1) o1.nd
    have e : ∀ n, lkp r1 n = lkp r2 n := fun n => by
      cases q : lkp r1 n with
      | some i => exact (ha _ (lkp_mem q)).symm
      | none =>
        cases q2 : lkp r2 n with
        | none => rfl
        | some j =>
          have hm := lkp_mem q2
          have hno : (n, j) ∉ r1 := fun z => lkp_none.mp q (List.mem_map.mpr ⟨_, z, rfl⟩)
          have := K49.nodup_len (l := (n, j) :: r1) (r := r2) (List.nodup_cons.mpr ⟨hno, n1⟩) fun a ha => by
            rcases List.mem_cons.mp ha with rfl | ha
            · exact hm
            · exact sub a ha
          simp at this
          omega
    rw [c1, c2]
    congr 1
    funext n
    rw [e n]
  · rintro rfl
    unfold dqB
    simp only [beq_self_eq_true, Bool.true_and, List.all_eq_true, decide_eq_true_eq]
    exact fun p hp => lkp_of o1.nd hp
section
variable {X : Cx}
theorem dq_hits {A : Around} {s : Shared} {r2 : List (Str × Nat)} {vb : List (Key × Value)} (rb : KV (kvP r2) vb) : ∀ {r1 : List (Str × Nat)} {va : List (Key × Value)}, KV (kvP r1) va → PySem.W.KeqHits A s vb va (r1.all fun p => decide (lkp r2 p.1 = some p.2))
  | [], va, ra => by
    unfold KV kvP at ra
    cases ra
    exact .nil
  | p :: r1, va, ra => by
    unfold KV kvP at ra
    rw [List.map_cons] at ra
    cases ra with
    | cons h t =>
      rename_i q qs
      obtain ⟨k, v⟩ := q
      obtain ⟨h1, h2⟩ := h
      have h1 : (Sum.inr p.1 : Key) = k := h1
      subst h1
      obtain ⟨t1, ht1⟩ := (show ∃ t, v = Value.int (p.2 : Nat) t from h2)
      subst ht1
      have ih := dq_hits (A := A) (s := s) rb (r1 := r1) (va := qs) t
      have rr := rb.val (Sum.inr p.1)
      rw [kvP_val] at rr
      rw [List.all_cons]
      cases q : lkp r2 p.1 with
      | none =>
        rw [q] at rr
        have := RelO.none_of rr
        simp only [reduceCtorEq, decide_false, Bool.false_and]
        exact .miss this
      | some j =>
        rw [q] at rr
        obtain ⟨y, hy, ry⟩ := RelO.some_of rr
        obtain ⟨t2, ht2⟩ := (show ∃ t, y = Value.int (j : Nat) t from ry)
        subst ht2
        have e := SeqAt.EqAt.int_int (A := A) (s := s) ((p.2 : Nat) : Int) t1 ((j : Nat) : Int) t2
        have e2 : (((p.2 : Nat) : Int) == ((j : Nat) : Int)) = decide (some j = some p.2) := by
          by_cases z : j = p.2
          · simp [z]
          · have : ¬ ((p.2 : Nat) : Int) = ((j : Nat) : Int) := by omega
            simp [z, this]
        rw [e2] at e
        exact .hit hy e ih
def rDq : R2 := fun x y H Q => ∃ (a b : Addr) (r1 r2 : List (Str × Nat)), x = .ref a ∧ y = .ref b ∧ H a = some (.dK (kvP r1)) ∧ H b = some (.dK (kvP r2)) ∧ Q (.bl (dqB r1 r2)) H
theorem op_dq (hu : X.A.units < cLine) : OpR X (compareOp .Eq) rDq := by
  intro pins s σ H x y v u Q I rx ry h
  obtain ⟨a, b, r1, r2, rfl, rfl, ea, eb, q⟩ := h
  obtain rfl : v = Value.ref a := rx
  obtain rfl : u = Value.ref b := ry
  obtain ⟨_, ya, va, ra, da⟩ := dk_of I.hok ea
  obtain ⟨_, yb, vb, rb, db⟩ := dk_of I.hok eb
  have l1 := ra.length
  have l2 := rb.length
  unfold kvP at l1 l2
  rw [List.length_map] at l1 l2
  refine PySem.W.keq_eq (knd := mixKind X.prog X.w) ya yb da db hu (fun _ => dq_hits rb ra) ?_
  rw [← l1, ← l2]
  exact ⟨.bl (dqB r1 r2), H, I, rfl, q⟩
end
section
variable {te tf : TE} {σ : L2.St} {H : Hp} {K : PySem.W.Frag} {x : Addr} {S : Rw Str Str}
theorem ev_dq {a b : Addr} {r1 r2 : List (Str × Nat)} (h : Ev te σ H (.ref a)) (h2 : Ev tf σ H (.ref b)) (ha : H a = some (.dK (kvP r1))) (hb : H b = some (.dK (kvP r2))) : Ev (tOp rDq te tf) σ H (.bl (dqB r1 r2)) := fun H1 e Q q =>
  h H1 e _ fun H2 e2 => h2 H2 (e.trans e2) _ fun H3 e3 => ⟨a, b, r1, r2, rfl, rfl, (e.trans (e2.trans e3)) _ _ ha, (e.trans (e2.trans e3)) _ _ hb, q H3 (e2.trans e3)⟩
/-- list(d.items()) -/
theorem en_items {d : Addr} {rows : List (Str × Nat)} (h : Ev te σ H (.ref d)) (hd : H d = some (.dK (kvP rows))) : EvN (LiI.tListItems te) σ H (rows.map pyP) := fun H1 e Q q =>
  h H1 e _ fun H2 e2 => ⟨d, kvP rows, rfl, (e.trans e2) _ _ hd, fun H' p ts hk hp _ _ hl hts => q p _ H' (fresh_back e2 hp) (e2.trans hk) hl (by
    clear q hl hp hd
    have : ∀ (ts : List Addr) (rows : List (Str × Nat)), Paired (fun (t : Addr) (q : Key × V) => H' t = some (.tup [kV q.1, q.2])) ts (kvP rows) → TpL H' (ts.map V.ref) (rows.map pyP) := by
      intro ts
      induction ts with
      | nil => intro rows h; cases rows with
        | nil => exact .nil
        | cons r rows => unfold kvP at h; rw [List.map_cons] at h; cases h
      | cons t ts ih => intro rows h; cases rows with
        | nil => unfold kvP at h; cases h
        | cons r rows =>
          unfold kvP at h
          rw [List.map_cons] at h
          cases h with
          | cons a b => exact .cons (.tup a (.cons (.str _) (.cons (.int _) .nil))) (ih rows b)
    exact this ts rows hts)⟩
theorem ex_made {H H' : Hp} {x dx : Addr} {o o2 : HO} (hx : H x = none) (hdx : H dx = none) (e : ExB x (L2.upd (L2.upd H dx o) x o2) H') : Ex H H' := fun a u h => by
  have n1 : a ≠ x := fun z => by rw [z, hx] at h; cases h
  have n2 : a ≠ dx := fun z => by rw [z, hdx] at h; cases h
  exact e a u n1 (by rw [upd_ne n1, upd_ne n2]; exact h)
/-- Shape(nodes, olds, news) -/
theorem ep_mk {ta : TA} {a b c : Addr} {R : Rw Str Str} (h : EvAP ta σ H fun vs H' => ∃ a b c, vs = [.ref a, .ref b, .ref c] ∧ RwAt a b c R H') (g : Good R) : EvP (tMk K ta) σ H fun v H' => ∃ z, v = .ref z ∧ ShI K z (RT VN (val R)) H' := fun H1 e Q q =>
  h H1 e _ fun vs H2 e2 ⟨a, b, c, ev, hR⟩ => fun x dx hx hdx ne => by
    subst ev
    have n1 : ∀ y es, LsD y es H2 → LsD y es (L2.upd (L2.upd H2 dx (.own x)) x (.ins (Ca K) dx [])) := fun y es hy => by
      have m1 : y ≠ x := fun z => by obtain ⟨xs, h1, _⟩ := hy; rw [z, hx] at h1; cases h1
      have m2 : y ≠ dx := fun z => by obtain ⟨xs, h1, _⟩ := hy; rw [z, hdx] at h1; cases h1
      refine hy.keep (by rw [upd_ne m1, upd_ne m2]) ((TX.upd_new hdx).trans (TX.upd fun xs z => ?_))
      rw [upd_ne ne.symm, hx] at z; cases z
    exact ⟨x, dx, a, b, c, R, rfl, upd_same, ⟨n1 _ _ hR.1, n1 _ _ hR.2.1, n1 _ _ hR.2.2⟩, g, fun H' eb hS => ⟨rfl, q _ H' (e2.trans (ex_made hx hdx eb)) ⟨x, rfl, hS⟩⟩⟩
structure ShI1 (K : PySem.W.Frag) : Prop where
  ca : PySem.W.findIn K (.ref (Ca K)) "__class__" = some (some (.builtin "object.__class__"))
  cn : PySem.W.specialIn K (.builtin "object.__class__") "__get__" = some (some (.builtin "getset_descriptor.__get__"))
  ct : PySem.W.takesIn K (.builtin "object.__class__") = some true
theorem ev_isiSh (Sh : ShK K) (O : ShO K) (O1 : ShI1 K) (h : Ev te σ H (.ref x)) (hx : ShI K x S H) : Ev (tCB (L2.rIsi K) (tCons te (tCons (tC (.ref (Ca K))) tNil))) σ H (.bl true) := by
  obtain ⟨dx, p, d, e, h1, h2⟩ := hx
  exact ev_isi' h (fun H1 e => .base (.ins (e _ _ h1) Sh.cl O1.ca O1.cn O1.ct O.mo))
where
  ev_isi' {te : TE} {σ : L2.St} {H : Hp} {v : V} (h : Ev te σ H v) (ty : ∀ H1, Ex H H1 → L2.TyX K H1 v (.ref (Ca K))) : Ev (tCB (L2.rIsi K) (tCons te (tCons (tC (.ref (Ca K))) tNil))) σ H (.bl true) := fun H1 e Q q =>
    h H1 e _ fun H2 e2 => ⟨v, .ref (Ca K), .ref (Ca K), .ref (Ca K), true, rfl, .own _, ty H2 (e.trans e2), if_pos (by simp), q H2 e2⟩
end
end K49W

-- part K49F17
namespace K49W
open PySem PySem.Spec PyProof.Rows L2 Evl
open K49 (Nd Rw RT val meet Le)
section
variable {P : Program} {w : World} {K : PySem.W.Frag} {mg : Str → Option Value} {base : Heap}
theorem mt_of {j : Nat} {m q : Str} {k : Nat} {N : List Str} {sp : Sp} (F : Df K (dM j m q)) (hm : Meth K (Ca K) m (He.fAd K ("Shape", some m))) (S : FnScope N ["self", "other"] (defScope (inClass (top 19) j)))
    (hb : ∀ (kV doc pm : Value) (an : Option Addr) (cdv ct : Value) (us : List Value), us.length = (["self", "other"] : List Str).length → bindArgs (PySem.W.fnOf m q (defArgs (inClass (top 19) j)) (defBody (inClass (top 19) j)) (defScope (inClass (top 19) j)) .none kV doc pm an cdv ct) ⟨us, []⟩ = pure ((["self", "other"] : List Str).zip us))
    (len : ∀ vs H Q E, sp vs H Q E → vs.length = (["self", "other"] : List Str).length)
    (hbody : ∀ (cdv : Value) (A : Around) (outer : List Env) (s : Shared) (H : Hp) (vs : List V) (Q : VK) (E : XK), Room k (A.deeper (envOfC q (defScope (inClass (top 19) j)) s.heap.objs.size (He.fAd K ("Shape", some m)) cdv)) → sp vs H Q E →
      ∃ t, PSs (cxOf CX0 P w K mg base N q (defScope (inClass (top 19) j)) (He.fAd K ("Shape", some m)) cdv A outer s H E).nox (defBody (inClass (top 19) j)) t ∧ t { nx := fun _ H' => Q .non H', rt := Q } (start N vs) H) : MtC P w K mg base (k + 1) m sp := by
  obtain ⟨fd, F⟩ := F
  have F' : FunD K m q (defArgs (inClass (top 19) j)) (defBody (inClass (top 19) j)) (defScope (inClass (top 19) j)) [] [] (He.fAd K ("Shape", some m)) fd := F
  refine ⟨He.fAd K ("Shape", some m), fd, [], hm.at_, hm.fn, FunD.ok F' S len fun cdv A outer s H vs Q E hr hsp => ?_, FunD.bindsN F' hb, .nil⟩
  obtain ⟨t, h, q⟩ := hbody cdv A outer s H vs Q E hr hsp
  exact ⟨t, h.nox, q⟩
/-! ### & -/
theorem sc_and : FnScope ["self", "other", "nodes", "olds", "news"] ["self", "other"] (defScope (inClass (top 19) 8)) := ⟨rfl, rfl, rfl, by decide +kernel, rfl, by decide +kernel, by decide +kernel⟩
structure Pair (K : PySem.W.Frag) (vs : List V) (H : Hp) (x y : Addr) (S1 S2 : Rw Str Str) : Prop where
  eq : vs = [.ref x, .ref y]
  h1 : ShI K x S1 H
  h2 : ShI K y S2 H
  o1 : ShOk S1
  o2 : ShOk S2
def spAnd (K : PySem.W.Frag) : Sp := fun vs H Q _ => ∃ (x y : Addr) (S1 S2 : Rw Str Str), Pair K vs H x y S1 S2 ∧ (S1.nodes.length + 1) * (S2.nodes.length + 1) ≤ 900 ∧ Good (RT VN (meet (val S1) (val S2))) ∧
  ∀ z H', Ex H H' → ShI K z (RT VN (val (RT VN (meet (val S1) (val S2))))) H' → Q (.ref z) H'
theorem mt_and (T : Nm K mg) (Sh : ShK K) (O : ShO K) (O1 : ShI1 K) (F : Df K (dM 8 "__and__" "Shape.__and__")) (hm : Meth K (Ca K) "__and__" (He.fAd K ("Shape", some "__and__"))) (cM : Cal P w K mg base 4 "met_rows" ["one", "other"] (spMetRows K)) (cK : MkC P w K mg base 5) : MtC P w K mg base 7 "__and__" (spAnd K) := by
  refine mt_of F hm sc_and (fun _ _ _ _ _ _ us hl => match us, hl with | [_, _], _ => rfl) (fun vs H Q E h => ?_) fun cdv A outer s H vs Q E hr h => ?_
  · obtain ⟨x, y, S1, S2, p, _⟩ := h
    rw [p.eq]; rfl
  · obtain ⟨x, y, S1, S2, ⟨rfl, hx, hy, o1, o2⟩, hz, g, k⟩ := h
    have nd := sc_and.nd
    refine ⟨_, (pss_cons (ps_if (pt_not (pt_val (q_isi T (pa_cons (pv 1) (pa_cons (pe_glob (v := .ref (Ca K)) (by rfl) (T.g "Shape") rfl) pa_nil))))) (pss_one ps_never) pss_nil) (pss_cons (ps_asg (pe_cal cM (hr.mono (by decide)) (by rfl) (pa_cons (pv 0) (pa_cons (pv 1) pa_nil))) (pg_tup rfl (pgs_cons (pg_name (i := 2) nd rfl (Or.inl rfl)) (pgs_cons (pg_name (i := 3) nd rfl (Or.inl rfl)) (pgs_cons (pg_name (i := 4) nd rfl (Or.inl rfl)) pgs_nil))))) (pss_one (ps_ret (q_mk cK hr (pa_cons (pv 2) (pa_cons (pv 3) (pa_cons (pv 4) pa_nil)))))))), ?_⟩
    refine s_if (b := false) (et_is (et_not (a := true) (et_B (ev_isiSh Sh O O1 (ev_var rfl) hy))) rfl) (fun z => by cases z) fun _ H1 e1 => ?_
    refine q_seq ?_
    refine ⟨_, rfl, _, rfl, x, y, S1, S2, rfl, hx.ex e1, hy.ex e1, o1, o2, hz, fun t a b c H2 e2 ht hR => ?_⟩
    refine ⟨t, _, rfl, SqT.of ht, rfl, _, _, rfl, _, _, rfl, _, _, rfl, rfl, ?_⟩
    dsimp only
    refine s_retP (ep_mk (a := a) (b := b) (c := c) (R := RT VN (meet (val S1) (val S2))) (fun H3 e3 Q' q' => ⟨_, rfl, _, rfl, _, rfl, q' _ H3 (Ex.refl _) ⟨a, b, c, rfl, hR.ex e3⟩⟩) g) fun v H3 e3 hv => ?_
    obtain ⟨z, rfl, hS⟩ := hv
    exact k z H3 ((e1.trans e2).trans e3) hS
/-! ### <=, >= -/
def spLe (K : PySem.W.Frag) : Sp := fun vs H Q _ => ∃ (x y : Addr) (S1 S2 : Rw Str Str), Pair K vs H x y S1 S2 ∧ ∀ b H', Ex H H' → (b = true ↔ Le VN (val S1) (val S2)) → Q (.bl b) H'
def spGe (K : PySem.W.Frag) : Sp := fun vs H Q _ => ∃ (x y : Addr) (S1 S2 : Rw Str Str), Pair K vs H x y S1 S2 ∧ ∀ b H', Ex H H' → (b = true ↔ Le VN (val S2) (val S1)) → Q (.bl b) H'
theorem sc_le : FnScope ["self", "other"] ["self", "other"] (defScope (inClass (top 19) 9)) := ⟨rfl, rfl, rfl, by decide +kernel, rfl, by decide +kernel, by decide +kernel⟩
theorem sc_ge : FnScope ["self", "other"] ["self", "other"] (defScope (inClass (top 19) 11)) := ⟨rfl, rfl, rfl, by decide +kernel, rfl, by decide +kernel, by decide +kernel⟩
theorem sc_eq : FnScope ["self", "other"] ["self", "other"] (defScope (inClass (top 19) 13)) := ⟨rfl, rfl, rfl, by decide +kernel, rfl, by decide +kernel, by decide +kernel⟩
theorem mt_le (T : Nm K mg) (Sh : ShK K) (O : ShO K) (O1 : ShI1 K) (F : Df K (dM 9 "__le__" "Shape.__le__")) (hm : Meth K (Ca K) "__le__" (He.fAd K ("Shape", some "__le__"))) (cF : Cal P w K mg base 3 "does_follow" ["one", "other"] (spFollow K)) : MtC P w K mg base 4 "__le__" (spLe K) := by
  refine mt_of F hm sc_le (fun _ _ _ _ _ _ us hl => match us, hl with | [_, _], _ => rfl) (fun vs H Q E h => ?_) fun cdv A outer s H vs Q E hr h => ?_
  · obtain ⟨x, y, S1, S2, p, _⟩ := h
    rw [p.eq]; rfl
  · obtain ⟨x, y, S1, S2, ⟨rfl, hx, hy, o1, o2⟩, k⟩ := h
    refine ⟨_, (pss_cons (ps_if (pt_not (pt_val (q_isi T (pa_cons (pv 1) (pa_cons (pe_glob (v := .ref (Ca K)) (by rfl) (T.g "Shape") rfl) pa_nil))))) (pss_one ps_never) pss_nil) (pss_one (ps_ret (pe_cal cF (hr.mono (by decide)) (by rfl) (pa_cons (pv 0) (pa_cons (pv 1) pa_nil)))))), ?_⟩
    refine s_if (b := false) (et_is (et_not (a := true) (et_B (ev_isiSh Sh O O1 (ev_var rfl) hy))) rfl) (fun z => by cases z) fun _ H1 e1 => ?_
    exact ⟨_, rfl, _, rfl, x, y, S1, S2, rfl, hx.ex e1, hy.ex e1, o1, o2, fun b H2 e2 hb => k b H2 (e1.trans e2) hb⟩
theorem mt_ge (T : Nm K mg) (Sh : ShK K) (O : ShO K) (O1 : ShI1 K) (F : Df K (dM 11 "__ge__" "Shape.__ge__")) (hm : Meth K (Ca K) "__ge__" (He.fAd K ("Shape", some "__ge__"))) (cF : Cal P w K mg base 3 "does_follow" ["one", "other"] (spFollow K)) : MtC P w K mg base 4 "__ge__" (spGe K) := by
  refine mt_of F hm sc_ge (fun _ _ _ _ _ _ us hl => match us, hl with | [_, _], _ => rfl) (fun vs H Q E h => ?_) fun cdv A outer s H vs Q E hr h => ?_
  · obtain ⟨x, y, S1, S2, p, _⟩ := h
    rw [p.eq]; rfl
  · obtain ⟨x, y, S1, S2, ⟨rfl, hx, hy, o1, o2⟩, k⟩ := h
    refine ⟨_, (pss_cons (ps_if (pt_not (pt_val (q_isi T (pa_cons (pv 1) (pa_cons (pe_glob (v := .ref (Ca K)) (by rfl) (T.g "Shape") rfl) pa_nil))))) (pss_one ps_never) pss_nil) (pss_one (ps_ret (pe_cal cF (hr.mono (by decide)) (by rfl) (pa_cons (pv 1) (pa_cons (pv 0) pa_nil)))))), ?_⟩
    refine s_if (b := false) (et_is (et_not (a := true) (et_B (ev_isiSh Sh O O1 (ev_var rfl) hy))) rfl) (fun z => by cases z) fun _ H1 e1 => ?_
    exact ⟨_, rfl, _, rfl, y, x, S2, S1, rfl, hy.ex e1, hx.ex e1, o2, o1, fun b H2 e2 hb => k b H2 (e1.trans e2) hb⟩
/-! ### == -/
def spEq (K : PySem.W.Frag) : Sp := fun vs H Q _ => ∃ (x y : Addr) (S1 S2 : Rw Str Str), Pair K vs H x y S1 S2 ∧ ∀ b H', Ex H H' → (b = true ↔ S1 = S2) → Q (.bl b) H'
theorem pd_nodes {ns : List (Nd Str)} (h : NsOk ns) : Pd (.tuple (ns.map pyN)) := by
  have each : ∀ nd ∈ ns, Pd (pyN nd) ∧ (pyN nd).depth ≤ 2 := fun nd hn => by
    obtain ⟨i, hi⟩ := List.mem_iff_getElem?.mp hn
    exact pd_node (h.2 i nd hi)
  refine ⟨by rw [pln_tup]; exact plnL_map fun nd hn => (each nd hn).1.pl, ?_⟩
  rw [depth_tup]
  have := depthAll_le (n := 2) (l := ns.map pyN) fun a ha => by
    obtain ⟨nd, hn, rfl⟩ := List.mem_map.mp ha
    exact (each nd hn).2
  omega
theorem pyN_inj : ∀ {a b : Nd Str}, pyN a = pyN b → a = b
  | .opn, .opn, _ => rfl
  | .opn, .non, h => by simp [pyN] at h
  | .opn, .op _ _, h => by simp [pyN] at h
  | .non, .opn, h => by simp [pyN] at h
  | .non, .non, _ => rfl
  | .non, .op _ _, h => by simp [pyN] at h
  | .op _ _, .opn, h => by simp [pyN] at h
  | .op _ _, .non, h => by simp [pyN] at h
  | .op f xs, .op g ys, h => by
    simp only [pyN, PyData.tuple.injEq, List.cons.injEq, PyData.str.injEq, and_true] at h
    rw [h.1, ints_inj h.2]
theorem map_inj' {α β : Type} {f : α → β} (hf : ∀ a b, f a = f b → a = b) : ∀ {l m : List α}, l.map f = m.map f → l = m
  | [], [], _ => rfl
  | [], _ :: _, h => by simp at h
  | _ :: _, [], h => by simp at h
  | a :: l, b :: m, h => by
    simp only [List.map_cons, List.cons.injEq] at h
    rw [hf a b h.1, map_inj' hf h.2]
theorem mt_eq (T : Nm K mg) (Sh : ShK K) (O : ShO K) (O1 : ShI1 K) (F : Df K (dM 13 "__eq__" "Shape.__eq__")) (hm : Meth K (Ca K) "__eq__" (He.fAd K ("Shape", some "__eq__"))) : MtC P w K mg base 1 "__eq__" (spEq K) := by
  refine mt_of F hm sc_eq (fun _ _ _ _ _ _ us hl => match us, hl with | [_, _], _ => rfl) (fun vs H Q E h => ?_) fun cdv A outer s H vs Q E hr h => ?_
  · obtain ⟨x, y, S1, S2, p, _⟩ := h
    rw [p.eq]; rfl
  · obtain ⟨x, y, S1, S2, ⟨rfl, hx, hy, o1, o2⟩, k⟩ := h
    have hu := hu_of hr
    refine ⟨_, (pss_cons (ps_if (pt_not (pt_val (q_isi T (pa_cons (pv 1) (pa_cons (pe_glob (v := .ref (Ca K)) (by rfl) (T.g "Shape") rfl) pa_nil))))) (pss_one (ps_ret pe_bl)) pss_nil) (pss_one (ps_ret (pe_and (pe_cmpR (op_eqD hr.units) (pe_fld (pv 0) (by rfl)) (pe_fld (pv 1) (by rfl)) (nomark _)) (pe_and (pe_cmpR (op_dq hr.units0) (pe_fld (pv 0) (by rfl)) (pe_fld (pv 1) (by rfl)) (nomark _)) (pe_one (pe_cmpR (op_dq hr.units0) (pe_fld (pv 0) (by rfl)) (pe_fld (pv 1) (by rfl)) (nomark _)))))))), ?_⟩
    refine s_if (b := false) (et_is (et_not (a := true) (et_B (ev_isiSh Sh O O1 (ev_var rfl) hy))) rfl) (fun z => by cases z) fun _ H1 e1 => ?_
    have hx1 := hx.ex e1
    have hy1 := hy.ex e1
    obtain ⟨d1, f1, fd1, hd1, fe1, he1⟩ := ev_side (te := tVar 0) (σ := start ["self", "other"] [.ref x, .ref y]) Sh (ev_var rfl) hx1
    obtain ⟨d2, f2, fd2, hd2, fe2, he2⟩ := ev_side (te := tVar 1) (σ := start ["self", "other"] [.ref x, .ref y]) Sh (ev_var rfl) hy1
    refine s_ret (v := .bl (decide (PyData.tuple (S1.nodes.map pyN) = .tuple (S2.nodes.map pyN)) && (dqB S1.olds S2.olds && dqB S1.news S2.news))) (ev_andV (ev_eqD (ed_nodes Sh (ev_var rfl) hx1) (ed_nodes Sh (ev_var rfl) hy1) (pd_nodes o1.ns) (pd_nodes o2.ns)) fun _ => ev_andV (ev_dq fd1 fd2 hd1 hd2) fun _ => ev_dq fe1 fe2 he1 he2) fun H2 e2 => k _ H2 (e1.trans e2) ?_
    simp only [Bool.and_eq_true, decide_eq_true_eq]
    have c1 : dqB S1.olds S2.olds = true ↔ S1.olds = S2.olds := dqB_iff (SdOk.of o1 false) (SdOk.of o2 false) (o1.cf false) (o2.cf false)
    have c2 : dqB S1.news S2.news = true ↔ S1.news = S2.news := dqB_iff (SdOk.of o1 true) (SdOk.of o2 true) (o1.cf true) (o2.cf true)
    rw [c1, c2]
    constructor
    · rintro ⟨a, b, c⟩
      have a : S1.nodes = S2.nodes := by
        injection a with a
        exact map_inj' (fun _ _ => pyN_inj) a
      cases S1; cases S2
      simp only at a b c
      rw [a, b, c]
    · rintro rfl
      exact ⟨rfl, rfl, rfl⟩
/-! ### as_rows -/
theorem sc_rows : FnScope ["self"] ["self"] (defScope (inClass (top 19) 1)) := ⟨rfl, rfl, rfl, by decide +kernel, rfl, by decide +kernel, by decide +kernel⟩
def rwD (S : Rw Str Str) : PyData := .tuple [.tuple (S.nodes.map pyN), .tuple (S.olds.map pyP), .tuple (S.news.map pyP)]
def spRows (K : PySem.W.Frag) : Sp := fun vs H Q _ => ∃ (x : Addr) (S : Rw Str Str), vs = [.ref x] ∧ ShI K x S H ∧ ∀ v H', Ex H H' → Tp H' v (rwD S) → Q v H'
def MtR (P : Program) (w : World) (K : PySem.W.Frag) (mg : Str → Option Value) (base : Heap) (k : Nat) : Prop := ∃ f fd, Meth K (Ca K) "as_rows" f ∧ FnOk P w K mg base CX0 k f fd ["self"] (spRows K) ∧ L2.Binds K fd ["self"] []
theorem mt_rows (T : Nm K mg) (Sh : ShK K) (F : Df K (dM 1 "as_rows" "Shape.as_rows")) (hm : Meth K (Ca K) "as_rows" (He.fAd K ("Shape", some "as_rows"))) : MtR P w K mg base 1 := by
  obtain ⟨fd, F⟩ := F
  have F' : FunD K "as_rows" "Shape.as_rows" (defArgs (inClass (top 19) 1)) (defBody (inClass (top 19) 1)) (defScope (inClass (top 19) 1)) [] [] (He.fAd K ("Shape", some "as_rows")) fd := F
  refine ⟨_, fd, hm, FunD.ok F' sc_rows (fun vs H Q E h => ?_) fun cdv A outer s H vs Q E hr h => ?_, FunD.bindsN F' fun _ _ _ _ _ _ us hl => match us, hl with | [_], _ => rfl⟩
  · obtain ⟨x, S, rfl, _⟩ := h
    rfl
  · obtain ⟨x, S, rfl, hx, k⟩ := h
    refine ⟨_, PSs.nox (X := cxOf CX0 P w K mg base ["self"] "Shape.as_rows" (defScope (inClass (top 19) 1)) (He.fAd K ("Shape", some "as_rows")) cdv A outer s H E) (pss_one (ps_ret (pe_tup (pa_cons (pe_fld (pv 0) (by rfl)) (pa_cons (q_tuple T (pa_cons (LiI.pe_listItems rfl (pe_fld (pv 0) (by rfl)) (by rfl) (T.f "list") (by decide +kernel)) pa_nil)) (pa_cons (q_tuple T (pa_cons (LiI.pe_listItems rfl (pe_fld (pv 0) (by rfl)) (by rfl) (T.f "list") (by decide +kernel)) pa_nil)) pa_nil)))))), ?_⟩
    obtain ⟨d1, f1, fd1, hd1, fe1, he1⟩ := ev_side (te := tVar 0) (σ := start ["self"] [.ref x]) Sh (ev_var rfl) hx
    exact s_retD (d := rwD S) (ed_tup (ead_cons (ed_nodes Sh (ev_var rfl) hx) (ead_cons (ed_tupN (en_items fd1 hd1)) (ead_cons (ed_tupN (en_items fe1 he1)) ead_nil))) (by simp)) fun v H1 e1 t1 => k v H1 e1 t1
end
end K49W

-- part K49L1
namespace K49W
open PySem PySem.Spec PyProof.Rows L2 Evl
/-! ### ints -/
section
variable {te tf : TE} {tt : TT} {ta tb : TE} {σ : L2.St} {H : Hp} {K : PySem.W.Frag}
theorem ev_int1 {i : Int} (h : Ev te σ H (.int i)) : Ev (tCB (fun xs H Q => (∃ i, xs = [V.int i] ∧ Q (.int i) H) ∨ ∃ k, xs = [V.bl k] ∧ Q (.int (if k then 1 else 0)) H) (tCons te tNil)) σ H (.int i) := fun H1 e Q q =>
  h H1 e _ fun H2 e2 => .inl ⟨i, rfl, q H2 e2⟩
theorem ev_intb {k : Bool} (h : Ev te σ H (.bl k)) : Ev (tCB (fun xs H Q => (∃ i, xs = [V.int i] ∧ Q (.int i) H) ∨ ∃ k, xs = [V.bl k] ∧ Q (.int (if k then 1 else 0)) H) (tCons te tNil)) σ H (.int (if k then 1 else 0)) := fun H1 e Q q =>
  h H1 e _ fun H2 e2 => .inr ⟨k, rfl, q H2 e2⟩
theorem ev_abs {i : Int} (h : Ev te σ H (.int i)) : Ev (tCB (fun xs H Q => ∃ i, xs = [V.int i] ∧ Q (.int (if i < 0 then -i else i)) H) (tCons te tNil)) σ H (.int (if i < 0 then -i else i)) := fun H1 e Q q =>
  h H1 e _ fun H2 e2 => ⟨i, rfl, q H2 e2⟩
theorem ep_if {b : Bool} {P : V → Hp → Prop} (h : EvT tt σ H b) (h1 : b = true → EvP ta σ H P) (h2 : b = false → EvP tb σ H P) : EvP (tIf tt ta tb) σ H P := fun H1 e Q q => h H1 e _ fun H2 e2 => by
  cases b with
  | true => exact h1 rfl H2 (e.trans e2) _ fun v H3 e3 t => q v H3 (e2.trans e3) t
  | false => exact h2 rfl H2 (e.trans e2) _ fun v H3 e3 t => q v H3 (e2.trans e3) t
theorem s_retL {D : Ends} {xs : List V} (h : EvL te σ H xs) (k : ∀ p H1, H p = none → Ex H H1 → H1 p = some (.lst xs) → D.rt (.ref p) H1) : tRet te D σ H := h H (Ex.refl H) _ k
end
section
variable {X : Cx} {e : Expr} {es : List Expr} {te : TE} {t : TA} {p pos : Pos}
theorem q_int (T : Nm X.K X.mg) (ha : PA X (e :: es) t) (hg : Gl X "int" := by rfl) (he : starEach (e :: es) X.env = (false, eval e X.env) :: starEach es X.env := by rfl) (hpl : (backTo pos (starEach es X.env)).any (·.1) = false := by rfl) : PE X (.Call (.Name "int" p) (e :: es) [] pos) (tCB (fun xs H Q => (∃ i, xs = [V.int i] ∧ Q (.int i) H) ∨ ∃ k, xs = [V.bl k] ∧ Q (.int (if k then 1 else 0)) H) t) :=
  pe_callTy call_int1 hg (T.f "int") (by decide +kernel) ha (by decide) (by decide) he hpl
end
section
variable {P : Program} {w : World} {K : PySem.W.Frag} {mg : Str → Option Value} {base : Heap}
/-! ### the pool -/
def PoolAt (p : Addr) (H : Hp) : Prop := ∃ x y : Int, H p = some (.lst [.int x, .int y]) ∧ 0 ≤ x ∧ 0 ≤ y ∧ y < 4294967296
theorem sc_pool : FnScope ["_law_script", "_law_k", "_law_cell", "_law_size", "_law_mixed"] ["_law_script", "_law_k"] (defScope (top 27)) := ⟨rfl, rfl, rfl, by decide +kernel, rfl, by decide +kernel, by decide +kernel⟩
def spPool (K : PySem.W.Frag) : Sp := fun vs H Q _ => ∃ (a : Addr) (ns : List Int) (k : Nat), vs = [.ref a, .int (k : Nat)] ∧ SqL K H a (ns.map V.int) ∧ k < 1000 ∧ ∀ p H', H p = none → Ex H H' → PoolAt p H' → Q (.ref p) H'
theorem cal_pool (T : Nm K mg) (F : Df K (dG 27 "_law_pool_of")) : Cal P w K mg base 1 "_law_pool_of" ["_law_script", "_law_k"] (spPool K) := by
  refine cal_of T F (by decide +kernel) sc_pool (fun _ _ _ _ _ _ us hl => match us, hl with | [_, _], _ => rfl) (fun vs H Q E h => ?_) fun cdv A outer s H vs Q E hr h => ?_
  · obtain ⟨a, ns, k, rfl, _⟩ := h
    rfl
  · obtain ⟨a, ns, k, rfl, hs, hk, kk⟩ := h
    have nd := sc_pool.nd
    refine ⟨_, (pss_cons (ps_set (i := 2) nd rfl (Or.inl rfl) (pe_ifExp (q_lt (pv 1) (q_len T (pa_cons (pv 0) pa_nil))) (q_ixL (pv 0) (pv 1)) (pe_op op_add (pe_op op_mul pe_int (pe_callB (cr_sum rfl) (by rfl) (T.f "sum") (by decide +kernel) (pa_cons (pe_slice sl_list (pv 0) po_none (po_some pe_int)) pa_nil))) (pv 1)))) (pss_cons (ps_set (i := 3) nd rfl (Or.inl rfl) (pe_callB call_abs (by rfl) (T.f "abs") (by decide +kernel) (pa_cons (pv 2) pa_nil))) (pss_cons (ps_set (i := 4) nd rfl (Or.inl rfl) (pe_op op_add (pe_op op_add (pe_op op_add (pe_op op_mod (q_int T (pa_cons (pv 3) pa_nil)) pe_int) (pe_op op_mul (pe_op op_mul pe_int (pv 1)) (pv 1))) (pe_op op_mul pe_int (pv 1))) pe_int)) (pss_cons (ps_set (i := 4) nd rfl (Or.inl rfl) (pe_op op_mod (q_int T (pa_cons (pe_op op_mul (pv 4) pe_int) pa_nil)) pe_int)) (pss_one (ps_ret (pe_lst (pa_cons (pe_op op_mul (pv 3) (q_int T (pa_cons (pe_cmpR op_ge (pv 3) (pe_op op_pow pe_int pe_int) (nomark _)) pa_nil))) (pa_cons (pe_op op_mod (q_int T (pa_cons (pe_op op_mul (pv 4) (pv 4)) pa_nil)) pe_int) pa_nil))))))))), ?_⟩
    have cl : ∀ {i j : Int}, -(2 ^ 64) < i → i < 2 ^ 64 → CMul i j := fun h1 h2 => Or.inl ⟨h1, h2⟩
    have cr : ∀ {i j : Int}, -(2 ^ 64) < j → j < 2 ^ 64 → CMul i j := fun h1 h2 => Or.inr ⟨h1, h2⟩
    refine s_setP (P := fun v _ => ∃ c : Int, v = .int c) (ep_if (et_test (ev_op (ev_var rfl) (ev_len (ev_var rfl) hs) rv_I0)) (fun hb => ?_) fun hb => ?_) fun v H1 e1 ⟨c, hv⟩ => ?_
    · have hb' : (k : Int) < ((ns.map V.int).length : Nat) := by simpa using hb
      have hkl : k < ns.length := by simpa using hb'
      refine EvP.imp (ev_p (ev_op (ev_var rfl) (ev_var rfl) (rv_ixL (v := .int ns[k]) hs (atI_nat (by rw [List.getElem?_map, List.getElem?_eq_getElem hkl]; rfl))))) fun v _ _ hv => ⟨_, hv⟩
    · have hsl : ∃ ms : List Int, cutV (ns.map V.int) none (some 63) = ms.map V.int := by
        unfold cutV
        exact ⟨_, by rw [← List.map_drop, ← List.map_take]⟩
      obtain ⟨ms, hms⟩ := hsl
      have hsum : Ev (tCB (rSum K) (tCons (tSl (rSlL K) (tVar 0) tNoPart (tPart (tC (.int 63)))) tNil)) (start ["_law_script", "_law_k", "_law_cell", "_law_size", "_law_mixed"] [.ref a, .int (k : Nat)]) H (.int ms.sum) := fun H1 e Q q =>
        el_sl (ev_var rfl) eo_none (eo_some ev_c) hs H1 e _ fun p H2 hp e2 h2 => ⟨p, ms, rfl, SqL.of (by rw [← hms]; exact h2), q H2 e2⟩
      exact EvP.imp (ev_p (ev_op (ev_op ev_c hsum (rv_I (cl (by decide) (by decide)))) (ev_var rfl) rv_I0)) fun v _ _ hv => ⟨_, hv⟩
    · subst hv
      dsimp only
      refine q_seq ?_
      refine s_asg (ev_abs (ev_var rfl)) fun H2 e2 => ?_
      have hz : 0 ≤ (if c < 0 then -c else c) := by split <;> omega
      generalize (if c < 0 then -c else c) = z at hz
      dsimp only
      refine q_seq ?_
      refine s_asg (ev_op (ev_op (ev_op (ev_op (ev_int1 (ev_var rfl)) ev_c (rv_I (by decide))) (ev_op (ev_op ev_c (ev_var rfl) (rv_I (cl (by decide) (by decide)))) (ev_var rfl) (rv_I (cr (by omega) (by omega)))) rv_I0) (ev_op ev_c (ev_var rfl) (rv_I (cl (by decide) (by decide)))) rv_I0) ev_c rv_I0) fun H3 e3 => ?_
      dsimp only
      refine q_seq ?_
      refine s_asg (ev_op (ev_int1 (ev_op (ev_var rfl) ev_c (rv_I (cr (by decide) (by decide))))) ev_c (rv_I (by decide))) fun H4 e4 => ?_
      generalize hm : ((z % 2147483629 + 7919 * (k : Int) * (k : Int) + 31 * (k : Int) + 17) * 48271 : Int) = m0
      have m1 : 0 ≤ m0 % 2147483647 := Int.emod_nonneg _ (by decide)
      have m2 : m0 % 2147483647 < 2147483647 := Int.emod_lt_of_pos _ (by decide)
      generalize m0 % 2147483647 = m at m1 m2
      dsimp only
      refine s_retL (el_lst (ea_cons (ev_op (ev_var rfl) (ev_intb (ev_op (ev_var rfl) (ev_op ev_c ev_c (rv_I (show CPow 10 18 from ⟨by decide, by decide, by decide⟩))) rv_I0)) (rv_I (cr ?_ ?_))) (ea_cons (ev_op (ev_int1 (ev_op (ev_var rfl) (ev_var rfl) (rv_I (cl (by omega) (by omega))))) ev_c (rv_I (by decide))) ea_nil)) (by simp)) fun p H5 hp e5 h5 => ?_
      · split <;> decide
      · split <;> decide
      · refine kk p H5 (fresh_back (((e1.trans e2).trans e3).trans e4) hp) ((((e1.trans e2).trans e3).trans e4).trans e5) ⟨_, _, h5, ?_, ?_, ?_⟩
        · split <;> omega
        · exact Int.emod_nonneg _ (by decide)
        · have := Int.emod_lt_of_pos (m * m) (b := 2147483629) (by decide)
          omega
end
end K49W

-- part K49L2
namespace K49W
open PySem PySem.Spec PyProof.Rows L2 Evl
section
variable {P : Program} {w : World} {K : PySem.W.Frag} {mg : Str → Option Value} {base : Heap}
theorem ExB.of {x : Addr} {H H' : Hp} (e : Ex H H') : ExB x H H' := fun a o _ h => e a o h
theorem ExB.trans {x : Addr} {H H1 H2 : Hp} (a : ExB x H H1) (b : ExB x H1 H2) : ExB x H H2 := fun c o n h => b c o n (a c o n h)
theorem ExB.upd {x : Addr} {H H' : Hp} {o : HO} (e : ExB x H H') : ExB x H (L2.upd H' x o) := fun a u n h => by rw [upd_ne n]; exact e a u n h
theorem ExB.mut {x l : Addr} {H H' : Hp} {o : HO} (e : ExB x H H') (h : H l = none) : ExB x H (L2.upd H' l o) := fun a u n hu => by
  have : a ≠ l := fun z => by rw [z, h] at hu; cases hu
  rw [upd_ne this]; exact e a u n hu
/-! ### draw, pick -/
theorem sc_draw : FnScope ["_law_pool", "_law_many", "_law_found"] ["_law_pool", "_law_many"] (defScope (top 28)) := ⟨rfl, rfl, rfl, by decide +kernel, rfl, by decide +kernel, by decide +kernel⟩
def spDraw : Sp := fun vs H Q _ => ∃ (p : Addr) (m : Nat), vs = [.ref p, .int (m : Nat)] ∧ 1 ≤ m ∧ m < 1000 ∧ PoolAt p H ∧ ∀ (r : Nat) H', r < m → ExB p H H' → PoolAt p H' → Q (.int (r : Nat)) H'
theorem cal_draw (T : Nm K mg) (F : Df K (dG 28 "_law_draw")) : Cal P w K mg base 1 "_law_draw" ["_law_pool", "_law_many"] spDraw := by
  refine cal_of T F (by decide +kernel) sc_draw (fun _ _ _ _ _ _ us hl => match us, hl with | [_, _], _ => rfl) (fun vs H Q E h => ?_) fun cdv A outer s H vs Q E hr h => ?_
  · obtain ⟨p, m, rfl, _⟩ := h
    rfl
  · obtain ⟨p, m, rfl, m1, m2, ⟨x, y, hp, hx, hy, hy2⟩, k⟩ := h
    have nd := sc_draw.nd
    refine ⟨_, (pss_cons (ps_if (q_gt (q_ixL (pv 0) pe_int) pe_int)
        (pss_cons (ps_set (i := 2) nd rfl (Or.inl rfl) (pe_op op_mod (q_int T (pa_cons (q_ixL (pv 0) pe_int) pa_nil)) (pv 1))) (pss_cons (ps_asg (pe_op op_fdiv (q_ixL (pv 0) pe_int) (pv 1)) (pg_sub (pv 0) pe_int set_list)) (pss_one (ps_ret (pv 2))))) pss_nil) (pss_cons (ps_asg (pe_op op_mod (q_int T (pa_cons (pe_op op_add (pe_op op_mul (q_ixL (pv 0) pe_int) pe_int) pe_int) pa_nil)) pe_int) (pg_sub (pv 0) pe_int set_list)) (pss_one (ps_ret (pe_op op_mod (q_int T (pa_cons (pe_op op_fdiv (pe_op op_mod (pe_op op_mul (q_ixL (pv 0) pe_int) (q_ixL (pv 0) pe_int)) pe_int) pe_int) pa_nil)) (pv 1)))))), ?_⟩
    have cl : ∀ {i j : Int}, -(2 ^ 64) < i → i < 2 ^ 64 → CMul i j := fun h1 h2 => Or.inl ⟨h1, h2⟩
    have cr : ∀ {i j : Int}, -(2 ^ 64) < j → j < 2 ^ 64 → CMul i j := fun h1 h2 => Or.inr ⟨h1, h2⟩
    have mp : (0 : Int) < (m : Nat) := by omega
    have fin : ∀ (z : Int), ∃ r : Nat, r < m ∧ z % ((m : Nat) : Int) = (r : Int) := fun z => by
      have h1 := Int.emod_nonneg z (b := ((m : Nat) : Int)) (by omega)
      have h2 := Int.emod_lt_of_pos z mp
      exact ⟨(z % ((m : Nat) : Int)).toNat, by omega, by omega⟩
    have i0 : ∀ {σ : L2.St} {H1 : Hp} {x y : Int}, σ[0]? = some (some (.ref p)) → H1 p = some (.lst [.int x, .int y]) → Ev (tOp (rIxL K) (tVar 0) (tC (.int 0))) σ H1 (.int x) := fun hs h1 => ev_op (ev_var hs) ev_c (rv_ixL (SqL.of h1) (atI_nat (j := 0) rfl))
    have i1 : ∀ {σ : L2.St} {H1 : Hp} {x y : Int}, σ[0]? = some (some (.ref p)) → H1 p = some (.lst [.int x, .int y]) → Ev (tOp (rIxL K) (tVar 0) (tC (.int 1))) σ H1 (.int y) := fun hs h1 => ev_op (ev_var hs) ev_c (rv_ixL (SqL.of h1) (atI_nat (j := 1) rfl))
    refine s_if (et_test (ev_op (i0 rfl hp) ev_c rv_I0)) (fun hb H1 e1 => ?_) fun hb H1 e1 => ?_
    · have hp1 := e1 _ _ hp
      refine q_seq ?_
      refine s_asg (ev_op (ev_int1 (i0 rfl hp1)) (ev_var rfl) (rv_I mp)) fun H2 e2 => ?_
      dsimp only
      refine q_seq ?_
      have hp2 := e2 _ _ hp1
      refine ev_op (i0 rfl hp2) (ev_var rfl) (rv_I (show CDiv x (m : Nat) from ⟨mp, by omega⟩)) H2 (Ex.refl _) _ fun H3 e3 => ?_
      refine ⟨_, rfl, p, _, _, 0, rfl, rfl, e3 _ _ hp2, rfl, ?_⟩
      obtain ⟨r, hr1, hr2⟩ := fin x
      refine s_ret (v := .int (r : Nat)) (ev_var (by rw [← hr2]; rfl)) fun H4 e4 => k r H4 hr1 ((ExB.of (e1.trans (e2.trans e3))).upd.trans (ExB.of e4)) ⟨x / m, y, e4 _ _ upd_same, Int.ediv_nonneg hx (by omega), hy, hy2⟩
    · have hp1 := e1 _ _ hp
      refine q_seq ?_
      refine ev_op (ev_int1 (ev_op (ev_op (i1 rfl hp1) ev_c (rv_I (cr (by decide) (by decide)))) ev_c rv_I0)) ev_c (rv_I (by decide)) H1 (Ex.refl _) _ fun H2 e2 => ?_
      have y1 : 0 ≤ (y * 48271 + 11) % 2147483647 := Int.emod_nonneg _ (by decide)
      have y2 : (y * 48271 + 11) % 2147483647 < 2147483647 := Int.emod_lt_of_pos _ (by decide)
      generalize (y * 48271 + 11) % 2147483647 = z at y1 y2
      refine ⟨_, rfl, p, _, _, 1, rfl, rfl, e2 _ _ hp1, rfl, ?_⟩
      have hp3 : (L2.upd H2 p (.lst [.int x, .int z])) p = some (.lst [.int x, .int z]) := upd_same
      obtain ⟨r, hr1, hr2⟩ := fin ((z * z) % 2147483629 / 16)
      refine s_ret (v := .int ((z * z) % 2147483629 / 16 % (m : Nat))) (ev_op (ev_int1 (ev_op (ev_op (ev_op (i1 rfl hp3) (i1 rfl hp3) (rv_I (cl (by omega) (by omega)))) ev_c (rv_I (by decide))) ev_c (rv_I (show CDiv _ 16 from ⟨by decide, by decide⟩)))) (ev_var rfl) (rv_I (by exact mp))) fun H4 e4 => ?_
      rw [hr2]
      exact k r H4 hr1 ((ExB.of (e1.trans e2)).upd.trans (ExB.of e4)) ⟨x, z, e4 _ _ hp3, hx, y1, by omega⟩
theorem sc_pick : FnScope ["_law_pool", "_law_row"] ["_law_pool", "_law_row"] (defScope (top 29)) := ⟨rfl, rfl, rfl, by decide +kernel, rfl, by decide +kernel, by decide +kernel⟩
def spPick : Sp := fun vs H Q _ => ∃ (p a : Addr) (xs : List V), vs = [.ref p, .ref a] ∧ p ≠ a ∧ H a = some (.lst xs) ∧ 1 ≤ xs.length ∧ xs.length < 1000 ∧ PoolAt p H ∧ ∀ v H', v ∈ xs → ExB p H H' → PoolAt p H' → Q v H'
theorem cal_pick (T : Nm K mg) (F : Df K (dG 29 "_law_pick")) (cD : Cal P w K mg base 1 "_law_draw" ["_law_pool", "_law_many"] spDraw) : Cal P w K mg base 2 "_law_pick" ["_law_pool", "_law_row"] spPick := by
  refine cal_of T F (by decide +kernel) sc_pick (fun _ _ _ _ _ _ us hl => match us, hl with | [_, _], _ => rfl) (fun vs H Q E h => ?_) fun cdv A outer s H vs Q E hr h => ?_
  · obtain ⟨p, a, xs, rfl, _⟩ := h
    rfl
  · obtain ⟨p, a, xs, rfl, hne, ha, l1, l2, hp, k⟩ := h
    refine ⟨_, (pss_one (ps_ret (q_ixL (pv 1) (pe_cal cD (hr.mono (by decide)) (by rfl) (pa_cons (pv 0) (pa_cons (q_len T (pa_cons (pv 1) pa_nil)) pa_nil)))))), ?_⟩
    refine ⟨_, rfl, _, rfl, ?_⟩
    refine ev_len (ev_var rfl) (SqL.of ha) H (Ex.refl _) _ fun H1 e1 => ?_
    obtain ⟨x, y, h1, h2, h3, h4⟩ := hp
    refine ⟨p, xs.length, rfl, l1, l2, ⟨x, y, e1 _ _ h1, h2, h3, h4⟩, fun r H2 hr2 eb hp2 => ?_⟩
    have ha2 := eb _ _ hne.symm (e1 _ _ ha)
    exact ⟨a, xs, _, xs[r], rfl, rfl, SqL.of ha2, atI_nat (List.getElem?_eq_getElem hr2), k _ H2 (List.getElem_mem hr2) ((ExB.of e1).trans eb) hp2⟩
end
end K49W

-- part K49L3
namespace K49W
open PySem PySem.Spec PyProof.Rows L2 Evl
open K49 (Nd Rw)
theorem PoolAt.lst {p : Addr} {H : Hp} (h : PoolAt p H) : ∃ xs, H p = some (.lst xs) := let ⟨x, y, h1, _⟩ := h; ⟨_, h1⟩
theorem ExB.tx {p : Addr} {H H' : Hp} (e : ExB p H H') (hp : ∃ xs, H p = some (.lst xs)) : TX H H' := fun a xs h => by
  have : a ≠ p := fun z => by obtain ⟨ys, hy⟩ := hp; rw [z, hy] at h; cases h
  exact e a _ this h
theorem LsD.exb {a p : Addr} {es : List PyData} {H H' : Hp} (h : LsD a es H) (n : a ≠ p) (hp : PoolAt p H) (e : ExB p H H') : LsD a es H' := by
  obtain ⟨xs, h1, h2⟩ := h
  exact ⟨xs, e a _ n h1, h2.tx (e.tx hp.lst)⟩
section
variable {σ : L2.St} {H : Hp} {Q : VK} {i : Nat} {te : TE} {p : Addr} {m : Nat}
theorem draw_at (h0 : σ[i]? = some (some (.ref p))) (hm : Ev te σ H (.int (m : Nat))) (m1 : 1 ≤ m) (m2 : m < 1000) (hp : PoolAt p H) (k : ∀ (r : Nat) H', r < m → ExB p H H' → PoolAt p H' → Q (.int (r : Nat)) H') : tCall spDraw [] E0 (tCons (tVar i) (tCons te tNil)) σ H Q := by
  refine ⟨_, h0, ?_⟩
  refine hm H (Ex.refl _) _ fun H1 e1 => ?_
  obtain ⟨x, y, h1, h2, h3, h4⟩ := hp
  exact ⟨p, m, rfl, m1, m2, ⟨x, y, e1 _ _ h1, h2, h3, h4⟩, fun r H2 hr eb hp2 => k r H2 hr ((ExB.of e1).trans eb) hp2⟩
theorem pick_at {j : Nat} {a : Addr} {xs : List V} (h0 : σ[i]? = some (some (.ref p))) (h1 : σ[j]? = some (some (.ref a))) (n : p ≠ a) (ha : H a = some (.lst xs)) (m1 : 1 ≤ xs.length) (m2 : xs.length < 1000) (hp : PoolAt p H) (k : ∀ v H', v ∈ xs → ExB p H H' → PoolAt p H' → Q v H') : tCall spPick [] E0 (tCons (tVar i) (tCons (tVar j) tNil)) σ H Q :=
  ⟨_, h0, _, h1, p, a, xs, rfl, n, ha, m1, m2, hp, k⟩
end
section
variable {P : Program} {w : World} {K : PySem.W.Frag} {mg : Str → Option Value} {base : Heap}
/-! ### shape_rows -/
theorem sc_shrows : FnScope ["_law_pool", "_law_names", "_law_ops", "_law_many", "_law_nodes", "_law_at", "_law_kind", "_law_inner", "_law_turn", "_law_sides", "_law_side", "_law_name"] ["_law_pool"] (defScope (top 30)) := ⟨rfl, rfl, rfl, by decide +kernel, rfl, by decide +kernel, by decide +kernel⟩
/-- rows as the law draws them -/
def RowsAt (t : Addr) (R : Rw Str Str) (H : Hp) : Prop := ∃ a b c, H t = some (.lst [.ref a, .ref b, .ref c]) ∧ RwAt a b c R H
def OPS : List Str := ["f", "g", "open"]
def NMS : List Str := ["a", "b", "abcdefgh"]
/-- where the drawing stands -/
structure DS (p a1 a2 a4 : Addr) (H0 H : Hp) (ns : List (Nd Str)) : Prop where
  e : ExB p H0 H
  pl : PoolAt p H
  n : H a1 = some (.lst (NMS.map V.str))
  o : H a2 = some (.lst (OPS.map V.str))
  l : LsD a4 (ns.map pyN) H
  n1 : a1 ≠ p
  n2 : a2 ≠ p
  n4 : a4 ≠ p
  n41 : a1 ≠ a4
  n42 : a2 ≠ a4
  f4 : H0 a4 = none
theorem PoolAt.ex {p : Addr} {H H' : Hp} (h : PoolAt p H) (e : Ex H H') : PoolAt p H' := let ⟨x, y, h1, h2, h3, h4⟩ := h; ⟨x, y, e _ _ h1, h2, h3, h4⟩
section
variable {p a1 a2 a4 : Addr} {H0 H H' : Hp} {ns : List (Nd Str)}
theorem DS.step (d : DS p a1 a2 a4 H0 H ns) (e : ExB p H H') (hp : PoolAt p H') : DS p a1 a2 a4 H0 H' ns :=
  ⟨d.e.trans e, hp, e _ _ d.n1 d.n, e _ _ d.n2 d.o, d.l.exb d.n4 d.pl e, d.n1, d.n2, d.n4, d.n41, d.n42, d.f4⟩
theorem DS.ex (d : DS p a1 a2 a4 H0 H ns) (e : Ex H H') : DS p a1 a2 a4 H0 H' ns := d.step (ExB.of e) (d.pl.ex e)
theorem DS.app (d : DS p a1 a2 a4 H0 H ns) {zs : List V} {v : V} {nd : Nd Str} (hz : H a4 = some (.lst zs)) (tz : TpL H zs (ns.map pyN)) (tv : Tp H v (pyN nd)) : DS p a1 a2 a4 H0 (L2.upd H a4 (.lst (zs ++ [v]))) (ns ++ [nd]) := by
  have up : TX H (L2.upd H a4 (.lst (zs ++ [v]))) := TX.upd_lst hz
  obtain ⟨x, y, h1, h2⟩ := d.pl
  refine ⟨d.e.mut d.f4, ⟨x, y, by rw [upd_ne d.n4.symm]; exact h1, h2⟩, by rw [upd_ne d.n41]; exact d.n, by rw [upd_ne d.n42]; exact d.o, ⟨_, upd_same, ?_⟩, d.n1, d.n2, d.n4, d.n41, d.n42, d.f4⟩
  rw [List.map_append]
  exact TpL.snoc (tz.tx up) (tv.tx up)
end
theorem ed_ixN {te tf : TE} {σ : L2.St} {H : Hp} {K : PySem.W.Frag} {ds : List PyData} {d : PyData} {i : Int} {j : Nat} (h : EvN te σ H ds) (hb : Ev tf σ H (.int i)) (hi : i = (j : Int)) (hd : ds[j]? = some d) : EvD (tOp (rIxL K) te tf) σ H d := fun H1 e Q q =>
  h H1 e _ fun p xs H2 hp e2 hl t => hb H2 (e.trans e2) _ fun H3 e3 => by
    obtain ⟨w, hw, tw⟩ := (t.ex e3).get hd
    exact ⟨p, xs, i, w, rfl, rfl, SqL.of (e3 _ _ hl), atI_of hi hw, q w H3 (e2.trans e3) tw⟩
structure Drawn (n : Nat) (R : Rw Str Str) : Prop where
  good : Good R
  len : R.nodes.length ≤ n
  ops : ∀ nd ∈ R.nodes, ∀ f xs, nd = .op f xs → f ∈ OPS
def spShRows : Sp := fun vs H Q _ => ∃ (p : Addr), vs = [.ref p] ∧ PoolAt p H ∧ ∀ t R H', H t = none → ExB p H H' → PoolAt p H' → Drawn 6 R → RowsAt t R H' → Q (.ref t) H'
theorem cal_shrows (T : Nm K mg) (F : Df K (dG 30 "_law_shape_rows")) (cD : Cal P w K mg base 1 "_law_draw" ["_law_pool", "_law_many"] spDraw) (cP : Cal P w K mg base 2 "_law_pick" ["_law_pool", "_law_row"] spPick) : Cal P w K mg base 3 "_law_shape_rows" ["_law_pool"] spShRows := by
  refine cal_of T F (by decide +kernel) sc_shrows (fun _ _ _ _ _ _ us hl => match us, hl with | [_], _ => rfl) (fun vs H Q E h => ?_) fun cdv A outer s H vs Q E hr h => ?_
  · obtain ⟨p, rfl, _⟩ := h
    rfl
  · obtain ⟨p, rfl, hp, k⟩ := h
    have nd := sc_shrows.nd
    refine ⟨_, (pss_cons (ps_par (i := 1) (j := 2) rfl nd rfl rfl (by decide) rfl rfl (pa_cons (pe_lst (pa_cons pe_str (pa_cons pe_str (pa_cons pe_str pa_nil)))) (pa_cons (pe_lst (pa_cons pe_str (pa_cons pe_str (pa_cons pe_str pa_nil)))) pa_nil)) (by rfl)) (pss_cons (ps_asg (pe_tup (pa_cons (pe_cal cD (hr.mono (by decide)) (by rfl) (pa_cons (pv 0) (pa_cons pe_int pa_nil))) (pa_cons (pe_lst pa_nil) pa_nil))) (pg_tup rfl (pgs_cons (pg_name (i := 3) nd rfl (Or.inr rfl)) (pgs_cons (pg_name (i := 4) nd rfl (Or.inl rfl)) pgs_nil)))) (pss_cons (ps_for PassesOwn.never rfl (pi_range1 (by rfl) (T.f "range") (pa_cons (pv 3) pa_nil)) (pg_name (i := 5) nd rfl (Or.inr rfl))
        (pss_cons (ps_set (i := 6) nd rfl (Or.inl rfl) (pe_cal cD (hr.mono (by decide)) (by rfl) (pa_cons (pv 0) (pa_cons pe_int pa_nil)))) (pss_one (ps_if (PW.pt (pw_and (q_gt (pv 5) pe_int) (pw_and1 (q_gt (pv 6) pe_int))))
            (pss_cons (ps_setLc (i := 7) (own := [("_law_turn", 8)]) (g := gName 8) (tt := tYes) (te := tCall spDraw [] E0 (tCons (tVar 0) (tCons (tVar 5) tNil))) rfl nd rfl rfl (sw_true rfl rfl rfl (by decide +kernel)) (pi_range1 (by rfl) (T.f "range") (pa_cons (pe_cal cD (hr.mono (by decide)) (by rfl) (pa_cons (pv 0) (pa_cons pe_int pa_nil))) pa_nil)) (blkOk_by (N := ["_law_pool", "_law_names", "_law_ops", "_law_many", "_law_nodes", "_law_at", "_law_kind", "_law_inner", "_law_turn", "_law_sides", "_law_side", "_law_name"]) (sc := defScope (top 30)) (by decide +kernel))
                (fun _ _ _ _ _ => pg_name (i := 8) nd rfl (Or.inl rfl)) (fun _ _ _ _ _ => pts_nil) (fun _ _ _ _ _ => pe_cal cD (hr.mono (by decide)) (by rfl) (pa_cons (pv 0) (pa_cons (pv 5) pa_nil)))) (pss_one (ps_expr (q_app (pv 4) (pa_cons (pe_tup (pa_cons (pe_cal cP (hr.mono (by decide)) (by rfl) (pa_cons (pv 0) (pa_cons (pv 2) pa_nil))) (pa_cons (q_tuple T (pa_cons (pv 7) pa_nil)) pa_nil))) pa_nil)))))
            (pss_one (ps_expr (q_app (pv 4) (pa_cons (pe_ifExp (q_lt (pv 6) pe_int) (q_ixL (pe_lst (pa_cons pe_non (pa_cons (pe_tup pa_nil) pa_nil))) (q_int T (pa_cons (pe_cmpR op_eq (pv 6) pe_int (nomark _)) pa_nil))) (pe_tup (pa_cons (pe_cal cP (hr.mono (by decide)) (by rfl) (pa_cons (pv 0) (pa_cons (pv 2) pa_nil))) (pa_cons (pe_tup pa_nil) pa_nil)))) pa_nil)))))))) (pss_cons (ps_set (i := 9) nd rfl (Or.inl rfl) (pe_lst pa_nil)) (pss_cons (ps_for PassesOwn.never rfl (pi_range1 (by rfl) (T.f "range") (pa_cons pe_int pa_nil)) (pg_name (i := 10) nd rfl (Or.inl rfl))
        (pss_one (ps_expr (q_app (pv 9) (pa_cons (pe_lc (own := [("_law_name", 11)]) (g := gName 11) (tt := tAnd (tTest (tOp (rI0 fun i j => .bl (decide (j < i))) (tVar 3) (tC (.int 0)))) (tTest (tOp (rI0 fun i j => .bl (decide (j < i))) (tCall spDraw [] E0 (tCons (tVar 0) (tCons (tC (.int 4)) tNil))) (tC (.int 0))))) (te := tTup (tCons (tVar 11) (tCons (tCall spDraw [] E0 (tCons (tVar 0) (tCons (tVar 3) tNil))) tNil))) rfl nd (pi_list (pv 1)) (blkOk_by (N := ["_law_pool", "_law_names", "_law_ops", "_law_many", "_law_nodes", "_law_at", "_law_kind", "_law_inner", "_law_turn", "_law_sides", "_law_side", "_law_name"]) (sc := defScope (top 30)) (by decide +kernel))
            (fun _ _ _ _ _ => pg_name (i := 11) nd rfl (Or.inl rfl)) (fun _ _ _ _ _ => pts_one (PW.pt (pw_and (q_gt (pv 3) pe_int) (pw_and1 (q_gt (pe_cal cD (hr.mono (by decide)) (by rfl) (pa_cons (pv 0) (pa_cons pe_int pa_nil))) pe_int))))) (fun _ _ _ _ _ => pe_tup (pa_cons (pv 11) (pa_cons (pe_cal cD (hr.mono (by decide)) (by rfl) (pa_cons (pv 0) (pa_cons (pv 3) pa_nil))) pa_nil)))) pa_nil))))) (pss_one (ps_ret (pe_lst (pa_cons (pv 4) (pa_cons (q_ixL (pv 9) pe_int) (pa_cons (q_ixL (pv 9) pe_int) pa_nil))))))))))), ?_⟩
    have fr : ∀ {a : Addr}, H a = none → a ≠ p := fun h z => by obtain ⟨ys, hy⟩ := hp.lst; rw [z, hy] at h; cases h
    refine ⟨by show 3 ≤ sizeLine; decide, fun a1 h1 => ⟨by show 3 ≤ sizeLine; decide, fun a2 h2 => ⟨_, _, rfl, ?_⟩⟩⟩
    have e1 : Ex H (L2.upd H a1 (.lst (NMS.map V.str))) := Ex.new h1
    have e2 : Ex H (L2.upd (L2.upd H a1 (.lst (NMS.map V.str))) a2 (.lst (OPS.map V.str))) := e1.trans (Ex.new h2)
    have g1 : (L2.upd (L2.upd H a1 (.lst (NMS.map V.str))) a2 (.lst (OPS.map V.str))) a1 = some (.lst (NMS.map V.str)) := (Ex.new h2) _ _ upd_same
    have g2 : (L2.upd (L2.upd H a1 (.lst (NMS.map V.str))) a2 (.lst (OPS.map V.str))) a2 = some (.lst (OPS.map V.str)) := upd_same
    have f2 : H a2 = none := fresh_back e1 h2
    show (tSeq _ _) _ _ (L2.upd (L2.upd H a1 (.lst (NMS.map V.str))) a2 (.lst (OPS.map V.str)))
    generalize L2.upd (L2.upd H a1 (.lst (NMS.map V.str))) a2 (.lst (OPS.map V.str)) = H1 at *
    refine q_seq ?_
    refine draw_at (m := 7) rfl ev_c (by decide) (by decide) (hp.ex e2) fun many H2 hm eb2 hp2 => ?_
    refine ⟨Nat.zero_le _, fun a4 h4 => ⟨by show 2 ≤ sizeLine; decide, fun pt hpt => ⟨pt, _, rfl, SqT.of upd_same, rfl, _, _, rfl, _, _, rfl, rfl, ?_⟩⟩⟩
    have n1 : a1 ≠ p := fr h1
    have n2 : a2 ≠ p := fr f2
    have k1 := eb2 _ _ n1 g1
    have k2 := eb2 _ _ n2 g2
    have n41 : a1 ≠ a4 := ne_of_none k1 h4
    have n42 : a2 ≠ a4 := ne_of_none k2 h4
    have n4 : a4 ≠ p := fun z => by obtain ⟨ys, hy⟩ := hp2.lst; rw [z, hy] at h4; cases h4
    have f4 : H a4 = none := by
      cases q : H a4 with
      | none => rfl
      | some o => have := eb2 _ _ n4 (e2 _ _ q); rw [this] at h4; cases h4
    have d0 : DS p a1 a2 a4 H (L2.upd (L2.upd H2 a4 (.lst [])) pt (.tup [.int (many : Nat), .ref a4])) [] := by
      have x := (Ex.new (o := .lst []) h4).trans (Ex.new (o := .tup [.int (many : Nat), .ref a4]) hpt)
      exact ⟨((ExB.of e2).trans eb2).trans (ExB.of x), hp2.ex x, x _ _ k1, x _ _ k2, ⟨[], (Ex.new hpt) _ _ upd_same, .nil⟩, n1, n2, n4, n41, n42, f4⟩
    generalize L2.upd (L2.upd H2 a4 (.lst [])) pt (.tup [.int (many : Nat), .ref a4]) = H3 at *
    dsimp only
    refine q_seq ?_
    refine ⟨_, rfl, (many : Nat), rfl, by omega, by omega, ?_⟩
    rw [Int.toNat_natCast]
    refine for_range (fun i σ Hc => ∃ (ns : List (Nd Str)) (v5 v6 v7 : Option V), DS p a1 a2 a4 H Hc ns ∧ ns.length = i ∧ (∀ j nd, ns[j]? = some nd → NdOk j nd) ∧ (∀ nd ∈ ns, ∀ f xs, nd = .op f xs → f ∈ OPS) ∧
      σ = [some (.ref p), some (.ref a1), some (.ref a2), some (.int (many : Nat)), some (.ref a4), v5, v6, v7, none, none, none, none]) ⟨[], none, none, none, d0, rfl, fun j nd h => by simp at h, fun nd h => (nomatch h), rfl⟩ ?_ ?_
    · rintro i σ Hc hi ⟨ns, v5, v6, v7, d, hnl, hok, hops, rfl⟩
      have opsok : ∀ f ∈ OPS, nmOk f = true := by decide +kernel
      -- the end of a turn
      have fin : ∀ (nd : Nd Str) (Hd : Hp) (v : V) (w5 w6 w7 : Option V), DS p a1 a2 a4 H Hd ns → NdOk i nd → (∀ f xs, nd = .op f xs → f ∈ OPS) → Tp Hd v (pyN nd) → ∀ zs, Hd a4 = some (.lst zs) → TpL Hd zs (ns.map pyN) →
          ∃ (ns' : List (Nd Str)) (v5 v6 v7 : Option V), DS p a1 a2 a4 H (L2.upd Hd a4 (.lst (zs ++ [v]))) ns' ∧ ns'.length = i + 1 ∧ (∀ j nd, ns'[j]? = some nd → NdOk j nd) ∧ (∀ nd ∈ ns', ∀ f xs, nd = .op f xs → f ∈ OPS) ∧
      [some (V.ref p), some (.ref a1), some (.ref a2), some (.int (many : Nat)), some (.ref a4), w5, w6, w7, none, none, none, none] = [some (.ref p), some (.ref a1), some (.ref a2), some (.int (many : Nat)), some (.ref a4), v5, v6, v7, none, none, none, none] := by
        intro nd Hd v w5 w6 w7 dd hnd hop tv zs hz tz
        refine ⟨ns ++ [nd], w5, w6, w7, dd.app hz tz tv, by simp [hnl], fun j nd' hj => ?_, fun nd' hm => ?_, rfl⟩
        · by_cases hjl : j < ns.length
          · rw [List.getElem?_append_left hjl] at hj
            exact hok j nd' hj
          · have hj2 : j = ns.length := by
              have := (List.getElem?_eq_some_iff.mp hj).1
              simp at this
              omega
            subst hj2
            rw [List.getElem?_append_right (Nat.le_refl _), Nat.sub_self] at hj
            have : nd = nd' := by simpa using hj
            subst this
            rw [hnl]; exact hnd
        · rcases List.mem_append.mp hm with hm | hm
          · exact hops nd' hm
          · have : nd' = nd := by simpa using hm
            subst this
            exact hop
      have zi : (0 + (i : Int)) = (i : Nat) := by omega
      rw [zi]
      refine q_seq ?_
      refine draw_at (m := 5) rfl ev_c (by decide) (by decide) d.pl fun kind H4 hk eb4 hp4 => ?_
      dsimp only
      have d4 := d.step eb4 hp4
      refine s_if (b := decide (0 < i) && decide (1 < kind)) (et_is (et_and (et_test (ev_op (ev_var rfl) ev_c rv_I0)) fun _ => et_test (ev_op (ev_var rfl) ev_c rv_I0)) (by rw [show decide ((0 : Int) < ((i : Nat) : Int)) = decide (0 < i) from decide_eq_decide.mpr (by omega), show decide ((1 : Int) < ((kind : Nat) : Int)) = decide (1 < kind) from decide_eq_decide.mpr (by omega)])) (fun hb H5 e5 => ?_) fun hb H5 e5 => ?_
      · have d5 := d4.ex e5
        have hb' : 0 < i ∧ 1 < kind := by simpa using hb
        refine q_seq ?_
        refine draw_at (m := 4) rfl ev_c (by decide) (by decide) d5.pl fun cnt H6 hc eb6 hp6 => ?_
        have d6 := d5.step eb6 hp6
        refine ⟨(cnt : Nat), rfl, by omega, by omega, ?_⟩
        rw [Int.toNat_natCast]
        intro D hD
        refine lc_range (fun t Hd => DS p a1 a2 a4 H Hd ns ∧ ∃ xs : List Nat, xs.length = t ∧ (∀ x ∈ xs, x < i) ∧ Hd D = some (.lst (xs.map fun x : Nat => V.int (x : Nat)))) ⟨d6.ex (Ex.new hD), [], rfl, fun x h => (nomatch h), upd_same⟩ ?_ ?_
        · rintro t Hd ht ⟨dd, xs, hx1, hx2, hx3⟩
          refine ⟨rfl, ?_⟩
          rw [show ∀ (Q : Bool → Hp → Prop) σ H, tYes σ H Q = Q true H from fun _ _ _ => rfl]
          rw [if_pos rfl]
          have nDp : D ≠ p := fun z => by obtain ⟨ys, hy⟩ := hp6.lst; rw [z, hy] at hD; cases hD
          have hD0 : H D = none := by
            cases q : H D with
            | none => rfl
            | some o => have := d6.e _ _ nDp q; rw [this] at hD; cases hD
          refine draw_at (m := i) rfl (ev_var rfl) hb'.1 (by omega) dd.pl fun r He hr' ebe hpe => ⟨_, ebe _ _ nDp hx3, sz_of (by simp; omega), ?_⟩
          have de := dd.step ebe hpe
          have hDe := ebe _ _ nDp hx3
          obtain ⟨zs, hz, tz⟩ := id de.l
          have n4D : a4 ≠ D := ne_of_none d6.l.choose_spec.1 hD
          have up : TX He (L2.upd He D (.lst ((xs.map fun x : Nat => V.int (x : Nat)) ++ [V.int (r : Nat)]))) := TX.upd_lst hDe
          refine ⟨⟨de.e.mut hD0, ?_, ?_, ?_, de.l.keep (upd_ne n4D) up, de.n1, de.n2, de.n4, de.n41, de.n42, de.f4⟩, xs ++ [r], by simp [hx1], fun x hx => ?_, by rw [upd_same, List.map_append]; rfl⟩
          · obtain ⟨x, y, h1, h2⟩ := de.pl
            exact ⟨x, y, by rw [upd_ne nDp.symm]; exact h1, h2⟩
          · rw [upd_ne (ne_of_none d6.n hD)]; exact de.n
          · rw [upd_ne (ne_of_none d6.o hD)]; exact de.o
          · rcases List.mem_append.mp hx with hx | hx
            · exact hx2 x hx
            · have : x = r := by simpa using hx
              subst this; exact hr'
        · rintro Hd ⟨dd, xs, hx1, hx2, hx3⟩
          dsimp only
          obtain ⟨zs, hz, tz⟩ := id dd.l
          refine ⟨_, rfl, .inl ⟨rfl, _, SqL.of hz⟩, ?_⟩
          refine pick_at (xs := OPS.map V.str) rfl rfl dd.n2.symm dd.o (by decide) (by decide) dd.pl fun v He hv ebe hpe => ?_
          obtain ⟨f, hf, rfl⟩ := List.mem_map.mp hv
          have de := dd.step ebe hpe
          have nDp : D ≠ p := fun z => by obtain ⟨ys, hy⟩ := hp6.lst; rw [z, hy] at hD; cases hD
          have hDe := ebe _ _ nDp hx3
          refine ⟨_, rfl, D, _, rfl, .inl ⟨SqL.of hDe, fun q hq => ?_⟩⟩
          refine ⟨by show 2 ≤ sizeLine; decide, fun q2 hq2 => ?_⟩
          have x2 := (Ex.new (o := .tup (xs.map fun x : Nat => V.int (x : Nat))) hq).trans (Ex.new (o := .tup [.str f, .ref q]) hq2)
          have df := de.ex x2
          have h4e := ebe _ _ dd.n4 hz
          have tze := tz.tx (ebe.tx dd.pl.lst)
          refine ⟨a4, zs, _, rfl, rfl, x2 _ _ h4e, sz_of (by have := tz.length; simp at this; omega), ?_⟩
          refine fin (.op f xs) _ (.ref q2) _ _ _ df ⟨opsok f hf, by omega, hx2⟩ (fun g ys e => by cases e; exact hf) ?_ zs (x2 _ _ h4e) (tze.ex x2)
          have hqt : (L2.upd (L2.upd He q (.tup (xs.map fun x : Nat => V.int (x : Nat)))) q2 (.tup [.str f, .ref q])) q = some (.tup (xs.map fun x : Nat => V.int (x : Nat))) := (Ex.new hq2) _ _ upd_same
          exact .tup upd_same (.cons (.str f) (.cons (.tup hqt tpl_ints) .nil))
      · have d5 := d4.ex e5
        obtain ⟨zs, hz, tz⟩ := id d5.l
        refine ⟨_, rfl, .inl ⟨rfl, _, SqL.of hz⟩, ?_⟩
        have lz : zs.length < sizeLine := sz_of (by have := tz.length; simp at this; omega)
        refine (et_test (ev_op (ev_var rfl) ev_c rv_I0) : EvT _ _ H5 _) H5 (Ex.refl _) _ fun H6 e6 => ?_
        by_cases hk2 : kind < 2
        · rw [if_pos (decide_eq_true (by omega))]
          refine ed_ixN (K := K) (ds := [.none, .tuple []]) (j := if kind = 1 then 1 else 0) (d := if kind = 1 then .tuple [] else .none) (en_lst (ead_cons ed_non (ead_cons (ed_tup ead_nil (by simp)) ead_nil)) (by simp)) (ev_intb (ev_eqI (ev_var rfl) ev_c)) (by
            by_cases q : kind = 1
            · subst q; rfl
            · have : ¬ ((kind : Int) = 1) := by omega
              simp [q, this]) (by split <;> rfl) H6 (Ex.refl _) _ fun v H7 e7 tv => ?_
          have e67 := e6.trans e7
          refine ⟨a4, zs, v, rfl, rfl, e67 _ _ hz, lz, ?_⟩
          refine fin (if kind = 1 then .non else .opn) H7 v _ _ _ (d5.ex e67) (by split <;> trivial) (fun g ys e => by split at e <;> cases e) ?_ zs (e67 _ _ hz) (tz.ex e67)
          by_cases q : kind = 1
          · rw [if_pos q] at tv ⊢; exact tv
          · rw [if_neg q] at tv ⊢; exact tv
        · rw [if_neg (by rw [decide_eq_false (by omega)]; decide)]
          have d6 := d5.ex e6
          refine pick_at (xs := OPS.map V.str) rfl rfl d6.n2.symm d6.o (by decide) (by decide) d6.pl fun v H7 hv eb7 hp7 => ?_
          obtain ⟨f, hf, rfl⟩ := List.mem_map.mp hv
          have d7 := d6.step eb7 hp7
          have h47 := eb7 _ _ d6.n4 (e6 _ _ hz)
          have tz7 := (tz.ex e6).tx (eb7.tx d6.pl.lst)
          refine ed_tup (ead_nil) (by simp) H7 (Ex.refl _) _ fun v0 H8 e8 tv0 => ?_
          refine ⟨by show 2 ≤ sizeLine; decide, fun q2 hq2 => ?_⟩
          have x2 := e8.trans (Ex.new (o := .tup [.str f, v0]) hq2)
          refine ⟨a4, zs, _, rfl, rfl, x2 _ _ h47, lz, ?_⟩
          exact fin (.op f []) _ (.ref q2) _ _ _ (d7.ex x2) ⟨opsok f hf, by simp, fun x h => (nomatch h)⟩ (fun g ys e => by cases e; exact hf) (.tup upd_same (.cons (.str f) (.cons (tv0.ex (Ex.new hq2)) .nil))) zs (x2 _ _ h47) (tz7.ex x2)
    · rintro σ Hc ⟨ns, v5, v6, v7, d, hnl, hok, hops, rfl⟩
      dsimp only
      refine q_seq ?_
      refine ⟨Nat.zero_le _, fun a9 h9 => ?_⟩
      have d1 := d.ex (Ex.new (o := .lst []) h9)
      have n9 : a9 ≠ p := fun z => by obtain ⟨ys, hy⟩ := d.pl.lst; rw [z, hy] at h9; cases h9
      have f9 : H a9 = none := by
        cases q : H a9 with
        | none => rfl
        | some o => have := d.e _ _ n9 q; rw [this] at h9; cases h9
      have n91 : a1 ≠ a9 := ne_of_none d.n h9
      have n92 : a2 ≠ a9 := ne_of_none d.o h9
      have n94 : a4 ≠ a9 := ne_of_none d.l.choose_spec.1 h9
      have h9' : (L2.upd Hc a9 (.lst [])) a9 = some (.lst []) := upd_same
      generalize L2.upd Hc a9 (.lst []) = H4 at *
      refine q_seq ?_
      refine ⟨2, rfl, by decide, by decide, ?_⟩
      have sd : ∀ (rows : List (Str × Nat)), (rows.map (·.1)).Sublist NMS → (∀ r ∈ rows, r.2 < many) → PlOk ns.length rows ∧ ∀ r ∈ rows, r.1 ∈ VN := fun rows hs hm => by
        have hin : ∀ r ∈ rows, r.1 ∈ NMS := fun r hr => hs.subset (List.mem_map.mpr ⟨r, hr, rfl⟩)
        have h1 : ∀ n ∈ NMS, nmOk n = true ∧ n ∈ VN := by decide +kernel
        refine ⟨⟨?_, hs.nodup (by decide +kernel), fun r hr => ⟨(h1 _ (hin r hr)).1, by rw [hnl]; exact hm r hr⟩⟩, fun r hr => (h1 _ (hin r hr)).2⟩
        have := hs.length_le
        rw [List.length_map] at this
        have e : NMS.length = 3 := rfl
        omega
      refine for_range (n := 2) (fun j σ Hd => DS p a1 a2 a4 H Hd ns ∧ ∃ (sl : List Addr) (v10 : Option V), sl.length = j ∧ Hd a9 = some (.lst (sl.map V.ref)) ∧ (∀ t e, sl[t]? = some e → e ≠ a9 ∧ e ≠ p ∧ ∃ rows : List (Str × Nat), LsD e (rows.map pyP) Hd ∧ (rows.map (·.1)).Sublist NMS ∧ ∀ r ∈ rows, r.2 < many) ∧
        σ = [some (.ref p), some (.ref a1), some (.ref a2), some (.int (many : Nat)), some (.ref a4), v5, v6, v7, none, some (.ref a9), v10, none]) ⟨d1, [], none, rfl, h9', fun t e h => absurd h (by rw [List.getElem?_nil]; exact fun z => by cases z), rfl⟩ ?_ ?_
      · rintro j σ Hd hj ⟨dd, sl, v10, hsl, hl9, hes, rfl⟩
        refine ⟨_, rfl, .inl ⟨rfl, _, SqL.of hl9⟩, ?_⟩
        refine ⟨_, rfl, a1, rfl, ⟨_, SqL.of dd.n⟩, fun D hD => ?_⟩
        have nDp : D ≠ p := fun z => by obtain ⟨ys, hy⟩ := dd.pl.lst; rw [z, hy] at hD; cases hD
        have hD0 : H D = none := by
          cases q : H D with
          | none => rfl
          | some o => have := dd.e _ _ nDp q; rw [this] at hD; cases hD
        have n9D : a9 ≠ D := ne_of_none hl9 hD
        have n4D : a4 ≠ D := ne_of_none dd.l.choose_spec.1 hD
        have upd4 : ∀ (He : Hp) (xs ys : List V), He D = some (.lst xs) → DS p a1 a2 a4 H He ns → DS p a1 a2 a4 H (L2.upd He D (.lst ys)) ns := fun He xs ys hDe de => by
          have up : TX He (L2.upd He D (.lst ys)) := TX.upd_lst hDe
          refine ⟨de.e.mut hD0, ?_, ?_, ?_, de.l.keep (upd_ne n4D) up, de.n1, de.n2, de.n4, de.n41, de.n42, de.f4⟩
          · obtain ⟨x, y, h1, h2⟩ := de.pl
            exact ⟨x, y, by rw [upd_ne nDp.symm]; exact h1, h2⟩
          · rw [upd_ne (ne_of_none dd.n hD)]; exact de.n
          · rw [upd_ne (ne_of_none dd.o hD)]; exact de.o
        refine lc_list (K := K) (a := a1) (xs := NMS.map V.str) (fun i He => DS p a1 a2 a4 H He ns ∧ ExB p Hd He ∧ ∃ (rows : List (Str × Nat)), LsD D (rows.map pyP) He ∧ (rows.map (·.1)).Sublist (NMS.take i) ∧ ∀ r ∈ rows, r.2 < many)
          ⟨dd.ex (Ex.new hD), ExB.of (Ex.new hD), [], ⟨[], upd_same, .nil⟩, List.Sublist.refl _, fun r h => (nomatch h)⟩ (fun i He _ q => SqL.of q.1.n) ?_ ?_
        · rintro i x He hi ⟨de, ebe, rows, ⟨xs, hDe, tx⟩, hsub, hlt⟩
          rw [List.getElem?_map] at hi
          cases qn : NMS[i]? with
          | none => rw [qn] at hi; cases hi
          | some n =>
            rw [qn] at hi
            cases hi
            have hi3 : i < 3 := (List.getElem?_eq_some_iff.mp qn).1
            refine ⟨rfl, ?_⟩
            have snoc : NMS.take (i + 1) = NMS.take i ++ [n] := by rw [List.take_succ_eq_append_getElem (List.getElem?_eq_some_iff.mp qn).1, (List.getElem?_eq_some_iff.mp qn).2]
            have pre : (rows.map (·.1)).Sublist (NMS.take (i + 1)) := by rw [snoc]; exact hsub.trans (List.sublist_append_left _ _)
            refine (et_test (ev_op (ev_var rfl) ev_c rv_I0) : EvT _ _ He _) He (Ex.refl _) _ fun Hf ef => ?_
            have df := de.ex ef
            by_cases hm0 : 0 < many
            · rw [if_pos (decide_eq_true (by omega))]
              refine draw_at (m := 4) rfl ev_c (by decide) (by decide) df.pl fun r Hg hr' ebg hpg => ?_
              have dg := df.step ebg hpg
              have hDg : Hg D = some (.lst xs) := ebg _ _ nDp (ef _ _ hDe)
              have txg := (tx.ex ef).tx (ebg.tx df.pl.lst)
              refine ⟨(r : Nat), 0, rfl, rfl, _, rfl, ?_⟩
              by_cases hr0 : 0 < r
              · dsimp only
                rw [if_pos (decide_eq_true (by omega))]
                refine ⟨_, rfl, ?_⟩
                refine draw_at (m := many) rfl (ev_var rfl) hm0 (by omega) dg.pl fun u Hh hu' ebh hph => ?_
                have dh := dg.step ebh hph
                refine ⟨by show 2 ≤ sizeLine; decide, fun q hq => ?_⟩
                have xq := Ex.new (o := .tup [.str n, .int (u : Nat)]) hq
                have dq := dh.ex xq
                have hDq := xq _ _ (ebh _ _ nDp hDg)
                have txq := (txg.tx (ebh.tx dg.pl.lst)).ex xq
                refine ⟨xs, hDq, sz_of (by rw [tx.length, List.length_map]; have := hsub.length_le; simp at this; omega), upd4 _ _ _ hDq dq, ?_, rows ++ [(n, u)], ⟨_, upd_same, ?_⟩, ?_, ?_⟩
                · exact ((ebe.trans (ExB.of ef)).trans ((ebg.trans ebh).trans (ExB.of xq))).mut hD
                · have up : TX _ (L2.upd _ D (.lst (xs ++ [.ref q]))) := TX.upd_lst hDq
                  rw [List.map_append]
                  exact TpL.snoc (txq.tx up) ((Tp.tup (ds := [.str n, .int (u : Nat)]) upd_same (.cons (.str n) (.cons (.int _) .nil))).tx up)
                · rw [snoc, List.map_append]
                  exact hsub.append (List.Sublist.refl _)
                · intro r' hr''
                  rcases List.mem_append.mp hr'' with h | h
                  · exact hlt r' h
                  · have : r' = (n, u) := by simpa using h
                    subst this; exact hu'
              · dsimp only
                rw [if_neg (by rw [decide_eq_false (by omega)]; decide)]
                exact ⟨dg, (ebe.trans (ExB.of ef)).trans ebg, rows, ⟨xs, hDg, txg⟩, pre, hlt⟩
            · rw [if_neg (by rw [decide_eq_false (by omega)]; decide)]
              dsimp only
              rw [if_neg (by decide)]
              exact ⟨df, ebe.trans (ExB.of ef), rows, ⟨xs, ef _ _ hDe, tx.ex ef⟩, pre, hlt⟩
        · rintro He ⟨de, ebe, rows, hL, hsub, hlt⟩
          have hl9e := ebe _ _ n9 hl9
          refine ⟨a9, _, _, rfl, rfl, hl9e, sz_of (by rw [List.length_map, hsl]; omega), ?_⟩
          have up : TX He (L2.upd He a9 (.lst (sl.map V.ref ++ [V.ref D]))) := TX.upd_lst hl9e
          refine ⟨⟨de.e.mut f9, ?_, ?_, ?_, de.l.keep (upd_ne n94) up, de.n1, de.n2, de.n4, de.n41, de.n42, de.f4⟩, sl ++ [D], _, by simp [hsl], by rw [upd_same, List.map_append]; rfl, fun t e ht => ?_, rfl⟩
          · obtain ⟨x, y, h1, h2⟩ := de.pl
            exact ⟨x, y, by rw [upd_ne n9.symm]; exact h1, h2⟩
          · rw [upd_ne n91]; exact de.n
          · rw [upd_ne n92]; exact de.o
          · by_cases htl : t < sl.length
            · rw [List.getElem?_append_left htl] at ht
              obtain ⟨m1, m2, rows', hL', hs', hm'⟩ := hes t e ht
              exact ⟨m1, m2, rows', (hL'.exb m2 dd.pl ebe).keep (upd_ne m1) up, hs', hm'⟩
            · have ht2 : t = sl.length := by
                have := (List.getElem?_eq_some_iff.mp ht).1
                simp at this
                omega
              subst ht2
              rw [List.getElem?_append_right (Nat.le_refl _), Nat.sub_self] at ht
              have : D = e := by simpa using ht
              subst this
              exact ⟨n9D.symm, nDp, rows, hL.keep (upd_ne n9D.symm) up, hsub, hlt⟩
      · rintro σ Hd ⟨dd, sl, v10, hsl, hl9, hes, rfl⟩
        obtain ⟨f0, f1, rfl⟩ : ∃ f0 f1, sl = [f0, f1] := by
          match sl, hsl with
          | [f0, f1], _ => exact ⟨f0, f1, rfl⟩
        obtain ⟨_, _, r0, hL0, hs0, hm0⟩ := hes 0 f0 rfl
        obtain ⟨_, _, r1, hL1, hs1, hm1⟩ := hes 1 f1 rfl
        dsimp only
        refine ⟨_, rfl, ?_⟩
        refine ev_op (ev_var rfl) ev_c (rv_ixL (SqL.of hl9) (atI_nat (j := 0) rfl)) Hd (Ex.refl _) _ fun He xe => ?_
        refine ev_op (ev_var rfl) ev_c (rv_ixL (SqL.of hl9) (atI_nat (j := 1) rfl)) He xe _ fun Hf xf => ?_
        refine ⟨by show 3 ≤ sizeLine; decide, fun t ht => ?_⟩
        have xx := (xe.trans xf).trans (Ex.new (o := .lst [.ref a4, .ref f0, .ref f1]) ht)
        have df := dd.ex xx
        have ntp : t ≠ p := fun z => by obtain ⟨ys, hy⟩ := (dd.ex (xe.trans xf)).pl.lst; rw [z, hy] at ht; cases ht
        have ht0 : H t = none := by
          cases q : H t with
          | none => rfl
          | some o => have := (dd.ex (xe.trans xf)).e _ _ ntp q; rw [this] at ht; cases ht
        refine k t ⟨ns, r0, r1⟩ _ ht0 df.e df.pl ⟨⟨⟨⟨?_, hok⟩, (sd r0 hs0 hm0).1, (sd r1 hs1 hm1).1⟩, fun s r hr' => ?_⟩, ?_, hops⟩ ⟨a4, f0, f1, upd_same, df.l, LsD.ex xx hL0, LsD.ex xx hL1⟩
        · show ns.length < 1000
          omega
        · cases s with
          | false => exact (sd r0 hs0 hm0).2 r hr'
          | true => exact (sd r1 hs1 hm1).2 r hr'
        · show ns.length ≤ 6
          omega
end
end K49W

-- part K49L4
namespace K49W
open PySem PySem.Spec PyProof.Rows L2 Evl
open K49 (Nd Rw Tm WfN tm)
/-! ### terms as data -/
section
variable {L : Type}
def tD (enc : L → List PyData) : Tm Str L → PyData
  | .hole l => .tuple (.str "?" :: enc l)
  | .nil => .tuple []
  | .app f ts => .tuple (.str f :: ts.map fun t => tD enc t)
def Wt (W : L → Prop) : Nat → Tm Str L → Prop
  | _, .hole l => W l
  | _, .nil => True
  | 0, .app _ _ => False
  | n + 1, .app f ts => f ∈ OPS ∧ ts.length ≤ 3 ∧ ∀ t ∈ ts, Wt W n t
variable {enc : L → List PyData} {W : L → Prop}
theorem tD_app {f : Str} {ts : List (Tm Str L)} : tD enc (.app f ts) = .tuple (.str f :: ts.map (tD enc)) := by simp [tD]
theorem wt_app {f : Str} {ts : List (Tm Str L)} {n : Nat} (h : Wt W n (.app f ts)) : ∃ m, n = m + 1 ∧ f ∈ OPS ∧ ts.length ≤ 3 ∧ ∀ t ∈ ts, Wt W m t := by
  cases n with
  | zero => simp [Wt] at h
  | succ m => exact ⟨m, rfl, by simpa [Wt] using h⟩
theorem Wt.mono : ∀ {n m : Nat} {t : Tm Str L}, Wt W n t → n ≤ m → Wt W m t
  | n, m, .hole l, h, _ => by cases m <;> simpa [Wt] using h
  | n, m, .nil, _, _ => by cases m <;> simp [Wt]
  | n, m, .app f ts, h, hm => by
    obtain ⟨k, rfl, h1, h2, h3⟩ := wt_app h
    obtain ⟨m', rfl⟩ : ∃ m', m = m' + 1 := ⟨m - 1, by omega⟩
    have : f ∈ OPS ∧ ts.length ≤ 3 ∧ ∀ t ∈ ts, Wt W m' t := ⟨h1, h2, fun t ht => Wt.mono (h3 t ht) (by omega)⟩
    simpa [Wt] using this
theorem pln_q : Pln (.str "?") = true := by decide +kernel
theorem pd_tD {c : Nat} (he : ∀ l, W l → PlnL (enc l) = true ∧ PyData.depthAll (enc l) ≤ c) : ∀ {n : Nat} {t : Tm Str L}, Wt W n t → Pln (tD enc t) = true ∧ (tD enc t).depth ≤ n + c + 1
  | n, .hole l, h => by
    have h : W l := by cases n <;> simpa [Wt] using h
    obtain ⟨h1, h2⟩ := he l h
    refine ⟨?_, ?_⟩
    · rw [tD, pln_tup]; unfold PlnL; rw [pln_q, h1]; rfl
    · rw [tD, depth_tup]
      simp only [PyData.depthAll, PyData.depth]
      omega
  | n, .nil, _ => by
    rw [tD]
    exact ⟨rfl, by simp [PyData.depth, PyData.depthAll]⟩
  | n, .app f ts, h => by
    obtain ⟨k, rfl, h1, h2, h3⟩ := wt_app h
    have ih : ∀ t ∈ ts, Pln (tD enc t) = true ∧ (tD enc t).depth ≤ k + c + 1 := fun t ht => pd_tD he (h3 t ht)
    rw [tD_app]
    refine ⟨?_, ?_⟩
    · rw [pln_tup]; unfold PlnL
      rw [pln_str ((by decide +kernel : ∀ f ∈ OPS, nmOk f = true) f h1), plnL_map fun t ht => (ih t ht).1]; rfl
    · rw [depth_tup]
      simp only [PyData.depthAll, PyData.depth]
      have := depthAll_le (n := k + c + 1) (l := ts.map (tD enc)) fun a ha => by
        obtain ⟨t, ht, rfl⟩ := List.mem_map.mp ha
        exact (ih t ht).2
      omega
theorem q_ops : ∀ f ∈ OPS, f ≠ ("?" : Str) := by decide +kernel
theorem tD_inj (hi : ∀ l m, W l → W m → enc l = enc m → l = m) : ∀ {n : Nat} {t u : Tm Str L}, Wt W n t → Wt W n u → tD enc t = tD enc u → t = u
  | n, .hole l, .hole m, h, h2, e => by
    have h : W l := by cases n <;> simpa [Wt] using h
    have h2 : W m := by cases n <;> simpa [Wt] using h2
    simp only [tD, PyData.tuple.injEq, List.cons.injEq, true_and] at e
    rw [hi l m h h2 e]
  | n, .hole l, .nil, _, _, e => by simp [tD] at e
  | n, .hole l, .app f ts, _, h2, e => by
    obtain ⟨k, rfl, h1, _, _⟩ := wt_app h2
    simp only [tD, PyData.tuple.injEq, List.cons.injEq, PyData.str.injEq] at e
    exact absurd e.1.symm (q_ops f h1)
  | n, .nil, .hole l, _, _, e => by simp [tD] at e
  | n, .nil, .nil, _, _, _ => rfl
  | n, .nil, .app f ts, _, _, e => by simp [tD] at e
  | n, .app f ts, .hole l, h, _, e => by
    obtain ⟨k, rfl, h1, _, _⟩ := wt_app h
    simp only [tD, PyData.tuple.injEq, List.cons.injEq, PyData.str.injEq] at e
    exact absurd e.1 (q_ops f h1)
  | n, .app f ts, .nil, _, _, e => by simp [tD] at e
  | n, .app f ts, .app g us, h, h2, e => by
    obtain ⟨k, rfl, _, _, h3⟩ := wt_app h
    obtain ⟨k', e', _, _, h4⟩ := wt_app h2
    obtain rfl : k = k' := by omega
    rw [tD_app, tD_app] at e
    simp only [PyData.tuple.injEq, List.cons.injEq, PyData.str.injEq] at e
    obtain ⟨rfl, e⟩ := e
    have : ∀ (ts us : List (Tm Str L)), (∀ t ∈ ts, Wt W k t) → (∀ t ∈ us, Wt W k t) → ts.map (tD enc) = us.map (tD enc) → ts = us := by
      intro ts
      induction ts with
      | nil => intro us _ _ e; cases us with
        | nil => rfl
        | cons => simp at e
      | cons t ts ih => intro us a b e; cases us with
        | nil => simp at e
        | cons u us =>
          simp only [List.map_cons, List.cons.injEq] at e
          rw [tD_inj hi (a t List.mem_cons_self) (b u List.mem_cons_self) e.1, ih us (fun z hz => a z (List.mem_cons_of_mem _ hz)) (fun z hz => b z (List.mem_cons_of_mem _ hz)) e.2]
    rw [this ts us h3 h4 e]
termination_by n => n
end
/-! the two kinds of holes -/
def e1 : Nat → List PyData := fun i => [.int (i : Nat)]
abbrev W1 : Nat → Prop := fun _ => True
abbrev t1 : Tm Str Nat → PyData := tD e1
def e2 : Tm Str Nat × Tm Str Nat → List PyData := fun p => [t1 p.1, t1 p.2]
abbrev W2 : Tm Str Nat × Tm Str Nat → Prop := fun p => Wt W1 10 p.1 ∧ Wt W1 10 p.2
abbrev t2 : Tm Str (Tm Str Nat × Tm Str Nat) → PyData := tD e2
theorem e1_ok : ∀ l, W1 l → PlnL (e1 l) = true ∧ PyData.depthAll (e1 l) ≤ 0 := fun l _ => ⟨rfl, by simp [e1, PyData.depthAll, PyData.depth]⟩
theorem e1_inj : ∀ l m, W1 l → W1 m → e1 l = e1 m → l = m := fun l m _ _ e => by
  simp only [e1, List.cons.injEq, PyData.int.injEq, and_true] at e
  omega
theorem e2_ok : ∀ l, W2 l → PlnL (e2 l) = true ∧ PyData.depthAll (e2 l) ≤ 11 := fun l h => by
  have a := pd_tD e1_ok h.1
  have b := pd_tD e1_ok h.2
  refine ⟨by unfold e2 PlnL; rw [a.1]; unfold PlnL; rw [b.1]; rfl, ?_⟩
  have a2 : (t1 l.1).depth ≤ 10 + 0 + 1 := a.2
  have b2 : (t1 l.2).depth ≤ 10 + 0 + 1 := b.2
  simp only [e2, PyData.depthAll]
  omega
theorem e2_inj : ∀ l m, W2 l → W2 m → e2 l = e2 m → l = m := fun l m h h2 e => by
  simp only [e2, List.cons.injEq, and_true] at e
  exact Prod.ext (tD_inj e1_inj h.1 h2.1 e.1) (tD_inj e1_inj h.2 h2.2 e.2)
theorem pd1 {n : Nat} (hn : n ≤ 20) {t : Tm Str Nat} (h : Wt W1 n t) : Pd (t1 t) := by
  have := pd_tD e1_ok h
  have h2 : (t1 t).depth ≤ n + 0 + 1 := this.2
  exact ⟨this.1, by omega⟩
theorem pd2 {n : Nat} (hn : n ≤ 20) {t : Tm Str (Tm Str Nat × Tm Str Nat)} (h : Wt W2 n t) : Pd (t2 t) := by
  have := pd_tD e2_ok h
  have h2 : (t2 t).depth ≤ n + 11 + 1 := this.2
  exact ⟨this.1, by omega⟩
theorem t1_nil {t : Tm Str Nat} : t1 t = .tuple [] ↔ t = .nil := by cases t <;> simp [tD]
theorem t2_nil {t : Tm Str (Tm Str Nat × Tm Str Nat)} : t2 t = .tuple [] ↔ t = .nil := by cases t <;> simp [tD]
/-- the terms of drawn nodes -/
theorem wt_tm {ns : List (Nd Str)} (ok : NsOk ns) (ho : ∀ nd ∈ ns, ∀ f xs, nd = .op f xs → f ∈ OPS) : ∀ {k i : Nat}, i < k → Wt W1 k (tm ns i)
  | 0, i, h => absurd h (Nat.not_lt_zero i)
  | k + 1, i, h => by
    by_cases hi : i < ns.length
    · rw [K49.tm_eq ok.wf (getD_some (d := .non) hi)]
      cases q : ns.getD i .non with
      | opn => simp [Wt, W1]
      | non => simp [Wt]
      | op f xs =>
        have hat := ok.at hi
        rw [q] at hat
        have hm : ns.getD i .non ∈ ns := List.mem_of_getElem? (getD_some hi)
        have : f ∈ OPS ∧ (xs.map (tm ns)).length ≤ 3 ∧ ∀ t ∈ xs.map (tm ns), Wt W1 k t := by
          refine ⟨ho _ hm f xs q, by rw [List.length_map]; exact hat.2.1, fun t ht => ?_⟩
          obtain ⟨x, hx, rfl⟩ := List.mem_map.mp ht
          have := hat.2.2 x hx
          exact wt_tm ok ho (by omega)
        simpa [Wt] using this
    · rw [K49.tm_out (by omega)]
      simp [Wt]
/-! ### tuples joined -/
section
variable {ta tb : TE} {σ : L2.St} {H : Hp} {K : PySem.W.Frag} {d : PyData} {ds es : List PyData}
theorem ed_cat (ha : EvD ta σ H (.tuple (d :: ds))) (hb : EvD tb σ H (.tuple es)) (hl : ds.length + es.length < 99999) : EvD (tOp (rCatT K) ta tb) σ H (.tuple (d :: ds ++ es)) := fun H1 e Q q =>
  ha H1 e _ fun v H2 e2 t => hb H2 (e.trans e2) _ fun u H3 e3 t3 => by
    obtain ⟨a, xs, rfl, hx, tx⟩ := (t.ex e3).inv_tup
    obtain ⟨b, ys, rfl, hy, ty⟩ := t3.inv_tup
    have lx := tx.length
    have ly := ty.length
    rw [List.length_cons] at lx
    refine ⟨a, b, xs, ys, rfl, rfl, SqT.of hx, SqT.of hy, fun z => by rw [z] at lx; simp at lx, sz_of (by omega), fun z => ?_, fun _ p hp => ?_⟩
    · subst z
      have : es = [] := by cases es with
        | nil => rfl
        | cons => simp at ly
      subst this
      refine q _ H3 (e2.trans e3) ?_
      rw [List.append_nil]
      exact .tup hx tx
    · have ep := Ex.new (o := .tup (xs ++ ys)) hp
      exact q _ _ ((e2.trans e3).trans ep) (.tup upd_same ((tx.append ty).ex ep))
end
section
variable {P : Program} {w : World} {K : PySem.W.Frag} {mg : Str → Option Value} {base : Heap}
/-! ### term_of -/
theorem sc_term : FnScope ["_law_nodes", "_law_at", "_law_inner"] ["_law_nodes", "_law_at"] (defScope (top 31)) := ⟨rfl, rfl, rfl, by decide +kernel, rfl, by decide +kernel, by decide +kernel⟩
def spTerm (L : Nat) : Sp := fun vs H Q _ => ∃ (a : Addr) (i : Nat) (ns : List (Nd Str)), vs = [.ref a, .int (i : Nat)] ∧ i < L ∧ i < ns.length ∧ LsD a (ns.map pyN) H ∧ NsOk ns ∧ ∀ v H', Ex H H' → Tp H' v (t1 (tm ns i)) → Q v H'
theorem cal_term (T : Nm K mg) (F : Df K (dG 31 "_law_term_of")) : ∀ L : Nat, Cal P w K mg base (L + 1) "_law_term_of" ["_law_nodes", "_law_at"] (spTerm L)
  | 0 => by
    refine cal_of T F (by decide +kernel) sc_term (fun _ _ _ _ _ _ us hl => match us, hl with | [_, _], _ => rfl) (fun vs H Q E h => ?_) fun cdv A outer s H vs Q E hr h => ?_
    · obtain ⟨a, i, ns, _, hi, _⟩ := h
      exact absurd hi (Nat.not_lt_zero i)
    · obtain ⟨a, i, ns, _, hi, _⟩ := h
      exact absurd hi (Nat.not_lt_zero i)
  | L + 1 => by
    have ih := cal_term T F L
    refine cal_of T F (by decide +kernel) sc_term (fun _ _ _ _ _ _ us hl => match us, hl with | [_, _], _ => rfl) (fun vs H Q E h => ?_) fun cdv A outer s H vs Q E hr h => ?_
    · obtain ⟨a, i, ns, rfl, _⟩ := h
      rfl
    · obtain ⟨a, i, ns, rfl, hi, hil, hN, ok, k⟩ := h
      have nd := sc_term.nd
      refine ⟨_, (pss_cons (ps_if (q_none (q_ixL (pv 0) (pv 1))) (pss_one (ps_ret (pe_tup (pa_cons pe_str (pa_cons (pv 1) pa_nil))))) pss_nil) (pss_cons (ps_if (q_eqD hr.units (q_ixL (pv 0) (pv 1)) (pe_tup pa_nil)) (pss_one (ps_ret (pe_tup pa_nil))) pss_nil) (pss_one (ps_ret (pe_op op_catT (pe_tup (pa_cons (q_ixT (q_ixL (pv 0) (pv 1)) pe_int) pa_nil)) (q_tuple T (pa_cons (pe_lc (own := [("_law_inner", 2)]) (g := gName 2) (tt := tYes) (te := tCall (spTerm L) [] E0 (tCons (tVar 0) (tCons (tVar 2) tNil))) rfl nd (pi_tup (q_ixT (q_ixL (pv 0) (pv 1)) pe_int)) (blkOk_by (N := ["_law_nodes", "_law_at", "_law_inner"]) (sc := defScope (top 31)) (by decide +kernel))
            (fun _ _ _ _ _ => pg_name (i := 2) nd rfl (Or.inl rfl)) (fun _ _ _ _ _ => pts_nil) (fun _ _ _ _ _ => pe_cal ih hr (by rfl) (pa_cons (pv 0) (pa_cons (pv 2) pa_nil)))) pa_nil))))))), ?_⟩
      have node : ∀ {H1 : Hp}, Ex H H1 → EvD (tOp (rIxL K) (tVar 0) (tVar 1)) (start ["_law_nodes", "_law_at", "_law_inner"] [.ref a, .int (i : Nat)]) H1 (pyN (ns.getD i .non)) := fun {H1} e => by
        obtain ⟨xs, hx, tx⟩ := LsD.ex e hN
        exact ed_ixL (ev_var rfl) hx tx (ev_var rfl) rfl (by rw [List.getElem?_map, getD_some (d := .non) hil]; rfl)
      have hnd : NdOk i (ns.getD i .non) := ok.at hil
      have etm := K49.tm_eq ok.wf (getD_some (d := .non) hil)
      refine s_if (et_B (ev_isNo (node (Ex.refl _)))) (fun hb H1 e1 => ?_) fun hb H1 e1 => ?_
      · rw [pyN_none] at hb
        cases q : ns.getD i .non with
        | non => rw [q] at hb; simp at hb
        | op f xs => rw [q] at hb; simp at hb
        | opn =>
          rw [q] at etm
          refine s_retD (d := t1 (tm ns i)) (ed_is (ed_tup (ead_cons ed_str (ead_cons (int_d (ev_var rfl)) ead_nil)) (by simp)) (by rw [etm]; simp [tD, K49W.e1])) fun v H2 e2 t => k v H2 (e1.trans e2) t
      · rw [pyN_none] at hb
        refine s_if (et_test (ev_eqD (node e1) (ed_tup ead_nil (by simp)) (pd_node hnd).1 pd_nil)) (fun hb2 H2 e2 => ?_) fun hb2 H2 e2 => ?_
        · rw [pyN_nil] at hb2
          cases q : ns.getD i .non with
          | opn => rw [q] at hb2; simp [K49.isNon] at hb2
          | op f xs => rw [q] at hb2; simp [K49.isNon] at hb2
          | non =>
            rw [q] at etm
            refine s_retD (d := t1 (tm ns i)) (ed_is (ed_tup ead_nil (by simp)) (by rw [etm]; simp [tD])) fun v H3 e3 t => k v H3 ((e1.trans e2).trans e3) t
        · rw [pyN_nil] at hb2
          cases q : ns.getD i .non with
          | opn => rw [q] at hb; simp at hb
          | non => rw [q] at hb2; simp [K49.isNon] at hb2
          | op f xs =>
            rw [q] at etm hnd
            have e12 := e1.trans e2
            have nd2 := node e12
            rw [q] at nd2
            refine s_retD (d := t1 (tm ns i)) (ed_is (ed_cat (ed_tup (ead_cons (ed_ixT nd2 ev_c (j := 0) rfl rfl) ead_nil) (by simp)) (ed_tupN (en_is (en_lcT (as := xs) (enc := fun i : Nat => .int (i : Nat)) (ed_ixT nd2 ev_c (j := 1) rfl rfl) (by have := hnd.2.1; omega) (fun z => some (t1 (tm ns z))) fun z x H3 hz e3 t Q' kk => ?_) (filterMap_some _ _))) (by rw [List.length_map]; have := hnd.2.1; simp; omega)) ?_) fun v H3 e3 t => k v H3 (e12.trans e3) t
            · have := t.inv_int
              subst this
              refine kk _ rfl et_yes fun d hd => ?_
              cases hd
              have hzi := hnd.2.2 z hz
              exact fun H4 e4 Q q => ⟨_, rfl, _, rfl, a, z, ns, rfl, by omega, by omega, LsD.ex ((e12.trans e3).trans e4) hN, ok, fun v H5 e5 t5 => q v H5 e5 t5⟩
            · rw [etm]
              show _ = tD K49W.e1 (.app f (xs.map (tm ns)))
              rw [tD_app, List.map_map]; rfl
end
end K49W

-- part K49L5
namespace K49W
open PySem PySem.Spec PyProof.Rows L2 Evl
open K49 (Nd Rw Tm WfN tm val)
/-! ### dicts of data -/
def rowsK {α : Type} (enc : α → PyData) (rows : List (Str × α)) : List (Key × PyData) := rows.map fun r => (Sum.inr r.1, enc r.2)
def KvAt (d : Addr) (kds : List (Key × PyData)) (H : Hp) : Prop := ∃ kvs, H d = some (.dK kvs) ∧ KvD H kvs kds
theorem KvAt.ex {d : Addr} {kds : List (Key × PyData)} {H H' : Hp} (e : Ex H H') (h : KvAt d kds H) : KvAt d kds H' := let ⟨kvs, h1, h2⟩ := h; ⟨kvs, e _ _ h1, h2.ex e⟩
theorem KvAt.keep {d : Addr} {kds : List (Key × PyData)} {H H' : Hp} (h : KvAt d kds H) (e : H' d = H d) (t : TX H H') : KvAt d kds H' := let ⟨kvs, h1, h2⟩ := h; ⟨kvs, by rw [e]; exact h1, h2.tx t⟩
theorem KvD.keys {H : Hp} : ∀ {r : List (Key × V)} {s : List (Key × PyData)}, KvD H r s → r.map (·.1) = s.map (·.1)
  | _, _, .nil => rfl
  | _, _, .cons a b => by rw [List.map_cons, List.map_cons, KvD.keys b]
def rDictP (K : PySem.W.Frag) : List V → Hp → VK → Prop := fun xs H Q => ∃ (a : Addr) (ps : List Addr) (kvs : List (Key × V)), xs = [.ref a] ∧ SqL K H a (ps.map V.ref) ∧ Paired (fun p kv => SqT K H p [kV kv.1, kv.2]) ps kvs ∧ ∀ p, H p = none → Q (.ref p) (L2.upd H p (.dK (mergeK [] kvs)))
def EvKD (te : TE) (σ : L2.St) (H : Hp) (kds : List (Key × PyData)) : Prop := ∀ H1, Ex H H1 → ∀ Q : VK, (∀ p H2, H1 p = none → Ex H1 H2 → KvAt p kds H2 → Q (.ref p) H2) → te σ H1 Q
theorem pairs_of {α : Type} {enc : α → PyData} {K : PySem.W.Frag} {H : Hp} : ∀ {xs : List V} {rows : List (Str × α)}, TpL H xs (rows.map fun r => .tuple [.str r.1, enc r.2]) → ∃ ps kvs, xs = ps.map V.ref ∧ Paired (fun p (kv : Key × V) => SqT K H p [kV kv.1, kv.2]) ps kvs ∧ KvD H kvs (rowsK enc rows)
  | xs, [], h => by
    have := h.inv_nil
    subst this
    exact ⟨[], [], rfl, .nil, .nil⟩
  | xs, r :: rows, h => by
    obtain ⟨v, ys, rfl, t, h2⟩ := TpL.inv_cons h
    obtain ⟨ps, kvs, rfl, p1, k1⟩ := pairs_of h2
    obtain ⟨p, zs, rfl, hp, tz⟩ := t.inv_tup
    obtain ⟨v1, zs, rfl, s1, tz⟩ := tz.inv_cons
    obtain ⟨v2, zs, rfl, s2, tz⟩ := tz.inv_cons
    have := tz.inv_nil
    subst this
    have := s1.inv_str
    subst this
    exact ⟨p :: ps, (Sum.inr r.1, v2) :: kvs, rfl, .cons (SqT.of hp) p1, .cons s2 k1⟩
theorem mergeK_id : ∀ (more kvs : List (Key × V)), ((kvs ++ more).map (·.1)).Nodup → mergeK kvs more = kvs ++ more
  | [], kvs, _ => by simp [mergeK]
  | p :: more, kvs, h => by
    have e : mergeK kvs (p :: more) = mergeK (putK kvs p.1 p.2) more := rfl
    have hn : p.1 ∉ kvs.map (·.1) := fun z => by
      rw [List.map_append, List.nodup_append] at h
      exact h.2.2 _ z p.1 (by simp) rfl
    rw [e, putK_new _ (valV_notin hn), mergeK_id more (kvs ++ [(p.1, p.2)]) (by simpa using h)]
    simp
theorem ekd_dict {α : Type} {enc : α → PyData} {K : PySem.W.Frag} {te : TE} {σ : L2.St} {H : Hp} {rows : List (Str × α)} (h : EvN te σ H (rows.map fun r => .tuple [.str r.1, enc r.2])) (nd : (rows.map (·.1)).Nodup) : EvKD (tCB (rDictP K) (tCons te tNil)) σ H (rowsK enc rows) := fun H1 e Q q =>
  h H1 e _ fun a xs H2 ha e2 hl tx => by
    obtain ⟨ps, kvs, rfl, p1, k1⟩ := pairs_of (K := K) tx
    refine ⟨a, ps, kvs, rfl, SqL.of hl, p1, fun p hp => q p _ (fresh_back e2 hp) (e2.trans (Ex.new hp)) ⟨_, upd_same, ?_⟩⟩
    have hk := k1.keys
    have : (kvs.map (·.1)).Nodup := by
      rw [hk]
      unfold rowsK
      rw [List.map_map]
      have e : rows.map ((fun x : Key × PyData => x.1) ∘ fun r : Str × α => ((Sum.inr r.1 : Key), enc r.2)) = (rows.map (·.1)).map Sum.inr := by rw [List.map_map]; rfl
      rw [e]
      exact inr_nodup nd
    rw [mergeK_id kvs [] (by simpa using this), List.nil_append]
    exact k1.ex (Ex.new hp)
/-- the value at a name, by data -/
theorem kv_lk {α : Type} {enc : α → PyData} {H : Hp} {kvs : List (Key × V)} {rows : List (Str × α)} (h : KvD H kvs (rowsK enc rows)) (n : Str) : match lkp rows n with | some a => ∃ v, valV kvs (Sum.inr n) = some v ∧ Tp H v (enc a) | none => valV kvs (Sum.inr n) = none := by
  have := h.val (k := Sum.inr n)
  have e : lkD (rowsK enc rows) (Sum.inr n) = (lkp rows n).map enc := by
    clear this h
    induction rows with
    | nil => rfl
    | cons r rows ih =>
      obtain ⟨m, a⟩ := r
      unfold rowsK lkD lkp at ih ⊢
      rw [List.map_cons, List.find?_cons, List.lookup_cons]
      by_cases q : n = m
      · subst q; simp
      · have h' : ¬ (Sum.inr m : Key) = Sum.inr n := fun e => q (by injection e with e; exact e.symm)
        simp only [decide_eq_false h', beq_eq_false_iff_ne.mpr q]
        exact ih
  rw [e] at this
  cases q : lkp rows n with
  | none => rw [q] at this; exact this
  | some a => rw [q] at this; exact this
section
variable {te tf tx : TE} {σ : L2.St} {H : Hp} {K : PySem.W.Frag} {d : Addr} {α : Type} {enc : α → PyData} {rows : List (Str × α)} {n : Str}
theorem ed_dgetF {o : Obj} {kvs : List (Key × V)} {a : α} (h : Ev te σ H (.ref d)) (h2 : Ev tf σ H (.str n)) (hd : H d = some (.frz o (.dK kvs))) (hk : KvD H kvs (rowsK enc rows)) (ha : lkp rows n = some a) : EvD (tDGet te tf) σ H (enc a) := by
  have := kv_lk hk n
  rw [ha] at this
  obtain ⟨v, hv, tv⟩ := this
  exact v_d (ev_dgetF (k := Sum.inr n) rfl h h2 hd hv) tv
theorem ed_dget {a : α} (h : Ev te σ H (.ref d)) (h2 : Ev tf σ H (.str n)) (hd : KvAt d (rowsK enc rows) H) (ha : lkp rows n = some a) : EvD (tDGet te tf) σ H (enc a) := by
  obtain ⟨kvs, hd, hk⟩ := hd
  have := kv_lk hk n
  rw [ha] at this
  obtain ⟨v, hv, tv⟩ := this
  exact v_d (ev_dget (k := Sum.inr n) rfl h h2 hd hv) tv
/-- d.get(n, x) -/
theorem ed_dget2 {z : α} (h : Ev te σ H (.ref d)) (h2 : Ev tf σ H (.str n)) (h3 : EvD tx σ H (enc z)) (hd : KvAt d (rowsK enc rows) H) : EvD (tDGet2 te tf tx) σ H (enc ((lkp rows n).getD z)) := fun H1 e Q q =>
  h H1 e _ fun H2 e2 => by
    obtain ⟨kvs, hd, hk⟩ := hd
    refine ⟨d, rfl, .inl ⟨kvs, .inl ((e.trans e2) _ _ hd)⟩, ?_⟩
    refine h2 H2 (e.trans e2) _ fun H3 e3 => ?_
    refine h3 H3 (e.trans (e2.trans e3)) _ fun v H4 e4 tv => ?_
    have ee := e.trans (e2.trans (e3.trans e4))
    refine ⟨_, DGet.k (k := Sum.inr n) (ee _ _ hd), ?_⟩
    have := kv_lk (hk.ex ee) n
    cases q1 : lkp rows n with
    | none =>
      rw [q1] at this q
      rw [this]
      exact q v H4 (e2.trans (e3.trans e4)) tv
    | some a =>
      rw [q1] at this q
      obtain ⟨u, hu, tu⟩ := this
      rw [hu]
      exact q u H4 (e2.trans (e3.trans e4)) tu
end
theorem fm_congr {α β : Type} {f g : α → Option β} : ∀ {l : List α}, (∀ a ∈ l, f a = g a) → l.filterMap f = l.filterMap g
  | [], _ => rfl
  | a :: l, h => by rw [List.filterMap_cons, List.filterMap_cons, h a List.mem_cons_self, fm_congr fun b hb => h b (List.mem_cons_of_mem _ hb)]
theorem s_setK {te : TE} {σ : L2.St} {H : Hp} {D : Ends} {kds : List (Key × PyData)} {i : Nat} (h : EvKD te σ H kds) (k : ∀ p H1, H p = none → Ex H H1 → KvAt p kds H1 → D.nx (σ.set i (some (.ref p))) H1) : tAsg te (gName i) D σ H := h H (Ex.refl H) _ k
theorem s_appK {te tf : TE} {σ : L2.St} {H : Hp} {D : Ends} {K : PySem.W.Frag} {kds : List (Key × PyData)} {l : Addr} {xs : List V} (hl : H l = some (.lst xs)) (ha : Ev tf σ H (.ref l)) (h : EvKD te σ H kds) (hz : xs.length < 100000) (k : ∀ p H1, H p = none → Ex H H1 → KvAt p kds H1 → D.nx σ (L2.upd H1 l (.lst (xs ++ [.ref p])))) :
    tDrop (tBM K "list" rAppend tf (tCons te tNil)) D σ H :=
  ha H (Ex.refl H) _ fun H1 e1 => ⟨.inl ⟨rfl, _, SqL.of (e1 _ _ hl)⟩, h H1 e1 _ fun v H2 hv e2 h2 => ⟨l, xs, .ref v, rfl, rfl, e2 _ _ (e1 _ _ hl), sz_lt hz, k v H2 (fresh_back e1 hv) (e1.trans e2) h2⟩⟩
theorem lkp_map {α β : Type} (f : α → β) (n : Str) : ∀ (rows : List (Str × α)), lkp (rows.map fun r => (r.1, f r.2)) n = (lkp rows n).map f
  | [] => rfl
  | r :: rows => by
    have ih := lkp_map f n rows
    unfold lkp at ih ⊢
    rw [List.map_cons, List.lookup_cons, List.lookup_cons]
    by_cases q : n = r.1
    · subst q; simp
    · rw [beq_eq_false_iff_ne.mpr q]
      exact ih
theorem lkp_filter {α : Type} (p : α → Bool) (n : Str) : ∀ {rows : List (Str × α)}, (rows.map (·.1)).Nodup → lkp (rows.filter fun r => p r.2) n = (lkp rows n).filter p
  | [], _ => rfl
  | r :: rows, hd => by
    rw [List.map_cons, List.nodup_cons] at hd
    have ih := lkp_filter p n hd.2
    rw [List.filter_cons]
    by_cases q : n = r.1
    · subst q
      have hno : lkp rows r.1 = none := lkp_none.mpr hd.1
      rw [hno] at ih
      have e : lkp (r :: rows) r.1 = some r.2 := by unfold lkp; rw [List.lookup_cons, beq_self_eq_true]
      rw [e]
      cases hp : p r.2 with
      | true =>
        rw [if_pos rfl]
        unfold lkp
        rw [List.lookup_cons, beq_self_eq_true]
        simp [hp, Option.filter]
      | false =>
        rw [if_neg (by decide), ih]
        simp [hp, Option.filter]
    · have e : ∀ l : List (Str × α), lkp (r :: l) n = lkp l n := fun l => by
        unfold lkp
        rw [List.lookup_cons, beq_eq_false_iff_ne.mpr q]
      rw [e, ← ih]
      cases p r.2 with
      | true => rw [if_pos rfl, e]
      | false => rw [if_neg (by decide)]
section
variable {P : Program} {w : World} {K : PySem.W.Frag} {mg : Str → Option Value} {base : Heap}
/-! ### terms_of -/
/-- the terms of a side that are something -/
noncomputable def sT (R : Rw Str Str) (b : Bool) : List (Str × Tm Str Nat) := ((R.side b).map fun r => (r.1, tm R.nodes r.2)).filter fun r => !decide (r.2 = .nil)
/-- two dicts of terms, in a list -/
def TLs {α : Type} (enc : α → PyData) (l : Addr) (s : Bool → List (Str × α)) (H : Hp) : Prop := ∃ d0 d1, H l = some (.lst [.ref d0, .ref d1]) ∧ KvAt d0 (rowsK enc (s false)) H ∧ KvAt d1 (rowsK enc (s true)) H
theorem TLs.ex {α : Type} {enc : α → PyData} {l : Addr} {s : Bool → List (Str × α)} {H H' : Hp} (e : Ex H H') (h : TLs enc l s H) : TLs enc l s H' := let ⟨d0, d1, h1, h2, h3⟩ := h; ⟨d0, d1, e _ _ h1, h2.ex e, h3.ex e⟩
theorem sc_terms : FnScope ["_law_rows", "_law_found", "_law_side", "_law_terms", "_law_name", "_law_at"] ["_law_rows"] (defScope (top 32)) := ⟨rfl, rfl, rfl, by decide +kernel, rfl, by decide +kernel, by decide +kernel⟩
def spTerms : Sp := fun vs H Q _ => ∃ (t : Addr) (R : Rw Str Str), vs = [.ref t] ∧ RowsAt t R H ∧ Drawn 7 R ∧ ∀ l H', H l = none → Ex H H' → TLs t1 l (sT R) H' → Q (.ref l) H'
theorem cal_terms (T : Nm K mg) (F : Df K (dG 32 "_law_terms_of")) (cT : Cal P w K mg base 8 "_law_term_of" ["_law_nodes", "_law_at"] (spTerm 7)) : Cal P w K mg base 9 "_law_terms_of" ["_law_rows"] spTerms := by
  refine cal_of T F (by decide +kernel) sc_terms (fun _ _ _ _ _ _ us hl => match us, hl with | [_], _ => rfl) (fun vs H Q E h => ?_) fun cdv A outer s H vs Q E hr h => ?_
  · obtain ⟨t, R, rfl, _⟩ := h
    rfl
  · obtain ⟨t, R, rfl, ⟨a, b, c, ht, hR⟩, hD, k⟩ := h
    have nd := sc_terms.nd
    have hu := hu_of hr
    refine ⟨_, (pss_cons (ps_set (i := 1) nd rfl (Or.inl rfl) (pe_lst pa_nil)) (pss_cons (ps_for PassesOwn.never rfl (pi_list (pe_slice sl_list (pv 0) (po_some pe_int) po_none)) (pg_name (i := 2) nd rfl (Or.inl rfl))
        (pss_cons (ps_set (i := 3) nd rfl (Or.inr rfl) (pe_callTy (call_dictP rfl) (by rfl) (T.f "dict") (by decide +kernel) (pa_cons (pe_lc (own := [("_law_name", 4), ("_law_at", 5)]) (g := gTup K 2 (gCons (gName 4) (gCons (gName 5) gNil))) (tt := tYes) (te := tTup (tCons (tVar 4) (tCons (tCall (spTerm 7) [] E0 (tCons (tOp (rIxL K) (tVar 0) (tC (.int 0))) (tCons (tVar 5) tNil))) tNil))) rfl nd (pi_list (pv 2)) (blkOk_by (N := ["_law_rows", "_law_found", "_law_side", "_law_terms", "_law_name", "_law_at"]) (sc := defScope (top 32)) (by decide +kernel))
              (fun _ _ _ _ _ => pg_tup rfl (pgs_cons (pg_name (i := 4) nd rfl (Or.inl rfl)) (pgs_cons (pg_name (i := 5) nd rfl (Or.inl rfl)) pgs_nil))) (fun _ _ _ _ _ => pts_nil) (fun _ _ _ _ _ => pe_tup (pa_cons (pv 4) (pa_cons (pe_cal cT (hr.mono (by decide)) (by rfl) (pa_cons (q_ixL (pv 0) pe_int) (pa_cons (pv 5) pa_nil))) pa_nil)))) pa_nil))) (pss_one (ps_expr (q_app (pv 1) (pa_cons (pe_callTy (call_dictP rfl) (by rfl) (T.f "dict") (by decide +kernel) (pa_cons (pe_lock (pe_lc (own := [("_law_name", 4)]) (g := gName 4) (tt := tTest (tOp (rNeD K) (tDGet (tVar 3) (tVar 4)) (tTup tNil))) (te := tTup (tCons (tVar 4) (tCons (tDGet (tVar 3) (tVar 4)) tNil))) rfl nd (pi_keys (pv 3)) (blkOk_by (N := ["_law_rows", "_law_found", "_law_side", "_law_terms", "_law_name", "_law_at"]) (sc := defScope (top 32)) (by decide +kernel))
              (fun _ _ _ _ _ => pg_name (i := 4) nd rfl (Or.inl rfl)) (fun _ _ _ _ _ => pts_one (q_neD hr.units (pe_dget hu (pv 3) (pv 4) (fun _ _ => rfl)) (pe_tup pa_nil))) (fun _ _ _ _ _ => pe_tup (pa_cons (pv 4) (pa_cons (pe_dget hu (pv 3) (pv 4) (fun _ _ => rfl)) pa_nil))))) pa_nil)) pa_nil)))))) (pss_one (ps_ret (pv 1))))), ?_⟩
    have ok := hD.good.ok
    have wf := ok.ns.wf
    refine ⟨Nat.zero_le _, fun l hl => ?_⟩
    have x1 : Ex H (L2.upd H l (.lst [])) := Ex.new hl
    have hl1 : (L2.upd H l (.lst [])) l = some (.lst []) := upd_same
    generalize L2.upd H l (.lst []) = H1 at *
    refine q_seq ?_
    refine el_sl (K := K) (lo := some 1) (hi := none) (xs := [.ref a, .ref b, .ref c]) (ev_var rfl) (eo_some ev_c) eo_none (SqL.of (x1 _ _ ht)) H1 (Ex.refl _) _ fun p2 H2 hp2 x2 h2 => ?_
    have h2' : H2 p2 = some (.lst [.ref b, .ref c]) := h2
    have x12 := x1.trans x2
    refine ⟨p2, rfl, ⟨_, SqL.of h2'⟩, ?_⟩
    have np : p2 ≠ l := fun z => by rw [z, hl1] at hp2; cases hp2
    refine for_list (K := K) (a := p2) (xs := [.ref b, .ref c]) (fun i σ Hc => Ex H Hc ∧ Hc p2 = some (.lst [.ref b, .ref c]) ∧ ∃ (dl : List Addr) (v2 v3 : Option V), dl.length = i ∧ Hc l = some (.lst (dl.map V.ref)) ∧ (∀ j d, dl[j]? = some d → d ≠ l ∧ KvAt d (rowsK t1 (sT R (j == 1))) Hc) ∧
      σ = [some (.ref t), some (.ref l), v2, v3, none, none]) ⟨x12, h2', [], none, none, rfl, x2 _ _ hl1, fun j d h => absurd h (by rw [List.getElem?_nil]; exact fun z => by cases z), rfl⟩ (fun i σ Hc _ q => SqL.of q.2.1) ?_ ?_
    · rintro i x σ Hc hi ⟨xc, hpc, dl, v2, v3, hdl, hlc, hds, rfl⟩
      obtain ⟨q, s, rfl, hs, hq⟩ : ∃ q s, x = .ref q ∧ (i == 1) = s ∧ LsD q ((R.side s).map pyP) Hc := by
        match i, hi with
        | 0, hi => exact ⟨b, false, by simpa using hi.symm, rfl, LsD.ex xc hR.2.1⟩
        | 1, hi => exact ⟨c, true, by simpa using hi.symm, rfl, LsD.ex xc hR.2.2⟩
        | i + 2, hi => simp at hi
      have hps := ok.side s
      have hndr : (((R.side s).map fun r => (r.1, tm R.nodes r.2)).map (·.1)).Nodup := by
        rw [List.map_map]
        exact hps.nd
      have hwt : ∀ r ∈ R.side s, Wt W1 7 (tm R.nodes r.2) := fun r hr => wt_tm ok.ns hD.ops (by have := (hps.each r hr).2; have := hD.len; omega)
      refine q_seq ?_
      refine s_setK (ekd_dict (rows := (R.side s).map fun r => (r.1, tm R.nodes r.2)) (enc := t1) (en_is (en_lcL (as := R.side s) (enc := pyP) (ev_var rfl) hq (by have := hps.len; omega) (fun r => some (.tuple [.str r.1, t1 (tm R.nodes r.2)])) fun r v H3 hz e3 tt Q' kk => ?_) (by rw [filterMap_some, List.map_map]; rfl)) hndr) fun dt H3 hdt e3 hk3 => ?_
      · refine g_tup2 tt fun w4 w5 s4 s5 => ?_
        have := s4.inv_str
        subst this
        have := s5.inv_int
        subst this
        refine kk _ rfl et_yes fun d hd => ?_
        cases hd
        have hr2 := (hps.each r hz).2
        refine ed_tup (ead_cons (ed_var rfl s4) (ead_cons ?_ ead_nil)) (by simp)
        intro H4 e4 Q q
        refine ev_op (ev_var rfl) ev_c (rv_ixL (SqL.of ((xc.trans (e3.trans e4)) _ _ ht)) (atI_nat (j := 0) rfl)) H4 (Ex.refl _) _ fun H5 e5 => ?_
        exact ⟨_, rfl, a, r.2, R.nodes, rfl, by have := hD.len; omega, hr2, LsD.ex ((xc.trans (e3.trans e4)).trans e5) hR.1, ok.ns, fun v H6 e6 t6 => q v H6 (e5.trans e6) t6⟩
      · dsimp only
        obtain ⟨kvs, hdk, hkd⟩ := hk3
        have hkeys := hkd.keys
        have klen : kvs.length < 1000 := by
          rw [hkd.length]; unfold rowsK; rw [List.length_map, List.length_map]; exact hps.len
        have hsT : sT R s = ((R.side s).map fun r => (r.1, tm R.nodes r.2)).filter fun r => !decide (r.2 = .nil) := rfl
        generalize hrw : ((R.side s).map fun r => (r.1, tm R.nodes r.2)) = rows1 at *
        have hw1 : ∀ r ∈ rows1, Wt W1 7 r.2 := fun r hr => by
          rw [← hrw] at hr
          obtain ⟨z, hz, rfl⟩ := List.mem_map.mp hr
          exact hwt z hz
        let g : Key → Option PyData := fun k => match k with
          | .inr n => (lkp rows1 n).bind fun tt => if tt = .nil then none else some (.tuple [.str n, t1 tt])
          | .inl _ => none
        have hg : kvs.filterMap (fun z => g z.1) = (sT R s).map fun r => .tuple [.str r.1, t1 r.2] := by
          have h1 : kvs.filterMap (fun z => g z.1) = (kvs.map (·.1)).filterMap g := by rw [List.filterMap_map]; rfl
          rw [h1, hkeys]
          unfold rowsK
          rw [List.map_map, List.filterMap_map, hsT]
          rw [← filterMap_if]
          have : ∀ r ∈ rows1, (g ∘ ((fun x : Key × PyData => x.1) ∘ fun r : Str × Tm Str Nat => ((Sum.inr r.1 : Key), t1 r.2))) r = if (!decide (r.2 = .nil)) = true then some (PyData.tuple [.str r.1, t1 r.2]) else none := fun r hr => by
            show (lkp rows1 r.1).bind _ = _
            rw [lkp_of hndr (show (r.1, r.2) ∈ rows1 from hr)]
            by_cases z : r.2 = .nil <;> simp [z]
          exact fm_congr this
        have hsn : ((sT R s).map (·.1)).Nodup := by
          rw [hsT]
          exact List.Nodup.sublist ((List.filter_sublist).map _) hndr
        refine s_appK (kds := rowsK t1 (sT R s)) (xs := dl.map V.ref) (e3 _ _ hlc) (ev_var rfl) (ekd_dict (rows := sT R s) (enc := t1) (en_is (en_lock hdk trivial fun od => en_lcK (o := od) (kvs := kvs) (ev_var rfl) upd_same (by omega) (fun z => g z.1) fun z x H4 hz e4 tt Q' kk => ?_) hg) hsn) ?_ fun d4 H4 hd4 e4 hk4 => ?_
        · have hm : z.1 ∈ kvs.map (·.1) := List.mem_map.mpr ⟨z, hz, rfl⟩
          rw [hkeys] at hm
          unfold rowsK at hm
          rw [List.map_map] at hm
          obtain ⟨r, hr', er⟩ := List.mem_map.mp hm
          have er : z.1 = Sum.inr r.1 := er.symm
          rw [er] at tt
          have := tt.inv_str
          subst this
          have hlk : lkp rows1 r.1 = some r.2 := lkp_of hndr (show (r.1, r.2) ∈ rows1 from hr')
          have hz4 : H4 dt = some (.frz od (.dK kvs)) := e4 _ _ upd_same
          have hkd4 : KvD H4 kvs (rowsK t1 rows1) := (hkd.tx (TX.upd_dK hdk)).ex e4
          have val : EvD (tDGet (tVar 3) (tVar 4)) [some (.ref t), some (.ref l), some (.ref q), some (.ref dt), some (.str r.1), none] H4 (t1 r.2) := ed_dgetF (ev_var rfl) (ev_var rfl) hz4 hkd4 hlk
          have egz : g z.1 = if r.2 = .nil then none else some (.tuple [.str r.1, t1 r.2]) := by
            rw [er]
            show (lkp rows1 r.1).bind _ = _
            rw [hlk]; rfl
          rw [egz] at kk
          refine kk _ rfl (et_is (et_test (ev_neD val (ed_tup ead_nil (by simp)) (pd1 (by decide) (hw1 r hr')) pd_nil)) ?_) fun d hd => ?_
          · by_cases z : r.2 = .nil
            · have : t1 r.2 = .tuple [] := t1_nil.mpr z
              simp [z, this, tD]
            · have : ¬ t1 r.2 = .tuple [] := fun y => z (t1_nil.mp y)
              simp [z, this]
          · split at hd
            · cases hd
            · cases hd
              exact ed_tup (ead_cons (ed_var rfl (.str _)) (ead_cons val ead_nil)) (by simp)
        · rw [List.length_map, hdl]
          have := (List.getElem?_eq_some_iff.mp hi).1
          simp at this
          omega
        · have hl4 := e4 _ _ (e3 _ _ hlc)
          have up : TX H4 (L2.upd H4 l (.lst (dl.map V.ref ++ [.ref d4]))) := TX.upd_lst hl4
          have nd4 : d4 ≠ l := fun z => by rw [z, e3 _ _ hlc] at hd4; cases hd4
          refine ⟨Ex.mut (xc.trans (e3.trans e4)) hl, by rw [upd_ne np]; exact (e3.trans e4) _ _ hpc, dl ++ [d4], _, _, by simp [hdl], by rw [upd_same, List.map_append]; rfl, fun j u hj => ?_, rfl⟩
          by_cases hjl : j < dl.length
          · rw [List.getElem?_append_left hjl] at hj
            obtain ⟨m1, m2⟩ := hds j u hj
            exact ⟨m1, ((m2.ex e3).ex e4).keep (upd_ne m1) up⟩
          · have hj2 : j = dl.length := by
              have := (List.getElem?_eq_some_iff.mp hj).1
              simp at this
              omega
            subst hj2
            rw [List.getElem?_append_right (Nat.le_refl _), Nat.sub_self] at hj
            have : d4 = u := by simpa using hj
            subst this
            rw [hdl, hs]
            exact ⟨nd4, hk4.keep (upd_ne nd4) up⟩
    · rintro σ Hc ⟨xc, hpc, dl, v2, v3, hdl, hlc, hds, rfl⟩
      obtain ⟨d0, d1, rfl⟩ : ∃ d0 d1, dl = [d0, d1] := by
        match dl, hdl with
        | [d0, d1], _ => exact ⟨d0, d1, rfl⟩
      dsimp only
      refine s_ret (ev_var rfl) fun H3 e3 => k l H3 hl (xc.trans e3) ⟨d0, d1, e3 _ _ hlc, ((hds 0 d0 rfl).2).ex e3, ((hds 1 d1 rfl).2).ex e3⟩
end
end K49W

-- part K49L6
namespace K49W
open PySem PySem.Spec PyProof.Rows L2 Evl
open K49 (Nd Rw Tm visit visits ndOf Closed)
abbrev TT2 := Tm Str (Tm Str Nat × Tm Str Nat)
noncomputable def frow (acc : List TT2) (t : TT2) : PyData := .tuple [t2 t, pyN (ndOf acc t)]
theorem shaped_lst {ds : List PyData} (hp : ∀ d ∈ ds, Pln d = true ∧ d.depth ≤ 62) : SeqAt.shaped (.list ds) = true := by
  have h1 : PyData.canLayAll0 ds = true := plnL_lay ds (by
    have := plnL_map (f := fun d : PyData => d) (l := ds) fun d hd => (hp d hd).1
    simpa using this)
  have h2 : PyData.depthAll ds ≤ 62 := depthAll_le fun d hd => (hp d hd).2
  unfold SeqAt.shaped
  have h3 : (PyData.list ds).depth ≤ 64 := by simp only [PyData.depth]; omega
  have h4 : (PyData.list ds).canLay0 = true := by simpa [PyData.canLay0] using h1
  rw [h4, decide_eq_true h3]; rfl
/-- term[1:] -/
theorem ed_tail {te : TE} {σ : L2.St} {H : Hp} {K : PySem.W.Frag} {d : PyData} {ds : List PyData} (h : EvD te σ H (.tuple (d :: ds))) : EvD (tSl (rSlA K) te (tPart (tC (.int 1))) tNoPart) σ H (.tuple ds) := fun H1 e Q q =>
  h H1 e _ fun v H2 e2 t => by
    obtain ⟨a, xs, rfl, hx, tx⟩ := t.inv_tup
    obtain ⟨v, ys, rfl, tv, ty⟩ := tx.inv_cons
    refine ⟨1, rfl, a, v :: ys, rfl, SqT.of hx, fun z => ?_, fun _ p hp => ?_⟩
    · exact absurd z.1 (by simp [HT.sIx])
    · have : cutV (v :: ys) (some 1) none = ys := by
        unfold cutV
        simp [HT.sIx]
      rw [this]
      exact q _ _ (e2.trans (Ex.new hp)) (.tup upd_same (ty.ex (Ex.new hp)))
theorem pos_pre {α : Type} [DecidableEq α] {l m : List α} {q : α} (h : l <+: m) (hq : q ∈ l) : K49.pos m q = K49.pos l q := by
  obtain ⟨r, rfl⟩ := h
  exact pos_front hq
theorem frow_pre {acc acc' : List TT2} (h : acc <+: acc') {t : TT2} (hk : ∀ u ∈ K49.kids t, u ∈ acc) : frow acc' t = frow acc t := by
  unfold frow
  cases t with
  | hole l => rfl
  | nil => rfl
  | app f ts =>
    have : ndOf acc' (.app f ts) = ndOf acc (.app f ts) := by
      show Nd.op f _ = Nd.op f _
      congr 1
      exact List.map_congr_left fun u hu => pos_pre h (hk u hu)
    rw [this]
theorem closed_kids {acc : List TT2} (h : Closed acc) {t : TT2} (ht : t ∈ acc) : ∀ u ∈ K49.kids t, u ∈ acc := fun u hu => by
  obtain ⟨i, hi⟩ := List.mem_iff_getElem?.mp ht
  obtain ⟨j, _, hj⟩ := h i t hi u hu
  exact List.mem_of_getElem? hj
theorem frows_pre {acc acc' : List TT2} (h : acc <+: acc') (hc : Closed acc) : acc.map (frow acc') = acc.map (frow acc) := List.map_congr_left fun t ht => frow_pre h (closed_kids hc ht)
theorem s_ret_of {te : TE} {D : Ends} {σ : L2.St} {H : Hp} (h : te σ H D.rt) : tRet te D σ H := h
theorem bm_of {K : PySem.W.Frag} {T : String} {r : V → List V → Hp → VK → Prop} {to : TE} {t : TA} {σ : L2.St} {H : Hp} {Q : VK} (h : to σ H fun x H1 => tyV K T x H1 ∧ t σ H1 fun xs H2 => r x xs H2 Q) : tBM K T r to t σ H Q := h
section
variable {P : Program} {w : World} {K : PySem.W.Frag} {mg : Str → Option Value} {base : Heap}
theorem sc_flat : FnScope ["_law_nodes", "_law_term", "_law_node", "_law_row", "_law_inner"] ["_law_nodes", "_law_term"] (defScope (top 33)) := ⟨rfl, rfl, rfl, by decide +kernel, rfl, by decide +kernel, by decide +kernel⟩
structure FlIn (acc : List TT2) (t : TT2) : Prop where
  cl : Closed acc
  nd : acc.Nodup
  wt : ∀ u ∈ acc, Wt W2 20 u
  sz : (visit t acc).length < 5000
def spFlat (L : Nat) : Sp := fun vs H Q _ => ∃ (ln : Addr) (v : V) (t : TT2) (acc : List TT2) (n : Nat), vs = [.ref ln, v] ∧ n < L ∧ n ≤ 20 ∧ Wt W2 n t ∧ Tp H v (t2 t) ∧ LsD ln (acc.map (frow acc)) H ∧ FlIn acc t ∧
  ∀ H', ExB ln H H' → LsD ln ((visit t acc).map (frow (visit t acc))) H' → Q (.int ((K49.pos (visit t acc) t : Nat) : Int)) H'
theorem cal_flat (T : Nm K mg) (F : Df K (dG 33 "_law_flat")) : ∀ L : Nat, Cal P w K mg base (L + 1) "_law_flat" ["_law_nodes", "_law_term"] (spFlat L)
  | 0 => by
    refine cal_of T F (by decide +kernel) sc_flat (fun _ _ _ _ _ _ us hl => match us, hl with | [_, _], _ => rfl) (fun vs H Q E h => ?_) fun cdv A outer s H vs Q E hr h => ?_
    · obtain ⟨ln, v, t, acc, n, _, hi, _⟩ := h
      exact absurd hi (Nat.not_lt_zero n)
    · obtain ⟨ln, v, t, acc, n, _, hi, _⟩ := h
      exact absurd hi (Nat.not_lt_zero n)
  | L + 1 => by
    have ih := cal_flat T F L
    refine cal_of T F (by decide +kernel) sc_flat (fun _ _ _ _ _ _ us hl => match us, hl with | [_, _], _ => rfl) (fun vs H Q E h => ?_) fun cdv A outer s H vs Q E hr h => ?_
    · obtain ⟨ln, v, t, acc, n, rfl, _⟩ := h
      rfl
    · obtain ⟨ln, v, t, acc, n, rfl, hnL, hn20, wt, tv, hL, fi, k⟩ := h
      have nd := sc_flat.nd
      have hu : (Around.deeper A (envOfC "_law_flat" (defScope (top 33)) s.heap.objs.size (He.ga K "_law_flat") cdv)).units + 65 < cLine := by have := hr.un; omega
      refine ⟨_, (pss_cons (ps_if (pt_cmpR (op_inD hu) (pv 1) (pe_lc (own := [("_law_row", 3)]) (g := gName 3) (tt := tYes) (te := tOp (rIxT K) (tVar 3) (tC (.int 0))) rfl nd (pi_list (pv 0)) (blkOk_by (N := ["_law_nodes", "_law_term", "_law_node", "_law_row", "_law_inner"]) (sc := defScope (top 33)) (by decide +kernel))
            (fun _ _ _ _ _ => pg_name (i := 3) nd rfl (Or.inl rfl)) (fun _ _ _ _ _ => pts_nil) (fun _ _ _ _ _ => q_ixT (pv 3) pe_int)) rfl)
          (pss_one (ps_ret (pe_bm PySem.F.plainAttrs_list PySem.F.slot_list_index PySem.F.type_list_index (mt_indexD hu) (pe_lc (own := [("_law_row", 3)]) (g := gName 3) (tt := tYes) (te := tOp (rIxT K) (tVar 3) (tC (.int 0))) rfl nd (pi_list (pv 0)) (blkOk_by (N := ["_law_nodes", "_law_term", "_law_node", "_law_row", "_law_inner"]) (sc := defScope (top 33)) (by decide +kernel))
            (fun _ _ _ _ _ => pg_name (i := 3) nd rfl (Or.inl rfl)) (fun _ _ _ _ _ => pts_nil) (fun _ _ _ _ _ => q_ixT (pv 3) pe_int)) (pa_cons (pv 1) pa_nil) (by rfl) (by rfl) (by rfl) (by rfl) (by rfl)))) pss_nil) (pss_cons (ps_set (i := 2) nd rfl (Or.inl rfl) pe_non) (pss_cons (ps_if (q_eqD hr.units (pv 1) (pe_tup pa_nil)) (pss_one (ps_set (i := 2) nd rfl (Or.inl rfl) (pe_tup pa_nil)))
          (pss_one (ps_if (q_ne (q_ixT (pv 1) pe_int) pe_str) (pss_one (ps_set (i := 2) nd rfl (Or.inl rfl) (pe_tup (pa_cons (q_ixT (pv 1) pe_int) (pa_cons (q_tuple T (pa_cons (pe_lc (own := [("_law_inner", 4)]) (g := gName 4) (tt := tYes) (te := tCall (spFlat L) [] E0 (tCons (tVar 0) (tCons (tVar 4) tNil))) rfl nd (pi_tup (pe_slice sl_tupA (pv 1) (po_some pe_int) po_none)) (blkOk_by (N := ["_law_nodes", "_law_term", "_law_node", "_law_row", "_law_inner"]) (sc := defScope (top 33)) (by decide +kernel))
              (fun _ _ _ _ _ => pg_name (i := 4) nd rfl (Or.inl rfl)) (fun _ _ _ _ _ => pts_nil) (fun _ _ _ _ _ => pe_cal ih hr (by rfl) (pa_cons (pv 0) (pa_cons (pv 4) pa_nil)))) pa_nil)) pa_nil))))) pss_nil))) (pss_cons (ps_expr (q_app (pv 0) (pa_cons (pe_tup (pa_cons (pv 1) (pa_cons (pv 2) pa_nil))) pa_nil))) (pss_one (ps_ret (pe_op op_sub (q_len T (pa_cons (pv 0) pa_nil)) pe_int))))))), ?_⟩
      have hpre : acc <+: visit t acc := K49.visit_pre t acc
      have hal : acc.length < 5000 := by have := hpre.length_le; have := fi.sz; omega
      have rows : ∀ {σ : L2.St}, σ[0]? = some (some (.ref ln)) → σ.length = 5 → EvN (tLc (iList K (tVar 0)) (gName 3) tYes (tOp (rIxT K) (tVar 3) (tC (.int 0))) [3]) σ H (acc.map t2) := fun {σ} h0 hl => by
        refine en_is (en_lcL (as := acc) (enc := frow acc) (ev_var h0) hL (by omega) (fun u => some (t2 u)) fun u x H1 hz e1 tx Q' kk => ?_) (filterMap_some _ _)
        have h3 : (((wipe σ [3]).set 3 (some x)))[3]? = some (some x) := by
          rw [List.getElem?_set_self (by rw [wipe_length]; omega)]
        refine kk _ (by simp [wipe, List.set_set]) et_yes fun d hd => ?_
        cases hd
        exact ed_ixT (ed_var h3 tx) (ev_c (v := .int 0)) (j := 0) rfl rfl
      have sh : SeqAt.shaped (.list (acc.map t2)) = true := shaped_lst fun d hd => by
        obtain ⟨u, hu, rfl⟩ := List.mem_map.mp hd
        have := pd_tD e2_ok (fi.wt u hu)
        have h2 : (t2 u).depth ≤ 20 + 11 + 1 := this.2
        exact ⟨this.1, by omega⟩
      have pdt := pd2 hn20 wt
      have wt20 : Wt W2 20 t := wt.mono hn20
      have eqd : ∀ u ∈ acc, PyData.eqv (t2 u) (t2 t) = decide (u = t) := fun u hu => by
        rw [eqv_dec (pd2 (by decide) (fi.wt u hu)).pl pdt.pl]
        exact decide_eq_decide.mpr ⟨fun z => tD_inj e2_inj (fi.wt u hu) wt20 z, fun z => by rw [z]⟩
      have any : ((acc.map t2).any fun z => PyData.eqv z (t2 t)) = decide (t ∈ acc) := by
        rw [List.any_map]
        by_cases m : t ∈ acc
        · rw [decide_eq_true m, List.any_eq_true]
          exact ⟨t, m, by show PyData.eqv (t2 t) (t2 t) = true; rw [eqd t m]; simp⟩
        · rw [decide_eq_false m, List.any_eq_false]
          intro u hu
          show ¬ PyData.eqv (t2 u) (t2 t) = true
          rw [eqd u hu]
          have : u ≠ t := fun z => m (z ▸ hu)
          simp [this]
      refine s_if (b := decide (t ∈ acc)) (et_test fun H1 e1 Q q => ⟨_, rfl, rows rfl rfl H1 e1 _ fun p xs H2 hp e2 hl tx => ⟨t2 t, acc.map t2, (tv.ex (e1.trans e2)).dp, .lst (SqL.of hl) tx.dp, pdt.sh, sh, by rw [any]; exact q H2 e2⟩⟩) (fun hb H1 e1 => ?_) fun hb H1 e1 => ?_
      · have hm : t ∈ acc := by simpa using hb
        have hold := K49.visit_old hm
        rw [hold] at k
        refine s_ret_of (bm_of ?_)
        refine rows (σ := start ["_law_nodes", "_law_term", "_law_node", "_law_row", "_law_inner"] [.ref ln, v]) rfl rfl H1 e1 _ fun p xs H2 hp e2 hl tx => ?_
        refine ⟨.inl ⟨rfl, _, SqL.of hl⟩, _, rfl, ?_⟩
        have hlt : K49.pos acc t < acc.length := List.idxOf_lt_length_iff.mpr hm
        have hgt : acc[K49.pos acc t]? = some t := by
          rw [List.getElem?_eq_getElem hlt]
          congr 1
          exact List.getElem_idxOf hlt
        refine ⟨p, v, t2 t, acc.map t2, K49.pos acc t, t2 t, rfl, rfl, .lst (SqL.of hl) tx.dp, (tv.ex (e1.trans e2)).dp, sh, pdt.sh, by rw [List.getElem?_map, hgt]; rfl, by rw [eqd t hm]; simp, fun m z' hm2 hz => ?_, k H2 (ExB.of (e1.trans e2)) (LsD.ex (e1.trans e2) hL)⟩
        rw [List.getElem?_map] at hz
        cases q : acc[m]? with
        | none => rw [q] at hz; cases hz
        | some u =>
          rw [q] at hz
          cases hz
          have hu := List.mem_of_getElem? q
          rw [eqd u hu]
          have : u ≠ t := by
            rintro rfl
            have hml := (List.getElem?_eq_some_iff.mp q).1
            have e1 := (List.getElem?_eq_some_iff.mp q).2
            have e2 := (List.getElem?_eq_some_iff.mp hgt).2
            have := (List.getElem_inj fi.nd (h₀ := hml) (h₁ := hlt)).mp (by rw [e1, e2])
            omega
          exact decide_eq_false this
      · have hm : ¬ t ∈ acc := by simpa using hb
        have hnew := K49.visit_new hm
        have hvn := K49.visit_nodup t acc fi.nd
        have hvc := K49.visit_closed t acc fi.cl
        rw [hnew] at hvn hvc
        have hkc : Closed (visits (K49.kids t) acc) := K49.visits_closed _ _ fi.cl
        have hks : ∀ u ∈ K49.kids t, u ∈ visits (K49.kids t) acc := fun u hu => K49.visits_mem hu
        have hpk : visits (K49.kids t) acc <+: visit t acc := by rw [hnew]; exact List.prefix_append _ _
        have hsz : (visits (K49.kids t) acc).length < 5000 := by have := hpk.length_le; have := fi.sz; omega
        refine q_seq (t := tAsg (tC .non) (gName 2)) ?_
        refine s_asg (v := .non) ev_c fun H2 e2 => ?_
        dsimp only
        have tv2 := tv.ex (e1.trans e2)
        have hL2 := LsD.ex (e1.trans e2) hL
        refine q_cut (fun σ' H' => ∃ v2, ExB ln H2 H' ∧ LsD ln ((visits (K49.kids t) acc).map (frow (visits (K49.kids t) acc))) H' ∧ Tp H' v2 (pyN (ndOf (visits (K49.kids t) acc) t)) ∧ σ' = [some (.ref ln), some v, some v2, none, none]) (fun nx kn => ?_) ?_
        · have i1 : EvD (tVar 1) [some (.ref ln), some v, some .non, none, none] H2 (t2 t) := ed_var rfl tv2
          refine s_if (et_test (ev_eqD i1 (ed_tup ead_nil (by simp)) pdt pd_nil)) (fun hb2 H3 e3 => ?_) fun hb2 H3 e3 => ?_
          · have ht : t = .nil := t2_nil.mp (by simpa using hb2)
            subst ht
            refine s_setD (ed_tup ead_nil (by simp)) fun v2 H4 e4 t4 => kn _ _ ⟨v2, ExB.of (e3.trans e4), LsD.ex (e3.trans e4) hL2, t4, rfl⟩
          · have htn : t ≠ .nil := fun z => by
              have : t2 t = .tuple [] := t2_nil.mpr z
              rw [this] at hb2
              simp at hb2
            cases t with
            | nil => exact absurd rfl htn
            | hole l =>
              have i3 : EvD (tVar 1) [some (.ref ln), some v, some .non, none, none] H3 (.tuple (.str "?" :: K49W.e2 l)) := ed_is (i1.mono e3) (by simp [tD])
              refine s_if (b := false) (et_is (et_test (ev_neS (d_str (ed_ixT i3 ev_c (j := 0) rfl rfl)) ev_c)) (by simp)) (fun z => by cases z) fun _ H4 e4 => kn _ _ ⟨.non, ExB.of (e3.trans e4), LsD.ex (e3.trans e4) hL2, .non, rfl⟩
            | app f ts =>
              obtain ⟨n', rfl, hf, hts, hwt⟩ := wt_app wt
              have i3 : EvD (tVar 1) [some (.ref ln), some v, some .non, none, none] H3 (.tuple (.str f :: ts.map t2)) := ed_is (i1.mono e3) tD_app
              refine s_if (b := true) (et_is (et_test (ev_neS (d_str (ed_ixT i3 ev_c (j := 0) rfl rfl)) ev_c)) (by simp [q_ops f hf])) (fun _ H4 e4 => ?_) fun z => by cases z
              have i4 := i3.mono e4
              have e24 := e3.trans e4
              refine d_str (ed_ixT i4 ev_c (j := 0) rfl rfl) H4 (Ex.refl _) _ fun H5 e5 => ?_
              refine ed_tail i4 H5 e5 _ fun w H6 e6 tw => ?_
              obtain ⟨pa, xs, rfl, hpa, txs⟩ := tw.inv_tup
              have hL6 := LsD.ex (e24.trans (e5.trans e6)) hL2
              obtain ⟨zs6, hz6, _⟩ := id hL6
              have npl : pa ≠ ln := fun z => by rw [z, hz6] at hpa; cases hpa
              refine ⟨pa, rfl, ⟨_, SqT.of hpa⟩, fun D hD => ?_⟩
              have nDl : D ≠ ln := (ne_of_none hz6 hD).symm
              have nDa : pa ≠ D := ne_of_none hpa hD
              have lxs : xs.length = ts.length := by rw [txs.length, List.length_map]
              refine lc_tup (K := K) (a := pa) (xs := xs) (fun i H7 => ExB ln H6 H7 ∧ LsD ln ((visits (ts.take i) acc).map (frow (visits (ts.take i) acc))) H7 ∧ H7 D = some (.lst ((ts.take i).map fun u => V.int ((K49.pos (visits (ts.take i) acc) u : Nat) : Int)))) ⟨(ExB.of (Ex.refl _)).mut hD, LsD.ex (Ex.new hD) hL6, upd_same⟩ (fun i H7 _ q => SqT.of (q.1 _ _ npl hpa)) ?_ ?_
              · rintro i x H7 hi ⟨b7, L7, D7⟩
                obtain ⟨u, hu, tu⟩ := txs.getV hi
                rw [List.getElem?_map] at hu
                cases qt : ts[i]? with
                | none => rw [qt] at hu; cases hu
                | some ti =>
                  rw [qt] at hu
                  cases hu
                  refine ⟨rfl, ?_⟩
                  rw [show ∀ (Q : Bool → Hp → Prop) σ H, tYes σ H Q = Q true H from fun _ _ _ => rfl]
                  rw [if_pos rfl]
                  have hti := List.mem_of_getElem? qt
                  have snoc : ts.take (i + 1) = ts.take i ++ [ti] := by rw [List.take_succ_eq_append_getElem (List.getElem?_eq_some_iff.mp qt).1, (List.getElem?_eq_some_iff.mp qt).2]
                  have vs1 : visits (ts.take (i + 1)) acc = visit ti (visits (ts.take i) acc) := by rw [snoc, K49.visits_append]; rfl
                  have vpre : visits (ts.take (i + 1)) acc <+: visits ts acc := by
                    conv => rhs; rw [← List.take_append_drop (i + 1) ts, K49.visits_append]
                    exact K49.visits_pre' _ _
                  have tx7 : TX H6 H7 := b7.tx ⟨_, hz6⟩
                  have fin' : FlIn (visits (ts.take i) acc) ti := by
                    refine ⟨K49.visits_closed _ _ fi.cl, K49.visits_nodup _ _ fi.nd, ?_, ?_⟩
                    · refine K49.visits_all (P := fun u => Wt W2 20 u) (fun u hu z hz => ?_) _ _ (fun u hu => (hwt u (List.mem_of_mem_take hu)).mono (by omega)) fi.wt
                      cases u with
                      | hole l => simp [K49.kids] at hz
                      | nil => simp [K49.kids] at hz
                      | app g us =>
                        obtain ⟨m, em, _, _, h3⟩ := wt_app hu
                        exact (h3 z hz).mono (by omega)
                    · rw [← vs1]
                      have := vpre.length_le
                      have h2 : (visits ts acc).length < 5000 := hsz
                      omega
                  refine ⟨_, rfl, _, rfl, ln, x, ti, visits (ts.take i) acc, n', rfl, by omega, by omega, hwt ti hti, tu.tx tx7, L7, fin', fun H8 b8 L8 => ?_⟩
                  have D8 := b8 _ _ nDl D7
                  refine ⟨_, D8, sz_of (by rw [List.length_map, List.length_take]; omega), (b7.trans b8).mut hD, ?_, ?_⟩
                  · rw [vs1]
                    obtain ⟨zs8, hz8, _⟩ := id L8
                    exact L8.keep (upd_ne (fun z => nDl z.symm)) (TX.upd_lst D8)
                  · rw [upd_same]
                    congr 1
                    congr 1
                    rw [vs1, snoc, List.map_append]
                    congr 1
                    refine List.map_congr_left fun z hz => ?_
                    rw [pos_pre (K49.visit_pre ti _) (K49.visits_mem hz)]
              · rintro H7 ⟨b7, L7, D7⟩
                rw [lxs, List.take_length] at L7 D7
                dsimp only
                refine ⟨D, _, rfl, .inl ⟨SqL.of D7, fun q hq => ?_⟩⟩
                refine ⟨by show 2 ≤ sizeLine; decide, fun q2 hq2 => ?_⟩
                have x2 := (Ex.new (o := .tup (ts.map fun u => V.int ((K49.pos (visits ts acc) u : Nat) : Int))) hq).trans (Ex.new (o := .tup [.str f, .ref q]) hq2)
                have hqt : (L2.upd (L2.upd H7 q (.tup (ts.map fun u => V.int ((K49.pos (visits ts acc) u : Nat) : Int)))) q2 (.tup [.str f, .ref q])) q = some (.tup (ts.map fun u => V.int ((K49.pos (visits ts acc) u : Nat) : Int))) := (Ex.new hq2) _ _ upd_same
                refine kn _ _ ⟨.ref q2, ((ExB.of (e24.trans (e5.trans e6))).trans b7).trans (ExB.of x2), LsD.ex x2 L7, ?_, rfl⟩
                have : pyN (ndOf (visits (K49.kids (.app f ts : TT2)) acc) (.app f ts)) = .tuple [.str f, .tuple (ts.map fun u => .int ((K49.pos (visits ts acc) u : Nat) : Int))] := by
                  show PyData.tuple [.str f, .tuple ((ts.map fun u => (visits ts acc).idxOf u).map fun i => .int (i : Nat))] = _
                  rw [List.map_map]; rfl
                rw [this]
                exact .tup upd_same (.cons (.str f) (.cons (.tup hqt tpl_ints) .nil))
        · rintro σ' H3 ⟨v2, b3, L3, tv3, rfl⟩
          obtain ⟨zs, hz, tz⟩ := id L3
          have tvt : Tp H3 v (t2 t) := by
            obtain ⟨ys, hy, _⟩ := id hL2
            exact tv2.tx (b3.tx ⟨_, hy⟩)
          refine q_seq ?_
          have lz := tz.length
          rw [List.length_map] at lz
          refine s_appD (d := .tuple [t2 t, pyN (ndOf (visits (K49.kids t) acc) t)]) hz (ev_var rfl) (ed_tup (ead_cons (ed_var rfl tvt) (ead_cons (ed_var rfl tv3) ead_nil)) (by simp)) (by omega) fun u H4 e4 tu => ?_
          have up : TX H4 (L2.upd H4 ln (.lst (zs ++ [u]))) := TX.upd_lst (e4 _ _ hz)
          have L4 : LsD ln ((visit t acc).map (frow (visit t acc))) (L2.upd H4 ln (.lst (zs ++ [u]))) := by
            refine ⟨_, upd_same, ?_⟩
            rw [hnew, List.map_append, frows_pre (List.prefix_append _ _) hkc]
            refine TpL.snoc ((tz.ex e4).tx up) ?_
            have : frow (visits (K49.kids t) acc ++ [t]) t = .tuple [t2 t, pyN (ndOf (visits (K49.kids t) acc) t)] := frow_pre (List.prefix_append _ _) hks
            rw [this]
            exact tu.tx up
          have hlen : K49.pos (visit t acc) t = zs.length := by
            have hno : t ∉ visits (K49.kids t) acc := fun z => (List.nodup_append.mp hvn).2.2 t z t (by simp) rfl
            rw [hnew, lz]
            unfold K49.pos
            rw [List.idxOf_append, if_neg hno]
            simp
          have hb4 : ExB ln H (L2.upd H4 ln (.lst (zs ++ [u]))) := ((ExB.of (e1.trans e2)).trans (b3.trans (ExB.of e4))).upd
          refine s_ret (v := .int ((zs ++ [u]).length - 1)) (ev_op (ev_len (ev_var rfl) (SqL.of upd_same)) ev_c rv_I0) fun H5 e5 => ?_
          have : (((zs ++ [u]).length : Int) - 1) = ((K49.pos (visit t acc) t : Nat) : Int) := by rw [hlen, List.length_append]; simp
          rw [this]
          exact k H5 (hb4.trans (ExB.of e5)) (LsD.ex e5 L4)
end
end K49W

-- part K49L7
namespace K49W
open PySem PySem.Spec PyProof.Rows L2 Evl
open K49 (Nd Rw Tm visit visits ndOf Closed RT Va)
theorem roots_side {α : Type} {x : Str → Tm Str α} {ks : List Str} (h : ∀ n ∈ VN, x n ≠ .nil ↔ n ∈ ks) : (VN.map x).filter (fun t => decide (t ≠ .nil)) = (ordN ks).map x := by
  unfold ordN
  rw [List.filter_map]
  congr 1
  exact List.filter_congr fun n hn => by
    show decide (x n ≠ .nil) = decide (n ∈ ks)
    exact decide_eq_decide.mpr (h n hn)
theorem side_of {α : Type} {x : Str → Tm Str α} {ks : List Str} {ord : List (Tm Str α)} (h : ∀ n ∈ VN, x n ≠ .nil ↔ n ∈ ks) : K49.sideOf ord VN x = (ordN ks).map fun n => (n, K49.pos ord (x n)) := by
  unfold K49.sideOf ordN
  rw [← filterMap_if]
  refine fm_congr fun n hn => ?_
  by_cases q : x n = .nil
  · have : n ∉ ks := fun z => (h n hn).mpr z q
    rw [if_pos q, if_neg (by simpa using this)]
  · have : n ∈ ks := (h n hn).mp q
    rw [if_neg q, if_pos (by simpa using this)]
    rfl
/-- the value of two dicts of terms -/
def vaOf {α : Type} (s : Bool → List (Str × Tm Str α)) : Va Str α Str := fun b n => (lkp (s b) n).getD .nil
structure SdT (s : List (Str × TT2)) : Prop where
  nd : (s.map (·.1)).Nodup
  vn : ∀ r ∈ s, r.1 ∈ VN
  nn : ∀ r ∈ s, r.2 ≠ .nil
  wt : ∀ r ∈ s, Wt W2 10 r.2
theorem SdT.iff {s : Bool → List (Str × TT2)} {b : Bool} (h : SdT (s b)) (n : Str) : vaOf s b n ≠ .nil ↔ n ∈ (s b).map (·.1) := by
  unfold vaOf
  cases q : lkp (s b) n with
  | none =>
    have := lkp_none.mp q
    simp [this]
  | some t =>
    have hm := lkp_mem q
    have := h.nn _ hm
    simp only [Option.getD_some, ne_eq]
    exact ⟨fun _ => List.mem_map.mpr ⟨_, hm, rfl⟩, fun _ => this⟩
noncomputable def rtS (ss : Bool → List (Str × TT2)) (b : Bool) : List TT2 := (ordN ((ss b).map (·.1))).map (vaOf ss b)
noncomputable def preT (ss : Bool → List (Str × TT2)) : Nat → List TT2
  | 0 => []
  | 1 => rtS ss false
  | _ + 2 => rtS ss false ++ rtS ss true
noncomputable def sdS (ss : Bool → List (Str × TT2)) (j : Nat) : PyData := .tuple ((ordN ((ss (j == 1)).map (·.1))).map fun n => .tuple [.str n, .int ((K49.pos (K49.ordT VN (vaOf ss)) (vaOf ss (j == 1) n) : Nat) : Int)])
section
variable {P : Program} {w : World} {K : PySem.W.Frag} {mg : Str → Option Value} {base : Heap}
theorem sc_rowsof : FnScope ["_law_terms", "_law_nodes", "_law_sides", "_law_side", "_law_names", "_law_name", "_law_row"] ["_law_terms"] (defScope (top 34)) := ⟨rfl, rfl, rfl, by decide +kernel, rfl, by decide +kernel, by decide +kernel⟩
def spRowsOf : Sp := fun vs H Q _ => ∃ (l : Addr) (s : Bool → List (Str × TT2)), vs = [.ref l] ∧ TLs t2 l s H ∧ (∀ b, SdT (s b)) ∧ (K49.ordT VN (vaOf s)).length < 5000 ∧ ∀ v H', Ex H H' → Tp H' v (rwD (RT VN (vaOf s))) → Q v H'
theorem cal_rowsof (T : Nm K mg) (F : Df K (dG 34 "_law_rows_of_terms")) (cF : Cal P w K mg base 12 "_law_flat" ["_law_nodes", "_law_term"] (spFlat 11)) : Cal P w K mg base 13 "_law_rows_of_terms" ["_law_terms"] spRowsOf := by
  refine cal_of T F (by decide +kernel) sc_rowsof (fun _ _ _ _ _ _ us hl => match us, hl with | [_], _ => rfl) (fun vs H Q E h => ?_) fun cdv A outer s H vs Q E hr h => ?_
  · obtain ⟨l, s, rfl, _⟩ := h
    rfl
  · obtain ⟨l, ss, rfl, hTL, hs, hsz, k⟩ := h
    have nd := sc_rowsof.nd
    have hu := hu_of hr
    refine ⟨_, (pss_cons (ps_asg (pe_tup (pa_cons (pe_lst pa_nil) (pa_cons (pe_lst pa_nil) pa_nil))) (pg_tup rfl (pgs_cons (pg_name (i := 1) nd rfl (Or.inr rfl)) (pgs_cons (pg_name (i := 2) nd rfl (Or.inl rfl)) pgs_nil)))) (pss_cons (ps_for PassesOwn.never rfl (pi_list (pv 0)) (pg_name (i := 3) nd rfl (Or.inr rfl))
        (pss_cons (ps_set (i := 4) nd rfl (Or.inl rfl) (pe_callB cr_sortedS (by rfl) (T.f "sorted") (by decide +kernel) (pa_cons (pe_lock (pe_lc (own := [("_law_name", 5)]) (g := gName 5) (tt := tYes) rfl nd (pi_keys (pv 3)) (blkOk_by (N := ["_law_terms", "_law_nodes", "_law_sides", "_law_side", "_law_names", "_law_name", "_law_row"]) (sc := defScope (top 34)) (by decide +kernel))
              (fun _ _ _ _ _ => pg_name (i := 5) nd rfl (Or.inl rfl)) (fun _ _ _ _ _ => pts_nil) (fun _ _ _ _ _ => pe_callTy SkE.call_str_str (by rfl) (T.f "str") (by decide +kernel) (pa_cons (pv 5) pa_nil)))) pa_nil))) (pss_one (ps_expr (q_app (pv 2) (pa_cons (q_tuple T (pa_cons (pe_lc (own := [("_law_name", 5)]) (g := gName 5) (tt := tYes) (te := tTup (tCons (tVar 5) (tCons (tCall (spFlat 11) [] E0 (tCons (tVar 1) (tCons (tDGet (tVar 3) (tVar 5)) tNil))) tNil))) rfl nd (pi_list (pv 4)) (blkOk_by (N := ["_law_terms", "_law_nodes", "_law_sides", "_law_side", "_law_names", "_law_name", "_law_row"]) (sc := defScope (top 34)) (by decide +kernel))
              (fun _ _ _ _ _ => pg_name (i := 5) nd rfl (Or.inl rfl)) (fun _ _ _ _ _ => pts_nil) (fun _ _ _ _ _ => pe_tup (pa_cons (pv 5) (pa_cons (pe_cal cF (hr.mono (by decide)) (by rfl) (pa_cons (pv 1) (pa_cons (pe_dget hu (pv 3) (pv 5) (fun _ _ => rfl)) pa_nil))) pa_nil)))) pa_nil)) pa_nil)))))) (pss_one (ps_ret (pe_tup (pa_cons (q_tuple T (pa_cons (pe_lc (own := [("_law_row", 6)]) (g := gName 6) (tt := tYes) (te := tOp (rIxT K) (tVar 6) (tC (.int 1))) rfl nd (pi_list (pv 1)) (blkOk_by (N := ["_law_terms", "_law_nodes", "_law_sides", "_law_side", "_law_names", "_law_name", "_law_row"]) (sc := defScope (top 34)) (by decide +kernel))
              (fun _ _ _ _ _ => pg_name (i := 6) nd rfl (Or.inl rfl)) (fun _ _ _ _ _ => pts_nil) (fun _ _ _ _ _ => q_ixT (pv 6) pe_int)) pa_nil)) (pa_cons (q_ixL (pv 2) pe_int) (pa_cons (q_ixL (pv 2) pe_int) pa_nil)))))))), ?_⟩
    obtain ⟨d0, d1, hl0, hk0, hk1⟩ := hTL
    refine ⟨Nat.zero_le _, fun ln hln => ⟨Nat.zero_le _, fun la hla => ⟨by show 2 ≤ sizeLine; decide, fun pt hpt => ⟨pt, _, rfl, SqT.of upd_same, rfl, _, _, rfl, _, _, rfl, rfl, ?_⟩⟩⟩⟩
    have x1 := ((Ex.new (o := .lst []) hln).trans (Ex.new (o := .lst []) hla)).trans (Ex.new (o := .tup [.ref ln, .ref la]) hpt)
    have nla : ln ≠ la := ne_of_none upd_same hla
    have fla : H la = none := fresh_back (Ex.new hln) hla
    have hn1 : (L2.upd (L2.upd (L2.upd H ln (.lst [])) la (.lst [])) pt (.tup [.ref ln, .ref la])) ln = some (.lst []) := (Ex.new hpt) _ _ (by rw [upd_ne nla, upd_same])
    have ha1 : (L2.upd (L2.upd (L2.upd H ln (.lst [])) la (.lst [])) pt (.tup [.ref ln, .ref la])) la = some (.lst []) := (Ex.new hpt) _ _ upd_same
    generalize L2.upd (L2.upd (L2.upd H ln (.lst [])) la (.lst [])) pt (.tup [.ref ln, .ref la]) = H1 at *
    dsimp only
    refine q_seq ?_
    refine ⟨_, rfl, l, rfl, ⟨_, SqL.of (x1 _ _ hl0)⟩, ?_⟩
    -- the roots, side by side
    have hroots : K49.roots VN (vaOf ss) = rtS ss false ++ rtS ss true := by
      unfold K49.roots
      rw [List.filter_append, roots_side (fun n _ => (hs false).iff n), roots_side (fun n _ => (hs true).iff n)]
      rfl
    have vwt : ∀ b n, Wt W2 10 (vaOf ss b n) := fun b n => by
      unfold vaOf
      cases q : lkp (ss b) n with
      | none => simp [Wt]
      | some t => exact (hs b).wt _ (lkp_mem q)
    have hcl : ∀ ts : List TT2, Closed (visits ts []) := fun ts => K49.visits_closed _ _ fun i t h => by simp at h
    have hnd : ∀ ts : List TT2, (visits ts []).Nodup := fun ts => K49.visits_nodup _ _ List.nodup_nil
    have hwt : ∀ ts : List TT2, (∀ t ∈ ts, Wt W2 10 t) → ∀ u ∈ visits ts [], Wt W2 20 u := fun ts h => K49.visits_all (P := fun u => Wt W2 20 u) (fun u hu z hz => by
      cases u with
      | hole l => simp [K49.kids] at hz
      | nil => simp [K49.kids] at hz
      | app g us =>
        obtain ⟨m, em, _, _, h3⟩ := wt_app hu
        exact (h3 z hz).mono (by omega)) _ _ (fun t ht => (h t ht).mono (by omega)) (fun x h => (nomatch h))
    refine for_list (K := K) (a := l) (xs := [.ref d0, .ref d1]) (fun i σ Hc => Ex H Hc ∧ i ≤ 2 ∧ LsD ln ((visits (preT ss i) []).map (frow (visits (preT ss i) []))) Hc ∧ LsD la ((List.range i).map (sdS ss)) Hc ∧ ∃ v3 v4, σ = [some (.ref l), some (.ref ln), some (.ref la), v3, v4, none, none]) ⟨x1, by decide, ⟨[], hn1, .nil⟩, ⟨[], ha1, .nil⟩, none, none, rfl⟩ (fun i σ Hc _ q => SqL.of (q.1 _ _ hl0)) ?_ ?_
    · rintro i x σ Hc hi ⟨xc, hi2, Ln, La, v3, v4, rfl⟩
      have hilt : i < 2 := by
        have := (List.getElem?_eq_some_iff.mp hi).1
        simpa using this
      obtain ⟨dd, b, rfl, hb, hk⟩ : ∃ dd b, x = .ref dd ∧ (i == 1) = b ∧ KvAt dd (rowsK t2 (ss b)) Hc := by
        match i, hi with
        | 0, hi => exact ⟨d0, false, by simpa using hi.symm, rfl, hk0.ex xc⟩
        | 1, hi => exact ⟨d1, true, by simpa using hi.symm, rfl, hk1.ex xc⟩
        | i + 2, hi => simp at hi
      obtain ⟨kvs, hdk, hkd⟩ := id hk
      have hkeys : kvs.map (·.1) = ((ss b).map (·.1)).map Sum.inr := by rw [hkd.keys]; unfold rowsK; rw [List.map_map, List.map_map]; rfl
      have hk3 : ((ss b).map (·.1)).length ≤ 3 := K49.nodup_len (r := VN) (hs b).nd fun a ha => by
        obtain ⟨r, hr', rfl⟩ := List.mem_map.mp ha
        exact (hs b).vn r hr'
      refine q_seq ?_
      have hkl : kvs.length < 1000 := by
        have := congrArg List.length hkeys
        simp only [List.length_map] at this hk3
        omega
      have hKeys : EvN (tLockE (tLc (iKeys (tVar 3)) (gName 5) tYes (tCB (fun xs H Q => ∃ a, xs = [.str a] ∧ Q (.str a) H) (tCons (tVar 5) tNil)) [5])) [some (.ref l), some (.ref ln), some (.ref la), some (.ref dd), v4, none, none] Hc (((ss b).map (·.1)).map PyData.str) := by
        refine en_lock hdk trivial fun od => ?_
        refine en_is (en_lcK (o := od) (kvs := kvs) (ev_var rfl) upd_same (by omega) (fun z => some (kD z.1)) fun z x H1 hz e1 t Q' kk => ?_) ?_
        · refine kk _ rfl et_yes fun d' hd' => ?_
          cases hd'
          obtain ⟨z1, z2⟩ := z
          have hm : z1 ∈ ((ss b).map (·.1)).map Sum.inr := by rw [← hkeys]; exact List.mem_map.mpr ⟨_, hz, rfl⟩
          obtain ⟨n, _, rfl⟩ := List.mem_map.mp hm
          have := t.inv_str
          subst this
          exact str_d (ev_strS (ev_var rfl))
        · rw [filterMap_some]
          have : kvs.map (fun z => kD z.1) = (kvs.map (·.1)).map kD := by rw [List.map_map]; rfl
          rw [this, hkeys, List.map_map]; rfl
      refine hKeys Hc (Ex.refl _) _ fun p0 xs0 H2 hp0 x2 h2 t2' => ⟨p0, (ss b).map (·.1), rfl, SqL.of (by rw [← t2'.strs]; exact h2), by omega, fun ys pn hperm hsort hpn => ?_⟩
      have hord := ordN_eq (fun n hn => by
        obtain ⟨r, hr', rfl⟩ := List.mem_map.mp hn
        exact (hs b).vn r hr') (hs b).nd hperm hsort
      subst hord
      have x3 := x2.trans (Ex.new (o := .lst ((ordN ((ss b).map (·.1))).map V.str)) hpn)
      have hpn3 : (L2.upd H2 pn (.lst ((ordN ((ss b).map (·.1))).map V.str))) pn = some (.lst ((ordN ((ss b).map (·.1))).map V.str)) := upd_same
      generalize L2.upd H2 pn (.lst ((ordN ((ss b).map (·.1))).map V.str)) = H3 at *
      have L3 := LsD.ex x3 Ln
      have A3 := LsD.ex x3 La
      obtain ⟨as3, ha3, _⟩ := id A3
      obtain ⟨ns3, hn3, _⟩ := id L3
      have npl : pn ≠ ln := fun z => by
        obtain ⟨ns, hn, _⟩ := Ln
        have := x2 _ _ hn
        rw [z, this] at hpn; cases hpn
      have K3 := hk.ex x3
      dsimp only
      refine ⟨_, rfl, .inl ⟨rfl, _, SqL.of ha3⟩, ?_⟩
      refine ⟨_, rfl, pn, rfl, ⟨_, SqL.of hpn3⟩, fun D hD => ?_⟩
      have nDl : D ≠ ln := (ne_of_none hn3 hD).symm
      have nDa : D ≠ la := (ne_of_none ha3 hD).symm
      have nDp : pn ≠ D := ne_of_none hpn3 hD
      obtain ⟨kvs3, hd3, _⟩ := id K3
      have nDd : dd ≠ D := ne_of_none hd3 hD
      have ndl : dd ≠ ln := fun z => by rw [z, hn3] at hd3; cases hd3
      have preS : preT ss (i + 1) = preT ss i ++ rtS ss b := by
        match i, hb with
        | 0, hb => subst hb; rfl
        | 1, hb => subst hb; rfl
        | i + 2, _ => omega
      have prew : ∀ i, ∀ t ∈ preT ss i, Wt W2 10 t := fun i t ht => by
        have : ∀ b, ∀ t ∈ rtS ss b, Wt W2 10 t := fun b t ht => by
          obtain ⟨n, _, rfl⟩ := List.mem_map.mp ht
          exact vwt b n
        match i, ht with
        | 0, ht => cases ht
        | 1, ht => exact this false t ht
        | i + 2, ht =>
          rcases List.mem_append.mp ht with h | h
          · exact this false t h
          · exact this true t h
      have preall : ∀ i, visits (preT ss i) [] <+: K49.ordT VN (vaOf ss) := fun i => by
        unfold K49.ordT
        rw [hroots]
        match i with
        | 0 => exact List.nil_prefix
        | 1 => show visits (rtS ss false) [] <+: _; rw [K49.visits_append]; exact K49.visits_pre' _ _
        | i + 2 => exact List.prefix_refl _
      refine lc_list (K := K) (a := pn) (xs := (ordN ((ss b).map (·.1))).map V.str) (fun t H4 => ExB ln H3 H4 ∧ LsD ln ((visits ((rtS ss b).take t) (visits (preT ss i) [])).map (frow (visits ((rtS ss b).take t) (visits (preT ss i) [])))) H4 ∧ LsD D (((ordN ((ss b).map (·.1))).take t).map fun n => .tuple [.str n, .int ((K49.pos (K49.ordT VN (vaOf ss)) (vaOf ss b n) : Nat) : Int)]) H4)
        ⟨(ExB.of (Ex.refl _)).mut hD, LsD.ex (Ex.new hD) L3, ⟨[], upd_same, .nil⟩⟩ (fun t H4 _ q => SqL.of (q.1 _ _ npl hpn3)) ?_ ?_
      · rintro t x H4 ht ⟨b4, L4, D4⟩
        rw [List.getElem?_map] at ht
        cases qn : (ordN ((ss b).map (·.1)))[t]? with
        | none => rw [qn] at ht; cases ht
        | some n =>
          rw [qn] at ht
          cases ht
          refine ⟨rfl, ?_⟩
          rw [show ∀ (Q : Bool → Hp → Prop) σ H, tYes σ H Q = Q true H from fun _ _ _ => rfl]
          rw [if_pos rfl]
          have hrt : (rtS ss b)[t]? = some (vaOf ss b n) := by
            show ((ordN ((ss b).map (·.1))).map (vaOf ss b))[t]? = _
            rw [List.getElem?_map, qn]; rfl
          have snoc : (rtS ss b).take (t + 1) = (rtS ss b).take t ++ [vaOf ss b n] := by rw [List.take_succ_eq_append_getElem (List.getElem?_eq_some_iff.mp hrt).1, (List.getElem?_eq_some_iff.mp hrt).2]
          have vs1 : visits ((rtS ss b).take (t + 1)) (visits (preT ss i) []) = visit (vaOf ss b n) (visits ((rtS ss b).take t) (visits (preT ss i) [])) := by rw [snoc, K49.visits_append]; rfl
          have vall : visits ((rtS ss b).take (t + 1)) (visits (preT ss i) []) <+: K49.ordT VN (vaOf ss) := by
            refine List.IsPrefix.trans ?_ (preall (i + 1))
            rw [preS, K49.visits_append]
            conv => rhs; rw [← List.take_append_drop (t + 1) (rtS ss b), K49.visits_append]
            exact K49.visits_pre' _ _
          have hnk : n ∈ (ss b).map (·.1) := by
            have := (List.mem_filter.mp (List.mem_of_getElem? qn)).2
            simpa using this
          have hlk : lkp (ss b) n = some (vaOf ss b n) := by
            unfold vaOf
            cases q : lkp (ss b) n with
            | none => exact absurd hnk (lkp_none.mp q)
            | some u => rfl
          have K4 : KvAt dd (rowsK t2 (ss b)) H4 := K3.keep (by
            obtain ⟨kv, h1, _⟩ := K3
            rw [h1]; exact b4 _ _ ndl h1) (b4.tx ⟨_, hn3⟩)
          have ev1 : visits ((rtS ss b).take t) (visits (preT ss i) []) = visits (preT ss i ++ (rtS ss b).take t) [] := by rw [K49.visits_append]
          have fl : FlIn (visits ((rtS ss b).take t) (visits (preT ss i) [])) (vaOf ss b n) := by
            rw [ev1]
            refine ⟨hcl _, hnd _, hwt _ fun u hu => ?_, ?_⟩
            · rcases List.mem_append.mp hu with h | h
              · exact prew i u h
              · have := List.mem_of_mem_take h
                obtain ⟨m, _, rfl⟩ := List.mem_map.mp this
                exact vwt b m
            · rw [← ev1, ← vs1]
              have := vall.length_le
              omega
          refine ⟨_, rfl, _, rfl, ?_⟩
          refine ed_dget (enc := t2) (rows := ss b) (ev_var rfl) (ev_var rfl) K4 hlk H4 (Ex.refl _) _ fun v H5 x5 tv => ?_
          refine ⟨ln, v, vaOf ss b n, visits ((rtS ss b).take t) (visits (preT ss i) []), 10, rfl, by decide, by decide, vwt b n, tv, LsD.ex x5 L4, fl, fun H6 b6 L6 => ?_⟩
          refine ⟨by show 2 ≤ sizeLine; decide, fun q hq => ?_⟩
          have xq := Ex.new (o := .tup [.str n, .int ((K49.pos (visit (vaOf ss b n) (visits ((rtS ss b).take t) (visits (preT ss i) []))) (vaOf ss b n) : Nat) : Int)]) hq
          obtain ⟨ds4, hD4, tD4⟩ := D4
          obtain ⟨zs4, hz4, _⟩ := id L4
          have hD6 := b6 _ _ nDl (x5 _ _ hD4)
          have hDq := xq _ _ hD6
          have tDq := ((tD4.ex x5).tx (b6.tx ⟨_, x5 _ _ hz4⟩)).ex xq
          have lds := tD4.length
          refine ⟨ds4, hDq, sz_of (by rw [lds, List.length_map, List.length_take]; have : (ordN ((ss b).map (·.1))).length ≤ 3 := Nat.le_trans (List.length_filter_le _ _) (by decide); omega), ((b4.trans (ExB.of x5)).trans (b6.trans (ExB.of xq))).mut hD, ?_, ?_⟩
          · rw [vs1]
            exact (LsD.ex xq L6).keep (upd_ne nDl.symm) (TX.upd_lst hDq)
          · refine ⟨_, upd_same, ?_⟩
            have sn : (ordN ((ss b).map (·.1))).take (t + 1) = (ordN ((ss b).map (·.1))).take t ++ [n] := by rw [List.take_succ_eq_append_getElem (List.getElem?_eq_some_iff.mp qn).1, (List.getElem?_eq_some_iff.mp qn).2]
            rw [sn, List.map_append]
            refine TpL.snoc (tDq.tx (TX.upd_lst hDq)) ?_
            have e : K49.pos (K49.ordT VN (vaOf ss)) (vaOf ss b n) = K49.pos (visit (vaOf ss b n) (visits ((rtS ss b).take t) (visits (preT ss i) []))) (vaOf ss b n) := by
              rw [← vs1]
              refine pos_pre vall ?_
              rw [vs1]; exact K49.visit_self _ _
            show Tp _ (.ref q) (.tuple [.str n, .int ((K49.pos (K49.ordT VN (vaOf ss)) (vaOf ss b n) : Nat) : Int)])
            rw [e]
            exact (Tp.tup (ds := [.str n, .int _]) upd_same (.cons (.str n) (.cons (.int _) .nil))).tx (TX.upd_lst hDq)
      · rintro H4 ⟨b4, L4, D4⟩
        have hrl : ((ordN ((ss b).map (·.1))).map V.str).length = (rtS ss b).length := by
          show _ = ((ordN ((ss b).map (·.1))).map (vaOf ss b)).length
          rw [List.length_map, List.length_map]
        have hol : ((ordN ((ss b).map (·.1))).map V.str).length = (ordN ((ss b).map (·.1))).length := by rw [List.length_map]
        rw [hrl, List.take_length, ← K49.visits_append, ← preS] at L4
        rw [hol, List.take_length] at D4
        obtain ⟨ds4, hD4, tD4⟩ := D4
        refine ⟨D, ds4, rfl, .inl ⟨SqL.of hD4, fun q hq => ?_⟩⟩
        have xq := Ex.new (o := .tup ds4) hq
        have ha4 : H4 la = some (.lst as3) := b4 _ _ nla.symm ha3
        obtain ⟨as', ha', tas'⟩ := id A3
        rw [ha3] at ha'
        cases ha'
        have tx4 : TX H3 H4 := b4.tx ⟨_, hn3⟩
        refine ⟨la, as3, _, rfl, rfl, xq _ _ ha4, sz_of (by rw [tas'.length, List.length_map, List.length_range]; omega), ?_⟩
        have up : TX (L2.upd H4 q (.tup ds4)) (L2.upd (L2.upd H4 q (.tup ds4)) la (.lst (as3 ++ [.ref q]))) := TX.upd_lst (xq _ _ ha4)
        refine ⟨?_, by omega, (LsD.ex xq L4).keep (upd_ne nla) up, ⟨_, upd_same, ?_⟩, _, _, rfl⟩
        · refine Ex.mut (Ex.trans (?_ : Ex H H4) xq) fla
          intro a o ha
          have n1 : a ≠ ln := fun z => by rw [z, hln] at ha; cases ha
          exact b4 _ _ n1 (x3 _ _ (xc _ _ ha))
        · rw [List.range_succ, List.map_append]
          refine TpL.snoc (((tas'.tx tx4).ex xq).tx up) ?_
          show Tp _ (.ref q) ((sdS ss) i)
          have : (sdS ss) i = .tuple ((ordN ((ss b).map (·.1))).map fun n => .tuple [.str n, .int ((K49.pos (K49.ordT VN (vaOf ss)) (vaOf ss b n) : Nat) : Int)]) := by
            show PyData.tuple _ = _
            rw [hb]
          rw [this]
          exact (Tp.tup (upd_same : (L2.upd H4 q (.tup ds4)) q = some (.tup ds4)) (tD4.ex xq)).tx up
    · rintro σ Hc ⟨xc, _, Ln, La, v3, v4, rfl⟩
      have e2 : visits (preT ss 2) [] = K49.ordT VN (vaOf ss) := by unfold K49.ordT; rw [hroots]; rfl
      have Ln' : LsD ln ((visits (preT ss 2) []).map (frow (visits (preT ss 2) []))) Hc := Ln
      rw [e2] at Ln'
      obtain ⟨as, ha, tas⟩ := La
      dsimp only
      have g0 : EvD (tOp (rIxL K) (tVar 2) (tC (.int 0))) [some (.ref l), some (.ref ln), some (.ref la), v3, v4, none, none] Hc ((sdS ss) 0) := ed_ixL (ev_var rfl) ha tas ev_c (j := 0) rfl rfl
      have g1 : EvD (tOp (rIxL K) (tVar 2) (tC (.int 1))) [some (.ref l), some (.ref ln), some (.ref la), v3, v4, none, none] Hc ((sdS ss) 1) := ed_ixL (ev_var rfl) ha tas ev_c (j := 1) rfl rfl
      refine s_retD (d := rwD (RT VN (vaOf ss))) (ed_is (ed_tup (ead_cons (ed_tupN (en_is (en_lcL (as := K49.ordT VN (vaOf ss)) (enc := frow (K49.ordT VN (vaOf ss))) (ev_var rfl) Ln' (by omega) (fun t => some (pyN (ndOf (K49.ordT VN (vaOf ss)) t))) fun z x H3 hz e3 tt Q' kk => ?_) (filterMap_some _ _))) (ead_cons g0 (ead_cons g1 ead_nil))) (by simp)) ?_) fun v H3 e3 t3 => k v H3 (xc.trans e3) t3
      · refine kk _ rfl et_yes fun d hd => ?_
        cases hd
        exact ed_ixT (ed_var rfl tt) (ev_c (v := .int 1)) (j := 1) rfl rfl
      · unfold rwD RT
        have s0 : K49.sideOf (K49.ordT VN (vaOf ss)) VN (vaOf ss false) = _ := side_of (ks := (ss false).map (·.1)) fun n _ => (hs false).iff n
        have s1 : K49.sideOf (K49.ordT VN (vaOf ss)) VN (vaOf ss true) = _ := side_of (ks := (ss true).map (·.1)) fun n _ => (hs true).iff n
        rw [s0, s1]
        simp only [List.map_map]
        rfl
end
end K49W

-- part K49L8
namespace K49W
open PySem PySem.Spec PyProof.Rows L2 Evl
open K49 (Nd Rw Tm cmn cmns RT val)
theorem cmns_get : ∀ (as bs : List (Tm Str Nat)), as.length = bs.length → cmns as bs = (List.range as.length).map fun i => cmn (as.getD i .nil) (bs.getD i .nil)
  | [], [], _ => by simp [K49.cmns]
  | [], _ :: _, h => by simp at h
  | _ :: _, [], h => by simp at h
  | a :: as, b :: bs, h => by
    have ih := cmns_get as bs (by simpa using h)
    rw [K49.cmns, ih, List.length_cons, List.range_succ_eq_map, List.map_cons, List.map_map]
    rfl
theorem wt_cmn : ∀ {n : Nat} {a b : Tm Str Nat}, n ≤ 10 → Wt W1 n a → Wt W1 n b → Wt W2 n (cmn a b)
  | n, .nil, .nil, _, _, _ => by simp [K49.cmn, Wt]
  | n, .app f as, .app g bs, hn, ha, hb => by
    rw [K49.cmn]
    by_cases c : f = g ∧ as.length = bs.length
    · rw [if_pos c]
      obtain ⟨m, rfl, h1, h2, h3⟩ := wt_app ha
      obtain ⟨m', e, _, _, h4⟩ := wt_app hb
      obtain rfl : m = m' := by omega
      have : f ∈ OPS ∧ (cmns as bs).length ≤ 3 ∧ ∀ t ∈ cmns as bs, Wt W2 m t := by
        refine ⟨h1, ?_, ?_⟩
        · rw [cmns_get as bs c.2, List.length_map, List.length_range]; exact h2
        · rw [cmns_get as bs c.2]
          intro t ht
          obtain ⟨i, hi, rfl⟩ := List.mem_map.mp ht
          have hi := List.mem_range.mp hi
          refine wt_cmn (by omega) (h3 _ (List.mem_of_getElem? (getD_some hi))) (h4 _ (List.mem_of_getElem? (getD_some (by omega))))
      simpa [Wt] using this
    · rw [if_neg c]
      have : W2 (.app f as, .app g bs) := ⟨ha.mono hn, hb.mono hn⟩
      cases n <;> simpa [Wt] using this
  | n, .hole l, b, hn, ha, hb => by
    have : cmn (.hole l) b = .hole (.hole l, b) := by cases b <;> simp [K49.cmn]
    rw [this]
    have : W2 (.hole l, b) := ⟨ha.mono hn, hb.mono hn⟩
    cases n <;> simpa [Wt] using this
  | n, .nil, .hole l, hn, ha, hb => by
    have e : cmn (.nil : Tm Str Nat) (.hole l) = .hole (.nil, .hole l) := by simp [K49.cmn]
    rw [e]
    have : W2 (.nil, .hole l) := ⟨ha.mono hn, hb.mono hn⟩
    cases n <;> simpa [Wt] using this
  | n, .nil, .app g bs, hn, ha, hb => by
    have e : cmn (.nil : Tm Str Nat) (.app g bs) = .hole (.nil, .app g bs) := by simp [K49.cmn]
    rw [e]
    have : W2 (.nil, .app g bs) := ⟨ha.mono hn, hb.mono hn⟩
    cases n <;> simpa [Wt] using this
  | n, .app f as, .hole l, hn, ha, hb => by
    have e : cmn (.app f as) (.hole l : Tm Str Nat) = .hole (.app f as, .hole l) := by simp [K49.cmn]
    rw [e]
    have : W2 (.app f as, .hole l) := ⟨ha.mono hn, hb.mono hn⟩
    cases n <;> simpa [Wt] using this
  | n, .app f as, .nil, hn, ha, hb => by
    have e : cmn (.app f as) (.nil : Tm Str Nat) = .hole (.app f as, .nil) := by simp [K49.cmn]
    rw [e]
    have : W2 (.app f as, .nil) := ⟨ha.mono hn, hb.mono hn⟩
    cases n <;> simpa [Wt] using this
termination_by n => n
section
variable {P : Program} {w : World} {K : PySem.W.Frag} {mg : Str → Option Value} {base : Heap}
/-! ### shaped -/
theorem sc_shaped : FnScope ["_law_rows"] ["_law_rows"] (defScope (top 35)) := ⟨rfl, rfl, rfl, by decide +kernel, rfl, by decide +kernel, by decide +kernel⟩
def spShaped (K : PySem.W.Frag) : Sp := fun vs H Q _ => ∃ (t : Addr) (R : Rw Str Str), vs = [.ref t] ∧ RowsAt t R H ∧ Good R ∧ ∀ z H', Ex H H' → ShI K z (RT VN (val R)) H' → Q (.ref z) H'
theorem cal_shaped (T : Nm K mg) (F : Df K (dG 35 "_law_shaped")) (cK : MkC P w K mg base 5) : Cal P w K mg base 7 "_law_shaped" ["_law_rows"] (spShaped K) := by
  refine cal_of T F (by decide +kernel) sc_shaped (fun _ _ _ _ _ _ us hl => match us, hl with | [_], _ => rfl) (fun vs H Q E h => ?_) fun cdv A outer s H vs Q E hr h => ?_
  · obtain ⟨t, R, rfl, _⟩ := h
    rfl
  · obtain ⟨t, R, rfl, ⟨a, b, c, ht, hR⟩, g, k⟩ := h
    refine ⟨_, (pss_one (ps_ret (q_mk cK hr (pa_cons (q_ixL (pv 0) pe_int) (pa_cons (q_ixL (pv 0) pe_int) (pa_cons (q_ixL (pv 0) pe_int) pa_nil)))))), ?_⟩
    refine s_retP (ep_mk (a := a) (b := b) (c := c) (R := R) (fun H3 e3 Q' q' => ?_) g) fun v H3 e3 hv => ?_
    · refine ea_cons (ev_op (ev_var rfl) ev_c (rv_ixL (SqL.of ht) (atI_nat (j := 0) rfl))) (ea_cons (ev_op (ev_var rfl) ev_c (rv_ixL (SqL.of ht) (atI_nat (j := 1) rfl))) (ea_cons (ev_op (ev_var rfl) ev_c (rv_ixL (SqL.of ht) (atI_nat (j := 2) rfl))) ea_nil)) H3 e3 _ fun H4 e4 => q' _ H4 e4 ⟨a, b, c, rfl, hR.ex (e3.trans e4)⟩
    · obtain ⟨z, rfl, hS⟩ := hv
      exact k z H3 e3 hS
/-! ### common_term -/
theorem sc_common : FnScope ["_law_one", "_law_other", "_law_k"] ["_law_one", "_law_other"] (defScope (top 36)) := ⟨rfl, rfl, rfl, by decide +kernel, rfl, by decide +kernel, by decide +kernel⟩
def spCommon (L : Nat) : Sp := fun vs H Q _ => ∃ (v u : V) (a b : Tm Str Nat) (n : Nat), vs = [v, u] ∧ n < L ∧ n ≤ 10 ∧ Wt W1 n a ∧ Wt W1 n b ∧ Tp H v (t1 a) ∧ Tp H u (t1 b) ∧ ∀ x H', Ex H H' → Tp H' x (t2 (cmn a b)) → Q x H'
theorem t1_len {a : Tm Str Nat} : t1 a = .tuple (match a with | .hole l => [.str "?", .int (l : Nat)] | .nil => [] | .app f ts => .str f :: ts.map t1) := by
  cases a with
  | hole l => simp [tD, e1]
  | nil => simp [tD]
  | app f ts => exact tD_app
theorem cal_common (T : Nm K mg) (F : Df K (dG 36 "_law_common_term")) : ∀ L : Nat, Cal P w K mg base (L + 1) "_law_common_term" ["_law_one", "_law_other"] (spCommon L)
  | 0 => by
    refine cal_of T F (by decide +kernel) sc_common (fun _ _ _ _ _ _ us hl => match us, hl with | [_, _], _ => rfl) (fun vs H Q E h => ?_) fun cdv A outer s H vs Q E hr h => ?_
    · obtain ⟨v, u, a, b, n, _, hi, _⟩ := h
      exact absurd hi (Nat.not_lt_zero n)
    · obtain ⟨v, u, a, b, n, _, hi, _⟩ := h
      exact absurd hi (Nat.not_lt_zero n)
  | L + 1 => by
    have ih := cal_common T F L
    refine cal_of T F (by decide +kernel) sc_common (fun _ _ _ _ _ _ us hl => match us, hl with | [_, _], _ => rfl) (fun vs H Q E h => ?_) fun cdv A outer s H vs Q E hr h => ?_
    · obtain ⟨v, u, a, b, n, rfl, _⟩ := h
      rfl
    · obtain ⟨v, u, a, b, n, rfl, hnL, hn10, wa, wb, tv, tu, k⟩ := h
      have nd := sc_common.nd
      have hun := hr.units
      refine ⟨_, (pss_cons (ps_if (PW.pt (pw_and (q_eqD hun (pv 0) (pe_tup pa_nil)) (pw_and1 (q_eqD hun (pv 1) (pe_tup pa_nil))))) (pss_one (ps_ret (pe_tup pa_nil))) pss_nil) (pss_cons (ps_if (PW.pt (pw_and (q_neD hun (pv 0) (pe_tup pa_nil)) (pw_and (q_neD hun (pv 1) (pe_tup pa_nil)) (pw_and (q_ne (q_ixT (pv 0) pe_int) pe_str) (pw_and (q_eq (q_ixT (pv 0) pe_int) (q_ixT (pv 1) pe_int)) (pw_and1 (q_eq (q_len T (pa_cons (pv 0) pa_nil)) (q_len T (pa_cons (pv 1) pa_nil)))))))))
          (pss_one (ps_ret (pe_op op_catT (pe_tup (pa_cons (q_ixT (pv 0) pe_int) pa_nil)) (q_tuple T (pa_cons (pe_lc (own := [("_law_k", 2)]) (g := gName 2) (tt := tYes) (te := tCall (spCommon L) [] E0 (tCons (tOp (rIxT K) (tVar 0) (tVar 2)) (tCons (tOp (rIxT K) (tVar 1) (tVar 2)) tNil))) rfl nd (pi_range2 (by rfl) (T.f "range") (pa_cons pe_int (pa_cons (q_len T (pa_cons (pv 0) pa_nil)) pa_nil))) (blkOk_by (N := ["_law_one", "_law_other", "_law_k"]) (sc := defScope (top 36)) (by decide +kernel))
              (fun _ _ _ _ _ => pg_name (i := 2) nd rfl (Or.inl rfl)) (fun _ _ _ _ _ => pts_nil) (fun _ _ _ _ _ => pe_cal ih hr (by rfl) (pa_cons (q_ixT (pv 0) (pv 2)) (pa_cons (q_ixT (pv 1) (pv 2)) pa_nil)))) pa_nil))))) pss_nil) (pss_one (ps_ret (pe_tup (pa_cons pe_str (pa_cons (pv 0) (pa_cons (pv 1) pa_nil)))))))), ?_⟩
      have i0 : EvD (tVar 0) (start ["_law_one", "_law_other", "_law_k"] [v, u]) H (t1 a) := ed_var rfl tv
      have i1 : EvD (tVar 1) (start ["_law_one", "_law_other", "_law_k"] [v, u]) H (t1 b) := ed_var rfl tu
      have pa := pd1 (by omega) wa
      have pb := pd1 (by omega) wb
      have na : decide (t1 a = .tuple []) = decide (a = .nil) := decide_eq_decide.mpr t1_nil
      have nb : decide (t1 b = .tuple []) = decide (b = .nil) := decide_eq_decide.mpr t1_nil
      -- the last line
      have hole : cmn a b = .hole (a, b) → ∀ H1, Ex H H1 → ∀ D : Ends, D.rt = Q → tRet (tTup (tCons (tC (.str "?")) (tCons (tVar 0) (tCons (tVar 1) tNil)))) D (start ["_law_one", "_law_other", "_law_k"] [v, u]) H1 := fun hc H1 x1 D hD => by
        refine s_retD (d := t2 (cmn a b)) (ed_is (ed_tup (ead_cons ed_str (ead_cons (i0.mono x1) (ead_cons (i1.mono x1) ead_nil))) (by simp)) (by rw [hc]; simp [tD, K49W.e2])) fun x H2 e2 t => ?_
        rw [hD]
        exact k x H2 (x1.trans e2) t
      refine s_if (b := decide (a = .nil) && decide (b = .nil)) (et_is (et_and (et_test (ev_eqD i0 (ed_tup ead_nil (by simp)) pa pd_nil)) fun _ => et_test (ev_eqD i1 (ed_tup ead_nil (by simp)) pb pd_nil)) (by rw [na, nb])) (fun hb H1 x1 => ?_) fun hb H1 x1 => ?_
      · have hab : a = .nil ∧ b = .nil := by simpa using hb
        obtain ⟨rfl, rfl⟩ := hab
        exact s_retD (d := t2 (cmn .nil .nil)) (ed_is (ed_tup ead_nil (by simp)) (by simp [K49.cmn, tD])) fun x H2 e2 t => k x H2 (x1.trans e2) t
      · have i0' := i0.mono x1
        have i1' := i1.mono x1
        cases a with
        | nil =>
          have hbn : b ≠ .nil := fun z => by subst z; simp at hb
          refine s_if (b := false) (et_is (et_and (a := false) (b := false) (et_is (et_test (ev_neD i0' (ed_tup ead_nil (by simp)) pa pd_nil)) (by rw [na]; simp)) fun z => by cases z) rfl) (fun z => by cases z) fun _ H2 x2 => ?_
          exact hole (by cases b <;> first | exact absurd rfl hbn | simp [K49.cmn]) H2 (x1.trans x2) _ rfl
        | hole l =>
          have ia : EvD (tVar 0) (start ["_law_one", "_law_other", "_law_k"] [v, u]) H1 (.tuple [.str "?", .int (l : Nat)]) := ed_is i0' t1_len
          refine s_if (b := false) (et_is (et_and (a := true) (b := false) (et_is (et_test (ev_neD i0' (ed_tup ead_nil (by simp)) pa pd_nil)) (by rw [na]; simp)) fun _ => ?_) rfl) (fun z => by cases z) fun _ H2 x2 => ?_
          · refine et_is (b := false) (et_and (a := !decide (b = .nil)) (b := false) (et_is (et_test (ev_neD i1' (ed_tup ead_nil (by simp)) pb pd_nil)) (by rw [nb])) fun _ => ?_) (by simp)
            exact et_is (et_and (a := false) (b := false) (et_is (et_test (ev_neS (d_str (ed_ixT ia ev_c (j := 0) rfl rfl)) ev_c)) (by simp)) fun z => by cases z) rfl
          · exact hole (by cases b <;> simp [K49.cmn]) H2 (x1.trans x2) _ rfl
        | app f as =>
          have ia : EvD (tVar 0) (start ["_law_one", "_law_other", "_law_k"] [v, u]) H1 (.tuple (.str f :: as.map t1)) := ed_is i0' t1_len
          obtain ⟨n', rfl, hf, has, hwa⟩ := wt_app wa
          cases b with
          | nil =>
            refine s_if (b := false) (et_is (et_and (a := true) (b := false) (et_is (et_test (ev_neD i0' (ed_tup ead_nil (by simp)) pa pd_nil)) (by rw [na]; simp)) fun _ => ?_) rfl) (fun z => by cases z) fun _ H2 x2 => ?_
            · exact et_is (et_and (a := false) (b := false) (et_is (et_test (ev_neD i1' (ed_tup ead_nil (by simp)) pb pd_nil)) (by rw [nb]; simp)) fun z => by cases z) rfl
            · exact hole (by simp [K49.cmn]) H2 (x1.trans x2) _ rfl
          | hole m =>
            have ib : EvD (tVar 1) (start ["_law_one", "_law_other", "_law_k"] [v, u]) H1 (.tuple [.str "?", .int (m : Nat)]) := ed_is i1' t1_len
            refine s_if (b := false) (et_is (et_and (a := true) (b := false) (et_is (et_test (ev_neD i0' (ed_tup ead_nil (by simp)) pa pd_nil)) (by rw [na]; simp)) fun _ => ?_) rfl) (fun z => by cases z) fun _ H2 x2 => ?_
            · refine et_is (et_and (a := true) (b := false) (et_is (et_test (ev_neD i1' (ed_tup ead_nil (by simp)) pb pd_nil)) (by rw [nb]; simp)) fun _ => ?_) rfl
              refine et_is (et_and (a := true) (b := false) (et_is (et_test (ev_neS (d_str (ed_ixT ia ev_c (j := 0) rfl rfl)) ev_c)) (by simp [q_ops f hf])) fun _ => ?_) rfl
              exact et_is (et_and (a := false) (b := false) (et_is (et_test (ev_eqS (d_str (ed_ixT ia ev_c (j := 0) rfl rfl)) (d_str (ed_ixT ib ev_c (j := 0) rfl rfl)))) (by simp [q_ops f hf])) fun z => by cases z) rfl
            · exact hole (by simp [K49.cmn]) H2 (x1.trans x2) _ rfl
          | app g bs =>
            have ib : EvD (tVar 1) (start ["_law_one", "_law_other", "_law_k"] [v, u]) H1 (.tuple (.str g :: bs.map t1)) := ed_is i1' t1_len
            obtain ⟨n'', en, hg, hbs, hwb⟩ := wt_app wb
            obtain rfl : n' = n'' := by omega
            refine s_if (b := decide (f = g) && decide (as.length = bs.length)) (et_is (et_and (a := true) (b := decide (f = g) && decide (as.length = bs.length)) (et_is (et_test (ev_neD i0' (ed_tup ead_nil (by simp)) pa pd_nil)) (by rw [na]; simp)) fun _ => ?_) (by simp)) (fun hc H2 x2 => ?_) fun hc H2 x2 => ?_
            · refine et_is (et_and (a := true) (b := decide (f = g) && decide (as.length = bs.length)) (et_is (et_test (ev_neD i1' (ed_tup ead_nil (by simp)) pb pd_nil)) (by rw [nb]; simp)) fun _ => ?_) (by simp)
              refine et_is (et_and (a := true) (b := decide (f = g) && decide (as.length = bs.length)) (et_is (et_test (ev_neS (d_str (ed_ixT ia ev_c (j := 0) rfl rfl)) ev_c)) (by simp [q_ops f hf])) fun _ => ?_) (by simp)
              refine et_and (et_test (ev_eqS (d_str (ed_ixT ia ev_c (j := 0) rfl rfl)) (d_str (ed_ixT ib ev_c (j := 0) rfl rfl)))) fun _ => ?_
              refine et_is (et_test (ev_eqI (ev_lenD ia) (ev_lenD ib))) ?_
              refine decide_eq_decide.mpr ?_
              simp only [List.length_cons, List.length_map]
              omega
            · have hc' : f = g ∧ as.length = bs.length := by simpa using hc
              have x12 := x1.trans x2
              have ia2 := ia.mono x2
              have ib2 := ib.mono x2
              have hcm : cmn (.app f as) (.app g bs) = .app f ((List.range as.length).map fun i => cmn (as.getD i .nil) (bs.getD i .nil)) := by rw [K49.cmn, if_pos hc', cmns_get as bs hc'.2]
              have hlen : ((((PyData.str f :: as.map t1).length : Int)) - 1).toNat = as.length := by simp
              refine s_retD (d := t2 (cmn (.app f as) (.app g bs))) (ed_is (ed_cat (ed_tup (ead_cons (ed_ixT ia2 ev_c (j := 0) rfl rfl) ead_nil) (by simp)) (ed_tupN (en_is (en_lcR (lo := 1) (hi := ((PyData.str f :: as.map t1).length : Int)) (fun H3 e3 Q' q' => ?_) ⟨by decide, by decide, by simp; omega, by simp; omega⟩ (fun i => some (t2 (cmn (as.getD i .nil) (bs.getD i .nil)))) fun i x H3 hi e3 tx Q' kk => ?_) (by rw [filterMap_some, hlen]))) (by rw [List.length_map, List.length_range]; simp; omega)) ?_) fun x H3 e3 t => k x H3 (x12.trans e3) t
              · exact ev_lenD ia2 H3 e3 _ fun H4 e4 => q' _ H4 e4 rfl
              · have := tx.inv_int
                subst this
                rw [hlen] at hi
                refine kk _ rfl et_yes fun d hd => ?_
                cases hd
                have ja : (PyData.str f :: as.map t1)[1 + i]? = some (t1 (as.getD i .nil)) := by
                  rw [Nat.add_comm, List.getElem?_cons_succ, List.getElem?_map, getD_some (d := .nil) hi]; rfl
                have jb : (PyData.str g :: bs.map t1)[1 + i]? = some (t1 (bs.getD i .nil)) := by
                  rw [Nat.add_comm, List.getElem?_cons_succ, List.getElem?_map, getD_some (d := .nil) (by omega : i < bs.length)]; rfl
                have tv3 : Tp H3 v (.tuple (.str f :: as.map t1)) := by
                  have := tv.ex (x12.trans e3)
                  rw [t1_len] at this
                  exact this
                have tu3 : Tp H3 u (.tuple (.str g :: bs.map t1)) := by
                  have := tu.ex (x12.trans e3)
                  rw [t1_len] at this
                  exact this
                intro H4 e4 Q q
                refine ed_ixT (ed_var rfl (tv3.ex e4)) (ev_var rfl) (j := 1 + i) (by omega) ja H4 (Ex.refl _) _ fun y1 H5 e5 s1 => ?_
                refine ed_ixT (ed_var rfl ((tu3.ex e4).ex e5)) (ev_var rfl) (j := 1 + i) (by omega) jb H5 (Ex.refl _) _ fun y2 H6 e6 s2 => ?_
                exact ⟨y1, y2, as.getD i .nil, bs.getD i .nil, n', rfl, by omega, by omega, hwa _ (List.mem_of_getElem? (getD_some hi)), hwb _ (List.mem_of_getElem? (getD_some (by omega))), s1.ex e6, s2, fun x H7 e7 t7 => q x H7 ((e5.trans e6).trans e7) t7⟩
              · rw [hcm]
                show _ = tD K49W.e2 _
                rw [tD_app, List.map_map]; rfl
            · have hc' : ¬ (f = g ∧ as.length = bs.length) := fun z => by simp [z.1, z.2] at hc
              exact hole (by rw [K49.cmn, if_neg hc']) H2 (x1.trans x2) _ rfl
end
end K49W

-- part K49L9
namespace K49W
open PySem PySem.Spec PyProof.Rows L2 Evl
open K49 (Nd Rw Tm cmn RT val)
theorem KvD.snoc {H : Hp} {k : Key} {v : V} {d : PyData} : ∀ {r : List (Key × V)} {s : List (Key × PyData)}, KvD H r s → Tp H v d → KvD H (r ++ [(k, v)]) (s ++ [(k, d)])
  | _, _, .nil, t => .cons t .nil
  | _, _, .cons a b, t => .cons a (KvD.snoc b t)
noncomputable def cN (s1 s2 : Bool → List (Str × Tm Str Nat)) (b : Bool) (n : Str) : Option (Str × TT2) := if cmn (vaOf s1 b n) (vaOf s2 b n) = .nil then none else some (n, cmn (vaOf s1 b n) (vaOf s2 b n))
noncomputable def cS (s1 s2 : Bool → List (Str × Tm Str Nat)) (b : Bool) : List (Str × TT2) := NMS.filterMap (cN s1 s2 b)
theorem cN_keys {s1 s2 : Bool → List (Str × Tm Str Nat)} {b : Bool} : ∀ {l : List Str}, ((l.filterMap (cN s1 s2 b)).map (·.1)).Sublist l
  | [] => List.Sublist.refl _
  | n :: l => by
    rw [List.filterMap_cons]
    unfold cN
    by_cases q : cmn (vaOf s1 b n) (vaOf s2 b n) = .nil
    · simp only [q, if_true]
      exact List.Sublist.cons _ cN_keys
    · simp only [q, if_false, List.map_cons]
      exact List.Sublist.cons₂ _ cN_keys
section
variable {P : Program} {w : World} {K : PySem.W.Frag} {mg : Str → Option Value} {base : Heap}
theorem sc_commons : FnScope ["_law_one", "_law_other", "_law_found", "_law_k", "_law_side", "_law_name", "_law_term"] ["_law_one", "_law_other"] (defScope (top 37)) := ⟨rfl, rfl, rfl, by decide +kernel, rfl, by decide +kernel, by decide +kernel⟩
def spCommons : Sp := fun vs H Q _ => ∃ (l1 l2 : Addr) (s1 s2 : Bool → List (Str × Tm Str Nat)), vs = [.ref l1, .ref l2] ∧ TLs t1 l1 s1 H ∧ TLs t1 l2 s2 H ∧ (∀ b n, Wt W1 7 (vaOf s1 b n)) ∧ (∀ b n, Wt W1 7 (vaOf s2 b n)) ∧ ∀ l H', H l = none → Ex H H' → TLs t2 l (cS s1 s2) H' → Q (.ref l) H'
theorem cal_commons (T : Nm K mg) (F : Df K (dG 37 "_law_common_terms")) (cC : Cal P w K mg base 9 "_law_common_term" ["_law_one", "_law_other"] (spCommon 8)) : Cal P w K mg base 10 "_law_common_terms" ["_law_one", "_law_other"] spCommons := by
  refine cal_of T F (by decide +kernel) sc_commons (fun _ _ _ _ _ _ us hl => match us, hl with | [_, _], _ => rfl) (fun vs H Q E h => ?_) fun cdv A outer s H vs Q E hr h => ?_
  · obtain ⟨l1, l2, s1, s2, rfl, _⟩ := h
    rfl
  · obtain ⟨l1, l2, s1, s2, rfl, hA, hB, wA, wB, k⟩ := h
    have nd := sc_commons.nd
    have hu := hu_of hr
    have hun := hr.units
    refine ⟨_, (pss_cons (ps_set (i := 2) nd rfl (Or.inl rfl) (pe_lst pa_nil)) (pss_cons (ps_for PassesOwn.never rfl (pi_range1 (by rfl) (T.f "range") (pa_cons pe_int pa_nil)) (pg_name (i := 3) nd rfl (Or.inl rfl))
        (pss_cons (ps_set (i := 4) nd rfl (Or.inl rfl) pe_dnewK) (pss_cons (ps_for PassesOwn.never rfl (pi_list (pe_lst (pa_cons pe_str (pa_cons pe_str (pa_cons pe_str pa_nil))))) (pg_name (i := 5) nd rfl (Or.inl rfl))
            (pss_cons (ps_set (i := 6) nd rfl (Or.inl rfl) (pe_cal cC (hr.mono (by decide)) (by rfl) (pa_cons (pe_dget2 hu (q_ixL (pv 0) (pv 3)) (pv 5) (pe_tup pa_nil) ⟨rfl, rfl, rfl, rfl⟩) (pa_cons (pe_dget2 hu (q_ixL (pv 1) (pv 3)) (pv 5) (pe_tup pa_nil) ⟨rfl, rfl, rfl, rfl⟩) pa_nil)))) (pss_one (ps_if (q_neD hun (pv 6) (pe_tup pa_nil)) (pss_one (ps_dput hu (pv 4) (pv 5) (pv 6) rfl)) pss_nil)))) (pss_one (ps_expr (q_app (pv 2) (pa_cons (pv 4) pa_nil))))))) (pss_one (ps_ret (pv 2))))), ?_⟩
    obtain ⟨a0, a1, hl1, ka0, ka1⟩ := hA
    obtain ⟨b0, b1, hl2, kb0, kb1⟩ := hB
    refine ⟨Nat.zero_le _, fun l hl => ?_⟩
    have x1 : Ex H (L2.upd H l (.lst [])) := Ex.new hl
    have hl' : (L2.upd H l (.lst [])) l = some (.lst []) := upd_same
    generalize L2.upd H l (.lst []) = H1 at *
    refine q_seq ?_
    refine ⟨2, rfl, by decide, by decide, ?_⟩
    refine for_range (n := 2) (fun i σ Hc => Ex H Hc ∧ ∃ (dl : List Addr) (v3 v4 v5 v6 : Option V), dl.length = i ∧ Hc l = some (.lst (dl.map V.ref)) ∧ (∀ j d, dl[j]? = some d → d ≠ l ∧ KvAt d (rowsK t2 (cS s1 s2 (j == 1))) Hc) ∧
      σ = [some (.ref l1), some (.ref l2), some (.ref l), v3, v4, v5, v6]) ⟨x1, [], none, none, none, none, rfl, hl', fun j d h => absurd h (by rw [List.getElem?_nil]; exact fun z => by cases z), rfl⟩ ?_ ?_
    · rintro i σ Hc hi ⟨xc, dl, v3, v4, v5, v6, hdl, hlc, hds, rfl⟩
      have zi : (0 + (i : Int)) = (i : Nat) := by omega
      rw [zi]
      obtain ⟨b, hb, da, db, ga, gb, kda, kdb⟩ : ∃ b, (i == 1) = b ∧ ∃ da db, ([V.ref a0, V.ref a1] : List V)[i]? = some (.ref da) ∧ ([V.ref b0, V.ref b1] : List V)[i]? = some (.ref db) ∧ KvAt da (rowsK t1 (s1 b)) H ∧ KvAt db (rowsK t1 (s2 b)) H := by
        match i, hi with
        | 0, _ => exact ⟨false, rfl, a0, b0, rfl, rfl, ka0, kb0⟩
        | 1, _ => exact ⟨true, rfl, a1, b1, rfl, rfl, ka1, kb1⟩
        | i + 2, h => omega
      refine q_seq ?_
      intro d4 hd4
      have nd4 : d4 ≠ l := fun z => by rw [z, hlc] at hd4; cases hd4
      have f4 : H d4 = none := fresh_back xc hd4
      have x2 : Ex Hc (L2.upd Hc d4 (.dK [])) := Ex.new hd4
      have h4 : (L2.upd Hc d4 (.dK [])) d4 = some (.dK []) := upd_same
      have hl2c := x2 _ _ hlc
      have hds2 : ∀ j d, dl[j]? = some d → d ≠ l ∧ d ≠ d4 ∧ KvAt d (rowsK t2 (cS s1 s2 (j == 1))) (L2.upd Hc d4 (.dK [])) := fun j d h => by
        obtain ⟨m1, m2⟩ := hds j d h
        obtain ⟨kv, h1, h1'⟩ := m2
        exact ⟨m1, ne_of_none h1 hd4, KvAt.ex x2 ⟨kv, h1, h1'⟩⟩
      generalize L2.upd Hc d4 (.dK []) = H2 at *
      refine q_seq ?_
      refine ⟨by show 3 ≤ sizeLine; decide, fun pn hpn => ⟨pn, rfl, ⟨_, SqL.of upd_same⟩, ?_⟩⟩
      have x3 : Ex H2 (L2.upd H2 pn (.lst (NMS.map V.str))) := Ex.new hpn
      have hp3 : (L2.upd H2 pn (.lst (NMS.map V.str))) pn = some (.lst (NMS.map V.str)) := upd_same
      have npd : d4 ≠ pn := ne_of_none h4 hpn
      show ∃ W : Nat → Nat → L2.St → Hp → Prop, (∃ m, W 0 m _ (L2.upd H2 pn (.lst (NMS.map V.str)))) ∧ _
      have h43 := x3 _ _ h4
      have hl3 := x3 _ _ hl2c
      have hds3 : ∀ j d, dl[j]? = some d → d ≠ l ∧ d ≠ d4 ∧ KvAt d (rowsK t2 (cS s1 s2 (j == 1))) (L2.upd H2 pn (.lst (NMS.map V.str))) := fun j d h => by
        obtain ⟨m1, m2, m3⟩ := hds2 j d h
        exact ⟨m1, m2, m3.ex x3⟩
      have x13 := xc.trans (x2.trans x3)
      generalize L2.upd H2 pn (.lst (NMS.map V.str)) = H3 at *
      refine for_list (K := K) (a := pn) (xs := NMS.map V.str) (fun t σ H4 => Ex H H4 ∧ ExB d4 H3 H4 ∧ H4 pn = some (.lst (NMS.map V.str)) ∧ KvAt d4 (rowsK t2 ((NMS.take t).filterMap (cN s1 s2 b))) H4 ∧ ∃ v5 v6, σ = [some (.ref l1), some (.ref l2), some (.ref l), some (.int (i : Nat)), some (.ref d4), v5, v6]) ⟨x13, ExB.of (Ex.refl _), hp3, ⟨[], h43, .nil⟩, v5, v6, rfl⟩ (fun t σ H4 _ q => SqL.of q.2.2.1) ?_ ?_
      · rintro t x σ H4 ht ⟨xH, b4, hp4, k4, v5, v6, rfl⟩
        rw [List.getElem?_map] at ht
        cases qn : NMS[t]? with
        | none => rw [qn] at ht; cases ht
        | some n =>
          rw [qn] at ht
          cases ht
          have ht3 : t < 3 := (List.getElem?_eq_some_iff.mp qn).1
          refine q_seq ?_
          have g1 : EvD (tDGet2 (tOp (rIxL K) (tVar 0) (tVar 3)) (tVar 5) (tTup tNil)) [some (.ref l1), some (.ref l2), some (.ref l), some (.int (i : Nat)), some (.ref d4), some (.str n), v6] H4 (t1 (vaOf s1 b n)) :=
            ed_dget2 (enc := t1) (z := .nil) (ev_op (ev_var rfl) (ev_var rfl) (rv_ixL (SqL.of (xH _ _ hl1)) (atI_nat ga))) (ev_var rfl) (ed_is (ed_tup ead_nil (by simp)) (by simp [tD])) (kda.ex xH)
          have g2 : EvD (tDGet2 (tOp (rIxL K) (tVar 1) (tVar 3)) (tVar 5) (tTup tNil)) [some (.ref l1), some (.ref l2), some (.ref l), some (.int (i : Nat)), some (.ref d4), some (.str n), v6] H4 (t1 (vaOf s2 b n)) :=
            ed_dget2 (enc := t1) (z := .nil) (ev_op (ev_var rfl) (ev_var rfl) (rv_ixL (SqL.of (xH _ _ hl2)) (atI_nat gb))) (ev_var rfl) (ed_is (ed_tup ead_nil (by simp)) (by simp [tD])) (kdb.ex xH)
          have hc : EvD (tCall (spCommon 8) [] E0 (tCons (tDGet2 (tOp (rIxL K) (tVar 0) (tVar 3)) (tVar 5) (tTup tNil)) (tCons (tDGet2 (tOp (rIxL K) (tVar 1) (tVar 3)) (tVar 5) (tTup tNil)) tNil))) [some (.ref l1), some (.ref l2), some (.ref l), some (.int (i : Nat)), some (.ref d4), some (.str n), v6] H4 (t2 (cmn (vaOf s1 b n) (vaOf s2 b n))) := ed_call (ead_cons g1 (ead_cons g2 ead_nil)) fun vs H5 e5 tl Q q => by
            obtain ⟨y1, r, rfl, s1', tl⟩ := tl.inv_cons
            obtain ⟨y2, r, rfl, s2', tl⟩ := tl.inv_cons
            have := tl.inv_nil
            subst this
            exact ⟨y1, y2, _, _, 7, rfl, by decide, by decide, wA b n, wB b n, s1', s2', q⟩
          refine s_setD hc fun v H5 e5 tv => ?_
          dsimp only
          have wc : Wt W2 7 (cmn (vaOf s1 b n) (vaOf s2 b n)) := wt_cmn (by decide) (wA b n) (wB b n)
          have nn : decide (t2 (cmn (vaOf s1 b n) (vaOf s2 b n)) = .tuple []) = decide (cmn (vaOf s1 b n) (vaOf s2 b n) = .nil) := decide_eq_decide.mpr t2_nil
          have snoc := filterMap_snoc (cN s1 s2 b) qn
          refine s_if (b := !decide (cmn (vaOf s1 b n) (vaOf s2 b n) = .nil)) (et_is (et_test (ev_neD (ed_var rfl tv) (ed_tup ead_nil (by simp)) (pd2 (by decide) wc) pd_nil)) (by rw [nn])) (fun hb' H6 e6 => ?_) fun hb' H6 e6 => ?_
          · have hne : ¬ cmn (vaOf s1 b n) (vaOf s2 b n) = .nil := by simpa using hb'
            obtain ⟨kvs, hk, hkd⟩ := (k4.ex e5).ex e6
            have hkl : kvs.length < 1000 := by
              rw [hkd.length]
              unfold rowsK
              rw [List.length_map]
              have := List.length_filterMap_le (cN s1 s2 b) (NMS.take t)
              rw [List.length_take] at this
              omega
            refine s_dput (k := Sum.inr n) (v := v) rfl (ev_var rfl) (ev_var rfl) (ev_var rfl) hk (by omega) fun H7 e7 => ?_
            have hno : (Sum.inr n : Key) ∉ kvs.map (·.1) := fun z => by
              rw [hkd.keys] at z
              unfold rowsK at z
              rw [List.map_map] at z
              obtain ⟨r, hr', er⟩ := List.mem_map.mp z
              have er : r.1 = n := by injection er
              have hm : n ∈ NMS.take t := by
                rw [← er]
                exact cN_keys.subset (List.mem_map.mpr ⟨r, hr', rfl⟩)
              have hnd : NMS.Nodup := by decide +kernel
              obtain ⟨j, hj⟩ := List.mem_iff_getElem?.mp hm
              have hj1 := (List.getElem?_eq_some_iff.mp hj).1
              rw [List.length_take] at hj1
              rw [List.getElem?_take_of_lt (by omega)] at hj
              obtain ⟨p1, e1'⟩ := List.getElem?_eq_some_iff.mp hj
              obtain ⟨p2, e2'⟩ := List.getElem?_eq_some_iff.mp qn
              have := (List.getElem_inj hnd (h₀ := p1) (h₁ := p2)).mp (by rw [e1', e2'])
              omega
            rw [putK_new _ (valV_notin hno)]
            have e47 := (e5.trans e6).trans e7
            have up : TX H7 (L2.upd H7 d4 (.dK (kvs ++ [(Sum.inr n, v)]))) := TX.upd_dK (e7 _ _ hk)
            refine ⟨Ex.mut (xH.trans e47) f4, (b4.trans (ExB.of e47)).upd, by rw [upd_ne npd.symm]; exact e47 _ _ hp4, ⟨_, upd_same, ?_⟩, _, _, rfl⟩
            rw [snoc]
            have : cN s1 s2 b n = some (n, cmn (vaOf s1 b n) (vaOf s2 b n)) := by unfold cN; rw [if_neg hne]
            rw [this]
            unfold rowsK at hkd ⊢
            rw [List.map_append]
            exact KvD.snoc ((hkd.ex e7).tx up) ((tv.ex (e6.trans e7)).tx up)
          · have hz : cmn (vaOf s1 b n) (vaOf s2 b n) = .nil := by simpa using hb'
            have e46 := e5.trans e6
            refine ⟨xH.trans e46, b4.trans (ExB.of e46), e46 _ _ hp4, ?_, _, _, rfl⟩
            rw [snoc]
            have : cN s1 s2 b n = none := by unfold cN; rw [if_pos hz]
            rw [this, List.append_nil]
            exact k4.ex e46
      · rintro σ H4 ⟨xH, b4, hp4, k4, v5, v6, rfl⟩
        have hl4 := b4 _ _ nd4.symm hl3
        dsimp only
        refine ⟨_, rfl, .inl ⟨rfl, _, SqL.of hl4⟩, _, rfl, l, dl.map V.ref, .ref d4, rfl, rfl, hl4, sz_of (by rw [List.length_map, hdl]; omega), ?_⟩
        have up : TX H4 (L2.upd H4 l (.lst (dl.map V.ref ++ [.ref d4]))) := TX.upd_lst hl4
        refine ⟨Ex.mut xH hl, dl ++ [d4], _, _, _, _, by simp [hdl], by rw [upd_same, List.map_append]; rfl, fun j u hj => ?_, rfl⟩
        by_cases hjl : j < dl.length
        · rw [List.getElem?_append_left hjl] at hj
          obtain ⟨m1, m2, m3⟩ := hds3 j u hj
          have tx : TX H3 H4 := fun a xs ha => by
            have : a ≠ d4 := fun z => by rw [z, h43] at ha; cases ha
            exact b4 a _ this ha
          obtain ⟨kv, h1, h2⟩ := m3
          exact ⟨m1, KvAt.keep ⟨kv, b4 _ _ m2 h1, h2.tx tx⟩ (upd_ne m1) up⟩
        · have hj2 : j = dl.length := by
            have := (List.getElem?_eq_some_iff.mp hj).1
            simp at this
            omega
          subst hj2
          rw [List.getElem?_append_right (Nat.le_refl _), Nat.sub_self] at hj
          have : d4 = u := by simpa using hj
          subst this
          rw [hdl, hb]
          exact ⟨nd4, k4.keep (upd_ne nd4) up⟩
    · rintro σ Hc ⟨xc, dl, v3, v4, v5, v6, hdl, hlc, hds, rfl⟩
      obtain ⟨d0, d1, rfl⟩ : ∃ d0 d1, dl = [d0, d1] := by
        match dl, hdl with
        | [d0, d1], _ => exact ⟨d0, d1, rfl⟩
      dsimp only
      refine s_ret (ev_var rfl) fun H3 e3 => k l H3 hl (xc.trans e3) ⟨d0, d1, e3 _ _ hlc, ((hds 0 d0 rfl).2).ex e3, ((hds 1 d1 rfl).2).ex e3⟩
end
end K49W

-- part K49L10
namespace K49W
open PySem PySem.Spec PyProof.Rows L2 Evl
open K49 (Nd Rw RT val)
theorem TpL.set {H : Hp} {v : V} {d : PyData} : ∀ {vs : List V} {ds : List PyData} (i : Nat), TpL H vs ds → Tp H v d → TpL H (vs.set i v) (ds.set i d)
  | _, _, _, .nil, _ => by simpa using TpL.nil
  | _, _, 0, .cons a b, t => .cons t b
  | _, _, i + 1, .cons a b, t => .cons a (TpL.set i b t)
theorem pool_ne {α : Type} {f : α → PyData} {p a : Addr} {H : Hp} {l : List α} (hp : PoolAt p H) (h : LsD a (l.map f) H) (hf : ∀ x i, f x ≠ .int i) : a ≠ p := fun z => by
  obtain ⟨x, y, h1, _⟩ := hp
  obtain ⟨xs, h2, h3⟩ := h
  rw [z, h1] at h2
  cases h2
  cases l with
  | nil => cases h3
  | cons u l =>
    rw [List.map_cons] at h3
    cases h3 with
    | cons t _ =>
      have : f u = .int x := by
        generalize f u = d at t
        cases t; rfl
      exact hf u x this
theorem pyN_int (nd : Nd Str) (i : Int) : pyN nd ≠ .int i := by cases nd <;> simp [pyN]
theorem pyP_int (r : Str × Nat) (i : Int) : pyP r ≠ .int i := by simp [pyP]
theorem RowsAt.exb {p t : Addr} {R : Rw Str Str} {H H' : Hp} (h : RowsAt t R H) (hp : PoolAt p H) (e : ExB p H H') : RowsAt t R H' := by
  obtain ⟨a, b, c, h1, h2, h3, h4⟩ := h
  have nt : t ≠ p := fun z => by obtain ⟨x, y, g1, _⟩ := hp; rw [z, g1] at h1; cases h1
  exact ⟨a, b, c, e _ _ nt h1, h2.exb (pool_ne hp h2 pyN_int) hp e, h3.exb (pool_ne hp h3 pyP_int) hp e, h4.exb (pool_ne hp h4 pyP_int) hp e⟩
theorem RowsAt.ex {t : Addr} {R : Rw Str Str} {H H' : Hp} (h : RowsAt t R H) (e : Ex H H') : RowsAt t R H' := by
  obtain ⟨a, b, c, h1, h2⟩ := h
  exact ⟨a, b, c, e _ _ h1, h2.ex e⟩
/-- where the near rows stand -/
structure NR (p n sd s0 s1 : Addr) (H0 H : Hp) (R : Rw Str Str) : Prop where
  e : ExB p H0 H
  pl : PoolAt p H
  l : LsD n (R.nodes.map pyN) H
  hsd : H sd = some (.lst [.ref s0, .ref s1])
  o : LsD s0 (R.olds.map pyP) H
  w : LsD s1 (R.news.map pyP) H
  nn : n ≠ p
  ns : sd ≠ p
  n0 : s0 ≠ p
  n1 : s1 ≠ p
  a1 : n ≠ s0
  a2 : n ≠ s1
  a3 : s0 ≠ s1
  a4 : n ≠ sd
  a5 : s0 ≠ sd
  a6 : s1 ≠ sd
  fn : H0 n = none
  f0 : H0 s0 = none
  f1 : H0 s1 = none
section
variable {p n sd s0 s1 : Addr} {H0 H H' : Hp} {R : Rw Str Str}
theorem NR.step (d : NR p n sd s0 s1 H0 H R) (e : ExB p H H') (hp : PoolAt p H') : NR p n sd s0 s1 H0 H' R :=
  { d with e := d.e.trans e, pl := hp, l := d.l.exb d.nn d.pl e, hsd := e _ _ d.ns d.hsd, o := d.o.exb d.n0 d.pl e, w := d.w.exb d.n1 d.pl e }
theorem NR.ex (d : NR p n sd s0 s1 H0 H R) (e : Ex H H') : NR p n sd s0 s1 H0 H' R := d.step (ExB.of e) (d.pl.ex e)
theorem NR.setN (d : NR p n sd s0 s1 H0 H R) {xs : List V} {v : V} {i : Nat} {nd : Nd Str} (hx : H n = some (.lst xs)) (tx : TpL H xs (R.nodes.map pyN)) (tv : Tp H v (pyN nd)) : NR p n sd s0 s1 H0 (L2.upd H n (.lst (xs.set i v))) { R with nodes := R.nodes.set i nd } := by
  have up : TX H (L2.upd H n (.lst (xs.set i v))) := TX.upd_lst hx
  refine { d with e := d.e.mut d.fn, pl := ?_, l := ⟨_, upd_same, ?_⟩, hsd := by rw [upd_ne d.a4.symm]; exact d.hsd, o := d.o.keep (upd_ne d.a1.symm) up, w := d.w.keep (upd_ne d.a2.symm) up }
  · obtain ⟨x, y, h1, h2⟩ := d.pl
    exact ⟨x, y, by rw [upd_ne d.nn.symm]; exact h1, h2⟩
  · show TpL _ _ ((R.nodes.set i nd).map pyN)
    rw [List.map_set]
    exact (TpL.set i tx tv).tx up
theorem NR.setO (d : NR p n sd s0 s1 H0 H R) {xs : List V} {v : V} {i : Nat} {r : Str × Nat} (hx : H s0 = some (.lst xs)) (tx : TpL H xs (R.olds.map pyP)) (tv : Tp H v (pyP r)) : NR p n sd s0 s1 H0 (L2.upd H s0 (.lst (xs.set i v))) { R with olds := R.olds.set i r } := by
  have up : TX H (L2.upd H s0 (.lst (xs.set i v))) := TX.upd_lst hx
  refine { d with e := d.e.mut d.f0, pl := ?_, l := d.l.keep (upd_ne d.a1) up, hsd := by rw [upd_ne d.a5.symm]; exact d.hsd, o := ⟨_, upd_same, ?_⟩, w := d.w.keep (upd_ne d.a3.symm) up }
  · obtain ⟨x, y, h1, h2⟩ := d.pl
    exact ⟨x, y, by rw [upd_ne d.n0.symm]; exact h1, h2⟩
  · show TpL _ _ ((R.olds.set i r).map pyP)
    rw [List.map_set]
    exact (TpL.set i tx tv).tx up
theorem NR.setW (d : NR p n sd s0 s1 H0 H R) {xs : List V} {v : V} {i : Nat} {r : Str × Nat} (hx : H s1 = some (.lst xs)) (tx : TpL H xs (R.news.map pyP)) (tv : Tp H v (pyP r)) : NR p n sd s0 s1 H0 (L2.upd H s1 (.lst (xs.set i v))) { R with news := R.news.set i r } := by
  have up : TX H (L2.upd H s1 (.lst (xs.set i v))) := TX.upd_lst hx
  refine { d with e := d.e.mut d.f1, pl := ?_, l := d.l.keep (upd_ne d.a2) up, hsd := by rw [upd_ne d.a6.symm]; exact d.hsd, o := d.o.keep (upd_ne d.a3) up, w := ⟨_, upd_same, ?_⟩ }
  · obtain ⟨x, y, h1, h2⟩ := d.pl
    exact ⟨x, y, by rw [upd_ne d.n1.symm]; exact h1, h2⟩
  · show TpL _ _ ((R.news.set i r).map pyP)
    rw [List.map_set]
    exact (TpL.set i tx tv).tx up
end
theorem nodup_set {rows : List (Str × Nat)} {i : Nat} {r : Str × Nat} {m : Nat} (h : rows[i]? = some r) : (rows.set i (r.1, m)).map (·.1) = rows.map (·.1) := by
  rw [List.map_set]
  refine List.ext_getElem? fun j => ?_
  by_cases q : i = j
  · subst q
    have hl := (List.getElem?_eq_some_iff.mp h).1
    rw [List.getElem?_set_self (by rw [List.length_map]; exact hl), List.getElem?_map, h]; rfl
  · rw [List.getElem?_set_ne q]
theorem PlOk.set {n : Nat} {rows : List (Str × Nat)} (ok : PlOk n rows) {i : Nat} {r : Str × Nat} {m : Nat} (h : rows[i]? = some r) (hm : m < n) : PlOk n (rows.set i (r.1, m)) := by
  refine ⟨by rw [List.length_set]; exact ok.len, by rw [nodup_set h]; exact ok.nd, fun z hz => ?_⟩
  rcases List.mem_or_eq_of_mem_set hz with h1 | h1
  · exact ok.each z h1
  · subst h1
    exact ⟨(ok.each r (List.mem_of_getElem? h)).1, hm⟩
theorem PlOk.mono {n m : Nat} {rows : List (Str × Nat)} (ok : PlOk n rows) (h : n ≤ m) : PlOk m rows := ⟨ok.len, ok.nd, fun r hr => ⟨(ok.each r hr).1, Nat.lt_of_lt_of_le (ok.each r hr).2 h⟩⟩
theorem Drawn.mono {n m : Nat} {R : Rw Str Str} (d : Drawn n R) (h : n ≤ m) : Drawn m R := ⟨d.good, Nat.le_trans d.len h, d.ops⟩
theorem Drawn.setN {k : Nat} {R : Rw Str Str} (d : Drawn k R) (i : Nat) {nd : Nd Str} (h : nd = .opn ∨ nd = .non) : Drawn k { R with nodes := R.nodes.set i nd } := by
  have hlen : (R.nodes.set i nd).length = R.nodes.length := List.length_set
  refine ⟨⟨⟨⟨by show (R.nodes.set i nd).length < 1000; rw [hlen]; exact d.good.ok.ns.1, fun j x hj => ?_⟩, by show PlOk (R.nodes.set i nd).length _; rw [hlen]; exact d.good.ok.olds, by show PlOk (R.nodes.set i nd).length _; rw [hlen]; exact d.good.ok.news⟩, fun s r hr => d.good.vn s r hr⟩, by show (R.nodes.set i nd).length ≤ _; rw [hlen]; exact d.len, fun x hx f xs e => ?_⟩
  · have hj : (R.nodes.set i nd)[j]? = some x := hj
    by_cases q : i = j
    · subst q
      have hl := (List.getElem?_eq_some_iff.mp hj).1
      rw [hlen] at hl
      rw [List.getElem?_set_self hl] at hj
      cases hj
      rcases h with rfl | rfl <;> trivial
    · rw [List.getElem?_set_ne q] at hj
      exact d.good.ok.ns.2 j x hj
  · have hx : x ∈ R.nodes.set i nd := hx
    rcases List.mem_or_eq_of_mem_set hx with h1 | h1
    · exact d.ops x h1 f xs e
    · subst h1
      rcases h with rfl | rfl <;> cases e
theorem Drawn.setS {k : Nat} {R R' : Rw Str Str} (d : Drawn k R) (hn : R'.nodes = R.nodes) (ho : PlOk R.nodes.length R'.olds) (hw : PlOk R.nodes.length R'.news) (hv : ∀ s r, r ∈ R'.side s → r.1 ∈ VN) : Drawn k R' :=
  ⟨⟨⟨by rw [hn]; exact d.good.ok.ns, by rw [hn]; exact ho, by rw [hn]; exact hw⟩, hv⟩, by rw [hn]; exact d.len, by rw [hn]; exact d.ops⟩
theorem vn_set {rows : List (Str × Nat)} (h : ∀ r ∈ rows, r.1 ∈ VN) {i : Nat} {r : Str × Nat} {m : Nat} (hi : rows[i]? = some r) : ∀ z ∈ rows.set i (r.1, m), z.1 ∈ VN := fun z hz => by
  rcases List.mem_or_eq_of_mem_set hz with h1 | h1
  · exact h z h1
  · subst h1; exact h r (List.mem_of_getElem? hi)
theorem Drawn.add {k : Nat} {R : Rw Str Str} (d : Drawn k R) (hk : k < 900) : Drawn (k + 1) { R with nodes := R.nodes ++ [.opn] } := by
  have hlen : (R.nodes ++ [Nd.opn]).length = R.nodes.length + 1 := by simp
  refine ⟨⟨⟨⟨by show (R.nodes ++ [Nd.opn]).length < 1000; rw [hlen]; have := d.len; omega, fun j x hj => ?_⟩, ?_, ?_⟩, fun s r hr => d.good.vn s r hr⟩, by show (R.nodes ++ [Nd.opn]).length ≤ _; rw [hlen]; have := d.len; omega, fun x hx f xs e => ?_⟩
  · have hj : (R.nodes ++ [Nd.opn])[j]? = some x := hj
    by_cases q : j < R.nodes.length
    · rw [List.getElem?_append_left q] at hj
      exact d.good.ok.ns.2 j x hj
    · have : x = .opn := by
        have hl := (List.getElem?_eq_some_iff.mp hj).1
        rw [hlen] at hl
        have : j = R.nodes.length := by omega
        subst this
        rw [List.getElem?_append_right (Nat.le_refl _), Nat.sub_self] at hj
        simpa using hj.symm
      subst this; trivial
  · show PlOk (R.nodes ++ [Nd.opn]).length _; rw [hlen]; exact d.good.ok.olds.mono (by omega)
  · show PlOk (R.nodes ++ [Nd.opn]).length _; rw [hlen]; exact d.good.ok.news.mono (by omega)
  · have hx : x ∈ R.nodes ++ [Nd.opn] := hx
    rcases List.mem_append.mp hx with h1 | h1
    · exact d.ops x h1 f xs e
    · have : x = .opn := by simpa using h1
      subst this; cases e
/-- a list of data is not empty -/
theorem ev_neLst {α : Type} {f : α → PyData} {te : TE} {σ : L2.St} {H : Hp} {K : PySem.W.Frag} {a : Addr} {l : List α} (h : Ev te σ H (.ref a)) (hl : LsD a (l.map f) H) (hf : ∀ x ∈ l, Pln (f x) = true ∧ (f x).depth ≤ 62) : Ev (tOp (rNeD K) te (tLst tNil)) σ H (.bl (!decide (l = []))) := fun H1 e Q q =>
  h H1 e _ fun H2 e2 => ⟨Nat.zero_le _, fun p hp => by
    have ep := Ex.new (o := .lst []) hp
    obtain ⟨xs, h1, h2⟩ := LsD.ex ((e.trans e2).trans ep) hl
    refine ⟨.list (l.map f), .list [], .lst (SqL.of h1) h2.dp, .lst (SqL.of upd_same) .nil, shaped_lst fun d hd => by
      obtain ⟨x, hx, rfl⟩ := List.mem_map.mp hd
      exact hf x hx, shaped_lst fun d hd => (nomatch hd), ?_⟩
    have : PyData.eqv (.list (l.map f)) (.list []) = decide (l = []) := by
      cases l with
      | nil => rfl
      | cons x l => simp [PyData.eqv, PyData.eqvAll]
    rw [this]
    exact q _ (e2.trans ep)⟩
def rListOf (K : PySem.W.Frag) : List V → Hp → VK → Prop := fun xs H Q => ∃ p ys, xs = [.ref p] ∧ (SqL K H p ys ∨ SqT K H p ys) ∧ ∀ l, H l = none → Q (.ref l) (L2.upd H l (.lst ys))
theorem par_of {i j : Nat} {t1 t2 : TE} {D : Ends} {σ : L2.St} {H : Hp} (h : t1 σ H fun x H1 => t2 σ H1 fun y H2 => D.nx ((σ.set i (some x)).set j (some y)) H2) : tPar i j (tCons t1 (tCons t2 tNil)) D σ H := by
  have : (t1 σ H fun x H1 => t2 σ H1 fun y H2 => ∃ v w, [x, y] = [v, w] ∧ D.nx ((σ.set i (some v)).set j (some w)) H2) = (t1 σ H fun x H1 => t2 σ H1 fun y H2 => D.nx ((σ.set i (some x)).set j (some y)) H2) := by
    congr 1
    funext x H1
    congr 1
    funext y H2
    refine propext ⟨fun ⟨v, w, e, h⟩ => ?_, fun h => ⟨x, y, rfl, h⟩⟩
    cases e
    exact h
  show t1 σ H fun x H1 => t2 σ H1 fun y H2 => ∃ v w, [x, y] = [v, w] ∧ D.nx ((σ.set i (some v)).set j (some w)) H2
  rw [this]
  exact h
theorem lst2_of {t1 t2 : TE} {σ : L2.St} {H : Hp} {Q : VK} (h : t1 σ H fun x H1 => t2 σ H1 fun y H2 => 2 ≤ sizeLine ∧ ∀ p, H2 p = none → Q (.ref p) (L2.upd H2 p (.lst [x, y]))) : tLst (tCons t1 (tCons t2 tNil)) σ H Q := h
theorem en_listOf {te : TE} {σ : L2.St} {H : Hp} {K : PySem.W.Frag} {a : Addr} {ds : List PyData} (h : Ev te σ H (.ref a)) (hl : LsD a ds H) : EvN (tCB (rListOf K) (tCons te tNil)) σ H ds := fun H1 e Q q =>
  h H1 e _ fun H2 e2 => by
    obtain ⟨xs, h1, h2⟩ := LsD.ex (e.trans e2) hl
    exact ⟨a, xs, rfl, .inl (SqL.of h1), fun l hl' => q l xs _ (fresh_back e2 hl') (e2.trans (Ex.new hl')) upd_same (h2.ex (Ex.new hl'))⟩
section
variable {P : Program} {w : World} {K : PySem.W.Frag} {mg : Str → Option Value} {base : Heap}
theorem sc_near : FnScope ["_law_pool", "_law_rows", "_law_kind", "_law_nodes", "_law_sides", "_law_at", "_law_side"] ["_law_pool", "_law_rows"] (defScope (top 38)) := ⟨rfl, rfl, rfl, by decide +kernel, rfl, by decide +kernel, by decide +kernel⟩
def spNear : Sp := fun vs H Q _ => ∃ (p t : Addr) (R : Rw Str Str), vs = [.ref p, .ref t] ∧ PoolAt p H ∧ RowsAt t R H ∧ Drawn 6 R ∧ ∀ t' R' H', H t' = none → ExB p H H' → PoolAt p H' → Drawn 7 R' → RowsAt t' R' H' → Q (.ref t') H'
theorem cal_near (T : Nm K mg) (F : Df K (dG 38 "_law_near_rows")) (cD : Cal P w K mg base 1 "_law_draw" ["_law_pool", "_law_many"] spDraw) (cS : Cal P w K mg base 3 "_law_shape_rows" ["_law_pool"] spShRows) : Cal P w K mg base 4 "_law_near_rows" ["_law_pool", "_law_rows"] spNear := by
  refine cal_of T F (by decide +kernel) sc_near (fun _ _ _ _ _ _ us hl => match us, hl with | [_, _], _ => rfl) (fun vs H Q E h => ?_) fun cdv A outer s H vs Q E hr h => ?_
  · obtain ⟨p, t, R, rfl, _⟩ := h
    rfl
  · obtain ⟨p, t, R, rfl, hp, hRt, hD, k⟩ := h
    have nd := sc_near.nd
    have hun := hr.units
    refine ⟨_, (pss_cons (ps_set (i := 2) nd rfl (Or.inl rfl) (pe_cal cD (hr.mono (by decide)) (by rfl) (pa_cons (pv 0) (pa_cons pe_int pa_nil)))) (pss_cons (ps_if (q_eq (pv 2) pe_int) (pss_one (ps_ret (pe_cal cS (hr.mono (by decide)) (by rfl) (pa_cons (pv 0) pa_nil)))) pss_nil) (pss_cons (ps_par (i := 3) (j := 4) rfl nd rfl rfl (by decide) rfl rfl (pa_cons (pe_callTy call_list_of (by rfl) (T.f "list") (by decide +kernel) (pa_cons (q_ixL (pv 1) pe_int) pa_nil)) (pa_cons (pe_lst (pa_cons (pe_callTy call_list_of (by rfl) (T.f "list") (by decide +kernel) (pa_cons (q_ixL (pv 1) pe_int) pa_nil)) (pa_cons (pe_callTy call_list_of (by rfl) (T.f "list") (by decide +kernel) (pa_cons (q_ixL (pv 1) pe_int) pa_nil)) pa_nil))) pa_nil)) (by rfl)) (pss_cons (ps_if (PW.pt (pw_and (q_eq (pv 2) pe_int) (pw_and1 (q_neD hun (pv 3) (pe_lst pa_nil)))))
        (pss_cons (ps_set (i := 5) nd rfl (Or.inl rfl) (pe_cal cD (hr.mono (by decide)) (by rfl) (pa_cons (pv 0) (pa_cons (q_len T (pa_cons (pv 3) pa_nil)) pa_nil)))) (pss_one (ps_asg (pe_ifExp (q_gt (pe_cal cD (hr.mono (by decide)) (by rfl) (pa_cons (pv 0) (pa_cons pe_int pa_nil))) pe_int) pe_non (pe_tup pa_nil)) (pg_sub (pv 3) (pv 5) set_list)))) pss_nil) (pss_cons (ps_if (PW.pt (pw_and (q_eq (pv 2) pe_int) (pw_and1 (q_neD hun (pv 3) (pe_lst pa_nil)))))
        (pss_cons (ps_set (i := 6) nd rfl (Or.inl rfl) (q_ixL (pv 4) (pe_cal cD (hr.mono (by decide)) (by rfl) (pa_cons (pv 0) (pa_cons pe_int pa_nil))))) (pss_one (ps_if (q_neD hun (pv 6) (pe_lst pa_nil))
            (pss_cons (ps_set (i := 5) nd rfl (Or.inl rfl) (pe_cal cD (hr.mono (by decide)) (by rfl) (pa_cons (pv 0) (pa_cons (q_len T (pa_cons (pv 6) pa_nil)) pa_nil)))) (pss_one (ps_asg (pe_tup (pa_cons (q_ixT (q_ixL (pv 6) (pv 5)) pe_int) (pa_cons (pe_cal cD (hr.mono (by decide)) (by rfl) (pa_cons (pv 0) (pa_cons (q_len T (pa_cons (pv 3) pa_nil)) pa_nil))) pa_nil))) (pg_sub (pv 6) (pv 5) set_list)))) pss_nil))) pss_nil) (pss_cons (ps_if (q_eq (pv 2) pe_int) (pss_one (ps_set (i := 3) nd rfl (Or.inl rfl) (pe_op op_cat (pv 3) (pe_lst (pa_cons pe_non pa_nil))))) pss_nil) (pss_one (ps_ret (pe_lst (pa_cons (pv 3) (pa_cons (q_ixL (pv 4) pe_int) (pa_cons (q_ixL (pv 4) pe_int) pa_nil)))))))))))), ?_⟩
    have pln_nd : ∀ {k : Nat} {R' : Rw Str Str}, Drawn k R' → ∀ x ∈ R'.nodes, Pln (pyN x) = true ∧ (pyN x).depth ≤ 62 := fun {k R'} dr x hx => by
      obtain ⟨i, hi⟩ := List.mem_iff_getElem?.mp hx
      have := pd_node (dr.good.ok.ns.2 i x hi)
      exact ⟨this.1.pl, by omega⟩
    have pln_row : ∀ {k : Nat} {R' : Rw Str Str}, Drawn k R' → ∀ b, ∀ r ∈ R'.side b, Pln (pyP r) = true ∧ (pyP r).depth ≤ 62 := fun {k R'} dr b r hr' => by
      have := (dr.good.ok.side b).each r hr'
      refine ⟨?_, ?_⟩
      · unfold pyP; rw [pln_tup]; unfold PlnL; rw [pln_str this.1]; rfl
      · unfold pyP; rw [depth_tup]; simp [PyData.depthAll, PyData.depth]
    refine draw_at (m := 4) rfl ev_c (by decide) (by decide) hp fun kind H1 hk eb1 hp1 => ?_
    have hR1 := hRt.exb hp eb1
    dsimp only
    refine s_if (et_test (ev_eqI (ev_var rfl) ev_c)) (fun _ H2 e2 => ?_) fun _ H2 e2 => ?_
    · refine ⟨_, rfl, p, rfl, hp1.ex e2, fun t' R' H3 ht' eb3 hp3 hD' hR' => k t' R' H3 ?_ ((eb1.trans (ExB.of e2)).trans eb3) hp3 (hD'.mono (by decide)) hR'⟩
      cases q : H t' with
      | none => rfl
      | some o =>
        by_cases z : t' = p
        · obtain ⟨ys, hy⟩ := (hp1.ex e2).lst
          rw [z, hy] at ht'; cases ht'
        · have := e2 _ _ (eb1 _ _ z q)
          rw [this] at ht'; cases ht'
    · have hp2 := hp1.ex e2
      have eb2 := eb1.trans (ExB.of e2)
      obtain ⟨a, b, c, ht2, hA2, hB2, hC2⟩ := hR1.ex e2
      have fr : ∀ {H3 : Hp} {x : Addr}, ExB p H H3 → PoolAt p H3 → H3 x = none → x ≠ p ∧ H x = none := fun {H3 x} e hp3 hx => by
        have n : x ≠ p := fun z => by obtain ⟨ys, hy⟩ := hp3.lst; rw [z, hy] at hx; cases hx
        refine ⟨n, ?_⟩
        cases q : H x with
        | none => rfl
        | some o => have := e _ _ n q; rw [this] at hx; cases hx
      rw [show ∀ D σ H, tNext D σ H = D.nx σ H from fun _ _ _ => rfl]
      dsimp only
      refine q_seq ?_
      have ix : ∀ {j : Nat} {u : Addr} {H3 : Hp}, Ex H2 H3 → ([V.ref a, V.ref b, V.ref c] : List V)[j]? = some (.ref u) → Ev (tOp (rIxL K) (tVar 1) (tC (.int (j : Nat)))) [some (.ref p), some (.ref t), some (.int (kind : Nat)), none, none, none, none] H3 (.ref u) := fun {j u H3} e hj => ev_op (ev_var rfl) ev_c (rv_ixL (SqL.of (e _ _ ht2)) (atI_nat hj))
      refine par_of ?_
      refine en_listOf (ix (j := 0) (Ex.refl _) rfl) hA2 H2 (Ex.refl _) _ fun n3 xa H4 hn3 x4 g4 t4 => ?_
      obtain ⟨nn3, fn3⟩ := fr eb2 hp2 hn3
      refine lst2_of ?_
      refine en_listOf (ix (j := 1) x4 rfl) (LsD.ex x4 hB2) H4 (Ex.refl _) _ fun s0 xb H6 hs0 y46 g6 t6 => ?_
      have x6 := x4.trans y46
      obtain ⟨nn0, f0⟩ := fr (eb2.trans (ExB.of x4)) (hp2.ex x4) hs0
      have a1 : n3 ≠ s0 := ne_of_none g4 hs0
      refine en_listOf (ix (j := 2) x6 rfl) (LsD.ex x6 hC2) H6 (Ex.refl _) _ fun s1 xc H8 hs1 y68 g8 t8 => ?_
      have x8 := x6.trans y68
      obtain ⟨nn1, f1⟩ := fr (eb2.trans (ExB.of x6)) (hp2.ex x6) hs1
      have a3 : s0 ≠ s1 := ne_of_none g6 hs1
      have a2 : n3 ≠ s1 := ne_of_none (y46 _ _ g4) hs1
      refine ⟨by decide, fun sd hsd => ?_⟩
      have x9 := Ex.new (o := .lst [.ref s0, .ref s1]) hsd
      obtain ⟨nsd, _⟩ := fr (eb2.trans (ExB.of x8)) (hp2.ex x8) hsd
      have d0 : NR p n3 sd s0 s1 H (L2.upd H8 sd (.lst [.ref s0, .ref s1])) R :=
        { e := (eb2.trans (ExB.of x8)).trans (ExB.of x9), pl := (hp2.ex x8).ex x9, l := LsD.ex ((y46.trans y68).trans x9) ⟨xa, g4, t4⟩, hsd := upd_same, o := LsD.ex (y68.trans x9) ⟨xb, g6, t6⟩, w := LsD.ex x9 ⟨xc, g8, t8⟩,
          nn := nn3, ns := nsd, n0 := nn0, n1 := nn1, a1 := a1, a2 := a2, a3 := a3, a4 := ne_of_none (y68 _ _ (y46 _ _ g4)) hsd, a5 := ne_of_none (y68 _ _ g6) hsd, a6 := ne_of_none g8 hsd, fn := fn3, f0 := f0, f1 := f1 }
      generalize L2.upd H8 sd (.lst [.ref s0, .ref s1]) = H9 at *
      dsimp only
      -- kind 1
      refine q_cut (fun σ' Hc => ∃ R' v5, NR p n3 sd s0 s1 H Hc R' ∧ Drawn 6 R' ∧ σ' = [some (.ref p), some (.ref t), some (.int (kind : Nat)), some (.ref n3), some (.ref sd), v5, none]) (fun nx kn => ?_) ?_
      · refine s_if (et_and (et_test (ev_eqI (ev_var rfl) ev_c)) fun _ => et_test (ev_neLst (ev_var rfl) d0.l (pln_nd hD))) (fun hb' Hd ed => ?_) fun _ Hd ed => kn _ _ ⟨R, none, d0.ex ed, hD, rfl⟩
        have hne : R.nodes ≠ [] := by
          intro z
          simp [z] at hb'
        have dd := d0.ex ed
        have hpos : 1 ≤ R.nodes.length := List.length_pos_iff.mpr hne
        have hl6 := hD.len
        refine q_seq ?_
        refine draw_at (m := R.nodes.length) rfl (ev_is (ev_lenL (K := K) (ev_var rfl) dd.l) (by rw [List.length_map])) hpos (by omega) dd.pl fun at_ He hat ebe hpe => ?_
        have de := dd.step ebe hpe
        dsimp only
        refine draw_at (m := 3) rfl ev_c (by decide) (by decide) de.pl fun r Hf _ ebf hpf => ?_
        have df := de.step ebf hpf
        refine ⟨(r : Nat), 0, rfl, rfl, _, rfl, ?_⟩
        obtain ⟨xs, hx, tx⟩ := id df.l
        have hxl : xs.length = R.nodes.length := by rw [tx.length, List.length_map]
        have hix : ixN xs.length ((at_ : Nat) : Int) = some at_ := by
          unfold ixN
          rw [if_pos (by omega), if_pos (by omega)]; rfl
        by_cases hr0 : 0 < r
        · dsimp only
          rw [if_pos (decide_eq_true (by omega))]
          refine ⟨_, rfl, _, rfl, n3, xs, _, at_, rfl, rfl, hx, hix, ?_⟩
          exact kn _ _ ⟨_, _, df.setN (nd := .opn) hx tx .non, hD.setN at_ (.inl rfl), rfl⟩
        · dsimp only
          rw [if_neg (by rw [decide_eq_false (by omega)]; decide)]
          refine ⟨by show 0 ≤ sizeLine; decide, fun q hq => ?_⟩
          have xq := Ex.new (o := .tup []) hq
          refine ⟨_, rfl, _, rfl, n3, xs, _, at_, rfl, rfl, xq _ _ hx, hix, ?_⟩
          exact kn _ _ ⟨_, _, (df.ex xq).setN (nd := .non) (xq _ _ hx) (tx.ex xq) (.tup upd_same .nil), hD.setN at_ (.inr rfl), rfl⟩
      · rintro σ' Hc ⟨R1, v5, d1, hD1, rfl⟩
        -- kind 2
        refine q_cut (fun σ' Hc => ∃ R' v5 v6, NR p n3 sd s0 s1 H Hc R' ∧ Drawn 6 R' ∧ σ' = [some (.ref p), some (.ref t), some (.int (kind : Nat)), some (.ref n3), some (.ref sd), v5, v6]) (fun nx kn => ?_) ?_
        · refine s_if (et_and (et_test (ev_eqI (ev_var rfl) ev_c)) fun _ => et_test (ev_neLst (ev_var rfl) d1.l (pln_nd hD1))) (fun hb' Hd ed => ?_) fun _ Hd ed => kn _ _ ⟨R1, _, _, d1.ex ed, hD1, rfl⟩
          have hne : R1.nodes ≠ [] := by
            intro z
            simp [z] at hb'
          have dd := d1.ex ed
          have hpos : 1 ≤ R1.nodes.length := List.length_pos_iff.mpr hne
          have hl6 := hD1.len
          refine q_seq ?_
          refine ⟨_, rfl, ?_⟩
          refine draw_at (m := 2) rfl ev_c (by decide) (by decide) dd.pl fun u He hu ebe hpe => ?_
          have de := dd.step ebe hpe
          obtain ⟨b', si, hsi, hsb⟩ : ∃ (b' : Bool) (si : Addr), ([V.ref s0, V.ref s1] : List V)[u]? = some (.ref si) ∧ si = (if b' then s1 else s0) := by
            match u, hu with
            | 0, _ => exact ⟨false, s0, rfl, rfl⟩
            | 1, _ => exact ⟨true, s1, rfl, rfl⟩
            | u + 2, h => omega
          refine ⟨sd, _, _, .ref si, rfl, rfl, SqL.of de.hsd, atI_nat hsi, ?_⟩
          have hL : LsD si ((R1.side b').map pyP) He := by
            subst hsb
            cases b' with
            | false => exact de.o
            | true => exact de.w
          dsimp only
          refine s_if (et_test (ev_neLst (ev_var rfl) hL (pln_row hD1 b'))) (fun hb2 Hf ef => ?_) fun _ Hf ef => kn _ _ ⟨R1, _, _, de.ex ef, hD1, rfl⟩
          have hne2 : R1.side b' ≠ [] := by
            intro z
            simp [z] at hb2
          have df := de.ex ef
          have hpl := hD1.good.ok.side b'
          have hL2 := LsD.ex ef hL
          refine q_seq ?_
          refine draw_at (m := (R1.side b').length) rfl (ev_is (ev_lenL (K := K) (ev_var rfl) hL2) (by rw [List.length_map])) (List.length_pos_iff.mpr hne2) hpl.len df.pl fun at_ Hg hat ebg hpg => ?_
          have dg := df.step ebg hpg
          have nsp : si ≠ p := by subst hsb; cases b' with
            | false => exact dg.n0
            | true => exact dg.n1
          have hL3 := hL2.exb nsp df.pl ebg
          obtain ⟨xs, hx, tx⟩ := id hL3
          have hxl : xs.length = (R1.side b').length := by rw [tx.length, List.length_map]
          have hix : ixN xs.length ((at_ : Nat) : Int) = some at_ := by
            unfold ixN
            rw [if_pos (by omega), if_pos (by omega)]; rfl
          obtain ⟨row, hrow⟩ : ∃ row, (R1.side b')[at_]? = some row := ⟨(R1.side b')[at_], List.getElem?_eq_getElem hat⟩
          dsimp only
          refine d_str (ed_ixT (d := .str row.1) (ed_ixL (ev_var rfl) hx tx (ev_var rfl) rfl (by rw [List.getElem?_map, hrow]; rfl)) ev_c (j := 0) rfl rfl) Hg (Ex.refl _) _ fun Hh eh => ?_
          have dh := dg.ex eh
          refine draw_at (m := R1.nodes.length) rfl (ev_is (ev_lenL (K := K) (ev_var rfl) dh.l) (by rw [List.length_map])) hpos (by omega) dh.pl fun m Hi hm ebi hpi => ?_
          have di := dh.step ebi hpi
          refine ⟨by show 2 ≤ sizeLine; decide, fun q hq => ?_⟩
          have xq := Ex.new (o := .tup [.str row.1, .int (m : Nat)]) hq
          have dj := di.ex xq
          have hxj : (L2.upd Hi q (.tup [.str row.1, .int (m : Nat)])) si = some (.lst xs) := xq _ _ (ebi _ _ nsp (eh _ _ hx))
          have txj := ((tx.ex eh).tx (ebi.tx dh.pl.lst)).ex xq
          have tq : Tp (L2.upd Hi q (.tup [.str row.1, .int (m : Nat)])) (.ref q) (pyP (row.1, m)) := .tup upd_same (.cons (.str _) (.cons (.int _) .nil))
          refine ⟨_, rfl, _, rfl, si, xs, _, at_, rfl, rfl, hxj, hix, ?_⟩
          subst hsb
          cases b' with
          | false =>
            have hrow : R1.olds[at_]? = some row := hrow
            refine kn _ _ ⟨_, _, _, dj.setO hxj txj tq, hD1.setS rfl (hD1.good.ok.olds.set hrow hm) hD1.good.ok.news fun s r hr' => ?_, rfl⟩
            cases s with
            | false => exact vn_set (fun r hr => hD1.good.vn false r hr) hrow r hr'
            | true => exact hD1.good.vn true r hr'
          | true =>
            have hrow : R1.news[at_]? = some row := hrow
            refine kn _ _ ⟨_, _, _, dj.setW hxj txj tq, hD1.setS rfl hD1.good.ok.olds (hD1.good.ok.news.set hrow hm) fun s r hr' => ?_, rfl⟩
            cases s with
            | false => exact hD1.good.vn false r hr'
            | true => exact vn_set (fun r hr => hD1.good.vn true r hr) hrow r hr'
        · rintro σ' Hd ⟨R2, v5, v6, d2, hD2, rfl⟩
          -- kind 3
          have last : ∀ (R3 : Rw Str Str) (nl : Addr) (He : Hp), ExB p H He → PoolAt p He → He sd = some (.lst [.ref s0, .ref s1]) → LsD nl (R3.nodes.map pyN) He → LsD s0 (R3.olds.map pyP) He → LsD s1 (R3.news.map pyP) He → Drawn 7 R3 → ∀ D : Ends, D.rt = Q →
              tRet (tLst (tCons (tVar 3) (tCons (tOp (rIxL K) (tVar 4) (tC (.int 0))) (tCons (tOp (rIxL K) (tVar 4) (tC (.int 1))) tNil)))) D [some (.ref p), some (.ref t), some (.int (kind : Nat)), some (.ref nl), some (.ref sd), v5, v6] He := fun R3 nl He eb hpe hsd hl ho hw hD3 D hQ => by
            refine s_retL (el_lst (ea_cons (ev_var rfl) (ea_cons (ev_op (ev_var rfl) ev_c (rv_ixL (SqL.of hsd) (atI_nat (j := 0) rfl))) (ea_cons (ev_op (ev_var rfl) ev_c (rv_ixL (SqL.of hsd) (atI_nat (j := 1) rfl))) ea_nil))) (by simp)) fun t' Hf ht' ef hf => ?_
            rw [hQ]
            exact k t' R3 Hf (fr eb hpe ht').2 (eb.trans (ExB.of ef)) (hpe.ex ef) hD3 ⟨nl, s0, s1, hf, LsD.ex ef hl, LsD.ex ef ho, LsD.ex ef hw⟩
          refine s_if (et_test (ev_eqI (ev_var rfl) ev_c)) (fun _ He ee => ?_) fun _ He ee => ?_
          · have de := d2.ex ee
            obtain ⟨xs, hx, tx⟩ := id de.l
            have hl6 := hD2.len
            refine ⟨_, rfl, ⟨by show 1 ≤ sizeLine; decide, fun q hq => ?_⟩⟩
            have xq := Ex.new (o := .lst [.non]) hq
            have hxl := tx.length
            rw [List.length_map] at hxl
            refine ⟨n3, q, xs, [.non], rfl, rfl, xq _ _ hx, upd_same, sz_of (by simp; omega), fun nl hnl => ?_⟩
            have xn := xq.trans (Ex.new (o := .lst (xs ++ [.non])) hnl)
            have dn := de.ex xn
            refine last { R2 with nodes := R2.nodes ++ [.opn] } nl _ dn.e dn.pl dn.hsd ⟨_, upd_same, ?_⟩ dn.o dn.w (hD2.add (by decide)) _ rfl
            show TpL _ _ ((R2.nodes ++ [Nd.opn]).map pyN)
            rw [List.map_append]
            exact (tx.snoc (.non : Tp _ .non .none)).ex xn
          · have de := d2.ex ee
            exact last R2 n3 _ de.e de.pl de.hsd de.l de.o de.w (hD2.mono (by decide)) _ rfl
end
end K49W

-- part K49Q
namespace K49W
open PySem PySem.Spec PyProof.Rows L2 Evl
open K49 (Nd Rw Tm RT val meet cmn cmns Le Eqv Va WfN tm terms ordT ndOf sideOf visits Closed RepM gM innM Can joined)
section
variable {L M : Type}
inductive Nt : Tm Str L → Prop
  | hole (l : L) : Nt (.hole l)
  | nil : Nt .nil
  | app {f : Str} {ts : List (Tm Str L)} : nmOk f = true → ts.length ≤ 3 → (∀ t ∈ ts, Nt t) → Nt (.app f ts)
theorem Nt.kids {t u : Tm Str L} (h : Nt t) (hu : u ∈ K49.kids t) : Nt u := by
  cases h with
  | hole l => simp [K49.kids] at hu
  | nil => simp [K49.kids] at hu
  | app a b c => exact c u hu
theorem nt_tm {ns : List (Nd Str)} (ok : NsOk ns) : ∀ (k i : Nat), i < k → Nt (tm ns i)
  | 0, i, h => absurd h (Nat.not_lt_zero i)
  | k + 1, i, h => by
    by_cases hi : i < ns.length
    · rw [K49.tm_eq ok.wf (getD_some (d := .non) hi)]
      have hat := ok.at hi
      cases q : ns.getD i .non with
      | opn => exact .hole i
      | non => exact .nil
      | op f xs =>
        rw [q] at hat
        refine .app hat.1 (by rw [List.length_map]; exact hat.2.1) fun t ht => ?_
        obtain ⟨x, hx, rfl⟩ := List.mem_map.mp ht
        have := hat.2.2 x hx
        exact nt_tm ok k x (by omega)
    · rw [K49.tm_out (by omega)]
      exact .nil
theorem nt_cmns {as : List (Tm Str L)} : ∀ {bs : List (Tm Str M)}, (∀ a ∈ as, ∀ b ∈ bs, Nt (cmn a b)) → ∀ t ∈ cmns as bs, Nt t := by
  induction as with
  | nil => intro bs _ t ht; simp [K49.cmns] at ht
  | cons a as ih =>
    intro bs h t ht
    cases bs with
    | nil => simp [K49.cmns] at ht
    | cons b bs =>
      rw [K49.cmns] at ht
      rcases List.mem_cons.mp ht with rfl | ht
      · exact h a List.mem_cons_self b List.mem_cons_self
      · exact ih (fun a' ha b' hb => h a' (List.mem_cons_of_mem _ ha) b' (List.mem_cons_of_mem _ hb)) t ht
theorem nt_cmn {a : Tm Str L} (ha : Nt a) : ∀ {b : Tm Str M}, Nt b → Nt (cmn a b) := by
  induction ha with
  | hole l => intro b _; cases b <;> simp [K49.cmn] <;> exact .hole _
  | nil => intro b _; cases b <;> simp [K49.cmn] <;> first | exact .nil | exact .hole _
  | @app f ts h1 h2 h3 ih =>
    intro b hb
    cases hb with
    | hole m => simp [K49.cmn]; exact .hole _
    | nil => simp [K49.cmn]; exact .hole _
    | @app g us k1 k2 k3 =>
      rw [K49.cmn]
      by_cases c : f = g ∧ ts.length = us.length
      · rw [if_pos c]
        refine .app h1 (by rw [K49.cmns_len _ _ c.2]; exact h2) (nt_cmns fun a ha b hb => ih a ha (k3 b hb))
      · rw [if_neg c]; exact .hole _
theorem nt_val {R : Rw Str Str} (ok : NsOk R.nodes) (b : Bool) (n : Str) : Nt (val R b n) := by
  unfold K49.val
  cases List.lookup n (R.side b) with
  | none => exact .nil
  | some i => exact nt_tm ok (i + 1) i (by omega)
theorem lkp_fm {α : Type} {f : Str → Option α} (n : Str) : ∀ {l : List Str}, l.Nodup → lkp (l.filterMap fun n => (f n).map fun i => (n, i)) n = if n ∈ l then f n else none
  | [], _ => rfl
  | m :: l, hd => by
    rw [List.nodup_cons] at hd
    have ih := lkp_fm (f := f) n hd.2
    rw [List.filterMap_cons]
    by_cases q : n = m
    · subst q
      rw [if_neg hd.1] at ih
      rw [if_pos List.mem_cons_self]
      cases h : f n with
      | none => simp only [Option.map_none]; exact ih
      | some i =>
        simp only [Option.map_some]
        unfold lkp
        rw [List.lookup_cons, beq_self_eq_true]
    · have hm : (n ∈ m :: l) ↔ n ∈ l := by simp [q]
      have : (if n ∈ m :: l then f n else none) = if n ∈ l then f n else none := by
        by_cases z : n ∈ l
        · rw [if_pos z, if_pos (hm.mpr z)]
        · rw [if_neg z, if_neg fun y => z (hm.mp y)]
      rw [this, ← ih]
      cases h : f m with
      | none => rfl
      | some i =>
        simp only [Option.map_some]
        unfold lkp
        rw [List.lookup_cons, beq_eq_false_iff_ne.mpr q]
theorem vn_nm : ∀ n ∈ VN, nmOk n = true := by decide +kernel
/-- the rows of a valuation are well made -/
theorem shok_RT {X : Va Str L Str} (hP : ∀ b n, n ∈ VN → Nt (X b n)) (hl : (ordT VN X).length < 1000) : ShOk (RT VN X) := by
  have hc := K49.ordT_closed VN X
  have hn := K49.ordT_nodup VN X
  have hall : ∀ t ∈ ordT VN X, Nt t := K49.visits_all (P := Nt) (fun t ht u hu => ht.kids hu) _ _ (fun t ht => by
    unfold K49.roots at ht
    have := (List.mem_filter.mp ht).1
    rcases List.mem_append.mp this with h | h
    · obtain ⟨n, hn, rfl⟩ := List.mem_map.mp h
      exact hP false n hn
    · obtain ⟨n, hn, rfl⟩ := List.mem_map.mp h
      exact hP true n hn) (fun x h => (nomatch h))
  have side : ∀ b, (RT VN X).side b = VN.filterMap fun n => (if X b n = .nil then none else some ((ordT VN X).idxOf (X b n))).map fun i => (n, i) := fun b => by
    have : (RT VN X).side b = sideOf (ordT VN X) VN (X b) := by cases b <;> rfl
    rw [this]
    unfold K49.sideOf
    refine fm_congr fun n _ => ?_
    split <;> rfl
  refine ⟨K49.RT_can VN X, ⟨by show ((ordT VN X).map _).length < 1000; rw [List.length_map]; exact hl, fun i nd hi => ?_⟩, fun b => ?_, fun b r hr => ?_, fun b => ?_⟩
  · have hi : ((ordT VN X).map (ndOf (ordT VN X)))[i]? = some nd := hi
    have hwf := K49.wf_ord hc hn
    cases nd with
    | opn => trivial
    | non => trivial
    | op f xs =>
      have hxs := hwf i f xs hi
      rw [List.getElem?_map] at hi
      cases q : (ordT VN X)[i]? with
      | none => rw [q] at hi; cases hi
      | some t =>
        rw [q] at hi
        have hi : ndOf (ordT VN X) t = .op f xs := by injection hi
        have ht := hall t (List.mem_of_getElem? q)
        cases ht with
        | hole l => cases hi
        | nil => cases hi
        | @app g ts h1 h2 h3 =>
          have e : Nd.op g (ts.map fun u => (ordT VN X).idxOf u) = Nd.op f xs := hi
          injection e with e1 e2
          subst e1 e2
          exact ⟨h1, by rw [List.length_map]; exact h2, hxs⟩
  · rw [side b]
    exact List.Nodup.sublist fm_keys vn_nodup
  · rw [side b] at hr
    exact fm_keys.subset (List.mem_map.mpr ⟨r, hr, rfl⟩)
  · have hs := side b
    conv => rhs; rw [hs]
    conv => lhs; rw [hs]
    refine fm_congr fun n hn => ?_
    rw [lkp_fm n vn_nodup, if_pos hn]
end
/-- rows that a shape may be made of, from a shape's own -/
theorem good_of {S : Rw Str Str} (h : ShOk S) : Good S := by
  have pl : ∀ b, PlOk S.nodes.length (S.side b) := fun b => by
    refine ⟨?_, h.nd b, fun r hr => ⟨vn_nm _ (h.vn b r hr), ?_⟩⟩
    · have := K49.nodup_len (r := VN) (h.nd b) fun a ha => by
        obtain ⟨r, hr, rfl⟩ := List.mem_map.mp ha
        exact h.vn b r hr
      rw [List.length_map] at this
      have e : VN.length = 3 := rfl
      omega
    · exact (h.can.side b r.1 r.2 (lkp_of (h.nd b) (show (r.1, r.2) ∈ S.side b from hr))).1
  exact ⟨⟨h.ns, pl false, pl true⟩, h.vn⟩
theorem len_val {R : Rw Str Str} (ok : RwOk R) : (ordT VN (val R)).length ≤ R.nodes.length := by
  rw [← K49.terms_len R.nodes]
  refine K49.nodup_len (K49.ordT_nodup _ _) (K49.visits_all (P := fun t => t ∈ terms R.nodes) (fun t ht u hu => ?_) _ _ (fun t ht => ?_) (fun x h => (nomatch h)))
  · obtain ⟨i, hi⟩ := List.mem_iff_getElem?.mp ht
    have hil := (List.getElem?_eq_some_iff.mp hi).1
    rw [K49.terms_len] at hil
    have e := K49.tm_at hil
    rw [hi] at e
    have e : t = tm R.nodes i := by injection e
    subst e
    rw [K49.tm_eq ok.ns.wf (getD_some (d := .non) hil)] at hu
    cases q : R.nodes.getD i .non with
    | opn => rw [q] at hu; simp [K49.kids] at hu
    | non => rw [q] at hu; simp [K49.kids] at hu
    | op f xs =>
      rw [q] at hu
      obtain ⟨x, hx, rfl⟩ := List.mem_map.mp (show u ∈ xs.map (tm R.nodes) from hu)
      exact K49.tm_mem (K49.wf_lt ok.ns.wf hil q x hx)
  · unfold K49.roots at ht
    obtain ⟨h1, h2⟩ := List.mem_filter.mp ht
    have hne : t ≠ .nil := by simpa using h2
    have one : ∀ b n, val R b n = t → t ∈ terms R.nodes := fun b n e => by
      unfold K49.val at e
      cases q : List.lookup n (R.side b) with
      | none => rw [q] at e; exact absurd e.symm hne
      | some i =>
        rw [q] at e
        have e : tm R.nodes i = t := e
        rw [← e]
        exact K49.tm_mem (ok.wf.side b n i q)
    rcases List.mem_append.mp h1 with h | h
    · obtain ⟨n, _, e⟩ := List.mem_map.mp h
      exact one false n e
    · obtain ⟨n, _, e⟩ := List.mem_map.mp h
      exact one true n e
theorem len_meet {S1 S2 : Rw Str Str} (o1 : ShOk S1) (o2 : ShOk S2) : (ordT VN (meet (val S1) (val S2))).length ≤ (S1.nodes.length + 1) * (S2.nodes.length + 1) := by
  have rp := K49.repM o1.can.wf o2.can.wf o1.can.inj o2.can.inj
  have : ((prodL S1.nodes.length S2.nodes.length).map (gM S1.nodes S2.nodes)).length = (S1.nodes.length + 1) * (S2.nodes.length + 1) := by rw [List.length_map, prodL_len]
  rw [← this]
  have key : ∀ t ∈ ordT VN (meet (val S1) (val S2)), ∃ p, RepM S1.nodes S2.nodes p ∧ t = gM S1.nodes S2.nodes p := K49.visits_all (P := fun t => ∃ p, RepM S1.nodes S2.nodes p ∧ t = gM S1.nodes S2.nodes p) (fun t ht u hu => by
    obtain ⟨p, hp, rfl⟩ := ht
    rw [rp.kid p hp] at hu
    obtain ⟨q, hq, rfl⟩ := List.mem_map.mp hu
    exact ⟨q, rp.down p hp q hq, rfl⟩) _ _ (fun t ht => by
    rw [← K49.joined_roots o1.can o2.can VN, List.map_map] at ht
    obtain ⟨r, hr, rfl⟩ := List.mem_map.mp ht
    rcases List.mem_append.mp hr with h | h
    · exact ⟨r.2, K49.joined_rep (b := false) o1.can o2.can r h, rfl⟩
    · exact ⟨r.2, K49.joined_rep (b := true) o1.can o2.can r h, rfl⟩) (fun x h => (nomatch h))
  refine K49.nodup_len (K49.ordT_nodup _ _) fun t ht => ?_
  obtain ⟨p, hp, rfl⟩ := key t ht
  exact List.mem_map.mpr ⟨p, prodL_mem hp, rfl⟩
/-! ### shapes of the law -/
structure Cn (m : Nat) (S : Rw Str Str) : Prop where
  ok : ShOk S
  eq : RT VN (val S) = S
  len : S.nodes.length ≤ m
theorem RT_len {L : Type} (X : Va Str L Str) : (RT VN X).nodes.length = (ordT VN X).length := by show ((ordT VN X).map _).length = _; rw [List.length_map]
theorem cn_made {R : Rw Str Str} (g : Good R) {m : Nat} (h : R.nodes.length ≤ m) (hm : m < 1000) : Cn m (RT VN (val R)) := by
  have hl := len_val g.ok
  exact ⟨shok_RT (fun b n _ => nt_val g.ok.ns b n) (by omega), K49.RT_val_RT vn_nodup _, by rw [RT_len]; omega⟩
theorem cn_meet {S1 S2 : Rw Str Str} {m1 m2 : Nat} (c1 : Cn m1 S1) (c2 : Cn m2 S2) (h : (m1 + 1) * (m2 + 1) ≤ 900) : Cn ((m1 + 1) * (m2 + 1)) (RT VN (meet (val S1) (val S2))) := by
  have hl := len_meet c1.ok c2.ok
  have h2 : (S1.nodes.length + 1) * (S2.nodes.length + 1) ≤ (m1 + 1) * (m2 + 1) := Nat.mul_le_mul (by have := c1.len; omega) (by have := c2.len; omega)
  exact ⟨shok_RT (fun b n _ => nt_cmn (nt_val c1.ok.ns b n) (nt_val c2.ok.ns b n)) (by omega), K49.RT_val_RT vn_nodup _, by rw [RT_len]; omega⟩
noncomputable abbrev met (S1 S2 : Rw Str Str) : Rw Str Str := RT VN (meet (val S1) (val S2))
theorem v_met (S1 S2 : Rw Str Str) : Eqv VN (val (met S1 S2)) (meet (val S1) (val S2)) := K49.val_RT vn_nodup _
theorem met_comm (S1 S2 : Rw Str Str) : met S1 S2 = met S2 S1 := K49.RT_congr K49.meet_comm'
theorem met_idem {m : Nat} {S : Rw Str Str} (c : Cn m S) : met S S = S := by
  have : met S S = RT VN (val S) := K49.RT_congr K49.meet_idem
  rw [this, c.eq]
theorem met_assoc (S1 S2 S3 : Rw Str Str) : met (met S1 S2) S3 = met S1 (met S2 S3) :=
  K49.RT_congr ((K49.meet_eqv (v_met S1 S2) (.rfl' _)).trans (K49.meet_assoc.trans (K49.meet_eqv (.rfl' _) (v_met S2 S3).symm)))
theorem met_le1 (S1 S2 : Rw Str Str) : Le VN (val (met S1 S2)) (val S1) := (v_met S1 S2).1.trans K49.meet_left
theorem met_le2 (S1 S2 : Rw Str Str) : Le VN (val (met S1 S2)) (val S2) := (v_met S1 S2).1.trans K49.meet_right
theorem le_met {S1 S2 S3 : Rw Str Str} (h : Le VN (val S3) (val S1)) (k : Le VN (val S3) (val S2)) : Le VN (val S3) (val (met S1 S2)) := (K49.le_meet h k).trans (v_met S1 S2).2
theorem met_iff {m : Nat} {S1 S2 : Rw Str Str} (c : Cn m S1) : met S1 S2 = S1 ↔ Le VN (val S1) (val S2) := by
  constructor
  · intro h
    have := met_le2 S1 S2
    rw [h] at this
    exact this
  · intro h
    have : met S1 S2 = RT VN (val S1) := K49.RT_congr (K49.meet_of_le h)
    rw [this, c.eq]
theorem met_raw (R1 R2 : Rw Str Str) : met (RT VN (val R1)) (RT VN (val R2)) = RT VN (meet (val R1) (val R2)) := K49.RT_congr (K49.meet_eqv (K49.val_RT vn_nodup _) (K49.val_RT vn_nodup _))
/-! ### the law's own meeting -/
theorem va_sT {R : Rw Str Str} (g : Good R) (b : Bool) (n : Str) : vaOf (sT R) b n = val R b n := by
  have hnd : (((R.side b).map fun r => (r.1, tm R.nodes r.2)).map (·.1)).Nodup := by rw [List.map_map]; exact (g.ok.side b).nd
  unfold vaOf sT
  rw [lkp_filter (fun t => !decide (t = Tm.nil)) n hnd, lkp_map]
  unfold K49.val
  show _ = match lkp (R.side b) n with | some i => tm R.nodes i | none => Tm.nil
  cases lkp (R.side b) n with
  | none => rfl
  | some i =>
    by_cases q : tm R.nodes i = .nil
    · simp [Option.filter, q]
    · simp [Option.filter, q]
theorem va_cS (s1 s2 : Bool → List (Str × Tm Str Nat)) (b : Bool) {n : Str} (hn : n ∈ VN) : vaOf (cS s1 s2) b n = cmn (vaOf s1 b n) (vaOf s2 b n) := by
  have hN : n ∈ NMS := (by decide +kernel : ∀ n ∈ VN, n ∈ NMS) n hn
  have e : cS s1 s2 b = NMS.filterMap fun n => (if cmn (vaOf s1 b n) (vaOf s2 b n) = .nil then none else some (cmn (vaOf s1 b n) (vaOf s2 b n))).map fun t => (n, t) := by
    unfold cS
    refine fm_congr fun n _ => ?_
    unfold cN
    split <;> rfl
  show (lkp (cS s1 s2 b) n).getD .nil = _
  rw [e, lkp_fm n (by decide +kernel), if_pos hN]
  by_cases q : cmn (vaOf s1 b n) (vaOf s2 b n) = .nil
  · rw [if_pos q, q]; rfl
  · rw [if_neg q]; rfl
theorem due_eq {R1 R2 : Rw Str Str} (g1 : Good R1) (g2 : Good R2) : RT VN (vaOf (cS (sT R1) (sT R2))) = met (RT VN (val R1)) (RT VN (val R2)) := by
  rw [met_raw]
  have e : ∀ b n, n ∈ VN → vaOf (cS (sT R1) (sT R2)) b n = meet (val R1) (val R2) b n := fun b n hn => by
    rw [va_cS _ _ b hn, va_sT g1, va_sT g2]; rfl
  exact K49.RT_congr ⟨⟨fun l => .hole l, fun b n hn => by rw [Tm.subst_id, e b n hn]⟩, ⟨fun l => .hole l, fun b n hn => by rw [Tm.subst_id, e b n hn]⟩⟩
theorem wt_val {k : Nat} (hk : k ≤ 7) {R : Rw Str Str} (d : Drawn k R) (b : Bool) (n : Str) : Wt W1 7 (val R b n) := by
  unfold K49.val
  show Wt W1 7 (match lkp (R.side b) n with | some i => tm R.nodes i | none => Tm.nil)
  cases q : lkp (R.side b) n with
  | none => simp [Wt]
  | some i =>
    have := ((d.good.ok.side b).each _ (lkp_mem q)).2
    exact wt_tm d.good.ok.ns d.ops (by have := d.len; simp at this ⊢; omega)
theorem sdt_cS {k : Nat} (hk : k ≤ 7) {R1 R2 : Rw Str Str} (d1 : Drawn k R1) (d2 : Drawn k R2) (b : Bool) : SdT (cS (sT R1) (sT R2) b) := by
  have hm : ∀ r ∈ cS (sT R1) (sT R2) b, r.2 = cmn (vaOf (sT R1) b r.1) (vaOf (sT R2) b r.1) ∧ r.2 ≠ .nil := fun r hr => by
    unfold cS at hr
    obtain ⟨n, _, e⟩ := List.mem_filterMap.mp hr
    unfold cN at e
    split at e
    · cases e
    · next h => cases e; exact ⟨rfl, h⟩
  refine ⟨List.Nodup.sublist cN_keys (by decide +kernel), fun r hr => ?_, fun r hr => (hm r hr).2, fun r hr => ?_⟩
  · have : r.1 ∈ NMS := cN_keys.subset (List.mem_map.mpr ⟨r, hr, rfl⟩)
    exact (by decide +kernel : ∀ n ∈ NMS, n ∈ VN) _ this
  · rw [(hm r hr).1, va_sT d1.good, va_sT d2.good]
    exact (wt_cmn (by decide) (wt_val hk d1 b r.1) (wt_val hk d2 b r.1)).mono (by decide)
end K49W

-- part K49L11
namespace K49W
open PySem PySem.Spec PyProof.Rows L2 Evl
open K49 (Nd Rw Tm RT val meet Le)
noncomputable instance leDec (S1 S2 : Rw Str Str) : Decidable (Le VN (val S1) (val S2)) := Classical.propDecidable _
noncomputable instance rwDec : DecidableEq (Rw Str Str) := fun a b => Classical.propDecidable _
/-- an expression that comes to a shape -/
def EvS (K : PySem.W.Frag) (te : TE) (σ : L2.St) (H : Hp) (S : Rw Str Str) : Prop := EvP te σ H fun v H' => ∃ z, v = .ref z ∧ ShI K z S H'
section
variable {K : PySem.W.Frag} {te tf : TE} {σ : L2.St} {H H' : Hp} {S S1 S2 : Rw Str Str} {m m1 m2 : Nat}
theorem EvS.mono (e : Ex H H') (h : EvS K te σ H S) : EvS K te σ H' S := EvP.mono e h
theorem evs_var {i : Nat} {x : Addr} (h : σ[i]? = some (some (.ref x))) (hx : ShI K x S H) : EvS K (tVar i) σ H S := fun H1 e Q q => ⟨_, h, q _ H1 (Ex.refl _) ⟨x, rfl, hx.ex e⟩⟩
theorem evs_two {r : R2} {P : V → Hp → Prop} (h : EvS K te σ H S1) (k : EvS K tf σ H S2) (f : ∀ (x y : Addr) (H1 : Hp), Ex H H1 → ShI K x S1 H1 → ShI K y S2 H1 → ∀ Q : VK, (∀ v H2, Ex H1 H2 → P v H2 → Q v H2) → r (.ref x) (.ref y) H1 Q) : EvP (tOp r te tf) σ H P := fun H1 e Q q =>
  h H1 e _ fun v H2 e2 ⟨x, ev, hx⟩ => k H2 (e.trans e2) _ fun u H3 e3 ⟨y, eu, hy⟩ => by
    subst ev eu
    exact f x y H3 (e.trans (e2.trans e3)) (hx.ex e3) hy Q fun v H4 e4 p => q v H4 ((e2.trans e3).trans e4) p
theorem evs_and (h : EvS K te σ H S1) (k : EvS K tf σ H S2) (c1 : Cn m1 S1) (c2 : Cn m2 S2) (hb : (m1 + 1) * (m2 + 1) ≤ 900) : EvS K (tOp (rBin K (spAnd K)) te tf) σ H (met S1 S2) :=
  evs_two h k fun x y H1 e hx hy Q q => by
    obtain ⟨dx, p, d, f, h1, _⟩ := id hx
    obtain ⟨dy, p', d', f', h2, _⟩ := id hy
    have hlt : (S1.nodes.length + 1) * (S2.nodes.length + 1) ≤ (m1 + 1) * (m2 + 1) := Nat.mul_le_mul (by have := c1.len; omega) (by have := c2.len; omega)
    refine ⟨x, y, dx, dy, _, _, rfl, rfl, h1, h2, x, y, S1, S2, ⟨rfl, hx, hy, c1.ok, c2.ok⟩, by omega, good_of (cn_meet c1 c2 hb).ok, fun z H2 e2 hz => q _ H2 e2 ⟨z, rfl, ?_⟩⟩
    rw [K49.RT_val_RT vn_nodup] at hz
    exact hz
theorem evs_ne (h : EvS K te σ H S1) (k : EvS K tf σ H S2) (c1 : Cn m1 S1) (c2 : Cn m2 S2) : Ev (tOp (rNeq K (spEq K)) te tf) σ H (.bl (!decide (S1 = S2))) := p_ev (evs_two h k fun x y H1 e hx hy Q q => by
    obtain ⟨dx, p, d, f, h1, _⟩ := id hx
    obtain ⟨dy, p', d', f', h2, _⟩ := id hy
    refine ⟨x, y, dx, dy, _, _, rfl, rfl, h1, h2, x, y, S1, S2, ⟨rfl, hx, hy, c1.ok, c2.ok⟩, fun b H2 e2 hbq => ⟨b, rfl, q _ H2 e2 ?_⟩⟩
    have : b = decide (S1 = S2) := by
      by_cases z : S1 = S2
      · rw [decide_eq_true z]; exact hbq.mpr z
      · rw [decide_eq_false z]
        cases b with
        | false => rfl
        | true => exact absurd (hbq.mp rfl) z
    rw [this])
theorem evs_eq (h : EvS K te σ H S1) (k : EvS K tf σ H S2) (c1 : Cn m1 S1) (c2 : Cn m2 S2) : Ev (tOp (rBin K (spEq K)) te tf) σ H (.bl (decide (S1 = S2))) := p_ev (evs_two h k fun x y H1 e hx hy Q q => by
    obtain ⟨dx, p, d, f, h1, _⟩ := id hx
    obtain ⟨dy, p', d', f', h2, _⟩ := id hy
    refine ⟨x, y, dx, dy, _, _, rfl, rfl, h1, h2, x, y, S1, S2, ⟨rfl, hx, hy, c1.ok, c2.ok⟩, fun b H2 e2 hbq => q _ H2 e2 ?_⟩
    have : b = decide (S1 = S2) := by
      by_cases z : S1 = S2
      · rw [decide_eq_true z]; exact hbq.mpr z
      · rw [decide_eq_false z]
        cases b with
        | false => rfl
        | true => exact absurd (hbq.mp rfl) z
    rw [this])
theorem evs_le (h : EvS K te σ H S1) (k : EvS K tf σ H S2) (c1 : Cn m1 S1) (c2 : Cn m2 S2) : Ev (tOp (rBin K (spLe K)) te tf) σ H (.bl (decide (Le VN (val S1) (val S2)))) := p_ev (evs_two h k fun x y H1 e hx hy Q q => by
    obtain ⟨dx, p, d, f, h1, _⟩ := id hx
    obtain ⟨dy, p', d', f', h2, _⟩ := id hy
    refine ⟨x, y, dx, dy, _, _, rfl, rfl, h1, h2, x, y, S1, S2, ⟨rfl, hx, hy, c1.ok, c2.ok⟩, fun b H2 e2 hbq => q _ H2 e2 ?_⟩
    have : b = decide (Le VN (val S1) (val S2)) := by
      by_cases z : Le VN (val S1) (val S2)
      · rw [decide_eq_true z]; exact hbq.mpr z
      · rw [decide_eq_false z]
        cases b with
        | false => rfl
        | true => exact absurd (hbq.mp rfl) z
    rw [this])
theorem evs_ge (h : EvS K te σ H S1) (k : EvS K tf σ H S2) (c1 : Cn m1 S1) (c2 : Cn m2 S2) : Ev (tOp (rBin K (spGe K)) te tf) σ H (.bl (decide (Le VN (val S2) (val S1)))) := p_ev (evs_two h k fun x y H1 e hx hy Q q => by
    obtain ⟨dx, p, d, f, h1, _⟩ := id hx
    obtain ⟨dy, p', d', f', h2, _⟩ := id hy
    refine ⟨x, y, dx, dy, _, _, rfl, rfl, h1, h2, x, y, S1, S2, ⟨rfl, hx, hy, c1.ok, c2.ok⟩, fun b H2 e2 hbq => q _ H2 e2 ?_⟩
    have : b = decide (Le VN (val S2) (val S1)) := by
      by_cases z : Le VN (val S2) (val S1)
      · rw [decide_eq_true z]; exact hbq.mpr z
      · rw [decide_eq_false z]
        cases b with
        | false => rfl
        | true => exact absurd (hbq.mp rfl) z
    rw [this])
theorem ed_rows (h : EvS K te σ H S) : EvD (tMeth (Ca K) "as_rows" (spRows K) [] E0 te tNil) σ H (rwD S) := fun H1 e Q q =>
  h H1 e _ fun v H2 e2 ⟨x, ev, hx⟩ => by
    subst ev
    obtain ⟨dx, p, d, f, h1, _⟩ := id hx
    exact ⟨x, dx, _, rfl, h1, rfl, x, S, rfl, hx, fun v H3 e3 t => q v H3 (e2.trans e3) t⟩
theorem pd_rw (ok : ShOk S) : Pd (rwD S) := by
  have hn := pd_nodes ok.ns
  have g := good_of ok
  have hp : ∀ b, Pln (.tuple ((S.side b).map pyP)) = true ∧ (PyData.tuple ((S.side b).map pyP)).depth ≤ 3 := fun b => by
    have each : ∀ r ∈ S.side b, Pln (pyP r) = true ∧ (pyP r).depth ≤ 2 := fun r hr => by
      have := (g.ok.side b).each r hr
      refine ⟨?_, ?_⟩
      · unfold pyP; rw [pln_tup]; unfold PlnL; rw [pln_str this.1]; rfl
      · unfold pyP; rw [depth_tup]; simp [PyData.depthAll, PyData.depth]
    refine ⟨by rw [pln_tup]; exact plnL_map fun r hr => (each r hr).1, ?_⟩
    rw [depth_tup]
    have := depthAll_le (n := 2) (l := (S.side b).map pyP) fun a ha => by
      obtain ⟨r, hr, rfl⟩ := List.mem_map.mp ha
      exact (each r hr).2
    omega
  have hnd : (PyData.tuple (S.nodes.map pyN)).depth ≤ 3 := by
    rw [depth_tup]
    have := depthAll_le (n := 2) (l := S.nodes.map pyN) fun a ha => by
      obtain ⟨nd, hm, rfl⟩ := List.mem_map.mp ha
      obtain ⟨i, hi⟩ := List.mem_iff_getElem?.mp hm
      exact (pd_node (ok.ns.2 i nd hi)).2
    omega
  have h0 := hp false
  have h1 := hp true
  have e0 : S.side false = S.olds := rfl
  have e1 : S.side true = S.news := rfl
  rw [e0] at h0
  rw [e1] at h1
  refine ⟨?_, ?_⟩
  · unfold rwD; rw [pln_tup]; unfold PlnL; rw [hn.pl]; unfold PlnL; rw [h0.1]; unfold PlnL; rw [h1.1]; rfl
  · unfold rwD; rw [depth_tup]; simp only [PyData.depthAll]; omega
end
/-! ### the fixed shapes -/
def FR1 : Rw Str Str := ⟨[.opn, .op "f" [0]], [("a", 0), ("b", 1)], []⟩
def FR2 : Rw Str Str := ⟨[.non, .op "f" [0]], [("a", 0), ("b", 1)], []⟩
theorem fr_pl : PlOk 2 [("a", 0), ("b", 1)] := by
  refine ⟨by decide, by decide +kernel, fun r hr => ?_⟩
  have : r = (("a" : Str), 0) ∨ r = (("b" : Str), 1) := by simpa using hr
  rcases this with rfl | rfl
  · exact ⟨by decide +kernel, by decide⟩
  · exact ⟨by decide +kernel, by decide⟩
theorem fr_vn : ∀ r ∈ ([("a", 0), ("b", 1)] : List (Str × Nat)), r.1 ∈ VN := fun r hr => by
  have : r = (("a" : Str), 0) ∨ r = (("b" : Str), 1) := by simpa using hr
  rcases this with rfl | rfl
  · decide +kernel
  · decide +kernel
theorem fr_ns {x : Nd Str} (h : x = .opn ∨ x = .non) : NsOk [x, .op "f" [0]] := by
  refine ⟨by simp, fun i nd hi => ?_⟩
  match i, hi with
  | 0, hi =>
    have : x = nd := by simpa using hi
    subst this
    rcases h with rfl | rfl <;> trivial
  | 1, hi =>
    have : Nd.op ("f" : Str) [0] = nd := by simpa using hi
    subst this
    exact ⟨by decide +kernel, by decide, fun z hz => by simp at hz; omega⟩
  | i + 2, hi => simp at hi
theorem fr_good {x : Nd Str} (h : x = .opn ∨ x = .non) : Good ⟨[x, .op "f" [0]], [("a", 0), ("b", 1)], []⟩ := by
  refine ⟨⟨fr_ns h, fr_pl, ⟨by simp, by simp, fun r hr => by simp at hr⟩⟩, fun s r hr => ?_⟩
  cases s with
  | false => exact fr_vn r hr
  | true => cases hr
theorem fr_le : Le VN (val FR1) (val FR2) := by
  have w1 : K49.WfN FR1.nodes := (fr_ns (x := .opn) (.inl rfl)).wf
  have w2 : K49.WfN FR2.nodes := (fr_ns (x := .non) (.inr rfl)).wf
  have a0 : K49.tm FR1.nodes 0 = .hole 0 := K49.tm_eq w1 (i := 0) (nd := .opn) rfl
  have b0 : K49.tm FR2.nodes 0 = .nil := K49.tm_eq w2 (i := 0) (nd := .non) rfl
  have a1 : K49.tm FR1.nodes 1 = .app "f" [.hole 0] := by
    have := K49.tm_eq w1 (i := 1) (nd := .op "f" [0]) rfl
    rw [this]; simp [a0]
  have b1 : K49.tm FR2.nodes 1 = .app "f" [.nil] := by
    have := K49.tm_eq w2 (i := 1) (nd := .op "f" [0]) rfl
    rw [this]; simp [b0]
  refine ⟨fun _ => .nil, fun b n hn => ?_⟩
  have e1 : val FR1 b n = match lkp (FR1.side b) n with | some i => K49.tm FR1.nodes i | none => .nil := rfl
  have e2 : val FR2 b n = match lkp (FR2.side b) n with | some i => K49.tm FR2.nodes i | none => .nil := rfl
  have es : FR2.side b = FR1.side b := by cases b <;> rfl
  rw [e1, e2, es]
  cases q : lkp (FR1.side b) n with
  | none => simp
  | some i =>
    have hm := lkp_mem q
    cases b with
    | true => cases hm
    | false =>
      have : (n, i) = (("a" : Str), 0) ∨ (n, i) = (("b" : Str), 1) := by simpa [FR1, K49.Rw.side] using hm
      rcases this with z | z
      · have hi : i = 0 := by injection z
        subst hi
        show (K49.tm FR1.nodes 0).subst _ = K49.tm FR2.nodes 0
        rw [a0, b0]; simp
      · have hi : i = 1 := by injection z
        subst hi
        show (K49.tm FR1.nodes 1).subst _ = K49.tm FR2.nodes 1
        rw [a1, b1]; simp
theorem fr_le' : Le VN (val (RT VN (val FR1))) (val (RT VN (val FR2))) := (K49.val_RT vn_nodup _).1.trans (fr_le.trans (K49.val_RT vn_nodup _).2)
end K49W

-- part K49L12
set_option maxHeartbeats 0
namespace K49W
open PySem PySem.Spec PyProof.Rows L2 Evl
open K49 (Nd Rw Tm RT val meet Le)
theorem par3_of {i j l : Nat} {t1 t2 t3 : TE} {D : Ends} {σ : L2.St} {H : Hp} (h : t1 σ H fun x H1 => t2 σ H1 fun y H2 => t3 σ H2 fun z H3 => ∃ u v w, [x, y, z] = [u, v, w] ∧ D.nx (((σ.set i (some u)).set j (some v)).set l (some w)) H3) : tPar3 i j l (tCons t1 (tCons t2 (tCons t3 tNil))) D σ H := h
theorem ev_neB {ta tb : TE} {σ : L2.St} {H : Hp} {a b : Bool} (h : Ev ta σ H (.bl a)) (h' : Ev tb σ H (.bl b)) : Ev (tOp rNe ta tb) σ H (.bl (!decide (a = b))) := ev_is (ev_op h h' (rv_ne rfl)) (by cases a <;> cases b <;> simp)
theorem ex_of_exb {p : Addr} {H H1 H2 : Hp} (hp : H p = none) (e : Ex H H1) (eb : ExB p H1 H2) : Ex H H2 := fun a o h => eb a o (fun z => by rw [z, hp] at h; cases h) (e a o h)
theorem fr_list {x : Nd Str} {te : TE} {σ : L2.St} {H : Hp} (h : EvD te σ H (pyN x)) : EvN (tLst (tCons te (tCons (tTup (tCons (tC (.str "f")) (tCons (tTup (tCons (tC (.int 0)) tNil)) tNil))) tNil))) σ H (([x, .op "f" [0]] : List (Nd Str)).map pyN) :=
  en_lst (ead_cons h (ead_cons (ed_tup (ead_cons ed_str (ead_cons (ed_tup (ead_cons ed_int ead_nil) (by simp)) ead_nil)) (by simp)) ead_nil)) (by simp)
theorem fr_mk {K : PySem.W.Frag} {x : Nd Str} {te : TE} {σ : L2.St} {H : Hp} {ps : Addr} (hx : x = .opn ∨ x = .non) (h : EvD te σ H (pyN x)) (h1 : σ[1]? = some (some (.ref ps))) (hl : LsD ps (([("a", 0), ("b", 1)] : List (Str × Nat)).map pyP) H) :
    EvS K (tMk K (tCons (tLst (tCons te (tCons (tTup (tCons (tC (.str "f")) (tCons (tTup (tCons (tC (.int 0)) tNil)) tNil))) tNil))) (tCons (tVar 1) (tCons (tLst tNil) tNil)))) σ H (RT VN (val ⟨[x, .op "f" [0]], [("a", 0), ("b", 1)], []⟩)) :=
  ep_mk (a := ps) (b := ps) (c := ps) (fun H1 e Q q => fr_list h H1 e _ fun pa xs H2 _ e2 h2 t2 => ⟨_, h1, (en_lst ead_nil (by simp) : EvN (tLst tNil) σ H []) H2 (e.trans e2) _ fun pc zs H3 _ e3 h3 t3 => q _ H3 (e2.trans e3) ⟨pa, ps, pc, rfl, ⟨xs, e3 _ _ h2, t2.ex e3⟩, LsD.ex (e.trans (e2.trans e3)) hl, ⟨zs, h3, t3⟩⟩⟩) (fr_good hx)
def rMax2 : List V → Hp → VK → Prop := fun xs H Q => ∃ i j, xs = [V.int i, V.int j] ∧ Q (.int (if j > i then j else i)) H
def rMin2 : List V → Hp → VK → Prop := fun xs H Q => ∃ i j, xs = [V.int i, V.int j] ∧ Q (.int (if j < i then j else i)) H
theorem ep_min {K : PySem.W.Frag} {te : TE} {σ : L2.St} {H : Hp} {a : Addr} {ns : List V} (h : Ev te σ H (.ref a)) (hs : SqL K H a ns) : EvP (tCB rMin2 (tCons (tCB (rLenS K) (tCons te tNil)) (tCons (tC (.int 5)) tNil))) σ H fun v _ => ∃ m : Int, v = .int m ∧ m ≤ 5 := fun H1 e Q q =>
  ev_len h hs H1 e _ fun H2 e2 => ⟨_, _, rfl, q _ H2 e2 ⟨_, rfl, by split <;> omega⟩⟩
theorem ep_max {ta tb : TE} {σ : L2.St} {H : Hp} (ha : Ev ta σ H (.int 1)) (hb : EvP tb σ H fun v _ => ∃ m : Int, v = .int m ∧ m ≤ 5) : EvP (tCB rMax2 (tCons ta (tCons tb tNil))) σ H fun v _ => ∃ z : Int, v = .int z ∧ 0 ≤ z ∧ z ≤ 5 := fun H1 e Q q =>
  ha H1 e _ fun H2 e2 => hb H2 (e.trans e2) _ fun v H3 e3 ⟨m, ev, hm⟩ => by
    subst ev
    exact ⟨_, _, rfl, q _ H3 (e2.trans e3) ⟨_, rfl, by split <;> omega, by split <;> omega⟩⟩
theorem rng1_of {te : TE} {σ : L2.St} {H : Hp} {R : It → Hp → Prop} (h : te σ H fun x H1 => ∃ j : Int, [x] = [V.int j] ∧ -(2 ^ 62) ≤ j ∧ j < 2 ^ 62 ∧ R (Itr 0 j.toNat) H1) : iRng1 (tCons te tNil) σ H R := h
section
variable {P : Program} {w : World} {K : PySem.W.Frag} {mg : Str → Option Value} {base : Heap}
theorem sc_law : FnScope ["_law_script", "_law_some", "_law_one", "_law_other", "_law_k", "_law_pool", "_law_rows", "_law_more", "_law_third", "_law_last", "_law_both", "_law_due"] ["_law_script"] (defScope (top 39)) := ⟨rfl, rfl, rfl, by decide +kernel, rfl, by decide +kernel, by decide +kernel⟩
def spLaw (K : PySem.W.Frag) : Sp := fun vs H Q _ => ∃ (a : Addr) (ns : List Int), vs = [.ref a] ∧ SqL K H a (ns.map V.int) ∧ ∀ H', Q (.bl true) H'
theorem ok_law (T : Nm K mg) (Sh : ShK K) (O : ShO K) {fd : FuncData} (F : FunD K "law" "law" (defArgs (top 39)) (defBody (top 39)) (defScope (top 39)) [] [] (He.ga K "law") fd)
    (cPo : Cal P w K mg base 1 "_law_pool_of" ["_law_script", "_law_k"] (spPool K)) (cSr : Cal P w K mg base 3 "_law_shape_rows" ["_law_pool"] spShRows) (cNr : Cal P w K mg base 4 "_law_near_rows" ["_law_pool", "_law_rows"] spNear)
    (cSh : Cal P w K mg base 7 "_law_shaped" ["_law_rows"] (spShaped K)) (cTe : Cal P w K mg base 9 "_law_terms_of" ["_law_rows"] spTerms) (cCo : Cal P w K mg base 10 "_law_common_terms" ["_law_one", "_law_other"] spCommons) (cRo : Cal P w K mg base 13 "_law_rows_of_terms" ["_law_terms"] spRowsOf)
    (cK : MkC P w K mg base 5) (mA : MtC P w K mg base 7 "__and__" (spAnd K)) (mL : MtC P w K mg base 4 "__le__" (spLe K)) (mG : MtC P w K mg base 4 "__ge__" (spGe K)) (mE : MtC P w K mg base 1 "__eq__" (spEq K)) (mR : MtR P w K mg base 1) :
    FnOk P w K mg base CX0 14 (He.ga K "law") fd ["_law_script"] (spLaw K) := by
  obtain ⟨fR, fdR, hR1, hR2, hR3⟩ := mR
  refine FunD.ok F sc_law (fun vs H Q E h => ?_) fun cdv A outer s H vs Q E hr h => ?_
  · obtain ⟨a, ns, rfl, _⟩ := h
    rfl
  · obtain ⟨a, ns, rfl, hs, k⟩ := h
    have nd := sc_law.nd
    have hun := hr.units
    have cmpLe : ∀ a b : Value, compareOp .LtE a b = richCompare .LtE a b := fun _ _ => rfl
    have cmpGe : ∀ a b : Value, compareOp .GtE a b = richCompare .GtE a b := fun _ _ => rfl
    have cmpEq : ∀ a b : Value, compareOp .Eq a b = richCompare .Eq a b := fun _ _ => rfl
    refine ⟨_, PSs.nox (X := cxOf CX0 P w K mg base ["_law_script", "_law_some", "_law_one", "_law_other", "_law_k", "_law_pool", "_law_rows", "_law_more", "_law_third", "_law_last", "_law_both", "_law_due"] "law" (defScope (top 39)) (He.ga K "law") cdv A outer s H E) (pss_cons (ps_set (i := 1) nd rfl (Or.inl rfl) (pe_lst (pa_cons (pe_tup (pa_cons pe_str (pa_cons pe_int pa_nil))) (pa_cons (pe_tup (pa_cons pe_str (pa_cons pe_int pa_nil))) pa_nil)))) (pss_cons (ps_par (i := 2) (j := 3) rfl nd rfl rfl (by decide) rfl rfl (pa_cons (q_mk cK (hr.mono (by decide)) (pa_cons (pe_lst (pa_cons pe_non (pa_cons (pe_tup (pa_cons pe_str (pa_cons (pe_tup (pa_cons pe_int pa_nil)) pa_nil))) pa_nil))) (pa_cons (pv 1) (pa_cons (pe_lst pa_nil) pa_nil)))) (pa_cons (q_mk cK (hr.mono (by decide)) (pa_cons (pe_lst (pa_cons (pe_tup pa_nil) (pa_cons (pe_tup (pa_cons pe_str (pa_cons (pe_tup (pa_cons pe_int pa_nil)) pa_nil))) pa_nil))) (pa_cons (pv 1) (pa_cons (pe_lst pa_nil) pa_nil)))) pa_nil)) (by rfl)) (pss_cons (ps_if (PW.pt (pw_or (pt_cmpR (op_neq O mE (hr.mono (by decide))) (pe_op (op_bin (op := .BitAnd) O mA (hr.mono (by decide))) (pv 2) (pv 3)) (pv 2) (nomark _)) (pw_or (pt_cmpR (op_neq O mE (hr.mono (by decide))) (pe_op (op_bin (op := .BitAnd) O mA (hr.mono (by decide))) (pv 3) (pv 2)) (pv 2) (nomark _)) (pw_or1 (pt_not (pt_cmpR (op_cmp cmpLe O mL (hr.mono (by decide))) (pv 2) (pv 3) (nomark _))))))) (pss_one (ps_ret pe_bl)) pss_nil) (pss_cons (ps_for PassesOwn.never rfl (pi_range1 (by rfl) (T.f "range") (pa_cons (pe_callB (call_max2 rfl) (by rfl) (T.f "max") (by decide +kernel) (pa_cons pe_int (pa_cons (pe_callB (call_min2 rfl) (by rfl) (T.f "min") (by decide +kernel) (pa_cons (q_len T (pa_cons (pv 0) pa_nil)) (pa_cons pe_int pa_nil))) pa_nil))) pa_nil)) (pg_name (i := 4) nd rfl (Or.inl rfl))
        (pss_cons (ps_set (i := 5) nd rfl (Or.inl rfl) (pe_cal cPo (hr.mono (by decide)) (by rfl) (pa_cons (pv 0) (pa_cons (pv 4) pa_nil)))) (pss_cons (ps_set (i := 6) nd rfl (Or.inl rfl) (pe_cal cSr (hr.mono (by decide)) (by rfl) (pa_cons (pv 5) pa_nil))) (pss_cons (ps_par (i := 7) (j := 8) rfl nd rfl rfl (by decide) rfl rfl (pa_cons (pe_cal cNr (hr.mono (by decide)) (by rfl) (pa_cons (pv 5) (pa_cons (pv 6) pa_nil))) (pa_cons (pe_cal cNr (hr.mono (by decide)) (by rfl) (pa_cons (pv 5) (pa_cons (pv 6) pa_nil))) pa_nil)) (by rfl)) (pss_cons (ps_par3 (i := 2) (j := 3) (l := 9) rfl nd rfl rfl rfl (by decide) (by decide) (by decide) rfl rfl rfl (pa_cons (pe_cal cSh (hr.mono (by decide)) (by rfl) (pa_cons (pv 6) pa_nil)) (pa_cons (pe_cal cSh (hr.mono (by decide)) (by rfl) (pa_cons (pv 7) pa_nil)) (pa_cons (pe_cal cSh (hr.mono (by decide)) (by rfl) (pa_cons (pv 8) pa_nil)) pa_nil))) (by rfl)) (pss_cons (ps_set (i := 10) nd rfl (Or.inl rfl) (pe_op (op_bin (op := .BitAnd) O mA (hr.mono (by decide))) (pv 2) (pv 3))) (pss_cons (ps_set (i := 11) nd rfl (Or.inl rfl) (pe_cal cCo (hr.mono (by decide)) (by rfl) (pa_cons (pe_cal cTe (hr.mono (by decide)) (by rfl) (pa_cons (pv 6) pa_nil)) (pa_cons (pe_cal cTe (hr.mono (by decide)) (by rfl) (pa_cons (pv 7) pa_nil)) pa_nil)))) (pss_cons (ps_if (PW.pt (pw_or (q_neD hun (pe_meth0 (pv 10) Sh.cl hR1 hR2 (hr.mono (by decide)) hR3 .nil pass0) (pe_cal cRo (hr.mono (by decide)) (by rfl) (pa_cons (pv 11) pa_nil))) (pw_or (pt_not (pt_cmpR (op_cmp cmpLe O mL (hr.mono (by decide))) (pv 10) (pv 2) (nomark _))) (pw_or1 (pt_not (pt_cmpR (op_cmp cmpGe O mG (hr.mono (by decide))) (pv 3) (pv 10) (nomark _))))))) (pss_one (ps_ret pe_bl)) pss_nil) (pss_cons (ps_if (PW.pt (pw_or (pt_cmpR (op_neq O mE (hr.mono (by decide))) (pv 10) (pe_op (op_bin (op := .BitAnd) O mA (hr.mono (by decide))) (pv 3) (pv 2)) (nomark _)) (pw_or (pt_cmpR (op_neq O mE (hr.mono (by decide))) (pe_op (op_bin (op := .BitAnd) O mA (hr.mono (by decide))) (pv 2) (pv 2)) (pv 2) (nomark _)) (pw_or1 (pt_cmpR (op_neq O mE (hr.mono (by decide))) (pe_op (op_bin (op := .BitAnd) O mA (hr.mono (by decide))) (pe_op (op_bin (op := .BitAnd) O mA (hr.mono (by decide))) (pv 2) (pv 3)) (pv 9)) (pe_op (op_bin (op := .BitAnd) O mA (hr.mono (by decide))) (pv 2) (pe_op (op_bin (op := .BitAnd) O mA (hr.mono (by decide))) (pv 3) (pv 9))) (nomark _)))))) (pss_one (ps_ret pe_bl)) pss_nil) (pss_cons (ps_if (PW.pt (pw_and (pt_cmpR (op_cmp cmpLe O mL (hr.mono (by decide))) (pv 9) (pv 2) (nomark _)) (pw_and (pt_cmpR (op_cmp cmpLe O mL (hr.mono (by decide))) (pv 9) (pv 3) (nomark _)) (pw_and1 (pt_not (pt_cmpR (op_cmp cmpLe O mL (hr.mono (by decide))) (pv 9) (pv 10) (nomark _))))))) (pss_one (ps_ret pe_bl)) pss_nil) (pss_one (ps_if (PW.pt (pw_or (q_ne (pe_cmpR (op_cmp cmpEq O mE (hr.mono (by decide))) (pv 10) (pv 2) (nomark _)) (pe_cmpR (op_cmp cmpLe O mL (hr.mono (by decide))) (pv 2) (pv 3) (nomark _))) (pw_or (pt_cmpR (op_neq O mE (hr.mono (by decide))) (pv 2) (pe_cal cSh (hr.mono (by decide)) (by rfl) (pa_cons (pv 6) pa_nil)) (nomark _)) (pw_or1 (pt_cmpR (op_neq O mE (hr.mono (by decide))) (pv 3) (pe_cal cSh (hr.mono (by decide)) (by rfl) (pa_cons (pv 7) pa_nil)) (nomark _)))))) (pss_one (ps_ret pe_bl)) pss_nil)))))))))))) (pss_one (ps_ret pe_bl)))))), ?_⟩
    refine s_setN (ds := ([("a", 0), ("b", 1)] : List (Str × Nat)).map pyP) (en_lst (ead_cons (ed_tup (ead_cons ed_str (ead_cons ed_int ead_nil)) (by simp)) (ead_cons (ed_tup (ead_cons ed_str (ead_cons ed_int ead_nil)) (by simp)) ead_nil)) (by simp)) fun ps xs H1 _ e1 h1 t1 => ?_
    dsimp only
    refine q_seq ?_
    have c1 : Cn 7 (RT VN (val FR1)) := cn_made (fr_good (x := .opn) (.inl rfl)) (by decide) (by decide)
    have c2 : Cn 7 (RT VN (val FR2)) := cn_made (fr_good (x := .non) (.inr rfl)) (by decide) (by decide)
    refine par_of ?_
    refine fr_mk (x := .opn) (.inl rfl) ed_non rfl ⟨xs, h1, t1⟩ H1 (Ex.refl _) _ fun v1 H2 e2 ⟨x1, ev1, s1⟩ => ?_
    subst ev1
    refine fr_mk (x := .non) (.inr rfl) (ed_tup ead_nil (by simp)) rfl ⟨xs, h1, t1⟩ H2 e2 _ fun v2 H3 e3 ⟨x2, ev2, s2⟩ => ?_
    subst ev2
    have s13 : ShI K x1 (RT VN (val FR1)) H3 := s1.ex e3
    have s23 : ShI K x2 (RT VN (val FR2)) H3 := s2
    dsimp only
    have q1 : met (RT VN (val FR1)) (RT VN (val FR2)) = RT VN (val FR1) := (met_iff c1).mpr fr_le'
    have q2 : met (RT VN (val FR2)) (RT VN (val FR1)) = RT VN (val FR1) := by rw [met_comm]; exact q1
    have b1 : (7 + 1) * (7 + 1) ≤ 900 := by decide
    refine s_if (b := false) (et_is (et_or (et_test (evs_ne (evs_and (evs_var rfl s13) (evs_var rfl s23) c1 c2 b1) (evs_var rfl s13) (cn_meet c1 c2 b1) c1)) fun _ => et_or (et_test (evs_ne (evs_and (evs_var rfl s23) (evs_var rfl s13) c2 c1 b1) (evs_var rfl s13) (cn_meet c2 c1 b1) c1)) fun _ => et_not (et_test (evs_le (evs_var rfl s13) (evs_var rfl s23) c1 c2))) (by
      rw [decide_eq_true q1, decide_eq_true q2, decide_eq_true fr_le']; rfl)) (fun z => by cases z) fun _ H4 e4 => ?_
    rw [show ∀ D σ H, tNext D σ H = D.nx σ H from fun _ _ _ => rfl]
    dsimp only
    refine q_seq ?_
    have e04 : Ex H H4 := e1.trans (e2.trans (e3.trans e4))
    have hs4 : SqL K H4 a (ns.map V.int) := ex_l e04 hs
    have hM := ep_max (ev_c : Ev (tC (.int 1)) [some (.ref a), some (.ref ps), some (.ref x1), some (.ref x2), none, none, none, none, none, none, none, none] H4 (.int 1)) (ep_min (K := K) (te := tVar 0) (ev_var rfl) hs4)
    refine rng1_of ?_
    refine hM H4 (Ex.refl _) _ fun v H5 e5 ⟨z, ev, hz0, hz1⟩ => ?_
    subst ev
    refine ⟨z, rfl, by omega, by omega, ?_⟩
    refine for_range (n := z.toNat) (fun i σ Hc => Ex H Hc ∧ ∃ (w1 w2 w3 w4 w5 w6 w7 w8 w9 w10 w11 : Option V), σ = [some (.ref a), w1, w2, w3, w4, w5, w6, w7, w8, w9, w10, w11]) ⟨e04.trans e5, _, _, _, _, _, _, _, _, _, _, _, rfl⟩ ?_ ?_
    · rintro i σ Hc hi ⟨xc, w1, w2, w3, w4, w5, w6, w7, w8, w9, w10, w11, rfl⟩
      have zi : (0 + (i : Int)) = (i : Nat) := by omega
      rw [zi]
      refine q_seq ?_
      refine ⟨_, rfl, _, rfl, a, ns, i, rfl, ex_l xc hs, by omega, fun p H6 hp e6 hpool => ?_⟩
      dsimp only
      refine q_seq ?_
      refine ⟨_, rfl, p, rfl, hpool, fun t R H7 ht eb7 hp7 hD hR => ?_⟩
      dsimp only
      refine q_seq ?_
      refine ⟨_, rfl, _, rfl, p, t, R, rfl, hp7, hR, hD, fun t2 R2 H8 ht2 eb8 hp8 hD2 hR2 => ?_⟩
      refine ⟨_, rfl, _, rfl, p, t, R, rfl, hp8, hR.exb hp7 eb8, hD, fun t3 R3 H9 ht3 eb9 hp9 hD3 hR3 => ⟨_, _, rfl, ?_⟩⟩
      have r1 : RowsAt t R H9 := (hR.exb hp7 eb8).exb hp8 eb9
      have r2 : RowsAt t2 R2 H9 := hR2.exb hp8 eb9
      have x9 : Ex H H9 := xc.trans (ex_of_exb hp e6 ((eb7.trans eb8).trans eb9))
      dsimp only
      refine q_seq ?_
      refine ⟨_, rfl, t, R, rfl, r1, hD.good, fun z1 H10 e10 s1 => ⟨_, rfl, t2, R2, rfl, r2.ex e10, hD2.good, fun z2 H11 e11 s2 => ⟨_, rfl, t3, R3, rfl, (hR3.ex e10).ex e11, hD3.good, fun z3 H12 e12 s3 => ⟨_, _, _, rfl, ?_⟩⟩⟩⟩
      have d7 : Drawn 7 R := hD.mono (by decide)
      have k1 : Cn 7 (RT VN (val R)) := cn_made hD.good d7.len (by decide)
      have k2 : Cn 7 (RT VN (val R2)) := cn_made hD2.good hD2.len (by decide)
      have k3 : Cn 7 (RT VN (val R3)) := cn_made hD3.good hD3.len (by decide)
      have s1' := s1.ex (e11.trans e12)
      have s2' := s2.ex e12
      have r1' := r1.ex (e10.trans (e11.trans e12))
      have r2' := r2.ex (e10.trans (e11.trans e12))
      have x12 := x9.trans (e10.trans (e11.trans e12))
      have due := due_eq hD.good hD2.good
      have hk1 : RT VN (val R) = RT VN (val R) := rfl
      generalize hS1 : RT VN (val R) = S1 at *
      generalize hS2 : RT VN (val R2) = S2 at *
      generalize hS3 : RT VN (val R3) = S3 at *
      dsimp only
      refine q_seq ?_
      have k12 := cn_meet k1 k2 b1
      have k23 := cn_meet k2 k3 b1
      have b2 : ((7 + 1) * (7 + 1) + 1) * (7 + 1) ≤ 900 := by decide
      have b3 : (7 + 1) * ((7 + 1) * (7 + 1) + 1) ≤ 900 := by decide
      refine s_setP (evs_and (evs_var rfl s1') (evs_var rfl s2') k1 k2 b1) fun vb H13 e13 ⟨zb, evb, sb⟩ => ?_
      subst evb
      dsimp only
      refine q_seq ?_
      refine ⟨_, rfl, t, R, rfl, r1'.ex e13, d7, fun l1 H14 hl1 e14 T1 => ⟨_, rfl, t2, R2, rfl, (r2'.ex e13).ex e14, hD2, fun l2 H15 hl2 e15 T2 => ⟨l1, l2, sT R, sT R2, rfl, T1.ex e15, T2, fun b n => by rw [va_sT hD.good]; exact wt_val (by decide) d7 b n, fun b n => by rw [va_sT hD2.good]; exact wt_val (by decide) hD2 b n, fun l H16 hl e16 TL => ?_⟩⟩⟩
      have y16 := (e13.trans (e14.trans e15)).trans e16
      have sa := s1'.ex y16
      have sb2 := s2'.ex y16
      have sc := s3.ex y16
      have sB := sb.ex ((e14.trans e15).trans e16)
      have ra := r1'.ex y16
      have rb := r2'.ex y16
      have x16 := x12.trans y16
      dsimp only
      -- the four tests
      have hdue : (K49.ordT VN (vaOf (cS (sT R) (sT R2)))).length < 5000 := by
        rw [← RT_len, due]
        exact Nat.lt_of_le_of_lt k12.len (by decide)
      have drows : EvD (tCall spRowsOf [] E0 (tCons (tVar 11) tNil)) [some (.ref a), w1, some (.ref z1), some (.ref z2), some (.int (i : Nat)), some (.ref p), some (.ref t), some (.ref t2), some (.ref t3), some (.ref z3), some (.ref zb), some (.ref l)] H16 (rwD (met S1 S2)) := fun H17 e17 Q q =>
        ⟨_, rfl, l, cS (sT R) (sT R2), rfl, TL.ex e17, fun b => sdt_cS (by decide) d7 hD2 b, hdue, fun v H18 e18 t18 => q v H18 e18 (by rw [due] at t18; exact t18)⟩
      refine q_seq ?_
      have f1 : Le VN (val (met S1 S2)) (val S1) := met_le1 _ _
      have f2 : Le VN (val (met S1 S2)) (val S2) := met_le2 _ _
      refine s_if (b := false) (et_is (et_or (et_test (ev_neD (ed_rows (evs_var rfl sB)) drows (pd_rw k12.ok) (pd_rw k12.ok))) fun _ => et_or (et_not (et_test (evs_le (evs_var rfl sB) (evs_var rfl sa) k12 k1))) fun _ => et_not (et_test (evs_ge (evs_var rfl sb2) (evs_var rfl sB) k2 k12))) (by
        rw [decide_eq_true rfl, decide_eq_true f1, decide_eq_true f2]; rfl)) (fun z => by cases z) fun _ H17 e17 => ?_
      rw [show ∀ D σ H, tNext D σ H = D.nx σ H from fun _ _ _ => rfl]
      dsimp only
      refine q_seq ?_
      have sa := sa.ex e17
      have sb2 := sb2.ex e17
      have sc := sc.ex e17
      have sB := sB.ex e17
      have ra := ra.ex e17
      have rb := rb.ex e17
      have x17 := x16.trans e17
      have g1 : met S1 S2 = met S2 S1 := met_comm _ _
      have g2 : met S1 S1 = S1 := met_idem k1
      have g3 : met (met S1 S2) S3 = met S1 (met S2 S3) := met_assoc _ _ _
      refine s_if (b := false) (et_is (et_or (et_test (evs_ne (evs_var rfl sB) (evs_and (evs_var rfl sb2) (evs_var rfl sa) k2 k1 b1) k12 (cn_meet k2 k1 b1))) fun _ => et_or (et_test (evs_ne (evs_and (evs_var rfl sa) (evs_var rfl sa) k1 k1 b1) (evs_var rfl sa) (cn_meet k1 k1 b1) k1)) fun _ => et_test (evs_ne (evs_and (evs_and (evs_var rfl sa) (evs_var rfl sb2) k1 k2 b1) (evs_var rfl sc) k12 k3 b2) (evs_and (evs_var rfl sa) (evs_and (evs_var rfl sb2) (evs_var rfl sc) k2 k3 b1) k1 k23 b3) (cn_meet k12 k3 b2) (cn_meet k1 k23 b3))) (by
        rw [decide_eq_true g1, decide_eq_true g2, decide_eq_true g3]; rfl)) (fun z => by cases z) fun _ H18 e18 => ?_
      rw [show ∀ D σ H, tNext D σ H = D.nx σ H from fun _ _ _ => rfl]
      dsimp only
      refine q_seq ?_
      have sa := sa.ex e18
      have sb2 := sb2.ex e18
      have sc := sc.ex e18
      have sB := sB.ex e18
      have ra := ra.ex e18
      have rb := rb.ex e18
      have x18 := x17.trans e18
      refine s_if (b := false) (et_is (et_and (et_test (evs_le (evs_var rfl sc) (evs_var rfl sa) k3 k1)) fun _ => et_and (et_test (evs_le (evs_var rfl sc) (evs_var rfl sb2) k3 k2)) fun _ => et_not (et_test (evs_le (evs_var rfl sc) (evs_var rfl sB) k3 k12))) (by
        by_cases h1 : Le VN (val S3) (val S1)
        · by_cases h2 : Le VN (val S3) (val S2)
          · rw [decide_eq_true (le_met h1 h2)]; simp
          · rw [decide_eq_false h2]; simp
        · rw [decide_eq_false h1]; simp)) (fun z => by cases z) fun _ H19 e19 => ?_
      rw [show ∀ D σ H, tNext D σ H = D.nx σ H from fun _ _ _ => rfl]
      dsimp only
      have sa := sa.ex e19
      have sb2 := sb2.ex e19
      have sB := sB.ex e19
      have ra := ra.ex e19
      have rb := rb.ex e19
      have x19 := x18.trans e19
      have made : ∀ {j : Nat} {t' : Addr} {R' S' : Rw Str Str}, [some (V.ref a), w1, some (.ref z1), some (.ref z2), some (.int (i : Nat)), some (.ref p), some (.ref t), some (.ref t2), some (.ref t3), some (.ref z3), some (.ref zb), some (.ref l)][j]? = some (some (.ref t')) → RowsAt t' R' H19 → Good R' → RT VN (val R') = S' → EvS K (tCall (spShaped K) [] E0 (tCons (tVar j) tNil)) [some (.ref a), w1, some (.ref z1), some (.ref z2), some (.int (i : Nat)), some (.ref p), some (.ref t), some (.ref t2), some (.ref t3), some (.ref z3), some (.ref zb), some (.ref l)] H19 S' := fun {j t' R' S'} hj hr hg hS H20 e20 Q q =>
        ⟨_, hj, t', R', rfl, hr.ex e20, hg, fun z H21 e21 hz => q _ H21 e21 ⟨z, rfl, hS ▸ hz⟩⟩
      have e1e : decide (met S1 S2 = S1) = decide (Le VN (val S1) (val S2)) := decide_eq_decide.mpr (met_iff k1)
      refine s_if (b := false) (et_is (et_or (et_test (ev_neB (evs_eq (evs_var rfl sB) (evs_var rfl sa) k12 k1) (evs_le (evs_var rfl sa) (evs_var rfl sb2) k1 k2))) fun _ => et_or (et_test (evs_ne (evs_var rfl sa) (made (j := 6) rfl ra hD.good hS1) k1 k1)) fun _ => et_test (evs_ne (evs_var rfl sb2) (made (j := 7) rfl rb hD2.good hS2) k2 k2)) (by
        rw [e1e]; simp)) (fun z => by cases z) fun _ H20 e20 => ?_
      exact ⟨x19.trans e20, _, _, _, _, _, _, _, _, _, _, _, rfl⟩
    · rintro σ Hc ⟨xc, w1, w2, w3, w4, w5, w6, w7, w8, w9, w10, w11, rfl⟩
      dsimp only
      exact s_ret ev_c fun H6 _ => k H6
end
end K49W

-- part K49Z
namespace K49W
open PySem PySem.Spec PyProof.Rows L2
/-- more of the class Shape -/
def exS (K : PySem.W.Frag) : Bool := PySem.W.selfFirst K (He.ga K "Shape") && (PySem.W.notFirst K (He.ga K "Shape") (.ref (He.ga K "Shape")) &&
  (He.eqO (PySem.W.findIn K (.ref (He.ga K "Shape")) "__class__") (some (some (.builtin "object.__class__"))) &&
  (He.eqO (PySem.W.findIn K (.ref (He.ga K "Shape")) "__ne__") (some (some (.builtin "object.__ne__"))) &&
  (decide (PySem.W.mroIn K (He.ga K "Shape") (.type "object") = some true) &&
  (He.eqO (PySem.W.specialIn K (.builtin "object.__class__") "__get__") (some (some (.builtin "getset_descriptor.__get__"))) &&
  decide (PySem.W.takesIn K (.builtin "object.__class__") = some true))))))
abbrev Rk : PySem.W.OpenRow := PySem.W.OpenLaw.row PySem.Challenge.rw_editedframes_k49_whole_what_two_shapes_s
abbrev hk49 : PySem.W.Hook := He.hookX 5 fa fn [] [] exS
def ob49 (s : PySem.W.SharedT) : He.AlX := He.obsX 5 fa fn [] [] exS (HandSHeadRun.getT s)
theorem ob49_eq (s : PySem.W.SharedT) : ob49 s = hk49.obs s.abs := He.obsX_eq (HandSHeadRun.getT_eq s)
def loose49 : List Str := (["FramesError", "BadShape", "LETTERS", "MOST_LETTERS", "is_name", "MOST_OPERANDS", "is_index", "is_node", "are_nodes", "are_places", "check_shape", "merged", "numbers_for", "ordered", "tidied", "Shape", "_wall"] : List Str) ++ (["seen_node", "joined_sides", "operand_pairs", "met_node", "met_rows", "does_follow", "_law_pool_of", "_law_draw", "_law_pick", "_law_shape_rows", "_law_term_of", "_law_terms_of", "_law_flat", "_law_rows_of_terms", "_law_shaped", "_law_common_term", "_law_common_terms", "_law_near_rows"] : List Str)
theorem run49 (w : World) : HandSHeadRun.RunEq Rk (PySem.W.view Rk.prog [39]) hk49 ob49 4000 loose49 w := by
  intro os
  kernel_rfl
theorem facts49 {P : Program} {w : World} {K : PySem.W.Frag} {h : Heap} {mg : Str → Option Value} {f : Addr} (X : K.In h) (G : h.Ns mainGlobals mg) (hfa : mg ("law" : Str) = some (.ref f)) (c : He.SaysX fa fn [] [] exS w h K) :
    ∃ fd : FuncData, (∀ (s : Shared) (v : Value), BindsTo s fd ⟨[v], []⟩ [("_law_script", v)]) ∧ ∀ base : Heap, K.In base → base.Ns mainGlobals mg → FnOk P w K mg base CX0 14 f fd ["_law_script"] (spLaw K) := by
  have d := c.t.d
  have T : Nm K mg :=
    { fr := fun x hx => He.free_ok X G (d.facts (f := .free x) (List.mem_append_left _ (List.mem_append_right _ (List.mem_map.mpr ⟨x, hx, rfl⟩)))),
      gl := fun x hx => He.glo_ok X G (d.facts (f := .glo x) (List.mem_append_left _ (List.mem_append_left _ (List.mem_map.mpr ⟨x, hx, rfl⟩)))),
      ml := He.int_ok X G (d.facts (f := .int "MOST_LETTERS" 8) (List.mem_append_right _ (by simp))),
      mo := He.int_ok X G (d.facts (f := .int "MOST_OPERANDS" 3) (List.mem_append_right _ (by simp))),
      lt := He.str_ok X G (d.facts (f := .str "LETTERS" "abcdefghijklmnopqrstuvwxyz") (List.mem_append_right _ (by simp))) }
  have mem : ∀ {x : He.Fa}, x ∈ ([.int "MOST_LETTERS" 8, .int "MOST_OPERANDS" 3, .str "LETTERS" "abcdefghijklmnopqrstuvwxyz", .cls "Shape", .mkr "Shape",
    .noat "Shape" "nodes", .noat "Shape" "olds", .noat "Shape" "news", .meth "Shape" "as_rows", .meth "Shape" "__and__", .meth "Shape" "__le__", .meth "Shape" "__ge__", .meth "Shape" "__eq__"] : List He.Fa) → x ∈ fa := fun h => List.mem_append_right _ h
  have Sh : ShK K :=
    { cl := He.cls_ok (d.facts (f := .cls "Shape") (mem (by simp))), mkr := He.mkr_ok (d.facts (f := .mkr "Shape") (mem (by simp))),
      n0 := He.noat_ok (d.facts (f := .noat "Shape" "nodes") (mem (by simp))), n1 := He.noat_ok (d.facts (f := .noat "Shape" "olds") (mem (by simp))), n2 := He.noat_ok (d.facts (f := .noat "Shape" "news") (mem (by simp))) }
  have hx := c.more
  unfold exS at hx
  simp only [Bool.and_eq_true, decide_eq_true_eq] at hx
  obtain ⟨x1, x2, x3, x4, x5, x6, x7⟩ := hx
  have O : ShO K := ⟨x1, x2, He.eqO_ok x4, x5⟩
  have O1 : ShI1 K := ⟨He.eqO_ok x3, He.eqO_ok x6, x7⟩
  have dd : ∀ {e : He.DefD}, e ∈ fn → Df K e := fun h => d.defs h
  have mR := He.meth_ok (d.facts (f := .meth "Shape" "as_rows") (mem (by simp)))
  have mA := He.meth_ok (d.facts (f := .meth "Shape" "__and__") (mem (by simp)))
  have mL := He.meth_ok (d.facts (f := .meth "Shape" "__le__") (mem (by simp)))
  have mG := He.meth_ok (d.facts (f := .meth "Shape" "__ge__") (mem (by simp)))
  have mE := He.meth_ok (d.facts (f := .meth "Shape" "__eq__") (mem (by simp)))
  obtain ⟨fd, F⟩ := dd (e := dG 39 "law") (by simp [fn])
  have F' : FunD K "law" "law" (defArgs (top 39)) (defBody (top 39)) (defScope (top 39)) [] [] (He.ga K "law") fd := F
  have e := hfa.symm.trans (He.glo_ok X G (d.facts (f := .glo "law") (List.mem_append_left _ (List.mem_append_left _ (List.mem_map.mpr ⟨"law", by decide +kernel, rfl⟩)))))
  cases e
  have b := FunD.bindsA (ps := ["_law_script"]) F' fun _ _ _ _ _ _ us hl => match us, hl with | [_], _ => rfl
  refine ⟨fd, fun s v => b s [v] rfl, fun base _ _ => ?_⟩
  have cI : Cal P w K mg base 1 "is_index" ["value", "many"] spIndex := cal_is_index T (dd (e := dG 10 "is_index") (by simp [fn]))
  have cN : Cal P w K mg base 1 "is_name" ["value"] spName := cal_is_name T (dd (e := dG 7 "is_name") (by simp [fn]))
  have cNd := cal_is_node T (dd (e := dG 11 "is_node") (by simp [fn])) cI cN
  have cNs := cal_are_nodes T (dd (e := dG 12 "are_nodes") (by simp [fn])) cNd
  have cPl := cal_are_places T (dd (e := dG 13 "are_places") (by simp [fn])) cI cN
  have cCh := cal_check_shape T (dd (e := dG 14 "check_shape") (by simp [fn])) cNs cPl
  have cMg : Cal P w K mg base 1 "merged" ["nodes"] spMerged := cal_merged T (dd (e := dG 15 "merged") (by simp [fn]))
  have cNf : Cal P w K mg base 1 "numbers_for" ["nodes", "firsts", "starts"] spNumbers := cal_numbers_for T (dd (e := dG 16 "numbers_for") (by simp [fn]))
  have cOr : Cal P w K mg base 1 "ordered" ["places"] spOrdered := cal_ordered T (dd (e := dG 17 "ordered") (by simp [fn]))
  have cTi := cal_tidied T (dd (e := dG 18 "tidied") (by simp [fn])) cMg cNf cOr
  have cK := mk_c T Sh (dd (e := dInit) (by simp [fn])) cCh cTi
  have cSe : Cal P w K mg base 1 "seen_node" ["shape", "at"] (spSeen K) := cal_seen T Sh (dd (e := dG 20 "seen_node") (by simp [fn]))
  have cJo := cal_joined T (dd (e := dG 21 "joined_sides") (by simp [fn])) cOr
  have cOp := cal_pairs T Sh (dd (e := dG 22 "operand_pairs") (by simp [fn])) cSe
  have cMn := cal_met T Sh (dd (e := dG 23 "met_node") (by simp [fn])) cSe cOp
  have cMr := cal_metrows T Sh (dd (e := dG 24 "met_rows") (by simp [fn])) cJo cOp cMn
  have cFo := cal_follow T Sh (dd (e := dG 25 "does_follow") (by simp [fn])) cJo cOp cSe
  have hAnd := mt_and T Sh O O1 (dd (e := dM 8 "__and__" "Shape.__and__") (by simp [fn])) mA cMr cK
  have hLe := mt_le T Sh O O1 (dd (e := dM 9 "__le__" "Shape.__le__") (by simp [fn])) mL cFo
  have hGe := mt_ge T Sh O O1 (dd (e := dM 11 "__ge__" "Shape.__ge__") (by simp [fn])) mG cFo
  have hEq : MtC P w K mg base 1 "__eq__" (spEq K) := mt_eq T Sh O O1 (dd (e := dM 13 "__eq__" "Shape.__eq__") (by simp [fn])) mE
  have hRo : MtR P w K mg base 1 := mt_rows T Sh (dd (e := dM 1 "as_rows" "Shape.as_rows") (by simp [fn])) mR
  have cPo : Cal P w K mg base 1 "_law_pool_of" ["_law_script", "_law_k"] (spPool K) := cal_pool T (dd (e := dG 27 "_law_pool_of") (by simp [fn]))
  have cDr : Cal P w K mg base 1 "_law_draw" ["_law_pool", "_law_many"] spDraw := cal_draw T (dd (e := dG 28 "_law_draw") (by simp [fn]))
  have cPi := cal_pick T (dd (e := dG 29 "_law_pick") (by simp [fn])) cDr
  have cSr := cal_shrows T (dd (e := dG 30 "_law_shape_rows") (by simp [fn])) cDr cPi
  have cTm : Cal P w K mg base 8 "_law_term_of" ["_law_nodes", "_law_at"] (spTerm 7) := cal_term T (dd (e := dG 31 "_law_term_of") (by simp [fn])) 7
  have cTe : Cal P w K mg base 9 "_law_terms_of" ["_law_rows"] spTerms := cal_terms T (dd (e := dG 32 "_law_terms_of") (by simp [fn])) cTm
  have cFl : Cal P w K mg base 12 "_law_flat" ["_law_nodes", "_law_term"] (spFlat 11) := cal_flat T (dd (e := dG 33 "_law_flat") (by simp [fn])) 11
  have cRo : Cal P w K mg base 13 "_law_rows_of_terms" ["_law_terms"] spRowsOf := cal_rowsof T (dd (e := dG 34 "_law_rows_of_terms") (by simp [fn])) cFl
  have cSh := cal_shaped T (dd (e := dG 35 "_law_shaped") (by simp [fn])) cK
  have cCm : Cal P w K mg base 9 "_law_common_term" ["_law_one", "_law_other"] (spCommon 8) := cal_common T (dd (e := dG 36 "_law_common_term") (by simp [fn])) 8
  have cCo : Cal P w K mg base 10 "_law_common_terms" ["_law_one", "_law_other"] spCommons := cal_commons T (dd (e := dG 37 "_law_common_terms") (by simp [fn])) cCm
  have cNr := cal_near T (dd (e := dG 38 "_law_near_rows") (by simp [fn])) cDr cSr
  exact ok_law T Sh O F' cPo cSr cNr cSh cTe cCo cRo cK hAnd hLe hGe hEq hRo
end K49W
open PySem PySem.W PySem.Calls PyProof.Rows
theorem PySem.Challenge.cw_editedframes_k49_whole_what_two_shapes_s_holds : PySem.Challenge.rw_editedframes_k49_whole_what_two_shapes_s.Holds := by
  w_on; o_law
  refine HandSHeadRun.head_any (r := K49W.Rk) (q := view K49W.Rk.prog [39]) (H := K49W.hk49) (ob := K49W.ob49) (M := 4000) (loose := K49W.loose49) (d := HandSHeadRun.topDef K49W.Rk.prog 39) (kwd := []) K49W.ob49_eq
    (by kernel_rfl) (fun s => by kernel_rfl) K49W.run49 (by kernel_rfl) (by kernel_rfl) (by kernel_rfl) (by rfl) (by first | assumption | decide +kernel) (by decide +kernel) ⟨rfl, rfl, rfl, rfl, rfl, by decide +kernel⟩ ?hw ?hc
  case hw => w_witness2
  case hc =>
    refine L2.walk_ofE (l := PySem.Challenge.rw_editedframes_k49_whole_what_two_shapes_s) (n := 63) (k := 14) (x := "_law_script") (CX := L2.CX0) rfl (by decide) (by kernel_rfl) ⟨rfl, by decide, by decide⟩ ?F (fun _ _ _ _ z => z)
    intro w mg fa h Y G hmg0
    obtain ⟨K, KX, c⟩ := Y
    have hmg : mg ("law" : PySem.Str) = some (.ref fa) := by
      have e : (HandSHeadRun.topDef K49W.Rk.prog 39).name = ("law" : PySem.Str) := by kernel_rfl
      rw [← e]
      exact hmg0
    obtain ⟨fd, hb, hF⟩ := K49W.facts49 (P := (PySem.Challenge.rw_editedframes_k49_whole_what_two_shapes_s).prog) (w := w) KX G hmg c
    exact ⟨K, fd, K49W.spLaw K, KX, hb, fun H a ns hl _ hS => ⟨a, ns, rfl, hS, fun _ => rfl⟩, hF⟩

