import PyProof.Rows.All
import Wide.All
import OpenK.AllK
import Wide.FinOn
import HandS.ForMost
import PySem.Challenge.RW_heelrow_k68_whole_which_piles_come
import HandS.TupAny
import HandS.IsInst
import HandS.Strs
import HandS.Style
import HandS.DictComp
import KE.GoesEnum
import KE.GoesMore
import KE.KDictZip
import KE.GoesEnumKw
import HandS.More
import KE.KDictPairs
import HandS.Codes
import HandS.Flow
import HandS.Walk
import HandS.WordsDict
import HandS.Lambda
import KE.KSortTupG
import KE.KSortTupUse
import KE.KSortKeyAny
import HandS.Text
import HandS.TupMul
import KE.KDictKeyed
import KE.KDictDisplayH
import KE.KDictWalk
import KE.KeyNested
import HandS.EndTab
set_option linter.all false
namespace HW
section
variable {α : Type} [deα : DecidableEq α]

inductive Up (par : α → Option α) : α → α → Prop
  | refl (x : α) : Up par x x
  | step {x p y : α} : par x = some p → Up par p y → Up par x y

def Rk (par : α → Option α) (r : α → Nat) : Prop := ∀ x p, par x = some p → r p < r x

variable {par : α → Option α} {r : α → Nat}

theorem Up.le (hr : Rk par r) {x y : α} (h : Up par x y) : r y ≤ r x := by
  induction h with
  | refl x => exact Nat.le_refl _
  | step h1 _ ih => have := hr _ _ h1; omega
theorem Up.lt (hr : Rk par r) {x y : α} (h : Up par x y) (n : x ≠ y) : r y < r x := by
  cases h with
  | refl => exact absurd rfl n
  | step h1 h2 => have := hr _ _ h1; have := h2.le hr; omega
theorem Up.anti (hr : Rk par r) {x y : α} (h : Up par x y) (h' : Up par y x) : x = y := by
  by_cases n : x = y
  · exact n
  · have := h.lt hr n; have := h'.le hr; omega
theorem Up.trans {x y z : α} (h : Up par x y) (h' : Up par y z) : Up par x z := by
  induction h with
  | refl => exact h'
  | step h1 _ ih => exact .step h1 (ih h')
theorem Up.one {x p : α} (h : par x = some p) : Up par x p := .step h (.refl p)
theorem Up.head {x y : α} (h : Up par x y) (n : x ≠ y) : ∃ p, par x = some p ∧ Up par p y := by
  cases h with
  | refl => exact absurd rfl n
  | step h1 h2 => exact ⟨_, h1, h2⟩
theorem Up.none {x y : α} (h : Up par x y) (e : par x = none) : x = y := by
  cases h with
  | refl => rfl
  | step h1 _ => rw [e] at h1; cases h1

/-- all who stand at c are laid behind those at whom c follows -/
def lay (par : α → Option α) (s : α → List α) (c : α) : α → List α :=
  match par c with
  | none => s
  | some p => fun x => if x = c then [] else if x = p then s p ++ s c else s x
theorem lay_some {s : α → List α} {c p : α} (h : par c = some p) : lay par s c = fun x => if x = c then [] else if x = p then s p ++ s c else s x := by
  unfold lay; rw [h]

def home : α → List α := fun x => [x]
def run (par : α → Option α) (s : α → List α) (cs : List α) : α → List α := cs.foldl (lay par) s
theorem run_append {s : α → List α} (a b : List α) : run par s (a ++ b) = run par (run par s a) b := by
  unfold run; rw [List.foldl_append]
theorem run_one {s : α → List α} (c : α) : run par s [c] = lay par s c := rfl

inductive Reach (par : α → Option α) : (α → List α) → Prop
  | home : Reach par home
  | lay {s c p} : Reach par s → par c = some p → Reach par (lay par s c)
theorem Reach.run {s : α → List α} (h : Reach par s) : ∀ (cs : List α), (∀ c ∈ cs, ∃ p, par c = some p) → Reach par (HW.run par s cs) := by
  intro cs
  induction cs generalizing s with
  | nil => intro _; exact h
  | cons c cs ih =>
    intro hc
    obtain ⟨p, hp⟩ := hc c List.mem_cons_self
    exact ih (Reach.lay h hp) fun c' h' => hc c' (List.mem_cons_of_mem _ h')

/-- each stands at just one -/
structure Pl (s : α → List α) : Prop where
  nd : ∀ p, (s p).Nodup
  uniq : ∀ x p q, x ∈ s p → x ∈ s q → p = q
  all : ∀ x, ∃ p, x ∈ s p

/-- nothing bars -/
structure Unb (par : α → Option α) (s : α → List α) : Prop where
  u1 : ∀ x p, x ∈ s p → Up par x p
  u2 : ∀ h l p q, Up par l h → l ≠ h → h ∈ s p → l ∈ s q → Up par q p
  u3 : ∀ p, (s p).Pairwise fun x y => ¬ (Up par x y ∧ x ≠ y)

theorem mem_lay (hr : Rk par r) {s : α → List α} {c p x z : α} (h : par c = some p) : x ∈ lay par s c z ↔ (z ≠ c ∧ x ∈ s z) ∨ (z = p ∧ x ∈ s c) := by
  have hcp : p ≠ c := fun e => by have := hr _ _ h; rw [e] at this; omega
  rw [lay_some h]
  show x ∈ (if z = c then [] else if z = p then s p ++ s c else s z) ↔ _
  by_cases e1 : z = c
  · subst e1
    rw [if_pos rfl]
    constructor
    · intro q; cases q
    · rintro (⟨q, _⟩ | ⟨q, _⟩)
      · exact absurd rfl q
      · exact absurd q.symm hcp
  · rw [if_neg e1]
    by_cases e2 : z = p
    · subst e2
      rw [if_pos rfl, List.mem_append]
      constructor
      · rintro (q | q)
        · exact .inl ⟨e1, q⟩
        · exact .inr ⟨rfl, q⟩
      · rintro (⟨_, q⟩ | ⟨_, q⟩)
        · exact .inl q
        · exact .inr q
    · rw [if_neg e2]
      constructor
      · intro q; exact .inl ⟨e1, q⟩
      · rintro (⟨_, q⟩ | ⟨q, _⟩)
        · exact q
        · exact absurd q e2

theorem Pl.home : Pl (home : α → List α) := by
  refine ⟨fun p => by simp [HW.home], fun x p q hp hq => ?_, fun x => ⟨x, by simp [HW.home]⟩⟩
  simp [HW.home] at hp hq
  rw [← hp, ← hq]
theorem Pl.lay (hr : Rk par r) {s : α → List α} {c p : α} (h : par c = some p) (P : Pl s) : Pl (lay par s c) := by
  have hcp : p ≠ c := fun e => by have := hr _ _ h; rw [e] at this; omega
  refine ⟨fun z => ?_, fun x a b ha hb => ?_, fun x => ?_⟩
  · rw [lay_some h]
    show (if z = c then [] else if z = p then s p ++ s c else s z).Nodup
    split
    · exact List.nodup_nil
    · split
      · rw [List.nodup_append]
        refine ⟨P.nd p, P.nd c, fun a ha b hb e => ?_⟩
        subst e
        exact hcp (P.uniq _ _ _ ha hb)
      · exact P.nd z
  · rw [mem_lay hr h] at ha hb
    rcases ha with ⟨n1, ha⟩ | ⟨e1, ha⟩ <;> rcases hb with ⟨n2, hb⟩ | ⟨e2, hb⟩
    · exact P.uniq _ _ _ ha hb
    · exact absurd (P.uniq _ _ _ ha hb) n1
    · exact absurd (P.uniq _ _ _ hb ha) n2
    · rw [e1, e2]
  · obtain ⟨z, hz⟩ := P.all x
    by_cases e : z = c
    · subst e
      exact ⟨p, (mem_lay hr h).mpr (.inr ⟨rfl, hz⟩)⟩
    · exact ⟨z, (mem_lay hr h).mpr (.inl ⟨e, hz⟩)⟩
theorem Reach.pl (hr : Rk par r) {s : α → List α} (h : Reach par s) : Pl s := by
  induction h with
  | home => exact Pl.home
  | lay _ hp ih => exact Pl.lay hr hp ih

theorem Unb.home (hr : Rk par r) : Unb par (home : α → List α) := by
  refine ⟨fun x p hx => ?_, fun h l p q hu _ hp hq => ?_, fun p => by simp [HW.home]⟩
  · simp [HW.home] at hx; subst hx; exact .refl _
  · simp [HW.home] at hp hq; subst hp hq; exact hu
theorem Unb.lay (hr : Rk par r) {s : α → List α} {c p : α} (h : par c = some p) (U : Unb par s) : Unb par (lay par s c) := by
  have hcp : p ≠ c := fun e => by have := hr _ _ h; rw [e] at this; omega
  refine ⟨fun x z hx => ?_, fun hi l P Q hu hne hP hQ => ?_, fun z => ?_⟩
  · rw [mem_lay hr h] at hx
    rcases hx with ⟨_, hx⟩ | ⟨rfl, hx⟩
    · exact U.u1 _ _ hx
    · exact (U.u1 _ _ hx).trans (.one h)
  · rw [mem_lay hr h] at hP hQ
    rcases hP with ⟨n1, hP⟩ | ⟨e1, hP⟩ <;> rcases hQ with ⟨n2, hQ⟩ | ⟨e2, hQ⟩
    · exact U.u2 _ _ _ _ hu hne hP hQ
    · have k := U.u2 _ _ _ _ hu hne hP hQ
      obtain ⟨p', e, k'⟩ := k.head (Ne.symm n1)
      rw [h] at e; cases e
      rw [e2]; exact k'
    · have k := U.u2 _ _ _ _ hu hne hP hQ
      rw [e1]; exact k.trans (.one h)
    · rw [e1, e2]; exact .refl _
  · rw [lay_some h]
    show (if z = c then [] else if z = p then s p ++ s c else s z).Pairwise _
    split
    · exact List.Pairwise.nil
    · split
      · rw [List.pairwise_append]
        refine ⟨U.u3 p, U.u3 c, fun a ha b hb hab => ?_⟩
        have k := U.u2 _ _ _ _ hab.1 hab.2 hb ha
        have := k.le hr
        have := hr _ _ h
        omega
      · exact U.u3 z
theorem Reach.unb (hr : Rk par r) {s : α → List α} (h : Reach par s) : Unb par s := by
  induction h with
  | home => exact Unb.home hr
  | lay _ hp ih => exact Unb.lay hr hp ih

/-- the calls by which a word comes to stand at a place, its parts from the left -/
inductive Gath (par : α → Option α) : α → List α → List α → Prop
  | nil (p : α) : Gath par p [] []
  | snoc {p b : α} {w cs part cs1 : List α} : Gath par p w cs → par b = some p → part ≠ [] → (∀ x ∈ part, Up par x b) → Gath par b (part.filter fun x => decide (x ≠ b)) cs1 → Gath par p (w ++ part) (cs ++ cs1 ++ [b])

theorem Gath.able {p : α} {w cs : List α} (g : Gath par p w cs) : ∀ c ∈ cs, ∃ q, par c = some q := by
  induction g with
  | nil => intro c hc; cases hc
  | snoc _ hb _ _ _ ih1 ih2 =>
    intro c hc
    rw [List.mem_append, List.mem_append] at hc
    rcases hc with (hc | hc) | hc
    · exact ih1 c hc
    · exact ih2 c hc
    · rw [List.mem_singleton] at hc; subst hc; exact ⟨_, hb⟩

structure GC (par : α → Option α) (p : α) (w : List α) (t : α → List α) : Prop where
  a : ∀ x ∈ w, Up par x p ∧ x ≠ p ∧ t x = [x]
  b : w.Pairwise fun x y => ¬ (Up par x y ∧ x ≠ y)
  nd : w.Nodup
  c : ∀ x ∈ w, ∀ y, Up par x y → Up par y p → y ≠ p → y ∉ w → t y = []
def post (p : α) (w : List α) (t : α → List α) : α → List α := fun z => if z = p then t p ++ w else if z ∈ w then [] else t z

theorem first_of (hr : Rk par r) {b : α} {part : List α} (hu : ∀ x ∈ part, Up par x b) (hp : part.Pairwise fun x y => ¬ (Up par x y ∧ x ≠ y)) (hnd : part.Nodup) (hb : b ∈ part) : part = b :: part.filter fun x => decide (x ≠ b) := by
  cases part with
  | nil => cases hb
  | cons x l =>
    have e : x = b := by
      by_cases e : x = b
      · exact e
      · rcases List.mem_cons.mp hb with q | q
        · exact absurd q.symm e
        · exact absurd ⟨hu x List.mem_cons_self, e⟩ ((List.pairwise_cons.mp hp).1 b q)
    subst e
    rw [List.filter_cons, if_neg (by simp)]
    congr 1
    symm
    rw [List.filter_eq_self]
    intro y hy
    have : y ≠ x := fun e => (List.nodup_cons.mp hnd).1 (e ▸ hy)
    simpa using this
theorem filter_notin {b : α} {part : List α} (hb : b ∉ part) : (part.filter fun x => decide (x ≠ b)) = part := by
  rw [List.filter_eq_self]
  intro y hy
  have : y ≠ b := fun e => hb (e ▸ hy)
  simpa using this

theorem Gath.does (hr : Rk par r) {p : α} {w cs : List α} (g : Gath par p w cs) : ∀ t : α → List α, GC par p w t → run par t cs = post p w t := by
  induction g with
  | nil p =>
    intro t _
    funext z
    show t z = if z = p then t p ++ [] else if z ∈ [] then [] else t z
    by_cases e : z = p
    · rw [if_pos e, e, List.append_nil]
    · rw [if_neg e, if_neg (by simp)]
  | @snoc p b w cs part cs1 g1 hb hne hu g2 ih1 ih2 =>
    intro t C
    have hbp : r p < r b := hr _ _ hb
    have nbp : b ≠ p := fun e => by rw [e] at hbp; omega
    have hmem : ∀ x, x ∈ w ++ part ↔ x ∈ w ∨ x ∈ part := fun x => List.mem_append
    obtain ⟨nd1, nd2, disj⟩ := List.nodup_append.mp C.nd
    obtain ⟨b1, b2, b3⟩ := List.pairwise_append.mp C.b
    have C1 : GC par p w t := by
      refine ⟨fun x hx => C.a x ((hmem x).mpr (.inl hx)), b1, nd1, fun x hx y h1 h2 h3 h4 => ?_⟩
      refine C.c x ((hmem x).mpr (.inl hx)) y h1 h2 h3 fun h5 => ?_
      rcases (hmem y).mp h5 with h5 | h5
      · exact h4 h5
      · exact b3 x hx y h5 ⟨h1, fun e => h4 (e ▸ hx)⟩
    have e1 := ih1 t C1
    have t1 : ∀ z, z ≠ p → post p w t z = if z ∈ w then [] else t z := fun z hz => by
      show (if z = p then t p ++ w else if z ∈ w then [] else t z) = _
      rw [if_neg hz]
    have fm : ∀ x, x ∈ (part.filter fun x => decide (x ≠ b)) ↔ x ∈ part ∧ x ≠ b := fun x => by rw [List.mem_filter]; simp
    have upp : ∀ y, Up par y b → y ≠ p := fun y h e => by have := h.le hr; rw [e] at this; omega
    -- where b stands aside, nobody stands at home there
    have bno : b ∉ part → b ∉ w → t b = [] := fun q1 q2 => by
      obtain ⟨x, hx⟩ : ∃ x, x ∈ part := by
        cases part with
        | nil => exact absurd rfl hne
        | cons x l => exact ⟨x, List.mem_cons_self⟩
      exact C.c x ((hmem x).mpr (.inr hx)) b (hu x hx) (.one hb) nbp fun h5 => ((hmem b).mp h5).elim q2 q1
    have C2 : GC par b (part.filter fun x => decide (x ≠ b)) (post p w t) := by
      refine ⟨fun x hx => ?_, b2.sublist List.filter_sublist, nd2.sublist List.filter_sublist, fun x hx y h1 h2 h3 h4 => ?_⟩
      · obtain ⟨hx1, hx2⟩ := (fm x).mp hx
        obtain ⟨_, q2, q3⟩ := C.a x ((hmem x).mpr (.inr hx1))
        refine ⟨hu x hx1, hx2, ?_⟩
        rw [t1 x q2, if_neg (fun h => disj x h x hx1 rfl)]
        exact q3
      · obtain ⟨hx1, hx2⟩ := (fm x).mp hx
        rw [t1 y (upp y h2)]
        split
        · rfl
        · rename_i hyw
          have hyp : y ∉ part := fun h => h4 ((fm y).mpr ⟨h, h3⟩)
          exact C.c x ((hmem x).mpr (.inr hx1)) y h1 (h2.trans (.one hb)) (upp y h2) fun h5 => ((hmem y).mp h5).elim hyw hyp
    have e2 := ih2 (post p w t) C2
    rw [run_append, run_append, e1, e2, run_one, lay_some hb]
    have hat : post b (part.filter fun x => decide (x ≠ b)) (post p w t) b = part := by
      show (if b = b then post p w t b ++ (part.filter fun x => decide (x ≠ b)) else _) = part
      rw [if_pos rfl, t1 b nbp]
      by_cases q : b ∈ part
      · rw [if_neg (fun h => disj b h b q rfl), (C.a b ((hmem b).mpr (.inr q))).2.2]
        exact (first_of hr hu b2 nd2 q).symm
      · rw [filter_notin q]
        by_cases q' : b ∈ w
        · rw [if_pos q']; rfl
        · rw [if_neg q', bno q q']; rfl
    have pnp : p ∉ part := fun h => (C.a p ((hmem p).mpr (.inr h))).2.1 rfl
    have hatp : post b (part.filter fun x => decide (x ≠ b)) (post p w t) p = t p ++ w := by
      show (if p = b then _ else if p ∈ (part.filter fun x => decide (x ≠ b)) then [] else post p w t p) = _
      rw [if_neg (Ne.symm nbp), if_neg (fun h => pnp ((fm p).mp h).1)]
      show (if p = p then t p ++ w else _) = _
      rw [if_pos rfl]
    funext z
    show (if z = b then [] else if z = p then post b _ (post p w t) p ++ post b _ (post p w t) b else post b _ (post p w t) z) = (if z = p then t p ++ (w ++ part) else if z ∈ w ++ part then [] else t z)
    rw [hat, hatp]
    by_cases ezb : z = b
    · subst ezb
      rw [if_pos rfl, if_neg nbp]
      split
      · rfl
      · rename_i h
        rw [hmem] at h
        exact (bno (fun q => h (.inr q)) fun q => h (.inl q)).symm
    · rw [if_neg ezb]
      by_cases ezp : z = p
      · subst ezp
        rw [if_pos rfl, if_pos rfl, List.append_assoc]
      · rw [if_neg ezp, if_neg ezp]
        show (if z = b then _ else if z ∈ (part.filter fun x => decide (x ≠ b)) then [] else post p w t z) = _
        rw [if_neg ezb, t1 z ezp]
        by_cases q : z ∈ part
        · rw [if_pos ((fm z).mpr ⟨q, ezb⟩), if_pos ((hmem z).mpr (.inr q))]
        · rw [if_neg (fun h => q ((fm z).mp h).1)]
          by_cases q' : z ∈ w
          · rw [if_pos q', if_pos ((hmem z).mpr (.inl q'))]
          · rw [if_neg q', if_neg (fun h => ((hmem z).mp h).elim q' q)]

/-- the calls that lay all: place by place, who are above first -/
inductive Beh (par : α → Option α) (s : α → List α) : List α → List α → Prop
  | nil : Beh par s [] []
  | snoc {O cs p cs1} : Beh par s O cs → Gath par p ((s p).filter fun x => decide (x ≠ p)) cs1 → Beh par s (O ++ [p]) (cs ++ cs1)
theorem Beh.able {s : α → List α} {O cs : List α} (g : Beh par s O cs) : ∀ c ∈ cs, ∃ q, par c = some q := by
  induction g with
  | nil => intro c hc; cases hc
  | snoc _ g ih =>
    (intro c hc); rcases List.mem_append.mp hc with hc | hc
    · exact ih c hc
    · exact g.able c hc
def mid (s : α → List α) (O : List α) : α → List α := fun z => if z ∈ O then s z else if (O.any fun q => decide (z ∈ s q)) = true then [] else [z]

theorem Beh.does (hr : Rk par r) {s : α → List α} (P : Pl s) (U : Unb par s) {all O cs : List α} (g : Beh par s O cs) (hall : ∀ p x, x ∈ s p → x ≠ p → p ∈ all)
    (hpre : ∃ O2, all = O ++ O2) (hord : all.Pairwise fun x y => ¬ (Up par x y ∧ x ≠ y)) (hnd : all.Nodup) : run par home cs = mid s O := by
  induction g with
  | nil =>
    funext z
    (show [z] = if z ∈ [] then s z else if ([].any fun q => decide (z ∈ s q)) = true then [] else [z]); rw [if_neg (by simp), if_neg (by simp)]
  | @snoc O cs p cs1 g1 g2 ih =>
    obtain ⟨O2, e⟩ := hpre
    have e' : all = O ++ (p :: O2) := by rw [e, List.append_assoc]; rfl
    have ihe := ih ⟨_, e'⟩
    rw [e'] at hord hnd
    obtain ⟨_, o2, o3⟩ := List.pairwise_append.mp hord
    obtain ⟨_, n2, n3⟩ := List.nodup_append.mp hnd
    have pO : p ∉ O := fun h => n3 p h p List.mem_cons_self rfl
    -- who is below p is not yet reached, who is above p is
    have low : ∀ x, Up par x p → x ∉ O := fun x hx h => by
      by_cases e : x = p
      · subst e; exact pO h
      · exact o3 x h p List.mem_cons_self ⟨hx, e⟩
    have high : ∀ q, q ∈ all → Up par p q → p ≠ q → q ∈ O := fun q hq h n => by
      (rw [e'] at hq); rcases List.mem_append.mp hq with hq | hq
      · exact hq
      · rcases List.mem_cons.mp hq with hq | hq
        · exact absurd hq.symm n
        · exact absurd ⟨h, n⟩ ((List.pairwise_cons.mp o2).1 q hq)
    have anyO : ∀ z, (O.any fun q => decide (z ∈ s q)) = true ↔ ∃ q, q ∈ O ∧ z ∈ s q := fun z => by simp
    have fm : ∀ x, x ∈ ((s p).filter fun x => decide (x ≠ p)) ↔ x ∈ s p ∧ x ≠ p := fun x => by rw [List.mem_filter]; simp
    have noAny : ∀ z, z ∈ s p → ¬ (O.any fun q => decide (z ∈ s q)) = true := fun z hz h => by
      obtain ⟨q, hq, hz'⟩ := (anyO z).mp h
      have := P.uniq _ _ _ hz hz'
      subst this
      exact pO hq
    have C : GC par p ((s p).filter fun x => decide (x ≠ p)) (mid s O) := by
      refine ⟨fun x hx => ?_, (U.u3 p).sublist List.filter_sublist, (P.nd p).sublist List.filter_sublist, fun x hx y h1 h2 h3 h4 => ?_⟩
      · obtain ⟨hx1, hx2⟩ := (fm x).mp hx
        refine ⟨U.u1 _ _ hx1, hx2, ?_⟩
        show (if x ∈ O then s x else if (O.any fun q => decide (x ∈ s q)) = true then [] else [x]) = [x]
        rw [if_neg (low x (U.u1 _ _ hx1)), if_neg (noAny x hx1)]
      · obtain ⟨hx1, hx2⟩ := (fm x).mp hx
        have hys : y ∉ s p := fun h => h4 ((fm y).mpr ⟨h, h3⟩)
        obtain ⟨q, hq⟩ := P.all y
        have hxy : x ≠ y := fun e => hys (e ▸ hx1)
        have k := U.u2 y x q p h1 hxy hq hx1
        have hqp : p ≠ q := fun e => hys (e ▸ hq)
        have hyq : y ≠ q := fun e => by
          have a := k.le hr
          have b := h2.lt hr h3
          rw [e] at b; omega
        have hqO := high q (hall q y hq hyq) k hqp
        show (if y ∈ O then s y else if (O.any fun q => decide (y ∈ s q)) = true then [] else [y]) = []
        rw [if_neg (low y h2), if_pos ((anyO y).mpr ⟨q, hqO, hq⟩)]
    rw [run_append, ihe, g2.does hr _ C]
    funext z
    have am : ∀ z, ((O ++ [p]).any fun q => decide (z ∈ s q)) = true ↔ (O.any fun q => decide (z ∈ s q)) = true ∨ z ∈ s p := fun z => by simp
    show (if z = p then mid s O p ++ (s p).filter (fun x => decide (x ≠ p)) else if z ∈ (s p).filter (fun x => decide (x ≠ p)) then [] else mid s O z) = (if z ∈ O ++ [p] then s z else if ((O ++ [p]).any fun q => decide (z ∈ s q)) = true then [] else [z])
    by_cases ezp : z = p
    · subst ezp
      rw [if_pos rfl, if_pos (by simp)]
      show (if z ∈ O then s z else if (O.any fun q => decide (z ∈ s q)) = true then [] else [z]) ++ _ = s z
      rw [if_neg pO]
      by_cases q : z ∈ s z
      · rw [if_neg (noAny z q)]
        exact (first_of hr (fun x hx => U.u1 _ _ hx) (U.u3 z) (P.nd z) q).symm
      · obtain ⟨y, hy⟩ := P.all z
        have hzy : z ≠ y := fun e => q (by rw [← e] at hy; exact hy)
        have hyO := high y (hall y z hy hzy) (U.u1 _ _ hy) hzy
        rw [if_pos ((anyO z).mpr ⟨y, hyO, hy⟩), filter_notin q]
        rfl
    · rw [if_neg ezp]
      by_cases q : z ∈ s p
      · rw [if_pos ((fm z).mpr ⟨q, ezp⟩)]
        have hzO : z ∉ O ++ [p] := fun h => by
          (rcases List.mem_append.mp h with h | h)
          · exact low z (U.u1 _ _ q) h
          · exact ezp (List.mem_singleton.mp h)
        rw [if_neg hzO, if_pos ((am z).mpr (.inr q))]
      · rw [if_neg (fun h => q ((fm z).mp h).1)]
        show (if z ∈ O then s z else if (O.any fun q => decide (z ∈ s q)) = true then [] else [z]) = _
        by_cases h1 : z ∈ O
        · rw [if_pos h1, if_pos (List.mem_append_left _ h1)]
        · have h1' : z ∉ O ++ [p] := fun h => by
            (rcases List.mem_append.mp h with h | h)
            · exact h1 h
            · exact ezp (List.mem_singleton.mp h)
          rw [if_neg h1, if_neg h1']
          by_cases h2 : (O.any fun q => decide (z ∈ s q)) = true
          · rw [if_pos h2, if_pos ((am z).mpr (.inl h2))]
          · rw [if_neg h2, if_neg (fun h => ((am z).mp h).elim h2 q)]
end
end HW
set_option Elab.async false
set_option maxRecDepth 100000
set_option linter.all false
namespace HW
open PySem L2
def top (i : Nat) : Stmt := PySem.Challenge.pw_heelrow_k68_whole_which_piles_come.main.body.getD i (.Pass ⟨0, 0, 0, 0⟩)
abbrev s_is_name : Stmt := top 13
theorem sc_is_name : FnScope ["thing", "sign"] ["thing"] (defScope s_is_name) := ⟨rfl, rfl, rfl, by decide +kernel, rfl, by decide +kernel, by decide +kernel⟩
abbrev s_is_person : Stmt := top 14
theorem sc_is_person : FnScope ["thing"] ["thing"] (defScope s_is_person) := ⟨rfl, rfl, rfl, by decide +kernel, rfl, by decide +kernel, by decide +kernel⟩
abbrev s_upward : Stmt := top 15
theorem sc_upward : FnScope ["whom", "name", "found", "here"] ["whom", "name"] (defScope s_upward) := ⟨rfl, rfl, rfl, by decide +kernel, rfl, by decide +kernel, by decide +kernel⟩
abbrev s_odd_place : Stmt := top 16
theorem sc_odd_place : FnScope ["persons", "place", "person", "name", "other", "whom"] ["persons"] (defScope s_odd_place) := ⟨rfl, rfl, rfl, by decide +kernel, rfl, by decide +kernel, by decide +kernel⟩
abbrev s_webinit : Stmt := inClass (top 17) 0
theorem sc_webinit : FnScope ["self", "persons", "place"] ["self", "persons"] (defScope s_webinit) := ⟨rfl, rfl, rfl, by decide +kernel, rfl, by decide +kernel, by decide +kernel⟩
abbrev s_check_web : Stmt := top 18
theorem sc_check_web : FnScope ["thing"] ["thing"] (defScope s_check_web) := ⟨rfl, rfl, rfl, by decide +kernel, rfl, by decide +kernel, by decide +kernel⟩
abbrev s_whom_of : Stmt := top 20
theorem sc_whom_of : FnScope ["web", "name", "other"] ["web"] (defScope s_whom_of) := ⟨rfl, rfl, rfl, by decide +kernel, rfl, by decide +kernel, by decide +kernel⟩
abbrev s_names_by : Stmt := top 21
theorem sc_names_by : FnScope ["whom"] ["whom"] (defScope s_names_by) := ⟨rfl, rfl, rfl, by decide +kernel, rfl, by decide +kernel, by decide +kernel⟩
abbrev s_is_one : Stmt := top 23
theorem sc_is_one : FnScope ["whom", "thing"] ["whom", "thing"] (defScope s_is_one) := ⟨rfl, rfl, rfl, by decide +kernel, rfl, by decide +kernel, by decide +kernel⟩
abbrev s_check_calls : Stmt := top 24
theorem sc_check_calls : FnScope ["web", "calls", "whom", "place", "name"] ["web", "calls"] (defScope s_check_calls) := ⟨rfl, rfl, rfl, by decide +kernel, rfl, by decide +kernel, by decide +kernel⟩
abbrev s_check_piles : Stmt := top 26
theorem sc_check_piles : FnScope ["web", "piles", "whom", "met", "place", "pile", "name"] ["web", "piles"] (defScope s_check_piles) := ⟨rfl, rfl, rfl, by decide +kernel, rfl, by decide +kernel, by decide +kernel⟩
abbrev s_at_home : Stmt := top 27
theorem sc_at_home : FnScope ["whom", "name"] ["whom"] (defScope s_at_home) := ⟨rfl, rfl, rfl, by decide +kernel, rfl, by decide +kernel, by decide +kernel⟩
abbrev s_piles_by : Stmt := top 28
theorem sc_piles_by : FnScope ["whom", "calls", "words", "name"] ["whom", "calls"] (defScope s_piles_by) := ⟨rfl, rfl, rfl, by decide +kernel, rfl, by decide +kernel, by decide +kernel⟩
abbrev s_told_by : Stmt := top 29
theorem sc_told_by : FnScope ["words", "name"] ["words"] (defScope s_told_by) := ⟨rfl, rfl, rfl, by decide +kernel, rfl, by decide +kernel, by decide +kernel⟩
abbrev s_homes : Stmt := top 30
theorem sc_homes : FnScope ["words", "name", "word", "one"] ["words"] (defScope s_homes) := ⟨rfl, rfl, rfl, by decide +kernel, rfl, by decide +kernel, by decide +kernel⟩
abbrev s_piles : Stmt := top 31
theorem sc_piles : FnScope ["web", "calls"] ["web", "calls"] (defScope s_piles) := ⟨rfl, rfl, rfl, by decide +kernel, rfl, by decide +kernel, by decide +kernel⟩
abbrev s_line_up : Stmt := top 33
theorem sc_line_up : FnScope ["whom", "name", "found"] ["whom", "name"] (defScope s_line_up) := ⟨rfl, rfl, rfl, by decide +kernel, rfl, by decide +kernel, by decide +kernel⟩
abbrev s_words_of : Stmt := top 34
theorem sc_words_of : FnScope ["web", "piles"] ["web", "piles"] (defScope s_words_of) := ⟨rfl, rfl, rfl, by decide +kernel, rfl, by decide +kernel, by decide +kernel⟩
abbrev s_pairs_of : Stmt := top 35
theorem sc_pairs_of : FnScope ["whom", "names", "high", "low"] ["whom"] (defScope s_pairs_of) := ⟨rfl, rfl, rfl, by decide +kernel, rfl, by decide +kernel, by decide +kernel⟩
abbrev s_bar_by : Stmt := top 36
theorem sc_bar_by : FnScope ["whom", "words", "at", "name", "high", "low", "word"] ["whom", "words"] (defScope s_bar_by) := ⟨rfl, rfl, rfl, by decide +kernel, rfl, by decide +kernel, by decide +kernel⟩
abbrev s_bar : Stmt := top 37
theorem sc_bar : FnScope ["web", "piles"] ["web", "piles"] (defScope s_bar) := ⟨rfl, rfl, rfl, by decide +kernel, rfl, by decide +kernel, by decide +kernel⟩
abbrev s_through : Stmt := top 38
theorem sc_through : FnScope ["whom", "name", "place"] ["whom", "name", "place"] (defScope s_through) := ⟨rfl, rfl, rfl, by decide +kernel, rfl, by decide +kernel, by decide +kernel⟩
abbrev s_parts_of : Stmt := top 39
theorem sc_parts_of : FnScope ["whom", "word", "place", "found", "name", "by"] ["whom", "word", "place"] (defScope s_parts_of) := ⟨rfl, rfl, rfl, by decide +kernel, rfl, by decide +kernel, by decide +kernel⟩
abbrev s_gathered : Stmt := top 40
theorem sc_gathered : FnScope ["whom", "word", "place", "found", "by", "part"] ["whom", "word", "place"] (defScope s_gathered) := ⟨rfl, rfl, rfl, by decide +kernel, rfl, by decide +kernel, by decide +kernel⟩
abbrev s_from_behind : Stmt := top 41
theorem sc_from_behind : FnScope ["whom", "words", "found", "place", "name"] ["whom", "words"] (defScope s_from_behind) := ⟨rfl, rfl, rfl, by decide +kernel, rfl, by decide +kernel, by decide +kernel⟩
abbrev s_fewest_by : Stmt := top 42
theorem sc_fewest_by : FnScope ["whom", "words"] ["whom", "words"] (defScope s_fewest_by) := ⟨rfl, rfl, rfl, by decide +kernel, rfl, by decide +kernel, by decide +kernel⟩
abbrev s_coming : Stmt := top 43
theorem sc_coming : FnScope ["web", "piles", "found"] ["web", "piles"] (defScope s_coming) := ⟨rfl, rfl, rfl, by decide +kernel, rfl, by decide +kernel, by decide +kernel⟩
abbrev s_fewest : Stmt := top 44
theorem sc_fewest : FnScope ["web", "piles", "whom", "words"] ["web", "piles"] (defScope s_fewest) := ⟨rfl, rfl, rfl, by decide +kernel, rfl, by decide +kernel, by decide +kernel⟩
abbrev s_l_cell : Stmt := top 46
theorem sc_l_cell : FnScope ["_law_script", "_law_k", "_law_state", "_law_cell_here"] ["_law_script", "_law_k"] (defScope s_l_cell) := ⟨rfl, rfl, rfl, by decide +kernel, rfl, by decide +kernel, by decide +kernel⟩
abbrev s_l_purse : Stmt := top 47
theorem sc_l_purse : FnScope ["_law_cell_here", "_law_digits"] ["_law_cell_here"] (defScope s_l_purse) := ⟨rfl, rfl, rfl, by decide +kernel, rfl, by decide +kernel, by decide +kernel⟩
abbrev s_l_take : Stmt := top 48
theorem sc_l_take : FnScope ["_law_purse_here", "_law_most", "_law_state", "_law_digit"] ["_law_purse_here", "_law_most"] (defScope s_l_take) := ⟨rfl, rfl, rfl, by decide +kernel, rfl, by decide +kernel, by decide +kernel⟩
abbrev s_l_titles : Stmt := top 49
theorem sc_l_titles : FnScope ["_law_purse_here", "_law_size", "_law_words", "_law_first", "_law_step", "_law_letters", "_law_stem", "_law_put", "_law_begin", "_law_found", "_law_k", "_law_sign"] ["_law_purse_here", "_law_size"] (defScope s_l_titles) := ⟨rfl, rfl, rfl, by decide +kernel, rfl, by decide +kernel, by decide +kernel⟩
abbrev s_l_folk : Stmt := top 50
theorem sc_l_folk : FnScope ["_law_purse_here", "_law_size", "_law_titles_here", "_law_mode", "_law_drawn", "_law_led", "_law_left", "_law_k", "_law_title"] ["_law_purse_here", "_law_size"] (defScope s_l_folk) := ⟨rfl, rfl, rfl, by decide +kernel, rfl, by decide +kernel, by decide +kernel⟩
abbrev s_l_up : Stmt := top 51
theorem sc_l_up : FnScope ["_law_folk_here", "_law_one", "_law_led", "_law_found"] ["_law_folk_here", "_law_one"] (defScope s_l_up) := ⟨rfl, rfl, rfl, by decide +kernel, rfl, by decide +kernel, by decide +kernel⟩
abbrev s_l_heaps : Stmt := top 52
theorem sc_l_heaps : FnScope ["_law_folk_here", "_law_some_here", "_law_led", "_law_heaps_here", "_law_one", "_law_title", "_law_other"] ["_law_folk_here", "_law_some_here"] (defScope s_l_heaps) := ⟨rfl, rfl, rfl, by decide +kernel, rfl, by decide +kernel, by decide +kernel⟩
abbrev s_l_some : Stmt := top 53
theorem sc_l_some : FnScope ["_law_purse_here", "_law_folk_here", "_law_most", "_law_able", "_law_many_here", "_law_title", "_law_other", "_law_k"] ["_law_purse_here", "_law_folk_here", "_law_most"] (defScope s_l_some) := ⟨rfl, rfl, rfl, by decide +kernel, rfl, by decide +kernel, by decide +kernel⟩
abbrev s_l_lay : Stmt := top 54
theorem sc_l_lay : FnScope ["_law_folk_here", "_law_heaps_here", "_law_one", "_law_titles_here", "_law_led", "_law_found", "_law_high", "_law_under", "_law_title", "_law_other"] ["_law_folk_here", "_law_heaps_here", "_law_one"] (defScope s_l_lay) := ⟨rfl, rfl, rfl, by decide +kernel, rfl, by decide +kernel, by decide +kernel⟩
abbrev s_l_closure : Stmt := top 55
theorem sc_l_closure : FnScope ["_law_folk_here", "_law_one", "_law_able", "_law_home", "_law_found", "_law_at", "_law_later", "_law_heaps_here", "_law_after", "_law_high"] ["_law_folk_here"] (defScope s_l_closure) := ⟨rfl, rfl, rfl, by decide +kernel, rfl, by decide +kernel, by decide +kernel⟩
abbrev s_l_every : Stmt := top 56
theorem sc_l_every : FnScope ["_law_folk_here", "_law_found", "_law_one", "_law_high", "_law_later", "_law_heaps_here", "_law_spot", "_law_heap", "_law_k"] ["_law_folk_here"] (defScope s_l_every) := ⟨rfl, rfl, rfl, by decide +kernel, rfl, by decide +kernel, by decide +kernel⟩
abbrev s_l_bars : Stmt := top 57
theorem sc_l_bars : FnScope ["_law_folk_here", "_law_heaps_here", "_law_told", "_law_one", "_law_high", "_law_titles_here", "_law_at", "_law_spot", "_law_heap", "_law_word", "_law_under"] ["_law_folk_here", "_law_heaps_here", "_law_told"] (defScope s_l_bars) := ⟨rfl, rfl, rfl, by decide +kernel, rfl, by decide +kernel, by decide +kernel⟩
abbrev s_law : Stmt := top 58
theorem sc_law : FnScope ["_law_script", "_law_k", "_law_purse_here", "_law_folk_here", "_law_net", "_law_found", "_law_heaps_here", "_law_told", "_law_turn"] ["_law_script"] (defScope s_law) := ⟨rfl, rfl, rfl, by decide +kernel, rfl, by decide +kernel, by decide +kernel⟩
end HW
set_option Elab.async false
set_option maxRecDepth 100000
set_option linter.all false
namespace HW
open PySem L2

/-! ### words of the heap -/
theorem same_new {H : Hp} {p : Addr} (h : H p = none) (o : HO) : Same H (upd H p o) := fun b u q => by rw [upd_ne (ne_of_none q h)]; exact q
theorem same_upd {H H' : Hp} {p : Addr} {o : HO} (s : Same H H') (hp : H p = none) : Same H (upd H' p o) := fun b u q => by
  rw [upd_ne (ne_of_none q hp)]; exact s _ _ q
theorem Same.tupT {K : PySem.W.Frag} {H H' : Hp} {a : Addr} {xs : List V} (e : Same H H') (h : SqT K H a xs) : SqT K H' a xs := by
  (rcases h with (h | ⟨o, h⟩) | h)
  · exact .inl (.inl (e _ _ h))
  · (exact .inl (.inr ⟨o, e _ _ h⟩))
  · exact .inr h

def optV : Option Str → V
  | none => .non
  | some x => .str x
theorem optV_non {o : Option Str} : (optV o = V.non) ↔ o = none := by
  cases o with
  | none => exact ⟨fun _ => rfl, fun _ => rfl⟩
  | some x => exact ⟨fun h => (nomatch h), fun h => (nomatch h)⟩

theorem catA_of {K : PySem.W.Frag} {H : Hp} {Q : VK} {a b : Addr} {xs ys : List V} (ha : H a = some (.tup xs)) (hb : H b = some (.tup ys)) (hz : xs.length + ys.length ≤ sizeLine)
    (q : ∀ p H', Same H H' → H' p = some (.tup (xs ++ ys)) → Q (.ref p) H') : rCatA K (.ref a) (.ref b) H Q := by
  refine ⟨a, b, xs, ys, rfl, rfl, SqT.of ha, SqT.of hb, hz, fun e => ?_, fun _ e => ?_, fun _ _ p hp => ?_⟩
  · exact q b H (Same.refl H) (by rw [e]; exact hb)
  · exact q a H (Same.refl H) (by rw [e, List.append_nil]; exact ha)
  · exact q p _ (same_new hp _) upd_same
theorem cutV_whole (xs : List V) {lo hi : Option Int} (h1 : HT.sIx xs.length 0 lo = 0) (h2 : HT.sIx xs.length xs.length hi = xs.length) : cutV xs lo hi = xs := by
  unfold cutV
  rw [h1, h2]
  simp
theorem slA_of {K : PySem.W.Frag} {H : Hp} {Q : VK} {a : Addr} {xs : List V} {lo hi : Option Int} (ha : H a = some (.tup xs))
    (q : ∀ p H', Same H H' → H' p = some (.tup (cutV xs lo hi)) → Q (.ref p) H') : rSlA K (.ref a) lo hi H Q := by
  refine ⟨a, xs, rfl, SqT.of ha, fun e => ?_, fun _ p hp => ?_⟩
  · exact q a H (Same.refl H) (by rw [cutV_whole xs e.1 e.2]; exact ha)
  · exact q p _ (same_new hp _) upd_same

/-! ### webs -/
def letters : Str := "abcdefghijklmnopqrstuvwxyz"
structure NameOk (x : Str) : Prop where
  l1 : 1 ≤ x.length
  l6 : x.length ≤ 6
  az : ∀ c ∈ x.cps.toList, c ∈ letters.cps.toList
structure OkWeb (N : List Str) (par : Str → Option Str) (r : Str → Nat) : Prop where
  n1 : 1 ≤ N.length
  n4 : N.length ≤ 4
  nd : N.Nodup
  srt : N.Pairwise fun a b => a.cps.toList < b.cps.toList
  ok : ∀ n ∈ N, NameOk n
  pin : ∀ n p, par n = some p → n ∈ N ∧ p ∈ N
  rk : Rk par r
  rb : ∀ n ∈ N, r n < N.length

/-- whom a Python dict of the web tells -/
def IsWhom (H : Hp) (d : Addr) (N : List Str) (par : Str → Option Str) : Prop := H d = some (.dK (N.map fun n => (Sum.inr n, optV (par n))))
/-- a tuple of objects, known whole -/
def tupO (ts : List Addr) : Obj := { cls := .type "tuple", data := .seq (ts.map Value.ref).toArray }
/-- the tuple of (NAME, WHOM) -/
def IsFolk (H : Hp) (t : Addr) (N : List Str) (par : Str → Option Str) : Prop := ∃ ts : List Addr, H t = some (.frz (tupO ts) (.tup (ts.map V.ref))) ∧ Paired (fun b n => H b = some (.tup [V.str n, optV (par n)])) ts N
/-- PILES: a tuple of tuples of names -/
def IsPiles (H : Hp) (a : Addr) (ps : List (List Str)) : Prop := ∃ bs : List Addr, H a = some (.tup (bs.map V.ref)) ∧ Paired (fun b w => H b = some (.tup (w.map V.str))) bs ps
/-- piles by the names of those at whom they stand -/
def IsWords (H : Hp) (d : Addr) (N : List Str) (ws : Str → List Str) : Prop := ∃ f : Str → Addr, H d = some (.dK (N.map fun n => (Sum.inr n, V.ref (f n)))) ∧ ∀ n ∈ N, H (f n) = some (.tup ((ws n).map V.str))
def IsStrs (H : Hp) (a : Addr) (xs : List Str) : Prop := H a = some (.lst (xs.map V.str))
def IsStrT (H : Hp) (a : Addr) (xs : List Str) : Prop := H a = some (.tup (xs.map V.str))
def IsWeb (C : Addr) (H : Hp) (x : Addr) (N : List Str) (par : Str → Option Str) : Prop := ∃ dx t, H x = some (.ins C dx [("persons", V.ref t)]) ∧ IsFolk H t N par

theorem paired_mono {α β : Type} {F G : α → β → Prop} {l₁ : List α} {l₂ : List β} (h : Paired F l₁ l₂) (f : ∀ a b, F a b → G a b) : Paired G l₁ l₂ := Paired.mapP h f
theorem paired_get {α β : Type} {F : α → β → Prop} : ∀ {l₁ : List α} {l₂ : List β} {i : Nat} {b : β}, Paired F l₁ l₂ → l₂[i]? = some b → ∃ a, l₁[i]? = some a ∧ F a b
  | _, _, _, _, .nil, e => (by simp at e)
  | _, _, 0, _, .cons r _, e => (by simp at e; subst e; exact ⟨_, rfl, r⟩)
  | _, _, i + 1, b, .cons _ t, e => by
    obtain ⟨a, h1, h2⟩ := paired_get (i := i) (b := b) t (by simpa using e)
    exact ⟨a, by simpa using h1, h2⟩
theorem paired_getL {α β : Type} {F : α → β → Prop} : ∀ {l₁ : List α} {l₂ : List β} {i : Nat} {a : α}, Paired F l₁ l₂ → l₁[i]? = some a → ∃ b, l₂[i]? = some b ∧ F a b
  | _, _, _, _, .nil, e => (by simp at e)
  | _, _, 0, _, .cons r _, e => (by simp at e; subst e; exact ⟨_, rfl, r⟩)
  | _, _, i + 1, b, .cons _ t, e => by
    obtain ⟨a, h1, h2⟩ := paired_getL (i := i) (a := b) t (by simpa using e)
    exact ⟨a, by simpa using h1, h2⟩
theorem paired_append {α β : Type} {F : α → β → Prop} : ∀ {l₁ m₁ : List α} {l₂ m₂ : List β}, Paired F l₁ l₂ → Paired F m₁ m₂ → Paired F (l₁ ++ m₁) (l₂ ++ m₂)
  | _, _, _, _, .nil, h => h
  | _, _, _, _, .cons r t, h => .cons r (paired_append t h)
theorem paired_snoc {α β : Type} {F : α → β → Prop} {l₁ : List α} {l₂ : List β} {a : α} {b : β} (h : Paired F l₁ l₂) (r : F a b) : Paired F (l₁ ++ [a]) (l₂ ++ [b]) := paired_append h (.cons r .nil)

section
variable {H H' : Hp} {a d t x C : Addr} {N : List Str} {par : Str → Option Str} {ws : Str → List Str} {ps : List (List Str)} {xs : List Str}
theorem IsWhom.same (h : IsWhom H d N par) (s : Same H H') : IsWhom H' d N par := s _ _ h
theorem IsFolk.same (h : IsFolk H t N par) (s : Same H H') : IsFolk H' t N par := let ⟨ts, e, p⟩ := h; ⟨ts, s _ _ e, paired_mono p fun _ _ q => s _ _ q⟩
theorem frzT {K : PySem.W.Frag} {ts : List Addr} (h : H t = some (.frz (tupO ts) (.tup (ts.map V.ref)))) : SqT K H t (ts.map V.ref) := .inl (.inr ⟨_, h⟩)
theorem IsPiles.same (h : IsPiles H a ps) (s : Same H H') : IsPiles H' a ps := let ⟨ts, e, p⟩ := h; ⟨ts, s _ _ e, paired_mono p fun _ _ q => s _ _ q⟩
theorem IsWords.same (h : IsWords H d N ws) (s : Same H H') : IsWords H' d N ws := let ⟨f, e, p⟩ := h; ⟨f, s _ _ e, fun n hn => s _ _ (p n hn)⟩
theorem IsStrs.same (h : IsStrs H a xs) (s : Same H H') : IsStrs H' a xs := s _ _ h
theorem IsStrT.same (h : IsStrT H a xs) (s : Same H H') : IsStrT H' a xs := s _ _ h
theorem IsWeb.same (h : IsWeb C H x N par) (s : Same H H') : IsWeb C H' x N par := let ⟨dx, t, e, p⟩ := h; ⟨dx, t, s _ _ e, p.same s⟩
theorem valV_map_of {κ : Type} [DecidableEq κ] {f : κ → V} {k : κ} : ∀ {l : List κ}, k ∈ l → valV (l.map fun n => (n, f n)) k = some (f k)
  | [], h => by cases h
  | n :: l, h => by
    by_cases e : n = k
    · subst e
      exact valV_pos (p := (n, f n)) rfl
    · rw [List.map_cons, valV_neg (p := (n, f n)) e]
      exact valV_map_of ((List.mem_cons.mp h).resolve_left fun z => e z.symm)
theorem valV_inr {f : Str → V} {k : Str} : ∀ {l : List Str}, k ∈ l → valV (l.map fun n => ((Sum.inr n : Key), f n)) (Sum.inr k) = some (f k)
  | [], h => by cases h
  | n :: l, h => by
    by_cases e : n = k
    · subst e
      exact valV_pos (p := ((Sum.inr n : Key), f n)) rfl
    · rw [List.map_cons, valV_neg (p := ((Sum.inr n : Key), f n)) (fun z => e (Sum.inr.inj z))]
      exact valV_inr ((List.mem_cons.mp h).resolve_left fun z => e z.symm)
theorem valV_inr_no {f : Str → V} {k : Str} : ∀ {l : List Str}, k ∉ l → valV (l.map fun n => ((Sum.inr n : Key), f n)) (Sum.inr k) = none
  | [], h => rfl
  | n :: l, h => by
    have e : n ≠ k := fun z => h (z ▸ List.mem_cons_self)
    rw [List.map_cons, valV_neg (p := ((Sum.inr n : Key), f n)) (fun z => e (Sum.inr.inj z))]
    exact valV_inr_no fun z => h (List.mem_cons_of_mem _ z)
theorem IsWhom.get (h : IsWhom H d N par) {n : Str} (hn : n ∈ N) : DGet H d (V.str n) (some (optV (par n))) := by
  have g := DGet.k (k := Sum.inr n) h
  rw [valV_inr (f := fun n => optV (par n)) hn] at g
  exact g
theorem IsWhom.isIn (h : IsWhom H d N par) (n : Str) : ∃ o, DGet H d (V.str n) o ∧ o.isSome = decide (n ∈ N) := by
  refine ⟨_, DGet.k (k := Sum.inr n) h, ?_⟩
  by_cases hn : n ∈ N
  · rw [valV_inr (f := fun n => optV (par n)) hn, decide_eq_true hn]; rfl
  · rw [valV_inr_no (f := fun n => optV (par n)) hn, decide_eq_false hn]; rfl
end

/-! ### the line upward -/
def line (par : Str → Option Str) : Nat → Str → List Str
  | 0, x => [x]
  | n + 1, x => x :: (match par x with
    | none => []
    | some p => line par n p)
def ln (par : Str → Option Str) (x : Str) : List Str := line par 4 x
theorem line_more {par : Str → Option Str} {r : Str → Nat} (hr : Rk par r) : ∀ (n : Nat) (x : Str), r x ≤ n → line par (n + 1) x = line par n x
  | 0, x, h => by
    show x :: (match par x with | none => [] | some p => line par 0 p) = [x]
    cases e : par x with
    | none => rfl
    | some p => have := hr x p e; omega
  | n + 1, x, h => by
    show x :: (match par x with | none => [] | some p => line par (n + 1) p) = x :: (match par x with | none => [] | some p => line par n p)
    cases e : par x with
    | none => rfl
    | some p =>
      have := hr x p e
      show x :: line par (n + 1) p = x :: line par n p
      rw [line_more hr n p (by omega)]
section
variable {N : List Str} {par : Str → Option Str} {r : Str → Nat}
theorem OkWeb.r3 (W : OkWeb N par r) {x p : Str} (h : par x = some p) : r x ≤ 3 := by
  have := W.rb x (W.pin x p h).1
  have := W.n4
  omega
theorem ln_none {x : Str} (h : par x = none) : ln par x = [x] := by
  show x :: (match par x with | none => [] | some p => line par 3 p) = [x]
  rw [h]
theorem OkWeb.ln_some (W : OkWeb N par r) {x p : Str} (h : par x = some p) : ln par x = x :: ln par p := by
  show x :: (match par x with | none => [] | some p => line par 3 p) = x :: line par 4 p
  rw [h]
  show x :: line par 3 p = x :: line par 4 p
  rw [line_more W.rk 3 p (by have := W.rk x p h; have := W.r3 h; omega)]
theorem ln_head (x : Str) : ∃ l, ln par x = x :: l := ⟨_, rfl⟩
theorem OkWeb.mem_ln (W : OkWeb N par r) {x y : Str} : y ∈ ln par x ↔ Up par x y := by
  constructor
  · have key : ∀ n x, y ∈ line par n x → Up par x y := by
      intro n
      induction n with
      | zero => intro x h; have e : y = x := List.mem_singleton.mp h; subst e; exact .refl _
      | succ n ih =>
        intro x h
        have h' : y ∈ x :: (match par x with | none => [] | some p => line par n p) := h
        rcases List.mem_cons.mp h' with e | h'
        · subst e; exact .refl _
        · cases e : par x with
          | none => (rw [e] at h'; cases h')
          | some p => rw [e] at h'; exact .step e (ih p h')
    exact key 4 x
  · intro h
    induction h with
    | refl x => exact List.mem_cons_self
    | step h1 _ ih => rw [W.ln_some h1]; exact List.mem_cons_of_mem _ ih
theorem OkWeb.up_in (W : OkWeb N par r) {x y : Str} (h : Up par x y) (hx : x ∈ N) : y ∈ N := by
  induction h with
  | refl x => exact hx
  | step h1 _ ih => exact ih (W.pin _ _ h1).2
theorem OkWeb.ln_len (W : OkWeb N par r) : ∀ (n : Nat) (x : Str), r x ≤ n → (ln par x).length ≤ r x + 1
  | n, x, h => by
    cases e : par x with
    | none => rw [ln_none e]; simp
    | some p =>
      have := W.rk x p e
      cases n with
      | zero => omega
      | succ n =>
        have := W.ln_len n p (by omega)
        rw [W.ln_some e, List.length_cons]
        omega
theorem OkWeb.ln_le (W : OkWeb N par r) {x : Str} (hx : x ∈ N) : (ln par x).length ≤ N.length := by
  have := W.ln_len _ x (Nat.le_refl _)
  have := W.rb x hx
  omega
theorem OkWeb.ln_in (W : OkWeb N par r) {x y : Str} (hx : x ∈ N) (h : y ∈ ln par x) : y ∈ N := W.up_in (W.mem_ln.mp h) hx
end
end HW
set_option Elab.async false
set_option maxRecDepth 100000
set_option linter.all false
set_option maxHeartbeats 4000000
/-! enumerate over a tuple -/
namespace HW
open L2 PyProof.Rows PySem PySem.Spec

theorem meets_enum1 {v : Value} {o : Obj} {H : Heap → Prop} (B : Begins v o H) :
    Meets (Builtin.«enumerate.__new__» ⟨[.type "enumerate", v], []⟩) (fun _ R s => H s.heap ∧
      R (.ok (.ret (.ref (s.heap.push o).objs.size))) { s with heap := (s.heap.push o).push { cls := .type "enumerate", data := .fields #[.none, .bool false, .ref s.heap.objs.size, rawInt 0, .none, .none] } }) := .of_wp fun prog w A R s h => by
    (obtain ⟨hp, g, d, tk, os⟩ := s; obtain ⟨h1, h⟩ := h); have hsub := sub_enumerate
    have q1 : (∀ {A' : Around} {E : Value → Shared → Prop} {Q : Value → Shared → Prop}, Q (.ref hp.objs.size) ⟨hp.push o, g, d, tk, os⟩ → wpAny (model prog w) A' (pyIter v) Q E ⟨hp, g, d, tk, os⟩) := fun q => B.iter prog w _ _ ⟨hp, g, d, tk, os⟩ _ h1 q
    (wp_walk using q1); refine wpAny_stack_any fun st => wpAny_pure ?_
    split
    · rename_i c _ _ _ _ _
      (cases (c == Value.type "enumerate"))
      · wp_walk using q1
        exact ⟨_, rfl, h⟩
      · wp_walk using q1
        exact ⟨_, rfl, h⟩
    · wp_walk using q1
      exact ⟨_, rfl, h⟩
section
variable {s : Shared} {E : Value → Shared → Prop} {A : Around} {w : World} {prog : Program}
theorem enum_begins1 {v : Value} {o : Obj} {H : Heap → Prop} {Q : Value → Shared → Prop} (B : Begins v o H) (h1 : H s.heap)
    (h : ∀ h', IsEnum h' (s.heap.objs.size + 1) s.heap.objs.size 0 .none → h'.get? s.heap.objs.size = some o → h'.objs.size = s.heap.objs.size + 2 → (∀ b o, s.heap.get? b = some o → h'.get? b = some o) → Q (.ref (s.heap.objs.size + 1)) { s with heap := h' }) :
    wpAny (model prog w) A (call (.type "enumerate") [v]) Q E s := by
  refine callType_new F.called_enumerate (by decide) (F.typeCall_enumerate_1 _) (F.newCall_enumerate_1 _) (fun obj => F.args_object_init_2 obj _) F.entry_enumerate_new
    (meets_enum1 B) ⟨h1, ?_⟩
  (have hz : (s.heap.push o).objs.size = s.heap.objs.size + 1 := Heap.size_push ..); show _ ∧ _
  rw [hz]
  have he : IsEnum ((s.heap.push o).push { cls := .type "enumerate", data := .fields #[.none, .bool false, .ref s.heap.objs.size, rawInt 0, .none, .none] }) (s.heap.objs.size + 1) s.heap.objs.size 0 .none := by
    have := Heap.get?_push_size (s.heap.push o) (o := { cls := .type "enumerate", data := .fields #[.none, .bool false, .ref s.heap.objs.size, rawInt 0, .none, .none] }) rfl
    rw [hz] at this; exact this
  (refine ⟨⟨_, he, rfl⟩, h _ he (Heap.get?_push_of_some _ (Heap.get?_push_size _ B.free)) (by rw [Heap.size_push, hz]) fun b o x => Heap.get?_push_of_some _ (Heap.get?_push_of_some _ x)⟩)
end

/-- the tuple at a, its places and items in new pairs -/
def IteT (K : PySem.W.Frag) (a : Addr) : It :=
  ⟨fun i H => ∃ xs x, SqT K H a xs ∧ xs[i]? = some x,
    fun i H v H' => ∃ T x, v = .ref T ∧ H T = none ∧ H' = upd H T (.tup [.int (i : Nat), x]) ∧ ∀ xs, SqT K H a xs → xs[i]? = some x,
    fun i H => ∃ xs, SqT K H a xs ∧ xs.length ≤ i⟩
theorem turn_enumT {P : Program} {w : World} {K : PySem.W.Frag} {elts : List Expr} {kk : Nat} {tpos : Pos} (a e it : Addr) :
    Turn P w K (.Tuple elts kk tpos) (IteT K a) [e, it] e (fun i h => (∃ old, IsEnum h e it ((i : Nat) : Int) old) ∧ h.IsTupleIter it a i ∧ e ≠ it) where
  mem := by simp
  obj := fun i h st b hb => by
    (obtain ⟨⟨old, he⟩, ⟨o, ho, hc, hd⟩, _⟩ := st); have e' : b = e ∨ b = it := by simpa using hb
    rcases e' with z | z
    · (rw [z]; exact ⟨_, he, fun v q => nomatch q⟩)
    · (rw [z]; exact ⟨o, ho, fun v q => by rw [hd] at q; cases q⟩)
  keep := fun i h h' sx k => let ⟨⟨old, he⟩, hi, hne⟩ := sx; ⟨⟨old, k e (by simp) _ he⟩, hi.at fun o q => k it (by simp) o q, hne⟩
  item := by
    (intro X hP hw hK hc i pins s σ H E I hf st hg); subst hP hw hK
    (obtain ⟨⟨old, he⟩, hit, hne⟩ := st); obtain ⟨xs, x, hq, hx⟩ := hg
    (obtain ⟨its, rv, p, hz⟩ := I.tuple hq); obtain ⟨u, hu, ru⟩ := rv.get hx
    (have hel : e < s.heap.objs.size := Heap.lt_size he); have hil : it < s.heap.objs.size := by obtain ⟨_, q, _⟩ := hit; exact Heap.lt_size q
    have hT0 : s.heap.IsTuple a its.toArray := p
    have hae : a ≠ e := fun z => by obtain ⟨o, q, c, _⟩ := p; rw [z, he] at q; cases q; simp at c
    have hai : a ≠ it := fun z => by obtain ⟨o, q, c, _⟩ := p; obtain ⟨o2, q2, c2, _⟩ := hit; rw [z, q2] at q; cases q; rw [c2] at c; simp at c
    have hlt : i < its.toArray.size := by
      have := (List.getElem?_eq_some_iff.mp hu).1
      simpa using this
    refine wpAny_pyNext_enum_itemD (Draws.tuple (A := X.A.in1) (I.ok.hd hc) it a hai its.toArray) he ⟨hit, hT0⟩ hlt hne (by simp [hne, Ne.symm hae]) fun y h' tk hy ho hst' hT hsz hk => ?_
    have ey : y = u := by
      have : its.toArray[i]? = some u := by simpa using hu
      rw [this] at hy
      exact (Option.some.inj hy).symm
    subst ey
    obtain ⟨hit', _⟩ := hst'
    refine ⟨_, rfl, wpAny_letOwnedTupleGo_enum (s := { s with heap := h', toks := tk + 1 }) ho fun h'' he' sb => ?_⟩
    have hT2 : h''.get? s.heap.objs.size = some { cls := .type "tuple", data := .seq #[.int i tk, y] } := (sb.2 _ (Nat.ne_of_gt hel)).trans hT
    have new : (ObjOk X.prog X.w (upd H s.heap.objs.size (.tup [.int (i : Nat), x])) h'' s.heap.objs.size (.tup [.int (i : Nat), x])) :=
      ⟨by show 2 ≤ sizeLine; decide, [.int i tk, y], .cons ⟨_, rfl⟩ (.cons ru .nil), ⟨_, hT2, rfl, _, rfl⟩⟩
    have I1 : Inv X pins σ (upd H s.heap.objs.size (.tup [.int (i : Nat), x])) { s with heap := h'', toks := tk + 1 } := I.turnedNew (ch := [e, it]) (fun b ob hb q => (sb.2 b (fun z => hb (by simp [z]))).trans (hk b ob (fun z => hb (by simp [z])) (fun z => hb (by simp [z])) q)) hf (Nat.le_refl _) new
    refine ⟨.ref s.heap.objs.size, _, I1, rfl, ⟨_, x, rfl, I.hok.fresh (Nat.le_refl _), rfl, fun ys hy => by rw [I.tuple_inj hy hq]; exact hx⟩, ⟨⟨y, ?_⟩, hit'.at fun o q => (sb.2 it (Ne.symm hne)).trans q, hne⟩, fun b hb => ?_⟩
    · (have e1 : ((i + 1 : Nat) : Int) = (i : Int) + 1 := by omega); rw [e1]; exact he'
    · have hb' : (b < s.heap.objs.size) := by
        (have e' : b = e ∨ b = it := by simpa using hb); rcases e' with z | z
        · rw [z]; exact hel
        · rw [z]; exact hil
      (rw [upd_ne (Nat.ne_of_lt hb')]); exact (hf b hb).1
  done := by
    (intro X hP hw hK hc i pins s σ H E I hf st hg); subst hP hw hK
    (obtain ⟨⟨old, he⟩, hit, hne⟩ := st); obtain ⟨xs, hq, hx⟩ := hg
    (obtain ⟨its, rv, p, hz⟩ := I.tuple hq); obtain ⟨f0, f1, f2, f3, f4, f5⟩ := hf it (by simp)
    have hl := rv.length
    (have hT : s.TypeIs (.ref e) "enumerate" := ⟨_, he, rfl⟩); unfold pyNext
    refine wpAny_bind (wpAny_attempt (wpAny_callSpecial?_slot (name := Str.ofString "__next__") hT F.slot_enumerate_next (wpAny_call_entry F.slot_enumerate_next hT F.entry_enumerate_next ?_ (F.args_enumerate_next_1 _))))
    (show wpAny _ _ (field (.ref e) 2 >>= _) _ _ _); refine wpAny_bind (wpAny_field he rfl (x := .ref it) rfl ?_)
    refine wpAny_bind (wpAny_nextOf_tuple_end (I.ok.hd hc) hit (show s.heap.IsTuple a its.toArray from p) (by simp; omega) fun h' x he' hx' => ?_)
    obtain ⟨o, ho, hc⟩ := hx'
    (refine wpAny_bind (wpAny_isInstance (T := "StopIteration") (b := true) ⟨o, ho, hc⟩ isSubtype_stop ?_)); exact wpAny_pure ⟨rfl, I.turned (t' := s.toks) (fun b o hb q => he' b o hb q) f0 f1 f3 f4 f5⟩
  self := fun A i s Q E sx hx => let ⟨⟨_, he⟩, _⟩ := sx; wpAny_pyIter_enum he hx
def iEnumT (K : PySem.W.Frag) (ta : TA) : TI := fun σ H R => ta σ H fun vs H1 => ∃ a xs, vs = [.ref a] ∧ SqT K H1 a xs ∧ R (IteT K a) H1
theorem pi_enumT {X : Cx} {e : Expr} {ta : TA} {p pos tpos : Pos} {elts : List Expr} {kk : Nat} (hg : Gl X "enumerate") (hm : X.mg "enumerate" = none) (ha : PA X [e] ta) (hs : starEach [e] X.env = [(false, eval e X.env)] := by rfl) :
    PI X (.Tuple elts kk tpos) (.Call (.Name "enumerate" p) [e] [] pos) (iEnumT X.K ta) := by
  (refine ⟨fun pins s σ H R I h => ?_⟩); refine Call_ (ld_blt I hg hm boot_enumerate (PyProof.Rows.callWith_type1 (thn (ha.run pos pins s σ H _ I h) fun us s1 ⟨vs, H1, I1, r1, q1⟩ => ?_) hs rfl))
  (obtain ⟨a, xs, ex, hq, q⟩ := q1); subst ex
  cases r1 with
  | cons r rr =>
    cases rr
    cases r
    obtain ⟨its, rv, p', hz⟩ := I1.tuple hq
    refine enum_begins1 (begins_tuple a its.toArray) (show s1.heap.IsTuple a its.toArray from p') fun h' he hit hsz hk => wpAny_pyIter_enum he ?_
    (have I2 : Inv X pins σ H1 { s1 with heap := h' } := I1.kept (t' := s1.toks) hk); refine ⟨s1.heap.objs.size + 1, [s1.heap.objs.size + 1, s1.heap.objs.size], _, _, H1, rfl, I2, turn_enumT a (s1.heap.objs.size + 1) s1.heap.objs.size, ⟨⟨.none, he⟩, ⟨_, hit, rfl, rfl⟩, Nat.succ_ne_self _⟩, fun b hb => ?_, q⟩
    (have e' : b = s1.heap.objs.size + 1 ∨ b = s1.heap.objs.size := by simpa using hb); have hle : s1.heap.objs.size ≤ b := by
      rcases e' with z | z
      · (rw [z]; exact Nat.le_add_right _ _)
      · rw [z]; exact Nat.le_refl _
    (exact I1.fpOk hle (I1.hok.fresh hle))
/-- the loop's reading -/
theorem for_enumT {K : PySem.W.Frag} {a : Addr} {xs : List V} {g : TG} {tb : TS} {D : Ends} {σ : L2.St} {H : Hp} (Pv : Nat → L2.St → Hp → Prop) (h0 : Pv 0 σ H) (hl : ∀ i σ H, i ≤ xs.length → Pv i σ H → SqT K H a xs)
    (hs : ∀ i x T σ H, xs[i]? = some x → Pv i σ H → H T = none → g (.ref T) σ (upd H T (.tup [.int (i : Nat), x])) fun σ2 H2 => tb { D with nx := Pv (i + 1), ct := Pv (i + 1), bk := D.nx } σ2 H2) (hd : ∀ σ H, Pv xs.length σ H → D.nx σ H) : ∃ W : Nat → Nat → L2.St → Hp → Prop, (∃ m, W 0 m σ H) ∧ ∀ i m σ H, W i m σ H →
      ((IteT K a).stop i H ∧ D.nx σ H) ∨ ((IteT K a).go i H ∧ ∃ N : L2.St → Hp → Prop, (∀ σ' H', N σ' H' → ∃ m', m' < m ∧ W (i + 1) m' σ' H') ∧ ∀ x H', (IteT K a).yld i H x H' → g x σ H' fun σ2 H2 => tb { D with nx := N, ct := N, bk := D.nx } σ2 H2) := by
  (refine ⟨fun i m σ H => m = xs.length - i ∧ i ≤ xs.length ∧ Pv i σ H, ⟨xs.length, by simp, Nat.zero_le _, h0⟩, ?_⟩); rintro i m σ H ⟨rfl, hi, p⟩
  have q := hl i σ H hi p
  by_cases hlt : i < xs.length
  · (refine .inr ⟨⟨xs, xs[i], q, by simp [hlt]⟩, Pv (i + 1), fun σ' H' p' => ⟨xs.length - (i + 1), by omega, rfl, hlt, p'⟩, fun x H' y => ?_⟩); obtain ⟨T, z, ex, hT, eH, hz⟩ := y
    subst ex eH
    exact hs i z T σ H (hz xs q) p hT
  · (have e : i = xs.length := by omega); subst e
    (exact .inl ⟨⟨xs, q, Nat.le_refl _⟩, hd σ H p⟩)
end HW
set_option Elab.async false
set_option maxRecDepth 100000
set_option linter.all false
set_option maxHeartbeats 4000000
/-! {k: v for t0 in i0 for t1 in i1} -/
namespace HW
open PySem L2
section
variable {kx vx t0 i0 t1 i1 : Expr} {scope : Scope} {pos : Pos}
/-- the comprehension, its two clauses without tests -/
abbrev dc2 (kx vx t0 i0 t1 i1 : Expr) (scope : Scope) (pos : Pos) : Expr := .DictComp kx vx [⟨t0, i0, [], 0⟩, ⟨t1, i1, [], 0⟩] scope pos
theorem dc2_turn0 (it acc : Value) (env : Env) : compTurn (dc2 kx vx t0 i0 t1 i1 scope pos) 0 it acc env = (do
    standAt i0.pos
    match ← pyNext it with
    | none => pure (.done .next)
    | some v =>
      letOwnedTupleGo t0 it v
      assign t0 env v
      let y ← eval i1 env
      standAt i1.pos
      let y ← foldedSetIterable i1 env y
      let _ ← runOwn (.compStart (dc2 kx vx t0 i0 t1 i1 scope pos) 1 (← holding [y] (pyIter y)) acc env) env
      again (.compLoop (dc2 kx vx t0 i0 t1 i1 scope pos) 0 it acc env)) := by rfl
theorem dc2_turn1 (it : Value) (D : Addr) (env : Env) : compTurn (dc2 kx vx t0 i0 t1 i1 scope pos) 1 it (.ref D) env = (do
    standAt i1.pos
    match ← pyNext it with
    | none => pure (.done .next)
    | some v =>
      letOwnedTupleGo t1 it v
      assign t1 env v
      (do
        let kv ← eval kx env
        let v2 ← holding [kv] (eval vx env)
        (standAt { kx.pos with endLine := vx.pos.endLine, endCol := vx.pos.endCol })
        holding [kv, v2] (dictSet D kv v2))
      again (.compLoop (dc2 kx vx t0 i0 t1 i1 scope pos) 1 it (.ref D) env)) := by rfl

section
variable {prog : Program} {w : World} {A : Around} {env : Env}
/-- no error comes of it -/
abbrev Calm {α : Type} (prog : Program) (w : World) (A : Around) (t : Sem α) (Q : α → Shared → Prop) (s : Shared) : Prop := wpAny (model prog w) A t Q (fun _ _ => False) s
theorem Calm.to {α : Type} {t : Sem α} {Q Q' : α → Shared → Prop} {E : Value → Shared → Prop} {s : Shared} (h : Calm prog w A t Q s) (f : ∀ a s, Q a s → Q' a s) : wpAny (model prog w) A t Q' E s :=
  wpAny_mono h f fun _ _ z => z.elim
theorem dc2_loop0 {it acc : Value} {R : Result → Shared → Prop} (fold : ∀ x, foldedSetIterable i1 env x = pure x) (G : Nat → Shared → Prop)
    (turn : ∀ n s, G n s → Calm prog w A (pyNext it) (fun o s1 => match o with
      | none => R (.ok .next) s1
      | some v => Calm prog w A (letOwnedTupleGo t0 it v) (fun _ s2 => Calm prog w A (assign t0 env v) (fun _ s3 => Calm prog w A (eval i1 env) (fun x s4 => Calm prog w A (pyIter x) (fun j s5 =>
          codeAny (model prog w) A (.compStart (dc2 kx vx t0 i0 t1 i1 scope pos) 1 j acc env) (fun r s6 => (∃ f, r = .ok f) ∧ ∃ m, m < n ∧ G m s6) s5) s4) s3) s2) s1) s)
    (n : Nat) (s : Shared) (g : G n s) : codeAny (model prog w) A (.compLoop (dc2 kx vx t0 i0 t1 i1 scope pos) 0 it acc env) R s := by
  refine codeAny_loop rfl G (fun k u gk => ?_) n g
  refine (wpAny_noted ?_ : wpAny _ A ((compTurn (dc2 kx vx t0 i0 t1 i1 scope pos) 0 it acc env).onRaise fun x => do noteFrame x env; theTreesLotGoes x) _ _ u)
  rw [dc2_turn0]
  refine wpAny_bind (wpAny_standAt (wpAny_bind ((turn k u gk).to fun o u1 h1 => ?_)))
  cases o with
  | none => exact wpAny_pure h1
  | some v =>
    refine wpAny_bind (Calm.to h1 fun _ u2 h2 => wpAny_bind (Calm.to h2 fun _ u3 h3 => wpAny_bind (Calm.to h3 fun x u4 h4 => wpAny_bind (wpAny_standAt (wpAny_bind ?_)))))
    refine wpAny_of_eq (fold x) (wpAny_bind (wpAny_holding (Calm.to h4 fun j u5 h5 => wpAny_bind (wpAny_runOwn ?_))))
    rw [Around.mark_none]
    refine codeAny_mono h5 fun r u6 h6 => ?_
    obtain ⟨⟨f, rfl⟩, h6⟩ := h6
    first
      | exact wpAny_pure ⟨rfl, h6⟩
      | exact wpAny_bind (wpAny_pure (wpAny_pure ⟨rfl, h6⟩))
theorem dc2_loop1 {it : Value} {D : Addr} {R : Result → Shared → Prop} (G : Nat → Shared → Prop)
    (turn : ∀ n s, G n s → Calm prog w A (pyNext it) (fun o s1 => match o with
      | none => R (.ok .next) s1
      | some v => Calm prog w A (letOwnedTupleGo t1 it v) (fun _ s2 => Calm prog w A (assign t1 env v) (fun _ s3 => Calm prog w A (eval kx env) (fun a s4 => Calm prog w A (eval vx env) (fun b s5 =>
          Calm prog w A (dictSet D a b) (fun _ s6 => ∃ m, m < n ∧ G m s6) s5) s4) s3) s2) s1) s)
    (n : Nat) (s : Shared) (g : G n s) : codeAny (model prog w) A (.compLoop (dc2 kx vx t0 i0 t1 i1 scope pos) 1 it (.ref D) env) R s := by
  refine codeAny_loop rfl G (fun k u gk => ?_) n g
  refine (wpAny_noted ?_ : wpAny _ A ((compTurn (dc2 kx vx t0 i0 t1 i1 scope pos) 1 it (.ref D) env).onRaise fun x => do noteFrame x env; theTreesLotGoes x) _ _ u)
  rw [dc2_turn1]
  refine wpAny_bind (wpAny_standAt (wpAny_bind ((turn k u gk).to fun o u1 h1 => ?_)))
  cases o with
  | none => exact wpAny_pure h1
  | some v =>
    refine wpAny_bind (Calm.to h1 fun _ u2 h2 => wpAny_bind (Calm.to h2 fun _ u3 h3 => wpAny_bind ?_))
    exact wpAny_bind (Calm.to h3 fun a u4 h4 => wpAny_bind (wpAny_holding (Calm.to h4 fun b u5 h5 => wpAny_bind (wpAny_standAt (wpAny_holding (Calm.to h5 fun _ u6 h6 => wpAny_pure ⟨rfl, h6⟩))))))
theorem dc2_start1 {it acc : Value} {R : Result → Shared → Prop} {s : Shared} (h0 : codeAny (model prog w) A (.compLoop (dc2 kx vx t0 i0 t1 i1 scope pos) 1 it acc env) R s)
    (h : Calm prog w A (pyIter it) (fun j s1 => codeAny (model prog w) A (.compLoop (dc2 kx vx t0 i0 t1 i1 scope pos) 1 j acc env) R s1) s) :
    codeAny (model prog w) A (.compStart (dc2 kx vx t0 i0 t1 i1 scope pos) 1 it acc env) R s := by
  refine codeAny_of_tree (wpAny_notedAt ?_ : wpAny _ _ ((compStart (dc2 kx vx t0 i0 t1 i1 scope pos) 1 it acc env).onRaise fun x => do noteFrame x env; standAt theWindowsPlace) _ _ s)
  unfold compStart
  (show wpAny _ _ (ask >>= _) _ (fun _ _ => _) s); refine wpAny_bind (wpAny_askSetting (wpAny_ite ?_))
  split
  · first
      | exact wpAny_pure ⟨rfl, h0⟩
      | exact wpAny_bind (wpAny_pure (wpAny_pure ⟨rfl, h0⟩))
  · (refine wpAny_bind (wpAny_rule ?_)); show wpAny _ _ (standAt i1.pos >>= _) _ _ s
    exact wpAny_bind (wpAny_standAt (wpAny_bind (Calm.to h fun j s1 h1 => wpAny_pure ⟨rfl, h1⟩)))
end

/-! ### the reading -/
section
variable {X : Cx}
open L2
/-- behind the first target the second source's own loop, from which Nx is reached -/
def tDc2 (wi : TI) (g : TG) (wi1 : TI) (g1 : TG) (tk tv : TE) (vs vs1 : List Nat) : TE := fun σ H Q => wi σ H fun J H1 => ∀ D, H1 D = none → ∃ W : Nat → Nat → Hp → Prop, (∃ m, W 0 m (upd H1 D (.dK []))) ∧ ∀ i m H, W i m H →
  (J.stop i H ∧ Q (.ref D) H) ∨ (J.go i H ∧ ∃ Nx : Hp → Prop, (∀ H', Nx H' → ∃ m', m' < m ∧ W (i + 1) m' H') ∧ ∀ x H', J.yld i H x H' → g x (wipe σ vs) H' fun σ2 H2 => wipe σ2 vs = wipe σ vs ∧
    wi1 σ2 H2 fun J1 H4 => ∃ W1 : Nat → Nat → Hp → Prop, (∃ m, W1 0 m H4) ∧ ∀ j k H, W1 j k H →
      (J1.stop j H ∧ Nx H) ∨ (J1.go j H ∧ ∃ Nx1 : Hp → Prop, (∀ H', Nx1 H' → ∃ k', k' < k ∧ W1 (j + 1) k' H') ∧ ∀ x H', J1.yld j H x H' → g1 x (wipe σ2 vs1) H' fun σ3 H5 => wipe σ3 vs1 = wipe σ2 vs1 ∧
        tk σ3 H5 fun y H6 => tv σ3 H6 fun z H7 => ∃ kvs k, y = kV k ∧ H7 D = some (.dK kvs) ∧ kvs.length < sizeLine ∧ Nx1 (upd H7 D (.dK (putK kvs k z)))))
/-- a block's state at a turn -/
abbrev DcAt (B : Cx) (τ : L2.St) (pl : List (Addr × Obj)) (fp : List Addr) (tn : Nat → Heap → Prop) (W : Nat → Nat → Hp → Prop) (n : Nat) (u : Shared) : Prop :=
  ∃ i Hu, Inv B pl τ Hu u ∧ tn i u.heap ∧ (∀ b ∈ fp, Hu b = none) ∧ W i n Hu
/-- a turn's end: back to the slots that the loop keeps -/
theorem DcAt.next {B : Cx} {τ τ' : L2.St} {pl : List (Addr × Obj)} {fp : List Addr} {tg : Expr} {J : It} {it : Addr} {tn : Nat → Heap → Prop} {W : Nat → Nat → Hp → Prop} {n i : Nat} {u v : Shared} {Hv : Hp} {Nx : Hp → Prop} (T : Turn B.prog B.w B.K tg J fp it tn)
    (I : Inv B (pl ++ pinsAt fp u.heap) τ' Hv v) (hl : τ.length = τ'.length) (hk : ∀ (j : Nat) z, τ[j]? = some (some z) → τ'[j]? = some (some z)) (st : tn (i + 1) u.heap) (hNx : ∀ Hz, Nx Hz → ∃ m, m < n ∧ W (i + 1) m Hz) (nx : Nx Hv) :
    ∃ m, m < n ∧ DcAt B τ pl fp tn W m v := by
  obtain ⟨m, hm, wm⟩ := hNx Hv nx
  have at_ : ∀ b ∈ fp, ∀ o, u.heap.get? b = some o → v.heap.get? b = some o ∧ Hv b = none := fun b hb o e =>
    have q := I.pin (b, o) (List.mem_append_right _ (List.mem_append_right _ (mem_pinsAt hb e)))
    ⟨q.1, q.2.1⟩
  exact ⟨m, hm, i + 1, Hv, (I.unpinned (pins := pl)).weak hl hk, T.keep _ _ _ st fun b hb o e => (at_ b hb o e).1, fun b hb => let ⟨o, e, _⟩ := T.obj _ _ st b hb; (at_ b hb o e).2, wm⟩
/-- what is asked of the parts, whatever the block's context -/
structure Dc2Parts (X : Cx) (scope : Scope) (kx vx t0 t1 i1 : Expr) (g g1 : TG) (wi1 : TI) (tk tv : TE) : Prop where
  tg : ∀ s H C cl fp, PG (X.blk s H scope (compEnvC scope cl C X.env) fp) t0 g
  src : ∀ s H C cl fp, PI (X.blk s H scope (compEnvC scope cl C X.env) fp) t1 i1 wi1
  tg1 : ∀ s H C cl fp, PG (X.blk s H scope (compEnvC scope cl C X.env) fp) t1 g1
  key : ∀ s H C cl fp, PE (X.blk s H scope (compEnvC scope cl C X.env) fp) kx tk
  val : ∀ s H C cl fp, PE (X.blk s H scope (compEnvC scope cl C X.env) fp) vx tv
theorem pe_dc2 {own : List (Str × Nat)} {vs1 : List Nat} {wi wi1 : TI} {g g1 : TG} {tk tv : TE} (hc : X.calm = true) (hN : X.N.Nodup) (hi : PI X t0 i0 wi) (ok : BlkOk X.N X.env.scope scope own) (hv : ∀ i ∈ vs1, i ∈ own.map (·.2))
    (parts : Dc2Parts X scope kx vx t0 t1 i1 g g1 wi1 tk tv) (fold : ∀ x, foldedSetIterable i0 X.env x = pure x := by intro _; rfl) (fold1 : ∀ env x, foldedSetIterable i1 env x = pure x := by intro _ _; rfl) :
    PE X (dc2 kx vx t0 i0 t1 i1 scope pos) (tDc2 wi g wi1 g1 tk tv (own.map (·.2)) vs1) := by
  (refine ⟨fun pins s σ H Q I h => ?_⟩); rw [arm_eval_DictComp]
  have frees : ∀ y ∈ scope.names, y.2 = .free → ∃ c, X.env.cells.lookup y.1 = some c := fun y hy e => (ok.free y hy e).elim (fun q => I.ok.has _ (.inl q)) fun q => I.ok.has _ (.inr q)
  refine wpAny_comprehension_free (use := none) rfl fold (closure_ok frees) ok.kind (fun y hy e => by rw [ok.uniq y hy, e]) (thn (hi.run pins s σ H _ I h) fun xv sa ha => thn ha fun itv sb hb => ?_)
  (obtain ⟨it, fp, tn, J, Hb, rfl, Ib, T, stb, fb, q⟩ := hb); refine wpAny_newObj_type (newEnv_comp ?_)
  -- the new dict at D, the block's frame at Cb
  generalize eD : sb.heap.objs.size = D
  have nD : Hb D = none := Ib.hok.fresh (Nat.le_of_eq eD)
  obtain ⟨W, ⟨m0, w0⟩, turn⟩ := q D nD
  generalize eS : ({ sb with heap := sb.heap.push { cls := .type "dict", data := .dict #[] } } : Shared) = sc
  have hsc : sc.heap = sb.heap.push { cls := .type "dict", data := .dict #[] } := by rw [← eS]
  have Ic : Inv X pins σ (upd Hb D (.dK [])) sc := by
    rw [← eS]
    exact Ib.laid (t' := sb.toks) (fun b o e => Heap.get?_push_of_some _ e) (Nat.le_of_eq eD) (by rw [← eD]; exact dk_empty sb.heap Ib.big)
  have fpc : ∀ b ∈ fp, FpOk X pins (upd Hb D (.dK [])) b ∧ b < sc.heap.objs.size := fun b hb => by
    obtain ⟨o, e, _⟩ := T.obj _ _ stb b hb
    have lt := Heap.lt_size e
    have off : b ≠ D := by rw [← eD]; exact Nat.ne_of_lt lt
    exact ⟨⟨(upd_ne off).trans (fb b hb).1, (fb b hb).2⟩, by rw [hsc, Heap.size_push]; exact Nat.lt_succ_of_lt lt⟩
  have stc : tn 0 sc.heap := T.keep _ _ _ stb fun b _ o e => by rw [hsc]; exact Heap.get?_push_of_some _ e
  have Id := block_start Ic ok hN fpc
  generalize eCb : sc.heap.objs.size = Cb at Id fpc
  generalize eH : upd Hb D (.dK []) = Hc at Ic Id w0 fpc
  have nfp : ∀ b ∈ fp, Hc b = none := fun b hb => (fpc b hb).1.1
  have P0 := parts.tg sc Hc Cb (cellsFrom (Cb + 1) scope.names (cloFrom X.env.cells scope.names [])) fp
  have P1 := parts.src sc Hc Cb (cellsFrom (Cb + 1) scope.names (cloFrom X.env.cells scope.names [])) fp
  have P2 := parts.tg1 sc Hc Cb (cellsFrom (Cb + 1) scope.names (cloFrom X.env.cells scope.names [])) fp
  have P3 := parts.key sc Hc Cb (cellsFrom (Cb + 1) scope.names (cloFrom X.env.cells scope.names [])) fp
  have P4 := parts.val sc Hc Cb (cellsFrom (Cb + 1) scope.names (cloFrom X.env.cells scope.names [])) fp
  generalize eR : (compPost (model X.prog X.w) X.A X.xe none (EP X pins σ Q) (.ref D) Cb) = R
  have goal : codeAny (model X.prog X.w) X.A (.compStart (dc2 kx vx t0 i0 t1 i1 scope pos) 0 (.ref it) (.ref D) (compEnvC scope (cellsFrom (Cb + 1) scope.names (cloFrom X.env.cells scope.names [])) Cb X.env)) R { sc with heap := pushCells (sc.heap.push { cls := .type "dict", data := .dict #[] }) scope.names } := by
    generalize eE : compEnvC scope (cellsFrom (Cb + 1) scope.names (cloFrom X.env.cells scope.names [])) Cb X.env = env at Id P0 P1 P2 P3 P4 ⊢
    have eL : env.locals = Cb := by rw [← eE]; rfl
    generalize eT : ({ sc with heap := pushCells (sc.heap.push { cls := .type "dict", data := .dict #[] }) scope.names } : Shared) = sd at Id ⊢
    have std : tn 0 sd.heap := T.keep _ _ _ stc fun b _ o e => by rw [← eT]; exact pushCells_keeps _ _ _ _ (Heap.get?_push_of_some _ e)
    have own_ok : ∀ {τ : L2.St} {Hz : Hp} {u : Shared}, Inv (X.blk sc Hc scope env fp) [] τ Hz u → (∀ b ∈ fp, Hz b = none) → ∀ b ∈ fp, FpOk (X.blk sc Hc scope env fp) [] Hz b := fun Iz nz b hb =>
      ⟨nz b hb, (Iz.ok.exf b hb).1, Iz.ok.exfs b hb, .inl hb, fun x c e => (Iz.ok.exf b hb).2 x c e, fun p hp => absurd (show p ∈ ([] : List (Addr × Obj)) ++ [] from hp) (by simp)⟩
    have loop : codeAny (model X.prog X.w) X.A (.compLoop (dc2 kx vx t0 i0 t1 i1 scope pos) 0 (.ref it) (.ref D) env) R sd := by
      refine dc2_loop0 (fold1 env) (DcAt (X.blk sc Hc scope env fp) (wipe σ (own.map (·.2))) [] fp tn W) ?_ m0 sd ⟨0, Hc, Id, std, nfp, w0⟩
      rintro n u ⟨i, Hu, Iu, stu, nu, wu⟩
      rcases turn i n Hu wu with ⟨stop, done⟩ | ⟨go, Nx, hNx, step⟩
      · refine thn (T.done (X.blk sc Hc scope env fp) rfl rfl rfl hc i [] u _ Hu (fun _ _ => False) Iu (own_ok Iu nu) stu stop) fun o v ⟨eo, Iv⟩ => ?_
        subst eo
        have Iw : Inv X pins σ Hu v := Ic.call' (ch := fp) Iv.os Iv.base Iv.hok Iv.bare fun b hb => let q := (fpc b hb).1.2; ⟨q.2.2.1, q.1, q.2.2.2.1, q.2.2.2.2⟩
        have nCb : Hu Cb = none := by rw [← eL]; exact Iv.free
        obtain ⟨mm, hmm, _⟩ := Iv.loc
        have hmm' : v.heap.Ns env.locals mm := hmm
        rw [eL] at hmm'
        obtain ⟨k0, k1, k2, k3, k4, k5⟩ := Ic.fpOk (Nat.le_of_eq eCb) nCb
        show R (.ok .next) v
        rw [← eR]
        exact ⟨mm, hmm', fun hz sbz => ⟨.ref D, Hu, Iw.turned (t' := v.toks) (fun b o hb e => (sbz.2 b hb).trans e) k0 k1 k3 k4 k5, rfl, done⟩⟩
      · refine thn (T.item (X.blk sc Hc scope env fp) rfl rfl rfl hc i [] u _ Hu (fun _ _ => False) Iu (own_ok Iu nu) stu go) fun o v ⟨a, eo, hv0⟩ => ?_
        subst eo
        refine thn hv0 fun _ v1 ⟨x, H1, I1, r1, y1, st1, n1⟩ => ?_
        refine thn (P0.run _ v1 _ H1 x a _ (I1.pinned (own_ok I1 n1) (T.obj _ _ st1)) r1 (step x H1 y1)) fun _ v2 ⟨τ, H2, I2, hw, q2⟩ => ?_
        have len2 : (wipe σ (own.map (·.2))).length = τ.length := by rw [← hw, wipe_length]
        have kn3 : ∀ (j : Nat) z, (wipe σ (own.map (·.2)))[j]? = some (some z) → (wipe τ vs1)[j]? = some (some z) := fun j z e => by
          rw [← hw] at e
          exact (wipe_out fun q => (wipe_some e).2 (hv j q)).trans (wipe_some e).1
        refine thn (P1.run _ v2 τ H2 _ I2 q2) fun xv v3 h3 => thn h3 fun jv v4 h4 => ?_
        obtain ⟨it1, fp1, tn1, J1, H4, rfl, I4, T1, st4, f4, W1, ⟨m1, w1⟩, turn1⟩ := h4
        have own1 : ∀ {Hz : Hp}, (∀ b ∈ fp1, Hz b = none) → ∀ b ∈ fp1, FpOk (X.blk sc Hc scope env fp) ([] ++ pinsAt fp v1.heap) Hz b := fun nz b hb => ⟨nz b hb, (f4 b hb).2⟩
        have inner : codeAny (model X.prog X.w) X.A (.compLoop (dc2 kx vx t0 i0 t1 i1 scope pos) 1 (.ref it1) (.ref D) env) (fun r u' => (∃ f, r = .ok f) ∧ ∃ m, m < n ∧ DcAt (X.blk sc Hc scope env fp) (wipe σ (own.map (·.2))) [] fp tn W m u') v4 := by
          refine dc2_loop1 (DcAt (X.blk sc Hc scope env fp) (wipe τ vs1) ([] ++ pinsAt fp v1.heap) fp1 tn1 W1) ?_ m1 v4 ⟨0, H4, I4.weak (wipe_length _ _) (fun j z e => (wipe_some e).1), st4, fun b hb => (f4 b hb).1, w1⟩
          rintro k u' ⟨j, Hj, Ij, stj, nj, wj⟩
          rcases turn1 j k Hj wj with ⟨stop1, nx⟩ | ⟨go1, Nx1, hNx1, step1⟩
          · refine thn (T1.done (X.blk sc Hc scope env fp) rfl rfl rfl hc j _ u' _ Hj (fun _ _ => False) Ij (own1 nj) stj stop1) fun o z ⟨eo, Iz⟩ => ?_
            subst eo
            exact ⟨⟨_, rfl⟩, DcAt.next T Iz (len2.trans (wipe_length τ vs1).symm) kn3 st1 hNx nx⟩
          · refine thn (T1.item (X.blk sc Hc scope env fp) rfl rfl rfl hc j _ u' _ Hj (fun _ _ => False) Ij (own1 nj) stj go1) fun o z ⟨a1, eo, hz⟩ => ?_
            subst eo
            refine thn hz fun _ z1 ⟨x1, Hz1, Iz1, rz1, yz1, stz1, nz1⟩ => ?_
            refine thn (P2.run _ z1 _ Hz1 x1 a1 _ (Iz1.pinned (own1 nz1) (T1.obj _ _ stz1)) rz1 (step1 x1 Hz1 yz1)) fun _ z2 ⟨τ2, Hz2, Iz2, hw2, qz2⟩ => ?_
            refine thn (P3.run _ z2 τ2 Hz2 _ Iz2 qz2) fun kv z3 ⟨y3, Hz3, Iz3, rz3, qz3⟩ => ?_
            refine thn (P4.run _ z3 τ2 Hz3 _ Iz3 qz3) fun vv z4 ⟨y4, Hz4, Iz4, rz4, kvs, key, ek, hD4, hz4, nx⟩ => ?_
            subst ek
            refine d_dictSet (X := X.blk sc Hc scope env fp) Iz4 hD4 hz4 rz3 rz4 fun z5 Iz5 => ?_
            exact DcAt.next T1 Iz5 (by rw [← hw2, wipe_length]) (fun jj zz e => by rw [← hw2] at e; exact (wipe_some e).1) stz1 hNx1 nx
        exact dc2_start1 inner (T1.self X.A 0 _ _ _ st4 inner)
    exact codeAny_compStart_dict loop (T.self X.A 0 _ _ _ std loop)
  rw [← eR] at goal
  exact goal
end
end
end HW
set_option Elab.async false
set_option maxRecDepth 100000
set_option linter.all false
set_option maxHeartbeats 4000000
/-! dict(zip(xs, t, strict=True)) -/
namespace HW
open PySem
open PySem.W (kdx_alive)
section
variable {s : Shared} {E : Value → Shared → Prop} {A : Around} {w : World} {prog : Program}
theorem drawS_item {it : Addr} {fp : List Addr} {n i : Nat} {P : Nat → Value → Prop} {St : Nat → Heap → Prop} {Q : Option Value → Shared → Prop} (D : Draws prog w A it fp n P St) (hi : i < n) (st : St i s.heap)
    (q : ∀ x h' tk, P i x → St (i + 1) h' → Heap.SameBut it s.heap h' → Q (some x) { s with heap := h', toks := tk }) : wpAny (model prog w) A (Builtin.SmallTypes.nextOrEnd (.ref it)) Q E s := by
  unfold Builtin.SmallTypes.nextOrEnd
  exact wpAny_bind (wpAny_attempt (D.item i s _ _ hi st fun x h' tk p st' sb => wpAny_pure (q x h' tk p st' sb)))
theorem drawS_end {it : Addr} {fp : List Addr} {n : Nat} {P : Nat → Value → Prop} {St : Nat → Heap → Prop} {Q : Option Value → Shared → Prop} (D : Draws prog w A it fp n P St) (st : St n s.heap)
    (q : ∀ h', Heap.ExtBut it s.heap h' → Q none { s with heap := h' }) : wpAny (model prog w) A (Builtin.SmallTypes.nextOrEnd (.ref it)) Q E s := by
  unfold Builtin.SmallTypes.nextOrEnd
  refine wpAny_bind (wpAny_attempt (D.done s _ _ st fun h' e k h => ?_))
  obtain ⟨o, ho, hc⟩ := h
  (refine wpAny_bind (wpAny_isInstance (T := "StopIteration") (b := true) ⟨o, ho, hc⟩ isSubtype_stop ?_)); exact wpAny_pure (q h' k)
end
/-- a strict zip: what it says of the tuple that it gave out -/
abbrev IsZipS (h : Heap) (z TI TO : Addr) (f0 f1 : Value) : Prop :=
  h.get? z = some { cls := .type "zip", dict := none, data := .fields #[f0, f1, .bool true, .ref TI, .ref TO], slots := #[] }
/-- the zip's parts and its two sources stand apart -/
structure ZS (z TI TO i1 i2 : Addr) (fp1 fp2 : List Addr) : Prop where
  TIz : TI ≠ z
  TOz : TO ≠ z
  TITO : TI ≠ TO
  i1z : i1 ≠ z
  i2z : i2 ≠ z
  TIi1 : TI ≠ i1
  TIi2 : TI ≠ i2
  TOi1 : TO ≠ i1
  TOi2 : TO ≠ i2
  i12 : i1 ≠ i2
  z1 : z ∉ fp1
  z2 : z ∉ fp2
  TO1 : TO ∉ fp1
  TO2 : TO ∉ fp2
  o1 : i1 ∉ fp2
  o2 : i2 ∉ fp1
section
variable {prog : Program} {w : World} {A : Around} {E : Value → Shared → Prop} {s : Shared} {z TI TO i1 i2 : Addr} {fp1 fp2 : List Addr} {n i : Nat} {P1 P2 : Nat → Value → Prop} {St1 St2 : Nat → Heap → Prop}
theorem off_keep {it : Addr} {h h' : Heap} {fp : List Addr} {St : Nat → Heap → Prop} {A' : Around} {m j : Nat} {jt : Addr} {P : Nat → Value → Prop} (D : Draws prog w A' jt fp m P St) (st : St j h) (sb : Heap.SameBut it h h') (no : it ∉ fp) : St j h' :=
  D.frame _ _ _ st fun b hb o e => sb.extBut b o (fun q => no (q ▸ hb)) e
/-- the first pair -/
theorem zipS_first {a b : Value} {Q : Value → Shared → Prop} (S : ZS z TI TO i1 i2 fp1 fp2) (D1 : Draws prog w A i1 fp1 n P1 St1) (D2 : Draws prog w A i2 fp2 n P2 St2) (hi : i < n) (hz : IsZipS s.heap z TI TO .none (.bool false))
    (hTI : IsPair s.heap TI (.ref i1) (.ref i2)) (hTO : IsPair s.heap TO a b) (st1 : St1 i s.heap) (st2 : St2 i s.heap)
    (q : ∀ x y (T : Addr) h' tk, P1 i x → P2 i y → IsZipS h' z TI TO (rawInt T) (.bool false) → St1 (i + 1) h' → St2 (i + 1) h' → IsPair h' T x y → s.heap.objs.size ≤ T →
      (∀ c o, c ≠ z → c ≠ TO → c ≠ i1 → c ≠ i2 → s.heap.get? c = some o → h'.get? c = some o) → Q (.ref T) { s with heap := h', toks := tk }) : wpAny (model prog w) A (Builtin.«zip.__next__» ⟨[.ref z], []⟩) (fun fin s' => ∃ v, fin = .done (.ret v) ∧ Q v s') E s := by
  (show wpAny _ _ (field (.ref z) 2 >>= _) _ _ _); refine wpAny_bind (wpAny_field hz rfl (x := .bool true) rfl ?_)
  (show wpAny _ _ (field (.ref z) 3 >>= _) _ _ _); refine wpAny_bind (wpAny_field hz rfl (x := .ref TI) rfl (wpAny_bind (wpAny_seqItems hTI rfl ?_)))
  (show wpAny _ _ (Builtin.SmallTypes.ownedTupleIsFree (.ref z) >>= _) _ _ _); refine wpAny_bind ?_
  (unfold Builtin.SmallTypes.ownedTupleIsFree); refine wpAny_bind (wpAny_field hz rfl (x := .none) rfl (wpAny_pure ?_))
  rw [if_pos rfl]
  refine wpAny_bind (wpAny_rule (wpAny_bind (wpAny_field hz rfl (x := .ref TO) rfl (wpAny_bind (wpAny_setField_rec hz (by simp) fun ha hza sa => ?_)))))
  replace hza : IsZipS ha z TI TO .ellipsis (.bool false) := hza
  refine wpAny_bind ?_
  (simp only [List.zipIdx_cons, List.zipIdx_nil, List.forIn_cons, List.forIn_nil]); refine wpAny_bind (wpAny_bind (wpAny_onRaise ?_))
  show wpAny _ _ (Builtin.SmallTypes.nextOrEnd (.ref i1)) _ _ _
  refine drawS_item (s := { s with heap := ha }) D1 hi (off_keep D1 st1 sa S.z1) fun x hb tb px stb sb => ?_
  have pb : IsPair hb TO a b := sb.extBut _ _ S.TOi1 (sa.extBut _ _ S.TOz hTO)
  refine wpAny_bind (wpAny_seqItems pb rfl (wpAny_bind (wpAny_updateSeq_pair pb fun hc pc sc => wpAny_bind (wpAny_letGo (wpAny_pure ?_)))))
  replace pc : IsPair hc TO x b := pc
  (refine wpAny_bind (wpAny_bind (wpAny_onRaise ?_))); show wpAny _ _ (Builtin.SmallTypes.nextOrEnd (.ref i2)) _ _ _
  refine drawS_item (s := { s with heap := hc, toks := tb }) D2 hi (off_keep D2 (off_keep D2 (off_keep D2 st2 sa S.z2) sb S.o1) sc S.TO2) fun y hd td py std sd => ?_
  have pd : IsPair hd TO x b := sd.extBut _ _ S.TOi2 pc
  refine wpAny_bind (wpAny_seqItems pd rfl (wpAny_bind (wpAny_updateSeq_pair pd fun he pe se => wpAny_bind (wpAny_letGo (wpAny_pure (wpAny_pure ?_))))))
  replace pe : IsPair he TO x y := pe
  refine wpAny_bind (wpAny_seqItems pe rfl (wpAny_bind (wpAny_newTuple ?_)))
  have size : he.objs.size = s.heap.objs.size := by rw [se.1, sd.1, sc.1, sb.1, sa.1]
  have hze : IsZipS he z TI TO .ellipsis (.bool false) := se.extBut _ _ S.TOz.symm (sd.extBut _ _ S.i2z.symm (sc.extBut _ _ S.TOz.symm (sb.extBut _ _ S.i1z.symm hza)))
  show wpAny _ _ (Builtin.SmallTypes.ownedTupleHandOut (.ref z) (.ref he.objs.size) >>= _) _ _ _
  refine wpAny_bind ?_
  (unfold Builtin.SmallTypes.ownedTupleHandOut); have hzf : IsZipS (he.push { cls := .type "tuple", data := .seq #[x, y] }) z TI TO .ellipsis (.bool false) := Heap.get?_push_of_some _ hze
  refine wpAny_bind (wpAny_setField_rec hzf (by simp) fun hg hzg sg => wpAny_setField_rec hzg (by simp) fun hk hzk sk => wpAny_pure ⟨_, rfl, ?_⟩)
  have up : ∀ c o, c ≠ z → he.get? c = some o → hk.get? c = some o := fun c o cz e => sk.extBut _ _ cz (sg.extBut _ _ cz (Heap.get?_push_of_some _ e))
  have zlt := Heap.lt_size hze
  refine q x y he.objs.size hk td px py hzk ?_ ?_ ?_ (Nat.le_of_eq size.symm) fun c o cz cTO c1 c2 e => up c o cz (se.extBut _ _ cTO (sd.extBut _ _ c2 (sc.extBut _ _ cTO (sb.extBut _ _ c1 (sa.extBut _ _ cz e)))))
  · exact D1.frame _ _ _ (off_keep D1 (off_keep D1 (off_keep D1 stb sc S.TO1) sd S.o2) se S.TO1) fun b hb o e => up b o (fun q => S.z1 (q ▸ hb)) e
  · exact D2.frame _ _ _ (off_keep D2 std se S.TO2) fun b hb o e => up b o (fun q => S.z2 (q ▸ hb)) e
  · exact sk.extBut _ _ (Nat.ne_of_gt zlt) (sg.extBut _ _ (Nat.ne_of_gt zlt) (Heap.get?_push_size _ rfl))
/-- the tuple that was given out stands still -/
theorem heldS {T : Addr} {f : Bool} {oT : Obj} {Q : Bool → Shared → Prop} (hz : IsZipS s.heap z TI TO (rawInt T) (.bool f)) (hT : s.heap.get? T = some oT)
    (q : ∀ h', IsZipS h' z TI TO (rawInt T) (.bool true) → Heap.SameBut z s.heap h' → Q false { s with heap := h' }) : wpAny (model prog w) A (Builtin.SmallTypes.ownedTupleIsFree (.ref z)) Q E s := by
  (unfold Builtin.SmallTypes.ownedTupleIsFree); refine wpAny_bind (wpAny_field hz rfl (x := rawInt T) rfl ?_)
  (show wpAny _ _ (loadIfAlive ((T : Int).toNat) >>= _) _ _ _); rw [Int.toNat_natCast]
  refine wpAny_bind (kdx_alive hT (wpAny_bind (wpAny_field hz rfl (x := .bool f) rfl ?_)))
  cases f with
  | true => exact wpAny_pure (q s.heap hz (Heap.SameBut.refl _ _))
  | false => exact wpAny_bind (wpAny_setField_rec hz (by simp) fun ha hza sa => wpAny_pure (q ha hza sa))
/-- each later pair -/
theorem zipS_more {T : Addr} {f : Bool} {oT : Obj} {Q : Value → Shared → Prop} (S : ZS z TI TO i1 i2 fp1 fp2) (D1 : Draws prog w A i1 fp1 n P1 St1) (D2 : Draws prog w A i2 fp2 n P2 St2) (hi : i < n) (hz : IsZipS s.heap z TI TO (rawInt T) (.bool f))
    (hT : s.heap.get? T = some oT) (hTI : IsPair s.heap TI (.ref i1) (.ref i2)) (st1 : St1 i s.heap) (st2 : St2 i s.heap)
    (q : ∀ x y (U : Addr) h' tk, P1 i x → P2 i y → IsZipS h' z TI TO (rawInt T) (.bool true) → St1 (i + 1) h' → St2 (i + 1) h' → IsPair h' U x y → s.heap.objs.size ≤ U →
      (∀ c o, c ≠ z → c ≠ i1 → c ≠ i2 → s.heap.get? c = some o → h'.get? c = some o) → Q (.ref U) { s with heap := h', toks := tk }) : wpAny (model prog w) A (Builtin.«zip.__next__» ⟨[.ref z], []⟩) (fun fin s' => ∃ v, fin = .done (.ret v) ∧ Q v s') E s := by
  (show wpAny _ _ (field (.ref z) 2 >>= _) _ _ _); refine wpAny_bind (wpAny_field hz rfl (x := .bool true) rfl ?_)
  (show wpAny _ _ (field (.ref z) 3 >>= _) _ _ _); refine wpAny_bind (wpAny_field hz rfl (x := .ref TI) rfl (wpAny_bind (wpAny_seqItems hTI rfl ?_)))
  (show wpAny _ _ (Builtin.SmallTypes.ownedTupleIsFree (.ref z) >>= _) _ _ _); refine wpAny_bind (heldS hz hT fun ha hza sa => ?_)
  (simp only [Bool.false_eq_true, if_false]); refine wpAny_bind ?_
  rw [← Array.forIn_toList]
  (simp only [List.forIn_cons, List.forIn_nil]); refine wpAny_bind (wpAny_bind (wpAny_holding ?_))
  show wpAny _ _ (Builtin.SmallTypes.nextOrEnd (.ref i1)) _ _ _
  refine drawS_item (s := { s with heap := ha }) D1 hi (off_keep D1 st1 sa S.z1) fun x hb tb px stb sb => wpAny_pure ?_
  (refine wpAny_bind (wpAny_bind (wpAny_holding ?_))); show wpAny _ _ (Builtin.SmallTypes.nextOrEnd (.ref i2)) _ _ _
  refine drawS_item (s := { s with heap := hb, toks := tb }) D2 hi (off_keep D2 (off_keep D2 st2 sa S.z2) sb S.o1) fun y hc tc py stc sc => wpAny_pure (wpAny_pure ?_)
  (show wpAny _ _ (newTuple [x, y] >>= _) _ _ _); refine wpAny_bind (wpAny_newTuple (wpAny_pure ⟨_, rfl, ?_⟩))
  have size : hc.objs.size = s.heap.objs.size := by rw [sc.1, sb.1, sa.1]
  have up : ∀ c o, hc.get? c = some o → (hc.push { cls := .type "tuple", data := .seq #[x, y] }).get? c = some o := fun c o e => Heap.get?_push_of_some _ e
  refine q x y hc.objs.size _ tc px py (up _ _ (sc.extBut _ _ S.i2z.symm (sb.extBut _ _ S.i1z.symm hza))) ?_ ?_ (Heap.get?_push_size _ rfl) (Nat.le_of_eq size.symm)
    fun c o cz c1 c2 e => up _ _ (sc.extBut _ _ c2 (sb.extBut _ _ c1 (sa.extBut _ _ cz e)))
  · exact D1.frame _ _ _ (off_keep D1 stb sc S.o2) fun b _ o e => up b o e
  · exact D2.frame _ _ _ stc fun b _ o e => up b o e
/-- the end, both sources at once -/
theorem zipS_done {T : Addr} {f : Bool} {oT : Obj} {Q : PySem.Fin → Shared → Prop} (hh : A.handled = none) (S : ZS z TI TO i1 i2 fp1 fp2) (D1 : Draws prog w A i1 fp1 n P1 St1) (D2 : Draws prog w A i2 fp2 n P2 St2) (hz : IsZipS s.heap z TI TO (rawInt T) (.bool f))
    (hT : s.heap.get? T = some oT) (hTI : IsPair s.heap TI (.ref i1) (.ref i2)) (st1 : St1 n s.heap) (st2 : St2 n s.heap)
    (q : ∀ h' e, (∀ c o, c ≠ z → c ≠ i1 → c ≠ i2 → s.heap.get? c = some o → h'.get? c = some o) → (∃ o, h'.get? e = some o ∧ o.cls = .type "StopIteration") → E (.ref e) { s with heap := h' }) : wpAny (model prog w) A (Builtin.«zip.__next__» ⟨[.ref z], []⟩) Q E s := by
  (show wpAny _ _ (field (.ref z) 2 >>= _) _ _ _); refine wpAny_bind (wpAny_field hz rfl (x := .bool true) rfl ?_)
  (show wpAny _ _ (field (.ref z) 3 >>= _) _ _ _); refine wpAny_bind (wpAny_field hz rfl (x := .ref TI) rfl (wpAny_bind (wpAny_seqItems hTI rfl ?_)))
  (show wpAny _ _ (Builtin.SmallTypes.ownedTupleIsFree (.ref z) >>= _) _ _ _); refine wpAny_bind (heldS hz hT fun ha hza sa => ?_)
  (simp only [Bool.false_eq_true, if_false]); refine wpAny_bind ?_
  rw [← Array.forIn_toList]
  (simp only [List.forIn_cons, List.forIn_nil]); refine wpAny_bind (wpAny_bind (wpAny_holding ?_))
  show wpAny _ _ (Builtin.SmallTypes.nextOrEnd (.ref i1)) _ _ _
  refine drawS_end (s := { s with heap := ha }) D1 (off_keep D1 st1 sa S.z1) fun hb sb => ?_
  refine wpAny_bind ?_
  show wpAny _ _ (((Builtin.SmallTypes.nextOrEnd (.ref i2) >>= _) >>= _) >>= _) _ _ _
  refine wpAny_bind (wpAny_bind (wpAny_bind (drawS_end (s := { s with heap := hb }) D2 (D2.frame _ _ _ (off_keep D2 st2 sa S.z2) fun b hb' o e => sb b o (fun r => S.o1 (r ▸ hb')) e) fun hc sc => ?_)))
  refine wpAny_pure (wpAny_pure (wpAny_bind (wpAny_rule ?_)))
  (show wpAny _ _ (newExc (.type "StopIteration") [] >>= _) _ _ _); refine wpAny_bind ?_
  simp only [newExc, newTuple]
  refine wpAny_bind (wpAny_newObj_type (wpAny_bind (m := firstArgMember _ _) (wpAny_of_eq (a := Value.none) (by simp only [firstArgMember]; rfl) (wpAny_newObj_type (wpAny_raiseNew_none hh ?_) (by size_fits)))) (by size_fits))
  refine q _ _ (fun c o cz c1 c2 e => ?_) ⟨_, Heap.get?_push_size _ rfl, rfl⟩
  exact Heap.get?_push_of_some _ (Heap.get?_push_of_some _ (sc _ _ c2 (sb _ _ c1 (sa.extBut _ _ cz e))))
end

/-! ### as the argument of dict() -/
section
variable {w : World} {prog : Program}
theorem PairArg.zipS (z TI TO i1 i2 l t : Addr) (S : ZS z TI TO i1 i2 [i1, l] [i2, t]) (hl1 : l ≠ i1) (ht2 : t ≠ i2) (xs ys : Array Value) (hsz : xs.size = ys.size) (h0 : 0 < xs.size) :
    PairArg prog w "zip" z [z, TI, TO, i1, i2, l, t] [z, TO, i1, i2] xs.size (fun i k v => xs[i]? = some k ∧ ys[i]? = some v)
      (fun h => IsZipS h z TI TO .none (.bool false) ∧ IsPair h TI (.ref i1) (.ref i2) ∧ (∃ a b, IsPair h TO a b) ∧ (h.IsListIter i1 l 0 ∧ h.IsList l xs) ∧ (h.IsTupleIter i2 t 0 ∧ h.IsTuple t ys)) where
  type := fun s q => ⟨_, q.1, rfl⟩
  notDict := by decide
  keep := fun h h' ok kp => ⟨kp _ _ ok.1, kp _ _ ok.2.1, let ⟨a, b, e⟩ := ok.2.2.1; ⟨a, b, kp _ _ e⟩, ⟨ok.2.2.2.1.1.at fun o e => kp _ o e, ok.2.2.2.1.2.at fun o e => kp _ o e⟩, ⟨ok.2.2.2.2.1.at fun o e => kp _ o e, ok.2.2.2.2.2.at fun o e => kp _ o e⟩⟩
  there := fun h ok b mb => by
    obtain ⟨q1, q2, ⟨_, _, q3⟩, ⟨⟨_, q4, _⟩, ⟨_, q5, _⟩⟩, ⟨⟨_, q6, _⟩, ⟨_, q7, _⟩⟩⟩ := ok
    simp only [List.mem_cons, List.not_mem_nil, or_false] at mb
    rcases mb with rfl | rfl | rfl | rfl | rfl | rfl | rfl <;> exact ⟨_, by assumption⟩
  sub := fun b mb => by
    simp only [List.mem_cons, List.not_mem_nil, or_false] at mb ⊢
    rcases mb with r | r | r | r <;> simp [r]
  noKeys := fun A s Q E hA q h => getAttrOr_miss_zip q.1 rfl rfl rfl zip_no_keys (by decide +kernel) hA h
  iter := fun A s d Q E hA ok hd off h => by
    simp only [List.mem_cons, List.not_mem_nil, or_false, not_or] at off
    obtain ⟨nz, nTI, nTO, n1, n2, nl, nt⟩ := off
    have ty : s.TypeIs (.ref z) "zip" := ⟨_, ok.1, rfl⟩
    have src : PairSrc prog w A z d [z, TO, i1, i2] xs.size (fun i k v => xs[i]? = some k ∧ ys[i]? = some v) (fun i h => IsPair h TI (.ref i1) (.ref i2) ∧ (h.IsListIter i1 l i ∧ h.IsList l xs) ∧ (h.IsTupleIter i2 t i ∧ h.IsTuple t ys) ∧
        ((i = 0 ∧ IsZipS h z TI TO .none (.bool false) ∧ ∃ a b, IsPair h TO a b) ∨ (0 < i ∧ ∃ T f oT, IsZipS h z TI TO (rawInt (T : Nat)) (.bool f) ∧ h.get? T = some oT ∧ T ≠ z ∧ T ≠ i1 ∧ T ≠ i2 ∧ T ≠ d))) := {
      off := by simp [nz, nTO, n1, n2]
      frame := fun i ha hb st kp => by
        obtain ⟨q1, ⟨q2, q3⟩, ⟨q4, q5⟩, q6⟩ := st
        refine ⟨kp _ _ (Ne.symm nTI) q1, ⟨q2.at fun o e => kp _ o (Ne.symm n1) e, q3.at fun o e => kp _ o (Ne.symm nl) e⟩, ⟨q4.at fun o e => kp _ o (Ne.symm n2) e, q5.at fun o e => kp _ o (Ne.symm nt) e⟩, ?_⟩
        rcases q6 with ⟨e0, r1, a, b, r2⟩ | ⟨e0, T, f, oT, r1, r2, r3, r4, r5, r6⟩
        · exact .inl ⟨e0, kp _ _ (Ne.symm nz) r1, a, b, kp _ _ (Ne.symm nTO) r2⟩
        · exact .inr ⟨e0, T, f, oT, kp _ _ (Ne.symm nz) r1, kp _ _ r6 r2, r3, r4, r5, r6⟩
      item := fun i u Q' E' hi st hdu q => by
        obtain ⟨q1, q2, q3, q6⟩ := st
        have D1 := Draws.list (prog := prog) (w := w) (A := A.in1) hA i1 l hl1 xs
        have D2 := Draws.tuple (prog := prog) (w := w) (A := A.in1) hA i2 t ht2 ys
        have hi2 : i < ys.size := by rw [← hsz]; exact hi
        have D2' : Draws prog w A.in1 i2 [i2, t] xs.size (fun i v => ys[i]? = some v) (fun i h => h.IsTupleIter i2 t i ∧ h.IsTuple t ys) := by rw [hsz]; exact D2
        have lt : ∀ {c o} {U : Addr}, u.heap.get? c = some o → u.heap.objs.size ≤ U → U ≠ c := fun e l' => Nat.ne_of_gt (Nat.lt_of_lt_of_le (Heap.lt_size e) l')
        have m1 : ∃ o, u.heap.get? i1 = some o := let ⟨o, e, _⟩ := q2.1; ⟨o, e⟩
        have m2 : ∃ o, u.heap.get? i2 = some o := let ⟨o, e, _⟩ := q3.1; ⟨o, e⟩
        obtain ⟨o1, e1⟩ := m1
        obtain ⟨o2, e2⟩ := m2
        unfold pyNext
        rcases q6 with ⟨e0, r1, a, b, r2⟩ | ⟨e0, T, f, oT, r1, r2, r3, r4, r5, r6⟩
        · refine wpAny_bind (wpAny_attempt (wpAny_callSpecial?_slot (name := Str.ofString "__next__") ⟨_, r1, rfl⟩ F.slot_zip_next (wpAny_call_entry F.slot_zip_next ⟨_, r1, rfl⟩ F.entry_zip_next
            (zipS_first S D1 D2' hi r1 q1 r2 q2 q3 fun x y T h' tk px py hz' st1 st2 pT leT kp => wpAny_pure ?_) (F.args_zip_next_1 _))))
          exact q T x y h' tk ⟨px, py⟩ (.inl ⟨_, pT, rfl, _, rfl⟩) ⟨kp _ _ S.TIz S.TITO S.TIi1 S.TIi2 q1, st1, st2, .inr ⟨Nat.succ_pos _, T, false, _, hz', pT, lt r1 leT, lt e1 leT, lt e2 leT, Nat.ne_of_gt (Nat.lt_of_lt_of_le hdu leT)⟩⟩
            fun c o nc e => kp c o (fun z => nc (by simp [z])) (fun z => nc (by simp [z])) (fun z => nc (by simp [z])) (fun z => nc (by simp [z])) e
        · refine wpAny_bind (wpAny_attempt (wpAny_callSpecial?_slot (name := Str.ofString "__next__") ⟨_, r1, rfl⟩ F.slot_zip_next (wpAny_call_entry F.slot_zip_next ⟨_, r1, rfl⟩ F.entry_zip_next
            (zipS_more S D1 D2' hi r1 r2 q1 q2 q3 fun x y U h' tk px py hz' st1 st2 pU leU kp => wpAny_pure ?_) (F.args_zip_next_1 _))))
          exact q U x y h' tk ⟨px, py⟩ (.inl ⟨_, pU, rfl, _, rfl⟩) ⟨kp _ _ S.TIz S.TIi1 S.TIi2 q1, st1, st2, .inr ⟨Nat.succ_pos _, T, true, oT, hz', kp _ _ r3 r4 r5 r2, r3, r4, r5, r6⟩⟩
            fun c o nc e => kp c o (fun z => nc (by simp [z])) (fun z => nc (by simp [z])) (fun z => nc (by simp [z])) e
      done := fun u Q' E' st q => by
        obtain ⟨q1, q2, q3, q6⟩ := st
        have D1 := Draws.list (prog := prog) (w := w) (A := A.in1) hA i1 l hl1 xs
        have D2' : Draws prog w A.in1 i2 [i2, t] xs.size (fun i v => ys[i]? = some v) (fun i h => h.IsTupleIter i2 t i ∧ h.IsTuple t ys) := by rw [hsz]; exact Draws.tuple (A := A.in1) hA i2 t ht2 ys
        rcases q6 with ⟨e0, _⟩ | ⟨_, T, f, oT, r1, r2, _⟩
        · exact absurd e0 (Nat.ne_of_gt h0)
        · unfold pyNext
          refine wpAny_bind (wpAny_attempt (wpAny_callSpecial?_slot (name := Str.ofString "__next__") ⟨_, r1, rfl⟩ F.slot_zip_next (wpAny_call_entry F.slot_zip_next ⟨_, r1, rfl⟩ F.entry_zip_next
            (zipS_done hA S D1 D2' r1 r2 q1 q2 q3 fun h' e kp he => ?_) (F.args_zip_next_1 _))))
          obtain ⟨o, ho, hc⟩ := he
          refine wpAny_bind (wpAny_isInstance (T := "StopIteration") (b := true) ⟨o, ho, hc⟩ isSubtype_stop (wpAny_pure (q h' u.toks fun c o nc e => ?_)))
          exact kp c o (fun z => nc (by simp [z])) (fun z => nc (by simp [z])) (fun z => nc (by simp [z])) e }
    refine wpAny_pyIter_slot ty F.slot_zip_iter (wpAny_call_entry F.slot_zip_iter ty F.entry_zip_iter ?_ (F.args_zip_iter_1 _))
    (show wpAny _ _ (ret (.ref z)) _ _ s); refine wpAny_pure ⟨_, rfl, "zip", _, ty, F.slot_zip_next.lookup, ?_⟩
    exact h z [z, TO, i1, i2] _ s.heap s.toks src ⟨ok.2.1, ok.2.2.2.1, ok.2.2.2.2, .inl ⟨rfl, ok.1, ok.2.2.1⟩⟩ (fun _ _ e => e) fun b hb => .inl hb
end
namespace Fz
theorem tc (a b v : Value) : checkTypeCall "zip" ⟨[a, b], [(Str.ofString "strict", v)]⟩ = pure () := by kernel_rfl
theorem nc (a b v : Value) : checkBuiltinCall "zip.__new__" ⟨[.type "zip", a, b], [(Str.ofString "strict", v)]⟩ = pure () := by kernel_rfl
theorem oi (o a b v : Value) : argsOk "object.__init__" ⟨[o, a, b], [(Str.ofString "strict", v)]⟩ := by unfold argsOk; kernel_rfl
end Fz
theorem meets_zipS {v1 v2 : Value} {o1 o2 : Obj} {H1 H2 : Heap → Prop} (B1 : Begins v1 o1 H1) (B2 : Begins v2 o2 H2) :
    Meets (Builtin.«zip.__new__» ⟨[.type "zip", v1, v2], [(Str.ofString "strict", .bool true)]⟩) (fun _ R s => H1 s.heap ∧ H2 s.heap ∧
      R (.ok (.ret (.ref ((((s.heap.push o1).push o2).push { cls := .type "tuple", data := .seq #[.ref s.heap.objs.size, .ref (s.heap.push o1).objs.size] }).push { cls := .type "tuple", data := .seq #[.none, .none] }).objs.size)))
        { s with heap := ((((s.heap.push o1).push o2).push { cls := .type "tuple", data := .seq #[.ref s.heap.objs.size, .ref (s.heap.push o1).objs.size] }).push { cls := .type "tuple", data := .seq #[.none, .none] }).push { cls := .type "zip", data := .fields #[.none, .bool false, .bool true, .ref ((s.heap.push o1).push o2).objs.size, .ref (((s.heap.push o1).push o2).push { cls := .type "tuple", data := .seq #[.ref s.heap.objs.size, .ref (s.heap.push o1).objs.size] }).objs.size] } }) := .of_wp fun prog w A R s h => by
    (obtain ⟨hp, g, d, tk, os⟩ := s); obtain ⟨h1, h2, h⟩ := h
    have hsub := sub_zip
    have e1 : (Str.ofString "strict" != ("strict" : Str)) = false := by decide +kernel
    have q1 : ∀ {A' : Around} {E : Value → Shared → Prop} {Q : Value → Shared → Prop}, Q (.ref hp.objs.size) ⟨hp.push o1, g, d, tk, os⟩ → wpAny (model prog w) A' (pyIter v1) Q E ⟨hp, g, d, tk, os⟩ :=
      fun q => B1.iter prog w _ _ ⟨hp, g, d, tk, os⟩ _ h1 q
    have q2 : ∀ {A' : Around} {E : Value → Shared → Prop} {Q : Value → Shared → Prop}, Q (.ref (hp.push o1).objs.size) ⟨(hp.push o1).push o2, g, d, tk, os⟩ → wpAny (model prog w) A' (pyIter v2) Q E ⟨hp.push o1, g, d, tk, os⟩ :=
      fun q => B2.iter prog w _ _ ⟨hp.push o1, g, d, tk, os⟩ _ (B2.keeps _ _ h2 fun b o' e => Heap.get?_push_of_some _ e) q
    wp_walk using q1, q2
    exact ⟨_, rfl, h⟩

end HW
set_option Elab.async false
set_option maxRecDepth 100000
set_option linter.all false
set_option maxHeartbeats 4000000
/-! dict(zip(xs, t, strict=True)), as a rule -/
namespace HW
open PySem
section
variable {s : Shared} {E : Value → Shared → Prop} {A : Around} {w : World} {prog : Program}
/-- zip(xs, t, strict=True): its five new cells -/
theorem zipS_begins {l t : Addr} {xs ys : Array Value} {Q : Value → Shared → Prop} (hl : s.heap.IsList l xs) (ht : s.heap.IsTuple t ys)
    (q : ∀ h', IsZipS h' (s.heap.objs.size + 4) (s.heap.objs.size + 2) (s.heap.objs.size + 3) .none (.bool false) → IsPair h' (s.heap.objs.size + 2) (.ref s.heap.objs.size) (.ref (s.heap.objs.size + 1)) → IsPair h' (s.heap.objs.size + 3) .none .none →
      h'.IsListIter s.heap.objs.size l 0 → h'.IsTupleIter (s.heap.objs.size + 1) t 0 → h'.objs.size = s.heap.objs.size + 5 → (∀ c o, s.heap.get? c = some o → h'.get? c = some o) → Q (.ref (s.heap.objs.size + 4)) { s with heap := h' }) :
    wpAny (model prog w) A (call (.type "zip") [.ref l, .ref t] [(Str.ofString "strict", .bool true)]) Q E s := by
  (obtain ⟨hp, g, d, tk, os⟩ := s); refine callType_newKw F.called_zip (by decide) (Fz.tc _ _ _) (Fz.nc _ _ _) (fun o => Fz.oi o _ _ _) F.entry_zip_new (meets_zipS (begins_list l xs) (begins_tuple t ys)) ⟨hl, ht, ?_⟩
  generalize e1 : hp.push { cls := .type "list_iterator", data := .fields #[.ref l, .int 0 0] } = h1
  generalize e2 : h1.push { cls := .type "tuple_iterator", data := .fields #[.ref t, .int 0 0] } = h2
  have z1 : h1.objs.size = hp.objs.size + 1 := by rw [← e1]; exact Heap.size_push ..
  have z2 : h2.objs.size = hp.objs.size + 2 := by rw [← e2, Heap.size_push, z1]
  generalize e3 : h2.push { cls := .type "tuple", data := .seq #[.ref hp.objs.size, .ref h1.objs.size] } = h3
  have z3 : h3.objs.size = hp.objs.size + 3 := by rw [← e3, Heap.size_push, z2]
  generalize e4 : h3.push { cls := .type "tuple", data := .seq #[.none, .none] } = h4
  have z4 : h4.objs.size = hp.objs.size + 4 := by rw [← e4, Heap.size_push, z3]
  generalize e5 : h4.push { cls := .type "zip", data := .fields #[.none, .bool false, .bool true, .ref h2.objs.size, .ref h3.objs.size] } = h5
  have z5 : h5.objs.size = hp.objs.size + 5 := by rw [← e5, Heap.size_push, z4]
  have u5 : ∀ c o, h4.get? c = some o → h5.get? c = some o := fun c o e => by rw [← e5]; exact Heap.get?_push_of_some _ e
  have u4 : ∀ c o, h3.get? c = some o → h5.get? c = some o := fun c o e => u5 c o (by rw [← e4]; exact Heap.get?_push_of_some _ e)
  have u3 : ∀ c o, h2.get? c = some o → h5.get? c = some o := fun c o e => u4 c o (by rw [← e3]; exact Heap.get?_push_of_some _ e)
  have u2 : ∀ c o, h1.get? c = some o → h5.get? c = some o := fun c o e => u3 c o (by rw [← e2]; exact Heap.get?_push_of_some _ e)
  have g5 : h5.get? h4.objs.size = some { cls := .type "zip", data := .fields #[.none, .bool false, .bool true, .ref h2.objs.size, .ref h3.objs.size] } := by rw [← e5]; exact Heap.get?_push_size _ rfl
  have g4 : h5.get? h3.objs.size = some { cls := .type "tuple", data := .seq #[.none, .none] } := u5 _ _ (by rw [← e4]; exact Heap.get?_push_size _ rfl)
  have g3 : h5.get? h2.objs.size = some { cls := .type "tuple", data := .seq #[.ref hp.objs.size, .ref h1.objs.size] } := u4 _ _ (by rw [← e3]; exact Heap.get?_push_size _ rfl)
  have g2 : h5.get? h1.objs.size = some { cls := .type "tuple_iterator", data := .fields #[.ref t, .int 0 0] } := u3 _ _ (by rw [← e2]; exact Heap.get?_push_size _ rfl)
  have g1 : h5.get? hp.objs.size = some { cls := .type "list_iterator", data := .fields #[.ref l, .int 0 0] } := u2 _ _ (by rw [← e1]; exact Heap.get?_push_size _ rfl)
  rw [z4, z2, z3] at g5
  rw [z3] at g4
  rw [z2, z1] at g3
  rw [z1] at g2
  show _ ∧ _
  rw [z4]
  exact ⟨⟨_, g5, rfl⟩, q h5 g5 g3 g4 ⟨_, g1, rfl, rfl⟩ ⟨_, g2, rfl, rfl⟩ z5 fun c o e => u2 c o (by rw [← e1]; exact Heap.get?_push_of_some _ e)⟩
end
section
open L2
/-- dict(zip(xs, t, strict=True)) -/
def tDictZip (K : PySem.W.Frag) (ta tb : TE) : TE := fun σ H Q => ta σ H fun x H1 => tb σ H1 fun y H2 => ∃ (l t : Addr) (ks : List Key) (ys : List V), x = .ref l ∧ y = .ref t ∧ SqL K H2 l (ks.map kV) ∧ SqT K H2 t ys ∧ ks.length = ys.length ∧ 0 < ks.length ∧
  ∀ p, H2 p = none → Q (.ref p) (upd H2 p (.dK (mergeK [] (ks.zip ys))))
theorem zip_kv : ∀ {ks : List Key} {ys : List V} {us : List Value}, Vals ys us → KV (ks.zip ys) (ks.zip us)
  | [], _, _, _ => .nil
  | _ :: _, _, _, .nil => .nil
  | _ :: ks, _, _, .cons r t => .cons ⟨rfl, r⟩ (zip_kv (ks := ks) t)
theorem zip_has {P : Program} {w : World} : ∀ {ks : List Key} {us vs : List Value}, Vals (ks.map kV) us → us.length = vs.length → ∀ (i : Nat) (a b : Value), us[i]? = some a → vs[i]? = some b → ∃ k, (ks.zip vs)[i]? = some (k, b) ∧ (mixKind P w).is k a = true
  | [], _, _, .nil, _, i, a, b, h, _ => by simp at h
  | k :: ks, _ :: us, [], .cons r t, e, i, a, b, _, h => by simp at h
  | k :: ks, u :: us, v :: vs, .cons r t, e, 0, a, b, h1, h2 => by
    simp at h1 h2
    subst h1 h2
    exact ⟨k, by simp, kV_is r⟩
  | k :: ks, u :: us, v :: vs, .cons r t, e, i + 1, a, b, h1, h2 => by
    obtain ⟨k', e1, e2⟩ := zip_has (P := P) (w := w) (ks := ks) t (by simpa using e) i a b (by simpa using h1) (by simpa using h2)
    exact ⟨k', by simpa using e1, e2⟩
/-- a built-in class called with keywords -/
theorem callTyKw {M : Model} {A : Around} {E : Value → Shared → Prop} {s : Shared} {env : Env} {pos : Pos} {T : String} {e : Expr} {rest : List Expr} {kws : List Keyword} {Q : Value → Shared → Prop}
    (h : wpAny M A (spliced (backTo pos (starEach (e :: rest) env))) (fun vs s₁ => wpAny M A (evalAll ((backToKw pos (keywordEach kws env)).map (·.2))) (fun ks s₂ => wpAny M A (call (.type T) vs (((backToKw pos (keywordEach kws env)).filterMap (·.1)).zip ks)) Q E s₂) E s₁) E s)
    (he : starEach (e :: rest) env = (false, eval e env) :: starEach rest env) (no1 : (backTo pos (starEach (e :: rest) env)).any (·.1) = false) (no2 : (backToKw pos (keywordEach kws env)).any (·.1.isNone) = false) (yes : (backToKw pos (keywordEach kws env)).all (·.1.isSome) = true) :
    wpAny M A (callWith pos (.type T) [] (backTo pos (starEach (e :: rest) env)) (backToKw pos (keywordEach kws env))) Q E s := by
  unfold callWith
  refine wpAny_bind (wpAny_holding (thn (PyProof.Rows.evalArgs_kw2 (Q := fun a s1 => wpAny M A (call (.type T) a.pos a.kw) Q E s1) yes h he) fun a s1 h1 => wpAny_bind (wpAny_standAt ?_)))
  rw [no1, no2]
  exact wpAny_bind (wpAny_pure (wpAny_bind (thn h1 fun r s2 hr => wpAny_bind (wpAny_holding (wpAny_point (wpAny_pure hr))))))
theorem pe_dictZip {X : Cx} {e1 e2 : Expr} {ta tb : TE} {p p2 kp pos pos2 cp : Pos} {j : Nat} (hc : X.calm = true) (hgd : Gl X "dict") (hmd : X.mg "dict" = none) (hgz : Gl X "zip") (hmz : X.mg "zip" = none) (ha : PE X e1 ta) (hb : PE X e2 tb)
    (hs : starEach [e1, e2] X.env = [(false, eval e1 X.env), (false, eval e2 X.env)] := by rfl) (hs2 : starEach [e2] X.env = [(false, eval e2 X.env)] := by rfl)
    (hz : starEach [.Call (.Name "zip" p2) [e1, e2] [⟨some "strict", .Constant (.bool true) j cp, kp⟩] pos2] X.env = [(false, eval (.Call (.Name "zip" p2) [e1, e2] [⟨some "strict", .Constant (.bool true) j cp, kp⟩] pos2) X.env)] := by rfl) :
    PE X (.Call (.Name "dict" p) [.Call (.Name "zip" p2) [e1, e2] [⟨some "strict", .Constant (.bool true) j cp, kp⟩] pos2] [] pos) (tDictZip X.K ta tb) := by
  (refine ⟨fun pins s σ H Q I h => ?_⟩); refine PyProof.Rows.Call_ (ld_blt I hgd hmd PyProof.Rows.boot_dict (PyProof.Rows.callWith_type1 ?_ hz rfl))
  rw [hz]
  show wpAny _ _ (spliced [(false, eval (.Call (.Name "zip" p2) [e1, e2] [⟨some "strict", .Constant (.bool true) j cp, kp⟩] pos2) X.env)]) _ _ s
  refine Calls.spliced_cons ?_
  refine wpAny_Call_Name_kw (ld_blt I hgz hmz (by decide +kernel : bootBuiltins "zip" = some (.type "zip")) ?_)
  refine callTyKw ?_ (by rw [hs, hs2]) (by rw [hs]; rfl) rfl rfl
  rw [hs]
  show wpAny _ _ (spliced [(false, eval e1 X.env), (false, eval e2 X.env)]) _ _ s
  refine Calls.spliced_cons (thn (ha.run pins s σ H _ I h) fun u1 s1 ⟨x, H1, I1, r1, q1⟩ => Calls.spliced_cons (thn (hb.run pins s1 σ H1 _ I1 q1) fun u2 s2 ⟨y, H2, I2, r2, q2⟩ => Calls.spliced_nil ?_))
  obtain ⟨l, t, ks, ys, rfl, rfl, sl, st, len, pos0, q2⟩ := q2
  cases r1
  cases r2
  refine PyProof.Rows.kws_cons (PyProof.Rows.Constant_bool (PyProof.Rows.kws_nil ?_))
  obtain ⟨us, ru, pl, zl⟩ := I2.list sl
  obtain ⟨vs, rv, pt, zt⟩ := I2.tuple st
  have lenU : ks.length = us.length := by have := ru.length; rw [List.length_map] at this; exact this
  have lenV := rv.length
  have hT : s2.heap.IsTuple t vs.toArray := pt
  refine zipS_begins (s := s2) pl.isList hT fun h' g1 g2 g3 g4 g5 size kp => ?_
  refine Calls.spliced_nil ?_
  have ltl : l < s2.heap.objs.size := let ⟨_, _, e, _⟩ := pl; Heap.lt_size e
  have ltt : t < s2.heap.objs.size := let ⟨_, e, _⟩ := pt; Heap.lt_size e
  have S : ZS (s2.heap.objs.size + 4) (s2.heap.objs.size + 2) (s2.heap.objs.size + 3) s2.heap.objs.size (s2.heap.objs.size + 1) [s2.heap.objs.size, l] [s2.heap.objs.size + 1, t] := by
    generalize s2.heap.objs.size = n at ltl ltt
    constructor <;> simp <;> (try constructor) <;> (unfold Addr at *; omega)
  have hl2 : h'.IsList l us.toArray := pl.isList.at fun o e => kp _ o e
  have ht2 : h'.IsTuple t vs.toArray := hT.at fun o e => kp _ o e
  refine call_dict_pairs (knd := mixKind X.prog X.w) (kvs := ks.zip vs) (s := { s2 with heap := h' }) (PairArg.zipS _ _ _ _ _ l t S (Nat.ne_of_lt ltl) (Nat.ne_of_lt (Nat.lt_succ_of_lt ltt)) us.toArray vs.toArray (by rw [List.size_toArray, List.size_toArray]; omega) (by rw [List.size_toArray]; omega))
    (I.ok.hd hc) ⟨g1, g2, ⟨_, _, g3⟩, ⟨g4, hl2⟩, ⟨g5, ht2⟩⟩ ⟨by rw [List.length_zip, List.size_toArray]; omega, fun i a b ⟨ea, eb⟩ => zip_has ru (by omega) i a b (by simpa using ea) (by simpa using eb)⟩ (by rw [List.size_toArray, ← lenU]; rw [List.length_map] at zl; exact zl) fun hd tk D kd => ?_
  have hp : s2.heap.objs.size ≤ h'.objs.size := by rw [size]; exact Nat.le_add_right _ _
  have kvm : KV (mergeK [] (ks.zip ys)) (merged [] (ks.zip vs)) := KV.merge (zip_kv rv) .nil
  refine ⟨.ref h'.objs.size, upd H2 h'.objs.size (.dK (mergeK [] (ks.zip ys))), I2.laid (t' := tk) (fun b u e => kd b u (fun m => ?_) (kp b u e)) hp (dk_new ?_ ?_ kvm D), rfl, q2 _ (I2.hok.fresh hp)⟩
  · have lt := Heap.lt_size e
    generalize s2.heap.objs.size = n at m lt
    simp only [List.mem_cons, List.not_mem_nil, or_false] at m
    unfold Addr at *
    omega
  · have a := length_mergeK (ks.zip ys) []
    rw [List.length_zip] at a
    rw [List.length_map] at zl
    simp only [List.length_nil] at a
    omega
  · have a := I2.big
    show (h'.objs.size == sysModules) = false
    have : h'.objs.size ≠ sysModules := by unfold Addr at *; omega
    simpa using this
end
end HW
set_option Elab.async false
set_option maxRecDepth 100000
set_option linter.all false
set_option maxHeartbeats 4000000
/-! t[::-1] of a tuple; d[k] += t; a tuple made of a list of objects, known whole; dict() of such a one -/
namespace HW
open L2 PyProof.Rows PySem PySem.Spec
section
variable {s : Shared} {E : Value → Shared → Prop} {A : Around} {w : World} {prog : Program}
theorem iadd_tup {t b : Addr} {vs ws : List Value} {Q : Value → Shared → Prop} (ht : IsTup s.heap t vs.toArray) (hb : IsTup s.heap b ws.toArray) (hz : vs.length + ws.length ≤ sizeLine)
    (q0 : vs = [] → Q (.ref b) s) (q1 : ws = [] → Q (.ref t) s) (q2 : Q (.ref s.heap.objs.size) { s with heap := s.heap.push { cls := .type "tuple", data := .seq (vs ++ ws).toArray } }) :
    wpAny (model prog w) A (inplaceOp .Add (.ref t) (.ref b)) Q E s := by
  obtain ⟨⟨c1, d1, a1, l1⟩, g1, k1, n1, e1⟩ := ht
  obtain ⟨⟨c2, d2, a2, l2⟩, g2, k2, n2, e2⟩ := hb
  simp only at k1 e1 k2 e2
  subst k1 e1 k2 e2
  have no : typeLookup (.type "tuple") (dunderI "add") = pure none := by rw [typeLookup_type, builtinLookup_eq_fast]; kernel_rfl
  have ar := PySem.F.args_tuple_add_2 (.ref t) (.ref b)
  refine wpAny_inplaceOp_concat ⟨_, g1, rfl⟩ ⟨_, g2, rfl⟩ no noFill_tuple_add seq_tuple_add ?_
  by_cases h1 : vs = []
  · exact call_meets PySem.F.slot_tuple_add ⟨_, g1, rfl⟩ PySem.F.entry_tuple_add ar (tuple_addW0 t b vs.toArray ws.toArray n1 n2 d1 d2 l1 l2 (by simp [h1])) ⟨g1, g2, q0 h1⟩
  · by_cases h2 : ws = []
    · exact call_meets PySem.F.slot_tuple_add ⟨_, g1, rfl⟩ PySem.F.entry_tuple_add ar (tuple_addW1 t b vs.toArray ws.toArray n1 n2 d1 d2 l1 l2 (by simpa using h1) (by simp [h2])) ⟨g1, g2, q1 h2⟩
    · refine call_meets PySem.F.slot_tuple_add ⟨_, g1, rfl⟩ PySem.F.entry_tuple_add ar (tuple_addW2 t b vs.toArray ws.toArray n1 n2 d1 d2 l1 l2 (by simpa using h1) (by simpa using h2) (by rw [List.size_toArray, List.size_toArray]; exact hz)) ⟨g1, g2, ?_⟩
      (have e : vs.toArray ++ ws.toArray = (vs ++ ws).toArray := by simp); rw [e]
      exact q2
theorem applied_neg {sl : Addr} {vl vu vs : Value} {n : Nat} {Q : Int × Int × Nat → Shared → Prop} (hs : s.heap.IsSliceOf sl vl vu vs) (pl : IsPart vl none) (pu : IsPart vu none) (ps : IsPart vs (some (-1)))
    (h : Q ((n : Int) - 1, -1, n) s) : wpAny (model prog w) A (Builtin.Slice.sliceApplied (.ref sl) (pure (n : Int))) Q E s := by
  obtain ⟨o, e, _, d⟩ := id hs
  (unfold Builtin.Slice.sliceApplied Builtin.Slice.sliceFields); refine wpAny_bind (wpAny_bind (wpAny_field e d (x := vl) rfl (wpAny_bind (wpAny_field e d (x := vu) rfl (wpAny_bind (wpAny_field e d (x := vs) rfl (wpAny_pure ?_)))))))
  refine wpAny_bind (HT.slicePart_ ps ?_)
  show wpAny _ _ (if ((-1 : Int) == 0) = true then _ else _) _ _ s
  rw [if_neg (by decide)]
  refine wpAny_bind (HT.slicePart_ pl (wpAny_bind (HT.slicePart_ pu (wpAny_bind (wpAny_pure ?_)))))
  have a1 : Builtin.Slice.sliceAdjust none none (-1) (n : Int) = ((n : Int) - 1, -1) := by
    unfold Builtin.Slice.sliceAdjust; simp
  have a2 : Builtin.Slice.slicePlaces ((n : Int) - 1) (-1) (-1) = n := by
    (unfold Builtin.Slice.slicePlaces); rw [if_neg (by decide)]
    split
    · first | omega | (simp; done) | (simp; omega)
    · first | omega | (simp; done) | (simp; omega)
  show wpAny _ _ (match Builtin.Slice.sliceAdjust none none (-1) (n : Int) with | (lo, hi) => pure (lo, (-1 : Int), Builtin.Slice.slicePlaces lo hi (-1))) _ _ s
  rw [a1]
  show wpAny _ _ (pure ((n : Int) - 1, (-1 : Int), Builtin.Slice.slicePlaces ((n : Int) - 1) (-1) (-1))) _ _ s
  rw [a2]
  exact wpAny_pure h
theorem fm_some {α β : Type} (f : α → Option β) (g : α → β) : ∀ (l : List α), (∀ x ∈ l, f x = some (g x)) → l.filterMap f = l.map g
  | [], _ => rfl
  | x :: l, h => by
    rw [List.filterMap_cons, h x List.mem_cons_self, List.map_cons, fm_some f g l fun y hy => h y (List.mem_cons_of_mem _ hy)]
theorem pick_neg (xs : List Value) : ((List.range xs.length).filterMap fun (k : Nat) => xs.toArray[(((xs.length : Nat) : Int) - 1 + (k : Int) * (-1)).toNat]?) = xs.reverse := by
  refine List.ext_getElem? fun i => ?_
  have e : ((List.range xs.length).filterMap fun (k : Nat) => xs.toArray[(((xs.length : Nat) : Int) - 1 + (k : Int) * (-1)).toNat]?) = (List.range xs.length).map fun k => xs.getD (xs.length - 1 - k) .none := by
    refine fm_some _ _ _ fun k hk => ?_
    have hk' := List.mem_range.mp hk
    have e1 : (((xs.length : Nat) : Int) - 1 + (k : Int) * (-1)).toNat = xs.length - 1 - k := by omega
    rw [e1]
    have hlt : xs.length - 1 - k < xs.length := by omega
    simp [hlt]
  rw [e]
  by_cases hi : i < xs.length
  · rw [List.getElem?_reverse hi]
    have hlt : xs.length - 1 - i < xs.length := by omega
    simp [hi, hlt]
  · rw [List.getElem?_eq_none (by simp; omega), List.getElem?_eq_none (by simp; omega)]
theorem getItem_tup_rev {t sl : Addr} {its : List Value} {vl vu vs : Value} {Q : Value → Shared → Prop} (ht : IsTup s.heap t its.toArray) (hs : s.heap.IsSliceOf sl vl vu vs) (pl : IsPart vl none) (pu : IsPart vu none) (ps : IsPart vs (some (-1)))
    (h : Q (.ref s.heap.objs.size) { s with heap := s.heap.push { cls := .type "tuple", data := .seq its.reverse.toArray } }) (hsz : its.length ≤ sizeLine) : wpAny (model prog w) A (getItem (.ref t) (.ref sl)) Q E s := by
  have sz : sizeOk (.seq its.reverse.toArray) := by show its.reverse.toArray.size ≤ sizeLine; rw [List.size_toArray, List.length_reverse]; exact hsz
  obtain ⟨o, e, c, _⟩ := id hs
  (unfold getItem); try with_reducible refine wpAny_holding ?_
  first | (refine wpAny_bind (wpAny_pure ?_)) | skip
  (refine wpAny_bind (wpAny_sequenceKey ht.typeIs (by decide) ?_)); refine wpAny_bind (wpAny_callSpecial?_slot (name := Str.ofString "__getitem__") ht.typeIs PyProof.Rows.slot_tuple_getitem (wpAny_call_entry PyProof.Rows.slot_tuple_getitem ht.typeIs entry_tuple_getitem ?_ (args_tuple_getitem _ _)))
  (show wpAny _ _ (Builtin.Tuple.tupleItemsOf (.ref t) >>= _) _ _ s); refine wpAny_bind (tupleItemsOf_ ht (wpAny_bind (wpAny_typeOf ⟨o, e, c⟩ ?_)))
  rw [if_pos (by decide)]
  have es : its.toArray.size = its.length := by simp
  rw [es]
  refine wpAny_bind (applied_neg hs pl pu ps ?_)
  show wpAny _ _ (if (((its.length : Nat) : Int) - 1 == 0 && (-1 : Int) == 1 && its.length == its.length) = true then _ else _) _ _ s
  rw [if_neg (by simp), pick_neg]
  first
    | exact wpAny_bind (m := Builtin.Tuple.tupleExact _) (wpAny_newObj_type (wpAny_pure ⟨_, rfl, wpAny_pure h⟩) sz)
    | exact wpAny_bind (m := Builtin.Tuple.tupleExact _) (wpAny_newObj_type (wpAny_bind (wpAny_pure (wpAny_pure ⟨_, rfl, wpAny_pure h⟩))) sz)
    | exact wpAny_bind (wpAny_bind (m := Builtin.Tuple.tupleExact _) (wpAny_newObj_type (wpAny_pure (wpAny_pure ⟨_, rfl, wpAny_pure h⟩)) sz))
    | exact wpAny_bind (wpAny_bind (m := Builtin.Tuple.tupleExact _) (wpAny_newObj_type (wpAny_pure ⟨_, rfl, wpAny_pure h⟩) sz))
end
section
variable {X : Cx}
/-- d[k] += t, by values -/
def rIcat : V → V → Hp → VK → Prop := fun x y H Q => ∃ a b xs ys, x = .ref a ∧ y = .ref b ∧ H a = some (.tup xs) ∧ H b = some (.tup ys) ∧ xs.length + ys.length ≤ sizeLine ∧ ∀ p H', Same H H' → H' p = some (.tup (xs ++ ys)) → Q (.ref p) H'
theorem in_cat : InOp X .Add rIcat := by
  intro pins s σ H x y u v Q I rx ry h
  obtain ⟨a, b, xs, ys, rfl, rfl, ha, hb, hz, q⟩ := h
  cases rx
  cases ry
  obtain ⟨us, r1, p1, _⟩ := I.tuple (SqT.of ha)
  obtain ⟨vs, r2, p2, _⟩ := I.tuple (SqT.of hb)
  have l1 := r1.length
  have l2 := r2.length
  refine iadd_tup p1 p2 (by omega) (fun e => ?_) (fun e => ?_) ?_
  · have ex : xs = [] := List.eq_nil_of_length_eq_zero (by rw [l1, e]; rfl)
    exact ⟨.ref b, H, I, rfl, q b H (Same.refl H) (by rw [ex]; exact hb)⟩
  · have ey : ys = [] := List.eq_nil_of_length_eq_zero (by rw [l2, e]; rfl)
    exact ⟨.ref a, H, I, rfl, q a H (Same.refl H) (by rw [ey, List.append_nil]; exact ha)⟩
  · have fr := I.hok.fresh (Nat.le_refl _)
    refine ⟨.ref s.heap.objs.size, _, I.laid (t' := s.toks) (o := .tup (xs ++ ys)) (fun c o e => Heap.get?_push_of_some _ e) (Nat.le_refl _) ⟨by rw [List.length_append]; exact hz, us ++ vs, r1.append r2, ⟨_, Heap.get?_push_size _ rfl, rfl, _, rfl⟩⟩, rfl, q _ _ (same_new fr _) upd_same⟩
/-- t[::-1] -/
def tRevT (K : PySem.W.Frag) (te : TE) : TE := fun σ H Q => te σ H fun x H1 => ∃ a xs, x = .ref a ∧ SqT K H1 a xs ∧ ∀ p, H1 p = none → Q (.ref p) (upd H1 p (.tup xs.reverse))
theorem pe_revT {e : Expr} {te : TE} {k : Nat} {p1 p2 p3 pos : Pos} (he : PE X e te) : PE X (.Subscript e (.Slice none none (some (.UnaryOp .USub (.Constant (.int 1) k p1) p2)) p3) pos) (tRevT X.K te) := by
  (refine ⟨fun pins s σ H Q I h => ?_⟩); refine Subscript_ (thn (he.run pins s σ H _ I h) fun v s1 ⟨x, H1, I1, r1, a, xs, ex, hx, q⟩ => ?_)
  subst ex
  cases r1
  have step : PO X (some (.UnaryOp .USub (.Constant (.int 1) k p1) p2)) (tPart (tUn (rU fun i => .int (-i)) (tC (.int 1)))) := po_some (pe_un un_neg pe_int)
  (refine wpAny_Slice (thn (po_none.run pins s1 σ H1 (fun o H2 => o = none ∧ H2 = H1) I1 ⟨rfl, rfl⟩) fun vl s2 ⟨l, H2, I2, pl, el, e2⟩ => ?_)); subst el e2
  (refine thn (po_none.run pins s2 σ H2 (fun o H3 => o = none ∧ H3 = H2) I2 ⟨rfl, rfl⟩) fun vu s3 ⟨u, H3, I3, pu, eu, e3⟩ => ?_); subst eu e3
  refine thn (step.run pins s3 σ H3 (fun o H4 => o = some (-1) ∧ H4 = H3) I3 ⟨1, rfl, -1, rfl, rfl, rfl⟩) fun vs s4 ⟨o, H4, I4, ps, eo, e4⟩ => ?_
  subst eo e4
  have I5 : Inv X pins σ H4 { s4 with heap := s4.heap.push { cls := .type "slice", data := .fields #[vl, vu, vs] } } := I4.kept (t' := s4.toks) fun b ob z => Heap.get?_push_of_some _ z
  obtain ⟨its, rv, ht, hz⟩ := I5.tuple hx
  have hl := rv.length
  (show wpAny (model X.prog X.w) X.A (subscriptTail e (.Slice none none (some (.UnaryOp .USub (.Constant (.int 1) k p1) p2)) p3) (.ref a) (.ref s4.heap.objs.size)) (EP X pins σ Q) X.xe { s4 with heap := s4.heap.push { cls := .type "slice", data := .fields #[vl, vu, vs] } }); refine tail_any (ops := [.ref a, .ref s4.heap.objs.size]) ht.typeIs (PyProof.Rows.slot_tuple_getitem.lookup) ?_ (by with_unfolding_all rfl)
  refine getItem_tup_rev ht (Heap.IsSliceOf.new _ vl vu vs) pl pu ps ?_ (by omega)
  refine ⟨.ref _, _, I5.laid (t' := s4.toks) (o := .tup xs.reverse) (fun b ob z => Heap.get?_push_of_some _ z) (Nat.le_refl _) ?_, rfl, q _ (I5.hok.fresh (Nat.le_refl _))⟩
  exact ⟨by rw [List.length_reverse]; exact hz, its.reverse, rv.reverse, ⟨_, Heap.get?_push_size _ rfl, rfl, _, rfl⟩⟩
theorem vals_refs : ∀ ts : List Addr, Vals (ts.map V.ref) (ts.map Value.ref)
  | [] => .nil
  | _ :: ts => .cons rfl (vals_refs ts)
theorem call_tupO : CallR X (.type "tuple") (fun xs H Q => ∃ (p : Addr) (ts : List Addr), xs = [.ref p] ∧ SqL X.K H p (ts.map V.ref) ∧ ∀ l, H l = none → Q (.ref l) (upd H l (.frz (tupO ts) (.tup (ts.map V.ref))))) := by
  (intro pins s σ H xs us Q I r h); obtain ⟨p, ts, rfl, hq, q⟩ := h
  (obtain ⟨u, rfl, rx⟩ := vals1 r); cases rx
  (obtain ⟨its, rv, pl, hz⟩ := I.list hq); have e := refs_at rv
  subst e
  refine call_tuple_list pl.isList (fun h' kp => ?_) (by rw [List.size_toArray, List.length_map]; rw [List.length_map] at hz; exact hz)
  (have I1 : Inv X pins σ H { s with heap := h' } := I.kept (t' := s.toks) kp); refine ⟨.ref h'.objs.size, _, I1.laid (t' := s.toks) (o := .frz (tupO ts) (.tup (ts.map V.ref))) (fun b o z => Heap.get?_push_of_some _ z) (Nat.le_refl _) ?_, rfl, q _ (I1.hok.fresh (Nat.le_refl _))⟩
  exact ⟨Heap.get?_push_size _ rfl, hz, _, vals_refs ts, ⟨_, Heap.get?_push_size _ rfl, rfl, _, rfl⟩⟩
/-- dict(t), t a tuple of pairs, known whole -/
theorem call_dictT (hcalm : X.calm = true) : CallR X (.type "dict") (fun xs H Q => ∃ (a : Addr) (ts : List Addr) (kvs : List (Key × V)), xs = [.ref a] ∧ H a = some (.frz (tupO ts) (.tup (ts.map V.ref))) ∧ Paired (fun p kv => SqT X.K H p [kV kv.1, kv.2]) ts kvs ∧ ∀ p, H p = none → Q (.ref p) (upd H p (.dK (mergeK [] kvs)))) := by
  (intro pins s σ H xs us Q I r h); obtain ⟨a, ts, kvs, rfl, ha, hp, q⟩ := h
  (obtain ⟨u, rfl, rx⟩ := vals1 r); cases rx
  obtain ⟨g, hz, _⟩ := (show ObjOk X.prog X.w H s.heap a (.frz (tupO ts) (.tup (ts.map V.ref))) from I.hok a _ ha)
  (rw [List.length_map] at hz); obtain ⟨prs, rel, hl, hpr⟩ := pairs_of I hp
  -- the pairs' keys as they stand
  have hkeys : ∃ ks : List Value, ks.length = prs.length ∧ ∀ (j : Nat) (kq : Key × Value), prs[j]? = some kq → ∃ b u, ts[j]? = some b ∧ ks[j]? = some u ∧ IsTup s.heap b #[u, kq.2] ∧ keyIs kq.1 u = true := by
    refine ⟨(List.range prs.length).map fun j => if h : j < prs.length then (hpr j prs[j] (by simp [h])).choose_spec.choose else .none, by simp, fun j kq e => ?_⟩
    have hj := (List.getElem?_eq_some_iff.mp e).1
    have ek : kq = prs[j] := by rw [List.getElem?_eq_getElem hj] at e; exact (Option.some.inj e).symm
    subst ek
    have sp := (hpr j prs[j] (by simp [hj])).choose_spec.choose_spec
    exact ⟨_, _, sp.1, by simp [hj], sp.2.1, sp.2.2⟩
  obtain ⟨ks, lk, hk⟩ := hkeys
  have lz : (ks.zip (prs.map (·.2))).length = prs.length := by rw [List.length_zip, List.length_map, lk, Nat.min_self]
  refine call_dict_pairs (knd := mixKind X.prog X.w) (kvs := prs) (PairArg.tuple a (ts.map Value.ref).toArray (fun j => ts.getD j 0) (ks.zip (prs.map (·.2)))) (I.ok.hd hcalm) ⟨⟨_, _, g, rfl, rfl, rfl⟩, ?_, fun j key v e => ?_⟩ ⟨lz.symm, fun i key v e => ?_⟩ (by rw [lz, hl]; exact hz) fun h' tk D kp => ?_
  · rw [lz, List.size_toArray, List.length_map, hl]
  · rw [List.getElem?_zip_eq_some] at e
    obtain ⟨e1, e2⟩ := e
    rw [List.getElem?_map] at e2
    obtain ⟨kq, e3, e4⟩ := Option.map_eq_some_iff.mp e2
    obtain ⟨b, u, f1, f2, f3, f4⟩ := hk j kq e3
    rw [f2] at e1
    cases e1
    subst e4
    refine ⟨?_, ?_⟩
    · simp [f1]
    · have e0 : ts.getD j 0 = b := by simp [List.getD, f1]
      show PairAt s.heap (ts.getD j 0) key kq.2
      rw [e0]
      exact .inl f3
  · have e' : (ks.zip (prs.map (·.2)))[i]? = some (key, v) := e
    rw [List.getElem?_zip_eq_some] at e'
    obtain ⟨e1, e2⟩ := e'
    rw [List.getElem?_map] at e2
    obtain ⟨kq, e3, e4⟩ := Option.map_eq_some_iff.mp e2
    obtain ⟨b, u, f1, f2, f3, f4⟩ := hk i kq e3
    rw [f2] at e1
    cases e1
    subst e4
    exact ⟨kq.1, e3, f4⟩
  · have lm : (mergeK [] kvs).length ≤ sizeLine := Nat.le_trans (length_mergeK kvs []) (by rw [List.length_nil, Nat.zero_add, rel.length, hl]; exact hz)
    have nm : (s.heap.objs.size == sysModules) = false := beq_eq_false_iff_ne.mpr (Nat.ne_of_gt I.big)
    exact ⟨.ref s.heap.objs.size, upd H s.heap.objs.size (.dK (mergeK [] kvs)), I.laid (t' := tk) (fun b u e => kp b u (by simp) e) (Nat.le_refl _) (dk_new lm nm (KV.merge rel .nil) D), rfl, q _ (I.hok.fresh (Nat.le_refl _))⟩
end
end HW
set_option Elab.async false
set_option maxRecDepth 100000
set_option linter.all false
set_option maxHeartbeats 4000000
namespace HW
open PySem L2

theorem str_ext {a b : Str} (h : a.cps.toList = b.cps.toList) : a = b := by
  cases a; cases b
  simp only at h
  rw [Array.toList_inj] at h
  rw [h]
theorem cps_irr (a : List Nat) : ¬ a < a := by
  induction a with
  | nil => intro h; cases h
  | cons x l ih =>
    intro h
    rcases List.cons_lt_cons_iff.mp h with h | ⟨_, h⟩
    · exact Nat.lt_irrefl _ h
    · exact ih h
theorem cps_tri (a b : List Nat) : a < b ∨ a = b ∨ b < a := by
  induction a generalizing b with
  | nil => cases b with
    | nil => exact .inr (.inl rfl)
    | cons y m => exact .inl (List.nil_lt_cons _ _)
  | cons x l ih => cases b with
    | nil => exact .inr (.inr (List.nil_lt_cons _ _))
    | cons y m =>
      rcases Nat.lt_trichotomy x y with h | h | h
      · exact .inl (List.cons_lt_cons_iff.mpr (.inl h))
      · subst h
        rcases ih m with h | h | h
        · exact .inl (List.cons_lt_cons_iff.mpr (.inr ⟨rfl, h⟩))
        · exact .inr (.inl (by rw [h]))
        · exact .inr (.inr (List.cons_lt_cons_iff.mpr (.inr ⟨rfl, h⟩)))
      · exact .inr (.inr (List.cons_lt_cons_iff.mpr (.inl h)))
theorem risingS_pw : ∀ {l : List Str} {p : Str}, PyProof.Rows.risingS p l = true → (p :: l).Pairwise fun a b => ¬ b.cps.toList < a.cps.toList
  | [], p, _ => List.pairwise_singleton _ _
  | x :: l, p, h => by
    have h' : (!PySem.Spec.ltCps x.cps.toList p.cps.toList && PyProof.Rows.risingS x l) = true := h
    rw [Bool.and_eq_true] at h'
    obtain ⟨h1, h2⟩ := h'
    have ih := risingS_pw h2
    have hxp : ¬ x.cps.toList < p.cps.toList := fun q => by
      rw [PyProof.Rows.ltCps_eq, decide_eq_true q] at h1
      cases h1
    (refine List.pairwise_cons.mpr ⟨fun y hy => ?_, ih⟩); rcases List.mem_cons.mp hy with e | hy
    · subst e; exact hxp
    · have hyx := (List.pairwise_cons.mp ih).1 y hy
      intro q
      rcases cps_tri x.cps.toList y.cps.toList with h | h | h
      · exact hxp (List.lt_trans h q)
      · rw [h] at hxp; exact hxp q
      · exact hyx h
theorem sortedS_pw {l : List Str} (h : PyProof.Rows.sortedS l = true) : l.Pairwise fun a b => ¬ b.cps.toList < a.cps.toList := by
  cases l with
  | nil => exact List.Pairwise.nil
  | cons x l => exact risingS_pw h
/-! ### a def of the text, its promise -/
def Df (K : PySem.W.Frag) (mg : Str → Option Value) (x : Str) (st : Stmt) : Prop := ∃ (f : Addr) (fd : FuncData), Fun K x x st f fd ∧ mg x = some (.ref f)
def OkF (P : Program) (w : World) (K : PySem.W.Frag) (mg : Str → Option Value) (base : Heap) (x : Str) (ps : List Str) (k : Nat) (sp : Sp) : Prop :=
  ∃ (f : Addr) (fd : FuncData), mg x = some (.ref f) ∧ PySem.W.keepIn K (.ref f) = true ∧ Binds K fd ps [] ∧ FnOk P w K mg base CX0 k f fd ps sp
theorem pe_f {X : Cx} {x : Str} {ps : List Str} {j k : Nat} {sp : Sp} {e : Expr} {es : List Expr} {t : TA} {p pos : Pos} (G : OkF X.prog X.w X.K X.mg X.base x ps j sp) (hr : Room k X.A) (hj : j ≤ k) (hg : Gl X x) (ha : PA X (e :: es) t)
    (he : starEach (e :: es) X.env = (false, eval e X.env) :: starEach es X.env := by rfl) (hpl : (backTo pos (starEach es X.env)).any (·.1) = false := by rfl) (hd : (x == ("__debug__" : Str)) = false := by decide) :
    PE X (.Call (.Name x p) (e :: es) [] pos) (tCall sp [] E0 t) := by
  obtain ⟨f, fd, g, kp, b, F⟩ := G
  exact pe_call F (hr.mono hj) hg g kp b .nil pass0 ha hd he hpl
structure Txt (K : PySem.W.Frag) (mg : Str → Option Value) (C : Addr) : Prop where
  cl : Cls K C
  nP : NoAttr K C "persons"
  mgC : mg "Web" = some (.ref C)
  insC : C8.InsC K C
  len : mg "len" = none
  isi : mg "isinstance" = none
  str : mg "str" = none
  tuple : mg "tuple" = none
  all : mg "all" = none
  enum : mg "enumerate" = none
  sorted : mg "sorted" = none
  dict : mg "dict" = none
  zip : mg "zip" = none
  list : mg "list" = none
  int : mg "int" = none
  abs : mg "abs" = none
  divmod : mg "divmod" = none
  max : mg "max" = none
  min : mg "min" = none
  range : mg "range" = none
  mp : ∃ t, mg "MOST_PERSONS" = some (.int 12 t)
  mc : ∃ t, mg "MOST_CALLS" = some (.int 400 t)
  lnm : ∃ t, mg "LONGEST_NAME" = some (.int 6 t)

section
variable {P : Program} {w : World} {K : PySem.W.Frag} {mg : Str → Option Value} {base : Heap} {C : Addr}

theorem yesT {σ : L2.St} {H : Hp} {f g : Hp → Prop} (h : f H) : tYes σ H (fun b H3 => if b = true then f H3 else g H3) := by
  show (if true = true then f H else g H)
  rw [if_pos rfl]
  exact h
/-! ### whom_of -/
def spWhomOf (C : Addr) : Sp := fun vs H Q _ => ∃ x N par r, vs = [.ref x] ∧ OkWeb N par r ∧ IsWeb C H x N par ∧ ∀ H' d, Same H H' → IsWhom H' d N par → Q (.ref d) H'
theorem small4 {n : Nat} (h : n ≤ 4) : n < sizeLine := by rw [sizeLine_eq]; omega
theorem take_snoc {α : Type} {l : List α} {i : Nat} {x : α} (h : l[i]? = some x) : l.take (i + 1) = l.take i ++ [x] := by
  rw [List.take_succ, h]; rfl
theorem notin_take {α : Type} {l : List α} (hn : l.Nodup) {i : Nat} {x : α} (h : l[i]? = some x) : x ∉ l.take i := fun m => by
  obtain ⟨j, hj, e⟩ := List.mem_iff_getElem.mp m
  rw [List.length_take] at hj
  rw [List.getElem_take] at e
  obtain ⟨hi, e2⟩ := List.getElem?_eq_some_iff.mp h
  have : j = i := (List.getElem_inj hn).mp (e.trans e2.symm)
  omega
theorem putK_snoc {N : List Str} {f : Str → V} (hn : N.Nodup) {i : Nat} {n : Str} (h : N[i]? = some n) : putK ((N.take i).map fun n => ((Sum.inr n : Key), f n)) (Sum.inr n) (f n) = (N.take (i + 1)).map fun n => ((Sum.inr n : Key), f n) := by
  rw [putK_new _ (valV_inr_no (notin_take hn h)), take_snoc h, List.map_append]
  rfl
theorem ok_whom_of (T : Txt K mg C) (D : Df K mg "whom_of" s_whom_of) : OkF P w K mg base "whom_of" ["web"] 1 (spWhomOf C) := by
  obtain ⟨f, fd, F, g⟩ := D
  refine ⟨f, fd, g, F.kp, F.binds (ps := ["web"]) fun _ _ _ _ _ _ us hl => match us, hl with | [_], _ => rfl, ?_⟩
  refine F.ok sc_whom_of (fun vs H Q E h => ?_) (fun cdv A outer s H vs Q E hr h => ?_)
  · obtain ⟨x, N, par, r, rfl, _⟩ := h
    rfl
  obtain ⟨x, N, par, r, rfl, W, ⟨dx, t, hx, ts, ht, hp⟩, k⟩ := h
  refine ⟨_, pss_one (ps_ret (pe_dc (own := [("name", 1), ("other", 2)]) (g := gTup K 2 (gCons (gName 1) (gCons (gName 2) gNil))) (tt := tYes) (tk := tVar 1) (tv := tVar 2) rfl sc_whom_of.nd (pi_tup (pe_fld (pv 0) rfl)) (blkOk_by (N := ["web", "name", "other"]) (sc := defScope s_whom_of) (by decide +kernel))
    (fun _ _ _ _ _ => pg_tup rfl (pgs_cons (pg_name (i := 1) sc_whom_of.nd rfl (Or.inl rfl)) (pgs_cons (pg_name (i := 2) sc_whom_of.nd rfl (Or.inl rfl)) pgs_nil))) (fun _ _ _ _ _ => pts_nil) (fun _ _ _ _ _ => pv 1) (fun _ _ _ _ _ => pv 2))), ?_⟩
  refine ⟨_, rfl, x, C, dx, _, _, rfl, hx, T.cl, T.nP, rfl, t, rfl, ⟨_, frzT ht⟩, fun D hD => ?_⟩
  refine dc_tup (K := K) (a := t) (xs := ts.map V.ref) (fun i H' => Same H H' ∧ H' D = some (.dK ((N.take i).map fun n => ((Sum.inr n : Key), optV (par n))))) ⟨same_new hD _, upd_same⟩ (fun i H' _ q => frzT (q.1 _ _ ht)) ?_ ?_
  · rintro i v H' hi ⟨s1, hD'⟩
    rw [List.getElem?_map] at hi
    obtain ⟨b, hb, rfl⟩ := Option.map_eq_some_iff.mp hi
    obtain ⟨n, hn, hbn⟩ := paired_getL hp hb
    refine ⟨b, _, rfl, SqT.of (s1 _ _ hbn), rfl, _, _, rfl, _, _, rfl, rfl, rfl, yesT ⟨_, rfl, _, rfl, _, Sum.inr n, rfl, hD', ?_, same_upd s1 hD, ?_⟩⟩
    · rw [List.length_map]
      exact small4 (Nat.le_trans (List.length_take_le' _ _) W.n4)
    · rw [upd_same, putK_snoc (f := fun n => optV (par n)) W.nd hn]
  · rintro H' ⟨s1, hD'⟩
    rw [List.length_map, Paired.length hp, List.take_length] at hD'
    exact k _ _ s1 hD'


/-! ### names_by -/
def spNamesBy : Sp := fun vs H Q _ => ∃ d N par r, vs = [.ref d] ∧ OkWeb N par r ∧ IsWhom H d N par ∧ ∀ H' l, Same H H' → H l = none → IsStrs H' l N → Q (.ref l) H'
theorem sorted_is {N ys : List Str} (hN : N.Pairwise fun a b => a.cps.toList < b.cps.toList) (hp : ys.Perm N) (hs : PyProof.Rows.sortedS ys = true) : ys = N := by
  refine List.Perm.eq_of_pairwise (le := fun a b => ¬ b.cps.toList < a.cps.toList) (fun a b _ _ h1 h2 => ?_) (sortedS_pw hs) (hN.imp fun h h' => cps_irr _ (List.lt_trans h h')) hp
  rcases cps_tri a.cps.toList b.cps.toList with h | h | h
  · exact absurd h h2
  · exact str_ext h
  · exact absurd h h1
theorem keys_whom {N : List Str} {f : Str → V} : (N.map fun n => ((Sum.inr n : Key), f n)).map (·.1) = N.map Sum.inr := by
  rw [List.map_map]; rfl
theorem ok_names_by (T : Txt K mg C) (D : Df K mg "names_by" s_names_by) : OkF P w K mg base "names_by" ["whom"] 1 spNamesBy := by
  obtain ⟨f, fd, F, g⟩ := D
  refine ⟨f, fd, g, F.kp, F.binds (ps := ["whom"]) fun _ _ _ _ _ _ us hl => match us, hl with | [_], _ => rfl, ?_⟩
  refine F.ok sc_names_by (fun vs H Q E h => ?_) (fun cdv A outer s H vs Q E hr h => ?_)
  · obtain ⟨x, N, par, r, rfl, _⟩ := h
    rfl
  obtain ⟨d, N, par, r, rfl, W, hd, k⟩ := h
  refine ⟨_, pss_one (ps_ret (pe_callB (call_sortedD rfl) (by rfl) T.sorted (by decide +kernel) (pa_cons (pv 0) pa_nil))), ?_⟩
  refine ⟨_, rfl, d, _, N, rfl, .inl hd, keys_whom, Nat.lt_of_le_of_lt W.n4 (by decide), fun ys p hp hs hn => ?_⟩
  have e := sorted_is W.srt hp hs
  subst e
  exact k _ _ (same_new hn _) hn upd_same

/-! ### line_up -/
def spLineUp : Sp := fun vs H Q _ => ∃ d N par r x, vs = [.ref d, .str x] ∧ OkWeb N par r ∧ IsWhom H d N par ∧ x ∈ N ∧ ∀ H' l, Same H H' → H l = none → IsStrs H' l (ln par x) → Q (.ref l) H'
theorem atI_end (pre : List Str) (x : Str) : atI ((pre ++ [x]).map V.str) (-1) = some (.str x) := by
  rw [List.map_append]
  exact atI_last _ _
theorem ok_line_up (D : Df K mg "line_up" s_line_up) : OkF P w K mg base "line_up" ["whom", "name"] 1 spLineUp := by
  obtain ⟨f, fd, F, g⟩ := D
  refine ⟨f, fd, g, F.kp, F.binds (ps := ["whom", "name"]) fun _ _ _ _ _ _ us hl => match us, hl with | [_, _], _ => rfl, ?_⟩
  refine F.ok sc_line_up (fun vs H Q E h => ?_) (fun cdv A outer s H vs Q E hr h => ?_)
  · obtain ⟨d, N, par, r, x, rfl, _⟩ := h
    rfl
  obtain ⟨d, N, par, r, x, rfl, W, hd, hx, k⟩ := h
  refine ⟨_, pss_cons (ps_set (i := 2) sc_line_up.nd rfl (.inl rfl) (pe_lst (pa_cons (pv 1) pa_nil)))
    (pss_cons (ps_while PassesOwn.never (pt_cmpR op_notN (pe_dget (hu_of hr) (pv 0) (pe_ix ix_list (pv 2) (pe_un un_neg pe_int) (fun _ _ => rfl)) (fun _ _ => rfl)) pe_non (nomark _))
      (pss_one (ps_expr (pe_bm PySem.F.plainAttrs_list PySem.F.slot_list_append PySem.F.type_list_append mt_append (pv 2) (pa_cons (pe_dget (hu_of hr) (pv 0) (pe_ix ix_list (pv 2) (pe_un un_neg pe_int) (fun _ _ => rfl)) (fun _ _ => rfl)) pa_nil)))))
    (pss_one (ps_ret (pv 2)))), ?_⟩
  refine ⟨_, rfl, (by show 1 ≤ sizeLine; decide), fun p hp => ?_⟩
  refine ⟨fun m σ H' => ∃ pre y, σ = [some (.ref d), some (.str x), some (.ref p)] ∧ Same H H' ∧ IsStrs H' p (pre ++ [y]) ∧ y ∈ N ∧ ln par x = pre ++ ln par y ∧ m = r y, ⟨_, [], x, rfl, same_new hp _, upd_same, hx, rfl, rfl⟩, ?_⟩
  rintro m σ H' ⟨pre, y, rfl, s1, hl, hy, hln, rfl⟩
  have hd' := hd.same s1
  refine ⟨_, rfl, _, rfl, _, rfl, p, _, _, _, rfl, rfl, SqL.of hl, atI_end _ _, d, _, rfl, hd'.get hy, rfl, _, rfl, ?_⟩
  cases e : par y with
  | none =>
    rw [ln_none e] at hln
    refine iteF ?_
    refine ⟨_, rfl, ?_⟩
    exact k _ _ s1 hp (by rw [hln]; exact hl)
  | some q =>
    refine iteT ?_
    have hq := (W.pin _ _ e).2
    refine ⟨fun σ' H'' => ∃ pre y', σ' = [some (.ref d), some (.str x), some (.ref p)] ∧ Same H H'' ∧ IsStrs H'' p (pre ++ [y']) ∧ y' ∈ N ∧ ln par x = pre ++ ln par y' ∧ r y' < r y, fun σ' H'' ⟨pre, y', h1, h2, h3, h4, h5, h6⟩ => ⟨_, h6, pre, y', h1, h2, h3, h4, h5, rfl⟩, ?_⟩
    have g2 := hd'.get hy
    rw [e] at g2
    refine ⟨_, rfl, .inl ⟨rfl, _, SqL.of hl⟩, _, rfl, _, rfl, _, rfl, p, _, _, _, rfl, rfl, SqL.of hl, atI_end _ _, d, _, rfl, g2, p, _, _, rfl, rfl, hl, ?_, pre ++ [y], q, rfl, same_upd s1 hp, ?_, hq, ?_, W.rk _ _ e⟩
    · rw [List.length_map, List.length_append, List.length_singleton]
      have := W.ln_le hx
      rw [hln, List.length_append, W.ln_some e, List.length_cons] at this
      have := W.n4
      exact small4 (by omega)
    · show upd H' p _ p = _
      rw [upd_same, List.map_append (l₂ := [q])]
      rfl
    · rw [hln, W.ln_some e, List.append_assoc]
      rfl
end
end HW
set_option Elab.async false
set_option maxRecDepth 100000
set_option linter.all false
set_option maxHeartbeats 4000000
/-! name = {k: v for ..} on one line, the name a local -/
namespace HW
open L2 PyProof.Rows PySem PySem.Spec
variable {X : Cx}
structure DcParts (X : Cx) (scope : Scope) (kx vx tg : Expr) (g : TG) (tk tv : TE) : Prop where
  tg : ∀ s H C cl fp, PG (X.blk s H scope (compEnvC scope cl C X.env) fp) tg g
  key : ∀ s H C cl fp, PE (X.blk s H scope (compEnvC scope cl C X.env) fp) kx tk
  val : ∀ s H C cl fp, PE (X.blk s H scope (compEnvC scope cl C X.env) fp) vx tv
theorem ps_setDc {i : Nat} {nm : Str} {np : Pos} {kx vx tg src : Expr} {scope : Scope} {own : List (Str × Nat)} {dp sp : Pos} {wi : TI} {g : TG} {tk tv : TE} (calm : X.calm = true) (nd : X.N.Nodup) (hnm : X.N[i]? = some nm) (loc : X.env.scope.names.lookup nm = some .local)
    (sw : swapsWith (.DictComp kx vx [⟨tg, src, [], 0⟩] scope dp) (some (.Name nm np)) sp.line X.env = pure true) (hi : PI X tg src wi) (ok : BlkOk X.N X.env.scope scope own) (parts : DcParts X scope kx vx tg g tk tv) (fold : ∀ x, foldedSetIterable src X.env x = pure x := by intro _; rfl) :
    PS X (.Assign [.Name nm np] (.DictComp kx vx [⟨tg, src, [], 0⟩] scope dp) sp) (tAsg (tDc wi g tYes tk tv (own.map (·.2))) (gName i)) := by
  (refine ⟨fun pins s σ H D I h => ?_⟩); rw [exec_Assign_Name_used _ _ _ _ sw]
  (refine wpAny_bind (wpAny_standAt (wpAny_bind ?_))); have h' : tDc wi g tYes tk tv (own.map (·.2)) σ H (fun x H1 => gName i x σ H1 D.nx) := h
  show wpAny _ X.A (do let _ ← comprehension (.DictComp kx vx [⟨tg, src, [], 0⟩] scope dp) scope X.env (firstIterPos [⟨tg, src, [], 0⟩] dp) newDict false (eval src X.env) (some (assign (.Name nm np) X.env))) _ _ s
  refine wpAny_bind (thn (dc_core (Qf := fun _ s' => SP X pins D .next s') calm nd I hi ok parts.tg (fun _ _ _ _ _ => pts_nil) parts.key parts.val fold h' fun L Ca s' m Hb Ib qb nsC fpC => ?_) fun _ s' hq => wpAny_pure (wpAny_pure hq))
  show wpAny _ _ (assign (.Name nm np) X.env (.ref L)) _ _ _
  refine wpAny_assign_Name (store_ok2 (v := V.ref L) Ib nd hnm (.inl loc) rfl (fun s2 I2 ⟨a, sb, ha⟩ => ?_) (.inr loc))
  obtain ⟨p0, p1, p2, p3, p4, p5⟩ := fpC
  have off : Ca ≠ a := ha.elim (fun z => by rw [z]; exact p1) fun z e => p4 nm a z e.symm
  exact ⟨m, nsC.sameBut sb off, fun _ sb3 => ⟨_, Hb, I2.turned (t' := s2.toks) (fun b o hb e => (sb3.2 b hb).trans e) p0 p1 p3 p4 p5, qb⟩⟩
end HW
set_option Elab.async false
set_option maxRecDepth 100000
set_option linter.all false
set_option maxHeartbeats 4000000
namespace HW
open PySem L2
theorem dc_it {J : It} {n : Nat} {G : Hp → Prop} {Y : Nat → Hp → V → Hp → Prop} (wk : Walk J n G Y) {g : TG} {tk tv : TE} {vs : List Nat} {σ : L2.St} {Hs : Hp} {D : Addr} {Qd : Hp → Prop} (R : Nat → Hp → Prop) (r0 : R 0 (upd Hs D (.dK []))) (rG : ∀ i H, i ≤ n → R i H → G H)
    (rs : ∀ i x H H', i < n → R i H → Y i H x H' → g x (wipe σ vs) H' (fun σ2 Hb => wipe σ2 vs = wipe σ vs ∧ tYes σ2 Hb fun b Hc => if b = true then tk σ2 Hc fun y Hd => tv σ2 Hd fun z He => ∃ kvs k, y = kV k ∧ He D = some (.dK kvs) ∧ kvs.length < sizeLine ∧ R (i + 1) (upd He D (.dK (putK kvs k z))) else R (i + 1) Hc)) (rd : ∀ H, R n H → Qd H) :
    ∃ W : Nat → Nat → Hp → Prop, (∃ m, W 0 m (upd Hs D (.dK []))) ∧ ∀ i m H, W i m H → (J.stop i H ∧ Qd H) ∨ (J.go i H ∧ ∃ Nx : Hp → Prop, (∀ H', Nx H' → ∃ m', m' < m ∧ W (i + 1) m' H') ∧ ∀ x H', J.yld i H x H' → g x (wipe σ vs) H' (fun σ2 Hb => wipe σ2 vs = wipe σ vs ∧ tYes σ2 Hb fun b Hc => if b = true then tk σ2 Hc fun y Hd => tv σ2 Hd fun z He => ∃ kvs k, y = kV k ∧ He D = some (.dK kvs) ∧ kvs.length < sizeLine ∧ Nx (upd He D (.dK (putK kvs k z))) else Nx Hc)) := by
  refine ⟨fun i m H => m = n - i ∧ i ≤ n ∧ R i H, ⟨n, (Nat.sub_zero n).symm, Nat.zero_le _, r0⟩, ?_⟩
  rintro i m H ⟨rfl, hi, p⟩
  rcases Nat.lt_or_ge i n with lt | ge
  · exact .inr ⟨wk.goes i H lt (rG i H hi p), R (i + 1), fun H' p' => ⟨n - (i + 1), by omega, rfl, lt, p'⟩, fun x H' y => rs i x H H' lt p (wk.yields i H x H' lt (rG i H hi p) y)⟩
  · obtain rfl : i = n := by omega
    exact .inl ⟨wk.stops H (rG _ H hi p), rd H p⟩
end HW
set_option Elab.async false
set_option maxRecDepth 100000
set_option linter.all false
set_option maxHeartbeats 4000000
/-! tuples that are known to have no dict of their own: displays, sums, slices; their index -/
namespace HW
open L2 PyProof.Rows PySem PySem.Spec
/-- a tuple without a dict of its own -/
def T1 (H : Hp) (a : Addr) (xs : List V) : Prop := ∃ o : Obj, H a = some (.frz o (.tup xs)) ∧ o.dict = none
theorem T1.same {H H' : Hp} {a : Addr} {xs : List V} (h : T1 H a xs) (s : Same H H') : T1 H' a xs := let ⟨o, e, d⟩ := h; ⟨o, s _ _ e, d⟩
theorem T1.rd {H : Hp} {a : Addr} {xs : List V} (h : T1 H a xs) : Rd H a (.tup xs) := let ⟨o, e, _⟩ := h; .inr ⟨o, e⟩
theorem T1.sq {K : PySem.W.Frag} {H : Hp} {a : Addr} {xs : List V} (h : T1 H a xs) : SqT K H a xs := .inl h.rd
theorem T1.upd {H : Hp} {p : Addr} {xs : List V} {o : Obj} (d : o.dict = none) : T1 (upd H p (.frz o (.tup xs))) p xs := ⟨o, upd_same, d⟩
/-- PILES whose tuples are such ones -/
def IsPiles1 (H : Hp) (a : Addr) (ps : List (List Str)) : Prop := ∃ bs : List Addr, H a = some (.tup (bs.map V.ref)) ∧ Paired (fun b w => T1 H b (w.map V.str)) bs ps
def IsWords1 (H : Hp) (d : Addr) (N : List Str) (ws : Str → List Str) : Prop := ∃ f : Str → Addr, H d = some (.dK (N.map fun n => (Sum.inr n, V.ref (f n)))) ∧ ∀ n ∈ N, T1 H (f n) ((ws n).map V.str)
theorem IsPiles1.same {H H' : Hp} {a : Addr} {ps : List (List Str)} (h : IsPiles1 H a ps) (s : Same H H') : IsPiles1 H' a ps := let ⟨ts, e, p⟩ := h; ⟨ts, s _ _ e, paired_mono p fun _ _ q => q.same s⟩
theorem IsWords1.same {H H' : Hp} {d : Addr} {N : List Str} {ws : Str → List Str} (h : IsWords1 H d N ws) (s : Same H H') : IsWords1 H' d N ws := let ⟨f, e, p⟩ := h; ⟨f, s _ _ e, fun n hn => (p n hn).same s⟩
section
variable {s : Shared} {H : Hp} {σ : L2.St} {pins : List (Addr × Obj)} {X : Cx}
/-- a new tuple on the heap -/
theorem laidT1 {us : List Value} {xs : List V} {Q : VK} (I : Inv X pins σ H s) (r : Vals xs us) (hz : xs.length ≤ sizeLine) (q : ∀ p H', Same H H' → H p = none → T1 H' p xs → Q (.ref p) H') :
    EP X pins σ Q (.ref s.heap.objs.size) { s with heap := s.heap.push { cls := .type "tuple", data := .seq us.toArray } } := by
  (have hf : H s.heap.objs.size = none := I.hok.fresh (Nat.le_refl _)); refine ⟨.ref s.heap.objs.size, _, I.laid (t' := s.toks) (o := .frz { cls := .type "tuple", data := .seq us.toArray } (.tup xs)) (fun b u z => Heap.get?_push_of_some _ z) (Nat.le_refl _) ?_, rfl, q _ _ (same_new hf _) hf (T1.upd rfl)⟩
  exact ⟨Heap.get?_push_size _ rfl, hz, us, r, ⟨_, Heap.get?_push_size _ rfl, rfl, _, rfl⟩⟩
end
section
variable {X : Cx}
def tTup1 (t : TA) : TE := fun σ H Q => t σ H fun xs H1 => xs.length ≤ sizeLine ∧ ∀ p H', Same H1 H' → H1 p = none → T1 H' p xs → Q (.ref p) H'
theorem pe_tup1 {es : List Expr} {t : TA} {k : Nat} {pos : Pos} (h : PA X es t) : PE X (.Tuple es k pos) (tTup1 t) := by
  (refine ⟨fun pins s σ H Q I hq => ?_⟩); exact wpAny_Tuple_spliced (thn (h.run pos pins s σ H _ I hq) fun us s1 ⟨xs, H1, I1, r, z, q⟩ => ⟨by rw [← r.length]; exact z, laidT1 I1 r z q⟩)
def rCat1 : R2 := fun x y H Q => ∃ a b xs ys, x = .ref a ∧ y = .ref b ∧ T1 H a xs ∧ T1 H b ys ∧ xs.length + ys.length ≤ sizeLine ∧ ∀ p H', Same H H' → T1 H' p (xs ++ ys) → Q (.ref p) H'
theorem op_cat1 : OpR X (binaryOp .Add) rCat1 := by
  (intro pins s σ H x y v u Q I rx ry h); obtain ⟨a, b, xs, ys, rfl, rfl, ha, hb, hz, q⟩ := h
  cases rx
  cases ry
  obtain ⟨i1, r1, p1, _⟩ := I.tuple ha.sq
  obtain ⟨i2, r2, p2, _⟩ := I.tuple hb.sq
  by_cases hx : xs = []
  · subst hx
    cases r1
    exact cat_tup0 p1 p2 ⟨.ref b, H, I, rfl, q b H (Same.refl H) hb⟩
  · refine HT.cat_tup p1 p2 (fun z => hx (r1.nil_iff.mp z)) (fun z => ⟨.ref a, H, I, rfl, ?_⟩) (fun z => ?_) (by rw [← r1.length, ← r2.length]; exact hz)
    · have e := r2.nil_iff.mp z
      subst e
      exact q a H (Same.refl H) (by rw [List.append_nil]; exact ha)
    · exact laidT1 I (r1.append r2) (by rw [List.length_append]; exact hz) fun p H' s' _ t' => q p H' s' t'
def rSl1 : V → Option Int → Option Int → Hp → VK → Prop := fun x lo hi H Q => ∃ a xs, x = .ref a ∧ T1 H a xs ∧ ∀ p H', Same H H' → T1 H' p (cutV xs lo hi) → Q (.ref p) H'
theorem sl_tup1 : SlR X rSl1 := by
  (intro pins s σ H x v vl vu lo hi sl Q I rx hs pl pu h); obtain ⟨a, xs, rfl, hx, q⟩ := h
  cases rx
  obtain ⟨its, r, ht, hz⟩ := I.tuple (hx.sq (K := X.K))
  (have hlen : its.toArray.size = xs.length := by rw [List.size_toArray]; exact r.length.symm); refine ⟨"tuple", _, PyProof.Rows.slot_tuple_getitem.lookup, ht.typeIs, ?_⟩
  by_cases whole : HT.sIx xs.length 0 lo = 0 ∧ HT.sIx xs.length xs.length hi = xs.length
  · exact getItem_tuple_whole ht hs pl pu (by rw [hlen]; exact whole) ⟨.ref a, H, I, rfl, q a H (Same.refl H) (by rw [cutV_whole xs whole.1 whole.2]; exact hx)⟩
  · refine HT.getItem_tuple_cut ht hs pl pu (by rw [hlen]; exact whole) ?_ (by rw [hlen]; exact hz)
    rw [hlen]
    exact laidT1 I ((r.drop (HT.sIx xs.length 0 lo)).take (HT.sIx xs.length xs.length hi - HT.sIx xs.length 0 lo)) (Nat.le_trans (cutV_length xs lo hi) hz) fun p H' s' _ t' => q p H' s' t'
/-- t.index(x) of such a one -/
def tIndex1 (K : PySem.W.Frag) (to : TE) (t : TA) : TE := fun σ H Q => to σ H fun x H1 => ∃ p, ∃ ys : List Str, x = .ref p ∧ T1 H1 p (ys.map V.str) ∧ t σ H1 fun vs H2 => ∃ z j, vs = [.str z] ∧ T1 H2 p (ys.map V.str) ∧ ys[j]? = some z ∧ (∀ m, m < j → ys[m]? ≠ some z) ∧ Q (.int (j : Nat)) H2
theorem pe_index1 {o e : Expr} {to : TE} {t : TA} {apos cpos : Pos} (ho : PE X o to) (ha : PA X [e] t)
    (whole : attributeBase o "index" X.env (eval o X.env) = eval o X.env := by rfl)
    (few : ((backTo cpos (starEach [e] X.env)).all (fun z => !z.1) && (backToKw cpos (keywordEach [] X.env)).all (fun z => z.1.isSome) && decide ([e].length + ([] : List Keyword).length + (if ([] : List Keyword).isEmpty then 0 else 1) < 30)) = true := by rfl)
    (oneline : (apos.endLine == cpos.line) = true := by rfl) (st : starEach [e] X.env = (false, eval e X.env) :: starEach [] X.env := by rfl) (pl : (backTo cpos (starEach [] X.env)).any (·.1) = false := by rfl) :
    PE X (.Call (.Attribute o "index" apos) [e] [] cpos) (tIndex1 X.K to t) := by
  (refine ⟨fun pins s σ H Q I h => ?_⟩); refine wpAny_Call_method_late whole few oneline rfl (thn (ho.run pins s σ H _ I h) fun v sv ⟨x, Hv, Iv, rv, p, ys, ex, hT, hq⟩ => ?_)
  subst ex
  cases rv
  obtain ⟨ob, hob, hdn⟩ := id hT
  obtain ⟨hg, _, _, _, oo, hoo, hcls, _⟩ := (show ObjOk X.prog X.w Hv sv.heap p (.frz ob (.tup (ys.map V.str))) from Iv.hok p _ hob)
  refine ⟨"tuple", _, PySem.F.plainAttrs_tuple, PySem.F.slot_tuple_index, PySem.F.type_tuple_index, ⟨oo, hoo, hcls⟩, fun a e => ?_, ?_⟩
  · cases e
    exact ⟨ob, hg, hdn⟩
  · have hA := ha.run cpos pins sv σ Hv _ Iv hq
    rw [st] at hA ⊢
    refine Calls.callWith_builtin (by show (false || (backTo cpos (starEach [] X.env)).any (·.1)) = false; rw [pl] <;> rfl) (Calls.evalArgs_plain ?_)
    refine thn hA fun us su ⟨vs, Hu, Iu, ru, z, j, ev, hTu, h1, h2, qf⟩ => ?_
    exact mt_tup_index pins su σ Hu (.ref p) vs (.ref p) us Q Iu rfl ru ⟨p, ys, z, j, rfl, ev, hTu.sq, h1, h2, qf⟩
end
end HW
set_option Elab.async false
set_option maxRecDepth 100000
set_option linter.all false
set_option maxHeartbeats 4000000
/-! lists and tuples of texts, piles as plain data -/
namespace HW
open PySem L2
def dW (w : List Str) : PyData := .tuple (w.map .str)
def dP (ps : List (List Str)) : PyData := .tuple (ps.map dW)
def dL (w : List Str) : PyData := .list (w.map .str)
abbrev SO (x : Str) : Prop := PyData.strOk x = true
theorem NameOk.so {x : Str} (h : NameOk x) : SO x := by
  show (x.cps.all fun c => decide (c < 0x110000)) = true
  rw [Array.all_eq_true']
  intro c hc
  have h1 := h.az c (Array.mem_toList_iff.mpr hc)
  have h2 : (letters.cps.toList.all fun c => decide (c < 0x110000)) = true := by decide +kernel
  exact List.all_eq_true.mp h2 c h1
theorem str_can {xs : List Str} (h : ∀ x ∈ xs, SO x) : PyData.canLayAll0 (xs.map PyData.str) = true := by
  induction xs with
  | nil => rfl
  | cons x l ih =>
    show (PyData.strOk x && PyData.canLayAll0 (l.map PyData.str)) = true
    rw [h x List.mem_cons_self, ih fun y hy => h y (List.mem_cons_of_mem _ hy)]
    rfl
theorem str_depth (xs : List Str) : PyData.depthAll (xs.map PyData.str) = 0 := by
  induction xs with
  | nil => rfl
  | cons x l ih => simp [PyData.depthAll, PyData.depth, ih]
theorem str_eqv (xs ys : List Str) : PyData.eqvAll (xs.map PyData.str) (ys.map PyData.str) = decide (xs = ys) := by
  induction xs generalizing ys with
  | nil => cases ys <;> simp [PyData.eqvAll]
  | cons x l ih => cases ys with
    | nil => simp [PyData.eqvAll]
    | cons y m =>
      simp only [List.map_cons, PyData.eqvAll, PyData.eqv, ih]
      by_cases h : x = y
      · subst h; by_cases h2 : l = m <;> simp [h2]
      · simp [h]
theorem sh {d : PyData} (h1 : d.canLay0 = true) (h2 : d.depth ≤ 64) : SeqAt.shaped d = true := by
  show (d.canLay0 && decide (d.depth ≤ 64)) = true
  rw [h1, decide_eq_true h2]
  rfl
theorem dW_shaped {w : List Str} (h : ∀ x ∈ w, SO x) : SeqAt.shaped (dW w) = true := sh (str_can h) (by show PyData.depthAll (w.map .str) + 1 ≤ 64; rw [str_depth]; omega)
theorem dL_shaped {w : List Str} (h : ∀ x ∈ w, SO x) : SeqAt.shaped (dL w) = true := sh (str_can h) (by show PyData.depthAll (w.map .str) + 1 ≤ 64; rw [str_depth]; omega)
theorem dP_can {ps : List (List Str)} (h : ∀ w ∈ ps, ∀ x ∈ w, SO x) : PyData.canLayAll0 (ps.map dW) = true := by
  induction ps with
  | nil => rfl
  | cons x l ih =>
    show (PyData.canLayAll0 (x.map .str) && PyData.canLayAll0 (l.map dW)) = true
    rw [str_can (h x List.mem_cons_self), ih fun y hy => h y (List.mem_cons_of_mem _ hy)]
    rfl
theorem dP_depth (ps : List (List Str)) : PyData.depthAll (ps.map dW) ≤ 1 := by
  induction ps with
  | nil => exact Nat.zero_le _
  | cons x l ih =>
    show max (PyData.depthAll (x.map .str) + 1) (PyData.depthAll (l.map dW)) ≤ 1
    rw [str_depth]
    omega
theorem dP_shaped {ps : List (List Str)} (h : ∀ w ∈ ps, ∀ x ∈ w, SO x) : SeqAt.shaped (dP ps) = true :=
  sh (dP_can h) (by have := dP_depth ps; show PyData.depthAll (ps.map dW) + 1 ≤ 64; omega)
theorem dP_eqv (xs ys : List (List Str)) : PyData.eqvAll (xs.map dW) (ys.map dW) = decide (xs = ys) := by
  induction xs generalizing ys with
  | nil => cases ys <;> simp [PyData.eqvAll]
  | cons x l ih => cases ys with
    | nil => simp [PyData.eqvAll]
    | cons y m =>
      have e : PyData.eqv (dW x) (dW y) = decide (x = y) := str_eqv x y
      simp only [List.map_cons, PyData.eqvAll, ih, e]
      by_cases h : x = y
      · subst h; by_cases h2 : l = m <;> simp [h2]
      · simp [h]
theorem dP_eq (xs ys : List (List Str)) : PyData.eqv (dP xs) (dP ys) = decide (xs = ys) := dP_eqv xs ys
theorem dL_nil (xs : List Str) : PyData.eqv (dL xs) (.list []) = decide (xs = []) := str_eqv xs []
theorem eqv_nil {α : Type} (f : α → PyData) (xs : List α) : PyData.eqv (.list (xs.map f)) (.list []) = decide (xs = []) := by
  cases xs <;> simp [PyData.eqv, PyData.eqvAll]
theorem nil_shaped : SeqAt.shaped (.list []) = true := rfl
section
variable {K : PySem.W.Frag} {H : Hp}
theorem dp_strs (xs : List Str) : DpAll K H (xs.map V.str) (xs.map PyData.str) := by
  induction xs with
  | nil => exact .nil
  | cons x l ih => exact .cons (.str x) ih
theorem dp_L {a : Addr} {xs : List Str} (h : SqL K H a (xs.map V.str)) : Dp K H (.ref a) (dL xs) := .lst h (dp_strs xs)
theorem dp_W {a : Addr} {xs : List Str} (h : SqT K H a (xs.map V.str)) : Dp K H (.ref a) (dW xs) := .tup h (dp_strs xs)
theorem dp_nil {a : Addr} (h : SqL K H a []) : Dp K H (.ref a) (.list []) := .lst h .nil
theorem dp_words {F : Addr → List Str → Prop} (hF : ∀ b w, F b w → SqT K H b (w.map V.str)) : ∀ {bs : List Addr} {ps : List (List Str)}, Paired F bs ps → DpAll K H (bs.map V.ref) (ps.map dW)
  | _, _, .nil => .nil
  | _, _, .cons h t => .cons (dp_W (hF _ _ h)) (dp_words hF t)
theorem dp_P1 {a : Addr} {ps : List (List Str)} (h : IsPiles1 H a ps) : Dp K H (.ref a) (dP ps) := by
  obtain ⟨bs, e, p⟩ := h
  exact .tup (SqT.of e) (dp_words (fun b w q => q.sq) p)
theorem dp_P {a : Addr} {ps : List (List Str)} (h : IsPiles H a ps) : Dp K H (.ref a) (dP ps) := by
  obtain ⟨bs, e, p⟩ := h
  exact .tup (SqT.of e) (dp_words (fun b w q => SqT.of q) p)
end
end HW
set_option Elab.async false
set_option maxRecDepth 100000
set_option linter.all false
set_option maxHeartbeats 4000000
namespace HW
open PySem L2
section
variable {P : Program} {w : World} {K : PySem.W.Frag} {mg : Str → Option Value} {base : Heap} {C : Addr}
theorem iteDT {p A B : Prop} [Decidable p] (h : p) (a : A) : if decide p = true then A else B := by rw [if_pos (decide_eq_true h)]; exact a
theorem iteDF {p A B : Prop} [Decidable p] (h : ¬ p) (b : B) : if decide p = true then A else B := by rw [if_neg (by simpa using h)]; exact b
theorem iteNT {p A B : Prop} [Decidable p] (h : ¬ p) (a : A) : if (!decide p) = true then A else B := by rw [if_pos (by simpa using h)]; exact a
theorem iteNF {p A B : Prop} [Decidable p] (h : p) (b : B) : if (!decide p) = true then A else B := by rw [if_neg (by simpa using h)]; exact b
def tl (par : Str → Option Str) (x : Str) : List Str := (ln par x).tail
theorem ln_tl (par : Str → Option Str) (x : Str) : ln par x = x :: tl par x := rfl
theorem tl_none {par : Str → Option Str} {x : Str} (h : par x = none) : tl par x = [] := by
  unfold tl; rw [ln_none h]; rfl
theorem OkWeb.tl_some {N : List Str} {par : Str → Option Str} {r : Str → Nat} (W : OkWeb N par r) {x p : Str} (h : par x = some p) : tl par x = ln par p := by
  unfold tl; rw [W.ln_some h]; rfl

def spIsName : Sp := fun vs H Q _ => ∃ x, vs = [.str x] ∧ NameOk x ∧ ∀ H', Same H H' → Q (.bl true) H'
theorem ok_is_name (T : Txt K mg C) (D : Df K mg "is_name" s_is_name) : OkF P w K mg base "is_name" ["thing"] 1 spIsName := by
  obtain ⟨f, fd, F, g⟩ := D
  obtain ⟨tln, hln⟩ := T.lnm
  refine ⟨f, fd, g, F.kp, F.binds (ps := ["thing"]) fun _ _ _ _ _ _ us hl => match us, hl with | [_], _ => rfl, ?_⟩
  refine F.ok sc_is_name (fun vs H Q E h => ?_) (fun cdv A outer s H vs Q E hr h => ?_)
  · obtain ⟨x, rfl, _⟩ := h
    rfl
  obtain ⟨x, rfl, ok, k⟩ := h
  refine ⟨_, (pss_cons (ps_if ((pw_or (pt_not (pt_val (pe_callB call_isi (by rfl) T.isi (by decide +kernel) (pa_cons (pv 0) (pa_cons (pe_bltn (v := .ty "str") (by rfl) T.str (by decide +kernel) rfl) pa_nil))))) (pw_or1 (pt_not (pt_chain op_le op_le pe_int (pe_callB call_len_str (by rfl) T.len (by decide +kernel) (pa_cons (pv 0) pa_nil)) (pe_glob (v := .int 6) (by rfl) hln ⟨_, rfl⟩)))))).pt (pss_one (ps_ret pe_bl)) pss_nil)
  (pss_one (ps_ret (pe_callB (cr_all rfl) (by rfl) T.all (by decide +kernel) (pa_cons (pe_lc (own := [("sign", 1)]) (g := (gName 1)) (tt := tYes) (te := (tOp (fun x y H Q => ∃ (c : Nat) (z : Str), x = .str ⟨#[c]⟩ ∧ y = .str z ∧ Q (.bl (decide (c ∈ z.cps.toList))) H) (tVar 1) (tC (.str "abcdefghijklmnopqrstuvwxyz")))) rfl sc_is_name.nd (pi_str (pv 0)) (blkOk_by (N := ["thing", "sign"]) (sc := defScope s_is_name) (by decide +kernel)) (fun _ _ _ _ _ => (pg_name (i := 1) sc_is_name.nd rfl (Or.inl rfl))) (fun _ _ _ _ _ => pts_nil) (fun _ _ _ _ _ => (pe_cmpR op_in_sign (pv 1) pe_str (by rfl)))) pa_nil))))), ?_⟩
  have hz : x.length ≤ sizeLine := by have := ok.l6; rw [sizeLine_eq]; omega
  refine ⟨_, rfl, _, _, _, _, true, rfl, .ty _, .base (.str _), rfl, _, rfl, ?_⟩
  refine iteF ⟨_, rfl, x, rfl, hz, _, _, rfl, rfl, _, rfl, iteDT (by have := ok.l1; omega) ?_⟩
  refine ⟨_, _, rfl, rfl, _, rfl, iteNF (by have := ok.l6; omega) ?_⟩
  refine ⟨_, rfl, x, rfl, fun D hD => ?_⟩
  refine lc_it (walk_str (z := x)) (fun i H' => Same H H' ∧ H' D = some (.lst ((List.replicate i true).map V.bl))) ⟨same_new hD _, upd_same⟩ (fun _ _ _ _ => trivial) ?_ ?_
  · rintro i v H' H'' hi ⟨s1, hD'⟩ ⟨rfl, c, hc, rfl⟩
    refine ⟨rfl, yesT ⟨_, rfl, c, _, rfl, rfl, _, hD', ?_, same_upd s1 hD, ?_⟩⟩
    · rw [List.length_map, List.length_replicate, sizeLine_eq]
      have h1 : x.length ≤ 6 := ok.l6
      have h2 : i < x.length := hi
      omega
    · have hm : c ∈ x.cps.toList := by
        rw [← Array.getElem?_toList] at hc
        exact List.mem_of_getElem? hc
      have hm2 : c ∈ (Str.ofString "abcdefghijklmnopqrstuvwxyz").cps.toList := ok.az c hm
      rw [upd_same, decide_eq_true hm2, List.replicate_succ', List.map_append]
      rfl
  · rintro H' ⟨s1, hD'⟩
    refine ⟨D, List.replicate x.cps.size true, rfl, SqL.of hD', ?_⟩
    have : (List.replicate x.cps.size true).all id = true := by simp
    rw [this]
    exact k _ s1
/-- a person of the web -/
def spIsPerson : Sp := fun vs H Q _ => ∃ b n o, vs = [.ref b] ∧ H b = some (.tup [V.str n, optV o]) ∧ NameOk n ∧ (∀ p, o = some p → NameOk p) ∧ ∀ H', Same H H' → Q (.bl true) H'
theorem ok_is_person (T : Txt K mg C) (G_is_name : OkF P w K mg base "is_name" ["thing"] 1 spIsName) (D : Df K mg "is_person" s_is_person) : OkF P w K mg base "is_person" ["thing"] 2 spIsPerson := by
  obtain ⟨f, fd, F, g⟩ := D
  refine ⟨f, fd, g, F.kp, F.binds (ps := ["thing"]) fun _ _ _ _ _ _ us hl => match us, hl with | [_], _ => rfl, ?_⟩
  refine F.ok sc_is_person (fun vs H Q E h => ?_) (fun cdv A outer s H vs Q E hr h => ?_)
  · obtain ⟨b, n, o, rfl, _⟩ := h
    rfl
  obtain ⟨b, n, o, rfl, hb, hn, ho, k⟩ := h
  refine ⟨_, (pss_cons (ps_if ((pw_or (pt_not (pt_val (pe_callB call_isi (by rfl) T.isi (by decide +kernel) (pa_cons (pv 0) (pa_cons (pe_bltn (v := .ty "tuple") (by rfl) T.tuple (by decide +kernel) rfl) pa_nil))))) (pw_or (pt_cmpR op_ne (pe_callB call_len_seq (by rfl) T.len (by decide +kernel) (pa_cons (pv 0) pa_nil)) pe_int (nomark _)) (pw_or1 (pt_not (pt_val (pe_f G_is_name hr (by decide) (by rfl) (pa_cons (pe_ix ix_tup (pv 0) pe_int (fun _ _ => rfl)) pa_nil)))))))).pt (pss_one (ps_ret pe_bl)) pss_nil)
  (pss_one (ps_ret (pe_or (pe_cmpR op_isN (pe_ix ix_tup (pv 0) pe_int (fun _ _ => rfl)) pe_non (nomark _)) (pe_one (pe_f G_is_name hr (by decide) (by rfl) (pa_cons (pe_ix ix_tup (pv 0) pe_int (fun _ _ => rfl)) pa_nil))))))), ?_⟩
  refine ⟨_, rfl, _, _, _, _, true, rfl, .ty _, .base (.tup hb), rfl, _, rfl, iteF ?_⟩
  refine ⟨_, rfl, b, _, rfl, .inr (SqT.of hb), rfl, _, rfl, iteF ?_⟩
  refine ⟨_, rfl, b, _, _, _, rfl, rfl, SqT.of hb, rfl, n, rfl, hn, fun H1 s1 => ⟨_, rfl, iteF ?_⟩⟩
  have hb1 := s1 _ _ hb
  refine ⟨_, rfl, b, _, _, _, rfl, rfl, SqT.of hb1, rfl, rfl, ?_⟩
  cases o with
  | none => exact ⟨true, rfl, iteT (k _ s1)⟩
  | some p =>
    refine ⟨false, rfl, iteF ⟨_, rfl, b, _, _, _, rfl, rfl, SqT.of hb1, rfl, p, rfl, ho p rfl, fun H2 s2 => k _ (s1.trans s2)⟩⟩
def spUpward : Sp := fun vs H Q _ => ∃ d N par r x, vs = [.ref d, .str x] ∧ OkWeb N par r ∧ IsWhom H d N par ∧ x ∈ N ∧ ∀ H' l, Same H H' → H l = none → IsStrs H' l (tl par x) → Q (.ref l) H'
theorem ok_upward (T : Txt K mg C) (D : Df K mg "upward" s_upward) : OkF P w K mg base "upward" ["whom", "name"] 1 spUpward := by
  obtain ⟨f, fd, F, g⟩ := D
  refine ⟨f, fd, g, F.kp, F.binds (ps := ["whom", "name"]) fun _ _ _ _ _ _ us hl => match us, hl with | [_, _], _ => rfl, ?_⟩
  refine F.ok sc_upward (fun vs H Q E h => ?_) (fun cdv A outer s H vs Q E hr h => ?_)
  · obtain ⟨d, N, par, r, x, rfl, _⟩ := h
    rfl
  obtain ⟨d, N, par, r, x, rfl, W, hd, hx, k⟩ := h
  refine ⟨_, (pss_cons (ps_par (i := 2) (j := 3) rfl sc_upward.nd rfl rfl (by decide) rfl rfl (pa_cons (pe_lst pa_nil) (pa_cons (pe_dget (hu_of hr) (pv 0) (pv 1) (fun _ _ => rfl)) pa_nil)) (by rfl))
  (pss_cons (ps_while PassesOwn.never ((pw_and (pt_cmpR op_notN (pv 3) pe_non (nomark _)) (pw_and1 (pt_cmpR op_lt (pe_callB call_len_seq (by rfl) T.len (by decide +kernel) (pa_cons (pv 2) pa_nil)) (pe_callB call_lenD (by rfl) T.len (by decide +kernel) (pa_cons (pv 0) pa_nil)) (nomark _))))).pt
  (pss_cons (ps_expr (pe_bm PySem.F.plainAttrs_list PySem.F.slot_list_append PySem.F.type_list_append mt_append (pv 2) (pa_cons (pv 3) pa_nil)))
  (pss_one (ps_set (i := 3) sc_upward.nd rfl (.inl rfl) (pe_dget (hu_of hr) (pv 0) (pv 3) (fun _ _ => rfl))))))
  (pss_one (ps_ret (pv 2))))), ?_⟩
  refine ⟨Nat.zero_le _, fun p hp => ?_⟩
  refine ⟨_, rfl, _, rfl, d, _, rfl, (hd.same (same_new hp _)).get hx, ?_⟩
  refine ⟨_, _, rfl, ?_⟩
  refine ⟨fun m σ H' => ∃ pre o, σ = [some (.ref d), some (.str x), some (.ref p), some (optV o)] ∧ Same H H' ∧ IsStrs H' p pre ∧ (∀ y, o = some y → y ∈ N) ∧ tl par x = pre ++ (match o with | none => [] | some y => ln par y) ∧ m = (match o with | none => 0 | some y => r y + 1),
    ⟨_, [], par x, rfl, same_new hp _, upd_same, fun y e => (W.pin _ _ e).2, ?_, rfl⟩, ?_⟩
  · cases e : par x with
    | none => rw [tl_none e]; rfl
    | some q => rw [W.tl_some e]; rfl
  rintro m σ H' ⟨pre, o, rfl, s1, hl, ho, hln, rfl⟩
  have hd' := hd.same s1
  refine ⟨_, rfl, rfl, _, rfl, ?_⟩
  cases o with
  | none =>
    refine iteF (iteF ?_)
    refine ⟨_, rfl, k _ _ s1 hp ?_⟩
    rw [hln, List.append_nil]
    exact hl
  | some y =>
    have hy := ho y rfl
    have len : pre.length + 2 ≤ N.length := by
      have h1 := W.ln_le hx
      rw [ln_tl, hln] at h1
      obtain ⟨l, e⟩ := ln_head (par := par) y
      replace h1 : (x :: (pre ++ ln par y)).length ≤ N.length := h1
      rw [e] at h1
      simp only [List.length_cons, List.length_append] at h1
      omega
    refine iteT ⟨_, rfl, p, _, rfl, .inl (SqL.of hl), _, rfl, d, _, rfl, hd', _, _, rfl, rfl, true, ?_, iteT ?_⟩
    · show V.bl _ = V.bl true
      rw [List.length_map, List.length_map, decide_eq_true (by omega)]
    refine ⟨fun σ' H'' => ∃ pre o, σ' = [some (.ref d), some (.str x), some (.ref p), some (optV o)] ∧ Same H H'' ∧ IsStrs H'' p pre ∧ (∀ y, o = some y → y ∈ N) ∧ tl par x = pre ++ (match o with | none => [] | some y => ln par y) ∧ (match o with | none => 0 | some y => r y + 1) < r y + 1,
      fun σ' H'' ⟨pre, o, h1, h2, h3, h4, h5, h6⟩ => ⟨_, h6, pre, o, h1, h2, h3, h4, h5, rfl⟩, ?_⟩
    refine ⟨_, rfl, .inl ⟨rfl, _, SqL.of hl⟩, _, rfl, p, _, _, rfl, rfl, hl, by rw [List.length_map]; exact small4 (by have := W.n4; omega), ?_⟩
    have s2 := same_upd (o := .lst (pre.map V.str ++ [V.str y])) s1 hp
    refine ⟨_, rfl, _, rfl, d, _, rfl, (hd.same s2).get hy, pre ++ [y], par y, rfl, s2, ?_, fun z e => (W.pin _ _ e).2, ?_, ?_⟩
    · show upd H' p _ p = _
      rw [upd_same, List.map_append]
      rfl
    · show tl par x = _
      rw [hln]
      show pre ++ ln par y = _
      cases e : par y with
      | none => rw [ln_none e]; simp
      | some q => rw [W.ln_some e]; simp
    · cases e : par y with
      | none => exact Nat.succ_pos _
      | some q => exact Nat.succ_lt_succ (W.rk _ _ e)
end
end HW
set_option Elab.async false
set_option maxRecDepth 100000
set_option linter.all false
set_option maxHeartbeats 4000000
namespace HW
open PySem L2
section
variable {P : Program} {w : World} {K : PySem.W.Frag} {mg : Str → Option Value} {base : Heap} {C : Addr}
theorem root_last {N : List Str} {par : Str → Option Str} {r : Str → Nat} (W : OkWeb N par r) : ∀ (n : Nat) (x : Str), r x ≤ n → ∃ pre y, ln par x = pre ++ [y] ∧ par y = none ∧ (x ∈ N → y ∈ N)
  | n, x, h => by
    cases e : par x with
    | none => exact ⟨[], x, by rw [ln_none e]; rfl, e, id⟩
    | some p =>
      have := W.rk x p e
      cases n with
      | zero => omega
      | succ n =>
        obtain ⟨pre, y, h1, h2, h3⟩ := root_last W n p (by omega)
        exact ⟨x :: pre, y, by rw [W.ln_some e, h1]; rfl, h2, fun _ => h3 (W.pin _ _ e).2⟩
theorem atN {xs : List V} {j : Nat} {v : V} (h : xs[j]? = some v) : atI xs (j : Int) = some v := by
  have hj := (List.getElem?_eq_some_iff.mp h).1
  have e : (ixN xs.length (j : Int)) = some j := by
    (unfold ixN); rw [if_pos (by omega), if_pos (by omega)]
    rfl
  show (ixN xs.length (j : Int)).bind (fun j => xs[j]?) = some v
  rw [e]
  exact h
def spOddPlace : Sp := fun vs H Q _ => ∃ t N par r, vs = [.ref t] ∧ OkWeb N par r ∧ IsFolk H t N par ∧ ∀ H', Same H H' → Q (.int (-1)) H'
theorem ok_odd_place (T : Txt K mg C) (G_is_person : OkF P w K mg base "is_person" ["thing"] 2 spIsPerson) (G_upward : OkF P w K mg base "upward" ["whom", "name"] 1 spUpward) (D : Df K mg "odd_place" s_odd_place) : OkF P w K mg base "odd_place" ["persons"] 3 spOddPlace := by
  obtain ⟨f, fd, F, g⟩ := D
  refine ⟨f, fd, g, F.kp, F.binds (ps := ["persons"]) fun _ _ _ _ _ _ us hl => match us, hl with | [_], _ => rfl, ?_⟩
  refine F.ok sc_odd_place (fun vs H Q E h => ?_) (fun cdv A outer s H vs Q E hr h => ?_)
  · obtain ⟨t, N, par, r, rfl, _⟩ := h
    rfl
  obtain ⟨t, N, par, r, rfl, W, ⟨ts, ht, hp⟩, k⟩ := h
  refine ⟨_, (pss_cons (ps_for PassesOwn.never rfl (pi_enumT (by rfl) T.enum (pa_cons (pv 0) pa_nil)) (pg_tup rfl (pgs_cons (pg_name (i := 1) sc_odd_place.nd rfl (Or.inl rfl)) (pgs_cons (pg_name (i := 2) sc_odd_place.nd rfl (Or.inl rfl)) pgs_nil)))
  (pss_one (ps_if ((pw_or (pt_not (pt_val (pe_f G_is_person hr (by decide) (by rfl) (pa_cons (pv 2) pa_nil)))) (pw_or1 ((pw_and (pt_cmpR op_gt (pv 1) pe_int (nomark _)) (pw_and1 (pt_cmpR op_le_str (pe_ix ix_tup (pv 2) pe_int (fun _ _ => rfl)) (pe_ix ix_tup (pe_ix ix_tup (pv 0) (pe_op op_sub (pv 1) pe_int) (fun _ _ => rfl)) pe_int (fun _ _ => rfl)) (nomark _))))).pt))).pt (pss_one (ps_ret (pv 1))) pss_nil)))
  (pss_cons (ps_setDc (i := 5) (own := [("name", 3), ("other", 4)]) (g := (gTup K 2 (gCons (gName 3) (gCons (gName 4) gNil)))) (tk := (tVar 3)) (tv := (tVar 4)) rfl sc_odd_place.nd rfl rfl (by rfl) (pi_tup (pv 0)) (blkOk_by (N := ["persons", "place", "person", "name", "other", "whom"]) (sc := defScope s_odd_place) (by decide +kernel)) ⟨fun _ _ _ _ _ => (pg_tup rfl (pgs_cons (pg_name (i := 3) sc_odd_place.nd rfl (Or.inl rfl)) (pgs_cons (pg_name (i := 4) sc_odd_place.nd rfl (Or.inl rfl)) pgs_nil))), fun _ _ _ _ _ => (pv 3), fun _ _ _ _ _ => (pv 4)⟩)
  (pss_cons (ps_for PassesOwn.never rfl (pi_enumT (by rfl) T.enum (pa_cons (pv 0) pa_nil)) (pg_tup rfl (pgs_cons (pg_name (i := 1) sc_odd_place.nd rfl (Or.inl rfl)) (pgs_cons (pg_tup rfl (pgs_cons (pg_name (i := 3) sc_odd_place.nd rfl (Or.inl rfl)) (pgs_cons (pg_name (i := 4) sc_odd_place.nd rfl (Or.inl rfl)) pgs_nil))) pgs_nil)))
  (pss_one (ps_if ((pw_and (pt_cmpR op_notN (pv 4) pe_non (nomark _)) (pw_and1 (pt_cmp (pc_dnotin (hu_of hr) (pv 4) (pv 5)))))).pt (pss_one (ps_ret (pv 1))) pss_nil)))
  (pss_cons (ps_for PassesOwn.never rfl (pi_enumT (by rfl) T.enum (pa_cons (pv 0) pa_nil)) (pg_tup rfl (pgs_cons (pg_name (i := 1) sc_odd_place.nd rfl (Or.inl rfl)) (pgs_cons (pg_tup rfl (pgs_cons (pg_name (i := 3) sc_odd_place.nd rfl (Or.inl rfl)) (pgs_cons (pg_name (i := 4) sc_odd_place.nd rfl (Or.inl rfl)) pgs_nil))) pgs_nil)))
  (pss_one (ps_if ((pw_and (pt_cmpR op_notN (pv 4) pe_non (nomark _)) (pw_and1 (pt_cmpR op_notN (pe_dget (hu_of hr) (pv 5) (pe_ix ix_list (pe_f G_upward hr (by decide) (by rfl) (pa_cons (pv 5) (pa_cons (pv 3) pa_nil))) (pe_un un_neg pe_int) (fun _ _ => rfl)) (fun _ _ => rfl)) pe_non (nomark _))))).pt (pss_one (ps_ret (pv 1))) pss_nil)))
  (pss_one (ps_ret (pe_un un_neg pe_int))))))), ?_⟩
  have item : ∀ {i : Nat} {v : V}, (ts.map V.ref)[i]? = some v → ∃ b n, v = .ref b ∧ ts[i]? = some b ∧ N[i]? = some n ∧ H b = some (.tup [V.str n, optV (par n)]) := by
    intro i v hi
    rw [List.getElem?_map] at hi
    obtain ⟨b, hb, rfl⟩ := Option.map_eq_some_iff.mp hi
    obtain ⟨n, hn, hbn⟩ := paired_getL hp hb
    exact ⟨b, n, rfl, hb, hn, hbn⟩
  refine ⟨_, rfl, t, _, rfl, frzT ht, ?_⟩
  refine for_enumT (xs := ts.map V.ref) (fun i σ H' => Same H H' ∧ ∃ o1 o2, σ = [some (.ref t), o1, o2, none, none, none]) ⟨Same.refl _, _, _, rfl⟩ (fun i σ H' _ q => frzT (q.1 _ _ ht)) ?_ ?_
  · rintro i v T σ H' hi ⟨s1, o1, o2, rfl⟩ hT
    obtain ⟨b, n, rfl, hb, hn, hbn⟩ := item hi
    have s2 := s1.trans (same_new hT (.tup [.int (i : Nat), .ref b]))
    refine ⟨T, _, rfl, SqT.of upd_same, rfl, _, _, rfl, _, _, rfl, rfl, ?_⟩
    refine ⟨_, rfl, b, n, par n, rfl, s2 _ _ hbn, W.ok n (List.mem_of_getElem? hn), fun p e => W.ok p (W.pin _ _ e).2, fun H3 s3 => ⟨_, rfl, iteF ?_⟩⟩
    have s4 := s2.trans s3
    refine ⟨_, rfl, _, _, rfl, rfl, _, rfl, ?_⟩
    cases i with
    | zero => exact iteF (iteF ⟨s4, _, _, rfl⟩)
    | succ j =>
      refine iteDT (by omega) ?_
      obtain ⟨hj, _⟩ := List.getElem?_eq_some_iff.mp hi
      obtain ⟨b', n', e', hb', hn', hbn'⟩ := item (i := j) (v := (ts.map V.ref)[j]) (List.getElem?_eq_getElem (by omega))
      have hlt : n'.cps.toList < n.cps.toList := by
        obtain ⟨l1, e1⟩ := List.getElem?_eq_some_iff.mp hn
        obtain ⟨l2, e2⟩ := List.getElem?_eq_some_iff.mp hn'
        have := List.pairwise_iff_getElem.mp W.srt j (j + 1) l2 l1 (Nat.lt_succ_self j)
        rw [e1, e2] at this
        exact this
      refine ⟨_, rfl, b, _, _, _, rfl, rfl, SqT.of (s4 _ _ hbn), rfl, ?_⟩
      refine ⟨_, rfl, _, rfl, _, _, rfl, rfl, t, _, _, .ref b', rfl, rfl, frzT (s4 _ _ ht), ?_, ?_⟩
      · have e : ((j + 1 : Nat) : Int) - 1 = (j : Nat) := by omega
        rw [e]
        refine atN ?_
        rw [List.getElem?_map, hb']; rfl
      refine ⟨b', _, _, _, rfl, rfl, SqT.of (s4 _ _ hbn'), rfl, _, _, rfl, rfl, _, rfl, iteNF hlt ?_⟩
      exact ⟨s4, _, _, rfl⟩
  rintro σ H1 ⟨s1, o1, o2, rfl⟩
  refine ⟨_, rfl, t, rfl, ⟨_, frzT (s1 _ _ ht)⟩, fun D hD => ?_⟩
  refine dc_tup (K := K) (a := t) (xs := ts.map V.ref) (fun i H' => Same H H' ∧ H' D = some (.dK ((N.take i).map fun n => ((Sum.inr n : Key), optV (par n))))) ⟨s1.trans (same_new hD _), upd_same⟩ (fun i H' _ q => frzT (q.1 _ _ ht)) ?_ ?_
  · rintro i v H' hi ⟨s2, hD'⟩
    obtain ⟨b, n, rfl, hb, hn, hbn⟩ := item hi
    refine ⟨b, _, rfl, SqT.of (s2 _ _ hbn), rfl, _, _, rfl, _, _, rfl, rfl, rfl, yesT ⟨_, rfl, _, rfl, _, Sum.inr n, rfl, hD', ?_, ?_, ?_⟩⟩
    · rw [List.length_map]
      exact small4 (Nat.le_trans (List.length_take_le' _ _) W.n4)
    · exact fun b u q => by
        by_cases e : b = D
        · subst e; rw [s1 _ _ q] at hD; cases hD
        · rw [upd_ne e]; exact s2 _ _ q
    · rw [upd_same, putK_snoc (f := fun n => optV (par n)) W.nd hn]
  rintro H2 ⟨s2, hd⟩
  rw [List.length_map, Paired.length hp, List.take_length] at hd
  replace hd : IsWhom H2 D N par := hd
  refine ⟨_, rfl, t, _, rfl, frzT (s2 _ _ ht), ?_⟩
  refine for_enumT (xs := ts.map V.ref) (fun i σ H' => Same H2 H' ∧ ∃ o1 o2 o3 o4, σ = [some (.ref t), o1, o2, o3, o4, some (.ref D)]) ⟨Same.refl _, _, _, _, _, rfl⟩ (fun i σ H' _ q => frzT (q.1 _ _ (s2 _ _ ht))) ?_ ?_
  · rintro i v T σ H' hi ⟨s3, o1, o2, o3, o4, rfl⟩ hT
    obtain ⟨b, n, rfl, hb, hn, hbn⟩ := item hi
    have s4 := s3.trans (same_new hT (.tup [.int (i : Nat), .ref b]))
    refine ⟨T, _, rfl, SqT.of upd_same, rfl, _, _, rfl, _, _, rfl, b, _, rfl, SqT.of (s4 _ _ (s2 _ _ hbn)), rfl, _, _, rfl, _, _, rfl, rfl, rfl, ?_⟩
    refine ⟨_, rfl, rfl, _, rfl, ?_⟩
    cases e : par n with
    | none => exact iteF (iteF ⟨s4, _, _, _, _, rfl⟩)
    | some p =>
      refine iteT ?_
      have g := (hd.same s4).get (W.pin _ _ e).2
      exact ⟨_, rfl, _, rfl, D, _, rfl, g, _, rfl, iteF ⟨s4, _, _, _, _, rfl⟩⟩
  rintro σ H3 ⟨s3, o1, o2, o3, o4, rfl⟩
  have s23 := s2.trans s3
  refine ⟨_, rfl, t, _, rfl, frzT (s23 _ _ ht), ?_⟩
  refine for_enumT (xs := ts.map V.ref) (fun i σ H' => Same H3 H' ∧ ∃ o1 o2 o3 o4, σ = [some (.ref t), o1, o2, o3, o4, some (.ref D)]) ⟨Same.refl _, _, _, _, _, rfl⟩ (fun i σ H' _ q => frzT (q.1 _ _ (s23 _ _ ht))) ?_ ?_
  · rintro i v T σ H' hi ⟨s4, o1, o2, o3, o4, rfl⟩ hT
    obtain ⟨b, n, rfl, hb, hn, hbn⟩ := item hi
    have s5 := s4.trans (same_new hT (.tup [.int (i : Nat), .ref b]))
    have hd5 := (hd.same s3).same s5
    have hnN := List.mem_of_getElem? hn
    refine ⟨T, _, rfl, SqT.of upd_same, rfl, _, _, rfl, _, _, rfl, b, _, rfl, SqT.of (s5 _ _ (s23 _ _ hbn)), rfl, _, _, rfl, _, _, rfl, rfl, rfl, ?_⟩
    refine ⟨_, rfl, rfl, _, rfl, ?_⟩
    cases e : par n with
    | none => exact iteF (iteF ⟨s5, _, _, _, _, rfl⟩)
    | some p =>
      refine iteT ?_
      obtain ⟨pre, y, h1, h2, h3⟩ := root_last W _ p (Nat.le_refl _)
      have hy := h3 (W.pin _ _ e).2
      refine ⟨_, rfl, _, rfl, _, rfl, D, N, par, r, n, rfl, W, hd5, hnN, fun H6 l s6 hl hL => ?_⟩
      have g := (hd5.same s6).get hy
      rw [h2] at g
      refine ⟨_, rfl, l, _, _, .str y, rfl, rfl, SqL.of hL, ?_, D, _, rfl, g, rfl, _, rfl, iteF ⟨s5.trans s6, _, _, _, _, rfl⟩⟩
      rw [W.tl_some e, h1]
      exact atI_end _ _
  rintro σ H4 ⟨s4, o1, o2, o3, o4, rfl⟩
  exact ⟨_, rfl, k _ (s23.trans s4)⟩
end
end HW
set_option Elab.async false
set_option maxRecDepth 100000
set_option linter.all false
set_option maxHeartbeats 4000000
namespace HW
open PySem L2
section
variable {P : Program} {w : World} {K : PySem.W.Frag} {mg : Str → Option Value} {base : Heap} {C : Addr}
theorem flatStrs (xs : List Str) : (xs.map V.str).all flatV = true := by
  rw [List.all_eq_true]
  intro v hv
  obtain ⟨y, _, rfl⟩ := List.mem_map.mp hv
  rfl
theorem eqV_str (y n : Str) : eqV (.str y) (.str n) = decide (y = n) := by
  show (y == n) = _
  by_cases h : y = n
  · subst h; simp
  · simp [h]
theorem inStrs (n : Str) (xs : List Str) : inV (.str n) (xs.map V.str) = decide (n ∈ xs) := by
  induction xs with
  | nil => rfl
  | cons y l ih =>
    show (eqV (.str y) (.str n) || inV (.str n) (l.map V.str)) = _
    rw [ih, eqV_str, ← Bool.decide_or]
    exact decide_eq_decide.mpr ⟨fun h => h.elim (fun e => e ▸ List.mem_cons_self) (List.mem_cons_of_mem _), fun h => (List.mem_cons.mp h).imp Eq.symm id⟩
def spIsOne : Sp := fun vs H Q _ => ∃ d N par n, vs = [.ref d, .str n] ∧ IsWhom H d N par ∧ n ∈ N ∧ Q (.bl true) H
theorem ok_is_one (T : Txt K mg C) (D : Df K mg "is_one" s_is_one) : OkF P w K mg base "is_one" ["whom", "thing"] 1 spIsOne := by
  obtain ⟨f, fd, F, g⟩ := D
  refine ⟨f, fd, g, F.kp, F.binds (ps := ["whom", "thing"]) fun _ _ _ _ _ _ us hl => match us, hl with | [_, _], _ => rfl, ?_⟩
  refine F.ok sc_is_one (fun vs H Q E h => ?_) (fun cdv A outer s H vs Q E hr h => ?_)
  · obtain ⟨d, N, par, n, rfl, _⟩ := h
    rfl
  obtain ⟨d, N, par, n, rfl, hd, hn, k⟩ := h
  refine ⟨_, (pss_one (ps_ret (pe_and (pe_callB call_isi (by rfl) T.isi (by decide +kernel) (pa_cons (pv 1) (pa_cons (pe_bltn (v := .ty "str") (by rfl) T.str (by decide +kernel) rfl) pa_nil))) (pe_one (pe_cmp (pc_din (hu_of hr) (pv 1) (pv 0))))))), ?_⟩
  obtain ⟨o, ho, hs⟩ := hd.isIn n
  refine ⟨_, rfl, _, _, _, _, true, rfl, .ty _, .base (.str _), rfl, true, rfl, iteT ⟨_, rfl, _, rfl, d, o, rfl, ho, ?_⟩⟩
  rw [hs, decide_eq_true hn]
  exact k
def spCheckWeb (C : Addr) : Sp := fun vs H Q _ => ∃ x N par, vs = [.ref x] ∧ IsWeb C H x N par ∧ Q .non H
theorem ok_check_web (T : Txt K mg C) (D : Df K mg "check_web" s_check_web) : OkF P w K mg base "check_web" ["thing"] 1 (spCheckWeb C) := by
  obtain ⟨f, fd, F, g⟩ := D
  refine ⟨f, fd, g, F.kp, F.binds (ps := ["thing"]) fun _ _ _ _ _ _ us hl => match us, hl with | [_], _ => rfl, ?_⟩
  refine F.ok sc_check_web (fun vs H Q E h => ?_) (fun cdv A outer s H vs Q E hr h => ?_)
  · obtain ⟨x, N, par, rfl, _⟩ := h
    rfl
  obtain ⟨x, N, par, rfl, ⟨dx, t, hx, _⟩, k⟩ := h
  refine ⟨_, (pss_one (ps_if (pt_not (pt_val (pe_callB (C8.call_isC T.insC) (by rfl) T.isi (by decide +kernel) (pa_cons (pv 0) (pa_cons (pe_glob (v := .ref C) (by rfl) T.mgC rfl) pa_nil))))) (pss_one ps_never) pss_nil)), ?_⟩
  exact ⟨_, rfl, x, dx, _, rfl, hx, _, rfl, iteF k⟩
/-- calls of who follow -/
def spCheckCalls (C : Addr) : Sp := fun vs H Q _ => ∃ x N par r c cs, vs = [.ref x, .ref c] ∧ OkWeb N par r ∧ IsWeb C H x N par ∧ IsStrT H c cs ∧ cs.length ≤ 400 ∧ (∀ n ∈ cs, ∃ p, par n = some p) ∧ ∀ H', Same H H' → Q .non H'
theorem ok_check_calls (T : Txt K mg C) (G_whom_of : OkF P w K mg base "whom_of" ["web"] 1 (spWhomOf C)) (G_is_one : OkF P w K mg base "is_one" ["whom", "thing"] 1 spIsOne) (D : Df K mg "check_calls" s_check_calls) : OkF P w K mg base "check_calls" ["web", "calls"] 2 (spCheckCalls C) := by
  obtain ⟨f, fd, F, g⟩ := D
  obtain ⟨tmc, hmc⟩ := T.mc
  refine ⟨f, fd, g, F.kp, F.binds (ps := ["web", "calls"]) fun _ _ _ _ _ _ us hl => match us, hl with | [_, _], _ => rfl, ?_⟩
  refine F.ok sc_check_calls (fun vs H Q E h => ?_) (fun cdv A outer s H vs Q E hr h => ?_)
  · obtain ⟨x, N, par, r, c, cs, rfl, _⟩ := h
    rfl
  obtain ⟨x, N, par, r, c, cs, rfl, W, hx, hc, hl, hp, k⟩ := h
  refine ⟨_, (pss_cons (ps_set (i := 2) sc_check_calls.nd rfl (.inl rfl) (pe_f G_whom_of hr (by decide) (by rfl) (pa_cons (pv 0) pa_nil)))
  (pss_cons (ps_if ((pw_or (pt_not (pt_val (pe_callB call_isi (by rfl) T.isi (by decide +kernel) (pa_cons (pv 1) (pa_cons (pe_bltn (v := .ty "tuple") (by rfl) T.tuple (by decide +kernel) rfl) pa_nil))))) (pw_or1 (pt_cmpR op_gt (pe_callB call_len_seq (by rfl) T.len (by decide +kernel) (pa_cons (pv 1) pa_nil)) (pe_glob (v := .int 400) (by rfl) hmc ⟨_, rfl⟩) (nomark _))))).pt (pss_one ps_never) pss_nil)
  (pss_one (ps_for PassesOwn.never rfl (pi_enumT (by rfl) T.enum (pa_cons (pv 1) pa_nil)) (pg_tup rfl (pgs_cons (pg_name (i := 3) sc_check_calls.nd rfl (Or.inl rfl)) (pgs_cons (pg_name (i := 4) sc_check_calls.nd rfl (Or.inl rfl)) pgs_nil)))
  (pss_one (ps_if ((pw_or (pt_not (pt_val (pe_f G_is_one hr (by decide) (by rfl) (pa_cons (pv 2) (pa_cons (pv 4) pa_nil))))) (pw_or1 (pt_cmpR op_isN (pe_dget (hu_of hr) (pv 2) (pv 4) (fun _ _ => rfl)) pe_non (nomark _))))).pt (pss_one ps_never) pss_nil)))))), ?_⟩
  refine ⟨_, rfl, x, N, par, r, rfl, W, hx, fun H1 d s1 hd => ?_⟩
  have hc1 := s1 _ _ hc
  refine ⟨_, rfl, _, _, _, _, true, rfl, .ty _, .base (.tup hc1), rfl, _, rfl, iteF ?_⟩
  refine ⟨_, rfl, c, _, rfl, .inr (SqT.of hc1), _, _, rfl, rfl, _, rfl, iteDF ?_ ?_⟩
  · rw [List.length_map]; omega
  refine ⟨_, rfl, c, _, rfl, SqT.of hc1, ?_⟩
  refine for_enumT (xs := cs.map V.str) (fun i σ H' => Same H1 H' ∧ ∃ o1 o2, σ = [some (.ref x), some (.ref c), some (.ref d), o1, o2]) ⟨Same.refl _, _, _, rfl⟩ (fun i σ H' _ q => SqT.of (q.1 _ _ hc1)) ?_ ?_
  · rintro i v T' σ H' hi ⟨s2, o1, o2, rfl⟩ hT
    rw [List.getElem?_map] at hi
    obtain ⟨n, hn, rfl⟩ := Option.map_eq_some_iff.mp hi
    obtain ⟨p, hpn⟩ := hp n (List.mem_of_getElem? hn)
    have hnN := (W.pin _ _ hpn).1
    have s3 := s2.trans (same_new hT (.tup [.int (i : Nat), .str n]))
    refine ⟨T', _, rfl, SqT.of upd_same, rfl, _, _, rfl, _, _, rfl, rfl, ?_⟩
    refine ⟨_, rfl, _, rfl, d, N, par, n, rfl, hd.same s3, hnN, _, rfl, iteF ?_⟩
    refine ⟨_, rfl, _, rfl, d, _, rfl, (hd.same s3).get hnN, rfl, _, rfl, ?_⟩
    rw [hpn]
    exact iteF ⟨s3, _, _, rfl⟩
  · rintro σ H' ⟨s2, o1, o2, rfl⟩
    exact k _ (s1.trans s2)
/-- piles in which each stands just once -/
def IsPl (N : List Str) (ps : List (List Str)) : Prop := ps.length = N.length ∧ ps.flatten.Perm N
def spCheckPiles (C : Addr) : Sp := fun vs H Q _ => ∃ x N par r a ps, vs = [.ref x, .ref a] ∧ OkWeb N par r ∧ IsWeb C H x N par ∧ IsPiles1 H a ps ∧ IsPl N ps ∧ ∀ H', Same H H' → Q .non H'
theorem ok_check_piles (T : Txt K mg C) (G_whom_of : OkF P w K mg base "whom_of" ["web"] 1 (spWhomOf C)) (G_is_one : OkF P w K mg base "is_one" ["whom", "thing"] 1 spIsOne) (D : Df K mg "check_piles" s_check_piles) : OkF P w K mg base "check_piles" ["web", "piles"] 2 (spCheckPiles C) := by
  obtain ⟨f, fd, F, g⟩ := D
  refine ⟨f, fd, g, F.kp, F.binds (ps := ["web", "piles"]) fun _ _ _ _ _ _ us hl => match us, hl with | [_, _], _ => rfl, ?_⟩
  refine F.ok sc_check_piles (fun vs H Q E h => ?_) (fun cdv A outer s H vs Q E hr h => ?_)
  · obtain ⟨x, N, par, r, a, ps, rfl, _⟩ := h
    rfl
  obtain ⟨x, N, par, r, a, ps, rfl, W, hx, ⟨bs, ha, hb⟩, ⟨hlen, hpm⟩, k⟩ := h
  refine ⟨_, (pss_cons (ps_par (i := 2) (j := 3) rfl sc_check_piles.nd rfl rfl (by decide) rfl rfl (pa_cons (pe_f G_whom_of hr (by decide) (by rfl) (pa_cons (pv 0) pa_nil)) (pa_cons (pe_lst pa_nil) pa_nil)) (by rfl))
  (pss_cons (ps_if ((pw_or (pt_not (pt_val (pe_callB call_isi (by rfl) T.isi (by decide +kernel) (pa_cons (pv 1) (pa_cons (pe_bltn (v := .ty "tuple") (by rfl) T.tuple (by decide +kernel) rfl) pa_nil))))) (pw_or1 (pt_cmpR op_ne (pe_callB call_len_seq (by rfl) T.len (by decide +kernel) (pa_cons (pv 1) pa_nil)) (pe_callB call_lenD (by rfl) T.len (by decide +kernel) (pa_cons (pv 2) pa_nil)) (nomark _))))).pt (pss_one ps_never) pss_nil)
  (pss_cons (ps_for PassesOwn.never rfl (pi_enumT (by rfl) T.enum (pa_cons (pv 1) pa_nil)) (pg_tup rfl (pgs_cons (pg_name (i := 4) sc_check_piles.nd rfl (Or.inl rfl)) (pgs_cons (pg_name (i := 5) sc_check_piles.nd rfl (Or.inl rfl)) pgs_nil)))
  (pss_cons (ps_if (pt_not (pt_val (pe_callB call_isi (by rfl) T.isi (by decide +kernel) (pa_cons (pv 5) (pa_cons (pe_bltn (v := .ty "tuple") (by rfl) T.tuple (by decide +kernel) rfl) pa_nil))))) (pss_one ps_never) pss_nil)
  (pss_one (ps_for PassesOwn.never rfl (pi_tup (pv 5)) (pg_name (i := 6) sc_check_piles.nd rfl (Or.inl rfl))
  (pss_cons (ps_if ((pw_or (pt_not (pt_val (pe_f G_is_one hr (by decide) (by rfl) (pa_cons (pv 2) (pa_cons (pv 6) pa_nil))))) (pw_or1 (pt_cmpR op_in_seq (pv 6) (pv 3) (by rfl))))).pt (pss_one ps_never) pss_nil)
  (pss_one (ps_expr (pe_bm PySem.F.plainAttrs_list PySem.F.slot_list_append PySem.F.type_list_append mt_append (pv 3) (pa_cons (pv 6) pa_nil)))))))))
  (pss_one (ps_if (pt_cmpR op_lt (pe_callB call_len_seq (by rfl) T.len (by decide +kernel) (pa_cons (pv 3) pa_nil)) (pe_callB call_lenD (by rfl) T.len (by decide +kernel) (pa_cons (pv 2) pa_nil)) (nomark _)) (pss_one ps_never) pss_nil))))), ?_⟩
  refine ⟨_, rfl, x, N, par, r, rfl, W, hx, fun H1 d s1 hd => ?_⟩
  refine ⟨Nat.zero_le _, fun m hm => ⟨_, _, rfl, ?_⟩⟩
  have s2 := s1.trans (same_new hm (.lst []))
  have hd2 := hd.same (same_new hm (.lst []))
  have ha2 := s2 _ _ ha
  have lb : bs.length = N.length := (Paired.length hb).trans hlen
  refine ⟨_, rfl, _, _, _, _, true, rfl, .ty _, .base (.tup ha2), rfl, _, rfl, iteF ?_⟩
  refine ⟨_, rfl, a, _, rfl, .inr (SqT.of ha2), _, rfl, d, _, rfl, hd2, rfl, _, rfl, iteNF (by rw [List.length_map, List.length_map, lb]) ?_⟩
  have nd : ps.flatten.Nodup := hpm.symm.nodup W.nd
  have tot : ps.flatten.length = N.length := hpm.length_eq
  refine ⟨_, rfl, a, _, rfl, SqT.of ha2, ?_⟩
  refine for_enumT (xs := bs.map V.ref) (fun i σ H' => Same H1 H' ∧ IsStrs H' m (ps.take i).flatten ∧ ∃ o1 o2 o3, σ = [some (.ref x), some (.ref a), some (.ref d), some (.ref m), o1, o2, o3]) ⟨same_new hm _, upd_same, _, _, _, rfl⟩ (fun i σ H' _ q => SqT.of (q.1 _ _ (s1 _ _ ha))) ?_ ?_
  · rintro i v T' σ H' hi ⟨s3, hM, o1, o2, o3, rfl⟩ hT
    rw [List.getElem?_map] at hi
    obtain ⟨b, hbi, rfl⟩ := Option.map_eq_some_iff.mp hi
    obtain ⟨wd, hw, hbw⟩ := paired_getL hb hbi
    have sT := same_new hT (.tup [.int (i : Nat), .ref b])
    have s4 := s3.trans sT
    have hb4 := hbw.same (s1.trans s4)
    obtain ⟨ob, hob, _⟩ := id hb4
    have hM4 := hM.same sT
    refine ⟨T', _, rfl, SqT.of upd_same, rfl, _, _, rfl, _, _, rfl, rfl, ?_⟩
    refine ⟨_, rfl, _, _, _, _, true, rfl, .ty _, .fTuple (hob), rfl, _, rfl, iteF ?_⟩
    refine ⟨_, rfl, b, rfl, ⟨_, hb4.sq⟩, ?_⟩
    have snoc : (ps.take (i + 1)).flatten = (ps.take i).flatten ++ wd := by rw [take_snoc hw]; simp
    have nd' : ((ps.take i).flatten ++ wd).Nodup := by
      rw [← snoc]
      have h2 : ps.flatten = (ps.take (i + 1)).flatten ++ (ps.drop (i + 1)).flatten := by rw [← List.flatten_append, List.take_append_drop]
      rw [h2] at nd
      exact (List.nodup_append.mp nd).1
    have le' : ((ps.take i).flatten ++ wd).length ≤ 4 := by
      have h2 : ps.flatten = (ps.take (i + 1)).flatten ++ (ps.drop (i + 1)).flatten := by rw [← List.flatten_append, List.take_append_drop]
      have := W.n4
      rw [h2, List.length_append, snoc] at tot
      omega
    refine for_tup (xs := wd.map V.str) (fun j σ H'' => Same H1 H'' ∧ IsStrs H'' m ((ps.take i).flatten ++ wd.take j) ∧ ∃ o1 o3, σ = [some (.ref x), some (.ref a), some (.ref d), some (.ref m), o1, some (.ref b), o3]) ⟨s4, by rw [List.take_zero, List.append_nil]; exact hM4, _, _, rfl⟩ (fun j σ H'' _ q => (hbw.same (s1.trans q.1)).sq) ?_ ?_
    · rintro j v' σ H'' hj ⟨s5, hM5, o1, o3, rfl⟩
      rw [List.getElem?_map] at hj
      obtain ⟨n, hn, rfl⟩ := Option.map_eq_some_iff.mp hj
      have hnw := List.mem_of_getElem? hn
      have hnN : n ∈ N := hpm.mem_iff.mp (List.mem_flatten.mpr ⟨wd, List.mem_of_getElem? hw, hnw⟩)
      have hout : n ∉ (ps.take i).flatten ++ wd.take j := by
        (intro h); rcases List.mem_append.mp h with h | h
        · exact (List.nodup_append.mp nd').2.2 n h n hnw rfl
        · exact notin_take (List.nodup_append.mp nd').2.1 hn h
      refine ⟨_, rfl, _, rfl, d, N, par, n, rfl, hd.same s5, hnN, _, rfl, iteF ?_⟩
      refine ⟨_, rfl, _, rfl, m, _, rfl, .inl (SqL.of hM5), rfl, flatStrs _, _, rfl, ?_⟩
      show if inV (.str n) (((ps.take i).flatten ++ wd.take j).map V.str) = true then _ else _
      rw [inStrs]
      refine iteDF hout ?_
      refine ⟨_, rfl, .inl ⟨rfl, _, SqL.of hM5⟩, _, rfl, m, _, _, rfl, rfl, hM5, ?_, ?_⟩
      · rw [List.length_map]
        refine small4 (Nat.le_trans ?_ le')
        rw [List.length_append, List.length_append]
        exact Nat.add_le_add_left (List.length_take_le' _ _) _
      · refine ⟨same_upd s5 hm, ?_, _, _, rfl⟩
        show upd H'' m _ m = _
        rw [upd_same, take_snoc hn, ← List.append_assoc, List.map_append (l₂ := [n])]
        rfl
    · rintro σ H'' ⟨s5, hM5, o1, o3, rfl⟩
      rw [List.length_map, List.take_length] at hM5
      exact ⟨s5, by rw [snoc]; exact hM5, _, _, _, rfl⟩
  · rintro σ H' ⟨s3, hM, o1, o2, o3, rfl⟩
    rw [List.length_map, Paired.length hb, List.take_length] at hM
    refine ⟨_, rfl, m, _, rfl, .inl (SqL.of hM), _, rfl, d, _, rfl, hd.same s3, _, _, rfl, rfl, _, rfl, iteDF ?_ (k _ (s1.trans s3))⟩
    rw [List.length_map, List.length_map, tot]
    omega
/-- the web made of its persons -/
def spWebInit (C : Addr) : Sp := fun vs H Q _ => ∃ x dx t N par r, vs = [.ref x, .ref t] ∧ OkWeb N par r ∧ IsFolk H t N par ∧ H x = some (.ins C dx []) ∧
  ∀ H', (∀ b u, b ≠ x → H b = some u → H' b = some u) → H' x = some (.ins C dx [("persons", .ref t)]) → Q .non H'
end
end HW
set_option Elab.async false
set_option maxRecDepth 100000
set_option linter.all false
set_option maxHeartbeats 4000000
namespace HW
open PySem L2
/-! ### piles by names -/
def wsOf (N : List Str) (ps : List (List Str)) (n : Str) : List Str := if n ∈ N then ps.getD (N.idxOf n) [] else [n]
section
variable {N : List Str} {ps : List (List Str)} {s : Str → List Str}
theorem idx_get {N : List Str} (hn : N.Nodup) {i : Nat} {n : Str} (h : N[i]? = some n) : N.idxOf n = i := by
  (obtain ⟨hi, e⟩ := List.getElem?_eq_some_iff.mp h); subst e
  have h2 : N.idxOf N[i] < N.length := List.idxOf_lt_length_of_mem (List.getElem_mem hi)
  exact (List.getElem_inj (h₀ := h2) (h₁ := hi) hn).mp (List.getElem_idxOf h2)
theorem wsOf_at (hn : N.Nodup) {i : Nat} {n : Str} {wd : List Str} (h : N[i]? = some n) (h2 : ps[i]? = some wd) : wsOf N ps n = wd := by
  unfold wsOf
  rw [if_pos (List.mem_of_getElem? h), idx_get hn h, List.getD_eq_getElem?_getD, h2]
  rfl
theorem wsOf_map (hn : N.Nodup) (hl : ps.length = N.length) : N.map (wsOf N ps) = ps := by
  refine List.ext_getElem? fun i => ?_
  rw [List.getElem?_map]
  cases e : N[i]? with
  | none =>
    (rw [List.getElem?_eq_none_iff] at e); rw [List.getElem?_eq_none (by omega)]
    rfl
  | some n =>
    obtain ⟨hi, _⟩ := List.getElem?_eq_some_iff.mp e
    rw [List.getElem?_eq_getElem (by omega)]
    show some (wsOf N ps n) = _
    rw [wsOf_at hn e (List.getElem?_eq_getElem (by omega))]
theorem wsOf_of (hn : N.Nodup) (h : ∀ x, x ∉ N → s x = [x]) : wsOf N (N.map s) = s := by
  funext x
  by_cases hx : x ∈ N
  · obtain ⟨i, hi, e⟩ := List.mem_iff_getElem.mp hx
    have e2 : N[i]? = some x := by rw [List.getElem?_eq_getElem hi, e]
    exact wsOf_at hn e2 (by rw [List.getElem?_map, e2]; rfl)
  · rw [h x hx]; unfold wsOf; rw [if_neg hx]
theorem wsOf_out {x : Str} (h : x ∉ N) : wsOf N ps x = [x] := by unfold wsOf; rw [if_neg h]
end
section
variable {P : Program} {w : World} {K : PySem.W.Frag} {mg : Str → Option Value} {base : Heap} {C : Addr}
theorem one_le : 1 ≤ sizeLine := by rw [sizeLine_eq]; omega
theorem merge_zip {N : List Str} (hn : N.Nodup) {vs : List V} : ∀ (A : List Str) (us : List V) (B : List Str) (xs : List V), A.length = us.length → N = A ++ B →
    mergeK ((A.map Sum.inr).zip us) ((B.map Sum.inr).zip xs) = (((A.map Sum.inr).zip us) ++ ((B.map Sum.inr).zip xs) : List (Key × V))
  | A, us, [], xs, _, _ => by simp [mergeK]
  | A, us, b :: B, [], _, _ => by simp [mergeK]
  | A, us, b :: B, x :: xs, hl, e => by
    have hb : b ∉ A := by
      intro h
      rw [e] at hn
      exact (List.nodup_append.mp hn).2.2 b h b List.mem_cons_self rfl
    have hv : valV (((A.map Sum.inr).zip us) : List (Key × V)) (Sum.inr b) = none := by
      have h2 : ¬ (valV (((A.map Sum.inr).zip us) : List (Key × V)) (Sum.inr b)).isSome = true := by
        rw [← valV_any, List.any_eq_true]
        rintro ⟨⟨k, v⟩, hm, hk⟩
        have hk' : k = Sum.inr b := of_decide_eq_true hk
        have h3 := (List.of_mem_zip hm).1
        rw [hk'] at h3
        obtain ⟨a, ha, e3⟩ := List.mem_map.mp h3
        cases e3
        exact hb ha
      cases h : valV (((A.map Sum.inr).zip us) : List (Key × V)) (Sum.inr b) with
      | none => rfl
      | some v => rw [h] at h2; exact absurd rfl h2
    have step : mergeK ((A.map Sum.inr).zip us) (((b :: B).map Sum.inr).zip (x :: xs)) = mergeK (putK ((A.map Sum.inr).zip us) (Sum.inr b) x) ((B.map Sum.inr).zip xs) := rfl
    rw [step, putK_new _ hv]
    have e2 : (((A.map Sum.inr).zip us) ++ [((Sum.inr b : Key), x)] : List (Key × V)) = ((A ++ [b]).map Sum.inr).zip (us ++ [x]) := by
      rw [List.map_append, List.zip_append (by rw [List.length_map]; exact hl)]
      rfl
    rw [e2, merge_zip hn (vs := vs) (A ++ [b]) (us ++ [x]) B xs (by simp [hl]) (by rw [e]; simp), ← e2, List.append_assoc]
    rfl
/-! ### the making of a web -/
structure DfI (K : PySem.W.Frag) (C : Addr) : Prop where
  ex : ∃ (f : Addr) (fd : FuncData), Mk K C f ∧ Fun K "__init__" "Web.__init__" s_webinit f fd
theorem ok_web (T : Txt K mg C) (G_odd_place : OkF P w K mg base "odd_place" ["persons"] 3 spOddPlace) (D : DfI K C) : C8.Mak P w K mg base 4 "Web" C (spWebInit C) [] := by
  obtain ⟨f, fd, M, F⟩ := D.ex
  obtain ⟨tmp, hmp⟩ := T.mp
  refine ⟨f, fd, ["self", "persons"], [], M, ?_, T.mgC, F.binds (ps := ["self", "persons"]) fun _ _ _ _ _ _ us hl => match us, hl with | [_, _], _ => rfl, .nil⟩
  refine F.ok sc_webinit (fun vs H Q E h => ?_) (fun cdv A outer s H vs Q E hr h => ?_)
  · obtain ⟨x, dx, t, N, par, r, rfl, _⟩ := h
    rfl
  obtain ⟨x, dx, t, N, par, r, rfl, W, hf, hx, k⟩ := h
  refine ⟨_, (pss_cons (ps_if ((pw_or (pt_not (pt_val (pe_callB call_isi (by rfl) T.isi (by decide +kernel) (pa_cons (pv 1) (pa_cons (pe_bltn (v := .ty "tuple") (by rfl) T.tuple (by decide +kernel) rfl) pa_nil))))) (pw_or1 (pt_not (pt_chain op_le op_le pe_int (pe_callB call_len_seq (by rfl) T.len (by decide +kernel) (pa_cons (pv 1) pa_nil)) (pe_glob (v := .int 12) (by rfl) hmp ⟨_, rfl⟩)))))).pt (pss_one ps_never) pss_nil)
  (pss_cons (ps_set (i := 2) sc_webinit.nd rfl (.inl rfl) (pe_f G_odd_place hr (by decide) (by rfl) (pa_cons (pv 1) pa_nil)))
  (pss_cons (ps_if (pt_cmpR op_ge (pv 2) pe_int (nomark _)) (pss_one ps_never) pss_nil)
  (pss_one (ps_fld (pv 0) (pv 1) (by rfl)))))), ?_⟩
  obtain ⟨ts, ht, hp⟩ := id hf
  have lt : (ts.map V.ref).length = N.length := by rw [List.length_map, Paired.length hp]
  refine ⟨_, rfl, _, _, _, _, true, rfl, .ty _, .fTuple (ht), rfl, _, rfl, iteF ?_⟩
  refine ⟨_, rfl, t, _, rfl, .inr (frzT ht), _, _, rfl, rfl, _, rfl, iteDT (by have := W.n1; omega) ⟨_, _, rfl, rfl, _, rfl, iteNF (by have := W.n4; omega) ?_⟩⟩
  refine ⟨_, rfl, t, N, par, r, rfl, W, hf, fun H1 s1 => ?_⟩
  refine ⟨_, rfl, _, _, rfl, rfl, _, rfl, iteDF (by decide) ?_⟩
  refine ⟨_, rfl, _, rfl, x, C, dx, [], rfl, s1 _ _ hx, T.cl, T.nP, Nat.zero_lt_succ _, k _ ?_ ?_⟩
  · intro b u hb hu
    rw [upd_ne hb]
    exact s1 _ _ hu
  · exact upd_same
/-! ### each one at home -/
theorem words_snoc {f : Str → Addr} {L : List Str} {n : Str} {b : Addr} (hn : n ∉ L) :
    putK (L.map fun z => ((Sum.inr z : Key), V.ref (f z))) (Sum.inr n) (.ref b) = (L ++ [n]).map fun z => ((Sum.inr z : Key), V.ref (if z = n then b else f z)) := by
  rw [putK_new _ (valV_inr_no hn), List.map_append]
  congr 1
  · refine List.map_congr_left fun z hz => ?_
    rw [if_neg (fun (e : z = n) => hn (e ▸ hz))]
  · show _ = [((Sum.inr n : Key), V.ref (if n = n then b else f n))]
    rw [if_pos rfl]
theorem words_put {f : Str → Addr} {b : Addr} {k : Str} : ∀ {L : List Str}, k ∈ L →
    putK (L.map fun z => ((Sum.inr z : Key), V.ref (f z))) (Sum.inr k) (.ref b) = L.map fun z => ((Sum.inr z : Key), V.ref (if z = k then b else f z)) := by
  intro L hk
  unfold putK
  rw [if_pos, List.map_map]
  · refine List.map_congr_left fun z _ => ?_
    show (if (Sum.inr z : Key) = Sum.inr k then ((Sum.inr z : Key), V.ref b) else ((Sum.inr z : Key), V.ref (f z))) = _
    by_cases e : z = k
    · rw [if_pos (by rw [e]), if_pos e]
    · rw [if_neg (fun h => e (Sum.inr.inj h)), if_neg e]
  · rw [List.any_map, List.any_eq_true]
    exact ⟨k, hk, by simp⟩
theorem IsWords.get {H : Hp} {d : Addr} {N : List Str} {f : Str → Addr} (h : H d = some (.dK (N.map fun n => (Sum.inr n, V.ref (f n))))) {n : Str} (hn : n ∈ N) : DGet H d (V.str n) (some (V.ref (f n))) := by
  have g := DGet.k (k := Sum.inr n) h
  rw [valV_inr (f := fun n => V.ref (f n)) hn] at g
  exact g
def spAtHome : Sp := fun vs H Q _ => ∃ d N par r, vs = [.ref d] ∧ OkWeb N par r ∧ IsWhom H d N par ∧ ∀ H' wd, Same H H' → H wd = none → IsWords H' wd N home → Q (.ref wd) H'
theorem ok_at_home (T : Txt K mg C) (G_names_by : OkF P w K mg base "names_by" ["whom"] 1 spNamesBy) (D : Df K mg "at_home" s_at_home) : OkF P w K mg base "at_home" ["whom"] 2 spAtHome := by
  obtain ⟨f, fd, F, g⟩ := D
  refine ⟨f, fd, g, F.kp, F.binds (ps := ["whom"]) fun _ _ _ _ _ _ us hl => match us, hl with | [_], _ => rfl, ?_⟩
  refine F.ok sc_at_home (fun vs H Q E h => ?_) (fun cdv A outer s H vs Q E hr h => ?_)
  · obtain ⟨d, N, par, r, rfl, _⟩ := h
    rfl
  obtain ⟨d, N, par, r, rfl, W, hd, k⟩ := h
  refine ⟨_, (pss_one (ps_ret (pe_dc (own := [("name", 1)]) (g := (gName 1)) (tt := tYes) (tk := (tVar 1)) (tv := (tTup (tCons (tVar 1) tNil))) rfl sc_at_home.nd (pi_list (pe_f G_names_by hr (by decide) (by rfl) (pa_cons (pv 0) pa_nil))) (blkOk_by (N := ["whom", "name"]) (sc := defScope s_at_home) (by decide +kernel)) (fun _ _ _ _ _ => (pg_name (i := 1) sc_at_home.nd rfl (Or.inl rfl))) (fun _ _ _ _ _ => pts_nil) (fun _ _ _ _ _ => (pv 1)) (fun _ _ _ _ _ => (pe_tup (pa_cons (pv 1) pa_nil)))))), ?_⟩
  refine ⟨_, rfl, d, N, par, r, rfl, W, hd, fun H1 l s1 hl hL => ?_⟩
  refine ⟨l, rfl, ⟨_, SqL.of hL⟩, fun D hD => ?_⟩
  have hDl : H D = none := by
    cases e : H D with
    | none => rfl
    | some u => rw [s1 _ _ e] at hD; cases hD
  refine dc_it (walk_list (K := K) (a := l) (xs := N.map V.str)) (fun i H' => Same H1 H' ∧ ∃ f : Str → Addr, H' D = some (.dK ((N.take i).map fun n => (Sum.inr n, V.ref (f n)))) ∧ ∀ n ∈ N.take i, H' (f n) = some (.tup [.str n])) ⟨same_new hD _, fun _ => 0, upd_same, by simp⟩ (fun i H' _ q => SqL.of (q.1 _ _ hL)) ?_ ?_
  · rintro i v H' H'' hi ⟨s2, f, hf, hw⟩ ⟨rfl, hv⟩
    rw [List.getElem?_map] at hv
    obtain ⟨n, hn, rfl⟩ := Option.map_eq_some_iff.mp hv
    refine ⟨rfl, yesT ⟨_, rfl, _, rfl, one_le, fun p hp => ⟨_, Sum.inr n, rfl, same_new hp _ _ _ hf, ?_, ?_, fun z => if z = n then p else f z, ?_, ?_⟩⟩⟩
    · rw [List.length_map]
      exact small4 (Nat.le_trans (List.length_take_le' _ _) W.n4)
    · exact same_upd (s2.trans (same_new hp _)) hD
    · rw [upd_same, words_snoc (notin_take W.nd hn), ← take_snoc hn]
    · intro z hz
      have hpD : p ≠ D := fun e => by rw [e, hf] at hp; cases hp
      rw [take_snoc hn] at hz
      show upd (upd H'' p _) D _ (if z = n then p else f z) = _
      by_cases e : z = n
      · subst e
        rw [if_pos rfl, upd_ne hpD, upd_same]
      · rw [if_neg e]
        have hz' := (List.mem_append.mp hz).resolve_right (fun h => e (List.mem_singleton.mp h))
        have hw' := hw z hz'
        have h1 : f z ≠ D := fun e => by rw [e, hf] at hw'; cases hw'
        have h2 : f z ≠ p := fun e => by rw [e, hp] at hw'; cases hw'
        rw [upd_ne h1, upd_ne h2]
        exact hw'
  · rintro H' ⟨s2, f, hf, hw⟩
    rw [List.length_map, List.take_length] at hf hw
    exact k _ _ (s1.trans s2) hDl ⟨f, hf, hw⟩
/-! ### what calls lay -/
theorem Reach.out {N : List Str} {par : Str → Option Str} {r : Str → Nat} (W : OkWeb N par r) {s : Str → List Str} (h : Reach par s) {x : Str} (hx : x ∉ N) : s x = [x] := by
  induction h with
  | home => rfl
  | @lay s c p hs hp ih =>
    rw [lay_some hp]
    show (if x = c then [] else if x = p then s p ++ s c else s x) = [x]
    rw [if_neg (fun (e : x = c) => hx (e ▸ (W.pin _ _ hp).1)), if_neg (fun (e : x = p) => hx (e ▸ (W.pin _ _ hp).2))]
    exact ih
theorem pl_in {N : List Str} {s : Str → List Str} (P : Pl s) (o : ∀ x, x ∉ N → s x = [x]) {p x : Str} (hp : p ∈ N) (hx : x ∈ s p) : x ∈ N := by
  by_cases h : x ∈ N
  · exact h
  · have h2 : x ∈ s x := by rw [o x h]; exact List.mem_singleton_self x
    have := P.uniq x p x hx h2
    rw [this] at hp
    exact hp
theorem pl_len {N : List Str} {s : Str → List Str} (P : Pl s) (o : ∀ x, x ∉ N → s x = [x]) {p : Str} (hp : p ∈ N) : (s p).length ≤ N.length :=
  (P.nd p).length_le_of_subset fun x hx => pl_in P o hp hx
theorem IsWords.put {H : Hp} {d b : Addr} {N : List Str} {f : Str → Addr} {s : Str → List Str} {k : Str} {v : List Str} (hf : H d = some (.dK (N.map fun n => (Sum.inr n, V.ref (f n))))) (hw : ∀ n ∈ N, H (f n) = some (.tup ((s n).map V.str))) (hk : k ∈ N) (hb : H b = some (.tup (v.map V.str))) :
    IsWords (upd H d (.dK (putK (N.map fun n => ((Sum.inr n : Key), V.ref (f n))) (Sum.inr k) (.ref b)))) d N (fun n => if n = k then v else s n) := by
  refine ⟨fun z => if z = k then b else f z, by rw [upd_same, words_put hk], fun n hn => ?_⟩
  have off : ∀ {a : Addr} {xs : List V}, H a = some (.tup xs) → a ≠ d := fun h e => by rw [e, hf] at h; cases h
  by_cases e : n = k
  · subst e
    show upd H d _ (if n = n then b else f n) = some (.tup ((if n = n then v else s n).map V.str))
    rw [if_pos rfl, if_pos rfl, upd_ne (off hb)]
    exact hb
  · show upd H d _ (if n = k then b else f n) = some (.tup ((if n = k then v else s n).map V.str))
    rw [if_neg e, if_neg e, upd_ne (off (hw n hn))]
    exact hw n hn
def spPilesBy : Sp := fun vs H Q _ => ∃ d c N par r cs, vs = [.ref d, .ref c] ∧ OkWeb N par r ∧ IsWhom H d N par ∧ IsStrT H c cs ∧ (∀ n ∈ cs, ∃ p, par n = some p) ∧ ∀ H' wd, Same H H' → H wd = none → IsWords H' wd N (run par home cs.reverse) → Q (.ref wd) H'
theorem ok_piles_by (T : Txt K mg C) (G_at_home : OkF P w K mg base "at_home" ["whom"] 2 spAtHome) (D : Df K mg "piles_by" s_piles_by) : OkF P w K mg base "piles_by" ["whom", "calls"] 3 spPilesBy := by
  obtain ⟨f, fd, F, g⟩ := D
  refine ⟨f, fd, g, F.kp, F.binds (ps := ["whom", "calls"]) fun _ _ _ _ _ _ us hl => match us, hl with | [_, _], _ => rfl, ?_⟩
  refine F.ok sc_piles_by (fun vs H Q E h => ?_) (fun cdv A outer s H vs Q E hr h => ?_)
  · obtain ⟨d, c, N, par, r, cs, rfl, _⟩ := h
    rfl
  obtain ⟨d, c, N, par, r, cs, rfl, W, hd, hc, hcs, k⟩ := h
  refine ⟨_, (pss_cons (ps_set (i := 2) sc_piles_by.nd rfl (.inl rfl) (pe_f G_at_home hr (by decide) (by rfl) (pa_cons (pv 0) pa_nil)))
  (pss_cons (ps_for PassesOwn.never rfl (pi_tup (pe_revT (pv 1))) (pg_name (i := 3) sc_piles_by.nd rfl (Or.inl rfl))
  (pss_cons (ps_daug (hu_of hr) (pv 2) (pe_dget (hu_of hr) (pv 0) (pv 3) (fun _ _ => rfl)) (pe_dget (hu_of hr) (pv 2) (pv 3) (fun _ _ => rfl)) in_cat (fun _ _ _ => rfl))
  (pss_one (ps_dput (hu_of hr) (pv 2) (pv 3) (pe_tup pa_nil) (by rfl)))))
  (pss_one (ps_ret (pv 2))))), ?_⟩
  refine ⟨_, rfl, d, N, par, r, rfl, W, hd, fun H1 wd s1 hwd hW => ?_⟩
  refine ⟨_, rfl, c, _, rfl, SqT.of (s1 _ _ hc), fun q hq => ?_⟩
  have sq := s1.trans (same_new hq (.tup (cs.map V.str).reverse))
  refine ⟨q, rfl, ⟨_, SqT.of upd_same⟩, ?_⟩
  rw [← List.map_reverse]
  rw [← List.map_reverse] at sq
  refine for_tup (xs := cs.reverse.map V.str) (fun i σ H' => Same H H' ∧ H' q = some (.tup (cs.reverse.map V.str)) ∧ IsWords H' wd N (run par home (cs.reverse.take i)) ∧ ∃ o, σ = [some (.ref d), some (.ref c), some (.ref wd), o]) ⟨sq, upd_same, hW.same (same_new hq _), _, rfl⟩ (fun i σ H' _ z => SqT.of z.2.1) ?_ ?_
  · rintro i v σ H' hi ⟨s2, hq2, ⟨f, hf, hw⟩, o, rfl⟩
    rw [List.getElem?_map] at hi
    obtain ⟨n, hn, rfl⟩ := Option.map_eq_some_iff.mp hi
    obtain ⟨p, hp⟩ := hcs n (List.mem_reverse.mp (List.mem_of_getElem? hn))
    obtain ⟨hnN, hpN⟩ := W.pin _ _ hp
    have R : Reach par (run par home (cs.reverse.take i)) := Reach.home.run _ fun c' h' => hcs c' (List.mem_reverse.mp (List.mem_of_mem_take h'))
    have next : run par home (cs.reverse.take (i + 1)) = lay par (run par home (cs.reverse.take i)) n := by rw [take_snoc hn, run_append]; rfl
    rw [next]
    generalize run par home (cs.reverse.take i) = s at hw R ⊢
    have Ps := R.pl W.rk
    have out := fun x hx => R.out W (x := x) hx
    have gd := (hd.same s2).get hnN
    rw [hp] at gd
    have hlen : (N.map fun n => ((Sum.inr n : Key), V.ref (f n))).length < sizeLine := by rw [List.length_map]; exact small4 W.n4
    refine ⟨_, rfl, _, rfl, _, rfl, d, _, rfl, gd, wd, _, rfl, IsWords.get hf hpN, ?_⟩
    refine ⟨_, rfl, _, rfl, wd, _, rfl, IsWords.get hf hnN, f p, f n, _, _, rfl, rfl, hw p hpN, hw n hnN, ?_, fun b H3 s3 hb => ?_⟩
    · rw [List.length_map, List.length_map]
      have h1 := pl_len Ps out hpN
      have h2 := pl_len Ps out hnN
      have := W.n4
      rw [sizeLine_eq]; omega
    rw [← List.map_append] at hb
    refine ⟨_, DPut.k (k := Sum.inr p) (s3 _ _ hf) hlen, ?_⟩
    obtain ⟨f4, hf4, hw4⟩ := IsWords.put (s3 _ _ hf) (fun n hn => s3 _ _ (hw n hn)) hpN hb
    have s4 := same_upd (o := .dK (putK (N.map fun n => ((Sum.inr n : Key), V.ref (f n))) (Sum.inr p) (.ref b))) (s2.trans s3) hwd
    have hq4 : upd H3 wd (.dK (putK (N.map fun n => ((Sum.inr n : Key), V.ref (f n))) (Sum.inr p) (.ref b))) q = some (.tup (cs.reverse.map V.str)) := by
      rw [upd_ne (fun e => by rw [e, hf] at hq2; cases hq2)]
      exact s3 _ _ hq2
    generalize upd H3 wd (.dK (putK (N.map fun n => ((Sum.inr n : Key), V.ref (f n))) (Sum.inr p) (.ref b))) = H4 at hf4 hw4 s4 hq4 ⊢
    refine ⟨Nat.zero_le _, fun e he => ⟨_, rfl, _, rfl, wd, _, rfl, DPut.k (k := Sum.inr n) (same_new he _ _ _ hf4) (by rw [List.length_map]; exact small4 W.n4), ?_⟩⟩
    have se := same_new he (.tup [])
    have fin := IsWords.put (v := []) (se _ _ hf4) (fun n hn => se _ _ (hw4 n hn)) hnN (b := e) upd_same
    refine ⟨same_upd (s4.trans se) hwd, ?_, ?_, _, rfl⟩
    · show upd (upd H4 e _) wd _ q = _
      rw [upd_ne (fun z => by rw [z, hf4] at hq4; cases hq4)]
      exact se _ _ hq4
    · rw [lay_some hp]
      exact fin
  · rintro σ H' ⟨s2, hq2, hw, o, rfl⟩
    rw [List.length_map, List.take_length] at hw
    exact ⟨_, rfl, k _ _ s2 hwd hw⟩
def spToldBy : Sp := fun vs H Q _ => ∃ d N par r ws, vs = [.ref d] ∧ OkWeb N par r ∧ IsWords H d N ws ∧ ∀ H' a, Same H H' → IsPiles H' a (N.map ws) → Q (.ref a) H'
theorem ok_told_by (T : Txt K mg C) (D : Df K mg "told_by" s_told_by) : OkF P w K mg base "told_by" ["words"] 1 spToldBy := by
  obtain ⟨f, fd, F, g⟩ := D
  refine ⟨f, fd, g, F.kp, F.binds (ps := ["words"]) fun _ _ _ _ _ _ us hl => match us, hl with | [_], _ => rfl, ?_⟩
  refine F.ok sc_told_by (fun vs H Q E h => ?_) (fun cdv A outer s H vs Q E hr h => ?_)
  · obtain ⟨d, N, par, r, ws, rfl, _⟩ := h
    rfl
  obtain ⟨d, N, par, r, ws, rfl, W, ⟨f, hf, hw⟩, k⟩ := h
  refine ⟨_, (pss_one (ps_ret (pe_callTy call_tuple_of (by rfl) T.tuple (by decide +kernel) (pa_cons (pe_lc (own := [("name", 1)]) (g := (gName 1)) (tt := tYes) (te := (tDGet (tVar 0) (tVar 1))) rfl sc_told_by.nd (pi_list (pe_callB (call_sortedD rfl) (by rfl) T.sorted (by decide +kernel) (pa_cons (pv 0) pa_nil))) (blkOk_by (N := ["words", "name"]) (sc := defScope s_told_by) (by decide +kernel)) (fun _ _ _ _ _ => (pg_name (i := 1) sc_told_by.nd rfl (Or.inl rfl))) (fun _ _ _ _ _ => pts_nil) (fun _ _ _ _ _ => (pe_dget (hu_of hr) (pv 0) (pv 1) (fun _ _ => rfl)))) pa_nil)))), ?_⟩
  refine ⟨_, rfl, d, _, N, rfl, .inl hf, keys_whom, Nat.lt_of_le_of_lt W.n4 (by decide), fun ys p hp hs hn => ?_⟩
  have e := sorted_is W.srt hp hs
  subst e
  have s1 := same_new hn (.lst (ys.map V.str))
  refine ⟨p, rfl, ⟨_, SqL.of upd_same⟩, fun D hD => ?_⟩
  have hDH : H D = none := by
    cases e : H D with
    | none => rfl
    | some u => rw [s1 _ _ e] at hD; cases hD
  refine lc_it (walk_list (K := K) (a := p) (xs := ys.map V.str)) (fun i H' => Same H H' ∧ H' p = some (.lst (ys.map V.str)) ∧ H' D = some (.lst ((ys.take i).map fun n => V.ref (f n)))) ⟨s1.trans (same_new hD _), same_new hD _ _ _ upd_same, upd_same⟩ (fun i H' _ q => SqL.of q.2.1) ?_ ?_
  · rintro i v H' H'' hi ⟨s2, hp2, hD2⟩ ⟨rfl, hv⟩
    rw [List.getElem?_map] at hv
    obtain ⟨n, hn', rfl⟩ := Option.map_eq_some_iff.mp hv
    have hpD : p ≠ D := fun e => by rw [e, upd_same] at hD; cases hD
    refine ⟨rfl, yesT ⟨_, rfl, _, rfl, d, _, rfl, IsWords.get (s2 _ _ hf) (List.mem_of_getElem? hn'), _, hD2, ?_, same_upd s2 hDH, ?_, ?_⟩⟩
    · rw [List.length_map]
      exact small4 (Nat.le_trans (List.length_take_le' _ _) W.n4)
    · rw [upd_ne hpD]; exact hp2
    · rw [upd_same, take_snoc hn', List.map_append]
      rfl
  · rintro H' ⟨s2, _, hD2⟩
    rw [List.length_map, List.take_length] at hD2
    refine ⟨D, _, rfl, .inl ⟨SqL.of hD2, fun l hl => ?_⟩⟩
    refine k _ _ (s2.trans (same_new hl _)) ⟨ys.map f, ?_, ?_⟩
    · rw [upd_same, List.map_map]; rfl
    · have key : ∀ L : List Str, (∀ n ∈ L, n ∈ ys) → Paired (fun b w => upd H' l (.tup (ys.map fun n => V.ref (f n))) b = some (.tup (w.map V.str))) (L.map f) (L.map ws) := by
        intro L
        induction L with
        | nil => intro _; exact .nil
        | cons n L ih => intro h; exact .cons (same_new hl _ _ _ (s2 _ _ (hw n (h n List.mem_cons_self)))) (ih fun m hm => h m (List.mem_cons_of_mem _ hm))
      exact key ys fun _ h => h
def spPiles (C : Addr) : Sp := fun vs H Q _ => ∃ x N par r c cs, vs = [.ref x, .ref c] ∧ OkWeb N par r ∧ IsWeb C H x N par ∧ IsStrT H c cs ∧ cs.length ≤ 400 ∧ (∀ n ∈ cs, ∃ p, par n = some p) ∧ ∀ H' a, Same H H' → IsPiles H' a (N.map (run par home cs.reverse)) → Q (.ref a) H'
theorem ok_piles (T : Txt K mg C) (G_check_web : OkF P w K mg base "check_web" ["thing"] 1 (spCheckWeb C)) (G_check_calls : OkF P w K mg base "check_calls" ["web", "calls"] 2 (spCheckCalls C)) (G_whom_of : OkF P w K mg base "whom_of" ["web"] 1 (spWhomOf C))
    (G_piles_by : OkF P w K mg base "piles_by" ["whom", "calls"] 3 spPilesBy) (G_told_by : OkF P w K mg base "told_by" ["words"] 1 spToldBy) (D : Df K mg "piles" s_piles) : OkF P w K mg base "piles" ["web", "calls"] 4 (spPiles C) := by
  obtain ⟨f, fd, F, g⟩ := D
  refine ⟨f, fd, g, F.kp, F.binds (ps := ["web", "calls"]) fun _ _ _ _ _ _ us hl => match us, hl with | [_, _], _ => rfl, ?_⟩
  refine F.ok sc_piles (fun vs H Q E h => ?_) (fun cdv A outer s H vs Q E hr h => ?_)
  · obtain ⟨x, N, par, r, c, cs, rfl, _⟩ := h
    rfl
  obtain ⟨x, N, par, r, c, cs, rfl, W, hx, hc, hl, hcs, k⟩ := h
  refine ⟨_, (pss_cons (ps_expr (pe_f G_check_web hr (by decide) (by rfl) (pa_cons (pv 0) pa_nil)))
  (pss_cons (ps_expr (pe_f G_check_calls hr (by decide) (by rfl) (pa_cons (pv 0) (pa_cons (pv 1) pa_nil))))
  (pss_one (ps_ret (pe_f G_told_by hr (by decide) (by rfl) (pa_cons (pe_f G_piles_by hr (by decide) (by rfl) (pa_cons (pe_f G_whom_of hr (by decide) (by rfl) (pa_cons (pv 0) pa_nil)) (pa_cons (pv 1) pa_nil))) pa_nil)))))), ?_⟩
  refine ⟨_, rfl, x, N, par, rfl, hx, ?_⟩
  refine ⟨_, rfl, _, rfl, x, N, par, r, c, cs, rfl, W, hx, hc, hl, hcs, fun H1 s1 => ?_⟩
  refine ⟨_, rfl, x, N, par, r, rfl, W, hx.same s1, fun H2 d s2 hd => ?_⟩
  have s12 := s1.trans s2
  refine ⟨_, rfl, d, c, N, par, r, cs, rfl, W, hd, hc.same s12, hcs, fun H3 wd s3 _ hw => ?_⟩
  refine ⟨wd, N, par, r, _, rfl, W, hw, fun H4 a s4 ha => k _ _ ((s12.trans s3).trans s4) ha⟩
def spWordsOf (C : Addr) : Sp := fun vs H Q _ => ∃ x N par r a ps, vs = [.ref x, .ref a] ∧ OkWeb N par r ∧ IsWeb C H x N par ∧ IsPiles1 H a ps ∧ ps.length = N.length ∧ ∀ H' wd, Same H H' → H wd = none → IsWords1 H' wd N (wsOf N ps) → Q (.ref wd) H'
theorem ok_words_of (T : Txt K mg C) (G_whom_of : OkF P w K mg base "whom_of" ["web"] 1 (spWhomOf C)) (G_names_by : OkF P w K mg base "names_by" ["whom"] 1 spNamesBy) (D : Df K mg "words_of" s_words_of) : OkF P w K mg base "words_of" ["web", "piles"] 2 (spWordsOf C) := by
  obtain ⟨f, fd, F, g⟩ := D
  refine ⟨f, fd, g, F.kp, F.binds (ps := ["web", "piles"]) fun _ _ _ _ _ _ us hl => match us, hl with | [_, _], _ => rfl, ?_⟩
  refine F.ok sc_words_of (fun vs H Q E h => ?_) (fun cdv A outer s H vs Q E hr h => ?_)
  · obtain ⟨x, N, par, r, a, ps, rfl, _⟩ := h
    rfl
  obtain ⟨x, N, par, r, a, ps, rfl, W, hx, ⟨bs, ha, hb⟩, hlen, k⟩ := h
  refine ⟨_, (pss_one (ps_ret (pe_dictZip rfl (by rfl) T.dict (by rfl) T.zip (pe_f G_names_by hr (by decide) (by rfl) (pa_cons (pe_f G_whom_of hr (by decide) (by rfl) (pa_cons (pv 0) pa_nil)) pa_nil)) (pv 1)))), ?_⟩
  refine ⟨_, rfl, x, N, par, r, rfl, W, hx, fun H1 d s1 hd => ?_⟩
  refine ⟨d, N, par, r, rfl, W, hd, fun H2 l s2 hl hL => ?_⟩
  have s12 := s1.trans s2
  have lb : bs.length = N.length := (Paired.length hb).trans hlen
  refine ⟨_, rfl, l, a, N.map Sum.inr, bs.map V.ref, rfl, rfl, ?_, SqT.of (s12 _ _ ha), ?_, ?_, fun p hp => ?_⟩
  · rw [List.map_map]
    exact SqL.of hL
  · rw [List.length_map, List.length_map, lb]
  · rw [List.length_map]; exact W.n1
  · have hpH : H p = none := by
      cases e : H p with
      | none => rfl
      | some u => rw [s12 _ _ e] at hp; cases hp
    refine k _ _ (s12.trans (same_new hp _)) hpH ⟨fun n => bs.getD (N.idxOf n) 0, ?_, fun n hn => ?_⟩
    · rw [upd_same]
      have e := merge_zip W.nd (vs := []) [] [] N (bs.map V.ref) rfl rfl
      have e' : mergeK [] ((N.map Sum.inr).zip (bs.map V.ref)) = (N.map Sum.inr).zip (bs.map V.ref) := e
      rw [e']
      congr 2
      refine List.ext_getElem? fun i => ?_
      rw [List.getElem?_map]
      cases e1 : N[i]? with
      | none =>
        have : N.length ≤ i := List.getElem?_eq_none_iff.mp e1
        rw [List.getElem?_eq_none (by rw [List.length_zip, List.length_map, List.length_map, lb]; omega)]
        rfl
      | some n =>
        obtain ⟨hi, _⟩ := List.getElem?_eq_some_iff.mp e1
        have e2 : bs[i]? = some bs[i] := List.getElem?_eq_getElem (by omega)
        have e3 : ((N.map Sum.inr).zip (bs.map V.ref))[i]? = some ((Sum.inr n : Key), V.ref bs[i]) := by
          rw [List.getElem?_zip_eq_some, List.getElem?_map, List.getElem?_map, e1, e2]
          exact ⟨rfl, rfl⟩
        rw [e3]
        show _ = some ((Sum.inr n : Key), V.ref (bs.getD (N.idxOf n) 0))
        rw [idx_get W.nd e1, List.getD_eq_getElem?_getD, e2]
        rfl
    · obtain ⟨i, hi, e⟩ := List.mem_iff_getElem.mp hn
      have e1 : N[i]? = some n := by rw [List.getElem?_eq_getElem hi, e]
      have e2 : bs[i]? = some bs[i] := List.getElem?_eq_getElem (by omega)
      obtain ⟨wd, hw, hbw⟩ := paired_getL hb e2
      rw [wsOf_at W.nd e1 hw]
      show T1 _ (bs.getD (N.idxOf n) 0) _
      rw [idx_get W.nd e1, List.getD_eq_getElem?_getD, e2]
      exact hbw.same (s12.trans (same_new hp _))
end
end HW
set_option Elab.async false
set_option maxRecDepth 100000
set_option linter.all false
set_option maxHeartbeats 4000000
namespace HW
open PySem L2
/-- a second clause's loop, and the first's -/
theorem loop_it {J : It} {n : Nat} {G : Hp → Prop} {Y : Nat → Hp → V → Hp → Prop} (wk : Walk J n G Y) {B : (Hp → Prop) → V → Hp → Prop} {H0 : Hp} {Qd : Hp → Prop} (R : Nat → Hp → Prop) (r0 : R 0 H0) (rG : ∀ i H, i ≤ n → R i H → G H)
    (rs : ∀ i x H H', i < n → R i H → Y i H x H' → B (R (i + 1)) x H') (rd : ∀ H, R n H → Qd H) :
    ∃ W : Nat → Nat → Hp → Prop, (∃ m, W 0 m H0) ∧ ∀ i m H, W i m H → (J.stop i H ∧ Qd H) ∨ (J.go i H ∧ ∃ Nx : Hp → Prop, (∀ H', Nx H' → ∃ m', m' < m ∧ W (i + 1) m' H') ∧ ∀ x H', J.yld i H x H' → B Nx x H') := by
  refine ⟨fun i m H => m = n - i ∧ i ≤ n ∧ R i H, ⟨n, (Nat.sub_zero n).symm, Nat.zero_le _, r0⟩, ?_⟩
  rintro i m H ⟨rfl, hi, p⟩
  rcases Nat.lt_or_ge i n with lt | ge
  · exact .inr ⟨wk.goes i H lt (rG i H hi p), R (i + 1), fun H' p' => ⟨n - (i + 1), by omega, rfl, lt, p'⟩, fun x H' y => rs i x H H' lt p (wk.yields i H x H' lt (rG i H hi p) y)⟩
  · obtain rfl : i = n := by omega
    exact .inl ⟨wk.stops H (rG _ H hi p), rd H p⟩
section
variable {P : Program} {w : World} {K : PySem.W.Frag} {mg : Str → Option Value} {base : Heap} {C : Addr}
def IsAt (H : Hp) (d : Addr) (N : List Str) (s : Str → List Str) : Prop := ∃ kvs : List (Key × V), H d = some (.dK kvs) ∧ ∀ p ∈ N, ∀ n ∈ s p, valV kvs (Sum.inr n) = some (.str p)
theorem IsAt.same {H H' : Hp} {d : Addr} {N : List Str} {s : Str → List Str} (h : IsAt H d N s) (e : Same H H') : IsAt H' d N s := let ⟨kvs, a, b⟩ := h; ⟨kvs, e _ _ a, b⟩
theorem IsAt.get {H : Hp} {d : Addr} {N : List Str} {s : Str → List Str} (h : IsAt H d N s) {p n : Str} (hp : p ∈ N) (hn : n ∈ s p) : DGet H d (V.str n) (some (V.str p)) := by
  obtain ⟨kvs, e, f⟩ := h
  have g := DGet.k (k := Sum.inr n) e
  rw [f p hp n hn] at g
  exact g
theorem length_put {kvs : List (Key × V)} {k : Key} {v : V} : (putK kvs k v).length ≤ kvs.length + 1 := by
  unfold putK
  split
  · rw [List.length_map]; omega
  · rw [List.length_append]; exact Nat.le_refl _
def spHomes : Sp := fun vs H Q _ => ∃ d N par r s, vs = [.ref d] ∧ OkWeb N par r ∧ IsWords1 H d N s ∧ Pl s ∧ (∀ x, x ∉ N → s x = [x]) ∧ ∀ H' a, Same H H' → IsAt H' a N s → Q (.ref a) H'
theorem ok_homes (T : Txt K mg C) (D : Df K mg "homes" s_homes) : OkF P w K mg base "homes" ["words"] 1 spHomes := by
  obtain ⟨f, fd, F, g⟩ := D
  refine ⟨f, fd, g, F.kp, F.binds (ps := ["words"]) fun _ _ _ _ _ _ us hl => match us, hl with | [_], _ => rfl, ?_⟩
  refine F.ok sc_homes (fun vs H Q E h => ?_) (fun cdv A outer s H vs Q E hr h => ?_)
  · obtain ⟨d, N, par, r, ws, rfl, _⟩ := h
    rfl
  obtain ⟨d, N, par, r, s, rfl, W, ⟨f, hf, hw⟩, Ps, out, k⟩ := h
  refine ⟨_, (pss_one (ps_ret (pe_lock (pe_dc2 (own := [("name", 1), ("word", 2), ("one", 3)]) (vs1 := [3]) (g := (gTup K 2 (gCons (gName 1) (gCons (gName 2) gNil)))) (wi1 := iTup K (tVar 2)) (g1 := gName 3) (tk := tVar 3) (tv := tVar 1) rfl sc_homes.nd (pi_items (pv 0)) (blkOk_by (N := ["words", "name", "word", "one"]) (sc := defScope s_homes) (by decide +kernel)) (by decide) ⟨fun _ _ _ _ _ => (pg_tup rfl (pgs_cons (pg_name (i := 1) sc_homes.nd rfl (Or.inl rfl)) (pgs_cons (pg_name (i := 2) sc_homes.nd rfl (Or.inl rfl)) pgs_nil))), fun _ _ _ _ _ => pi_tup (pv 2), fun _ _ _ _ _ => (pg_name (i := 3) sc_homes.nd rfl (Or.inl rfl)), fun _ _ _ _ _ => pv 3, fun _ _ _ _ _ => pv 1⟩)))), ?_⟩
  refine ⟨d, _, hf, trivial, fun od => ?_⟩
  generalize eZ : upd H d (.frz od (.dK (N.map fun n => (Sum.inr n, V.ref (f n))))) = Z
  have zd : Z d = some (.frz od (.dK (N.map fun n => (Sum.inr n, V.ref (f n))))) := by rw [← eZ]; exact upd_same
  have zo : ∀ b, b ≠ d → Z b = H b := fun b hb => by rw [← eZ]; exact upd_ne hb
  have back : ∀ H', Same Z H' → Same H (upd H' d (.dK (N.map fun n => (Sum.inr n, V.ref (f n))))) := fun H' sz b u hb => by
    by_cases e : b = d
    · subst e; rw [upd_same, ← hf, hb]
    · rw [upd_ne e]; exact sz _ _ (by rw [zo b e]; exact hb)
  have hz : ∀ n ∈ N, T1 Z (f n) ((s n).map V.str) := fun n hn => by
    obtain ⟨o, e, h⟩ := hw n hn
    exact ⟨o, by rw [zo _ (fun z => by rw [z, hf] at e; cases e)]; exact e, h⟩
  refine ⟨_, rfl, d, _, _, rfl, zd, fun D hD => ?_⟩
  refine loop_it (walk_items (d := d) (o := od) (kvs := N.map fun n => (Sum.inr n, V.ref (f n)))) (fun i H' => Same Z H' ∧ ∃ kvs : List (Key × V), H' D = some (.dK kvs) ∧ kvs.length ≤ 4 * i ∧ ∀ p ∈ N.take i, ∀ n ∈ s p, valV kvs (Sum.inr n) = some (.str p)) ⟨same_new hD _, [], upd_same, Nat.zero_le _, by simp⟩ (fun i H' _ q => q.1 _ _ zd) ?_ ?_
  · rintro i v H' H'' hi ⟨s1, kvs, hk, hl, hv⟩ ⟨T', x, y, rfl, hT, rfl, hx, hy⟩
    rw [List.length_map] at hi
    obtain ⟨p, hp⟩ : ∃ p, N[i]? = some p := ⟨_, List.getElem?_eq_getElem hi⟩
    replace hx : Option.map (fun kv : Key × V => kV kv.1) ((N.map fun n => ((Sum.inr n : Key), V.ref (f n)))[i]?) = some x := hx
    replace hy : Option.map Prod.snd ((N.map fun n => ((Sum.inr n : Key), V.ref (f n)))[i]?) = some y := hy
    rw [List.getElem?_map, hp] at hx hy
    cases hx
    cases hy
    have hpN := List.mem_of_getElem? hp
    have s2 := s1.trans (same_new hT (.tup [.str p, .ref (f p)]))
    have hw2 := (hz p hpN).same s2
    refine ⟨T', _, rfl, SqT.of upd_same, rfl, _, _, rfl, _, _, rfl, rfl, rfl, ?_⟩
    refine ⟨_, rfl, f p, rfl, ⟨_, hw2.sq⟩, ?_⟩
    have hlen : (s p).length ≤ 4 := Nat.le_trans (pl_len Ps out hpN) W.n4
    refine loop_it (walk_tup (K := K) (a := f p) (xs := (s p).map V.str)) (fun j H3 => Same Z H3 ∧ ∃ kvs : List (Key × V), H3 D = some (.dK kvs) ∧ kvs.length ≤ 4 * i + j ∧ (∀ p ∈ N.take i, ∀ n ∈ s p, valV kvs (Sum.inr n) = some (.str p)) ∧ ∀ n ∈ (s p).take j, valV kvs (Sum.inr n) = some (.str p)) ⟨s2, kvs, same_new hT _ _ _ hk, hl, hv, by simp⟩ (fun j H3 _ q => ((hz p hpN).same q.1).sq) ?_ ?_
    · rintro j v H3 H4 hj ⟨s3, kvs, hk, hl, hv, hv2⟩ ⟨rfl, hn0⟩
      rw [List.getElem?_map] at hn0
      obtain ⟨n, hn, rfl⟩ := Option.map_eq_some_iff.mp hn0
      rw [List.length_map] at hj
      refine ⟨rfl, _, rfl, _, rfl, kvs, Sum.inr n, rfl, hk, ?_, ?_, _, upd_same, ?_, ?_, ?_⟩
      · have := W.n4
        rw [sizeLine_eq]; omega
      · exact fun b u q => by
          by_cases e : b = D
          · subst e; rw [hD] at q; cases q
          · rw [upd_ne e]; exact s3 _ _ q
      · exact Nat.le_trans length_put (by omega)
      · intro p' hp' n' hn'
        rw [valV_put]
        by_cases e : n' = n
        · subst e
          rw [if_pos rfl, Ps.uniq n' p' p hn' (List.mem_of_getElem? hn)]
          rfl
        · rw [if_neg (fun h => e (Sum.inr.inj h))]
          exact hv p' hp' n' hn'
      · intro n' hn'
        rw [valV_put]
        by_cases e : n' = n
        · subst e; rw [if_pos rfl]; rfl
        · rw [if_neg (fun h => e (Sum.inr.inj h))]
          rw [take_snoc hn] at hn'
          exact hv2 n' ((List.mem_append.mp hn').resolve_right fun h => e (List.mem_singleton.mp h))
    · rintro H3 ⟨s3, kvs, hk, hl, hv, hv2⟩
      rw [List.length_map] at hl hv2
      rw [List.take_length] at hv2
      refine ⟨s3, kvs, hk, by omega, fun p' hp' => ?_⟩
      rw [take_snoc hp] at hp'
      rcases List.mem_append.mp hp' with h | h
      · exact hv p' h
      · rw [List.mem_singleton.mp h]; exact hv2
  · rintro H' ⟨s1, kvs, hk, _, hv⟩
    rw [List.length_map, List.take_length] at hv
    refine ⟨s1 _ _ zd, k _ _ (back _ s1) ⟨kvs, ?_, hv⟩⟩
    rw [upd_ne (fun e => by rw [e, zd] at hD; cases hD)]
    exact hk
/-! ### who are above whom -/
def IsPairs (H : Hp) (l : Addr) (prs : List (Str × Str)) : Prop := ∃ bs : List Addr, H l = some (.lst (bs.map V.ref)) ∧ Paired (fun b hl => H b = some (.tup [V.str hl.1, V.str hl.2])) bs prs
def spPairsOf : Sp := fun vs H Q _ => ∃ d N par r, vs = [.ref d] ∧ OkWeb N par r ∧ IsWhom H d N par ∧ ∀ H' l prs, Same H H' → IsPairs H' l prs → (∀ h b, (h, b) ∈ prs ↔ b ∈ N ∧ h ∈ tl par b) → Q (.ref l) H'
theorem OkWeb.tl_in {N : List Str} {par : Str → Option Str} {r : Str → Nat} (W : OkWeb N par r) {h b : Str} (hb : b ∈ N) (hh : h ∈ tl par b) : h ∈ N := W.ln_in hb (by rw [ln_tl]; exact List.mem_cons_of_mem _ hh)
theorem cut_tl (par : Str → Option Str) (x : Str) : cutV ((ln par x).map V.str) (some 1) none = (tl par x).map V.str := by
  rw [ln_tl]
  unfold cutV
  have e1 : HT.sIx ((x :: tl par x).map V.str).length 0 (some 1) = 1 := by
    unfold HT.sIx
    simp
  have e2 : HT.sIx ((x :: tl par x).map V.str).length ((x :: tl par x).map V.str).length none = ((x :: tl par x).map V.str).length := rfl
  (rw [e1, e2]); rw [List.take_of_length_le (by simp)]
  rfl
theorem ok_pairs_of (T : Txt K mg C) (G_names_by : OkF P w K mg base "names_by" ["whom"] 1 spNamesBy) (G_line_up : OkF P w K mg base "line_up" ["whom", "name"] 1 spLineUp) (D : Df K mg "pairs_of" s_pairs_of) : OkF P w K mg base "pairs_of" ["whom"] 2 spPairsOf := by
  obtain ⟨f, fd, F, g⟩ := D
  refine ⟨f, fd, g, F.kp, F.binds (ps := ["whom"]) fun _ _ _ _ _ _ us hl => match us, hl with | [_], _ => rfl, ?_⟩
  refine F.ok sc_pairs_of (fun vs H Q E h => ?_) (fun cdv A outer s H vs Q E hr h => ?_)
  · obtain ⟨d, N, par, r, rfl, _⟩ := h
    rfl
  obtain ⟨d, N, par, r, rfl, W, hd, k⟩ := h
  refine ⟨_, (pss_cons (ps_set (i := 1) sc_pairs_of.nd rfl (.inr rfl) (pe_f G_names_by hr (by decide) (by rfl) (pa_cons (pv 0) pa_nil)))
  (pss_one (ps_ret (pe_lc2 (own := [("high", 2), ("low", 3)]) (vs1 := [3]) (g := gName 2) (tt := tYes) (wi1 := iList K (tVar 1)) (g1 := gName 3) (tt1 := tTest (tOp (rIn K false) (tVar 2) (tSl (rSlL K) (tCall spLineUp [] E0 (tCons (tVar 0) (tCons (tVar 3) tNil))) (tPart (tC (.int 1))) tNoPart))) (te := tTup (tCons (tVar 2) (tCons (tVar 3) tNil))) rfl sc_pairs_of.nd (pi_list (pv 1)) (blkOk_by (N := ["whom", "names", "high", "low"]) (sc := defScope s_pairs_of) (by decide +kernel)) (by decide) (fun _ _ _ _ _ => (pg_name (i := 2) sc_pairs_of.nd rfl (Or.inl rfl))) (fun _ _ _ _ _ => pts_nil) (fun _ _ _ _ _ => pi_list (pv 1)) (fun _ _ _ _ _ => (pg_name (i := 3) sc_pairs_of.nd rfl (Or.inl rfl))) (fun _ _ _ _ _ => pts_one (pt_cmpR op_in_seq (pv 2) (pe_slice sl_list (pe_f G_line_up hr (by decide) (by rfl) (pa_cons (pv 0) (pa_cons (pv 3) pa_nil))) (po_some pe_int) po_none) (by rfl))) (fun _ _ _ _ _ => pe_tup (pa_cons (pv 2) (pa_cons (pv 3) pa_nil))))))), ?_⟩
  refine ⟨_, rfl, d, N, par, r, rfl, W, hd, fun H1 l s1 _ hL => ?_⟩
  refine ⟨_, rfl, l, rfl, ⟨_, SqL.of hL⟩, fun D hD => ?_⟩
  have hDH : H D = none := by
    cases e : H D with
    | none => rfl
    | some u => rw [s1 _ _ e] at hD; cases hD
  let good : (Str × Str) → Prop := fun hb => hb.2 ∈ N ∧ hb.1 ∈ tl par hb.2
  refine loop_it (walk_list (K := K) (a := l) (xs := N.map V.str)) (fun i H' => Same H1 H' ∧ ∃ prs, IsPairs H' D prs ∧ prs.length ≤ 4 * i ∧ ∀ h b, (h, b) ∈ prs ↔ h ∈ N.take i ∧ b ∈ N ∧ h ∈ tl par b) ⟨same_new hD _, [], ⟨[], upd_same, .nil⟩, Nat.zero_le _, by simp⟩ (fun i H' _ q => SqL.of (q.1 _ _ hL)) ?_ ?_
  · rintro i v H' H'' hi ⟨s2, prs, hP, hl, hm⟩ ⟨rfl, hv⟩
    rw [List.getElem?_map] at hv
    obtain ⟨h, hh, rfl⟩ := Option.map_eq_some_iff.mp hv
    rw [List.length_map] at hi
    refine ⟨rfl, yesT ⟨_, rfl, l, rfl, ⟨_, SqL.of (s2 _ _ hL)⟩, ?_⟩⟩
    refine loop_it (walk_list (K := K) (a := l) (xs := N.map V.str)) (fun j H3 => Same H1 H3 ∧ ∃ prs, IsPairs H3 D prs ∧ prs.length ≤ 4 * i + j ∧ ∀ h' b, (h', b) ∈ prs ↔ (h' ∈ N.take i ∧ b ∈ N ∧ h' ∈ tl par b) ∨ (h' = h ∧ b ∈ N.take j ∧ h' ∈ tl par b)) ⟨s2, prs, hP, hl, fun h' b => by rw [hm]; simp⟩ (fun j H3 _ q => SqL.of (q.1 _ _ hL)) ?_ ?_
    · rintro j v H3 H4 hj ⟨s3, prs, hP, hl, hm⟩ ⟨rfl, hv⟩
      rw [List.getElem?_map] at hv
      obtain ⟨b, hb, rfl⟩ := Option.map_eq_some_iff.mp hv
      rw [List.length_map] at hj
      have hbN := List.mem_of_getElem? hb
      refine ⟨rfl, _, rfl, _, rfl, _, rfl, d, N, par, r, b, rfl, W, (hd.same s1).same s3, hbN, fun H5 m s5 _ hM => ?_⟩
      refine ⟨_, rfl, m, _, rfl, SqL.of hM, fun q hq => ?_⟩
      rw [cut_tl]
      have s6 := (s3.trans s5).trans (same_new hq (.lst ((tl par b).map V.str)))
      have hP6 : ∀ bs : List Addr, H4 D = some (.lst (bs.map V.ref)) → upd H5 q (.lst ((tl par b).map V.str)) D = some (.lst (bs.map V.ref)) := fun bs e => (s5.trans (same_new hq _)) _ _ e
      refine ⟨q, _, rfl, .inl (SqL.of upd_same), rfl, flatStrs _, _, rfl, ?_⟩
      show if inV (.str h) ((tl par b).map V.str) = true then _ else _
      rw [inStrs]
      obtain ⟨bs, hbs, hpr⟩ := hP
      have hpr6 : Paired (fun c hl => upd H5 q (.lst ((tl par b).map V.str)) c = some (.tup [V.str hl.1, V.str hl.2])) bs prs := paired_mono hpr fun c hl e => (s5.trans (same_new hq _)) _ _ e
      by_cases ht : h ∈ tl par b
      · rw [decide_eq_true ht]
        refine iteT ⟨_, rfl, _, rfl, (by show 2 ≤ sizeLine; rw [sizeLine_eq]; omega), fun c hc => ⟨_, same_new hc _ _ _ (hP6 bs hbs), ?_, ?_, prs ++ [(h, b)], ⟨bs ++ [c], ?_, ?_⟩, ?_, ?_⟩⟩
        · rw [List.length_map, Paired.length hpr]
          have := W.n4
          rw [sizeLine_eq]; omega
        · exact same_upd (s6.trans (same_new hc _)) hD
        · rw [upd_same, List.map_append]; rfl
        · refine paired_snoc (paired_mono hpr6 fun c' hl e => ?_) ?_
          · rw [upd_ne (fun z => by rw [z, hP6 bs hbs] at e; cases e)]
            exact same_new hc _ _ _ e
          · rw [upd_ne (fun z => by rw [z, hP6 bs hbs] at hc; cases hc)]
            exact upd_same
        · (rw [List.length_append, List.length_singleton]; omega)
        · intro h' b'
          rw [List.mem_append, hm, List.mem_singleton, take_snoc hb, List.mem_append, List.mem_singleton, Prod.mk.injEq]
          constructor
          · rintro ((h1 | h1) | ⟨rfl, rfl⟩)
            · exact .inl h1
            · exact .inr ⟨h1.1, .inl h1.2.1, h1.2.2⟩
            · exact .inr ⟨rfl, .inr rfl, ht⟩
          · rintro (h1 | ⟨rfl, h1 | h1, h2⟩)
            · exact .inl (.inl h1)
            · exact .inl (.inr ⟨rfl, h1, h2⟩)
            · exact .inr ⟨rfl, h1⟩
      · rw [decide_eq_false ht]
        refine iteF ⟨s6, prs, ⟨bs, hP6 bs hbs, hpr6⟩, by omega, fun h' b' => ?_⟩
        rw [hm, take_snoc hb, List.mem_append, List.mem_singleton]
        constructor
        · rintro (h1 | h1)
          · exact .inl h1
          · exact .inr ⟨h1.1, .inl h1.2.1, h1.2.2⟩
        · rintro (h1 | ⟨rfl, h1 | h1, h2⟩)
          · exact .inl h1
          · exact .inr ⟨rfl, h1, h2⟩
          · rw [h1] at h2; exact absurd h2 ht
    · rintro H3 ⟨s3, prs, hP, hl, hm⟩
      rw [List.length_map] at hl hm
      have := W.n4
      refine ⟨s3, prs, hP, by omega, fun h' b => ?_⟩
      rw [hm, List.take_length, take_snoc hh, List.mem_append, List.mem_singleton]
      constructor
      · rintro (h1 | ⟨h1, h2, h3⟩)
        · exact ⟨.inl h1.1, h1.2.1, h1.2.2⟩
        · exact ⟨.inr h1, h2, h3⟩
      · rintro ⟨h1 | h1, h2, h3⟩
        · exact .inl ⟨h1, h2, h3⟩
        · exact .inr ⟨h1, h2, h3⟩
  · rintro H' ⟨s2, prs, hP, _, hm⟩
    rw [List.length_map, List.take_length] at hm
    refine k _ _ prs (s1.trans s2) hP fun h b => ?_
    rw [hm]
    exact ⟨fun q => q.2, fun q => ⟨W.tl_in q.1 q.2, q⟩⟩
end
end HW
set_option Elab.async false
set_option maxRecDepth 100000
set_option linter.all false
set_option maxHeartbeats 4000000
namespace HW
open PySem L2
/-- what is told bars -/
inductive Told (N : List Str) (par : Str → Option Str) (s : Str → List Str) : List Str → Prop
  | stray {n p : Str} : n ∈ N → p ∈ N → n ∈ s p → p ∉ ln par n → Told N par s ["stray", n]
  | below {h l p q : Str} : l ∈ N → h ∈ tl par l → p ∈ N → q ∈ N → h ∈ s p → l ∈ s q → p ∉ ln par q → Told N par s ["below", h, l]
  | turn {h l p : Str} {i j : Nat} : l ∈ N → h ∈ tl par l → p ∈ N → (s p)[i]? = some h → (s p)[j]? = some l → j < i → Told N par s ["turn", h, l]
section
variable {N : List Str} {par : Str → Option Str} {r : Str → Nat} {s : Str → List Str}
theorem OkWeb.mem_tl (W : OkWeb N par r) {h l : Str} : h ∈ tl par l ↔ Up par l h ∧ l ≠ h := by
  constructor
  · intro m
    have up : Up par l h := W.mem_ln.mp (by rw [ln_tl]; exact List.mem_cons_of_mem _ m)
    refine ⟨up, fun e => ?_⟩
    subst e
    cases e : par l with
    | none => rw [tl_none e] at m; cases m
    | some p =>
      rw [W.tl_some e] at m
      have := (W.mem_ln.mp m).le W.rk
      have := W.rk l p e
      omega
  · rintro ⟨up, ne⟩
    have m := W.mem_ln.mpr up
    rw [ln_tl] at m
    exact (List.mem_cons.mp m).resolve_left fun e => ne e.symm
theorem Told.bars (W : OkWeb N par r) {t : List Str} (h : Told N par s t) : ¬ Unb par s := by
  intro U
  cases h with
  | stray _ _ h1 h2 => exact h2 (W.mem_ln.mpr (U.u1 _ _ h1))
  | below _ h1 _ _ h2 h3 h4 =>
    obtain ⟨up, ne⟩ := W.mem_tl.mp h1
    exact h4 (W.mem_ln.mpr (U.u2 _ _ _ _ up ne h2 h3))
  | @turn h l p i j _ h1 _ h2 h3 h4 =>
    obtain ⟨up, ne⟩ := W.mem_tl.mp h1
    obtain ⟨l1, e1⟩ := List.getElem?_eq_some_iff.mp h2
    obtain ⟨l2, e2⟩ := List.getElem?_eq_some_iff.mp h3
    have := List.pairwise_iff_getElem.mp (U.u3 p) j i l2 l1 h4
    rw [e1, e2] at this
    exact this ⟨up, ne⟩
theorem unb_of (W : OkWeb N par r) (P : Pl s) (out : ∀ x, x ∉ N → s x = [x]) (h1 : ∀ n ∈ N, ∀ p ∈ N, n ∈ s p → p ∈ ln par n) (h2 : ∀ h l, l ∈ N → h ∈ tl par l → ∀ p ∈ N, ∀ q ∈ N, h ∈ s p → l ∈ s q → p ∈ ln par q)
    (h3 : ∀ h l, l ∈ N → h ∈ tl par l → ∀ p ∈ N, ∀ i j : Nat, (s p)[i]? = some h → (s p)[j]? = some l → i ≤ j) : Unb par s := by
  have home : ∀ {x p}, x ∈ N → x ∈ s p → p ∈ N := fun {x p} hx hp => by
    by_cases h : p ∈ N
    · exact h
    · rw [out p h] at hp
      rw [List.mem_singleton.mp hp] at hx
      exact absurd hx h
  have upN : ∀ {l h}, Up par l h → l ≠ h → l ∈ N ∧ h ∈ N ∧ h ∈ tl par l := fun {l h} up ne => by
    obtain ⟨p, hp, _⟩ := up.head ne
    have hl := (W.pin _ _ hp).1
    have m := W.mem_tl.mpr ⟨up, ne⟩
    exact ⟨hl, W.tl_in hl m, m⟩
  refine ⟨fun x p hx => ?_, fun h l p q up ne hp hq => ?_, fun p => ?_⟩
  · by_cases hN : x ∈ N
    · exact W.mem_ln.mp (h1 x hN p (home hN hx) hx)
    · have h2 : x ∈ s x := by rw [out x hN]; exact List.mem_singleton_self x
      rw [P.uniq x p x hx h2]
      exact .refl _
  · obtain ⟨hl, hh, m⟩ := upN up ne
    exact W.mem_ln.mp (h2 h l hl m p (home hh hp) q (home hl hq) hp hq)
  · refine List.pairwise_iff_getElem.mpr fun i j hi hj hij => ?_
    rintro ⟨up, ne⟩
    obtain ⟨hl, hh, m⟩ := upN up ne
    have := h3 _ _ hl m p (home hl (List.getElem_mem hi)) j i (List.getElem?_eq_getElem hj) (List.getElem?_eq_getElem hi)
    omega
end
section
variable {P : Program} {w : World} {K : PySem.W.Frag} {mg : Str → Option Value} {base : Heap} {C : Addr}
theorem idx_first {ys : List Str} (hn : ys.Nodup) {j : Nat} {z : Str} (h : ys[j]? = some z) : ∀ m, m < j → ys[m]? ≠ some z := fun m hm e => by
  obtain ⟨l1, e1⟩ := List.getElem?_eq_some_iff.mp h
  obtain ⟨l2, e2⟩ := List.getElem?_eq_some_iff.mp e
  have := (List.getElem_inj hn).mp (e2.trans e1.symm)
  omega
def spBarBy : Sp := fun vs H Q _ => ∃ d wd N par r s, vs = [.ref d, .ref wd] ∧ OkWeb N par r ∧ IsWhom H d N par ∧ IsWords1 H wd N s ∧ Pl s ∧ (∀ x, x ∉ N → s x = [x]) ∧
  (Unb par s → ∀ H', Same H H' → Q .non H') ∧ ∀ H' tk told, Same H H' → IsStrT H' tk told → Told N par s told → Q (.ref tk) H'
theorem ok_bar_by (T : Txt K mg C) (G_homes : OkF P w K mg base "homes" ["words"] 1 spHomes) (G_names_by : OkF P w K mg base "names_by" ["whom"] 1 spNamesBy) (G_line_up : OkF P w K mg base "line_up" ["whom", "name"] 1 spLineUp)
    (G_pairs_of : OkF P w K mg base "pairs_of" ["whom"] 2 spPairsOf) (D : Df K mg "bar_by" s_bar_by) : OkF P w K mg base "bar_by" ["whom", "words"] 3 spBarBy := by
  obtain ⟨f, fd, F, g⟩ := D
  refine ⟨f, fd, g, F.kp, F.binds (ps := ["whom", "words"]) fun _ _ _ _ _ _ us hl => match us, hl with | [_, _], _ => rfl, ?_⟩
  refine F.ok sc_bar_by (fun vs H Q E h => ?_) (fun cdv A outer s H vs Q E hr h => ?_)
  · obtain ⟨d, wd, N, par, r, s, rfl, _⟩ := h
    rfl
  obtain ⟨d, wd, N, par, r, s, rfl, W, hd, hw, Ps, out, kN, kT⟩ := h
  refine ⟨_, (pss_cons (ps_set (i := 2) sc_bar_by.nd rfl (.inl rfl) (pe_f G_homes hr (by decide) (by rfl) (pa_cons (pv 1) pa_nil)))
  (pss_cons (ps_for PassesOwn.never rfl (pi_list (pe_f G_names_by hr (by decide) (by rfl) (pa_cons (pv 0) pa_nil))) (pg_name (i := 3) sc_bar_by.nd rfl (Or.inl rfl))
  (pss_one (ps_if (pt_cmpR op_notIn_seq (pe_dget (hu_of hr) (pv 2) (pv 3) (fun _ _ => rfl)) (pe_f G_line_up hr (by decide) (by rfl) (pa_cons (pv 0) (pa_cons (pv 3) pa_nil))) (by rfl)) (pss_one (ps_ret (pe_tup (pa_cons pe_str (pa_cons (pv 3) pa_nil))))) pss_nil)))
  (pss_cons (ps_for PassesOwn.never rfl (pi_list (pe_f G_pairs_of hr (by decide) (by rfl) (pa_cons (pv 0) pa_nil))) (pg_tup rfl (pgs_cons (pg_name (i := 4) sc_bar_by.nd rfl (Or.inl rfl)) (pgs_cons (pg_name (i := 5) sc_bar_by.nd rfl (Or.inl rfl)) pgs_nil)))
  (pss_one (ps_if (pt_cmpR op_notIn_seq (pe_dget (hu_of hr) (pv 2) (pv 4) (fun _ _ => rfl)) (pe_f G_line_up hr (by decide) (by rfl) (pa_cons (pv 0) (pa_cons (pe_dget (hu_of hr) (pv 2) (pv 5) (fun _ _ => rfl)) pa_nil))) (by rfl)) (pss_one (ps_ret (pe_tup (pa_cons pe_str (pa_cons (pv 4) (pa_cons (pv 5) pa_nil)))))) pss_nil)))
  (pss_cons (ps_for PassesOwn.never rfl (pi_list (pe_f G_pairs_of hr (by decide) (by rfl) (pa_cons (pv 0) pa_nil))) (pg_tup rfl (pgs_cons (pg_name (i := 4) sc_bar_by.nd rfl (Or.inl rfl)) (pgs_cons (pg_name (i := 5) sc_bar_by.nd rfl (Or.inl rfl)) pgs_nil)))
  (pss_cons (ps_set (i := 6) sc_bar_by.nd rfl (.inl rfl) (pe_dget (hu_of hr) (pv 1) (pe_dget (hu_of hr) (pv 2) (pv 5) (fun _ _ => rfl)) (fun _ _ => rfl)))
  (pss_one (ps_if ((pw_and (pt_cmpR op_eq (pe_dget (hu_of hr) (pv 2) (pv 4) (fun _ _ => rfl)) (pe_dget (hu_of hr) (pv 2) (pv 5) (fun _ _ => rfl)) (nomark _)) (pw_and1 (pt_cmpR op_gt (pe_index1 (pv 6) (pa_cons (pv 4) pa_nil)) (pe_index1 (pv 6) (pa_cons (pv 5) pa_nil)) (nomark _))))).pt (pss_one (ps_ret (pe_tup (pa_cons pe_str (pa_cons (pv 4) (pa_cons (pv 5) pa_nil)))))) pss_nil))))
  (pss_one (ps_ret pe_non)))))), ?_⟩
  refine ⟨_, rfl, wd, N, par, r, s, rfl, W, hw, Ps, out, fun H1 a s1 ha => ?_⟩
  have place : ∀ {n}, n ∈ N → ∃ p ∈ N, n ∈ s p := fun {n} hn => by
    obtain ⟨p, hp⟩ := Ps.all n
    refine ⟨p, ?_, hp⟩
    by_cases h : p ∈ N
    · exact h
    · rw [out p h] at hp
      rw [List.mem_singleton.mp hp] at hn
      exact absurd hn h
  refine ⟨_, rfl, d, N, par, r, rfl, W, hd.same s1, fun H2 l s2 _ hL => ?_⟩
  have s12 := s1.trans s2
  refine ⟨l, rfl, ⟨_, SqL.of hL⟩, ?_⟩
  refine for_list (xs := N.map V.str) (fun i σ H' => Same H2 H' ∧ (∀ n ∈ N.take i, ∀ p ∈ N, n ∈ s p → p ∈ ln par n) ∧ ∃ o, σ = [some (.ref d), some (.ref wd), some (.ref a), o, none, none, none]) ⟨Same.refl _, by simp, _, rfl⟩ (fun i σ H' _ q => SqL.of (q.1 _ _ hL)) ?_ ?_
  · rintro i v σ H' hi ⟨s3, hgood, o, rfl⟩
    rw [List.getElem?_map] at hi
    obtain ⟨n, hn, rfl⟩ := Option.map_eq_some_iff.mp hi
    have hnN := List.mem_of_getElem? hn
    obtain ⟨p, hp, hnp⟩ := place hnN
    have s13 := s12.trans s3
    refine ⟨_, rfl, _, rfl, a, _, rfl, (ha.same (s2.trans s3)).get hp hnp, ?_⟩
    refine ⟨_, rfl, _, rfl, d, N, par, r, n, rfl, W, hd.same s13, hnN, fun H4 m s4 _ hM => ?_⟩
    refine ⟨m, _, rfl, .inl (SqL.of hM), rfl, flatStrs _, _, rfl, ?_⟩
    show if (!inV (.str p) ((ln par n).map V.str)) = true then _ else _
    rw [inStrs]
    by_cases ht : p ∈ ln par n
    · refine iteNF ht ⟨s3.trans s4, fun n' hn' => ?_, _, rfl⟩
      rw [take_snoc hn] at hn'
      rcases List.mem_append.mp hn' with h | h
      · exact hgood n' h
      · rw [List.mem_singleton.mp h]
        intro p' hp' hnp'
        rw [Ps.uniq n p' p hnp' hnp]
        exact ht
    · refine iteNT ht ?_
      refine ⟨_, rfl, by show 2 ≤ sizeLine; rw [sizeLine_eq]; omega, fun c hc => ?_⟩
      exact kT _ _ ["stray", n] ((s13.trans s4).trans (same_new hc _)) upd_same (Told.stray hnN hp hnp ht)
  rintro σ H3 ⟨s3, hg1, o, rfl⟩
  rw [List.length_map, List.take_length] at hg1
  have s13 := s12.trans s3
  refine ⟨_, rfl, d, N, par, r, rfl, W, hd.same s13, fun H4 l2 prs s4 ⟨bs, hb, hpr⟩ hmem => ?_⟩
  have s14 := s13.trans s4
  have ha4 := ha.same ((s2.trans s3).trans s4)
  have item : ∀ {i : Nat} {v : V} {bs : List Addr} {prs : List (Str × Str)} {Hx : Hp}, Paired (fun b hl => Hx b = some (.tup [V.str hl.1, V.str hl.2])) bs prs → (bs.map V.ref)[i]? = some v → ∃ b h q, v = .ref b ∧ prs[i]? = some (h, q) ∧ Hx b = some (.tup [V.str h, V.str q]) := by
    intro i v bs prs Hx hp hi
    rw [List.getElem?_map] at hi
    obtain ⟨b, hb, rfl⟩ := Option.map_eq_some_iff.mp hi
    obtain ⟨⟨h, q⟩, hq, hbq⟩ := paired_getL hp hb
    exact ⟨b, h, q, rfl, hq, hbq⟩
  refine ⟨l2, rfl, ⟨_, SqL.of hb⟩, ?_⟩
  refine for_list (xs := bs.map V.ref) (fun i σ H' => Same H4 H' ∧ (∀ h b, (h, b) ∈ prs.take i → ∀ p ∈ N, ∀ q ∈ N, h ∈ s p → b ∈ s q → p ∈ ln par q) ∧ ∃ o1 o2 o3, σ = [some (.ref d), some (.ref wd), some (.ref a), o1, o2, o3, none]) ⟨Same.refl _, by simp, _, _, _, rfl⟩ (fun i σ H' _ q => SqL.of (q.1 _ _ hb)) ?_ ?_
  · rintro i v σ H' hi ⟨s5, hgood, o1, o2, o3, rfl⟩
    obtain ⟨b, h, q, rfl, hq, hbq⟩ := item hpr hi
    obtain ⟨hqN, hht⟩ := (hmem h q).mp (List.mem_of_getElem? hq)
    have hhN := W.tl_in hqN hht
    obtain ⟨p, hp, hhp⟩ := place hhN
    obtain ⟨p2, hp2, hqp⟩ := place hqN
    have s15 := s14.trans s5
    have ha5 := ha4.same s5
    refine ⟨b, _, rfl, SqT.of (s5 _ _ hbq), rfl, _, _, rfl, _, _, rfl, rfl, ?_⟩
    refine ⟨_, rfl, _, rfl, a, _, rfl, ha5.get hp hhp, ?_⟩
    refine ⟨_, rfl, _, rfl, _, rfl, a, _, rfl, ha5.get hp2 hqp, d, N, par, r, p2, rfl, W, hd.same s15, hp2, fun H6 m s6 _ hM => ?_⟩
    refine ⟨m, _, rfl, .inl (SqL.of hM), rfl, flatStrs _, _, rfl, ?_⟩
    show if (!inV (.str p) ((ln par p2).map V.str)) = true then _ else _
    rw [inStrs]
    by_cases ht : p ∈ ln par p2
    · refine iteNF ht ⟨s5.trans s6, fun h' b' hn' => ?_, _, _, _, rfl⟩
      rw [take_snoc hq] at hn'
      rcases List.mem_append.mp hn' with z | z
      · exact hgood h' b' z
      · cases List.mem_singleton.mp z
        intro p' hp' q' hq' h1 h2
        rw [Ps.uniq _ p' p h1 hhp, Ps.uniq _ q' p2 h2 hqp]
        exact ht
    · refine iteNT ht ?_
      refine ⟨_, rfl, _, rfl, by show 3 ≤ sizeLine; rw [sizeLine_eq]; omega, fun c hc => ?_⟩
      exact kT _ _ ["below", h, q] ((s15.trans s6).trans (same_new hc _)) upd_same (Told.below hqN hht hp hp2 hhp hqp ht)
  rintro σ H5 ⟨s5, hg2, o1, o2, o3, rfl⟩
  rw [List.length_map, Paired.length hpr, List.take_length] at hg2
  have s15 := s14.trans s5
  refine ⟨_, rfl, d, N, par, r, rfl, W, hd.same s15, fun H6 l3 prs2 s6 ⟨bs2, hb2, hpr2⟩ hmem2 => ?_⟩
  have s16 := s15.trans s6
  have ha6 := (ha4.same s5).same s6
  refine ⟨l3, rfl, ⟨_, SqL.of hb2⟩, ?_⟩
  refine for_list (xs := bs2.map V.ref) (fun i σ H' => Same H6 H' ∧ (∀ h b, (h, b) ∈ prs2.take i → ∀ p ∈ N, ∀ i j : Nat, (s p)[i]? = some h → (s p)[j]? = some b → i ≤ j) ∧ ∃ o1 o2 o3 o4, σ = [some (.ref d), some (.ref wd), some (.ref a), o1, o2, o3, o4]) ⟨Same.refl _, by simp, _, _, _, _, rfl⟩ (fun i σ H' _ q => SqL.of (q.1 _ _ hb2)) ?_ ?_
  · rintro i v σ H' hi ⟨s7, hgood, o1, o2, o3, o4, rfl⟩
    obtain ⟨b, h, q, rfl, hq, hbq⟩ := item hpr2 hi
    obtain ⟨hqN, hht⟩ := (hmem2 h q).mp (List.mem_of_getElem? hq)
    have hhN := W.tl_in hqN hht
    obtain ⟨p, hp, hhp⟩ := place hhN
    obtain ⟨p2, hp2, hqp⟩ := place hqN
    have s17 := s16.trans s7
    have ha7 := ha6.same s7
    obtain ⟨f7, hf7, hw7⟩ := hw.same s17
    refine ⟨b, _, rfl, SqT.of (s7 _ _ hbq), rfl, _, _, rfl, _, _, rfl, rfl, ?_⟩
    refine ⟨_, rfl, _, rfl, _, rfl, a, _, rfl, ha7.get hp2 hqp, wd, _, rfl, IsWords.get hf7 hp2, ?_⟩
    refine ⟨_, rfl, _, rfl, a, _, rfl, ha7.get hp hhp, _, rfl, _, rfl, a, _, rfl, ha7.get hp2 hqp, rfl, _, rfl, ?_⟩
    have step : ∀ {h' b'}, (h', b') ∈ prs2.take (i + 1) → (h', b') ∈ prs2.take i ∨ (h' = h ∧ b' = q) := fun {h' b'} z => by
      rw [take_snoc hq] at z
      rcases List.mem_append.mp z with z | z
      · exact .inl z
      · cases List.mem_singleton.mp z; exact .inr ⟨rfl, rfl⟩
    by_cases e : p = p2
    · subst e
      rw [decide_eq_true rfl]
      obtain ⟨x, hx, ex⟩ := List.mem_iff_getElem.mp hhp
      obtain ⟨y, hy, ey⟩ := List.mem_iff_getElem.mp hqp
      have gx : (s p)[x]? = some h := by rw [List.getElem?_eq_getElem hx, ex]
      have gy : (s p)[y]? = some q := by rw [List.getElem?_eq_getElem hy, ey]
      refine iteT ⟨_, rfl, f7 p, _, rfl, hw7 p hp2, _, rfl, h, x, rfl, hw7 p hp2, gx, idx_first (Ps.nd p) gx, ?_⟩
      refine ⟨_, rfl, f7 p, _, rfl, hw7 p hp2, _, rfl, q, y, rfl, hw7 p hp2, gy, idx_first (Ps.nd p) gy, ?_⟩
      refine ⟨_, _, rfl, rfl, _, rfl, ?_⟩
      by_cases lt : y < x
      · refine iteDT (by omega) ?_
        refine ⟨_, rfl, _, rfl, by show 3 ≤ sizeLine; rw [sizeLine_eq]; omega, fun c hc => ?_⟩
        exact kT _ _ ["turn", h, q] (s17.trans (same_new hc _)) upd_same (Told.turn hqN hht hp gx gy lt)
      · refine iteDF (by omega) ⟨s7, fun h' b' z => ?_, _, _, _, _, rfl⟩
        rcases step z with z | ⟨rfl, rfl⟩
        · exact hgood h' b' z
        · intro p' hp' i' j' h1 h2
          have := Ps.uniq _ p' p (List.mem_of_getElem? h1) hhp
          subst this
          obtain ⟨l1, e1⟩ := List.getElem?_eq_some_iff.mp h1
          obtain ⟨l2, e2⟩ := List.getElem?_eq_some_iff.mp h2
          have := (List.getElem_inj (Ps.nd p')).mp (e1.trans ex.symm)
          have := (List.getElem_inj (Ps.nd p')).mp (e2.trans ey.symm)
          omega
    · have hne : ¬ (V.str p = V.str p2) := fun z => e (V.str.inj z)
      rw [decide_eq_false hne]
      refine iteF (iteF ⟨s7, fun h' b' z => ?_, _, _, _, _, rfl⟩)
      rcases step z with z | ⟨rfl, rfl⟩
      · exact hgood h' b' z
      · intro p' hp' i' j' h1 h2
        have := Ps.uniq _ p' p (List.mem_of_getElem? h1) hhp
        have := Ps.uniq _ p' p2 (List.mem_of_getElem? h2) hqp
        exact absurd (by rw [← ‹p' = p›, ← ‹p' = p2›]) e
  rintro σ H7 ⟨s7, hg3, o1, o2, o3, o4, rfl⟩
  rw [List.length_map, Paired.length hpr2, List.take_length] at hg3
  refine kN (unb_of W Ps out hg1 (fun h l hl hh => hg2 h l ((hmem h l).mpr ⟨hl, hh⟩)) fun h l hl hh => hg3 h l ((hmem2 h l).mpr ⟨hl, hh⟩)) _ (s16.trans s7)
/-! ### bar -/
theorem wsOf_pl {N : List Str} {ps : List (List Str)} (hn : N.Nodup) (h : IsPl N ps) : Pl (wsOf N ps) := by
  obtain ⟨hl, hp⟩ := h
  have nd : ps.flatten.Nodup := hp.symm.nodup hn
  have at' : ∀ {p : Str}, p ∈ N → ∃ i, N[i]? = some p ∧ ps[i]? = some (wsOf N ps p) := fun {p} hp => by
    obtain ⟨i, hi, e⟩ := List.mem_iff_getElem.mp hp
    have e1 : N[i]? = some p := by rw [List.getElem?_eq_getElem hi, e]
    have e2 : ps[i]? = some ps[i] := List.getElem?_eq_getElem (by omega)
    exact ⟨i, e1, by rw [wsOf_at hn e1 e2]; exact e2⟩
  refine ⟨fun p => ?_, fun x p q h1 h2 => ?_, fun x => ?_⟩
  · by_cases hp : p ∈ N
    · obtain ⟨i, _, e⟩ := at' hp
      exact (List.pairwise_flatten.mp nd).1 _ (List.mem_of_getElem? e)
    · rw [wsOf_out hp]; simp
  · have inN : ∀ {p}, p ∈ N → x ∈ wsOf N ps p → x ∈ N := fun {p} hq hx => by
      obtain ⟨i, _, e⟩ := at' hq
      exact hp.mem_iff.mp (List.mem_flatten.mpr ⟨_, List.mem_of_getElem? e, hx⟩)
    by_cases hp' : p ∈ N <;> by_cases hq' : q ∈ N
    · obtain ⟨i, a1, a2⟩ := at' hp'
      obtain ⟨j, b1, b2⟩ := at' hq'
      have pw := (List.pairwise_flatten.mp nd).2
      obtain ⟨li, ei⟩ := List.getElem?_eq_some_iff.mp a2
      obtain ⟨lj, ej⟩ := List.getElem?_eq_some_iff.mp b2
      rcases Nat.lt_trichotomy i j with h | h | h
      · exact absurd rfl ((List.pairwise_iff_getElem.mp pw i j li lj h) x (by rw [ei]; exact h1) x (by rw [ej]; exact h2))
      · subst h; rw [a1] at b1; exact Option.some.inj b1
      · exact absurd rfl ((List.pairwise_iff_getElem.mp pw j i lj li h) x (by rw [ej]; exact h2) x (by rw [ei]; exact h1))
    · rw [wsOf_out hq'] at h2
      rw [← List.mem_singleton.mp h2] at hq'
      exact absurd (inN hp' h1) hq'
    · rw [wsOf_out hp'] at h1
      rw [← List.mem_singleton.mp h1] at hp'
      exact absurd (inN hq' h2) hp'
    · rw [wsOf_out hp'] at h1
      rw [wsOf_out hq'] at h2
      rw [← List.mem_singleton.mp h1, ← List.mem_singleton.mp h2]
  · by_cases hx : x ∈ N
    · obtain ⟨wd, h1, h2⟩ := List.mem_flatten.mp (hp.mem_iff.mpr hx)
      obtain ⟨i, hi, e⟩ := List.mem_iff_getElem.mp h1
      have e1 : N[i]? = some N[i] := List.getElem?_eq_getElem (by omega)
      refine ⟨N[i], ?_⟩
      rw [wsOf_at hn e1 (List.getElem?_eq_getElem hi), e]
      exact h2
    · exact ⟨x, by rw [wsOf_out hx]; exact List.mem_singleton_self x⟩
def spBar (C : Addr) : Sp := fun vs H Q _ => ∃ x N par r a ps, vs = [.ref x, .ref a] ∧ OkWeb N par r ∧ IsWeb C H x N par ∧ IsPiles1 H a ps ∧ IsPl N ps ∧
  (Unb par (wsOf N ps) → ∀ H', Same H H' → Q .non H') ∧ ∀ H' tk told, Same H H' → IsStrT H' tk told → Told N par (wsOf N ps) told → Q (.ref tk) H'
theorem ok_bar (T : Txt K mg C) (G_check_web : OkF P w K mg base "check_web" ["thing"] 1 (spCheckWeb C)) (G_check_piles : OkF P w K mg base "check_piles" ["web", "piles"] 2 (spCheckPiles C)) (G_whom_of : OkF P w K mg base "whom_of" ["web"] 1 (spWhomOf C))
    (G_words_of : OkF P w K mg base "words_of" ["web", "piles"] 2 (spWordsOf C)) (G_bar_by : OkF P w K mg base "bar_by" ["whom", "words"] 3 spBarBy) (D : Df K mg "bar" s_bar) : OkF P w K mg base "bar" ["web", "piles"] 4 (spBar C) := by
  obtain ⟨f, fd, F, g⟩ := D
  refine ⟨f, fd, g, F.kp, F.binds (ps := ["web", "piles"]) fun _ _ _ _ _ _ us hl => match us, hl with | [_, _], _ => rfl, ?_⟩
  refine F.ok sc_bar (fun vs H Q E h => ?_) (fun cdv A outer s H vs Q E hr h => ?_)
  · obtain ⟨x, N, par, r, a, ps, rfl, _⟩ := h
    rfl
  obtain ⟨x, N, par, r, a, ps, rfl, W, hx, ha, hP, kN, kT⟩ := h
  refine ⟨_, (pss_cons (ps_expr (pe_f G_check_web hr (by decide) (by rfl) (pa_cons (pv 0) pa_nil)))
  (pss_cons (ps_expr (pe_f G_check_piles hr (by decide) (by rfl) (pa_cons (pv 0) (pa_cons (pv 1) pa_nil))))
  (pss_one (ps_ret (pe_f G_bar_by hr (by decide) (by rfl) (pa_cons (pe_f G_whom_of hr (by decide) (by rfl) (pa_cons (pv 0) pa_nil)) (pa_cons (pe_f G_words_of hr (by decide) (by rfl) (pa_cons (pv 0) (pa_cons (pv 1) pa_nil))) pa_nil))))))), ?_⟩
  refine ⟨_, rfl, x, N, par, rfl, hx, ?_⟩
  refine ⟨_, rfl, _, rfl, x, N, par, r, a, ps, rfl, W, hx, ha, hP, fun H1 s1 => ?_⟩
  refine ⟨_, rfl, x, N, par, r, rfl, W, hx.same s1, fun H2 d s2 hd => ?_⟩
  have s12 := s1.trans s2
  refine ⟨_, rfl, _, rfl, x, N, par, r, a, ps, rfl, W, hx.same s12, ha.same s12, hP.1, fun H3 wd s3 _ hw => ?_⟩
  have s13 := s12.trans s3
  exact ⟨d, wd, N, par, r, _, rfl, W, hd.same s3, hw, wsOf_pl W.nd hP, fun _ h => wsOf_out h, fun U H' s' => kN U H' (s13.trans s'), fun H' tk told s' h1 h2 => kT H' tk told (s13.trans s') h1 h2⟩
/-- the words of piles that come -/
def spComing (C : Addr) : Sp := fun vs H Q _ => ∃ x N par r a ps, vs = [.ref x, .ref a] ∧ OkWeb N par r ∧ IsWeb C H x N par ∧ IsPiles1 H a ps ∧ IsPl N ps ∧ Unb par (wsOf N ps) ∧
  ∀ H' p d wd, Same H H' → H' p = some (.tup [.ref d, .ref wd]) → IsWhom H' d N par → IsWords1 H' wd N (wsOf N ps) → Q (.ref p) H'
theorem ok_coming (T : Txt K mg C) (G_bar : OkF P w K mg base "bar" ["web", "piles"] 4 (spBar C)) (G_whom_of : OkF P w K mg base "whom_of" ["web"] 1 (spWhomOf C)) (G_words_of : OkF P w K mg base "words_of" ["web", "piles"] 2 (spWordsOf C))
    (D : Df K mg "coming" s_coming) : OkF P w K mg base "coming" ["web", "piles"] 5 (spComing C) := by
  obtain ⟨f, fd, F, g⟩ := D
  refine ⟨f, fd, g, F.kp, F.binds (ps := ["web", "piles"]) fun _ _ _ _ _ _ us hl => match us, hl with | [_, _], _ => rfl, ?_⟩
  refine F.ok sc_coming (fun vs H Q E h => ?_) (fun cdv A outer s H vs Q E hr h => ?_)
  · obtain ⟨x, N, par, r, a, ps, rfl, _⟩ := h
    rfl
  obtain ⟨x, N, par, r, a, ps, rfl, W, hx, ha, hP, U, k⟩ := h
  refine ⟨_, (pss_cons (ps_set (i := 2) sc_coming.nd rfl (.inl rfl) (pe_f G_bar hr (by decide) (by rfl) (pa_cons (pv 0) (pa_cons (pv 1) pa_nil))))
  (pss_cons (ps_if (pt_cmpR op_notN (pv 2) pe_non (nomark _)) (pss_one ps_never) pss_nil)
  (pss_one (ps_ret (pe_tup (pa_cons (pe_f G_whom_of hr (by decide) (by rfl) (pa_cons (pv 0) pa_nil)) (pa_cons (pe_f G_words_of hr (by decide) (by rfl) (pa_cons (pv 0) (pa_cons (pv 1) pa_nil))) pa_nil))))))), ?_⟩
  refine ⟨_, rfl, _, rfl, x, N, par, r, a, ps, rfl, W, hx, ha, hP, fun _ H1 s1 => ?_, fun _ _ _ _ _ tb => absurd U (tb.bars W)⟩
  refine ⟨_, rfl, rfl, _, rfl, iteF ?_⟩
  refine ⟨_, rfl, x, N, par, r, rfl, W, hx.same s1, fun H2 d s2 hd => ?_⟩
  have s12 := s1.trans s2
  refine ⟨_, rfl, _, rfl, x, N, par, r, a, ps, rfl, W, hx.same s12, ha.same s12, hP.1, fun H3 wd s3 _ hw => ?_⟩
  refine ⟨by show 2 ≤ sizeLine; rw [sizeLine_eq]; omega, fun p hp => ?_⟩
  have sp := same_new hp (.tup [.ref d, .ref wd])
  exact k _ _ _ _ ((s12.trans s3).trans sp) upd_same ((hd.same s3).same sp) (hw.same sp)
end
end HW
set_option Elab.async false
set_option maxRecDepth 100000
set_option linter.all false
set_option maxHeartbeats 4000000
namespace HW
open PySem L2
/-! a for over what stands in a slot, a list or a tuple -/
section
variable {X : Cx}
theorem hu64 {A : Around} {k : Nat} (hr : Room k A) : A.units + 64 < cLine := hr.units
theorem sqL_same {K : PySem.W.Frag} {H H' : Hp} {a : Addr} {xs : List V} (h : SqL K H a xs) (s : Same H H') : SqL K H' a xs := by
  (rcases h with (h | ⟨o, h⟩) | h)
  · exact .inl (.inl (s _ _ h))
  · exact .inl (.inr ⟨o, s _ _ h⟩)
  · exact .inr h
def iSeqV (K : PySem.W.Frag) (i : Nat) : TI := fun σ H R => ∃ a, σ[i]? = some (some (.ref a)) ∧ (((∃ xs, SqL K H a xs) ∧ R (Itl K a) H) ∨ ((∃ xs, SqT K H a xs) ∧ R (Itt K a) H))
theorem pi_seqV {tg e : Expr} {i : Nat} (he : PE X e (tVar i)) : PI X tg e (iSeqV X.K i) := by
  (refine ⟨fun pins s σ H R I h => ?_⟩); obtain ⟨a, e1, h | h⟩ := h
  · exact (pi_list he).run pins s σ H R I ⟨_, e1, a, rfl, h⟩
  · exact (pi_tup he).run pins s σ H R I ⟨_, e1, a, rfl, h⟩
theorem seqV_it {K : PySem.W.Frag} {i : Nat} {a : Addr} {xs : List V} {σ : L2.St} {H0 H : Hp} {R : It → Hp → Prop} (e : σ[i]? = some (some (.ref a))) (h : SqL K H0 a xs ∨ SqT K H0 a xs) (s0 : Same H0 H)
    (k : ∀ J (G : Hp → Prop), Walk J xs.length G (YAt xs) → (∀ H', Same H0 H' → G H') → R J H) : iSeqV K i σ H R := by
  refine ⟨a, e, ?_⟩
  rcases h with h | h
  · exact .inl ⟨⟨_, sqL_same h s0⟩, k _ _ walk_list fun H' s => sqL_same h s⟩
  · exact .inr ⟨⟨_, Same.tupT s0 h⟩, k _ _ walk_tup fun H' s => Same.tupT s h⟩
theorem seqV_for {K : PySem.W.Frag} {i : Nat} {a : Addr} {xs : List V} {σ : L2.St} {H0 H : Hp} {g : TG} {tb : TS} {D : Ends} (e : σ[i]? = some (some (.ref a))) (h : SqL K H0 a xs ∨ SqT K H0 a xs) (s0 : Same H0 H)
    (k : ∀ J (G : Hp → Prop), Walk J xs.length G (YAt xs) → (∀ H', Same H0 H' → G H') → ∃ W : Nat → Nat → L2.St → Hp → Prop, (∃ m, W 0 m σ H) ∧ ∀ i m σ H, W i m σ H →
      (J.stop i H ∧ D.nx σ H) ∨ (J.go i H ∧ ∃ N : L2.St → Hp → Prop, (∀ σ' H', N σ' H' → ∃ m', m' < m ∧ W (i + 1) m' σ' H') ∧ ∀ x H', J.yld i H x H' → g x σ H' fun σ2 H2 => tb { D with nx := N, ct := N, bk := D.nx } σ2 H2)) : tFor (iSeqV K i) g tb D σ H :=
  seqV_it (R := fun J H1 => ∃ W : Nat → Nat → L2.St → Hp → Prop, (∃ m, W 0 m σ H1) ∧ ∀ i m σ H, W i m σ H → (J.stop i H ∧ D.nx σ H) ∨ (J.go i H ∧ ∃ N : L2.St → Hp → Prop, (∀ σ' H', N σ' H' → ∃ m', m' < m ∧ W (i + 1) m' σ' H') ∧ ∀ x H', J.yld i H x H' → g x σ H' fun σ2 H2 => tb { D with nx := N, ct := N, bk := D.nx } σ2 H2)) e h s0 k
end
section
variable {P : Program} {w : World} {K : PySem.W.Frag} {mg : Str → Option Value} {base : Heap} {C : Addr}
def spThrough : Sp := fun vs H Q _ => ∃ d N par r x p, vs = [.ref d, .str x, .str p] ∧ OkWeb N par r ∧ IsWhom H d N par ∧ x ∈ N ∧ x ≠ p ∧ Up par x p ∧ ∀ b, par b = some p → Up par x b → Q (.str b) H
theorem ok_through (T : Txt K mg C) (D : Df K mg "through" s_through) : OkF P w K mg base "through" ["whom", "name", "place"] 1 spThrough := by
  obtain ⟨f, fd, F, g⟩ := D
  refine ⟨f, fd, g, F.kp, F.binds (ps := ["whom", "name", "place"]) fun _ _ _ _ _ _ us hl => match us, hl with | [_, _, _], _ => rfl, ?_⟩
  refine F.ok sc_through (fun vs H Q E h => ?_) (fun cdv A outer s H vs Q E hr h => ?_)
  · obtain ⟨d, N, par, r, x, p, rfl, _⟩ := h
    rfl
  obtain ⟨d, N, par, r, x, p, rfl, W, hd, hx, hne, hup, k⟩ := h
  refine ⟨_, (pss_cons (ps_while PassesOwn.never (pt_cmpR op_ne (pe_dget (hu_of hr) (pv 0) (pv 1) (fun _ _ => rfl)) (pv 2) (nomark _))
  (pss_one (ps_set (i := 1) sc_through.nd rfl (.inl rfl) (pe_dget (hu_of hr) (pv 0) (pv 1) (fun _ _ => rfl)))))
  (pss_one (ps_ret (pv 1)))), ?_⟩
  refine ⟨fun m σ H' => H' = H ∧ ∃ y, σ = [some (.ref d), some (.str y), some (.str p)] ∧ y ∈ N ∧ Up par x y ∧ Up par y p ∧ y ≠ p ∧ m = r y, ⟨_, rfl, x, rfl, hx, .refl _, hup, hne, rfl⟩, ?_⟩
  rintro m σ H' ⟨rfl, y, rfl, hy, hxy, hyp, hn, rfl⟩
  obtain ⟨q, hq, hqp⟩ := hyp.head hn
  have gd := hd.get hy
  rw [hq] at gd
  refine ⟨_, rfl, _, rfl, d, _, rfl, gd, _, rfl, rfl, _, rfl, ?_⟩
  by_cases e : q = p
  · subst e
    refine iteNF rfl ⟨_, rfl, k _ hq hxy⟩
  · refine iteNT (fun z => e (V.str.inj z)) ?_
    refine ⟨fun σ' H'' => H'' = H' ∧ ∃ y', σ' = [some (.ref d), some (.str y'), some (.str p)] ∧ y' ∈ N ∧ Up par x y' ∧ Up par y' p ∧ y' ≠ p ∧ r y' < r y, fun σ' H'' ⟨h1, y', h2, h3, h4, h5, h6, h7⟩ => ⟨_, h7, h1, y', h2, h3, h4, h5, h6, rfl⟩, ?_⟩
    refine ⟨_, rfl, _, rfl, d, _, rfl, gd, rfl, q, rfl, (W.pin _ _ hq).2, hxy.trans (.one hq), hqp, e, W.rk _ _ hq⟩
/-- a word cut into parts -/
def Parts (par : Str → Option Str) (p : Str) (w : List Str) (prs : List (Str × List Str)) : Prop := (prs.map (·.2)).flatten = w ∧ ∀ bp ∈ prs, par bp.1 = some p ∧ bp.2 ≠ [] ∧ ∀ x ∈ bp.2, Up par x bp.1
def IsParts (H : Hp) (f : Addr) (prs : List (Str × List Str)) : Prop := ∃ tl : List (Addr × Addr), H f = some (.lst (tl.map fun z => V.ref z.1)) ∧ (tl.map (·.2)).Nodup ∧
  Paired (fun z bp => H z.1 = some (.tup [V.str bp.1, V.ref z.2]) ∧ H z.2 = some (.lst (bp.2.map V.str))) tl prs
def dPt (bp : Str × List Str) : PyData := .tuple [.str bp.1, dL bp.2]
theorem dPt_shaped {prs : List (Str × List Str)} (h : ∀ bp ∈ prs, SO bp.1 ∧ ∀ x ∈ bp.2, SO x) : SeqAt.shaped (.list (prs.map dPt)) = true := by
  have a : PyData.canLayAll0 (prs.map dPt) = true := by
    induction prs with
    | nil => rfl
    | cons x l ih =>
      show ((PyData.strOk x.1 && (PyData.canLayAll0 (x.2.map .str) && true)) && PyData.canLayAll0 (l.map dPt)) = true
      rw [(h x List.mem_cons_self).1, str_can (h x List.mem_cons_self).2, ih fun y hy => h y (List.mem_cons_of_mem _ hy)]
      rfl
  have b : PyData.depthAll (prs.map dPt) ≤ 2 := by
    clear a h
    induction prs with
    | nil => exact Nat.zero_le _
    | cons x l ih =>
      show max (max 0 (max (PyData.depthAll (x.2.map .str) + 1) 0) + 1) (PyData.depthAll (l.map dPt)) ≤ 2
      rw [str_depth]
      omega
  exact sh a (by show PyData.depthAll (prs.map dPt) + 1 ≤ 64; omega)
theorem dp_parts {H : Hp} : ∀ {tl : List (Addr × Addr)} {prs : List (Str × List Str)}, Paired (fun z bp => H z.1 = some (.tup [V.str bp.1, V.ref z.2]) ∧ H z.2 = some (.lst (bp.2.map V.str))) tl prs → DpAll K H (tl.map fun z => V.ref z.1) (prs.map dPt)
  | _, _, .nil => .nil
  | _, _, .cons h t => .cons (.tup (SqT.of h.1) (.cons (.str _) (.cons (dp_L (SqL.of h.2)) .nil))) (dp_parts t)
theorem atI_zero {v : V} {l : List V} : atI (v :: l) 0 = some v := atN (j := 0) rfl
theorem atI_one {u v : V} {l : List V} : atI (u :: v :: l) 1 = some v := atN (j := 1) rfl
theorem paired_end {α β : Type} {F : α → β → Prop} : ∀ {l₁ : List α} {l₂ : List β} {b : β}, Paired F l₁ (l₂ ++ [b]) → ∃ l a, l₁ = l ++ [a] ∧ Paired F l l₂ ∧ F a b
  | _, [], _, .cons h .nil => ⟨[], _, rfl, .nil, h⟩
  | _, _ :: l₂, _, .cons h t => let ⟨l, a, e, p, q⟩ := paired_end (l₂ := l₂) t; ⟨_ :: l, a, by rw [e]; rfl, .cons h p, q⟩
theorem paired_with {α β : Type} {F : α → β → Prop} {G : α → Prop} : ∀ {l₁ : List α} {l₂ : List β}, Paired F l₁ l₂ → (∀ a ∈ l₁, G a) → Paired (fun a b => F a b ∧ G a) l₁ l₂
  | _, _, .nil, _ => .nil
  | _, _, .cons h t, g => .cons ⟨h, g _ List.mem_cons_self⟩ (paired_with t fun a ha => g a (List.mem_cons_of_mem _ ha))
def spPartsOf (K : PySem.W.Frag) : Sp := fun vs H Q _ => ∃ d a N par r p, ∃ w : List Str, vs = [.ref d, .ref a, .str p] ∧ OkWeb N par r ∧ IsWhom H d N par ∧ (SqL K H a (w.map V.str) ∨ SqT K H a (w.map V.str)) ∧ w.length ≤ 4 ∧ (∀ x ∈ w, x ∈ N ∧ Up par x p) ∧
  ∀ H' f prs, Same H H' → IsParts H' f prs → Parts par p (w.filter fun x => decide (x ≠ p)) prs → Q (.ref f) H'
theorem ok_parts_of (T : Txt K mg C) (G_through : OkF P w K mg base "through" ["whom", "name", "place"] 1 spThrough) (D : Df K mg "parts_of" s_parts_of) : OkF P w K mg base "parts_of" ["whom", "word", "place"] 2 (spPartsOf K) := by
  obtain ⟨f, fd, F, g⟩ := D
  refine ⟨f, fd, g, F.kp, F.binds (ps := ["whom", "word", "place"]) fun _ _ _ _ _ _ us hl => match us, hl with | [_, _, _], _ => rfl, ?_⟩
  refine F.ok sc_parts_of (fun vs H Q E h => ?_) (fun cdv A outer s H vs Q E hr h => ?_)
  · obtain ⟨d, a, N, par, r, p, wd, rfl, _⟩ := h
    rfl
  obtain ⟨d, a, N, par, r, p, wd, rfl, W, hd, ha, hlen, hin, k⟩ := h
  refine ⟨_, (C8.pss_cut (ps_set (i := 3) sc_parts_of.nd rfl (.inl rfl) (pe_lst pa_nil))
  (C8.pss_cut (ps_for PassesOwn.never rfl (pi_seqV (pv 1)) (pg_name (i := 4) sc_parts_of.nd rfl (Or.inl rfl))
  (pss_one (ps_if (pt_cmpR op_ne (pv 4) (pv 2) (nomark _)) (pss_cons (ps_set (i := 5) sc_parts_of.nd rfl (.inl rfl) (pe_f G_through hr (by decide) (by rfl) (pa_cons (pv 0) (pa_cons (pv 4) (pa_cons (pv 2) pa_nil)))))
  (C8.pss_cut (ps_if ((pw_or (pt_cmpR (op_eqD (hu64 hr)) (pv 3) (pe_lst pa_nil) (nomark _)) (pw_or1 (pt_cmpR op_ne (pe_ix ix_tup (pe_ix ix_list (pv 3) (pe_un un_neg pe_int) (fun _ _ => rfl)) pe_int (fun _ _ => rfl)) (pv 5) (nomark _))))).pt (pss_one (ps_expr (pe_bm PySem.F.plainAttrs_list PySem.F.slot_list_append PySem.F.type_list_append mt_append (pv 3) (pa_cons (pe_tup (pa_cons (pv 5) (pa_cons (pe_lst pa_nil) pa_nil))) pa_nil)))) pss_nil)
  (pss_one (ps_expr (pe_bm PySem.F.plainAttrs_list PySem.F.slot_list_append PySem.F.type_list_append mt_append (pe_ix ix_tup (pe_ix ix_list (pv 3) (pe_un un_neg pe_int) (fun _ _ => rfl)) pe_int (fun _ _ => rfl)) (pa_cons (pv 4) pa_nil)))))) pss_nil)))
  (pss_one (ps_ret (pv 3))))), ?_⟩
  refine ⟨fun σ' H' => ∃ f, H f = none ∧ H' = upd H f (.lst []) ∧ σ' = [some (.ref d), some (.ref a), some (.str p), some (.ref f), none, none], ⟨Nat.zero_le _, fun f hf => ⟨f, hf, rfl, rfl⟩⟩, ?_⟩
  rintro σ0 H0 ⟨f, hf, rfl, rfl⟩
  have s1 := same_new hf (.lst [])
  refine ⟨fun σ' H' => Same H H' ∧ ∃ prs o1 o2, IsParts H' f prs ∧ Parts par p (wd.filter fun x => decide (x ≠ p)) prs ∧ σ' = [some (.ref d), some (.ref a), some (.str p), some (.ref f), o1, o2], ?_, ?_⟩
  rotate_left
  · rintro σ' H' ⟨s2, prs, o1, o2, hI, hP, rfl⟩
    exact ⟨_, rfl, k _ _ prs s2 hI hP⟩
  refine seqV_for (a := a) (xs := wd.map V.str) rfl ha s1 fun J Gd wk hG => ?_
  let F : Hp → (Addr × Addr) → (Str × List Str) → Prop := fun Hx z bp => Hx z.1 = some (.tup [V.str bp.1, V.ref z.2]) ∧ Hx z.2 = some (.lst (bp.2.map V.str))
  have hsingle : ∀ {i : Nat} {x : Str}, wd[i]? = some x → (wd.take (i + 1)).filter (fun x => decide (x ≠ p)) = (wd.take i).filter (fun x => decide (x ≠ p)) ++ (if x = p then [] else [x]) := fun {i x} hx => by
    rw [take_snoc hx, List.filter_append]
    congr 1
    by_cases e : x = p
    · rw [if_pos e, List.filter_cons, if_neg (by simp [e])]; rfl
    · rw [if_neg e, List.filter_cons, if_pos (by simp [e])]; rfl
  refine for_it wk (fun i σ H' => Same H H' ∧ ∃ prs, (∃ tl : List (Addr × Addr), H' f = some (.lst (tl.map fun z => V.ref z.1)) ∧ (tl.map (·.2)).Nodup ∧ (∀ z ∈ tl, H z.2 = none ∧ z.2 ≠ f) ∧ Paired (F H') tl prs) ∧
    Parts par p ((wd.take i).filter fun x => decide (x ≠ p)) prs ∧ prs.length ≤ i ∧ ∃ o1 o2, σ = [some (.ref d), some (.ref a), some (.str p), some (.ref f), o1, o2]) ?_ (fun i σ H' _ q => hG H' q.1) ?_ ?_
  · exact ⟨s1, [], ⟨[], upd_same, List.nodup_nil, (by simp), .nil⟩, ⟨rfl, by simp⟩, Nat.le_refl _, _, _, rfl⟩
  · rintro i v σ H' H'' hi ⟨s2, prs, ⟨tls, hf2, hnd, hfr, hpr⟩, ⟨hfl, hgood⟩, hl, o1, o2, rfl⟩ ⟨rfl, hv⟩
    rw [List.getElem?_map] at hv
    obtain ⟨x, hx, rfl⟩ := Option.map_eq_some_iff.mp hv
    rw [List.length_map] at hi
    obtain ⟨hxN, hxu⟩ := hin x (List.mem_of_getElem? hx)
    refine ⟨_, rfl, _, rfl, rfl, _, rfl, ?_⟩
    by_cases exp : x = p
    · refine iteNF (by rw [exp]) ⟨s2, prs, ⟨tls, hf2, hnd, hfr, hpr⟩, ?_, by omega, _, _, rfl⟩
      rw [hsingle hx, if_pos exp, List.append_nil]
      exact ⟨hfl, hgood⟩
    refine iteNT (fun z => exp (V.str.inj z)) ?_
    refine ⟨_, rfl, _, rfl, _, rfl, d, N, par, r, x, p, rfl, W, hd.same s2, hxN, exp, hxu, fun b hb hxb => ?_⟩
    refine ⟨fun σ' H2 => Same H H2 ∧ ∃ (tl0 : List (Addr × Addr)) (z : Addr × Addr) (prs0 : List (Str × List Str)) (part : List Str), H2 f = some (.lst ((tl0 ++ [z]).map fun z => V.ref z.1)) ∧ ((tl0 ++ [z]).map (·.2)).Nodup ∧ (∀ y ∈ tl0 ++ [z], H y.2 = none ∧ y.2 ≠ f) ∧ Paired (F H2) tl0 prs0 ∧
      H2 z.1 = some (.tup [V.str b, V.ref z.2]) ∧ H2 z.2 = some (.lst (part.map V.str)) ∧ (prs0.map (·.2)).flatten ++ part = (wd.take i).filter (fun x => decide (x ≠ p)) ∧ (∀ bp ∈ prs0, par bp.1 = some p ∧ bp.2 ≠ [] ∧ ∀ x ∈ bp.2, Up par x bp.1) ∧ (∀ x ∈ part, Up par x b) ∧ prs0.length ≤ i ∧
      σ' = [some (.ref d), some (.ref a), some (.str p), some (.ref f), some (.str x), some (.str b)], ?_, ?_⟩
    · refine ⟨_, rfl, Nat.zero_le _, fun e he => ?_⟩
      have se := same_new he (.lst [])
      have s3 := s2.trans se
      have hf3 := se _ _ hf2
      have hpr3 : Paired (F (upd H'' e (.lst []))) tls prs := paired_mono hpr fun z bp q => ⟨se _ _ q.1, se _ _ q.2⟩
      have so : ∀ bp ∈ prs, SO bp.1 ∧ ∀ x ∈ bp.2, SO x := fun bp hbp => by
        obtain ⟨g1, _, g3⟩ := hgood bp hbp
        have hN : bp.1 ∈ N := (W.pin _ _ g1).1
        refine ⟨(W.ok _ hN).so, fun y hy => (W.ok y ?_).so⟩
        have : y ∈ (wd.take i).filter (fun x => decide (x ≠ p)) := by rw [← hfl]; exact List.mem_flatten.mpr ⟨bp.2, List.mem_map_of_mem hbp, hy⟩
        exact (hin y (List.mem_of_mem_take (List.mem_filter.mp this).1)).1
      refine ⟨.list (prs.map dPt), .list [], .lst (SqL.of hf3) (dp_parts hpr3), dp_nil (SqL.of upd_same), dPt_shaped so, nil_shaped, _, rfl, ?_⟩
      rw [eqv_nil]
      have add : ∀ {H3 : Hp}, Same H H3 → Same H'' H3 → tBM K "list" rAppend (tVar 3) (tCons (tTup (tCons (tVar 5) (tCons (tLst tNil) tNil))) tNil) [some (.ref d), some (.ref a), some (.str p), some (.ref f), some (.str x), some (.str b)] H3 fun _ H2 => Same H H2 ∧ ∃ (tl0 : List (Addr × Addr)) (z : Addr × Addr) (prs0 : List (Str × List Str)) (part : List Str), H2 f = some (.lst ((tl0 ++ [z]).map fun z => V.ref z.1)) ∧ ((tl0 ++ [z]).map (·.2)).Nodup ∧ (∀ y ∈ tl0 ++ [z], H y.2 = none ∧ y.2 ≠ f) ∧ Paired (F H2) tl0 prs0 ∧
          H2 z.1 = some (.tup [V.str b, V.ref z.2]) ∧ H2 z.2 = some (.lst (part.map V.str)) ∧ (prs0.map (·.2)).flatten ++ part = (wd.take i).filter (fun x => decide (x ≠ p)) ∧ (∀ bp ∈ prs0, par bp.1 = some p ∧ bp.2 ≠ [] ∧ ∀ x ∈ bp.2, Up par x bp.1) ∧ (∀ x ∈ part, Up par x b) ∧ prs0.length ≤ i ∧
          ([some (.ref d), some (.ref a), some (.str p), some (.ref f), some (.str x), some (.str b)] : L2.St) = [some (.ref d), some (.ref a), some (.str p), some (.ref f), some (.str x), some (.str b)] := by
        intro H3 sH sH'
        have hfx := sH' _ _ hf2
        refine ⟨_, rfl, .inl ⟨rfl, _, SqL.of hfx⟩, _, rfl, Nat.zero_le _, fun l hln => ⟨by show 2 ≤ sizeLine; rw [sizeLine_eq]; omega, fun t ht => ?_⟩⟩
        have sl := same_new hln (.lst [])
        have st := same_new ht (.tup [V.str b, V.ref l])
        have lne : l ≠ f := fun z => by rw [z, hfx] at hln; cases hln
        have tne : t ≠ f := fun z => by rw [z, sl _ _ hfx] at ht; cases ht
        refine ⟨f, _, _, rfl, rfl, st _ _ (sl _ _ hfx), ?_, same_upd ((sH.trans sl).trans st) hf, tls, (t, l), prs, [], ?_, ?_, ?_, ?_, ?_, ?_, ?_, hgood, (by simp), hl, rfl⟩
        · rw [List.length_map, Paired.length hpr]
          exact small4 (by omega)
        · rw [upd_same, List.map_append]; rfl
        · (rw [List.map_append, List.nodup_append]); refine ⟨hnd, by simp, fun u hu v hv e => ?_⟩
          obtain ⟨y, hy, rfl⟩ := List.mem_map.mp hu
          have hv' : v = l := List.mem_singleton.mp hv
          obtain ⟨j, hj, ej⟩ := List.mem_iff_getElem.mp hy
          obtain ⟨bp, _, hF⟩ := paired_getL hpr (List.getElem?_eq_getElem hj)
          rw [ej] at hF
          have h2 := sH' _ _ hF.2
          rw [e, hv', hln] at h2
          cases h2
        · intro y hy
          rcases List.mem_append.mp hy with h | h
          · exact hfr y h
          · rw [List.mem_singleton.mp h]
            refine ⟨?_, lne⟩
            cases e : H l with
            | none => rfl
            | some u => rw [sH _ _ e] at hln; cases hln
        · refine paired_mono (paired_with hpr hfr) fun z bp q => ?_
          obtain ⟨⟨q1, q2⟩, q3⟩ := q
          refine ⟨?_, ?_⟩
          · rw [upd_ne (fun e => by rw [e, hf2] at q1; cases q1)]
            exact st _ _ (sl _ _ (sH' _ _ q1))
          · rw [upd_ne q3.2]
            exact st _ _ (sl _ _ (sH' _ _ q2))
        · rw [upd_ne tne]; exact upd_same
        · rw [upd_ne lne]; exact st _ _ upd_same
        · rw [List.append_nil]; exact hfl
      by_cases hnil : prs = []
      · rw [decide_eq_true hnil]
        exact iteT (iteT (add s3 se))
      · rw [decide_eq_false hnil]
        refine iteF ?_
        obtain ⟨prs0, bp, rfl⟩ : ∃ l a, prs = l ++ [a] := ⟨_, _, (List.dropLast_concat_getLast hnil).symm⟩
        obtain ⟨tl0, z, rfl, hp0, hz⟩ := paired_end hpr
        have hat : atI ((tl0 ++ [z]).map fun z => V.ref z.1) (-1) = some (V.ref z.1) := by
          rw [List.map_append]; exact atI_last _ _
        refine ⟨_, rfl, _, rfl, f, _, _, _, rfl, rfl, SqL.of hf3, hat, z.1, _, _, _, rfl, rfl, SqT.of (se _ _ hz.1), atI_zero, _, rfl, rfl, _, rfl, ?_⟩
        by_cases eb : bp.1 = b
        · refine iteNF (by rw [eb]) ?_
          refine ⟨s3, tl0, z, prs0, bp.2, hf3, hnd, hfr, paired_mono hp0 fun z bp q => ⟨se _ _ q.1, se _ _ q.2⟩, by rw [← eb]; exact se _ _ hz.1, se _ _ hz.2, ?_, fun bp' h' => hgood bp' (List.mem_append_left _ h'), ?_, ?_, rfl⟩
          · rw [← hfl, List.map_append, List.flatten_append]
            simp
          · intro y hy
            rw [← eb]
            exact (hgood bp (List.mem_append_right _ (List.mem_singleton_self _))).2.2 y hy
          · rw [List.length_append] at hl; omega
        · refine iteNT (fun e => eb (V.str.inj e)) ?_
          exact add s3 se
    · rintro σ' H2 ⟨s3, tl0, z, prs0, part, hf3, hnd3, hfr3, hp3, hz1, hz2, hfl3, hg3, hpt, hl3, rfl⟩
      have hat : atI ((tl0 ++ [z]).map fun z => V.ref z.1) (-1) = some (V.ref z.1) := by
        rw [List.map_append]; exact atI_last _ _
      have hzin := hfr3 z (List.mem_append_right _ (List.mem_singleton_self _))
      have len : part.length ≤ 4 := by
        have h1 : ((prs0.map (·.2)).flatten ++ part).length ≤ 4 := by
          rw [hfl3]
          exact Nat.le_trans (List.length_filter_le _ _) (Nat.le_trans (List.length_take_le' _ _) hlen)
        rw [List.length_append] at h1; omega
      refine ⟨_, rfl, _, rfl, f, _, _, _, rfl, rfl, SqL.of hf3, hat, z.1, _, _, _, rfl, rfl, SqT.of hz1, atI_one, .inl ⟨rfl, _, SqL.of hz2⟩, _, rfl, z.2, _, _, rfl, rfl, hz2, by rw [List.length_map]; exact small4 len, same_upd s3 hzin.1, prs0 ++ [(b, part ++ [x])], ⟨tl0 ++ [z], ?_, hnd3, hfr3, ?_⟩, ⟨?_, ?_⟩, ?_, _, _, rfl⟩
      · rw [upd_ne (Ne.symm hzin.2)]; exact hf3
      · have nd2 := hnd3
        rw [List.map_append, List.nodup_append] at nd2
        refine paired_snoc (paired_mono (paired_with hp3 (fun y hy => (nd2.2.2 y.2 (List.mem_map_of_mem hy) z.2 (List.mem_singleton_self _)))) fun y bp q => ?_) ⟨?_, ?_⟩
        · obtain ⟨⟨q1, q2⟩, q3⟩ := q
          refine ⟨?_, ?_⟩
          · rw [upd_ne (fun e => by rw [e, hz2] at q1; cases q1)]; exact q1
          · rw [upd_ne q3]; exact q2
        · rw [upd_ne (fun e => by rw [e, hz2] at hz1; cases hz1)]; exact hz1
        · rw [upd_same, List.map_append]; rfl
      · rw [hsingle hx, if_neg exp, List.map_append, List.flatten_append, ← hfl3]
        simp
      · intro bp hbp
        rcases List.mem_append.mp hbp with h | h
        · exact hg3 bp h
        · rw [List.mem_singleton.mp h]
          refine ⟨hb, by simp, fun y hy => ?_⟩
          rcases List.mem_append.mp hy with h | h
          · exact hpt y h
          · rw [List.mem_singleton.mp h]; exact hxb
      · (rw [List.length_append, List.length_singleton]; omega)
  · rintro σ H' ⟨s2, prs, ⟨tls, hf2, hnd, hfr, hpr⟩, hP, hl, o1, o2, rfl⟩
    rw [List.length_map, List.take_length] at hP
    exact ⟨s2, prs, o1, o2, ⟨tls, hf2, hnd, hpr⟩, hP, rfl⟩
end
end HW
set_option Elab.async false
set_option maxRecDepth 100000
set_option linter.all false
set_option maxHeartbeats 4000000
namespace HW
open PySem L2
section
variable {P : Program} {w : World} {K : PySem.W.Frag} {mg : Str → Option Value} {base : Heap} {C : Addr}
def spGathered (K : PySem.W.Frag) (n : Nat) : Sp := fun vs H Q _ => ∃ d a N par r p, ∃ w : List Str, vs = [.ref d, .ref a, .str p] ∧ OkWeb N par r ∧ IsWhom H d N par ∧ p ∈ N ∧ 4 ≤ r p + n ∧ (SqL K H a (w.map V.str) ∨ SqT K H a (w.map V.str)) ∧ w.length ≤ 4 ∧ (∀ x ∈ w, x ∈ N ∧ Up par x p) ∧
  ∀ H' l cs, Same H H' → IsStrs H' l cs → Gath par p (w.filter fun x => decide (x ≠ p)) cs → cs.length ≤ w.length * n → Q (.ref l) H'
theorem len_step {F Q n a b : Nat} (h1 : a ≤ F * (n + 1)) (h2 : b ≤ Q * n) (h3 : 1 ≤ Q) : a + b + 1 ≤ (F + Q) * (n + 1) := by
  rw [Nat.add_mul, Nat.mul_succ Q n]
  omega
theorem ok_gathered (T : Txt K mg C) (G_parts_of : OkF P w K mg base "parts_of" ["whom", "word", "place"] 2 (spPartsOf K)) (D : Df K mg "gathered" s_gathered) : ∀ n, n ≤ 4 → OkF P w K mg base "gathered" ["whom", "word", "place"] (3 + n) (spGathered K n) := by
  intro n
  induction n with
  | zero =>
    intro _
    obtain ⟨f, fd, F, g⟩ := D
    refine ⟨f, fd, g, F.kp, F.binds (ps := ["whom", "word", "place"]) fun _ _ _ _ _ _ us hl => match us, hl with | [_, _, _], _ => rfl, ?_⟩
    refine F.ok sc_gathered (fun vs H Q E h => ?_) (fun cdv A outer s H vs Q E hr h => ?_)
    · obtain ⟨d, a, N, par, r, p, wd, rfl, _⟩ := h
      rfl
    · obtain ⟨d, a, N, par, r, p, wd, rfl, W, hd, hp, h4, _⟩ := h
      have := W.rb p hp
      have := W.n4
      omega
  | succ n ih =>
    intro hn4
    have G_gathered := ih (by omega)
    obtain ⟨f, fd, F, g⟩ := D
    refine ⟨f, fd, g, F.kp, F.binds (ps := ["whom", "word", "place"]) fun _ _ _ _ _ _ us hl => match us, hl with | [_, _, _], _ => rfl, ?_⟩
    refine F.ok (k := 3 + n) sc_gathered (fun vs H Q E h => ?_) (fun cdv A outer s H vs Q E hr h => ?_)
    · obtain ⟨d, a, N, par, r, p, wd, rfl, _⟩ := h
      rfl
    obtain ⟨d, a, N, par, r, p, wd, rfl, W, hd, hp, h4, ha, hlen, hin, k⟩ := h
    refine ⟨_, (pss_cons (ps_set (i := 3) sc_gathered.nd rfl (.inl rfl) (pe_lst pa_nil))
  (pss_cons (ps_for PassesOwn.never rfl (pi_list (pe_f G_parts_of hr (by omega) (by rfl) (pa_cons (pv 0) (pa_cons (pv 1) (pa_cons (pv 2) pa_nil))))) (pg_tup rfl (pgs_cons (pg_name (i := 4) sc_gathered.nd rfl (Or.inl rfl)) (pgs_cons (pg_name (i := 5) sc_gathered.nd rfl (Or.inl rfl)) pgs_nil)))
  (pss_one (ps_set (i := 3) sc_gathered.nd rfl (.inl rfl) (pe_op op_cat (pe_op op_cat (pv 3) (pe_f G_gathered hr (by omega) (by rfl) (pa_cons (pv 0) (pa_cons (pv 5) (pa_cons (pv 4) pa_nil))))) (pe_lst (pa_cons (pv 4) pa_nil))))))
  (pss_one (ps_ret (pv 3))))), ?_⟩
    refine ⟨Nat.zero_le _, fun l0 hl0 => ?_⟩
    have s0 := same_new hl0 (.lst [])
    refine ⟨_, rfl, _, rfl, _, rfl, d, a, N, par, r, p, wd, rfl, W, hd.same s0, ha.imp (fun h => sqL_same h s0) (fun h => Same.tupT s0 h), hlen, hin, fun H1 f prs s1 ⟨tls, hf, hnd, hpr⟩ ⟨hfl, hgood⟩ => ?_⟩
    have s01 := s0.trans s1
    refine ⟨f, rfl, ⟨_, SqL.of hf⟩, ?_⟩
    have total : ((prs.map (·.2)).flatten).length ≤ wd.length := by rw [hfl]; exact List.length_filter_le _ _
    have part_le : ∀ i, (((prs.take i).map (·.2)).flatten).length ≤ ((prs.map (·.2)).flatten).length := fun i => by
      have e : prs = prs.take i ++ prs.drop i := (List.take_append_drop i prs).symm
      have e2 : (prs.map (·.2)).flatten = ((prs.take i).map (·.2)).flatten ++ ((prs.drop i).map (·.2)).flatten := by
        rw [← List.flatten_append, ← List.map_append, ← e]
      rw [e2, List.length_append]
      omega
    refine for_list (xs := tls.map fun z => V.ref z.1) (fun i σ H' => Same H1 H' ∧ ∃ l cs, IsStrs H' l cs ∧ Gath par p ((prs.take i).map (·.2)).flatten cs ∧ cs.length ≤ (((prs.take i).map (·.2)).flatten).length * (n + 1) ∧ ∃ o1 o2, σ = [some (.ref d), some (.ref a), some (.str p), some (.ref l), o1, o2]) ⟨Same.refl _, l0, [], s1 _ _ upd_same, .nil p, Nat.zero_le _, _, _, rfl⟩ (fun i σ H' _ q => SqL.of (q.1 _ _ hf)) ?_ ?_
    · rintro i v σ H' hi ⟨s2, l, cs, hL, hG, hcl, o1, o2, rfl⟩
      rw [List.getElem?_map] at hi
      obtain ⟨z, hz, rfl⟩ := Option.map_eq_some_iff.mp hi
      obtain ⟨⟨b, part⟩, hbp, hz1, hz2⟩ := paired_getL hpr hz
      obtain ⟨g1, g2, g3⟩ := hgood _ (List.mem_of_getElem? hbp)
      have hbN : b ∈ N := (W.pin _ _ g1).1
      have hsub : ∀ x ∈ part, x ∈ wd := fun x hx => by
        have : x ∈ (prs.map (·.2)).flatten := List.mem_flatten.mpr ⟨part, List.mem_map.mpr ⟨_, List.mem_of_getElem? hbp, rfl⟩, hx⟩
        rw [hfl] at this
        exact (List.mem_filter.mp this).1
      have esn : ((prs.take (i + 1)).map (·.2)).flatten = ((prs.take i).map (·.2)).flatten ++ part := by
        rw [take_snoc hbp, List.map_append, List.flatten_append]; simp
      have pl := part_le (i + 1)
      rw [esn, List.length_append] at pl
      refine ⟨z.1, _, rfl, SqT.of (s2 _ _ hz1), rfl, _, _, rfl, _, _, rfl, rfl, ?_⟩
      refine ⟨_, rfl, _, rfl, _, rfl, _, rfl, d, z.2, N, par, r, b, part, rfl, W, hd.same (s01.trans s2), hbN, ?_, .inl (SqL.of (s2 _ _ hz2)), by omega, fun x hx => ⟨(hin x (hsub x hx)).1, g3 x hx⟩, fun H3 l1 cs1 s3 hL1 hG1 hcl1 => ?_⟩
      · have := W.rk b p g1; omega
      have h1 : 1 ≤ part.length := by
        cases part with
        | nil => exact absurd rfl g2
        | cons _ _ => simp
      have bnd := len_step hcl hcl1 h1
      have bnd2 : (((prs.take i).map (·.2)).flatten.length + part.length) * (n + 1) ≤ 4 * 4 := Nat.mul_le_mul (by omega) (by omega)
      have hl3 := s3 _ _ hL
      refine ⟨l, l1, _, _, rfl, rfl, hl3, hL1, ?_, fun q hq => ⟨_, rfl, one_le, fun e he => ?_⟩⟩
      · rw [List.length_map, List.length_map, sizeLine_eq]; omega
      have sq := same_new hq (.lst (cs.map V.str ++ cs1.map V.str))
      have se := same_new he (.lst [V.str b])
      refine ⟨q, e, _, _, rfl, rfl, se _ _ upd_same, upd_same, ?_, fun u hu => ?_⟩
      · rw [List.length_append, List.length_map, List.length_map, sizeLine_eq]
        show _ + 1 ≤ _
        omega
      have su := same_new hu (.lst (cs.map V.str ++ cs1.map V.str ++ [V.str b]))
      refine ⟨(((s2.trans s3).trans sq).trans se).trans su, u, cs ++ cs1 ++ [b], ?_, ?_, ?_, _, _, rfl⟩
      · show upd _ u _ u = _
        rw [upd_same, List.map_append, List.map_append]; rfl
      · rw [esn]
        exact .snoc hG g1 g2 g3 hG1
      · rw [esn, List.length_append, List.length_append, List.length_append, List.length_singleton]
        exact bnd
    · rintro σ H' ⟨s2, l, cs, hL, hG, hcl, o1, o2, rfl⟩
      rw [List.length_map, Paired.length hpr, List.take_length, hfl] at hG hcl
      refine ⟨_, rfl, k _ _ cs (s01.trans s2) hL hG (Nat.le_trans hcl (Nat.mul_le_mul_right _ (List.length_filter_le _ _)))⟩
end
end HW
set_option Elab.async false
set_option maxRecDepth 100000
set_option linter.all false
set_option maxHeartbeats 4000000
/-! sorted(d, key=lambda x: (int, x)): a lambda of one parameter with captured names -/
namespace HW
open LamX L2 PyProof.Rows PySem PySem.Spec
/-- one parameter x of its own, captured names, globals -/
structure Lam1 (sc scope : Scope) (x : Str) : Prop where
  kind : scope.kind = .function
  (co : scope.isCoroutine = false)
  (gen : scope.isGenerator = false)
  par : scope.names.lookup x = some .local
  own : ∀ y ∈ scope.names, y.2 ≠ .cell ∧ (y.2 = .local → y.1 = x)
  (free : ∀ y ∈ scope.names, y.2 = .free → sc.names.lookup y.1 = some .cell ∨ sc.names.lookup y.1 = some .free)
theorem Lam1.has {X : Cx} {scope : Scope} {x : Str} (L : Lam1 X.env.scope scope x) (ok : X.Ok) : ∀ y ∈ scope.names, y.2 = .free → ∃ c, X.env.cells.lookup y.1 = some c := fun y hy e =>
  (L.free y hy e).elim (fun k => ok.has _ (.inl k)) fun k => ok.has _ (.inr k)
section
variable {s : Shared} {H : Hp} {σ : L2.St} {pins : List (Addr × Obj)} {X : Cx}
theorem lam_in {A : Around} {E : XK} {scope : Scope} {x : Str} {j : Nat} {f c' : Addr} {hh : Heap} {tk : Nat} {u : Value} {v : V} (I : Inv X pins σ H s) (L : Lam1 X.env.scope scope x) (hj : X.N[j]? = some x) (nd : X.N.Nodup) (hlen : j < σ.length) (ru : RelV v u)
    (e0 : Env0 X.prog X.w X.K X.mg X.base A X.stack s H) (hd : A.handled = none) (hns : hh.Ns s.heap.objs.size fun y => ([(x, u)] : List (Str × Value)).reverse.lookup y) (kp : ∀ b o, s.heap.get? b = some o → hh.get? b = some o) :
    Inv (lamCx X A X.stack s H E scope f c') [] (σ.set j (some v)) H { s with heap := hh, toks := tk } := by
  have has := L.has I.ok
  have old : ∀ {y c}, (cloFrom X.env.cells scope.names []).lookup y = some c → X.env.cells.lookup y = some c := fun {y c} e => by
    (rcases cloFrom_mem (PySem.mem_of_lookup e) with hm | ⟨h1, h2⟩)
    · exact absurd hm (by simp)
    · obtain ⟨c1, hc⟩ := has _ h1 rfl
      have hc2 : X.env.cells.lookup y = some c1 := hc
      rw [h2, hc2]
      rfl
  have got : ∀ {y}, scope.names.lookup y = some .free → ∃ c, (cloFrom X.env.cells scope.names []).lookup y = some c := fun {y} hl =>
    mem_lookup (cloFrom_has (cells := X.env.cells) (acc := []) (show (y, NameKind.free) ∈ scope.names from PySem.mem_of_lookup hl))
  have isc : ∀ {c : Addr} {w : Option Value}, s.heap.IsCell c w → hh.IsCell c w := fun {c w} ⟨o, ho, q⟩ => ⟨o, kp _ _ ho, q⟩
  have nil_ex : ∀ b : Addr, b ∉ (lamCx X A X.stack s H E scope f c').ex := fun b z => absurd (show b ∈ ([] : List Addr) from z) (by simp)
  refine ⟨⟨e0.mod, L.kind, rfl, rfl, Nat.le_refl _, fun y z c e1 e2 => I.ok.inj y z c (old e1) (old e2), fun y hy => ?_, fun y c z _ => ?_, fun _ => hd, Around.frames_deeper e0.frames, .inr ⟨rfl, rfl⟩, fun b z => absurd z (nil_ex b), e0.bs, e0.bsz, fun b _ _ => nil_ex b,
      fun b z => absurd z (nil_ex b), e0.funs, e0.frf⟩,
    rfl, e0.bare, Un.kept kp, ⟨_, hns, fun i y w e1 e2 e3 => ?_⟩, fun y c e => ?_, e0.hok.fresh (Nat.le_refl _), fun y c e => ?_, fun q hq => absurd (show q ∈ ([] : List (Addr × Obj)) ++ [] from hq) (by simp), e0.hok.kept kp, ?_⟩
  · have hy' : scope.names.lookup y = some .cell ∨ scope.names.lookup y = some .free := hy
    rcases hy' with k | k
    · (exact absurd rfl (L.own _ (PySem.mem_of_lookup k)).1)
    · exact got k
  · exact absurd (show false = true from z) (by decide)
  · have e1' : X.N[i]? = some y := e1
    have e3' : Vis scope y := e3
    rcases e3' with k | k | k
    · have ey : y = x := (L.own _ (PySem.mem_of_lookup k)).2 rfl
      subst ey
      have ij : i = j := nodup_ix nd e1' hj
      subst ij
      rw [List.getElem?_set_self hlen] at e2
      cases e2
      exact ⟨u, ru, .inl ⟨k, by simp⟩⟩
    · (exact absurd rfl (L.own _ (PySem.mem_of_lookup k)).1)
    · have hyx : y ≠ x := fun z => by rw [z, L.par] at k; cases k
      have ij : j ≠ i := fun z => by subst z; rw [hj] at e1'; exact hyx (Option.some.inj e1').symm
      rw [List.getElem?_set_ne ij] at e2
      obtain ⟨m, hn, hl⟩ := I.loc
      have vis : Vis X.env.scope y := (L.free _ (PySem.mem_of_lookup k) rfl).elim (fun k => .inr (.inl k)) fun k => .inr (.inr k)
      obtain ⟨w', r, q⟩ := hl i y w e1' e2 vis
      obtain ⟨c2, h2⟩ := got k
      (refine ⟨w', r, .inr ⟨.inr k, c2, h2, ?_⟩⟩); rcases q with ⟨k', _⟩ | ⟨_, c3, e', z⟩
      · have k2 : X.env.scope.names.lookup y = some .local := k'
        rcases L.free _ (PySem.mem_of_lookup k) rfl with k3 | k3 <;> rw [show X.env.scope.names.lookup y = _ from k3] at k2 <;> cases k2
      · rw [old h2] at e'
        cases e'
        exact isc z
  · obtain ⟨w', z⟩ := I.cell y c (old e)
    exact ⟨w', isc z⟩
  · exact I.freeC y c (old e)
  · rw [List.length_set]
    exact I.len
/-- the lambda called with one value -/
theorem lam_call {A : Around} {Ee : Value → Shared → Prop} {params : Arguments} {body : Expr} {scope : Scope} {x : Str} {j k : Nat} {f c' : Addr} {pm ctv u : Value} {v : V} {tb : TE} {Q : VK} (I : Inv X pins σ H s) (L : Lam1 X.env.scope scope x) (hj : X.N[j]? = some x) (nd : X.N.Nodup) (hlen : j < σ.length) (ru : RelV v u)
    (hf : s.heap.get? f = some (PySem.W.kla_obj "<lambda>" (X.env.qual ++ "<lambda>") params body scope (cloFrom X.env.cells scope.names []) pm c' ctv)) (hc : H c' = some (CodeO c' (X.env.qual ++ "<lambda>")))
    (hbind : bindArgs (PySem.W.kla_fn "<lambda>" (X.env.qual ++ "<lambda>") params body scope (cloFrom X.env.cells scope.names []) pm (.ref c') ctv) ⟨[u], []⟩ = pure [(x, u)]) (hr : Room (k + 1) A) (hA : A.frames = X.A.frames)
    (hbody : ∀ (s : Shared) (H : Hp) (E : XK), Room k (A.deeper (lamEnv X scope s.heap.objs.size f c')) → PE (lamCx X A X.stack s H E scope f c') body tb) (ht : tb (σ.set j (some v)) H Q) :
    wpAny (model X.prog X.w) A (call (.ref f) [u]) (EP X pins σ Q) Ee s := by
  obtain ⟨⟨oc, vs, t, hoc, hdc, hvc⟩, _, _⟩ := I.hok c' _ hc
  have e0 : Env0 X.prog X.w X.K X.mg X.base A X.stack s H := ⟨hA.trans I.ok.frames, I.ok.mod, I.bs, Nat.le_trans I.ok.bsz I.sz, I.stack, I.stkFree, I.hok, I.bare⟩
  have rc : codeAny (model X.prog X.w) A (.call (.ref f) ⟨[u], []⟩) (CR (L2.CX X.prog X.w) X.stack X.prog X.w H s Q C8.E0) s := by
    refine PySem.W.kla_callFunE hr.depth hf rfl L.co L.gen rfl ⟨c', oc, vs, t, rfl, hoc, hdc, hvc⟩ ?_
    rw [hbind]
    refine wpAny_pure (wpAny_newFunctionEnv (fun y hy => (L.own y hy).1) (fun y hy => ?_) (fun hh hns hsb => ⟨I.nolimit.fresh _ hsb, ?_⟩) L.kind)
    · rw [List.mem_singleton.mp hy]
      exact L.par
    show codeAny _ _ (.expr body (lamEnv X scope s.heap.objs.size f c')) _ _
    have kp : ∀ b o, s.heap.get? b = some o → hh.get? b = some o := fun b o e => hsb.extBut b o (Nat.ne_of_lt (Heap.lt_size e)) (Heap.get?_push_of_some _ e)
    have J : Inv (lamCx X A X.stack s H C8.E0 scope f c') [] (σ.set j (some v)) H { s with heap := hh, toks := s.toks + ([(x, u)] : List (Str × Value)).length } := lam_in I L hj nd hlen ru e0 hr.hd hns kp
    refine PySem.W.kla_codeExpr (wpAny_mono ((hbody s H C8.E0 (hr.deeper _)).run [] _ _ H Q J ht) (fun r s' hq => ?_) fun e s' hq => hq)
    (obtain ⟨w', H', J', rv, q⟩ := hq); exact ⟨w', H', J'.os, J'.bare, J'.base, J'.hok, rv, q⟩
  (refine wpAny_call (codeAny_mono rc fun r s' hq => ?_))
  cases r with
  | error e =>
    obtain ⟨_, _, _, _, _, _, _, _, _, _, _, _, z⟩ := (show L2.CX X.prog X.w X.stack H s C8.E0 e s' from hq)
    exact z.elim
  | ok fl =>
    cases fl with
    | ret u => exact I.after hq
    | next => exact False.elim hq
    | brk => exact False.elim hq
    | cont => exact False.elim hq

theorem kle_ints {m n : Int} {y x : List Nat} (h : KeyOrd.kle (O := listOrd itemOrd) [Sum.inl m, Sum.inr y] [Sum.inl n, Sum.inr x]) : m ≤ n := by
  refine Int.not_lt.mp fun lt => ?_
  have e : lexLt itemOrd [Sum.inl n, Sum.inr x] [Sum.inl m, Sum.inr y] = true := lex_true.mpr (.inl (decide_eq_true lt))
  have h' : lexLt itemOrd [Sum.inl n, Sum.inr x] [Sum.inl m, Sum.inr y] = false := h
  rw [e] at h'
  cases h'
/-- at p the pair of an int and a text -/
def KeyAt (g : Str → Int) (H : Hp) (p : Addr) (x : Str) : Prop := H p = some (.tup [V.int (g x), V.str x])
theorem key_tup {g : Str → Int} {p : Addr} {x : Str} (I : Inv X pins σ H s) (h : KeyAt g H p x) : ∃ o n t u, s.heap.get? p = some o ∧ o.cls = .type "tuple" ∧ o.data = .seq #[Value.int (g x) t, Value.str x u] n := by
  obtain ⟨_, its, r, o, e1, e2, n, e3⟩ := (show ObjOk X.prog X.w H s.heap p (.tup [V.int (g x), V.str x]) from I.hok p _ h)
  obtain ⟨a, b, rfl, ra, rb⟩ := vals2 r
  obtain ⟨t, rfl⟩ := ra
  obtain ⟨u, rfl⟩ := rb
  exact ⟨o, n, t, u, e1, e2, e3⟩
theorem key_of {g : Str → Int} {p : Addr} {x : Str} (I : Inv X pins σ H s) (h : KeyAt g H p x) : PyProof.Rows.G.tupKeyC s.heap PyProof.Rows.G.sh1 (.ref p) = some [Sum.inl (g x), Sum.inr x.cps.toList] := by
  obtain ⟨o, n, t, u, e1, e2, e3⟩ := key_tup I h
  exact PyProof.Rows.G.tupKeyC_of e1 e2 e3 (PyProof.Rows.G.two_items rfl)
theorem key_tups {g : Str → Int} (I : Inv X pins σ H s) : ∀ {ps : List Addr} {xs : List Str}, Paired (KeyAt g H) ps xs → ∃ fs, TupsOf s.heap PyProof.Rows.G.sh1 (ps.map Value.ref) fs ∧ fs.length = ps.length
  | _, _, .nil => ⟨[], .nil, rfl⟩
  | _, _, .cons (a := p) h t => by
    obtain ⟨fs, h1, h2⟩ := key_tups I t
    obtain ⟨o, n, t, u, e1, e2, e3⟩ := key_tup I h
    refine ⟨Value.int _ t :: fs, .cons ⟨p, o, _, n, rfl, e1, e2, e3, rfl, fun _ => ⟨_, _, rfl⟩, fun z => ?_⟩ h1, by simp [h2]⟩
    exact absurd z (by decide)

def tx : Value → Str
  | .str x _ => x
  | _ => ""
theorem strs_tx : ∀ {l : List Value}, (∀ v ∈ l, ∃ x t, v = Value.str x t) → StrsAre l (l.map tx)
  | [], _ => .nil
  | v :: l, h => by
    obtain ⟨x, t, rfl⟩ := h v List.mem_cons_self
    exact .cons x t (strs_tx fun u hu => h u (List.mem_cons_of_mem _ hu))
theorem zip_tx {g : Str → Int} {ps : List Addr} {vs : List Value} {ks : List Str} (hk : Paired (KeyAt g H) ps ks) (hv : StrsAre vs ks) :
    (((ps.map Value.ref).zip vs).map fun kv => tx kv.2) = ks ∧ ∀ kv ∈ (ps.map Value.ref).zip vs, ∃ p x t, kv = (Value.ref p, Value.str x t) ∧ KeyAt g H p x := by
  induction hk generalizing vs with
  | nil => exact ⟨rfl, fun _ h => absurd h (by simp)⟩
  | @cons p x ps ks h r ih =>
    cases hv with
    | cons _ t q =>
      obtain ⟨e1, e2⟩ := ih q
      refine ⟨by simp only [List.map_cons, List.zip_cons_cons]; rw [e1]; rfl, fun kv hm => ?_⟩
      rw [List.map_cons, List.zip_cons_cons] at hm
      rcases List.mem_cons.mp hm with z | z
      · exact ⟨p, x, t, z, h⟩
      · exact e2 kv z
theorem sort_out {g : Str → Int} {ps : List Addr} {vs : List Value} {ks : List Str} {arr : Array Keyed} (I : Inv X pins σ H s) (hk : Paired (KeyAt g H) ps ks) (hv : StrsAre vs ks) (hp : arr.Perm ((List.toArray (ps.map Value.ref)).zip vs.toArray))
    (hs : SortedToK (PyProof.Rows.G.tupKindC s.heap PyProof.Rows.G.sh1) arr arr.size) : ∃ ys : List Str, StrsAre (arr.map (·.2)).toList ys ∧ ys.Perm ks ∧ ys.Pairwise fun x y => g x ≤ g y := by
  obtain ⟨z1, z2⟩ := zip_tx hk hv
  have hp2 : arr.toList.Perm ((ps.map Value.ref).zip vs) := by
    have := Array.perm_iff_toList_perm.mp hp
    simpa using this
  have hat : ∀ kv ∈ arr.toList, ∃ p x t, kv = (Value.ref p, Value.str x t) ∧ KeyAt g H p x := fun kv h => z2 kv (hp2.mem_iff.mp h)
  refine ⟨arr.toList.map fun kv => tx kv.2, ?_, ?_, ?_⟩
  · rw [Array.toList_map]
    have e : (arr.toList.map fun kv => tx kv.2) = (arr.toList.map (·.2)).map tx := by rw [List.map_map]; rfl
    rw [e]
    refine strs_tx fun v hvm => ?_
    obtain ⟨kv, hkv, rfl⟩ := List.mem_map.mp hvm
    obtain ⟨p, x, t, rfl, _⟩ := hat kv hkv
    exact ⟨x, t, rfl⟩
  · rw [← z1]
    exact hp2.map _
  · rw [List.pairwise_map]
    refine List.pairwise_iff_getElem.mpr fun i j hi hj hij => ?_
    have key : ∀ (m : Nat) (hm : m < arr.toList.length), ∃ x, tx (arr.toList[m]).2 = x ∧ KK (PyProof.Rows.G.tupKindC s.heap PyProof.Rows.G.sh1) arr m = [Sum.inl (g x), Sum.inr x.cps.toList] := fun m hm => by
      obtain ⟨p, x, t, e, hx⟩ := hat _ (List.getElem_mem hm)
      refine ⟨x, by rw [e]; rfl, ?_⟩
      have e2 : arr[m]? = some (Value.ref p, Value.str x t) := by
        rw [← Array.getElem?_toList, List.getElem?_eq_getElem hm, e]
      unfold KK
      rw [e2]
      show (PyProof.Rows.G.tupKeyC s.heap PyProof.Rows.G.sh1 (.ref p)).getD _ = _
      rw [key_of I hx]
      rfl
    obtain ⟨x, ex, kx⟩ := key i hi
    obtain ⟨y, ey, ky⟩ := key j hj
    have le := hs i j (Nat.le_of_lt hij) (by rw [← Array.length_toList]; exact hj)
    rw [kx, ky] at le
    rw [ex, ey]
    exact kle_ints le
theorem vals_refs2 {ps : List Addr} {its : List Value} (r : Vals (ps.map V.ref) its) : its = ps.map Value.ref := by
  induction ps generalizing its with
  | nil => cases r; rfl
  | cons p l ih => cases r with | cons h t => rw [ih t, show _ = Value.ref p from h]; rfl
theorem strs_vals : ∀ {vs : List Value} {ks : List Str}, StrsAre vs ks → Vals (ks.map V.str) vs
  | _, _, .nil => .nil
  | _, _, .cons x t r => .cons ⟨t, rfl⟩ (strs_vals r)
theorem sort_end {A : Around} {Ee : Value → Shared → Prop} {g : Str → Int} {a kS : Addr} {oa : Obj} {e1 : Nat} {ps : List Addr} {vs : List Value} {ks : List Str} {Pf : PySem.Fin → Shared → Prop} (I : Inv X pins σ H s) (ha : H a = some (.frz oa (.lst []))) (hoa : s.heap.get? a = some (seqObj "list" #[] e1))
    (hkS : H kS = some (.lst (ps.map V.ref))) (hk : Paired (KeyAt g H) ps ks) (hv : StrsAre vs ks) (hz : ks.length ≤ 60) (hn : ∀ o' u', X.H_0 a ≠ some (.frz o' u'))
    (h : ∀ (ys : List Str) H' s', Inv X pins σ H' s' → (∀ b u, b ≠ a → b ≠ kS → H b = some u → H' b = some u) → H' a = some (.lst (ys.map V.str)) → ys.Perm ks → (ys.Pairwise fun x y => g x ≤ g y) → Pf (.done (.ret .none)) s') :
    wpAny (model X.prog X.w) A (ksk_end a false vs.toArray e1 (.ref kS) (List.toArray (ps.map Value.ref))) Pf Ee s := by
  have lk : ps.length = ks.length := Paired.length hk
  have lv : vs.length = ks.length := hv.length
  have hne : a ≠ kS := fun z => by rw [z, hkS] at ha; cases ha
  obtain ⟨_, its, n, rk, hok⟩ := (show ObjOk X.prog X.w H s.heap kS (.lst (ps.map V.ref)) from I.hok kS _ hkS)
  have eits := vals_refs2 rk
  subst eits
  have zsz : ((List.toArray (ps.map Value.ref)).zip vs.toArray).size = ks.length := by
    rw [Array.size_zip, List.size_toArray, List.size_toArray, List.length_map, lk, lv, Nat.min_self]
  have tail : ∀ st : SortSt, (arrOf st).Perm ((List.toArray (ps.map Value.ref)).zip vs.toArray) → SortedToK (PyProof.Rows.G.tupKindC s.heap PyProof.Rows.G.sh1) (arrOf st) (arrOf st).size → failedOf st = none →
      wpAny (model X.prog X.w) A (ksk_tail a false e1 (.ref kS) st) Pf Ee s := by
    intro st hp hs hf
    obtain ⟨ys, g1, g2, g3⟩ := sort_out I hk hv hp hs
    have lys : ys.length = ks.length := g2.length_eq
    have lout : ((arrOf st).map (·.2)).size = ks.length := by rw [Array.size_map, hp.size_eq, zsz]
    obtain ⟨c1, hc1⟩ : ∃ c1, (s.heap.update kS (Obj.mapSeq fun _ => (#[] : Array Value))).get? kS = some (seqObj "list" #[] c1) := ⟨_, get?_update_seq hok fun _ => #[]⟩
    have sb1 := Heap.SameBut.update s.heap kS (Obj.mapSeq fun _ => (#[] : Array Value))
    have I0 := I.unlock ha hn
    have I1 : Inv X pins σ (upd (upd H a (.lst [])) kS (.lst [])) { s with heap := s.heap.update kS (Obj.mapSeq fun _ => (#[] : Array Value)) } :=
      I0.write (x := kS) (e := kS) (t' := s.toks) (by rw [upd_ne (Ne.symm hne), hkS]; trivial) (.inl rfl) (fun b u hb hu => (sb1.2 b hb).trans hu) ⟨_, hc1⟩ ⟨Nat.zero_le _, [], c1, .nil, hc1⟩
    have na1 : (s.heap.update kS (Obj.mapSeq fun _ => (#[] : Array Value))).get? a = some (seqObj "list" #[] e1) := (sb1.2 a hne).trans hoa
    have sb2 := Heap.SameBut.update (s.heap.update kS (Obj.mapSeq fun _ => (#[] : Array Value))) a (Obj.mapSeq fun _ => (arrOf st).map (·.2))
    obtain ⟨c2, hc2⟩ : ∃ c2, ((s.heap.update kS (Obj.mapSeq fun _ => (#[] : Array Value))).update a (Obj.mapSeq fun _ => (arrOf st).map (·.2))).get? a = some (seqObj "list" ((arrOf st).map (·.2)) c2) := ⟨_, get?_update_seq na1 fun _ => (arrOf st).map (·.2)⟩
    have vy := strs_vals g1
    have I2 : Inv X pins σ (upd (upd (upd H a (.lst [])) kS (.lst [])) a (.lst (ys.map V.str))) { s with heap := (s.heap.update kS (Obj.mapSeq fun _ => (#[] : Array Value))).update a (Obj.mapSeq fun _ => (arrOf st).map (·.2)) } :=
      I1.write (x := a) (e := a) (t' := s.toks) (by rw [upd_ne hne, upd_same]; trivial) (.inl rfl) (fun b u hb hu => (sb2.2 b hb).trans hu) ⟨_, hc2⟩
        ⟨by rw [List.length_map, sizeLine_eq]; omega, ((arrOf st).map (·.2)).toList, c2, vy, by rw [Array.toArray_toList]; exact hc2⟩
    unfold ksk_tail
    try dsimp only
    refine wpAny_bind (listUpdate_at hok rfl ?_ (by rw [List.size_toArray, List.length_map, sizeLine_eq]; omega) (Nat.zero_le _))
    (refine wpAny_bind (wpAny_letGo ?_)); refine wpAny_bind (seqEpoch_at na1 rfl ?_)
    (simp only [Bool.false_eq_true, if_false]); refine wpAny_bind (listUpdate_at na1 rfl ?_ (Nat.zero_le _) (Nat.le_trans (Nat.le_of_eq lout) (by rw [sizeLine_eq]; omega)))
    rw [hf]
    (simp only [bne_self_eq_false, Bool.false_eq_true, if_false]); refine wpAny_pure (h ys _ _ I2 (fun b u h1 h2 hb => ?_) upd_same g2 g3)
    rw [upd_ne h1, upd_ne h2, upd_ne h1]
    exact hb
  unfold ksk_end
  try dsimp only
  (simp only [Bool.false_eq_true, if_false]); by_cases h2 : vs.toArray.size < 2
  · rw [if_pos h2, if_pos h2]
    (refine wpAny_bind (wpAny_pure ?_)); rw [StateT.run_pure]
    (refine wpAny_bind (wpAny_pure ?_)); try dsimp only
    refine tail (SortSt.mk' general' ((List.toArray (ps.map Value.ref)).zip vs.toArray) #[] 7 none) (Array.Perm.refl _) ?_ rfl
    intro i j hij hj
    have hj2 : j < ((List.toArray (ps.map Value.ref)).zip vs.toArray).size := hj
    rw [zsz] at hj2
    rw [List.size_toArray] at h2
    have : i = j := by omega
    subst this
    exact KeyOrd.kle_refl _
  · rw [if_neg h2, if_neg h2]
    rw [List.size_toArray] at h2
    obtain ⟨fs, t1, t2⟩ := key_tups I hk
    refine wpAny_bind (tup_kind (by omega) t1 ?_)
    refine wpAny_bind (wpAny_mono (PyProof.Rows.G.wpS_sortRunsSt (κ := PyProof.Rows.G.tupKindC s.heap PyProof.Rows.G.sh1) (kd := tuples' true) (a₀ := (List.toArray (ps.map Value.ref)).zip vs.toArray) (st := SortSt.mk' (tuples' true) ((List.toArray (ps.map Value.ref)).zip vs.toArray) #[] 7 none)
      (Q := fun _ st' => (arrOf st').Perm ((List.toArray (ps.map Value.ref)).zip vs.toArray) ∧ failedOf st' = none ∧ SortedToK (PyProof.Rows.G.tupKindC s.heap PyProof.Rows.G.sh1) (arrOf st') ((List.toArray (ps.map Value.ref)).zip vs.toArray).size)
      (PyProof.Rows.G.tupC_ltAt true (PyProof.Rows.G.KeepsTups.refl _)) (fun p hm => ?_) ⟨Array.Perm.refl _, rfl, rfl⟩ rfl (PyProof.Rows.Stable.refl _) (by rw [zsz]; omega) fun st' a1 a2 a3 a4 => ⟨a1, a2, a3⟩) ?_ fun _ _ e => e)
    · have hm2 : p ∈ (ps.map Value.ref).zip vs := by simpa using hm
      obtain ⟨q, x, t, rfl, hx⟩ := (zip_tx hk hv).2 p hm2
      exact ⟨_, key_of I hx⟩
    · rintro ⟨⟨⟩, st'⟩ s' ⟨rfl, hp, hf, hs⟩
      try dsimp only
      exact tail st' hp (by rw [hp.size_eq]; exact hs) hf
end
end HW
set_option Elab.async false
set_option maxRecDepth 100000
set_option linter.all false
set_option maxHeartbeats 4000000
namespace HW
open LamX L2 PyProof.Rows PySem PySem.Spec
section
variable {s : Shared} {H : Hp} {σ : L2.St} {pins : List (Addr × Obj)} {X : Cx}
theorem paired_snocP {α β : Type} {F : α → β → Prop} {l₁ : List α} {l₂ : List β} {a : α} {b : β} (h : Paired F l₁ l₂) (r : F a b) : Paired F (l₁ ++ [a]) (l₂ ++ [b]) := by
  induction h with
  | nil => exact .cons r .nil
  | cons h _ ih => exact .cons h ih
theorem refs_vals : ∀ l : List Addr, Vals (l.map V.ref) (l.map Value.ref)
  | [] => .nil
  | _ :: l => .cons rfl (refs_vals l)
/-- the keys are made one by one, then all is sorted -/
theorem sort_keys {A : Around} {Ee : Value → Shared → Prop} {g : Str → Int} {a kS f : Addr} {oa fo : Obj} {e1 : Nat} {vs : List Value} {ks : List Str} {Pf : PySem.Fin → Shared → Prop} (Hb : Hp) (I : Inv X (pins ++ [(f, fo)]) σ H s) (base : Same Hb H) (na : Hb a = none) (nk : Hb kS = none)
    (ha : H a = some (.frz oa (.lst []))) (hoa : s.heap.get? a = some (seqObj "list" #[] e1)) (hkS : H kS = some (.lst [])) (hv : StrsAre vs ks) (hz : ks.length ≤ 60) (hn : ∀ o' u', X.H_0 a ≠ some (.frz o' u'))
    (turn : ∀ (v : Value) (x : Str) (t : Tok) (H2 : Hp) (s2 : Shared), v = Value.str x t → x ∈ ks → Inv X (pins ++ [(f, fo)]) σ H2 s2 → Same Hb H2 →
      wpAny (model X.prog X.w) A (call (.ref f) [v]) (EP X (pins ++ [(f, fo)]) σ fun r H3 => Same H2 H3 ∧ ∃ p, r = .ref p ∧ KeyAt g H3 p x) (fun _ _ => False) s2)
    (h : ∀ (ys : List Str) H' s', Inv X pins σ H' s' → Same Hb H' → H' a = some (.lst (ys.map V.str)) → ys.Perm ks → (ys.Pairwise fun x y => g x ≤ g y) → Pf (.done (.ret .none)) s') :
    wpAny (model X.prog X.w) A (ksk_rest a (.ref f) false vs.toArray e1 (.ref kS)) Pf Ee s := by
  have lv : vs.length = ks.length := hv.length
  have hne : a ≠ kS := fun z => by rw [z, hkS] at ha; cases ha
  (unfold ksk_rest); refine wpAny_bind (wpAny_rule ?_)
  first
    | rw [List.forIn_toArray]
    | (rw [← Array.forIn_toList]; (simp only [List.toList_toArray]))
    | rw [← Array.forIn_toList]
  refine wpAny_bind (ksk_fold (fun i s' => ∃ (H' : Hp) (ps : List Addr), Inv X (pins ++ [(f, fo)]) σ H' s' ∧ Same Hb H' ∧ H' a = some (.frz oa (.lst [])) ∧ H' kS = some (.lst (ps.map V.ref)) ∧ Paired (KeyAt g H') ps (ks.take i)) vs 0 s
    ⟨H, [], I, base, ha, hkS, .nil⟩ ?step ?done)
  case step =>
    rintro j v s' hx ⟨H', ps, I', b', ha', hk', hp'⟩
    simp only [Nat.zero_add] at hp' ⊢
    (have hj : j < vs.length := (List.getElem?_eq_some_iff.mp hx).1); obtain ⟨u, hu, t, eu⟩ := (strs_vals hv).get (i := j) (x := .str ks[j]) (by rw [List.getElem?_map, List.getElem?_eq_getElem (by omega)]; rfl)
    rw [hx] at hu
    cases hu
    have hkj : ks[j]? = some ks[j] := List.getElem?_eq_getElem (by omega)
    have lps : ps.length = j := by rw [Paired.length hp', List.length_take]; omega
    refine wpAny_bind (wpAny_attempt (wpAny_mono (turn v ks[j] t H' s' eu (List.getElem_mem _) I' b') (fun r s2 hq => ?_) fun _ _ hF => hF.elim))
    obtain ⟨w', H3, I3, rr, s3, p, ep, hp⟩ := hq
    subst ep
    cases rr
    try dsimp only
    have hk3 := s3 _ _ hk'
    obtain ⟨_, its, n, rk, hok⟩ := (show ObjOk X.prog X.w H3 s2.heap kS (.lst (ps.map V.ref)) from I3.hok kS _ hk3)
    have eits := vals_refs2 rk
    subst eits
    have sb := Heap.SameBut.update s2.heap kS (Obj.mapSeq (·.push (.ref p)))
    obtain ⟨c2, hc2⟩ : ∃ c2, (s2.heap.update kS (Obj.mapSeq (·.push (.ref p)))).get? kS = some (seqObj "list" ((List.toArray (ps.map Value.ref)).push (.ref p)) c2) := ⟨_, get?_update_seq hok (·.push (.ref p))⟩
    have ea : ((List.toArray (ps.map Value.ref)).push (Value.ref p)) = List.toArray ((ps ++ [p]).map Value.ref) := by simp
    have vr : Vals ((ps ++ [p]).map V.ref) ((ps ++ [p]).map Value.ref) := refs_vals _
    have sz : ((ps ++ [p]).map V.ref).length ≤ sizeLine := by rw [List.length_map, List.length_append, List.length_singleton, sizeLine_eq]; omega
    have I4 : Inv X (pins ++ [(f, fo)]) σ (upd H3 kS (.lst ((ps ++ [p]).map V.ref))) { s2 with heap := s2.heap.update kS (Obj.mapSeq (·.push (.ref p))) } :=
      I3.write (x := kS) (e := kS) (t' := s2.toks) (by rw [hk3]; trivial) (.inl rfl) (fun b u hb hu => (sb.2 b hb).trans hu) ⟨_, hc2⟩ ⟨sz, (ps ++ [p]).map Value.ref, c2, vr, by rw [← ea]; exact hc2⟩
    refine wpAny_bind (listUpdate_at hok rfl ?_ (by rw [List.size_toArray, List.length_map, sizeLine_eq]; omega) (Nat.le_trans (Nat.le_of_eq (Array.size_push ..)) (by rw [List.size_toArray, List.length_map, sizeLine_eq]; omega)))
    refine wpAny_pure ⟨rfl, _, ps ++ [p], I4, ?_, ?_, upd_same, ?_⟩
    · exact fun b u hb => by rw [upd_ne (fun z => by rw [z, nk] at hb; cases hb)]; exact s3 _ _ (b' _ _ hb)
    · rw [upd_ne hne]; exact s3 _ _ ha'
    · have off : ∀ {q x}, KeyAt g H3 q x → KeyAt g (upd H3 kS (.lst ((ps ++ [p]).map V.ref))) q x := fun {q x} hq => by
        unfold KeyAt at hq ⊢
        rw [upd_ne (fun z => by rw [z, hk3] at hq; cases hq)]
        exact hq
      have ek : ks.take (j + 1) = ks.take j ++ [ks[j]] := by rw [List.take_add_one, hkj]; rfl
      rw [ek]
      exact paired_snocP (Paired.mapP hp' fun q x hq => off (show KeyAt g H3 q x from s3 _ _ hq)) (off hp)
  case done =>
    rintro s' ⟨H', ps, I', b', ha', hk', hp'⟩
    have hp2 : Paired (KeyAt g H') ps ks := by
      rw [Nat.zero_add, List.take_of_length_le (by omega)] at hp'
      exact hp'
    obtain ⟨_, its, n, rk, hok⟩ := (show ObjOk X.prog X.w H' s'.heap kS (.lst (ps.map V.ref)) from I'.hok kS _ hk')
    have eits := vals_refs2 rk
    subst eits
    have hoa' : s'.heap.get? a = some (seqObj "list" #[] e1) := by
      have e0 : s.heap.get? a = some oa := ((show ObjOk X.prog X.w H s.heap a (.frz oa (.lst [])) from I.hok a _ ha)).1
      have e2 : s'.heap.get? a = some oa := ((show ObjOk X.prog X.w H' s'.heap a (.frz oa (.lst [])) from I'.hok a _ ha')).1
      rw [e2, ← e0]; exact hoa
    try dsimp only
    refine wpAny_bind (listItems_at hok rfl ?_)
    refine sort_end I'.unpinned ha' hoa' hk' hp2 hv hz hn fun ys H'' s'' I'' keep hA hperm hpw => h ys H'' s'' I'' (fun b u hb => ?_) hA hperm hpw
    exact keep b u (fun z => by rw [z, na] at hb; cases hb) (fun z => by rw [z, nk] at hb; cases hb) (b' _ _ hb)
/-- list.sort by such keys: a is the list -/
theorem sort_tree {A : Around} {Ee : Value → Shared → Prop} {g : Str → Int} {a f : Addr} {fo : Obj} {vs : List Value} {n : Nat} {ks : List Str} {Pf : PySem.Fin → Shared → Prop} (Hb : Hp) (I : Inv X (pins ++ [(f, fo)]) σ H s) (base : Same Hb H) (na : Hb a = none) (bnd : ∀ b, s.heap.objs.size ≤ b → Hb b = none)
    (ha : H a = some (.lst (ks.map V.str))) (hoa : s.heap.get? a = some (seqObj "list" vs.toArray n)) (hv : StrsAre vs ks) (hz : ks.length ≤ 60)
    (turn : ∀ (v : Value) (x : Str) (t : Tok) (H2 : Hp) (s2 : Shared), v = Value.str x t → x ∈ ks → Inv X (pins ++ [(f, fo)]) σ H2 s2 → Same Hb H2 →
      wpAny (model X.prog X.w) A (call (.ref f) [v]) (EP X (pins ++ [(f, fo)]) σ fun r H3 => Same H2 H3 ∧ ∃ p, r = .ref p ∧ KeyAt g H3 p x) (fun _ _ => False) s2)
    (h : ∀ (ys : List Str) H' s', Inv X pins σ H' s' → Same Hb H' → H' a = some (.lst (ys.map V.str)) → ys.Perm ks → (ys.Pairwise fun x y => g x ≤ g y) → Pf (.done (.ret .none)) s') :
    wpAny (model X.prog X.w) A (ksk_tree a (.ref f) false) Pf Ee s := by
  have lv : vs.length = ks.length := hv.length
  have hlt : a < s.heap.objs.size := Heap.lt_size hoa
  have sb := Heap.SameBut.update s.heap a (Obj.mapSeq fun _ => (#[] : Array Value))
  obtain ⟨e1, ho1⟩ : ∃ e1, (s.heap.update a (Obj.mapSeq fun _ => (#[] : Array Value))).get? a = some (seqObj "list" #[] e1) := ⟨_, get?_update_seq hoa fun _ => #[]⟩
  have I1 : Inv X (pins ++ [(f, fo)]) σ (upd H a (.lst [])) { s with heap := s.heap.update a (Obj.mapSeq fun _ => (#[] : Array Value)) } :=
    I.write (x := a) (e := a) (t' := s.toks) (by rw [ha]; trivial) (.inl rfl) (fun b u hb hu => (sb.2 b hb).trans hu) ⟨_, ho1⟩ ⟨Nat.zero_le _, [], e1, .nil, ho1⟩
  have I2 : Inv X (pins ++ [(f, fo)]) σ (upd H a (.lst [])) { s with heap := (s.heap.update a (Obj.mapSeq fun _ => (#[] : Array Value))).push (seqObj "tuple" vs.toArray 0) } := I1.kept (t' := s.toks) fun b o e => Heap.get?_push_of_some _ e
  have hsz : ((s.heap.update a (Obj.mapSeq fun _ => (#[] : Array Value))).push (seqObj "tuple" vs.toArray 0)).objs.size = s.heap.objs.size + 1 := by rw [size_push', Heap.size_update]
  have I3 : Inv X (pins ++ [(f, fo)]) σ (upd (upd H a (.lst [])) (s.heap.objs.size + 1) (.lst [])) { s with heap := ((s.heap.update a (Obj.mapSeq fun _ => (#[] : Array Value))).push (seqObj "tuple" vs.toArray 0)).push (seqObj "list" #[] 0) } :=
    I2.laid (t' := s.toks) (fun b o e => Heap.get?_push_of_some _ e) (Nat.le_of_eq hsz) ⟨Nat.zero_le _, [], 0, .nil, by rw [← hsz]; exact Heap.get?_push_size _ rfl⟩
  have nek : a ≠ s.heap.objs.size + 1 := Nat.ne_of_lt (Nat.lt_succ_of_lt hlt)
  have hA3 : upd (upd H a (.lst [])) (s.heap.objs.size + 1) (.lst []) a = some (.lst []) := by rw [upd_ne nek, upd_same]
  obtain ⟨oa, I4⟩ := I3.lock hA3 trivial
  have ho3 : (((s.heap.update a (Obj.mapSeq fun _ => (#[] : Array Value))).push (seqObj "tuple" vs.toArray 0)).push (seqObj "list" #[] 0)).get? a = some (seqObj "list" #[] e1) := Heap.get?_push_of_some _ (Heap.get?_push_of_some _ ho1)
  unfold ksk_tree
  refine wpAny_bind (listItems_at hoa rfl ?_)
  refine wpAny_bind (listUpdate_at hoa rfl ?_ (by rw [List.size_toArray, sizeLine_eq]; omega) (Nat.zero_le _))
  (refine wpAny_bind (seqEpoch_at ho1 rfl ?_)); refine wpAny_bind (wpAny_newTuple ?_ (by show vs.length ≤ _; rw [sizeLine_eq]; omega))
  (refine wpAny_bind (wpAny_newList ?_ (Nat.zero_le _))); refine wpAny_holding ?_
  have ek : ((s.heap.update a (Obj.mapSeq fun _ => (#[] : Array Value))).push (seqObj "tuple" vs.toArray 0)).objs.size = s.heap.objs.size + 1 := hsz
  show wpAny _ A (ksk_rest a (.ref f) false vs.toArray e1 (.ref ((s.heap.update a (Obj.mapSeq fun _ => (#[] : Array Value))).push (seqObj "tuple" vs.toArray 0)).objs.size)) Pf Ee { s with heap := ((s.heap.update a (Obj.mapSeq fun _ => (#[] : Array Value))).push (seqObj "tuple" vs.toArray 0)).push (seqObj "list" #[] 0) }
  rw [ek]
  refine sort_keys Hb I4 (fun b u hb => ?_) na (bnd _ (Nat.le_succ _)) upd_same ho3 ?_ hv hz (I3.nofrz hA3 trivial) turn h
  · have h1 : b ≠ a := fun z => by rw [z, na] at hb; cases hb
    have h2 : b ≠ s.heap.objs.size + 1 := fun z => by rw [z, bnd _ (Nat.le_succ _)] at hb; cases hb
    rw [upd_ne h1, upd_ne h2, upd_ne h1]
    exact base _ _ hb
  · rw [upd_ne (Ne.symm nek)]
    exact upd_same
end
end HW
set_option Elab.async false
set_option maxRecDepth 100000
set_option linter.all false
set_option maxHeartbeats 4000000
namespace HW
open LamX L2 PyProof.Rows PySem PySem.Spec
/-- something called with one keyword or more -/
theorem callFKw {M : Model} {A : Around} {E : Value → Shared → Prop} {s : Shared} {env : Env} {pos : Pos} {id : String} {e : Expr} {rest : List Expr} {kws : List Keyword} {Q : Value → Shared → Prop}
    (h : wpAny M A (spliced (backTo pos (starEach (e :: rest) env))) (fun vs s₁ => wpAny M A (evalAll ((backToKw pos (keywordEach kws env)).map (·.2))) (fun ks s₂ => wpAny M A (call (.builtin id) vs (((backToKw pos (keywordEach kws env)).filterMap (·.1)).zip ks)) Q E s₂) E s₁) E s)
    (he : starEach (e :: rest) env = (false, eval e env) :: starEach rest env) (no1 : (backTo pos (starEach (e :: rest) env)).any (·.1) = false) (no2 : (backToKw pos (keywordEach kws env)).any (·.1.isNone) = false) (yes : (backToKw pos (keywordEach kws env)).all (·.1.isSome) = true) : wpAny M A (callWith pos (.builtin id) [] (backTo pos (starEach (e :: rest) env)) (backToKw pos (keywordEach kws env))) Q E s := by
  unfold callWith
  refine wpAny_bind (wpAny_holding (thn (PyProof.Rows.evalArgs_kw2 (Q := fun a s1 => wpAny M A (call (.builtin id) a.pos a.kw) Q E s1) yes h he) fun a s1 h1 => wpAny_bind (wpAny_standAt ?_)))
  rw [no1, no2]
  exact wpAny_bind (wpAny_pure (wpAny_bind (thn h1 fun r s2 hr => wpAny_bind (wpAny_holding (wpAny_point (wpAny_pure hr))))))
def tSortKey (T : List (Addr × Str)) (td tb : TE) (j : Nat) : TE := fun σ H Q => td σ H fun v H0 => ∃ (d : Addr) (ks : List Str) (kvs : List (Key × V)) (g : Str → Int), v = .ref d ∧ Rd H0 d (.dK kvs) ∧ kvs.map (·.1) = ks.map Sum.inr ∧ ks.length ≤ 60 ∧ j < σ.length ∧ Tabs T H0 ∧
  ∀ H1, ExtN H0 H1 → Tabs T H1 → (∀ H2 x, x ∈ ks → Same H1 H2 → ∀ Q' : VK, (∀ H3 p, Same H2 H3 → KeyAt g H3 p x → Q' (.ref p) H3) → tb (σ.set j (some (.str x))) H2 Q') ∧
    ∀ (ys : List Str) H2 p, Same H1 H2 → H2 p = some (.lst (ys.map V.str)) → ys.Perm ks → (ys.Pairwise fun x y => g x ≤ g y) → Q (.ref p) H2
theorem pe_sortKey {X : Cx} {T : List (Addr × Str)} {e : Expr} {td tb : TE} {params : Arguments} {body : Expr} {scope : Scope} {lpos p pos kpos : Pos} {x : Str} {j k : Nat} {c P : Addr} (hcalm : X.calm = true) (nd : X.N.Nodup) (hg : Gl X "sorted") (hm : X.mg "sorted" = none) (he : PE X e td)
    (TB : TabB X.base X.mg c P) (hcode : X.env.code = .ref c) (hmT : (P, X.env.qual ++ "<lambda>") ∈ T) (hu : ∀ p ∈ T, p.1 = P → p.2 = X.env.qual ++ "<lambda>") (hr : Room (k + 3) X.A) (L : Lam1 X.env.scope scope x) (hj : X.N[j]? = some x) (hst : ∀ b, b ∉ frs X.stack → b ≠ X.env.locals ∧ b ∉ X.fs)
    (hdef : defaultsOf params X.env = ([], [])) (hbind : ∀ (q : Str) (cl : List (Str × Addr)) (pm cv ctv u : Value), bindArgs (PySem.W.kla_fn "<lambda>" q params body scope cl pm cv ctv) ⟨[u], []⟩ = pure [(x, u)])
    (hbody : ∀ (A : Around) (s : Shared) (H : Hp) (E : XK) (f c' : Addr), Room k (A.deeper (lamEnv X scope s.heap.objs.size f c')) → PE (lamCx X A X.stack s H E scope f c') body tb)
    (st : starEach [e] X.env = (false, eval e X.env) :: starEach [] X.env := by rfl) (st1 : (backTo pos (starEach [e] X.env)).any (·.1) = false := by rfl) :
    PE X (.Call (.Name "sorted" p) [e] [⟨some "key", .Lambda params body scope lpos, kpos⟩] pos) (tSortKey T td tb j) := by
  (refine ⟨fun pins s σ H Q I h => ?_⟩); refine wpAny_Call_Name_kw (ld_blt I hg hm (by decide +kernel : bootBuiltins "sorted" = some (.builtin "sorted")) ?_)
  refine callFKw ?_ st st1 rfl rfl
  rw [st]
  show wpAny _ _ (spliced [(false, eval e X.env)]) _ _ s
  refine Calls.spliced_cons (thn (he.run pins s σ H _ I h) fun u1 s1 ⟨v, H0, I0, r0, q0⟩ => Calls.spliced_nil ?_)
  obtain ⟨d, ks, kvs, g, rfl, hd0, hks, h60, hjl, hT, q0⟩ := q0
  cases r0
  refine PyProof.Rows.kws_cons (lam_make2 I0 TB hcode hmT hu hT hdef (L.has I0.ok) fun f c' pm ctv H1 s2 I1 eN T1 hf hfn hfr hco => PyProof.Rows.kws_nil ?_)
  obtain ⟨turn, q1⟩ := q0 H1 eN T1
  have hd : Rd H1 d (.dK kvs) := by
    rcases hd0 with z | ⟨o, z⟩
    · exact .inl (eN _ _ z fun ps w => by cases w)
    · exact .inr ⟨o, eN _ _ z fun ps w => by cases w⟩
  obtain ⟨f1, f2⟩ := hst f hfr
  show wpAny _ _ (call (.builtin "sorted") [.ref d] [(Str.ofString "key", .ref f)]) _ _ s2
  obtain ⟨z, lo, vs, rel, dd⟩ := dk_rd I1.hok hd
  obtain ⟨ep, hat⟩ := dd.dictAt
  (have hkeys : vs.map (·.1) = ks.map Sum.inr := rel.keys.symm.trans hks); have hl : vs.length = ks.length := by
    (have e := congrArg List.length hkeys); rw [List.length_map, List.length_map] at e
    exact e
  refine call_function_entry_kw PyProof.Rows.kind_sorted PyProof.Rows.plain_sorted PyProof.Rows.entry_sorted (PyProof.Rows.ksk_s1 _ _) ?_
  unfold Builtin.«sorted»
  (refine wpAny_bind (m := checkCount "sorted" 1 1 _) (wpAny_pure ?_)); refine wpAny_bind (PySem.W.kdu_collect (A := X.A.in1) (PySem.W.kdl_dict (knd := mixKind X.prog X.w) (kvs := vs) (ep := ep) lo) (I1.ok.hd hcalm) hat (by rw [hl, sizeLine_eq]; omega) fun h' tk acc hk hacc => ?_)
  (have hal : acc.toList.length = ks.length := by rw [Array.length_toList, hacc.1, hl]); have hS : StrsAre acc.toList ks := strs_at hal fun m v e => by
    obtain ⟨kk, xx, e1, e2⟩ := hacc.2 m v (by rw [← Array.getElem?_toList]; exact e)
    (have e3 : (vs.map (·.1))[m]? = some kk := by rw [List.getElem?_map, e1]; all_goals rfl); rw [hkeys, List.getElem?_map] at e3
    cases e4 : ks[m]? with
    | none => (rw [e4] at e3; cases e3)
    | some y =>
      rw [e4] at e3
      have e5 : Sum.inr y = kk := Option.some.inj e3
      subst e5
      (obtain ⟨t, ev⟩ := Value.isStrOf_shape (x := y) (v := v) e2); exact ⟨y, t, rfl, ev⟩
  have I2 : Inv X pins σ H1 { s2 with heap := h', toks := tk } := I1.kept hk
  have nA : H1 h'.objs.size = none := I2.hok.fresh (Nat.le_refl _)
  have hoA : (h'.push (seqObj "list" acc.toList.toArray 0)).get? h'.objs.size = some (seqObj "list" acc.toList.toArray 0) := Heap.get?_push_size _ rfl
  have I3 : Inv X pins σ (upd H1 h'.objs.size (.lst (ks.map V.str))) { s2 with heap := h'.push (seqObj "list" acc.toList.toArray 0), toks := tk } :=
    I2.laid (t' := tk) (fun b o e => Heap.get?_push_of_some _ e) (Nat.le_refl _) ⟨by rw [List.length_map, sizeLine_eq]; omega, acc.toList, 0, strs_vals hS, hoA⟩
  have hf3 : (h'.push (seqObj "list" acc.toList.toArray 0)).get? f = some (PySem.W.kla_obj "<lambda>" (X.env.qual ++ "<lambda>") params body scope (cloFrom X.env.cells scope.names []) pm c' ctv) := Heap.get?_push_of_some _ (hk _ _ hf)
  have nf : f ≠ h'.objs.size := fun w => by
    have := Heap.lt_size (hk _ _ hf)
    rw [w] at this
    exact Nat.lt_irrefl _ this
  have I4 : Inv X (pins ++ [(f, PySem.W.kla_obj "<lambda>" (X.env.qual ++ "<lambda>") params body scope (cloFrom X.env.cells scope.names []) pm c' ctv)]) σ (upd H1 h'.objs.size (.lst (ks.map V.str))) { s2 with heap := h'.push (seqObj "list" acc.toList.toArray 0), toks := tk } :=
    I3.pins_of fun q hq => (List.mem_append.mp hq).elim (fun w => I3.pin q (List.mem_append_right _ w)) fun w => by
      rw [List.mem_singleton.mp w]
      exact ⟨hf3, by rw [upd_ne nf]; exact hfn, f1, f2, fun v w => by cases w⟩
  (refine wpAny_bind (wpAny_newList ?_ (by rw [hal, sizeLine_eq]; omega))); show wpAny _ _ _ _ _ { s2 with heap := h'.push (seqObj "list" acc.toList.toArray 0), toks := tk }
  refine wpAny_bind (wpAny_holding (wpAny_call_entry_kw PyProof.Rows.slot_list_sort ⟨_, hoA, rfl⟩ PyProof.Rows.entry_list_sort ?_ (PyProof.Rows.ksk_l1 _ _)))
  rw [PyProof.Rows.ksk_t1]
  refine sort_tree (g := g) (ks := ks) (fo := PySem.W.kla_obj "<lambda>" (X.env.qual ++ "<lambda>") params body scope (cloFrom X.env.cells scope.names []) pm c' ctv) H1 I4 (same_new nA _) nA (fun b hb => I2.hok.fresh (Nat.le_trans (by show h'.objs.size ≤ (h'.push _).objs.size; rw [size_push']; exact Nat.le_succ _) hb)) upd_same hoA hS h60 (fun v x' t H5 s5 ev hx I5 b5 => ?_) fun ys H6 s6 I6 b6 hA6 hperm hpw => ?_
  · have p5 := I5.pin (f, _) (List.mem_append_right _ (List.mem_append_right _ (List.mem_singleton_self _)))
    exact lam_call (k := k) (v := .str x') I5 L hj nd hjl ⟨t, ev⟩ p5.1 (b5 _ _ hco) (hbind _ _ _ _ _ _) (hr.in1.in1) rfl (fun s H E hr' => hbody _ s H E f c' hr') (turn H5 x' hx b5 _ fun H7 q s7 hq => ⟨s7, q, rfl, hq⟩)
  · exact ⟨_, rfl, wpAny_pure ⟨_, rfl, .ref h'.objs.size, H6, I6, rfl, q1 ys H6 _ b6 hA6 hperm hpw⟩⟩
end HW
set_option Elab.async false
set_option maxRecDepth 100000
set_option linter.all false
set_option maxHeartbeats 4000000
namespace HW
open PySem L2 LamX
/-! ### a def whose code object is known -/
structure FunC (K : PySem.W.Frag) (x qual : Str) (st : Stmt) (f : Addr) (fd : FuncData) (c : Addr) : Prop where
  ex : ∃ (oc : Value) (od : Option Addr) (kV doc pm : Value) (an : Option Addr) (ct : Value) (osl : Array (Option Value)),
    fd = PySem.W.fnOf x qual (defArgs st) (defBody st) (defScope st) .none kV doc pm an (.ref c) ct ∧ K.lookup f = some ⟨oc, od, .func fd, osl⟩ ∧ PySem.W.codeIn K (.ref c) qual = true
  (kp : PySem.W.keepIn K (.ref f) = true)
def DfC (K : PySem.W.Frag) (mg : Str → Option Value) (x : Str) (st : Stmt) (c : Addr) : Prop := ∃ (f : Addr) (fd : FuncData), FunC K x x st f fd c ∧ mg x = some (.ref f)
section
variable {P : Program} {w : World} {K : PySem.W.Frag} {mg : Str → Option Value} {base : Heap} {C : Addr}
theorem FunC.fn {x qual : Str} {st : Stmt} {f c : Addr} {fd : FuncData} (F : FunC K x qual st f fd c) : Fun K x qual st f fd := by
  obtain ⟨oc, od, kV, doc, pm, an, ct, osl, e, l, h⟩ := F.ex
  exact ⟨⟨oc, od, kV, doc, pm, an, .ref c, ct, osl, e, l, h⟩, F.kp⟩
theorem FunC.ok {x qual : Str} {st : Stmt} {f c : Addr} {fd : FuncData} {N ps : List Str} {k : Nat} {sp : Sp} (F : FunC K x qual st f fd c) (S : FnScope N ps (defScope st)) (len : ∀ vs H Q E, sp vs H Q E → vs.length = ps.length)
    (hb : ∀ (A : Around) (outer : List Env) (s : Shared) (H : Hp) (vs : List V) (Q : VK) (E : XK), Room k (A.deeper (PyProof.Rows.envOfC qual (defScope st) s.heap.objs.size f (.ref c))) → sp vs H Q E →
      ∃ t, PSs (cxOf C8.CX0 P w K mg base N qual (defScope st) f (.ref c) A outer s H E).nox (defBody st) t ∧ t { nx := fun _ H' => Q .non H', rt := Q } (L2.start N vs) H) : FnOk P w K mg base C8.CX0 (k + 1) f fd ps sp := by
  obtain ⟨oc, od, kV, doc, pm, an, ct, osl, rfl, lk, hcd⟩ := F.ex
  (refine fn_of lk hcd S len fun A outer s H vs Q E hr hsp => ?_); obtain ⟨t, h, q⟩ := hb A outer s H vs Q E hr hsp
  exact ⟨t, h.nox, q⟩
/-! ### all but the tables stays -/
theorem IsWhom.ext {H H' : Hp} {d : Addr} {N : List Str} {par : Str → Option Str} (h : IsWhom H d N par) (s : ExtN H H') : IsWhom H' d N par := s _ _ h fun _ z => by cases z
theorem T1.ext {H H' : Hp} {a : Addr} {xs : List V} (h : T1 H a xs) (s : ExtN H H') : T1 H' a xs := let ⟨o, e, d⟩ := h; ⟨o, s _ _ e (fun _ z => by cases z), d⟩
theorem IsWords1.ext {H H' : Hp} {d : Addr} {N : List Str} {ws : Str → List Str} (h : IsWords1 H d N ws) (s : ExtN H H') : IsWords1 H' d N ws := let ⟨f, e, p⟩ := h; ⟨f, s _ _ e (fun _ z => by cases z), fun n hn => (p n hn).ext s⟩
theorem IsStrs.ext {H H' : Hp} {a : Addr} {xs : List Str} (h : IsStrs H a xs) (s : ExtN H H') : IsStrs H' a xs := s _ _ h fun _ z => by cases z
theorem sx {H H' : Hp} (s : Same H H') : ExtN H H' := ExtN.of s
/-! ### the places, the highest first -/
theorem ln_up {N : List Str} {par : Str → Option Str} {r : Str → Nat} (W : OkWeb N par r) {x y : Str} (h : Up par x y) : (ln par y).length ≤ (ln par x).length ∧ (x ≠ y → (ln par y).length < (ln par x).length) := by
  induction h with
  | refl x => exact ⟨Nat.le_refl _, fun n => absurd rfl n⟩
  | @step x p y h1 h2 ih =>
    (have e : (ln par x).length = (ln par p).length + 1 := by rw [W.ln_some h1]; rfl); exact ⟨by omega, fun _ => by omega⟩
theorem mid_all {N O : List Str} {s : Str → List Str} (P : Pl s) (out : ∀ x, x ∉ N → s x = [x]) (hp : O.Perm N) : mid s O = s := by
  funext z
  show (if z ∈ O then s z else if (O.any fun q => decide (z ∈ s q)) = true then [] else [z]) = s z
  by_cases hz : z ∈ O
  · rw [if_pos hz]
  · rw [if_neg hz]
    have hzN : z ∉ N := fun h => hz (hp.mem_iff.mpr h)
    rw [if_neg, out z hzN]
    intro h
    obtain ⟨q, hq, hm⟩ := List.any_eq_true.mp h
    have hm' : z ∈ s q := of_decide_eq_true hm
    have hzz : z ∈ s z := by rw [out z hzN]; exact List.mem_singleton_self z
    rw [P.uniq z q z hm' hzz] at hq
    exact hz hq
theorem lam_free : ∀ y ∈ ([("name", .local), ("whom", .free), ("len", .globalImplicit), ("line_up", .globalImplicit)] : List (Str × NameKind)), y.2 = .free → (defScope s_from_behind).names.lookup y.1 = some .cell ∨ (defScope s_from_behind).names.lookup y.1 = some .free := by decide +kernel
abbrev lamT (Pt : Addr) : List (Addr × Str) := [(Pt, "from_behind" ++ ".<locals>." ++ "<lambda>")]
def tLam1 (K : PySem.W.Frag) : TE := tTup (tCons (tCB (fun xs H Q => ∃ p ys, xs = [V.ref p] ∧ (SqL K H p ys ∨ SqT K H p ys) ∧ Q (.int ys.length) H) (tCons (tCall spLineUp [] C8.E0 (tCons (tVar 0) (tCons (tVar 4) tNil))) tNil)) (tCons (tVar 4) tNil))
def spFromBehind (Pt : Addr) : Sp := fun vs H Q _ => ∃ d wd N par r s, vs = [.ref d, .ref wd] ∧ OkWeb N par r ∧ IsWhom H d N par ∧ IsWords1 H wd N s ∧ Pl s ∧ (∀ x, x ∉ N → s x = [x]) ∧ Unb par s ∧ Tabs (lamT Pt) H ∧
  ∀ H' l cs, ExtN H H' → Tabs (lamT Pt) H' → IsStrs H' l cs → run par home cs = s → (∀ c ∈ cs, ∃ p, par c = some p) → cs.length ≤ 400 → Q (.ref l) H'
theorem ok_from_behind {c Pt : Addr} (T : Txt K mg C) (TB : TabB base mg c Pt) (G_line_up : OkF P w K mg base "line_up" ["whom", "name"] 1 spLineUp) (G_gathered : OkF P w K mg base "gathered" ["whom", "word", "place"] 7 (spGathered K 4))
    (D : DfC K mg "from_behind" s_from_behind c) : OkF P w K mg base "from_behind" ["whom", "words"] 8 (spFromBehind Pt) := by
  obtain ⟨f, fd, F, g⟩ := D
  refine ⟨f, fd, g, F.kp, F.fn.binds (ps := ["whom", "words"]) fun _ _ _ _ _ _ us hl => match us, hl with | [_, _], _ => rfl, ?_⟩
  refine F.ok sc_from_behind (fun vs H Q E h => ?_) (fun A outer s H vs Q E hr h => ?_)
  · obtain ⟨d, wd, N, par, r, s, rfl, _⟩ := h
    rfl
  obtain ⟨d, wd, N, par, r, s, rfl, W, hd, hw, Ps, out, U, hT, k⟩ := h
  refine ⟨_, (pss_cons (ps_set (i := 2) sc_from_behind.nd rfl (.inl rfl) (pe_lst pa_nil))
  (pss_cons (ps_for PassesOwn.never rfl (pi_list (pe_sortKey (T := lamT Pt) (j := 4) (k := 1) (x := "name") (tb := tLam1 K) rfl sc_from_behind.nd (by rfl) T.sorted (pv 1) TB rfl (List.mem_singleton.mpr rfl) (fun p hp _ => by rw [List.mem_singleton.mp hp]; rfl) (hr.mono (by omega)) ⟨rfl, rfl, rfl, by decide +kernel, by decide +kernel, lam_free⟩ rfl (fun b hb => ⟨fun z => hb (by rw [z]; exact List.mem_cons_self), fun z => hb (List.mem_cons_of_mem _ z)⟩) rfl (fun _ _ _ _ _ _ => rfl) (fun Ax sx Hx Ex fx cx hrx => pe_tup (pa_cons (pe_callB call_len_seq (by rfl) T.len (by decide +kernel) (pa_cons (pe_f G_line_up hrx (by omega) (by rfl) (pa_cons (pv 0) (pa_cons (pv 4) pa_nil))) pa_nil)) (pa_cons (pv 4) pa_nil))))) (pg_name (i := 3) sc_from_behind.nd rfl (Or.inl rfl))
  (pss_one (ps_set (i := 2) sc_from_behind.nd rfl (.inl rfl) (pe_op op_cat (pv 2) (pe_f G_gathered hr (by omega) (by rfl) (pa_cons (pv 0) (pa_cons (pe_dget (hu_of hr) (pv 1) (pv 3) (fun _ _ => rfl)) (pa_cons (pv 3) pa_nil))))))))
  (pss_one (ps_ret (pv 2))))), ?_⟩
  refine ⟨Nat.zero_le _, fun l0 hl0 => ?_⟩
  have s0 := same_new hl0 (.lst [])
  have hw0 := hw.same s0
  obtain ⟨f0, hf0, _⟩ := id hw0
  refine ⟨_, rfl, wd, N, _, fun x => ((ln par x).length : Int), rfl, .inl hf0, keys_whom, by have := W.n4; omega, Nat.lt_succ_self 4, hT.ext s0, fun H1 e1 T1' => ⟨fun H2 x hx s2 Q' hq => ?_, fun ys H2 ls s2 hL hperm hpw => ?_⟩⟩
  · have hd2 := ((hd.same s0).ext e1).same s2
    refine ⟨_, rfl, _, rfl, d, N, par, r, x, rfl, W, hd2, hx, fun H3 m s3 _ hM => ?_⟩
    refine ⟨m, _, rfl, .inl (SqL.of hM), _, rfl, by show 2 ≤ sizeLine; rw [sizeLine_eq]; omega, fun q hq' => ?_⟩
    have e : ((ln par x).map V.str).length = (ln par x).length := List.length_map _
    refine hq _ q (s3.trans (same_new hq' _)) ?_
    show upd H3 q _ q = some (.tup [V.int ((ln par x).length : Int), V.str x])
    rw [upd_same, e]
  refine ⟨ls, rfl, ⟨_, SqL.of hL⟩, ?_⟩
  have e2 : ExtN H H2 := ((sx s0).trans e1).trans (sx s2)
  have T2 : Tabs (lamT Pt) H2 := T1'.ext s2
  have ndy : ys.Nodup := hperm.symm.nodup W.nd
  have inN : ∀ {x}, x ∈ ys → x ∈ N := fun h => hperm.mem_iff.mp h
  refine for_list (xs := ys.map V.str) (fun i σ H' => Same H2 H' ∧ ∃ l cs, IsStrs H' l cs ∧ Beh par s (ys.take i) cs ∧ cs.length ≤ 16 * i ∧ ∃ o, σ = [some (.ref d), some (.ref wd), some (.ref l), o, none]) ⟨Same.refl _, l0, [], s2 _ _ (e1 _ _ upd_same fun _ z => by cases z), .nil, Nat.zero_le _, _, rfl⟩ (fun i σ H' _ q => SqL.of (q.1 _ _ hL)) ?_ ?_
  · rintro i v σ H' hi ⟨s3, l, cs, hl, hB, hcl, o, rfl⟩
    rw [List.getElem?_map] at hi
    obtain ⟨p, hp, rfl⟩ := Option.map_eq_some_iff.mp hi
    have hpN := inN (List.mem_of_getElem? hp)
    have hd3 := (hd.ext e2).same s3
    obtain ⟨f3, hf3, hw3⟩ := (hw.ext e2).same s3
    refine ⟨_, rfl, _, rfl, _, rfl, _, rfl, wd, _, rfl, IsWords.get hf3 hpN, _, rfl, d, f3 p, N, par, r, p, s p, rfl, W, hd3, hpN, by omega, .inr (hw3 p hpN).sq, Nat.le_trans (pl_len Ps out hpN) W.n4, fun x hx => ⟨pl_in Ps out hpN hx, U.u1 _ _ hx⟩, fun H4 l1 cs1 s4 hl1 hG hcl1 => ?_⟩
    have hl4 := s4 _ _ hl
    have b1 : (s p).length ≤ 4 := Nat.le_trans (pl_len Ps out hpN) W.n4
    have hiy : i < ys.length := (List.getElem?_eq_some_iff.mp hp).1
    have ly : ys.length ≤ 4 := by rw [hperm.length_eq]; exact W.n4
    refine ⟨l, l1, _, _, rfl, rfl, hl4, hl1, ?_, fun u hu => ?_⟩
    · rw [List.length_map, List.length_map, sizeLine_eq]; omega
    have su := same_new hu (.lst (cs.map V.str ++ cs1.map V.str))
    refine ⟨(s3.trans s4).trans su, u, cs ++ cs1, ?_, ?_, ?_, _, rfl⟩
    · show upd _ u _ u = _
      rw [upd_same, List.map_append]
    · rw [take_snoc hp]
      exact .snoc hB hG
    · rw [List.length_append]; omega
  · rintro σ H' ⟨s3, l, cs, hl, hB, hcl, o, rfl⟩
    rw [List.length_map, List.take_length] at hB
    rw [List.length_map] at hcl
    have ly : ys.length ≤ 4 := by rw [hperm.length_eq]; exact W.n4
    have h1 : ∀ p x, x ∈ s p → x ≠ p → p ∈ ys := fun p x hx hne => by
      by_cases hpN : p ∈ N
      · exact hperm.mem_iff.mpr hpN
      · rw [out p hpN] at hx
        exact absurd (List.mem_singleton.mp hx) hne
    have h2 : ys.Pairwise fun x y => ¬ (Up par x y ∧ x ≠ y) := by
      refine List.Pairwise.imp (R := fun x y => ((ln par x).length : Int) ≤ ((ln par y).length : Int)) (fun {x y} h hxy => ?_) hpw
      have := (ln_up W hxy.1).2 hxy.2
      omega
    refine ⟨_, rfl, k _ _ cs (e2.trans (sx s3)) (T2.ext s3) hl ?_ hB.able (by omega)⟩
    rw [hB.does W.rk Ps U (all := ys) h1 ⟨[], by simp⟩ h2 ndy]
    exact mid_all Ps out hperm
def spFewestBy (Pt : Addr) : Sp := fun vs H Q _ => ∃ d wd N par r s, vs = [.ref d, .ref wd] ∧ OkWeb N par r ∧ IsWhom H d N par ∧ IsWords1 H wd N s ∧ Pl s ∧ (∀ x, x ∉ N → s x = [x]) ∧ Unb par s ∧ Tabs (lamT Pt) H ∧
  ∀ H' t cs, ExtN H H' → Tabs (lamT Pt) H' → IsStrT H' t cs → run par home cs.reverse = s → (∀ c ∈ cs, ∃ p, par c = some p) → cs.length ≤ 400 → Q (.ref t) H'
theorem ok_fewest_by {Pt : Addr} (T : Txt K mg C) (G_from_behind : OkF P w K mg base "from_behind" ["whom", "words"] 8 (spFromBehind Pt)) (D : Df K mg "fewest_by" s_fewest_by) : OkF P w K mg base "fewest_by" ["whom", "words"] 9 (spFewestBy Pt) := by
  obtain ⟨f, fd, F, g⟩ := D
  refine ⟨f, fd, g, F.kp, F.binds (ps := ["whom", "words"]) fun _ _ _ _ _ _ us hl => match us, hl with | [_, _], _ => rfl, ?_⟩
  refine F.ok sc_fewest_by (fun vs H Q E h => ?_) (fun cdv A outer s H vs Q E hr h => ?_)
  · obtain ⟨d, wd, N, par, r, s, rfl, _⟩ := h
    rfl
  obtain ⟨d, wd, N, par, r, s, rfl, W, hd, hw, Ps, out, U, hT, k⟩ := h
  refine ⟨_, (pss_one (ps_ret (pe_callTy call_tuple_of (by rfl) T.tuple (by decide +kernel) (pa_cons (pe_revL (pe_f G_from_behind hr (by omega) (by rfl) (pa_cons (pv 0) (pa_cons (pv 1) pa_nil)))) pa_nil)))), ?_⟩
  refine ⟨_, rfl, _, rfl, d, wd, N, par, r, s, rfl, W, hd, hw, Ps, out, U, hT, fun H1 l cs e1 T1' hl hrun hab hlen => ?_⟩
  refine ⟨l, _, rfl, SqL.of hl, fun p hp => ?_⟩
  have s1 := same_new hp (.lst (cs.map V.str).reverse)
  refine ⟨p, _, rfl, .inl ⟨SqL.of upd_same, fun t ht => ?_⟩⟩
  have s2 := same_new ht (.tup (cs.map V.str).reverse)
  refine k _ t cs.reverse ((e1.trans (sx s1)).trans (sx s2)) ((T1'.ext s1).ext s2) ?_ ?_ (fun c hc => hab c (List.mem_reverse.mp hc)) ?_
  · show upd _ t _ t = _
    rw [upd_same, List.map_reverse]
  · rw [List.reverse_reverse]; exact hrun
  · rw [List.length_reverse]; exact hlen
def spFewest (C Pt : Addr) : Sp := fun vs H Q _ => ∃ x N par r a ps, vs = [.ref x, .ref a] ∧ OkWeb N par r ∧ IsWeb C H x N par ∧ IsPiles1 H a ps ∧ IsPl N ps ∧ Unb par (wsOf N ps) ∧ Tabs (lamT Pt) H ∧
  ∀ H' t cs, ExtN H H' → Tabs (lamT Pt) H' → IsStrT H' t cs → run par home cs.reverse = wsOf N ps → (∀ c ∈ cs, ∃ p, par c = some p) → cs.length ≤ 400 → Q (.ref t) H'
theorem ok_fewest {Pt : Addr} (T : Txt K mg C) (G_coming : OkF P w K mg base "coming" ["web", "piles"] 5 (spComing C)) (G_fewest_by : OkF P w K mg base "fewest_by" ["whom", "words"] 9 (spFewestBy Pt)) (D : Df K mg "fewest" s_fewest) : OkF P w K mg base "fewest" ["web", "piles"] 10 (spFewest C Pt) := by
  obtain ⟨f, fd, F, g⟩ := D
  refine ⟨f, fd, g, F.kp, F.binds (ps := ["web", "piles"]) fun _ _ _ _ _ _ us hl => match us, hl with | [_, _], _ => rfl, ?_⟩
  refine F.ok sc_fewest (fun vs H Q E h => ?_) (fun cdv A outer s H vs Q E hr h => ?_)
  · obtain ⟨x, N, par, r, a, ps, rfl, _⟩ := h
    rfl
  obtain ⟨x, N, par, r, a, ps, rfl, W, hx, ha, hP, U, hT, k⟩ := h
  refine ⟨_, (pss_cons (ps_asg (pe_f G_coming hr (by omega) (by rfl) (pa_cons (pv 0) (pa_cons (pv 1) pa_nil))) (pg_tup rfl (pgs_cons (pg_name (i := 2) sc_fewest.nd rfl (Or.inl rfl)) (pgs_cons (pg_name (i := 3) sc_fewest.nd rfl (Or.inl rfl)) pgs_nil))))
  (pss_one (ps_ret (pe_f G_fewest_by hr (by omega) (by rfl) (pa_cons (pv 2) (pa_cons (pv 3) pa_nil)))))), ?_⟩
  refine ⟨_, rfl, _, rfl, x, N, par, r, a, ps, rfl, W, hx, ha, hP, U, fun H1 p d wd s1 hp hd hw => ?_⟩
  refine ⟨p, _, rfl, SqT.of hp, rfl, _, _, rfl, _, _, rfl, rfl, ?_⟩
  refine ⟨_, rfl, _, rfl, d, wd, N, par, r, _, rfl, W, hd, hw, wsOf_pl W.nd hP, fun _ h => wsOf_out h, U, hT.ext s1, fun H2 t cs e2 T2 ht hrun hab hlen => k _ t cs ((sx s1).trans e2) T2 ht hrun hab hlen⟩
end
end HW
set_option Elab.async false
set_option maxRecDepth 100000
set_option linter.all false
set_option maxHeartbeats 4000000
namespace HW
open PySem L2 LamX
section
variable {P : Program} {w : World} {K : PySem.W.Frag} {mg : Str → Option Value} {base : Heap} {C : Addr}
theorem p1 : (0 : Int) < 1000000093 := by decide
theorem p2 : (0 : Int) < 43003 := by decide
/-- a cell of the script, or a mixed one -/
def spCell (K : PySem.W.Frag) : Sp := fun vs H Q _ => ∃ a, ∃ ns : List Int, ∃ k : Nat, vs = [.ref a, .int (k : Int)] ∧ SqL K H a (ns.map V.int) ∧ k ≤ 63 ∧ ∀ H' z, Same H H' → Q (.int z) H'
theorem ok_l_cell (T : Txt K mg C) (D : Df K mg "_law_cell" s_l_cell) : OkF P w K mg base "_law_cell" ["_law_script", "_law_k"] 1 (spCell K) := by
  obtain ⟨f, fd, F, g⟩ := D
  refine ⟨f, fd, g, F.kp, F.binds (ps := ["_law_script", "_law_k"]) fun _ _ _ _ _ _ us hl => match us, hl with | [_, _], _ => rfl, ?_⟩
  refine F.ok sc_l_cell (fun vs H Q E h => ?_) (fun cdv A outer s H vs Q E hr h => ?_)
  · obtain ⟨a, ns, k, rfl, _⟩ := h
    rfl
  obtain ⟨a, ns, k, rfl, ha, hk, q⟩ := h
  refine ⟨_, (pss_cons (ps_if (pt_cmpR op_lt (pv 1) (pe_callB call_len_seq (by rfl) T.len (by decide +kernel) (pa_cons (pv 0) pa_nil)) (nomark _)) (pss_one (ps_ret (pe_ix ix_list (pv 0) (pv 1) (fun _ _ => rfl)))) pss_nil)
  (pss_cons (ps_set (i := 2) sc_l_cell.nd rfl (.inl rfl) (pe_op op_mod (pe_op op_mul pe_int (pe_op op_add (pe_op op_add (pe_op op_mul (pv 1) (pv 1)) (pe_op op_mul pe_int (pv 1))) pe_int)) pe_int))
  (pss_cons (ps_for PassesOwn.never rfl (pi_list (pe_slice sl_list (pv 0) po_none (po_some pe_int))) (pg_name (i := 3) sc_l_cell.nd rfl (Or.inl rfl))
  (pss_one (ps_set (i := 2) sc_l_cell.nd rfl (.inl rfl) (pe_op op_mod (pe_op op_add (pe_op op_mul (pv 2) pe_int) (pv 3)) pe_int))))
  (pss_one (ps_ret (pv 2)))))), ?_⟩
  refine ⟨_, rfl, _, rfl, a, _, rfl, .inl ha, _, _, rfl, rfl, _, rfl, ?_⟩
  rw [List.length_map]
  by_cases lt : k < ns.length
  · refine iteDT (by omega) ?_
    exact ⟨_, rfl, _, rfl, a, _, _, .int ns[k], rfl, rfl, ha, atN (by rw [List.getElem?_map, List.getElem?_eq_getElem lt]; rfl), q _ _ (Same.refl _)⟩
  · refine iteDF (by omega) ?_
    refine ⟨_, rfl, _, rfl, _, _, rfl, rfl, .inl ⟨by omega, by omega⟩, _, rfl, _, _, rfl, rfl, .inl ⟨by decide, by decide⟩, _, _, rfl, rfl, _, _, rfl, rfl, _, _, rfl, rfl, .inl ⟨by decide, by decide⟩, _, _, rfl, rfl, p1, ?_⟩
    have st0 : ∀ z : Int, 0 ≤ z % 1000000093 ∧ z % 1000000093 < 1000000093 := fun z => ⟨Int.emod_nonneg _ (by decide), Int.emod_lt_of_pos _ (by decide)⟩
    refine ⟨_, rfl, 3, rfl, a, _, rfl, ha, fun p hp => ⟨p, rfl, ⟨_, SqL.of upd_same⟩, ?_⟩⟩
    have hcut : ∃ ms : List Int, cutV (ns.map V.int) none (some 3) = ms.map V.int := by
      refine ⟨(ns.drop (HT.sIx (ns.map V.int).length 0 none)).take (HT.sIx (ns.map V.int).length (ns.map V.int).length (some 3) - HT.sIx (ns.map V.int).length 0 none), ?_⟩
      (unfold cutV); rw [List.map_take, List.map_drop]
    obtain ⟨ms, hms⟩ := hcut
    rw [hms]
    have s1 := same_new hp (.lst (ms.map V.int))
    refine for_list (xs := ms.map V.int) (fun i σ H' => Same H H' ∧ H' p = some (.lst (ms.map V.int)) ∧ ∃ z o, (0 ≤ z ∧ z < 1000000093) ∧ σ = [some (.ref a), some (.int (k : Int)), some (.int z), o]) ⟨s1, upd_same, _, _, st0 _, rfl⟩ (fun i σ H' _ z => SqL.of z.2.1) ?_ ?_
    · rintro i v σ H' hi ⟨s2, hp2, z, o, hz, rfl⟩
      rw [List.getElem?_map] at hi
      obtain ⟨m, _, rfl⟩ := Option.map_eq_some_iff.mp hi
      refine ⟨_, rfl, _, _, rfl, rfl, .inl ⟨by omega, by omega⟩, _, rfl, _, _, rfl, rfl, _, _, rfl, rfl, p1, s2, hp2, _, _, st0 _, rfl⟩
    · rintro σ H' ⟨s2, _, z, o, _, rfl⟩
      exact ⟨_, rfl, q _ _ s2⟩
/-! ### the purse -/
def IsPurse (H : Hp) (p : Addr) : Prop := ∃ a b c : Int, H p = some (.lst [.int a, .int b, .int c])
/-- all but p stays -/
def Keep (p : Addr) (H H' : Hp) : Prop := ∀ b u, b ≠ p → H b = some u → H' b = some u
theorem Keep.refl (p : Addr) (H : Hp) : Keep p H H := fun _ _ _ h => h
theorem Keep.trans {p : Addr} {H H1 H2 : Hp} (a : Keep p H H1) (b : Keep p H1 H2) : Keep p H H2 := fun c u n h => b c u n (a c u n h)
theorem kp_of {p : Addr} {H H' : Hp} (s : Same H H') : Keep p H H' := fun b u _ h => s b u h
theorem kp_upd {p : Addr} {H H' : Hp} (o : HO) (k : Keep p H H') : Keep p H (upd H' p o) := fun b u n h => by rw [upd_ne n]; exact k b u n h
def spPurse : Sp := fun vs H Q _ => ∃ z, vs = [.int z] ∧ ∀ H' p, Same H H' → H p = none → IsPurse H' p → Q (.ref p) H'
theorem ok_l_purse (T : Txt K mg C) (D : Df K mg "_law_purse" s_l_purse) : OkF P w K mg base "_law_purse" ["_law_cell_here"] 1 spPurse := by
  obtain ⟨f, fd, F, g⟩ := D
  refine ⟨f, fd, g, F.kp, F.binds (ps := ["_law_cell_here"]) fun _ _ _ _ _ _ us hl => match us, hl with | [_], _ => rfl, ?_⟩
  refine F.ok sc_l_purse (fun vs H Q E h => ?_) (fun cdv A outer s H vs Q E hr h => ?_)
  · obtain ⟨z, rfl, _⟩ := h
    rfl
  obtain ⟨z, rfl, k⟩ := h
  refine ⟨_, (pss_cons (ps_set (i := 1) sc_l_purse.nd rfl (.inl rfl) pe_int)
  (pss_cons (ps_if ((pw_or (pt_cmpR op_lt (pv 0) pe_int (nomark _)) (pw_or1 (pt_cmpR op_ge (pv 0) (pe_op op_pow pe_int pe_int) (nomark _))))).pt (pss_one (ps_set (i := 1) sc_l_purse.nd rfl (.inl rfl) (pe_callB call_abs (by rfl) T.abs (by decide +kernel) (pa_cons (pv 0) pa_nil)))) pss_nil)
  (pss_one (ps_ret (pe_lst (pa_cons (pe_op op_mod (pv 0) pe_int) (pa_cons (pv 1) (pa_cons pe_int pa_nil)))))))), ?_⟩
  have fin : ∀ dg : Int, (tRet (tLst (tCons (tOp (rI (fun _ j => 0 < j) fun i j => .int (i % j)) (tVar 0) (tC (.int 1000000093))) (tCons (tVar 1) (tCons (tC (.int 0)) tNil))))) { nx := fun x H' => Q V.non H', rt := Q } [some (.int z), some (.int dg)] H := fun dg =>
    ⟨_, rfl, _, _, rfl, rfl, p1, _, rfl, by show 3 ≤ sizeLine; rw [sizeLine_eq]; omega, fun p hp => k _ _ (same_new hp _) hp ⟨_, _, _, upd_same⟩⟩
  have ab : ∀ H0 : Prop, (∀ dg : Int, H0) → H0 := fun _ h => h 0
  refine ⟨_, rfl, _, _, rfl, rfl, _, rfl, ?_⟩
  by_cases neg : z < 0
  · refine iteDT neg (iteT ?_)
    exact ⟨_, rfl, z, rfl, fin _⟩
  · refine iteDF neg ?_
    refine ⟨_, rfl, _, _, rfl, rfl, ⟨by decide, by decide, by decide⟩, _, _, rfl, rfl, _, rfl, ?_⟩
    by_cases big : (10 : Int) ^ (18 : Int).toNat ≤ z
    · refine iteDT big ?_
      exact ⟨_, rfl, z, rfl, fin _⟩
    · exact iteDF big (fin _)
/-- a number below most is drawn -/
def spTake : Sp := fun vs H Q _ => ∃ p m, vs = [.ref p, .int m] ∧ IsPurse H p ∧ 0 < m ∧ m < 1000 ∧ ∀ H' z, Keep p H H' → IsPurse H' p → 0 ≤ z → z < m → Q (.int z) H'
theorem ok_l_take (T : Txt K mg C) (D : Df K mg "_law_take" s_l_take) : OkF P w K mg base "_law_take" ["_law_purse_here", "_law_most"] 1 spTake := by
  obtain ⟨f, fd, F, g⟩ := D
  refine ⟨f, fd, g, F.kp, F.binds (ps := ["_law_purse_here", "_law_most"]) fun _ _ _ _ _ _ us hl => match us, hl with | [_, _], _ => rfl, ?_⟩
  refine F.ok sc_l_take (fun vs H Q E h => ?_) (fun cdv A outer s H vs Q E hr h => ?_)
  · obtain ⟨p, m, rfl, _⟩ := h
    rfl
  obtain ⟨p, m, rfl, ⟨a, b, c, hp⟩, m0, m1, k⟩ := h
  refine ⟨_, (pss_cons (ps_asg (pe_op op_add (pe_ix ix_list (pv 0) pe_int (fun _ _ => rfl)) pe_int) (pg_sub (pv 0) pe_int set_list))
  (pss_cons (ps_set (i := 2) sc_l_take.nd rfl (.inl rfl) (pe_ix ix_list (pv 0) pe_int (fun _ _ => rfl)))
  (pss_cons (ps_asg (pe_op op_mod (pe_op op_add (pe_op op_mul (pv 2) (pe_op op_add (pe_op op_mod (pv 2) pe_int) pe_int)) (pe_op op_mul pe_int (pe_ix ix_list (pv 0) pe_int (fun _ _ => rfl)))) pe_int) (pg_sub (pv 0) pe_int set_list))
  (pss_cons (ps_if (pt_cmpR op_gt (pe_ix ix_list (pv 0) pe_int (fun _ _ => rfl)) pe_int (nomark _)) (pss_cons (ps_asg (pe_callB call_divmod (by rfl) T.divmod (by decide +kernel) (pa_cons (pe_ix ix_list (pv 0) pe_int (fun _ _ => rfl)) (pa_cons (pv 1) pa_nil))) (pg_tup rfl (pgs_cons (pg_sub (pv 0) pe_int set_list) (pgs_cons (pg_name (i := 3) sc_l_take.nd rfl (Or.inl rfl)) pgs_nil))))
  (pss_one (ps_ret (pv 3)))) pss_nil)
  (pss_one (ps_ret (pe_op op_mod (pe_op op_fdiv (pe_ix ix_list (pv 0) pe_int (fun _ _ => rfl)) pe_int) (pv 1)))))))), ?_⟩
  refine ⟨_, rfl, p, _, _, .int c, rfl, rfl, SqL.of hp, atN (j := 2) rfl, _, _, rfl, rfl, _, rfl, p, _, _, 2, rfl, rfl, hp, rfl, ?_⟩
  generalize eA : upd H p (.lst ([V.int a, V.int b, V.int c].set 2 (V.int (c + 1)))) = HA
  have hA : HA p = some (.lst [.int a, .int b, .int (c + 1)]) := by rw [← eA]; exact upd_same
  have kA : Keep p H HA := by rw [← eA]; exact kp_upd _ (Keep.refl _ _)
  refine ⟨_, rfl, p, _, _, .int a, rfl, rfl, SqL.of hA, atN (j := 0) rfl, ?_⟩
  refine ⟨_, rfl, _, rfl, _, _, rfl, rfl, p2, _, _, rfl, rfl, _, _, rfl, rfl, .inr ⟨?_, ?_⟩, ?_⟩
  · have := Int.emod_nonneg a (b := 43003) (by decide); omega
  · have := Int.emod_lt_of_pos a (b := 43003) (by decide); omega
  refine ⟨_, rfl, p, _, _, .int (c + 1), rfl, rfl, SqL.of hA, atN (j := 2) rfl, _, _, rfl, rfl, .inl ⟨by decide, by decide⟩, _, _, rfl, rfl, _, _, rfl, rfl, p1, ?_⟩
  refine ⟨_, rfl, p, _, _, 0, rfl, rfl, hA, rfl, ?_⟩
  generalize eB : upd HA p (.lst ([V.int a, V.int b, V.int (c + 1)].set 0 ((fun i j => V.int (i % j)) (a * (a % 43003 + 29009) + 60037 * (c + 1)) 1000000093))) = HB
  obtain ⟨a2, hB⟩ : ∃ a2, HB p = some (.lst [.int a2, .int b, .int (c + 1)]) := ⟨_, by rw [← eB]; exact upd_same⟩
  have kB : Keep p H HB := by rw [← eB]; exact kp_upd _ kA
  refine ⟨_, rfl, p, _, _, .int b, rfl, rfl, SqL.of hB, atN (j := 1) rfl, _, _, rfl, rfl, _, rfl, ?_⟩
  by_cases pos : 0 < b
  · refine iteDT pos ?_
    refine ⟨_, rfl, p, _, _, .int b, rfl, rfl, SqL.of hB, atN (j := 1) rfl, _, rfl, b, m, rfl, ⟨m0, by omega⟩, fun t ht => ?_⟩
    have kC : Keep p H (upd HB t (.tup [.int (b / m), .int (b % m)])) := kB.trans (kp_of (same_new ht _))
    have hC := same_new ht (.tup [.int (b / m), .int (b % m)]) _ _ hB
    refine ⟨t, _, rfl, SqT.of upd_same, rfl, _, _, rfl, _, rfl, p, _, _, 1, rfl, rfl, hC, rfl, _, _, rfl, rfl, _, rfl, ?_⟩
    exact k _ _ (kp_upd _ kC) ⟨_, _, _, upd_same⟩ (Int.emod_nonneg _ (by omega)) (Int.emod_lt_of_pos _ m0)
  · refine iteDF pos ?_
    refine ⟨_, rfl, p, _, _, .int a2, rfl, rfl, SqL.of hB, atN (j := 0) rfl, _, _, rfl, rfl, ⟨by decide, by decide⟩, _, rfl, _, _, rfl, rfl, m0, ?_⟩
    exact k _ _ kB ⟨_, _, _, hB⟩ (Int.emod_nonneg _ (by omega)) (Int.emod_lt_of_pos _ m0)
end
end HW
set_option Elab.async false
set_option maxRecDepth 100000
set_option linter.all false
set_option maxHeartbeats 4000000
namespace HW
open PySem L2
abbrev Steps (s : Int) : Prop := s = 1 ∨ s = 5 ∨ s = 7 ∨ s = 11
theorem mod12 {a s : Int} {i j : Nat} (hs : Steps s) (hi : i < 4) (hj : j < 4) (h : (a + s * i) % 12 = (a + s * j) % 12) : i = j := by
  rcases hs with rfl | rfl | rfl | rfl <;> omega
theorem mod26 {a s : Int} {i j : Nat} (hs : Steps s) (hi : i < 4) (hj : j < 4) (h : (a + s * i) % 26 = (a + s * j) % 26) : i = j := by
  rcases hs with rfl | rfl | rfl | rfl <;> omega
def W12 : List Str := ["call", "join", "part", "turn", "back", "row", "web", "piles", "log", "way", "rests", "share"]
theorem w12_nd : W12.Nodup := by decide +kernel
theorem w12_ok : ∀ x ∈ W12, NameOk x := by
  have h : ∀ x ∈ W12, 1 ≤ x.length ∧ x.length ≤ 6 ∧ ∀ c ∈ x.cps.toList, c ∈ letters.cps.toList := by decide +kernel
  exact fun x hx => ⟨(h x hx).1, (h x hx).2.1, (h x hx).2.2⟩
def ix12 (a s : Int) (k : Nat) : Nat := ((a + s * k) % 12).toNat
def ix26 (a s : Int) (k : Nat) : Nat := ((a + s * k) % 26).toNat
theorem ix12_lt (a s : Int) (k : Nat) : ix12 a s k < 12 := by
  unfold ix12
  have := Int.emod_lt_of_pos (a + s * k) (b := 12) (by decide)
  have := Int.emod_nonneg (a + s * k) (b := 12) (by decide)
  omega
theorem ix26_lt (a s : Int) (k : Nat) : ix26 a s k < 26 := by
  unfold ix26
  have := Int.emod_lt_of_pos (a + s * k) (b := 26) (by decide)
  have := Int.emod_nonneg (a + s * k) (b := 26) (by decide)
  omega
theorem ix12_int (a s : Int) (k : Nat) : ((ix12 a s k : Nat) : Int) = (a + s * k) % 12 := by
  unfold ix12
  have := Int.emod_nonneg (a + s * k) (b := 12) (by decide)
  omega
theorem ix26_int (a s : Int) (k : Nat) : ((ix26 a s k : Nat) : Int) = (a + s * k) % 26 := by
  unfold ix26
  have := Int.emod_nonneg (a + s * k) (b := 26) (by decide)
  omega
def pick (a s : Int) (k : Nat) : Str := W12.getD (ix12 a s k) ""
theorem pick_at (a s : Int) (k : Nat) : W12[ix12 a s k]? = some (pick a s k) := by
  unfold pick
  (rw [List.getD_eq_getElem?_getD]); have h : ix12 a s k < W12.length := ix12_lt a s k
  rw [List.getElem?_eq_getElem h]
  rfl
theorem pick_inj {a s : Int} (hs : Steps s) {i j : Nat} (hi : i < 4) (hj : j < 4) (h : pick a s i = pick a s j) : i = j := by
  have h1 := pick_at a s i
  have h2 := pick_at a s j
  rw [h] at h1
  obtain ⟨l1, e1⟩ := List.getElem?_eq_some_iff.mp h1
  obtain ⟨l2, e2⟩ := List.getElem?_eq_some_iff.mp h2
  have e := (List.getElem_inj w12_nd).mp (e1.trans e2.symm)
  refine mod12 (a := a) hs hi hj ?_
  rw [← ix12_int, ← ix12_int, e]
def letC (a s : Int) (k : Nat) : Nat := letters.cps.toList.getD (ix26 a s k) 0
theorem letters_len : letters.cps.toList.length = 26 := by decide +kernel
theorem letters_nd : letters.cps.toList.Nodup := by decide +kernel
theorem letC_at (a s : Int) (k : Nat) : letters.cps.toList[ix26 a s k]? = some (letC a s k) := by
  unfold letC
  (rw [List.getD_eq_getElem?_getD]); have h : ix26 a s k < letters.cps.toList.length := by rw [letters_len]; exact ix26_lt a s k
  rw [List.getElem?_eq_getElem h]
  rfl
theorem letC_inj {a s : Int} (hs : Steps s) {i j : Nat} (hi : i < 4) (hj : j < 4) (h : letC a s i = letC a s j) : i = j := by
  have h1 := letC_at a s i
  have h2 := letC_at a s j
  rw [h] at h1
  obtain ⟨l1, e1⟩ := List.getElem?_eq_some_iff.mp h1
  obtain ⟨l2, e2⟩ := List.getElem?_eq_some_iff.mp h2
  have e := (List.getElem_inj letters_nd).mp (e1.trans e2.symm)
  refine mod26 (a := a) hs hi hj ?_
  rw [← ix26_int, ← ix26_int, e]
theorem cps_app (x y : Str) : (x ++ y).cps.toList = x.cps.toList ++ y.cps.toList := by
  show (x.cps ++ y.cps).toList = _
  simp
theorem len_cps (x : Str) : x.length = x.cps.toList.length := by
  show x.cps.size = _
  simp
/-- a sign put into a stem -/
def putIn (stem : Str) (n : Nat) (c : Nat) : Str := cutS stem none (some (n : Int)) ++ ⟨#[c]⟩ ++ cutS stem (some (n : Int)) none
theorem putIn_cps {stem : Str} {n c : Nat} (hn : n ≤ stem.length) : (putIn stem n c).cps.toList = stem.cps.toList.take n ++ c :: stem.cps.toList.drop n := by
  unfold putIn
  rw [cps_app, cps_app]
  have e1 : (cutS stem none (some (n : Int))).cps.toList = stem.cps.toList.take n := by
    have h1 : HT.sIx stem.length 0 none = 0 := rfl
    have h2 : HT.sIx stem.length stem.length (some (n : Int)) = n := by
      show (if (n : Int) < 0 then ((n : Int) + stem.length).toNat else min (n : Int).toNat stem.length) = n
      rw [if_neg (by omega), Int.toNat_natCast, Nat.min_eq_left hn]
    unfold cutS
    rw [h1, h2]
    simp
  have e2 : (cutS stem (some (n : Int)) none).cps.toList = stem.cps.toList.drop n := by
    have h1 : HT.sIx stem.length 0 (some (n : Int)) = n := by
      show (if (n : Int) < 0 then ((n : Int) + stem.length).toNat else min (n : Int).toNat stem.length) = n
      rw [if_neg (by omega), Int.toNat_natCast, Nat.min_eq_left hn]
    have h2 : HT.sIx stem.length stem.length none = stem.length := rfl
    unfold cutS
    rw [h1, h2]
    show (stem.cps.toList.drop n).take (stem.length - n) = _
    rw [List.take_of_length_le (by rw [List.length_drop, ← len_cps]; exact Nat.le_refl _)]
  rw [e1, e2]
  simp
theorem putIn_inj {stem : Str} {n c d : Nat} (hn : n ≤ stem.length) (h : putIn stem n c = putIn stem n d) : c = d := by
  have e : (putIn stem n c).cps.toList = (putIn stem n d).cps.toList := by rw [h]
  rw [putIn_cps hn, putIn_cps hn] at e
  have := List.append_cancel_left e
  exact (List.cons.inj this).1
theorem putIn_ok {stem : Str} {n c : Nat} (hn : n ≤ stem.length) (hl : stem.length ≤ 5) (hc : c ∈ letters.cps.toList) (hs : ∀ d ∈ stem.cps.toList, d ∈ letters.cps.toList) : NameOk (putIn stem n c) := by
  have ls := len_cps stem
  refine ⟨?_, ?_, fun d hd => ?_⟩
  · rw [len_cps, putIn_cps hn, List.length_append, List.length_cons]
    omega
  · rw [len_cps, putIn_cps hn, List.length_append, List.length_cons, List.length_take, List.length_drop]
    omega
  · rw [putIn_cps hn] at hd
    rcases List.mem_append.mp hd with h | h
    · exact hs d (List.mem_of_mem_take h)
    · rcases List.mem_cons.mp h with h | h
      · rw [h]; exact hc
      · exact hs d (List.mem_of_mem_drop h)
/-- what a row of titles is -/
structure Titles (N : List Str) (n : Nat) : Prop where
  len : N.length = n
  nd : N.Nodup
  srt : N.Pairwise fun a b => a.cps.toList < b.cps.toList
  ok : ∀ x ∈ N, NameOk x
theorem titles_of {xs ys : List Str} {n : Nat} (hl : xs.length = n) (hn : xs.Nodup) (ho : ∀ x ∈ xs, NameOk x) (hp : ys.Perm xs) (hs : PyProof.Rows.sortedS ys = true) : Titles ys n := by
  have nd : ys.Nodup := hp.symm.nodup hn
  refine ⟨hp.length_eq.trans hl, nd, ?_, fun x hx => ho x (hp.mem_iff.mp hx)⟩
  have h1 := sortedS_pw hs
  refine List.Pairwise.imp₂ (R := fun a b : Str => ¬ b.cps.toList < a.cps.toList) (S := fun a b => a ≠ b) (fun a b h1 h2 => ?_) h1 nd
  rcases cps_tri a.cps.toList b.cps.toList with h | h | h
  · exact h
  · exact absurd (str_ext h) h2
  · exact absurd h h1
theorem range_nodup {α : Type} {f : Nat → α} {n : Nat} (h : ∀ i j, i < n → j < n → f i = f j → i = j) : ((List.range n).map f).Nodup := by
  refine List.pairwise_map.mpr (List.pairwise_iff_getElem.mpr fun i j hi hj hij => ?_)
  rw [List.length_range] at hi hj
  rw [List.getElem_range, List.getElem_range]
  intro e
  have := h i j hi hj e
  omega
theorem joinL_nil : ∀ l : List (List Nat), TL.joinL [] l = l.flatten
  | [] => rfl
  | [p] => by simp [TL.joinL]
  | p :: q :: r => by
    show p ++ ([] ++ TL.joinL [] (q :: r)) = _
    rw [joinL_nil (q :: r)]
    simp
theorem join_cps (ys : List Str) : (Txt.join "" ys).cps.toList = (ys.map fun y => y.cps.toList).flatten := by
  have h := TL.tl_join "" ys
  have e : TL.tl ("" : Str) = [] := rfl
  rw [e, joinL_nil] at h
  rw [TL.join_eq]
  exact h
end HW
set_option Elab.async false
set_option maxRecDepth 100000
set_option linter.all false
set_option maxHeartbeats 4000000
namespace HW
open PySem L2 LamX
section
variable {P : Program} {w : World} {K : PySem.W.Frag} {mg : Str → Option Value} {base : Heap} {C : Addr}
theorem IsPurse.keep {H H' : Hp} {p d : Addr} (h : IsPurse H p) (hd : H d = none) (k : Keep d H H') : IsPurse H' p := by
  obtain ⟨a, b, c, e⟩ := h
  exact ⟨a, b, c, k _ _ (fun z => by rw [z, hd] at e; cases e) e⟩
theorem IsPurse.same {H H' : Hp} {p : Addr} (h : IsPurse H p) (k : Same H H') : IsPurse H' p := let ⟨a, b, c, e⟩ := h; ⟨a, b, c, k _ _ e⟩
theorem IsPurse.ne {H : Hp} {p d : Addr} (h : IsPurse H p) (hd : H d = none) : p ≠ d := fun z => by
  obtain ⟨a, b, c, e⟩ := h
  rw [z, hd] at e
  cases e
theorem atNs {α : Type} {xs : List α} {j : Nat} {v : α} (h : xs[j]? = some v) : atI xs (j : Int) = some v := by
  have hj := (List.getElem?_eq_some_iff.mp h).1
  have e : (ixN xs.length (j : Int)) = some j := by
    (unfold ixN); rw [if_pos (by omega), if_pos (by omega)]
    rfl
  show (ixN xs.length (j : Int)).bind (fun j => xs[j]?) = some v
  rw [e]
  exact h
theorem flat_single (cs : List Nat) : (cs.map ((fun y : Str => y.cps.toList) ∘ fun c => (⟨#[c]⟩ : Str))).flatten = cs := by
  induction cs with
  | nil => rfl
  | cons c l ih =>
    rw [List.map_cons, List.flatten_cons, ih]
    rfl
theorem sum_single (cs : List Nat) : (cs.map ((fun x : Str => x.length) ∘ fun c => (⟨#[c]⟩ : Str))).sum = cs.length := by
  induction cs with
  | nil => rfl
  | cons c l ih =>
    rw [List.map_cons, List.sum_cons, ih, List.length_cons]
    show 1 + l.length = _
    omega
def spTitles : Sp := fun vs H Q _ => ∃ p, ∃ n : Nat, vs = [.ref p, .int (n : Int)] ∧ IsPurse H p ∧ 1 ≤ n ∧ n ≤ 4 ∧ ∀ H' l N, Keep p H H' → IsPurse H' p → H l = none → IsStrs H' l N → Titles N n → Q (.ref l) H'
theorem ok_l_titles (T : Txt K mg C) (G_l_take : OkF P w K mg base "_law_take" ["_law_purse_here", "_law_most"] 1 spTake) (D : Df K mg "_law_titles" s_l_titles) : OkF P w K mg base "_law_titles" ["_law_purse_here", "_law_size"] 2 spTitles := by
  obtain ⟨f, fd, F, g⟩ := D
  refine ⟨f, fd, g, F.kp, F.binds (ps := ["_law_purse_here", "_law_size"]) fun _ _ _ _ _ _ us hl => match us, hl with | [_, _], _ => rfl, ?_⟩
  refine F.ok sc_l_titles (fun vs H Q E h => ?_) (fun cdv A outer s H vs Q E hr h => ?_)
  · obtain ⟨p, n, rfl, _⟩ := h
    rfl
  obtain ⟨p, n, rfl, hp, n1, n4, k⟩ := h
  refine ⟨_, (pss_cons (ps_set (i := 2) sc_l_titles.nd rfl (.inr rfl) (pe_lst (pa_cons pe_str (pa_cons pe_str (pa_cons pe_str (pa_cons pe_str (pa_cons pe_str (pa_cons pe_str (pa_cons pe_str (pa_cons pe_str (pa_cons pe_str (pa_cons pe_str (pa_cons pe_str (pa_cons pe_str pa_nil))))))))))))))
  (pss_cons (ps_asg (pe_tup (pa_cons (pe_f G_l_take hr (by omega) (by rfl) (pa_cons (pv 0) (pa_cons pe_int pa_nil))) (pa_cons (pe_ix ix_list (pe_lst (pa_cons pe_int (pa_cons pe_int (pa_cons pe_int (pa_cons pe_int pa_nil))))) (pe_f G_l_take hr (by omega) (by rfl) (pa_cons (pv 0) (pa_cons pe_int pa_nil))) (fun _ _ => rfl)) pa_nil))) (pg_tup rfl (pgs_cons (pg_name (i := 3) sc_l_titles.nd rfl (Or.inr rfl)) (pgs_cons (pg_name (i := 4) sc_l_titles.nd rfl (Or.inr rfl)) pgs_nil))))
  (pss_cons (ps_if (pt_cmpR op_eq (pe_f G_l_take hr (by omega) (by rfl) (pa_cons (pv 0) (pa_cons pe_int pa_nil))) pe_int (nomark _)) (pss_one (ps_ret (pe_callB cr_sortedS (by rfl) T.sorted (by decide +kernel) (pa_cons (pe_lc (own := [("_law_k", 10)]) (g := (gName 10)) (tt := tYes) (te := (tOp (rIxL K) (tVar 2) (tOp (rI (fun _ j => 0 < j) fun i j => .int (i % j)) (tOp (rI0 fun i j => .int (i + j)) (tVar 3) (tOp (rI CMul fun i j => .int (i * j)) (tVar 4) (tVar 10))) (tC (.int 12))))) rfl sc_l_titles.nd (pi_range1 (by rfl) T.range (pa_cons (pv 1) pa_nil)) (blkOk_by (N := ["_law_purse_here", "_law_size", "_law_words", "_law_first", "_law_step", "_law_letters", "_law_stem", "_law_put", "_law_begin", "_law_found", "_law_k", "_law_sign"]) (sc := defScope s_l_titles) (by decide +kernel)) (fun _ _ _ _ _ => (pg_name (i := 10) sc_l_titles.nd rfl (Or.inl rfl))) (fun _ _ _ _ _ => pts_nil) (fun _ _ _ _ _ => (pe_ix ix_list (pv 2) (pe_op op_mod (pe_op op_add (pv 3) (pe_op op_mul (pv 4) (pv 10))) pe_int) (fun _ _ => rfl)))) pa_nil)))) pss_nil)
  (pss_cons (ps_set (i := 5) sc_l_titles.nd rfl (.inr rfl) pe_str)
  (pss_cons (ps_set (i := 6) sc_l_titles.nd rfl (.inr rfl) (pe_join pe_str (pe_lc (own := [("_law_k", 10)]) (g := (gName 10)) (tt := tYes) (te := (tOp rIxS (tVar 5) (tCall spTake [] E0 (tCons (tVar 0) (tCons (tC (.int 26)) tNil))))) rfl sc_l_titles.nd (pi_range1 (by rfl) T.range (pa_cons (pe_f G_l_take hr (by omega) (by rfl) (pa_cons (pv 0) (pa_cons pe_int pa_nil))) pa_nil)) (blkOk_by (N := ["_law_purse_here", "_law_size", "_law_words", "_law_first", "_law_step", "_law_letters", "_law_stem", "_law_put", "_law_begin", "_law_found", "_law_k", "_law_sign"]) (sc := defScope s_l_titles) (by decide +kernel)) (fun _ _ _ _ _ => (pg_name (i := 10) sc_l_titles.nd rfl (Or.inl rfl))) (fun _ _ _ _ _ => pts_nil) (fun _ _ _ _ _ => (pe_ix ix_str (pv 5) (pe_f G_l_take hr (by omega) (by rfl) (pa_cons (pv 0) (pa_cons pe_int pa_nil))) (fun _ _ => rfl))))))
  (pss_cons (ps_asg (pe_tup (pa_cons (pe_f G_l_take hr (by omega) (by rfl) (pa_cons (pv 0) (pa_cons (pe_op op_add (pe_callB call_len_str (by rfl) T.len (by decide +kernel) (pa_cons (pv 6) pa_nil)) pe_int) pa_nil))) (pa_cons (pe_f G_l_take hr (by omega) (by rfl) (pa_cons (pv 0) (pa_cons pe_int pa_nil))) pa_nil))) (pg_tup rfl (pgs_cons (pg_name (i := 7) sc_l_titles.nd rfl (Or.inr rfl)) (pgs_cons (pg_name (i := 8) sc_l_titles.nd rfl (Or.inr rfl)) pgs_nil))))
  (pss_cons (ps_setLc (i := 9) (own := [("_law_k", 10)]) (g := (gName 10)) (tt := tYes) (te := (tOp rIxS (tVar 5) (tOp (rI (fun _ j => 0 < j) fun i j => .int (i % j)) (tOp (rI0 fun i j => .int (i + j)) (tVar 8) (tOp (rI CMul fun i j => .int (i * j)) (tVar 4) (tVar 10))) (tC (.int 26))))) rfl sc_l_titles.nd rfl rfl (by rfl) (pi_range1 (by rfl) T.range (pa_cons (pv 1) pa_nil)) (blkOk_by (N := ["_law_purse_here", "_law_size", "_law_words", "_law_first", "_law_step", "_law_letters", "_law_stem", "_law_put", "_law_begin", "_law_found", "_law_k", "_law_sign"]) (sc := defScope s_l_titles) (by decide +kernel)) (fun _ _ _ _ _ => (pg_name (i := 10) sc_l_titles.nd rfl (Or.inl rfl))) (fun _ _ _ _ _ => pts_nil) (fun _ _ _ _ _ => (pe_ix ix_str (pv 5) (pe_op op_mod (pe_op op_add (pv 8) (pe_op op_mul (pv 4) (pv 10))) pe_int) (fun _ _ => rfl))))
  (pss_one (ps_ret (pe_callB cr_sortedS (by rfl) T.sorted (by decide +kernel) (pa_cons (pe_lc (own := [("_law_sign", 11)]) (g := (gName 11)) (tt := tYes) (te := (tOp (fun x y H Q => ∃ i j, x = .str i ∧ y = .str j ∧ i.length + j.length ≤ sizeLine ∧ Q (.str (i ++ j)) H) (tOp (fun x y H Q => ∃ i j, x = .str i ∧ y = .str j ∧ i.length + j.length ≤ sizeLine ∧ Q (.str (i ++ j)) H) (tSl rSlS (tVar 6) tNoPart (tPart (tVar 7))) (tVar 11)) (tSl rSlS (tVar 6) (tPart (tVar 7)) tNoPart))) rfl sc_l_titles.nd (pi_list (pv 9)) (blkOk_by (N := ["_law_purse_here", "_law_size", "_law_words", "_law_first", "_law_step", "_law_letters", "_law_stem", "_law_put", "_law_begin", "_law_found", "_law_k", "_law_sign"]) (sc := defScope s_l_titles) (by decide +kernel)) (fun _ _ _ _ _ => (pg_name (i := 11) sc_l_titles.nd rfl (Or.inl rfl))) (fun _ _ _ _ _ => pts_nil) (fun _ _ _ _ _ => (pe_op op_add_str (pe_op op_add_str (pe_slice sl_str (pv 6) po_none (po_some (pv 7))) (pv 11)) (pe_slice sl_str (pv 6) (po_some (pv 7)) po_none)))) pa_nil))))))))))), ?_⟩
  refine ⟨by show 12 ≤ sizeLine; rw [sizeLine_eq]; omega, fun wl hwl => ?_⟩
  have k0 : Keep p H (upd H wl (.lst (W12.map V.str))) := kp_of (same_new hwl _)
  have hpw : p ≠ wl := hp.ne hwl
  refine ⟨_, rfl, p, 12, rfl, hp.same (same_new hwl _), by decide, by decide, fun H1 a kA pA a0 a1 => ?_⟩
  refine ⟨by show 4 ≤ sizeLine; rw [sizeLine_eq]; omega, fun sl hsl => ?_⟩
  have s1 := same_new hsl (.lst [V.int 1, V.int 5, V.int 7, V.int 11])
  refine ⟨_, rfl, p, 4, rfl, pA.same s1, by decide, by decide, fun H2 b kB pB b0 b1 => ?_⟩
  have hsl2 : H2 sl = some (.lst [V.int 1, V.int 5, V.int 7, V.int 11]) := kB _ _ (pA.ne hsl).symm upd_same
  obtain ⟨st, hst, hat⟩ : ∃ st : Int, Steps st ∧ atI [V.int 1, V.int 5, V.int 7, V.int 11] b = some (.int st) := by
    have : b = 0 ∨ b = 1 ∨ b = 2 ∨ b = 3 := by omega
    rcases this with rfl | rfl | rfl | rfl
    · exact ⟨1, .inl rfl, rfl⟩
    · exact ⟨5, .inr (.inl rfl), rfl⟩
    · exact ⟨7, .inr (.inr (.inl rfl)), rfl⟩
    · exact ⟨11, .inr (.inr (.inr rfl)), rfl⟩
  refine ⟨sl, _, _, _, rfl, rfl, SqL.of hsl2, hat, by show 2 ≤ sizeLine; rw [sizeLine_eq]; omega, fun tp htp => ⟨tp, _, rfl, SqT.of upd_same, rfl, _, _, rfl, _, _, rfl, rfl, ?_⟩⟩
  have s2 := same_new htp (.tup [V.int a, V.int st])
  generalize upd H2 tp (.tup [V.int a, V.int st]) = H3 at s2 ⊢
  have k3 : Keep p H H3 := ((((kp_of (same_new hwl _)).trans kA).trans (kp_of s1)).trans kB).trans (kp_of s2)
  have p3 := pB.same s2
  have w3 : H3 wl = some (.lst (W12.map V.str)) := s2 _ _ (kB _ _ hpw.symm (s1 _ _ (kA _ _ hpw.symm upd_same)))
  clear hsl2 hat
  refine ⟨_, rfl, p, 4, rfl, p3, by decide, by decide, fun H4 e kC pC e0 e1 => ⟨rfl, _, rfl, ?_⟩⟩
  have k4 := k3.trans kC
  have w4 : H4 wl = some (.lst (W12.map V.str)) := kC _ _ hpw.symm w3
  have fresh : ∀ {Hx : Hp} {D : Addr}, Keep p H Hx → Hx D = none → D ≠ p → H D = none := fun {Hx D} kx hD hne => by
    cases q : H D with
    | none => rfl
    | some u => rw [kx _ _ hne q] at hD; cases hD
  by_cases he : e = 1
  · subst he
    rw [decide_eq_true rfl]
    refine iteT ⟨_, rfl, n, rfl, by omega, by omega, fun D hD => ?_⟩
    rw [Int.toNat_natCast]
    refine lc_range (lo := 0) (n := n) (fun i H' => Same H4 H' ∧ H' D = some (.lst ((List.range i).map fun k => V.str (pick a st k)))) ⟨same_new hD _, upd_same⟩ ?_ ?_
    · rintro i H' hi ⟨sx', hD'⟩
      refine ⟨rfl, yesT ⟨_, rfl, _, rfl, _, rfl, _, rfl, _, _, rfl, rfl, .inl ⟨by rcases hst with rfl | rfl | rfl | rfl <;> decide, by rcases hst with rfl | rfl | rfl | rfl <;> decide⟩, _, _, rfl, rfl, _, _, rfl, rfl, by show (0 : Int) < 12; decide, wl, _, _, .str (pick a st i), rfl, rfl, SqL.of (sx' _ _ w4), ?_, _, hD', ?_, same_upd sx' hD, ?_⟩⟩
      · have e2 : (a + st * (0 + (i : Int))) % 12 = (ix12 a st i : Nat) := by rw [Int.zero_add, ix12_int]
        show atI (W12.map V.str) ((a + st * (0 + (i : Int))) % 12) = _
        rw [e2]
        refine atN ?_
        rw [List.getElem?_map, pick_at]; rfl
      · rw [List.length_map, List.length_range, sizeLine_eq]; omega
      · rw [upd_same, List.range_succ, List.map_append]; rfl
    · rintro H' ⟨sx', hD'⟩
      have eL : ((List.range n).map fun k => V.str (pick a st k)) = ((List.range n).map fun k => pick a st k).map V.str := by rw [List.map_map]; rfl
      rw [eL] at hD'
      refine ⟨D, _, rfl, SqL.of hD', by rw [List.length_map, List.length_range]; omega, fun ys l hperm hs hl => ?_⟩
      refine k _ l ys ((k4.trans (kp_of sx')).trans (kp_of (same_new hl _))) ((pC.same sx').same (same_new hl _)) (fresh (k4.trans (kp_of sx')) hl ((pC.same sx').ne hl).symm) upd_same (titles_of (by rw [List.length_map, List.length_range]) (range_nodup fun i j hi hj h => pick_inj hst (by omega) (by omega) h) (fun x hx => ?_) hperm hs)
      obtain ⟨j, _, rfl⟩ := List.mem_map.mp hx
      exact w12_ok _ (List.mem_of_getElem? (pick_at a st j))
  have hne : ¬ (V.int e = V.int 1) := fun z => he (V.int.inj z)
  rw [decide_eq_false hne]
  refine iteF ?_
  refine ⟨⟨_, rfl⟩, _, rfl, p, 6, rfl, pC, by decide, by decide, fun H5 m kD pD m0 m1 => ⟨m, rfl, by omega, by omega, fun D hD => ?_⟩⟩
  have k5 := k4.trans kD
  have hDp : D ≠ p := (pD.ne hD).symm
  refine lc_range (lo := 0) (n := m.toNat) (fun i H' => Keep p H5 H' ∧ IsPurse H' p ∧ ∃ cs : List Nat, cs.length = i ∧ (∀ c ∈ cs, c ∈ letters.cps.toList) ∧ H' D = some (.lst (cs.map fun c => V.str ⟨#[c]⟩))) ⟨kp_of (same_new hD _), pD.same (same_new hD _), [], rfl, by simp, upd_same⟩ ?_ ?_
  · rintro i H' hi ⟨kx, px, cs, hcs, hlet, hD'⟩
    refine ⟨rfl, yesT ⟨_, rfl, _, rfl, p, 26, rfl, px, by decide, by decide, fun H6 c kE pE c0 c1 => ?_⟩⟩
    obtain ⟨cn, rfl⟩ : ∃ cn : Nat, c = (cn : Int) := ⟨c.toNat, by omega⟩
    have hcl : cn < letters.cps.toList.length := by rw [letters_len]; omega
    refine ⟨letters, _, letters.cps.toList[cn], rfl, rfl, by show letters.cps.size ≤ sizeLine; rw [sizeLine_eq]; decide +kernel, atNs (List.getElem?_eq_getElem hcl), _, kE _ _ hDp hD', ?_, ?_, ?_, cs ++ [letters.cps.toList[cn]], by simp [hcs], ?_, ?_⟩
    · rw [List.length_map, hcs, sizeLine_eq]; omega
    · exact fun b u hb hu => by
        rw [upd_ne (fun z => by rw [z, hD] at hu; cases hu)]
        exact kE _ _ hb (kx _ _ hb hu)
    · obtain ⟨x, y, z, e⟩ := pE
      exact ⟨x, y, z, by rw [upd_ne hDp.symm]; exact e⟩
    · (intro c hc); rcases List.mem_append.mp hc with h | h
      · exact hlet c h
      · rw [List.mem_singleton.mp h]; exact List.getElem_mem _
    · rw [upd_same, List.map_append]; rfl
  rintro H6 ⟨kx, px, cs, hcs, hlet, hD6⟩
  have eL : (cs.map fun c => V.str ⟨#[c]⟩) = (cs.map fun c => (⟨#[c]⟩ : Str)).map V.str := by rw [List.map_map]; rfl
  rw [eL] at hD6
  have hm : m.toNat ≤ 5 := by omega
  refine ⟨"", D, cs.map fun c => (⟨#[c]⟩ : Str), rfl, rfl, .inl (SqL.of hD6), ?_, ?_⟩
  · rw [List.map_map, List.length_map]
    rw [sum_single]
    show cs.length + cs.length * 0 ≤ _
    omega
  generalize estem : Txt.join "" (cs.map fun c => (⟨#[c]⟩ : Str)) = stem
  have cst : stem.cps.toList = cs := by
    rw [← estem, join_cps, List.map_map]
    exact flat_single cs
  have lst' : stem.length = cs.length := by rw [len_cps, cst]
  have k6 := k5.trans kx
  have lz : stem.length ≤ sizeLine := by rw [sizeLine_eq]; omega
  refine ⟨_, rfl, _, rfl, stem, rfl, lz, _, _, rfl, rfl, p, _, rfl, px, by omega, by omega, fun H7 u kF pF u0 u1 => ?_⟩
  obtain ⟨un, rfl⟩ : ∃ un : Nat, u = (un : Int) := ⟨u.toNat, by omega⟩
  have hun : un ≤ stem.length := by omega
  refine ⟨_, rfl, p, 26, rfl, pF, by decide, by decide, fun H8 b kG pG b0 b1 => ⟨by show 2 ≤ sizeLine; rw [sizeLine_eq]; omega, fun tq htq => ⟨tq, _, rfl, SqT.of upd_same, rfl, _, _, rfl, _, _, rfl, rfl, ?_⟩⟩⟩
  have s9 := same_new htq (.tup [V.int (un : Int), V.int b])
  generalize upd H8 tq (.tup [V.int (un : Int), V.int b]) = H9 at s9 ⊢
  have k9 := ((k6.trans kF).trans kG).trans (kp_of s9)
  have p9 := pG.same s9
  refine ⟨_, rfl, n, rfl, by omega, by omega, fun L hL => ?_⟩
  rw [Int.toNat_natCast]
  refine lc_range (lo := 0) (n := n) (fun i H' => Same H9 H' ∧ H' L = some (.lst ((List.range i).map fun k => V.str ⟨#[letC b st k]⟩))) ⟨same_new hL _, upd_same⟩ ?_ ?_
  · rintro i H' hi ⟨sx', hL'⟩
    refine ⟨rfl, yesT ⟨_, rfl, _, rfl, _, rfl, _, rfl, _, _, rfl, rfl, .inl ⟨by rcases hst with rfl | rfl | rfl | rfl <;> decide, by rcases hst with rfl | rfl | rfl | rfl <;> decide⟩, _, _, rfl, rfl, _, _, rfl, rfl, by show (0 : Int) < 26; decide, letters, _, letC b st i, rfl, rfl, by show letters.cps.size ≤ sizeLine; rw [sizeLine_eq]; decide +kernel, ?_, _, hL', ?_, same_upd sx' hL, ?_⟩⟩
    · have e2 : (b + st * (0 + (i : Int))) % 26 = (ix26 b st i : Nat) := by rw [Int.zero_add, ix26_int]
      show atI letters.cps.toList ((b + st * (0 + (i : Int))) % 26) = _
      rw [e2]
      exact atNs (letC_at b st i)
    · rw [List.length_map, List.length_range, sizeLine_eq]; omega
    · rw [upd_same, List.range_succ, List.map_append]; rfl
  rintro H10 ⟨s10, hL10⟩
  have k10 := k9.trans (kp_of s10)
  have p10 := p9.same s10
  refine ⟨_, rfl, L, rfl, ⟨_, SqL.of hL10⟩, fun M hM => ?_⟩
  refine lc_list (xs := (List.range n).map fun k => V.str ⟨#[letC b st k]⟩) (fun i H' => Same H10 H' ∧ H' M = some (.lst ((List.range i).map fun k => V.str (putIn stem un (letC b st k))))) ⟨same_new hM _, upd_same⟩ (fun i H' _ q => SqL.of (q.1 _ _ hL10)) ?_ ?_
  · rintro i x H' hi ⟨sx', hM'⟩
    rw [List.getElem?_map] at hi
    obtain ⟨j, hj, rfl⟩ := Option.map_eq_some_iff.mp hi
    obtain ⟨hj1, hj2⟩ := List.getElem?_eq_some_iff.mp hj
    rw [List.getElem_range] at hj2
    subst hj2
    rw [List.length_range] at hj1
    have b1 : (cutS stem none (some (un : Int))).length ≤ 5 := by
      show ((stem.cps.toList.drop _).take _).toArray.size ≤ 5
      rw [List.size_toArray, List.length_take, List.length_drop, cst]
      omega
    have b2 : (cutS stem (some (un : Int)) none).length ≤ 5 := by
      show ((stem.cps.toList.drop _).take _).toArray.size ≤ 5
      rw [List.size_toArray, List.length_take, List.length_drop, cst]
      omega
    have b3 : (cutS stem none (some (un : Int)) ++ ⟨#[letC b st i]⟩).length = (cutS stem none (some (un : Int))).length + 1 := by
      rw [len_cps, cps_app, List.length_append, ← len_cps]
      rfl
    refine ⟨rfl, yesT ⟨_, rfl, _, rfl, _, rfl, stem, rfl, lz, _, rfl, _, _, rfl, rfl, ?_, _, rfl, _, rfl, _, rfl, stem, rfl, lz, _, _, rfl, rfl, ?_, _, hM', ?_, same_upd sx' hM, ?_⟩⟩
    · show _ + 1 ≤ sizeLine
      rw [sizeLine_eq]; omega
    · rw [b3, sizeLine_eq]; omega
    · rw [List.length_map, List.length_range, sizeLine_eq]; omega
    · rw [upd_same, List.range_succ, List.map_append]; rfl
  · rintro H' ⟨sx', hM'⟩
    rw [List.length_map, List.length_range] at hM'
    have eM : ((List.range n).map fun k => V.str (putIn stem un (letC b st k))) = ((List.range n).map fun k => putIn stem un (letC b st k)).map V.str := by rw [List.map_map]; rfl
    rw [eM] at hM'
    refine ⟨M, _, rfl, SqL.of hM', by rw [List.length_map, List.length_range]; omega, fun ys l hperm hs hl => ?_⟩
    refine k _ l ys ((k10.trans (kp_of sx')).trans (kp_of (same_new hl _))) ((p10.same sx').same (same_new hl _)) (fresh (k10.trans (kp_of sx')) hl ((p10.same sx').ne hl).symm) upd_same (titles_of (by rw [List.length_map, List.length_range]) (range_nodup fun i j hi hj h => letC_inj hst (by omega) (by omega) (putIn_inj hun h)) (fun x hx => ?_) hperm hs)
    obtain ⟨j, _, rfl⟩ := List.mem_map.mp hx
    exact putIn_ok hun (by omega) (List.mem_of_getElem? (letC_at b st j)) (by rw [cst]; exact hlet)
end
end HW
set_option Elab.async false
set_option maxRecDepth 100000
set_option linter.all false
set_option maxHeartbeats 4000000
namespace HW
open PySem L2 LamX
/-! ### who follows whom, as it is drawn -/
structure Born (es : List (Str × Option Str)) : Prop where
  nd : (es.map (·.1)).Nodup
  back : ∀ (i : Nat) (n p : Str), es[i]? = some (n, some p) → ∃ (j : Nat) (o : Option Str), j < i ∧ es[j]? = some (p, o)
def parOf (es : List (Str × Option Str)) (n : Str) : Option Str := (es.find? fun e => decide (e.1 = n)).bind (·.2)
def rOf (es : List (Str × Option Str)) (n : Str) : Nat := (es.map (·.1)).idxOf n
def dOf (es : List (Str × Option Str)) : List (Key × V) := es.map fun e => (Sum.inr e.1, optV e.2)
theorem find_at {es : List (Str × Option Str)} (hn : (es.map (·.1)).Nodup) : ∀ {n : Str} {o : Option Str}, (n, o) ∈ es → es.find? (fun e => decide (e.1 = n)) = some (n, o) := by
  induction es with
  | nil => intro n o h; cases h
  | cons e l ih =>
    intro n o h
    (rw [List.map_cons, List.nodup_cons] at hn); rcases List.mem_cons.mp h with h | h
    · subst h; rw [List.find?_cons_of_pos (by simp)]
    · have hne : e.1 ≠ n := fun z => hn.1 (by rw [z]; exact List.mem_map.mpr ⟨_, h, rfl⟩)
      rw [List.find?_cons_of_neg (by simpa using hne)]
      exact ih hn.2 h
theorem parOf_at {es : List (Str × Option Str)} (hn : (es.map (·.1)).Nodup) {n : Str} {o : Option Str} (h : (n, o) ∈ es) : parOf es n = o := by
  unfold parOf
  rw [find_at hn h]
  rfl
theorem parOf_mem {es : List (Str × Option Str)} {n p : Str} (h : parOf es n = some p) : (n, some p) ∈ es := by
  unfold parOf at h
  cases e : es.find? (fun e => decide (e.1 = n)) with
  | none => (rw [e] at h; cases h)
  | some x =>
    rw [e] at h
    have h1 := List.mem_of_find?_eq_some e
    have h2 := List.find?_some e
    have h3 : x.1 = n := of_decide_eq_true h2
    have h4 : x.2 = some p := h
    rw [← h3, ← h4]
    exact h1
theorem dOf_val {es : List (Str × Option Str)} (hn : (es.map (·.1)).Nodup) {n : Str} {o : Option Str} (h : (n, o) ∈ es) : valV (dOf es) (Sum.inr n) = some (optV o) := by
  induction es with
  | nil => cases h
  | cons e l ih =>
    (rw [List.map_cons, List.nodup_cons] at hn); rcases List.mem_cons.mp h with h | h
    · subst h; exact valV_pos (p := ((Sum.inr n : Key), optV o)) rfl
    · have hne : e.1 ≠ n := fun z => hn.1 (by rw [z]; exact List.mem_map.mpr ⟨_, h, rfl⟩)
      show valV (((Sum.inr e.1 : Key), optV e.2) :: dOf l) (Sum.inr n) = _
      rw [valV_neg (p := ((Sum.inr e.1 : Key), optV e.2)) (fun z => hne (Sum.inr.inj z))]
      exact ih hn.2 h
theorem dOf_none {es : List (Str × Option Str)} {n : Str} (h : n ∉ es.map (·.1)) : valV (dOf es) (Sum.inr n) = none := by
  induction es with
  | nil => rfl
  | cons e l ih =>
    rw [List.map_cons, List.mem_cons, not_or] at h
    show valV (((Sum.inr e.1 : Key), optV e.2) :: dOf l) (Sum.inr n) = _
    rw [valV_neg (p := ((Sum.inr e.1 : Key), optV e.2)) (fun z => h.1 (Sum.inr.inj z).symm)]
    exact ih h.2
theorem dOf_new {es : List (Str × Option Str)} {n : Str} {o : Option Str} (h : n ∉ es.map (·.1)) : putK (dOf es) (Sum.inr n) (optV o) = dOf (es ++ [(n, o)]) := by
  rw [putK_new _ (dOf_none h)]
  unfold dOf
  rw [List.map_append]
  rfl
theorem dOf_last {es : List (Str × Option Str)} {n : Str} {o o' : Option Str} (h : n ∉ es.map (·.1)) : putK (dOf (es ++ [(n, o)])) (Sum.inr n) (optV o') = dOf (es ++ [(n, o')]) := by
  have e0 : dOf (es ++ [(n, o)]) = dOf es ++ [((Sum.inr n : Key), optV o)] := by unfold dOf; rw [List.map_append]; rfl
  have e1 : dOf (es ++ [(n, o')]) = dOf es ++ [((Sum.inr n : Key), optV o')] := by unfold dOf; rw [List.map_append]; rfl
  rw [e0, e1]
  unfold putK
  rw [if_pos (by rw [List.any_append]; simp), List.map_append]
  congr 1
  · have : ∀ kv ∈ dOf es, (if kv.1 = (Sum.inr n : Key) then (kv.1, optV o') else kv) = kv := fun kv hkv => by
      obtain ⟨e, he, rfl⟩ := List.mem_map.mp hkv
      rw [if_neg]
      intro z
      exact h (List.mem_map.mpr ⟨e, he, Sum.inr.inj z⟩)
    exact (List.map_congr_left this).trans (List.map_id' _)
  · simp
theorem born_nil : Born [] := ⟨List.nodup_nil, fun i n p h => by simp at h⟩
theorem Born.snoc {es : List (Str × Option Str)} (B : Born es) {n : Str} {o : Option Str} (h : n ∉ es.map (·.1)) (ho : ∀ p, o = some p → p ∈ es.map (·.1)) : Born (es ++ [(n, o)]) := by
  refine ⟨?_, fun i m p hi => ?_⟩
  · (rw [List.map_append, List.nodup_append]); refine ⟨B.nd, by simp, fun a ha b hb e => ?_⟩
    rw [e, List.mem_singleton.mp hb] at ha
    exact h ha
  · rcases Nat.lt_or_ge i es.length with lt | ge
    · rw [List.getElem?_append_left lt] at hi
      obtain ⟨j, o', h1, h2⟩ := B.back i m p hi
      exact ⟨j, o', h1, by rw [List.getElem?_append_left (by omega)]; exact h2⟩
    · rw [List.getElem?_append_right ge] at hi
      have hz : i - es.length = 0 := by
        (have := (List.getElem?_eq_some_iff.mp hi).1); simp at this
        omega
      rw [hz] at hi
      have e : (n, o) = (m, some p) := Option.some.inj hi
      cases e
      obtain ⟨x, hx, rfl⟩ := List.mem_map.mp (ho p rfl)
      obtain ⟨j, hj, ej⟩ := List.mem_iff_getElem.mp hx
      refine ⟨j, x.2, by omega, ?_⟩
      rw [List.getElem?_append_left hj, List.getElem?_eq_getElem hj, ej]
theorem web_of {es : List (Str × Option Str)} {N : List Str} {n : Nat} (B : Born es) (hp : (es.map (·.1)).Perm N) (T : Titles N n) (n1 : 1 ≤ n) (n4 : n ≤ 4) : OkWeb N (parOf es) (rOf es) := by
  have idx : ∀ {i m o}, es[i]? = some (m, o) → rOf es m = i := fun {i m o} h => idx_get B.nd (by rw [List.getElem?_map, h]; rfl)
  have at' : ∀ {x}, x ∈ es → ∃ i, es[i]? = some x := fun {x} h => by
    (obtain ⟨i, hi, e⟩ := List.mem_iff_getElem.mp h); exact ⟨i, by rw [List.getElem?_eq_getElem hi, e]⟩
  refine ⟨by rw [T.len]; exact n1, by rw [T.len]; exact n4, T.nd, T.srt, T.ok, fun x p h => ?_, fun x p h => ?_, fun x hx => ?_⟩
  · have hm := parOf_mem h
    obtain ⟨i, hi⟩ := at' hm
    obtain ⟨j, o, _, hj⟩ := B.back i x p hi
    exact ⟨hp.mem_iff.mp (List.mem_map.mpr ⟨_, hm, rfl⟩), hp.mem_iff.mp (List.mem_map.mpr ⟨_, List.mem_of_getElem? hj, rfl⟩)⟩
  · obtain ⟨i, hi⟩ := at' (parOf_mem h)
    obtain ⟨j, o, lt, hj⟩ := B.back i x p hi
    rw [idx hi, idx hj]
    exact lt
  · have := List.idxOf_lt_length_of_mem (hp.mem_iff.mpr hx)
    rw [hp.length_eq] at this
    exact this
section
variable {P : Program} {w : World} {K : PySem.W.Frag} {mg : Str → Option Value} {base : Heap} {C : Addr}
theorem kp_new {p a : Addr} {H H' : Hp} (k : Keep p H H') (ha : H a = none) (o : HO) : Keep p H (upd H' a o) := fun b u hb hu => by
  rw [upd_ne (fun z => by rw [z, ha] at hu; cases hu)]
  exact k b u hb hu
theorem fresh_of {p a : Addr} {H H' : Hp} (k : Keep p H H') (ha : H' a = none) (hne : a ≠ p) : H a = none := by
  cases q : H a with
  | none => rfl
  | some u => rw [k _ _ hne q] at ha; cases ha
theorem IsPurse.off {H : Hp} {p a : Addr} (h : IsPurse H p) (o : HO) (hne : p ≠ a) : IsPurse (upd H a o) p := let ⟨x, y, z, e⟩ := h; ⟨x, y, z, by rw [upd_ne hne]; exact e⟩
theorem popAt {n : Nat} {z : Int} (h0 : 0 ≤ z) (h1 : z < n) : seqIndex? z n = some z.toNat := by
  have e : ixN n z = some z.toNat := by
    unfold ixN
    rw [if_pos h0, if_pos h1]
  exact (ixN_seq e).1
theorem erase_map {α β : Type} (f : α → β) : ∀ (l : List α) (k : Nat), (l.map f).eraseIdx k = (l.eraseIdx k).map f
  | [], _ => rfl
  | _ :: _, 0 => rfl
  | a :: l, k + 1 => by
    show f a :: (l.map f).eraseIdx k = f a :: (l.eraseIdx k).map f
    rw [erase_map f l k]
theorem erase_perm {α : Type} : ∀ (l : List α) (k : Nat) (y : α), l[k]? = some y → (y :: l.eraseIdx k).Perm l
  | [], _, _, h => by simp at h
  | a :: l, 0, y, h => by
    have e : a = y := by simpa using h
    subst e
    exact List.Perm.refl _
  | a :: l, k + 1, y, h => by
    have ih := erase_perm l k y (by simpa using h)
    show (y :: a :: l.eraseIdx k).Perm (a :: l)
    exact (List.Perm.swap a y _).trans (List.Perm.cons a ih)
theorem perm_pop {ds ls N : List Str} {k : Nat} {y : Str} (hp : (ds ++ ls).Perm N) (hk : ls[k]? = some y) : (ds ++ [y] ++ ls.eraseIdx k).Perm N := by
  refine List.Perm.trans ?_ hp
  rw [List.append_assoc]
  refine List.Perm.append_left ds ?_
  exact erase_perm ls k y hk
def spFolk : Sp := fun vs H Q _ => ∃ p, ∃ n : Nat, vs = [.ref p, .int (n : Int)] ∧ IsPurse H p ∧ 1 ≤ n ∧ n ≤ 4 ∧ ∀ H' t N par r, Keep p H H' → IsPurse H' p → IsFolk H' t N par → OkWeb N par r → Q (.ref t) H'
theorem ok_l_folk (T : Txt K mg C) (G_l_take : OkF P w K mg base "_law_take" ["_law_purse_here", "_law_most"] 1 spTake) (G_l_titles : OkF P w K mg base "_law_titles" ["_law_purse_here", "_law_size"] 2 spTitles)
    (D : Df K mg "_law_folk" s_l_folk) : OkF P w K mg base "_law_folk" ["_law_purse_here", "_law_size"] 3 spFolk := by
  obtain ⟨f, fd, F, g⟩ := D
  refine ⟨f, fd, g, F.kp, F.binds (ps := ["_law_purse_here", "_law_size"]) fun _ _ _ _ _ _ us hl => match us, hl with | [_, _], _ => rfl, ?_⟩
  refine F.ok sc_l_folk (fun vs H Q E h => ?_) (fun cdv A outer s H vs Q E hr h => ?_)
  · obtain ⟨p, n, rfl, _⟩ := h
    rfl
  obtain ⟨p, n, rfl, hp, n1, n4, k⟩ := h
  refine ⟨_, (pss_cons (ps_asg (pe_tup (pa_cons (pe_f G_l_titles hr (by omega) (by rfl) (pa_cons (pv 0) (pa_cons (pv 1) pa_nil))) (pa_cons (pe_f G_l_take hr (by omega) (by rfl) (pa_cons (pv 0) (pa_cons pe_int pa_nil))) (pa_cons (pe_lst pa_nil) (pa_cons pe_dnewK pa_nil))))) (pg_tup rfl (pgs_cons (pg_name (i := 2) sc_l_folk.nd rfl (Or.inl rfl)) (pgs_cons (pg_name (i := 3) sc_l_folk.nd rfl (Or.inl rfl)) (pgs_cons (pg_name (i := 4) sc_l_folk.nd rfl (Or.inl rfl)) (pgs_cons (pg_name (i := 5) sc_l_folk.nd rfl (Or.inr rfl)) pgs_nil))))))
  (pss_cons (ps_set (i := 6) sc_l_folk.nd rfl (.inl rfl) (pe_callTy call_list_of (by rfl) T.list (by decide +kernel) (pa_cons (pv 2) pa_nil)))
  (pss_cons (ps_for PassesOwn.never rfl (pi_range1 (by rfl) T.range (pa_cons (pv 1) pa_nil)) (pg_name (i := 7) sc_l_folk.nd rfl (Or.inl rfl))
  (pss_cons (ps_expr (pe_bm PySem.F.plainAttrs_list PySem.F.slot_list_append PySem.F.type_list_append mt_append (pv 4) (pa_cons (pe_bm PySem.F.plainAttrs_list PySem.F.slot_list_pop PySem.F.type_list_pop mt_popAt (pv 6) (pa_cons (pe_f G_l_take hr (by omega) (by rfl) (pa_cons (pv 0) (pa_cons (pe_callB call_len_seq (by rfl) T.len (by decide +kernel) (pa_cons (pv 6) pa_nil)) pa_nil))) pa_nil)) pa_nil)))
  (pss_cons (ps_dput (hu_of hr) (pv 5) (pe_ix ix_list (pv 4) (pv 7) (fun _ _ => rfl)) pe_non (by rfl))
  (pss_one (ps_if ((pw_and (pt_cmpR op_gt (pv 7) pe_int (nomark _)) (pw_and1 ((pw_or (pt_cmpR op_lt (pv 3) pe_int (nomark _)) (pw_or1 (pt_cmpR op_gt (pe_f G_l_take hr (by omega) (by rfl) (pa_cons (pv 0) (pa_cons pe_int pa_nil))) pe_int (nomark _))))).pt))).pt (pss_one (ps_dput (hu_of hr) (pv 5) (pe_ix ix_list (pv 4) (pv 7) (fun _ _ => rfl)) (pe_ix ix_list (pv 4) (pe_ix ix_list (pe_lst (pa_cons (pe_op op_sub (pv 7) pe_int) (pa_cons pe_int (pa_cons (pe_f G_l_take hr (by omega) (by rfl) (pa_cons (pv 0) (pa_cons (pv 7) pa_nil))) (pa_cons (pe_callB (call_max2 rfl) (by rfl) T.max (by decide +kernel) (pa_cons pe_int (pa_cons (pe_op op_sub (pe_op op_sub (pv 7) pe_int) (pe_f G_l_take hr (by omega) (by rfl) (pa_cons (pv 0) (pa_cons pe_int pa_nil)))) pa_nil))) pa_nil))))) (pv 3) (fun _ _ => rfl)) (fun _ _ => rfl)) (by rfl))) pss_nil)))))
  (pss_one (ps_ret (pe_callTy call_tupO (by rfl) T.tuple (by decide +kernel) (pa_cons (pe_lc (own := [("_law_title", 8)]) (g := (gName 8)) (tt := tYes) (te := (tTup (tCons (tVar 8) (tCons (tDGet (tVar 5) (tVar 8)) tNil)))) rfl sc_l_folk.nd (pi_list (pv 2)) (blkOk_by (N := ["_law_purse_here", "_law_size", "_law_titles_here", "_law_mode", "_law_drawn", "_law_led", "_law_left", "_law_k", "_law_title"]) (sc := defScope s_l_folk) (by decide +kernel)) (fun _ _ _ _ _ => (pg_name (i := 8) sc_l_folk.nd rfl (Or.inl rfl))) (fun _ _ _ _ _ => pts_nil) (fun _ _ _ _ _ => (pe_tup (pa_cons (pv 8) (pa_cons (pe_dget (hu_of hr) (pv 5) (pv 8) (fun _ _ => rfl)) pa_nil))))) pa_nil))))))), ?_⟩
  refine ⟨_, rfl, _, rfl, p, n, rfl, hp, n1, n4, fun H1 tl N k1 p1 htl hT1 TN => ?_⟩
  refine ⟨_, rfl, p, 4, rfl, p1, by decide, by decide, fun H2 md k2 p2 m0 m1 => ⟨Nat.zero_le _, fun dr hdr ld hld => ⟨by show 4 ≤ sizeLine; rw [sizeLine_eq]; omega, fun tq htq => ⟨tq, _, rfl, SqT.of upd_same, rfl, _, _, rfl, _, _, rfl, _, _, rfl, _, _, rfl, rfl, ?_⟩⟩⟩⟩
  have tlp : tl ≠ p := (hp.ne htl).symm
  have t2 : IsStrs H2 tl N := k2 _ _ tlp hT1
  have sa := same_new hdr (.lst [])
  have sb := same_new hld (.dK [])
  have sc := same_new htq (.tup [V.ref tl, V.int md, V.ref dr, V.ref ld])
  have s5 := (sa.trans sb).trans sc
  have drp : dr ≠ p := (p2.ne hdr).symm
  have ldp : ld ≠ p := ((p2.same sa).ne hld).symm
  have drl : dr ≠ ld := fun z => by rw [← z, upd_same] at hld; cases hld
  have d5 : upd (upd (upd H2 dr (.lst [])) ld (.dK [])) tq (.tup [V.ref tl, V.int md, V.ref dr, V.ref ld]) dr = some (.lst []) := sc _ _ (sb _ _ upd_same)
  have l5 : upd (upd (upd H2 dr (.lst [])) ld (.dK [])) tq (.tup [V.ref tl, V.int md, V.ref dr, V.ref ld]) ld = some (.dK []) := sc _ _ upd_same
  generalize upd (upd (upd H2 dr (.lst [])) ld (.dK [])) tq (.tup [V.ref tl, V.int md, V.ref dr, V.ref ld]) = H5 at s5 d5 l5 ⊢
  have k5 : Keep p H H5 := (k1.trans k2).trans (kp_of s5)
  have p5 := p2.same s5
  have t5 := t2.same s5
  have hdr0 : H dr = none := fresh_of (k1.trans k2) hdr drp
  have hld0 : H ld = none := fresh_of ((k1.trans k2).trans (kp_of sa)) hld ldp
  have t2' : H2 tl = some (.lst (N.map V.str)) := t2
  have t5' : H5 tl = some (.lst (N.map V.str)) := t5
  have tdr : tl ≠ dr := fun z => by rw [z, hdr] at t2'; cases t2'
  refine ⟨_, rfl, tl, _, rfl, .inl (SqL.of t5), fun lf hlf => ?_⟩
  have s6 := same_new hlf (.lst (N.map V.str))
  have lfp : lf ≠ p := (p5.ne hlf).symm
  have hlf0 : H lf = none := fresh_of k5 hlf lfp
  have lfd : lf ≠ dr := fun z => by rw [z, d5] at hlf; cases hlf
  have lfl : lf ≠ ld := fun z => by rw [z, l5] at hlf; cases hlf
  have tlf : tl ≠ lf := fun z => by rw [z, hlf] at t5'; cases t5'
  have tld : tl ≠ ld := fun z => by rw [z, l5] at t5'; cases t5'
  refine ⟨_, rfl, n, rfl, by omega, by omega, ?_⟩
  refine for_range (lo := 0) (n := (n : Int).toNat) (fun i σ H' => Keep p H H' ∧ IsPurse H' p ∧ IsStrs H' tl N ∧ (∃ (es : List (Str × Option Str)) (ls : List Str), IsStrs H' dr (es.map (·.1)) ∧ IsStrs H' lf ls ∧ H' ld = some (.dK (dOf es)) ∧ (es.map (·.1) ++ ls).Perm N ∧ es.length = i ∧ Born es) ∧
    ∃ o, σ = [some (.ref p), some (.int (n : Int)), some (.ref tl), some (.int md), some (.ref dr), some (.ref ld), some (.ref lf), o, none]) ⟨k5.trans (kp_of s6), p5.same s6, t5.same s6, ⟨[], N, s6 _ _ d5, upd_same, s6 _ _ l5, List.Perm.refl _, rfl, born_nil⟩, _, rfl⟩ ?_ ?_
  · rintro i σ H' hi ⟨kx, px, tx, ⟨es, ls, hdx, hlx, hex, hperm, hlen, B⟩, o, rfl⟩
    have hi' : i < n := by omega
    have lsl : ls.length = n - i := by
      have := hperm.length_eq
      rw [List.length_append, List.length_map, hlen, TN.len] at this
      omega
    refine ⟨_, rfl, .inl ⟨rfl, _, SqL.of hdx⟩, _, rfl, .inl ⟨rfl, _, SqL.of hlx⟩, _, rfl, _, rfl, lf, _, rfl, .inl (SqL.of hlx), p, _, rfl, px, by rw [List.length_map]; omega, by rw [List.length_map]; omega, fun H7 z k7 p7 z0 z1 => ?_⟩
    rw [List.length_map] at z1
    have hl7 := k7 _ _ lfp hlx
    have hd7 := k7 _ _ drp hdx
    have he7 := k7 _ _ ldp hex
    have hzl : z.toNat < ls.length := by omega
    obtain ⟨y, hy⟩ : ∃ y, ls[z.toNat]? = some y := ⟨_, List.getElem?_eq_getElem hzl⟩
    have hyin : y ∉ es.map (·.1) := by
      have nd : (es.map (·.1) ++ ls).Nodup := hperm.symm.nodup TN.nd
      intro h
      exact (List.nodup_append.mp nd).2.2 y h y (List.mem_of_getElem? hy) rfl
    refine ⟨lf, _, z, z.toNat, .str y, rfl, rfl, hl7, by omega, by omega, popAt z0 (by rw [List.length_map]; exact z1), by rw [List.getElem?_map, hy]; rfl, ?_⟩
    refine ⟨dr, _, _, rfl, rfl, by rw [upd_ne lfd.symm]; exact hd7, ?_, ?_⟩
    · rw [List.length_map, List.length_map, hlen, sizeLine_eq]; omega
    have eds : (es.map (·.1)).map V.str ++ [V.str y] = ((es ++ [(y, (none : Option Str))]).map (·.1)).map V.str := by rw [List.map_append, List.map_append]; rfl
    have els : (ls.map V.str).eraseIdx z.toNat = (ls.eraseIdx z.toNat).map V.str := erase_map _ _ _
    rw [eds, els]
    generalize eH : upd (upd H7 lf (.lst ((ls.eraseIdx z.toNat).map V.str))) dr (.lst (((es ++ [(y, (none : Option Str))]).map (·.1)).map V.str)) = H8
    have d8 : H8 dr = some (.lst (((es ++ [(y, (none : Option Str))]).map (·.1)).map V.str)) := by rw [← eH]; exact upd_same
    have f8 : H8 lf = some (.lst ((ls.eraseIdx z.toNat).map V.str)) := by rw [← eH, upd_ne lfd]; exact upd_same
    have e8 : H8 ld = some (.dK (dOf es)) := by rw [← eH, upd_ne drl.symm, upd_ne lfl.symm]; exact he7
    have t8 : IsStrs H8 tl N := by
      show H8 tl = _
      rw [← eH, upd_ne tdr, upd_ne tlf]; exact k7 _ _ tlp tx
    have p8 : IsPurse H8 p := by rw [← eH]; exact (p7.off _ lfp.symm).off _ drp.symm
    have k8 : Keep p H H8 := by rw [← eH]; exact kp_new (kp_new (kx.trans k7) hlf0 _) hdr0 _
    have at_i : ((es ++ [(y, (none : Option Str))]).map (·.1))[i]? = some y := by
      rw [List.map_append, List.getElem?_append_right (by rw [List.length_map, hlen]; exact Nat.le_refl _), List.length_map, hlen, Nat.sub_self]
      rfl
    have ati : atI (((es ++ [(y, (none : Option Str))]).map (·.1)).map V.str) (0 + (i : Int)) = some (.str y) := by
      rw [Int.zero_add]
      exact atN (by rw [List.getElem?_map, at_i]; rfl)
    refine ⟨_, rfl, _, rfl, _, rfl, dr, _, _, _, rfl, rfl, SqL.of d8, ati, ld, _, rfl, DPut.k (k := Sum.inr y) e8 (by unfold dOf; rw [List.length_map, hlen, sizeLine_eq]; omega), ?_⟩
    have e9 : putK (dOf es) (Sum.inr y) .non = dOf (es ++ [(y, none)]) := dOf_new (o := none) hyin
    rw [e9]
    generalize eH9 : upd H8 ld (.dK (dOf (es ++ [(y, none)]))) = H9
    have d9 : IsStrs H9 dr ((es ++ [(y, (none : Option Str))]).map (·.1)) := by
      show H9 dr = _
      rw [← eH9, upd_ne drl]; exact d8
    have f9 : IsStrs H9 lf (ls.eraseIdx z.toNat) := by
      show H9 lf = _
      rw [← eH9, upd_ne lfl]; exact f8
    have l9 : H9 ld = some (.dK (dOf (es ++ [(y, none)]))) := by rw [← eH9]; exact upd_same
    have t9 : IsStrs H9 tl N := by
      show H9 tl = _
      rw [← eH9, upd_ne tld]; exact t8
    have p9 : IsPurse H9 p := by rw [← eH9]; exact p8.off _ ldp.symm
    have k9 : Keep p H H9 := by rw [← eH9]; exact kp_new k8 hld0 _
    have perm9 : ((es ++ [(y, (none : Option Str))]).map (·.1) ++ ls.eraseIdx z.toNat).Perm N := by
      rw [List.map_append]
      exact perm_pop hperm hy
    have len9 : (es ++ [(y, (none : Option Str))]).length = i + 1 := by rw [List.length_append, hlen]; rfl
    -- what is left as it is
    have plain : ∀ H10, Keep p H9 H10 → IsPurse H10 p → Keep p H H10 ∧ IsPurse H10 p ∧ IsStrs H10 tl N ∧ (∃ (es' : List (Str × Option Str)) (ls' : List Str), IsStrs H10 dr (es'.map (·.1)) ∧ IsStrs H10 lf ls' ∧ H10 ld = some (.dK (dOf es')) ∧ (es'.map (·.1) ++ ls').Perm N ∧ es'.length = i + 1 ∧ Born es') ∧
        ∃ o, [some (V.ref p), some (V.int (n : Int)), some (V.ref tl), some (V.int md), some (V.ref dr), some (V.ref ld), some (V.ref lf), some (V.int (0 + (i : Int))), none] = [some (V.ref p), some (V.int (n : Int)), some (V.ref tl), some (V.int md), some (V.ref dr), some (V.ref ld), some (V.ref lf), o, none] := fun H10 k10 p10 =>
      ⟨k9.trans k10, p10, k10 _ _ tlp t9, ⟨_, _, k10 _ _ drp d9, k10 _ _ lfp f9, k10 _ _ ldp l9, perm9, len9, B.snoc hyin fun _ z => by cases z⟩, _, rfl⟩
    refine ⟨_, rfl, _, _, rfl, rfl, _, rfl, ?_⟩
    by_cases hk0 : i = 0
    · subst hk0
      exact iteDF (by omega) (iteF (plain H9 (Keep.refl _ _) p9))
    refine iteDT (by omega) ?_
    -- whom they follow
    have follow : ∀ H10, Keep p H9 H10 → IsPurse H10 p → sDPut (tVar 5) (tOp (rIxL K) (tVar 4) (tVar 7)) (tOp (rIxL K) (tVar 4) (tOp (rIxL K) (tLst (tCons (tOp (rI0 fun i j => .int (i - j)) (tVar 7) (tC (.int 1))) (tCons (tC (.int 0)) (tCons (tCall spTake [] C8.E0 (tCons (tVar 0) (tCons (tVar 7) tNil)))
        (tCons (tCB (fun xs H Q => ∃ i j, xs = [.int i, .int j] ∧ Q (.int (if j > i then j else i)) H) (tCons (tC (.int 0)) (tCons (tOp (rI0 fun i j => .int (i - j)) (tOp (rI0 fun i j => .int (i - j)) (tVar 7) (tC (.int 1))) (tCall spTake [] C8.E0 (tCons (tVar 0) (tCons (tC (.int 2)) tNil)))) tNil))) tNil))))) (tVar 3)))
        { nx := fun σ H' => Keep p H H' ∧ IsPurse H' p ∧ IsStrs H' tl N ∧ (∃ (es : List (Str × Option Str)) (ls : List Str), IsStrs H' dr (es.map (·.1)) ∧ IsStrs H' lf ls ∧ H' ld = some (.dK (dOf es)) ∧ (es.map (·.1) ++ ls).Perm N ∧ es.length = i + 1 ∧ Born es) ∧
          ∃ o, σ = [some (.ref p), some (.int (n : Int)), some (.ref tl), some (.int md), some (.ref dr), some (.ref ld), some (.ref lf), o, none], rt := fun _ _ => False }
        [some (V.ref p), some (V.int (n : Int)), some (V.ref tl), some (V.int md), some (V.ref dr), some (V.ref ld), some (V.ref lf), some (V.int (0 + (i : Int))), none] H10 := by
      intro H10 k10 p10
      refine ⟨_, rfl, _, rfl, _, _, rfl, rfl, _, rfl, _, rfl, p, _, rfl, p10, by omega, by omega, fun H11 t1 k11 p11 t10 t11 => ?_⟩
      refine ⟨_, rfl, _, _, rfl, rfl, _, rfl, p, 2, rfl, p11, by decide, by decide, fun H12 t2 k12 p12 u0 u1 => ⟨_, _, rfl, rfl, _, _, rfl, by show 4 ≤ sizeLine; rw [sizeLine_eq]; omega, fun q hq => ?_⟩⟩
      obtain ⟨z2, z20, z21, hz2⟩ : ∃ z2 : Int, 0 ≤ z2 ∧ z2 < i ∧ atI [V.int (0 + (i : Int) - 1), V.int 0, V.int t1, V.int (if 0 + (i : Int) - 1 - t2 > 0 then 0 + (i : Int) - 1 - t2 else 0)] md = some (.int z2) := by
        have : md = 0 ∨ md = 1 ∨ md = 2 ∨ md = 3 := by omega
        rcases this with rfl | rfl | rfl | rfl
        · exact ⟨_, by omega, by omega, rfl⟩
        · exact ⟨0, by omega, by omega, rfl⟩
        · exact ⟨_, by omega, by omega, rfl⟩
        · exact ⟨_, by split <;> omega, by split <;> omega, rfl⟩
      have kk : Keep p H9 H12 := (k10.trans k11).trans k12
      have sq := same_new hq (.lst [V.int (0 + (i : Int) - 1), V.int 0, V.int t1, V.int (if 0 + (i : Int) - 1 - t2 > 0 then 0 + (i : Int) - 1 - t2 else 0)])
      have dq := sq _ _ (kk _ _ drp d9)
      have lq := sq _ _ (kk _ _ ldp l9)
      obtain ⟨zn, rfl⟩ : ∃ zn : Nat, z2 = (zn : Int) := ⟨z2.toNat, by omega⟩
      have hzn : zn < es.length := by omega
      have hpn : ((es ++ [(y, (none : Option Str))]).map (·.1))[zn]? = some (es[zn]).1 := by
        rw [List.map_append, List.getElem?_append_left (by rw [List.length_map]; exact hzn), List.getElem?_map, List.getElem?_eq_getElem hzn]
        rfl
      refine ⟨_, rfl, q, _, _, _, rfl, rfl, SqL.of upd_same, hz2, dr, _, _, .str (es[zn]).1, rfl, rfl, SqL.of dq, atN (by rw [List.getElem?_map, hpn]; rfl), ?_⟩
      refine ⟨_, rfl, _, rfl, _, rfl, dr, _, _, _, rfl, rfl, SqL.of dq, ati, ld, _, rfl, DPut.k (k := Sum.inr y) lq (by unfold dOf; rw [List.length_map, len9, sizeLine_eq]; omega), ?_⟩
      have e10 : putK (dOf (es ++ [(y, none)])) (Sum.inr y) (.str (es[zn]).1) = dOf (es ++ [(y, some (es[zn]).1)]) := dOf_last (o' := some (es[zn]).1) hyin
      rw [e10]
      have eq1 : (es ++ [(y, some (es[zn]).1)]).map (·.1) = (es ++ [(y, (none : Option Str))]).map (·.1) := by rw [List.map_append, List.map_append]; rfl
      have pq : IsPurse (upd H12 q (.lst [V.int (0 + (i : Int) - 1), V.int 0, V.int t1, V.int (if 0 + (i : Int) - 1 - t2 > 0 then 0 + (i : Int) - 1 - t2 else 0)])) p := p12.same sq
      refine ⟨kp_new ((k9.trans kk).trans (kp_of sq)) hld0 _, pq.off _ ldp.symm, ?_, ⟨es ++ [(y, some (es[zn]).1)], ls.eraseIdx z.toNat, ?_, ?_, upd_same, ?_, ?_, B.snoc hyin fun p' e => ?_⟩, _, rfl⟩
      · show upd _ ld _ tl = _
        rw [upd_ne tld]; exact sq _ _ (kk _ _ tlp t9)
      · show upd _ ld _ dr = _
        rw [upd_ne drl, eq1]; exact dq
      · show upd _ ld _ lf = _
        rw [upd_ne lfl]; exact sq _ _ (kk _ _ lfp f9)
      · rw [eq1]; exact perm9
      · rw [List.length_append, hlen]; rfl
      · cases e
        exact List.mem_map.mpr ⟨_, List.getElem_mem hzn, rfl⟩
    refine ⟨_, rfl, _, _, rfl, rfl, _, rfl, ?_⟩
    by_cases hm : md < 2
    · refine iteDT hm ?_
      exact follow H9 (Keep.refl _ _) p9
    · refine iteDF hm ?_
      refine ⟨_, rfl, p, 4, rfl, p9, by decide, by decide, fun H10 c k10 p10 c0 c1 => ⟨_, _, rfl, rfl, _, rfl, ?_⟩⟩
      by_cases hc : 0 < c
      · refine iteDT hc ?_
        exact follow H10 k10 p10
      · exact iteDF hc (plain H10 k10 p10)
  · rintro σ H' ⟨kx, px, tx, ⟨es, ls, hdx, hlx, hex, hperm, hlen, B⟩, o, rfl⟩
    have hls : ls = [] := by
      have := hperm.length_eq
      rw [List.length_append, List.length_map, hlen, TN.len] at this
      exact List.eq_nil_of_length_eq_zero (by omega)
    subst hls
    rw [List.append_nil] at hperm
    have W := web_of B hperm TN n1 n4
    have hwhom : ∀ x ∈ N, DGet H' ld (V.str x) (some (optV (parOf es x))) := fun x hx => by
      obtain ⟨e, he, rfl⟩ := List.mem_map.mp (hperm.mem_iff.mpr hx)
      have g := DGet.k (k := Sum.inr e.1) hex
      rw [dOf_val B.nd he, ← parOf_at B.nd he] at g
      exact g
    refine ⟨_, rfl, tl, rfl, ⟨_, SqL.of tx⟩, fun D hD => ?_⟩
    refine lc_list (xs := N.map V.str) (fun i H'' => Same H' H'' ∧ ∃ ts : List Addr, H'' D = some (.lst (ts.map V.ref)) ∧ Paired (fun b x => H'' b = some (.tup [V.str x, optV (parOf es x)])) ts (N.take i)) ⟨same_new hD _, [], upd_same, .nil⟩ (fun i H'' _ q => SqL.of (q.1 _ _ tx)) ?_ ?_
    · rintro i v H'' hi ⟨sx', ts, hts, hpr⟩
      rw [List.getElem?_map] at hi
      obtain ⟨x, hx, rfl⟩ := Option.map_eq_some_iff.mp hi
      have hxN := List.mem_of_getElem? hx
      have g : DGet H'' ld (V.str x) (some (optV (parOf es x))) := by
        obtain ⟨e, he, ex⟩ := List.mem_map.mp (hperm.mem_iff.mpr hxN)
        subst ex
        have g := DGet.k (k := Sum.inr e.1) (sx' _ _ hex)
        rw [dOf_val B.nd he, ← parOf_at B.nd he] at g
        exact g
      refine ⟨rfl, yesT ⟨_, rfl, _, rfl, _, rfl, ld, _, rfl, g, by show 2 ≤ sizeLine; rw [sizeLine_eq]; omega, fun t ht => ⟨_, same_new ht _ _ _ hts, ?_, same_upd (sx'.trans (same_new ht _)) hD, ts ++ [t], ?_, ?_⟩⟩⟩
      · rw [List.length_map, Paired.length hpr]
        exact small4 (Nat.le_trans (List.length_take_le' _ _) W.n4)
      · rw [upd_same, List.map_append]; rfl
      · rw [take_snoc hx]
        refine paired_snoc (paired_mono hpr fun b x' e => ?_) ?_
        · rw [upd_ne (fun z => by rw [z, hts] at e; cases e)]
          exact same_new ht _ _ _ e
        · rw [upd_ne (fun z => by rw [z, hts] at ht; cases ht)]
          exact upd_same
    · rintro H'' ⟨sx', ts, hts, hpr⟩
      rw [List.length_map, List.take_length] at hpr
      refine ⟨D, ts, rfl, SqL.of hts, fun l hl => ?_⟩
      have sl := same_new hl (.frz (tupO ts) (.tup (ts.map V.ref)))
      exact k _ l N (parOf es) (rOf es) ((kx.trans (kp_of sx')).trans (kp_of sl)) ((px.same sx').same sl) ⟨ts, upd_same, paired_mono hpr fun b x e => sl _ _ e⟩ W
end
end HW
set_option Elab.async false
set_option maxRecDepth 100000
set_option linter.all false
set_option maxHeartbeats 4000000
namespace HW
open PySem L2 LamX
section
variable {P : Program} {w : World} {K : PySem.W.Frag} {mg : Str → Option Value} {base : Heap} {C : Addr}
theorem merge_map {N : List Str} (hn : N.Nodup) (g : Str → V) : mergeK [] (N.map fun n => ((Sum.inr n : Key), g n)) = N.map fun n => ((Sum.inr n : Key), g n) := by
  have e : (N.map fun n => ((Sum.inr n : Key), g n)) = (N.map Sum.inr).zip (N.map g) := by
    clear hn
    induction N with
    | nil => rfl
    | cons n l ih => rw [List.map_cons, ih]; rfl
  have := merge_zip hn (vs := []) [] [] N (N.map g) rfl rfl
  rw [e]
  exact this
theorem folk_item {ts : List Addr} {N : List Str} {par : Str → Option Str} {H : Hp} (hp : Paired (fun b n => H b = some (.tup [V.str n, optV (par n)])) ts N) {i : Nat} {v : V} (hi : (ts.map V.ref)[i]? = some v) :
    ∃ b n, v = .ref b ∧ N[i]? = some n ∧ H b = some (.tup [V.str n, optV (par n)]) := by
  rw [List.getElem?_map] at hi
  obtain ⟨b, hb, rfl⟩ := Option.map_eq_some_iff.mp hi
  obtain ⟨n, hn, hbn⟩ := paired_getL hp hb
  exact ⟨b, n, rfl, hn, hbn⟩
theorem paired_mapR {α β γ : Type} {F : α → β → Prop} {G : α → γ → Prop} {f : β → γ} (h : ∀ a b, F a b → G a (f b)) : ∀ {l₁ : List α} {l₂ : List β}, Paired F l₁ l₂ → Paired G l₁ (l₂.map f)
  | _, _, .nil => .nil
  | _, _, .cons r t => .cons (h _ _ r) (paired_mapR h t)
/-- the pairs of folk -/
theorem folk_kvs {K : PySem.W.Frag} {t : Addr} {N : List Str} {par : Str → Option Str} {H : Hp} (h : IsFolk H t N par) :
    ∃ ts : List Addr, H t = some (.frz (tupO ts) (.tup (ts.map V.ref))) ∧ Paired (fun p (kv : Key × V) => SqT K H p [kV kv.1, kv.2]) ts (N.map fun n => ((Sum.inr n : Key), optV (par n))) := by
  obtain ⟨ts, e, hp⟩ := h
  exact ⟨ts, e, paired_mapR (f := fun n => ((Sum.inr n : Key), optV (par n))) (fun b n z => SqT.of z) hp⟩
def spUp : Sp := fun vs H Q _ => ∃ t N par r x, vs = [.ref t, .str x] ∧ OkWeb N par r ∧ IsFolk H t N par ∧ x ∈ N ∧ ∀ H' l, Same H H' → H l = none → IsStrs H' l (ln par x) → Q (.ref l) H'
theorem ok_l_up (T : Txt K mg C) (D : Df K mg "_law_up" s_l_up) : OkF P w K mg base "_law_up" ["_law_folk_here", "_law_one"] 1 spUp := by
  obtain ⟨f, fd, F, g⟩ := D
  refine ⟨f, fd, g, F.kp, F.binds (ps := ["_law_folk_here", "_law_one"]) fun _ _ _ _ _ _ us hl => match us, hl with | [_, _], _ => rfl, ?_⟩
  refine F.ok sc_l_up (fun vs H Q E h => ?_) (fun cdv A outer s H vs Q E hr h => ?_)
  · obtain ⟨t, N, par, r, x, rfl, _⟩ := h
    rfl
  obtain ⟨t, N, par, r, x, rfl, W, hf, hx, k⟩ := h
  refine ⟨_, (pss_cons (ps_par (i := 2) (j := 3) rfl sc_l_up.nd rfl rfl (by decide) rfl rfl (pa_cons (pe_callTy (call_dictT rfl) (by rfl) T.dict (by decide +kernel) (pa_cons (pv 0) pa_nil)) (pa_cons (pe_lst (pa_cons (pv 1) pa_nil)) pa_nil)) (by rfl))
  (pss_cons (ps_while PassesOwn.never (pt_cmpR op_notN (pe_dget (hu_of hr) (pv 2) (pe_ix ix_list (pv 3) (pe_un un_neg pe_int) (fun _ _ => rfl)) (fun _ _ => rfl)) pe_non (nomark _))
  (pss_one (ps_expr (pe_bm PySem.F.plainAttrs_list PySem.F.slot_list_append PySem.F.type_list_append mt_append (pv 3) (pa_cons (pe_dget (hu_of hr) (pv 2) (pe_ix ix_list (pv 3) (pe_un un_neg pe_int) (fun _ _ => rfl)) (fun _ _ => rfl)) pa_nil)))))
  (pss_one (ps_ret (pv 3))))), ?_⟩
  obtain ⟨ts, ht, hkv⟩ := folk_kvs (K := K) hf
  refine ⟨_, rfl, t, ts, _, rfl, ht, hkv, fun d hd0 => ?_⟩
  rw [merge_map W.nd]
  have s1 := same_new hd0 (.dK (N.map fun n => ((Sum.inr n : Key), optV (par n))))
  have hd : IsWhom (upd H d (.dK (N.map fun n => ((Sum.inr n : Key), optV (par n))))) d N par := upd_same
  refine ⟨_, rfl, one_le, fun p hp => ⟨_, _, rfl, ?_⟩⟩
  have hp0 : H p = none := by
    cases q : H p with
    | none => rfl
    | some u => rw [s1 _ _ q] at hp; cases hp
  have s2 := s1.trans (same_new hp (.lst [V.str x]))
  have hd2 := hd.same (same_new hp (.lst [V.str x]))
  refine ⟨fun m σ H' => ∃ pre y, σ = [some (.ref t), some (.str x), some (.ref d), some (.ref p)] ∧ Same H H' ∧ IsWhom H' d N par ∧ IsStrs H' p (pre ++ [y]) ∧ y ∈ N ∧ ln par x = pre ++ ln par y ∧ m = r y, ⟨_, [], x, rfl, s2, hd2, upd_same, hx, rfl, rfl⟩, ?_⟩
  rintro m σ H' ⟨pre, y, rfl, s3, hd', hl, hy, hln, rfl⟩
  refine ⟨_, rfl, _, rfl, _, rfl, p, _, _, _, rfl, rfl, SqL.of hl, atI_end _ _, d, _, rfl, hd'.get hy, rfl, _, rfl, ?_⟩
  cases e : par y with
  | none =>
    rw [ln_none e] at hln
    refine iteF ?_
    refine ⟨_, rfl, ?_⟩
    exact k _ _ s3 hp0 (by rw [hln]; exact hl)
  | some q =>
    refine iteT ?_
    have hq := (W.pin _ _ e).2
    refine ⟨fun σ' H'' => ∃ pre y', σ' = [some (.ref t), some (.str x), some (.ref d), some (.ref p)] ∧ Same H H'' ∧ IsWhom H'' d N par ∧ IsStrs H'' p (pre ++ [y']) ∧ y' ∈ N ∧ ln par x = pre ++ ln par y' ∧ r y' < r y, fun σ' H'' ⟨pre, y', h1, h2, h3, h4, h5, h6, h7⟩ => ⟨_, h7, pre, y', h1, h2, h3, h4, h5, h6, rfl⟩, ?_⟩
    have g2 := hd'.get hy
    rw [e] at g2
    have hdp : d ≠ p := fun z => by
      have h1 : H' d = _ := hd'
      have h2 : H' p = _ := hl
      rw [z, h2] at h1
      cases h1
    refine ⟨_, rfl, .inl ⟨rfl, _, SqL.of hl⟩, _, rfl, _, rfl, _, rfl, p, _, _, _, rfl, rfl, SqL.of hl, atI_end _ _, d, _, rfl, g2, p, _, _, rfl, rfl, hl, ?_, pre ++ [y], q, rfl, same_upd s3 hp0, ?_, ?_, hq, ?_, W.rk _ _ e⟩
    · rw [List.length_map, List.length_append, List.length_singleton]
      have := W.ln_le hx
      rw [hln, List.length_append, W.ln_some e, List.length_cons] at this
      have := W.n4
      exact small4 (by omega)
    · show upd H' p _ d = _
      rw [upd_ne hdp]; exact hd'
    · show upd H' p _ p = _
      rw [upd_same, List.map_append (l₂ := [q])]
      rfl
    · rw [hln, W.ln_some e, List.append_assoc]
      rfl
/-! ### calls drawn -/
def spSome : Sp := fun vs H Q _ => ∃ p t N par r, vs = [.ref p, .ref t, .int 12] ∧ IsPurse H p ∧ OkWeb N par r ∧ IsFolk H t N par ∧ ∀ H' c cs, Keep p H H' → IsPurse H' p → IsStrT H' c cs → cs.length ≤ 12 → (∀ x ∈ cs, ∃ y, par x = some y) → Q (.ref c) H'
theorem ok_l_some (T : Txt K mg C) (G_l_take : OkF P w K mg base "_law_take" ["_law_purse_here", "_law_most"] 1 spTake) (D : Df K mg "_law_some" s_l_some) : OkF P w K mg base "_law_some" ["_law_purse_here", "_law_folk_here", "_law_most"] 2 spSome := by
  obtain ⟨f, fd, F, g⟩ := D
  refine ⟨f, fd, g, F.kp, F.binds (ps := ["_law_purse_here", "_law_folk_here", "_law_most"]) fun _ _ _ _ _ _ us hl => match us, hl with | [_, _, _], _ => rfl, ?_⟩
  refine F.ok sc_l_some (fun vs H Q E h => ?_) (fun cdv A outer s H vs Q E hr h => ?_)
  · obtain ⟨p, t, N, par, r, rfl, _⟩ := h
    rfl
  obtain ⟨p, t, N, par, r, rfl, hp, W, ⟨ts, ht, hpr⟩, k⟩ := h
  refine ⟨_, (pss_cons (ps_set (i := 3) sc_l_some.nd rfl (.inr rfl) (pe_lc (own := [("_law_title", 5), ("_law_other", 6)]) (g := (gTup K 2 (gCons (gName 5) (gCons (gName 6) gNil)))) (tt := (tTest (tOp (fun x y H Q => y = .non ∧ Q (.bl (!decide (x = .non))) H) (tVar 6) (tC .non)))) (te := (tVar 5)) rfl sc_l_some.nd (pi_tup (pv 1)) (blkOk_by (N := ["_law_purse_here", "_law_folk_here", "_law_most", "_law_able", "_law_many_here", "_law_title", "_law_other", "_law_k"]) (sc := defScope s_l_some) (by decide +kernel)) (fun _ _ _ _ _ => (pg_tup rfl (pgs_cons (pg_name (i := 5) sc_l_some.nd rfl (Or.inl rfl)) (pgs_cons (pg_name (i := 6) sc_l_some.nd rfl (Or.inl rfl)) pgs_nil)))) (fun _ _ _ _ _ => (pts_one (pt_cmpR op_notN (pv 6) pe_non (nomark _)))) (fun _ _ _ _ _ => (pv 5))))
  (pss_cons (ps_set (i := 4) sc_l_some.nd rfl (.inl rfl) (pe_op op_mul (pe_f G_l_take hr (by omega) (by rfl) (pa_cons (pv 0) (pa_cons (pe_op op_add (pv 2) pe_int) pa_nil))) (pe_callTy call_int1 (by rfl) T.int (by decide +kernel) (pa_cons (pe_cmpR (op_neD (hu64 hr)) (pv 3) (pe_lst pa_nil) (nomark _)) pa_nil))))
  (pss_one (ps_ret (pe_callTy call_tuple_of (by rfl) T.tuple (by decide +kernel) (pa_cons (pe_lc (own := [("_law_k", 7)]) (g := (gName 7)) (tt := tYes) (te := (tOp (rIxL K) (tVar 3) (tCall spTake [] E0 (tCons (tVar 0) (tCons (tCB (fun xs H Q => ∃ p ys, xs = [V.ref p] ∧ (SqL K H p ys ∨ SqT K H p ys) ∧ Q (.int ys.length) H) (tCons (tVar 3) tNil)) tNil))))) rfl sc_l_some.nd (pi_range1 (by rfl) T.range (pa_cons (pv 4) pa_nil)) (blkOk_by (N := ["_law_purse_here", "_law_folk_here", "_law_most", "_law_able", "_law_many_here", "_law_title", "_law_other", "_law_k"]) (sc := defScope s_l_some) (by decide +kernel)) (fun _ _ _ _ _ => (pg_name (i := 7) sc_l_some.nd rfl (Or.inl rfl))) (fun _ _ _ _ _ => pts_nil) (fun _ _ _ _ _ => (pe_ix ix_list (pv 3) (pe_f G_l_take hr (by omega) (by rfl) (pa_cons (pv 0) (pa_cons (pe_callB call_len_seq (by rfl) T.len (by decide +kernel) (pa_cons (pv 3) pa_nil)) pa_nil))) (fun _ _ => rfl)))) pa_nil)))))), ?_⟩
  refine ⟨_, rfl, t, rfl, ⟨_, frzT ht⟩, fun D hD => ?_⟩
  refine lc_tup (xs := ts.map V.ref) (fun i H' => Same H H' ∧ ∃ xs : List Str, H' D = some (.lst (xs.map V.str)) ∧ xs.length ≤ i ∧ ∀ x ∈ xs, ∃ y, par x = some y) ⟨same_new hD _, [], upd_same, Nat.le_refl _, by simp⟩ (fun i H' _ q => frzT (q.1 _ _ ht)) ?_ ?_
  · rintro i v H' hi ⟨s1, xs, hD', hl, hxs⟩
    obtain ⟨b, n, rfl, hn, hb⟩ := folk_item hpr hi
    refine ⟨b, _, rfl, SqT.of (s1 _ _ hb), rfl, _, _, rfl, _, _, rfl, rfl, rfl, _, rfl, rfl, _, rfl, ?_⟩
    have hiN : i < N.length := (List.getElem?_eq_some_iff.mp hn).1
    cases e : par n with
    | none => exact iteF ⟨s1, xs, hD', by omega, hxs⟩
    | some y =>
      refine iteT ⟨_, rfl, _, hD', ?_, same_upd s1 hD, xs ++ [n], ?_, ?_, fun x hx => ?_⟩
      · rw [List.length_map]
        have := W.n4
        exact small4 (by omega)
      · rw [upd_same, List.map_append]; rfl
      · rw [List.length_append]; simp; exact hl
      · rcases List.mem_append.mp hx with h | h
        · exact hxs x h
        · rw [List.mem_singleton.mp h]; exact ⟨y, e⟩
  rintro H1 ⟨s1, able, hA, hlA, hab⟩
  rw [List.length_map, Paired.length hpr] at hlA
  have hDp : D ≠ p := (hp.ne hD).symm
  refine ⟨_, rfl, _, rfl, _, _, rfl, rfl, p, _, rfl, hp.same s1, by decide, by decide, fun H2 m k2 p2 m0 m1 => ?_⟩
  have hA2 := k2 _ _ hDp hA
  refine ⟨_, rfl, Nat.zero_le _, fun e he => ?_⟩
  have se := same_new he (.lst [])
  refine ⟨dL able, .list [], dp_L (SqL.of (se _ _ hA2)), dp_nil (SqL.of upd_same), dL_shaped (fun x hx => ?_), nil_shaped, ?_⟩
  · obtain ⟨y, hy⟩ := hab x hx
    exact (W.ok x (W.pin _ _ hy).1).so
  rw [dL_nil]
  have k3 : Keep p H (upd H2 e (.lst [])) := ((kp_of s1).trans k2).trans (kp_of se)
  have p3 := p2.same se
  have hA3 := se _ _ hA2
  generalize upd H2 e (.lst []) = H3 at k3 p3 hA3 ⊢
  obtain ⟨q, hq0, hq1, hq2⟩ : ∃ q : Int, q = (if (!decide (able = [])) = true then (1 : Int) else 0) ∧ 0 ≤ q ∧ (able = [] → q = 0) ∧ q ≤ 1 := by
    refine ⟨_, rfl, ?_⟩
    by_cases e : able = []
    · rw [decide_eq_true e]; exact ⟨by decide, fun _ => by decide, by decide⟩
    · rw [decide_eq_false e]; exact ⟨by decide, fun z => absurd z e, by decide⟩
  refine .inr ⟨_, rfl, _, _, rfl, rfl, .inl ⟨by omega, by omega⟩, ?_⟩
  rw [← hq0]
  have mq0 : 0 ≤ m * q := Int.mul_nonneg m0 hq1
  have mq1 : m * q ≤ m := by
    have : m * q ≤ m * 1 := Int.mul_le_mul_of_nonneg_left hq2.2 m0
    omega
  refine ⟨_, rfl, _, rfl, by omega, by omega, fun L hL => ?_⟩
  have hLp : L ≠ p := (p3.ne hL).symm
  have hL0 : H L = none := fresh_of k3 hL hLp
  refine lc_range (lo := 0) (n := (m * q).toNat) (fun i H' => Keep p H H' ∧ IsPurse H' p ∧ H' D = some (.lst (able.map V.str)) ∧ ∃ cs : List Str, H' L = some (.lst (cs.map V.str)) ∧ cs.length = i ∧ ∀ x ∈ cs, ∃ y, par x = some y) ⟨k3.trans (kp_of (same_new hL _)), p3.same (same_new hL _), same_new hL _ _ _ hA3, [], upd_same, rfl, by simp⟩ ?_ ?_
  · rintro i H' hi ⟨k4, p4, hA4, cs, hcs, hlen, hcab⟩
    have hne : able ≠ [] := fun z => by
      rw [hq2.1 z, Int.mul_zero] at hi
      exact absurd hi (by simp)
    have hpos : 0 < able.length := List.length_pos_iff.mpr hne
    have := W.n4
    refine ⟨rfl, yesT ⟨_, rfl, _, rfl, _, rfl, D, _, rfl, .inl (SqL.of hA4), p, _, rfl, p4, by rw [List.length_map]; omega, by rw [List.length_map]; omega, fun H5 z k5 p5 z0 z1 => ?_⟩⟩
    rw [List.length_map] at z1
    obtain ⟨zn, rfl⟩ : ∃ zn : Nat, z = (zn : Int) := ⟨z.toNat, by omega⟩
    have hzn : able[zn]? = some able[zn] := List.getElem?_eq_getElem (by omega)
    have hL5 := k5 _ _ hLp hcs
    have hDL : D ≠ L := fun w => by rw [← w, hA3] at hL; cases hL
    refine ⟨D, _, _, _, rfl, rfl, SqL.of (k5 _ _ hDp hA4), atN (by rw [List.getElem?_map, hzn]; rfl), _, hL5, ?_, kp_new (k4.trans k5) hL0 _, p5.off _ hLp.symm, ?_, cs ++ [able[zn]], ?_, by rw [List.length_append, hlen]; rfl, fun x hx => ?_⟩
    · rw [List.length_map, hlen, sizeLine_eq]; omega
    · rw [upd_ne hDL]; exact k5 _ _ hDp hA4
    · rw [upd_same, List.map_append]; rfl
    · rcases List.mem_append.mp hx with h | h
      · exact hcab x h
      · rw [List.mem_singleton.mp h]; exact hab _ (List.getElem_mem _)
  · rintro H' ⟨k4, p4, _, cs, hcs, hlen, hcab⟩
    refine ⟨L, _, rfl, .inl ⟨SqL.of hcs, fun c hc => ?_⟩⟩
    exact k _ c cs (k4.trans (kp_of (same_new hc _))) (p4.same (same_new hc _)) upd_same (by omega) hcab
end
end HW
set_option Elab.async false
set_option maxRecDepth 100000
set_option linter.all false
set_option maxHeartbeats 4000000
namespace HW
open PySem L2 LamX
section
variable {P : Program} {w : World} {K : PySem.W.Frag} {mg : Str → Option Value} {base : Heap} {C : Addr}
theorem paired_ofget {α β : Type} {F : α → β → Prop} : ∀ {l₁ : List α} {l₂ : List β}, l₁.length = l₂.length → (∀ (i : Nat) a b, l₁[i]? = some a → l₂[i]? = some b → F a b) → Paired F l₁ l₂
  | [], [], _, _ => .nil
  | a :: l₁, b :: l₂, hl, h => .cons (h 0 a b rfl rfl) (paired_ofget (by simpa using hl) fun i x y e1 e2 => h (i + 1) x y (by simpa using e1) (by simpa using e2))
  | [], _ :: _, hl, _ => (by simp at hl)
  | _ :: _, [], hl, _ => (by simp at hl)
theorem firstIdx {N : List Str} (hn : N.Nodup) {j : Nat} {x : Str} (h : N[j]? = some x) : ∀ (m : Nat) (z : V), m < j → (N.map V.str)[m]? = some z → eqV z (.str x) = false := fun m z hm hz => by
  rw [List.getElem?_map] at hz
  obtain ⟨y, hy, rfl⟩ := Option.map_eq_some_iff.mp hz
  rw [eqV_str, decide_eq_false]
  intro e
  subst e
  obtain ⟨l1, e1⟩ := List.getElem?_eq_some_iff.mp h
  obtain ⟨l2, e2⟩ := List.getElem?_eq_some_iff.mp hy
  have := (List.getElem_inj hn).mp (e2.trans e1.symm)
  omega
theorem eqV_self (x : Str) : eqV (.str x) (.str x) = true := by rw [eqV_str, decide_eq_true rfl]
theorem idx_mem {N : List Str} {x : Str} (h : x ∈ N) : ∃ j : Nat, N[j]? = some x := by
  obtain ⟨j, hj, e⟩ := List.mem_iff_getElem.mp h
  exact ⟨j, by rw [List.getElem?_eq_getElem hj, e]⟩
def spLay : Sp := fun vs H Q _ => ∃ t a c q N par r ps, vs = [.ref t, .ref a, .str c] ∧ OkWeb N par r ∧ IsFolk H t N par ∧ IsPiles1 H a ps ∧ ps.length = N.length ∧ Pl (wsOf N ps) ∧ par c = some q ∧ ∀ H' b, Same H H' → H b = none → IsPiles1 H' b (N.map (lay par (wsOf N ps) c)) → Q (.ref b) H'
theorem ok_l_lay (T : Txt K mg C) (D : Df K mg "_law_lay" s_l_lay) : OkF P w K mg base "_law_lay" ["_law_folk_here", "_law_heaps_here", "_law_one"] 1 spLay := by
  obtain ⟨f, fd, F, g⟩ := D
  refine ⟨f, fd, g, F.kp, F.binds (ps := ["_law_folk_here", "_law_heaps_here", "_law_one"]) fun _ _ _ _ _ _ us hl => match us, hl with | [_, _, _], _ => rfl, ?_⟩
  refine F.ok sc_l_lay (fun vs H Q E h => ?_) (fun cdv A outer s H vs Q E hr h => ?_)
  · obtain ⟨t, a, c, q, N, par, r, ps, rfl, _⟩ := h
    rfl
  obtain ⟨t, a, c, q, N, par, r, ps, rfl, W, hf, ⟨bs, hb, hbp⟩, hlen, Ps, hcq, k⟩ := h
  obtain ⟨hcN, hqN⟩ := W.pin _ _ hcq
  refine ⟨_, (pss_cons (ps_par3 (i := 3) (j := 4) (l := 5) rfl sc_l_lay.nd rfl rfl rfl (by decide) (by decide) (by decide) rfl rfl rfl (pa_cons (pe_lc (own := [("_law_title", 8), ("_law_other", 9)]) (g := (gTup K 2 (gCons (gName 8) (gCons (gName 9) gNil)))) (tt := tYes) (te := (tVar 8)) rfl sc_l_lay.nd (pi_tup (pv 0)) (blkOk_by (N := ["_law_folk_here", "_law_heaps_here", "_law_one", "_law_titles_here", "_law_led", "_law_found", "_law_high", "_law_under", "_law_title", "_law_other"]) (sc := defScope s_l_lay) (by decide +kernel)) (fun _ _ _ _ _ => (pg_tup rfl (pgs_cons (pg_name (i := 8) sc_l_lay.nd rfl (Or.inl rfl)) (pgs_cons (pg_name (i := 9) sc_l_lay.nd rfl (Or.inl rfl)) pgs_nil)))) (fun _ _ _ _ _ => pts_nil) (fun _ _ _ _ _ => (pv 8))) (pa_cons (pe_callTy (call_dictT rfl) (by rfl) T.dict (by decide +kernel) (pa_cons (pv 0) pa_nil)) (pa_cons (pe_callTy call_list_of (by rfl) T.list (by decide +kernel) (pa_cons (pv 1) pa_nil)) pa_nil))) (by rfl))
  (pss_cons (ps_par (i := 6) (j := 7) rfl sc_l_lay.nd rfl rfl (by decide) rfl rfl (pa_cons (pe_bm PySem.F.plainAttrs_list PySem.F.slot_list_index PySem.F.type_list_index mt_index (pv 3) (pa_cons (pe_dget (hu_of hr) (pv 4) (pv 2) (fun _ _ => rfl)) pa_nil)) (pa_cons (pe_bm PySem.F.plainAttrs_list PySem.F.slot_list_index PySem.F.type_list_index mt_index (pv 3) (pa_cons (pv 2) pa_nil)) pa_nil)) (by rfl))
  (pss_cons (ps_asg (pe_tup (pa_cons (pe_op op_cat1 (pe_ix ix_list (pv 5) (pv 6) (fun _ _ => rfl)) (pe_ix ix_list (pv 5) (pv 7) (fun _ _ => rfl))) (pa_cons (pe_tup1 pa_nil) pa_nil))) (pg_tup rfl (pgs_cons (pg_sub (pv 5) (pv 6) set_list) (pgs_cons (pg_sub (pv 5) (pv 7) set_list) pgs_nil))))
  (pss_one (ps_ret (pe_callTy call_tuple_of (by rfl) T.tuple (by decide +kernel) (pa_cons (pv 5) pa_nil))))))), ?_⟩
  obtain ⟨ts, ht, hpr⟩ := id hf
  refine ⟨_, rfl, t, rfl, ⟨_, frzT ht⟩, fun D hD => ?_⟩
  refine lc_tup (xs := ts.map V.ref) (fun i H' => Same H H' ∧ H' D = some (.lst ((N.take i).map V.str))) ⟨same_new hD _, upd_same⟩ (fun i H' _ q => frzT (q.1 _ _ ht)) ?_ ?_
  · rintro i v H' hi ⟨s1, hD'⟩
    obtain ⟨b, n, rfl, hn, hbn⟩ := folk_item hpr hi
    refine ⟨b, _, rfl, SqT.of (s1 _ _ hbn), rfl, _, _, rfl, _, _, rfl, rfl, rfl, yesT ⟨_, rfl, _, hD', ?_, same_upd s1 hD, ?_⟩⟩
    · rw [List.length_map]
      exact small4 (Nat.le_trans (List.length_take_le' _ _) W.n4)
    · rw [upd_same, take_snoc hn, List.map_append]; rfl
  rintro H1 ⟨s1, hD1⟩
  rw [List.length_map, Paired.length hpr, List.take_length] at hD1
  obtain ⟨ts2, ht2, hkv⟩ := folk_kvs (K := K) (hf.same s1)
  refine ⟨_, rfl, t, ts2, _, rfl, ht2, hkv, fun d hd => ?_⟩
  rw [merge_map W.nd]
  have s2 := same_new hd (.dK (N.map fun n => ((Sum.inr n : Key), optV (par n))))
  have hd2 : IsWhom (upd H1 d (.dK (N.map fun n => ((Sum.inr n : Key), optV (par n))))) d N par := upd_same
  have hD2 := s2 _ _ hD1
  refine ⟨_, rfl, a, _, rfl, .inr (SqT.of (s2 _ _ (s1 _ _ hb))), fun L hL => ?_⟩
  have s3 := same_new hL (.lst (bs.map V.ref))
  have hD3 := s3 _ _ hD2
  have hd3 := hd2.same s3
  have s03 := (s1.trans s2).trans s3
  have hL0 : H L = none := by
    cases e : H L with
    | none => rfl
    | some u => rw [(s1.trans s2) _ _ e] at hL; cases hL
  have hL3 : upd (upd H1 d (.dK (N.map fun n => ((Sum.inr n : Key), optV (par n))))) L (.lst (bs.map V.ref)) L = some (.lst (bs.map V.ref)) := upd_same
  generalize upd (upd H1 d (.dK (N.map fun n => ((Sum.inr n : Key), optV (par n))))) L (.lst (bs.map V.ref)) = H3 at hD3 hd3 s03 hL3 ⊢
  refine ⟨_, _, _, rfl, ?_⟩
  obtain ⟨jq, hjq⟩ := idx_mem hqN
  obtain ⟨jc, hjc⟩ := idx_mem hcN
  have gc := hd3.get hcN
  rw [hcq] at gc
  have strAt : ∀ {j : Nat} {x : Str}, N[j]? = some x → (N.map V.str)[j]? = some (.str x) := fun h => by rw [List.getElem?_map, h]; rfl
  refine ⟨_, rfl, .inl ⟨rfl, _, SqL.of hD3⟩, _, rfl, _, rfl, d, _, rfl, gc, D, _, _, jq, _, rfl, rfl, SqL.of hD3, rfl, flatStrs _, strAt hjq, eqV_self q, firstIdx W.nd hjq, ?_⟩
  refine ⟨_, rfl, .inl ⟨rfl, _, SqL.of hD3⟩, _, rfl, D, _, _, jc, _, rfl, rfl, SqL.of hD3, rfl, flatStrs _, strAt hjc, eqV_self c, firstIdx W.nd hjc, _, _, rfl, ?_⟩
  have lb : bs.length = N.length := (Paired.length hbp).trans hlen
  have lq : jq < bs.length := by rw [lb]; exact (List.getElem?_eq_some_iff.mp hjq).1
  have lc : jc < bs.length := by rw [lb]; exact (List.getElem?_eq_some_iff.mp hjc).1
  have itm : ∀ {j : Nat} {x : Str} (hl : j < bs.length), N[j]? = some x → T1 H3 bs[j] ((wsOf N ps x).map V.str) := fun {j x} hl hx => by
    obtain ⟨wd, hw, hT⟩ := paired_getL hbp (List.getElem?_eq_getElem hl)
    rw [wsOf_at W.nd hx hw]
    exact hT.same s03
  have refAt : ∀ {j : Nat} (hl : j < bs.length), atI (bs.map V.ref) (j : Int) = some (.ref bs[j]) := fun hl => atN (by rw [List.getElem?_map, List.getElem?_eq_getElem hl]; rfl)
  have out : ∀ x, x ∉ N → wsOf N ps x = [x] := fun x hx => wsOf_out hx
  have l1 := pl_len Ps out hqN
  have l2 := pl_len Ps out hcN
  have n4 := W.n4
  refine ⟨_, rfl, _, rfl, L, _, _, _, rfl, rfl, SqL.of hL3, refAt lq, _, rfl, _, rfl, L, _, _, _, rfl, rfl, SqL.of hL3, refAt lc, bs[jq], bs[jc], _, _, rfl, rfl, itm lq hjq, itm lc hjc, by rw [List.length_map, List.length_map, sizeLine_eq]; omega, fun u H4 s4 hu => ⟨Nat.zero_le _, fun e H5 s5 he0 he => ?_⟩⟩
  refine ⟨by show 2 ≤ sizeLine; rw [sizeLine_eq]; omega, fun z hz => ⟨z, _, rfl, SqT.of upd_same, rfl, _, _, rfl, ?_⟩⟩
  have s6 := same_new hz (.tup [V.ref u, V.ref e])
  have hu6 := (hu.same s5).same s6
  have he6 := he.same s6
  have hL6 := s6 _ _ (s5 _ _ (s4 _ _ hL3))
  have s06 := ((s03.trans s4).trans s5).trans s6
  have old6 : ∀ {j : Nat} {x : Str} (hl : j < bs.length), N[j]? = some x → T1 (upd H5 z (.tup [V.ref u, V.ref e])) bs[j] ((wsOf N ps x).map V.str) := fun hl hx => ((itm hl hx).same (s4.trans s5)).same s6
  generalize upd H5 z (.tup [V.ref u, V.ref e]) = H6 at hu6 he6 hL6 s06 old6 ⊢
  have ixq : ixN (bs.map V.ref).length (jq : Int) = some jq := by
    unfold ixN
    rw [List.length_map, if_pos (by omega), if_pos (by omega)]
    rfl
  refine ⟨_, rfl, _, rfl, L, _, _, jq, rfl, rfl, hL6, ixq, _, _, rfl, _, rfl, _, rfl, L, _, _, jc, rfl, rfl, upd_same, ?_, rfl, ?_⟩
  · unfold ixN
    rw [List.length_set, List.length_map, if_pos (by omega), if_pos (by omega)]
    rfl
  have eset : ((bs.map V.ref).set jq (.ref u)).set jc (.ref e) = ((bs.set jq u).set jc e).map V.ref := by rw [List.map_set, List.map_set]
  refine ⟨_, rfl, L, _, rfl, .inl ⟨SqL.of upd_same, fun b hb' => ?_⟩⟩
  have hLset : upd (upd H6 L (.lst ((bs.map V.ref).set jq (.ref u)))) L (.lst (((bs.map V.ref).set jq (.ref u)).set jc (.ref e))) = upd H6 L (.lst (((bs.map V.ref).set jq (.ref u)).set jc (.ref e))) := by
    funext y
    by_cases hy : y = L
    · subst hy; rw [upd_same, upd_same]
    · rw [upd_ne hy, upd_ne hy, upd_ne hy]
  rw [hLset] at hb' ⊢
  rw [eset] at hb' ⊢
  have sL : Same H (upd H6 L (.lst (((bs.set jq u).set jc e).map V.ref))) := same_upd s06 hL0
  have sb := same_new hb' (.tup (((bs.set jq u).set jc e).map V.ref))
  have hb0 : H b = none := by
    cases q' : H b with
    | none => rfl
    | some v => rw [sL _ _ q'] at hb'; cases hb'
  have fin : ∀ {x : Addr} {xs : List V}, T1 H6 x xs → T1 (upd (upd H6 L (.lst (((bs.set jq u).set jc e).map V.ref))) b (.tup (((bs.set jq u).set jc e).map V.ref))) x xs := fun {x xs} h => by
    refine T1.same ?_ sb
    obtain ⟨o, h1, h2⟩ := h
    exact ⟨o, by rw [upd_ne (fun z => by rw [z, hL6] at h1; cases h1)]; exact h1, h2⟩
  refine k _ b (sL.trans sb) hb0 ⟨(bs.set jq u).set jc e, upd_same, paired_ofget ?_ fun i x wd h1 h2 => ?_⟩
  · rw [List.length_set, List.length_set, List.length_map, lb]
  · rw [List.getElem?_map] at h2
    obtain ⟨n, hn, rfl⟩ := Option.map_eq_some_iff.mp h2
    have hin : i < bs.length := by rw [lb]; exact (List.getElem?_eq_some_iff.mp hn).1
    have inj : ∀ {i j : Nat} {x y : Str}, N[i]? = some x → N[j]? = some y → x = y → i = j := fun {i j x y} e1 e2 e => by
      subst e
      obtain ⟨l1, g1⟩ := List.getElem?_eq_some_iff.mp e1
      obtain ⟨l2, g2⟩ := List.getElem?_eq_some_iff.mp e2
      exact (List.getElem_inj W.nd).mp (g1.trans g2.symm)
    have hcp : q ≠ c := fun z => by
      have := W.rk c q hcq
      rw [z] at this
      omega
    rw [lay_some hcq]
    show T1 _ x ((if n = c then [] else if n = q then wsOf N ps q ++ wsOf N ps c else wsOf N ps n).map V.str)
    by_cases e1 : n = c
    · have hij : i = jc := inj hn hjc e1
      subst hij
      rw [List.getElem?_set_self (by rw [List.length_set]; exact hin)] at h1
      cases h1
      rw [if_pos e1]
      exact fin he6
    · rw [if_neg e1]
      have hij : i ≠ jc := fun z => by subst z; rw [hn] at hjc; exact e1 (Option.some.inj hjc)
      rw [List.getElem?_set_ne (Ne.symm hij)] at h1
      by_cases e2 : n = q
      · have hiq : i = jq := inj hn hjq e2
        subst hiq
        rw [List.getElem?_set_self hin] at h1
        cases h1
        rw [if_pos e2, List.map_append]
        exact fin hu6
      · rw [if_neg e2]
        have hiq : i ≠ jq := fun z => by subst z; rw [hn] at hjq; exact e2 (Option.some.inj hjq)
        rw [List.getElem?_set_ne (Ne.symm hiq), List.getElem?_eq_getElem hin] at h1
        cases h1
        exact fin (old6 hin hn)
end
end HW
set_option Elab.async false
set_option maxRecDepth 100000
set_option linter.all false
set_option maxHeartbeats 4000000
namespace HW
open PySem L2 LamX
section
variable {P : Program} {w : World} {K : PySem.W.Frag} {mg : Str → Option Value} {base : Heap} {C : Addr}
def spHeaps : Sp := fun vs H Q _ => ∃ t c N par r cs, vs = [.ref t, .ref c] ∧ OkWeb N par r ∧ IsFolk H t N par ∧ IsStrT H c cs ∧ (∀ n ∈ cs, ∃ p, par n = some p) ∧ ∀ H' a, Same H H' → IsPiles H' a (N.map (run par home cs.reverse)) → Q (.ref a) H'
theorem ok_l_heaps (T : Txt K mg C) (D : Df K mg "_law_heaps" s_l_heaps) : OkF P w K mg base "_law_heaps" ["_law_folk_here", "_law_some_here"] 1 spHeaps := by
  obtain ⟨f, fd, F, g⟩ := D
  refine ⟨f, fd, g, F.kp, F.binds (ps := ["_law_folk_here", "_law_some_here"]) fun _ _ _ _ _ _ us hl => match us, hl with | [_, _], _ => rfl, ?_⟩
  refine F.ok sc_l_heaps (fun vs H Q E h => ?_) (fun cdv A outer s H vs Q E hr h => ?_)
  · obtain ⟨t, c, N, par, r, cs, rfl, _⟩ := h
    rfl
  obtain ⟨t, c, N, par, r, cs, rfl, W, hf, hc, hcs, k⟩ := h
  refine ⟨_, (pss_cons (ps_set (i := 2) sc_l_heaps.nd rfl (.inl rfl) (pe_callTy (call_dictT rfl) (by rfl) T.dict (by decide +kernel) (pa_cons (pv 0) pa_nil)))
  (pss_cons (ps_set (i := 3) sc_l_heaps.nd rfl (.inr rfl) (pe_callTy (call_dictP rfl) (by rfl) T.dict (by decide +kernel) (pa_cons (pe_lc (own := [("_law_title", 5), ("_law_other", 6)]) (g := (gTup K 2 (gCons (gName 5) (gCons (gName 6) gNil)))) (tt := tYes) (te := (tTup (tCons (tVar 5) (tCons (tTup (tCons (tVar 5) tNil)) tNil)))) rfl sc_l_heaps.nd (pi_tup (pv 0)) (blkOk_by (N := ["_law_folk_here", "_law_some_here", "_law_led", "_law_heaps_here", "_law_one", "_law_title", "_law_other"]) (sc := defScope s_l_heaps) (by decide +kernel)) (fun _ _ _ _ _ => (pg_tup rfl (pgs_cons (pg_name (i := 5) sc_l_heaps.nd rfl (Or.inl rfl)) (pgs_cons (pg_name (i := 6) sc_l_heaps.nd rfl (Or.inl rfl)) pgs_nil)))) (fun _ _ _ _ _ => pts_nil) (fun _ _ _ _ _ => (pe_tup (pa_cons (pv 5) (pa_cons (pe_tup (pa_cons (pv 5) pa_nil)) pa_nil))))) pa_nil)))
  (pss_cons (ps_for PassesOwn.never rfl (pi_tup (pe_revT (pv 1))) (pg_name (i := 4) sc_l_heaps.nd rfl (Or.inl rfl))
  (pss_cons (ps_dput (hu_of hr) (pv 3) (pe_dget (hu_of hr) (pv 2) (pv 4) (fun _ _ => rfl)) (pe_op op_catA (pe_dget (hu_of hr) (pv 3) (pe_dget (hu_of hr) (pv 2) (pv 4) (fun _ _ => rfl)) (fun _ _ => rfl)) (pe_dget (hu_of hr) (pv 3) (pv 4) (fun _ _ => rfl))) (by rfl))
  (pss_one (ps_dput (hu_of hr) (pv 3) (pv 4) (pe_tup pa_nil) (by rfl)))))
  (pss_one (ps_ret (pe_callTy call_tuple_of (by rfl) T.tuple (by decide +kernel) (pa_cons (pe_lc (own := [("_law_title", 5), ("_law_other", 6)]) (g := (gTup K 2 (gCons (gName 5) (gCons (gName 6) gNil)))) (tt := tYes) (te := (tDGet (tVar 3) (tVar 5))) rfl sc_l_heaps.nd (pi_tup (pv 0)) (blkOk_by (N := ["_law_folk_here", "_law_some_here", "_law_led", "_law_heaps_here", "_law_one", "_law_title", "_law_other"]) (sc := defScope s_l_heaps) (by decide +kernel)) (fun _ _ _ _ _ => (pg_tup rfl (pgs_cons (pg_name (i := 5) sc_l_heaps.nd rfl (Or.inl rfl)) (pgs_cons (pg_name (i := 6) sc_l_heaps.nd rfl (Or.inl rfl)) pgs_nil)))) (fun _ _ _ _ _ => pts_nil) (fun _ _ _ _ _ => (pe_dget (hu_of hr) (pv 3) (pv 5) (fun _ _ => rfl)))) pa_nil))))))), ?_⟩
  obtain ⟨ts, ht, hpr⟩ := id hf
  obtain ⟨ts2, ht2, hkv⟩ := folk_kvs (K := K) hf
  refine ⟨_, rfl, t, ts2, _, rfl, ht2, hkv, fun d hd => ?_⟩
  rw [merge_map W.nd]
  have s1 := same_new hd (.dK (N.map fun n => ((Sum.inr n : Key), optV (par n))))
  have hd1 : IsWhom (upd H d (.dK (N.map fun n => ((Sum.inr n : Key), optV (par n))))) d N par := upd_same
  generalize upd H d (.dK (N.map fun n => ((Sum.inr n : Key), optV (par n)))) = H1 at s1 hd1 ⊢
  refine ⟨_, rfl, t, rfl, ⟨_, frzT (s1 _ _ ht)⟩, fun D hD => ?_⟩
  refine lc_tup (xs := ts.map V.ref) (fun i H' => Same H1 H' ∧ ∃ qs : List (Addr × Addr), H' D = some (.lst (qs.map fun z => V.ref z.1)) ∧ Paired (fun z n => H' z.1 = some (.tup [V.str n, V.ref z.2]) ∧ H' z.2 = some (.tup [V.str n])) qs (N.take i)) ⟨same_new hD _, [], upd_same, .nil⟩ (fun i H' _ q => frzT (q.1 _ _ (s1 _ _ ht))) ?_ ?_
  · rintro i v H' hi ⟨s2, qs, hD', hqs⟩
    obtain ⟨b, n, rfl, hn, hbn⟩ := folk_item hpr hi
    refine ⟨b, _, rfl, SqT.of (s2 _ _ (s1 _ _ hbn)), rfl, _, _, rfl, _, _, rfl, rfl, rfl, yesT ⟨_, rfl, _, rfl, one_le, fun u hu => ⟨by show 2 ≤ sizeLine; rw [sizeLine_eq]; omega, fun z hz => ?_⟩⟩⟩
    have su := same_new hu (.tup [V.str n])
    have sz := same_new hz (.tup [V.str n, V.ref u])
    have suz := su.trans sz
    refine ⟨_, suz _ _ hD', ?_, same_upd (s2.trans suz) hD, qs ++ [(z, u)], ?_, ?_⟩
    · rw [List.length_map, Paired.length hqs]
      exact small4 (Nat.le_trans (List.length_take_le' _ _) W.n4)
    · rw [upd_same, List.map_append]; rfl
    · rw [take_snoc hn]
      have nD : ∀ {x : Addr} {xs : List V}, upd (upd H' u (.tup [V.str n])) z (.tup [V.str n, V.ref u]) x = some (.tup xs) → x ≠ D := fun e w => by
        rw [w, suz _ _ hD'] at e
        cases e
      refine paired_snoc (paired_mono hqs fun y m e => ⟨?_, ?_⟩) ⟨?_, ?_⟩
      · have := suz _ _ e.1
        rw [upd_ne (nD this)]; exact this
      · have := suz _ _ e.2
        rw [upd_ne (nD this)]; exact this
      · have : upd (upd H' u (.tup [V.str n])) z (.tup [V.str n, V.ref u]) z = some (.tup [V.str n, V.ref u]) := upd_same
        rw [upd_ne (nD this)]; exact this
      · have : upd (upd H' u (.tup [V.str n])) z (.tup [V.str n, V.ref u]) u = some (.tup [V.str n]) := sz _ _ upd_same
        rw [upd_ne (nD this)]; exact this
  rintro H2 ⟨s2, qs, hD2, hqs⟩
  rw [List.length_map, Paired.length hpr, List.take_length] at hqs
  have lq := Paired.length hqs
  have fat : ∀ {i : Nat} {n : Str} {z : Addr × Addr}, N[i]? = some n → qs[i]? = some z → (qs.getD (N.idxOf n) (0, 0)).2 = z.2 := fun {i n z} h1 h2 => by
    rw [idx_get W.nd h1, List.getD_eq_getElem?_getD, h2]; rfl
  have eD : (qs.map fun z => V.ref z.1) = (qs.map (·.1)).map V.ref := by rw [List.map_map]; rfl
  rw [eD] at hD2
  refine ⟨D, qs.map (·.1), N.map fun n => ((Sum.inr n : Key), V.ref (qs.getD (N.idxOf n) (0, 0)).2), rfl, SqL.of hD2, paired_ofget (by rw [List.length_map, List.length_map, lq]) (fun i p kv h1 h2 => ?_), fun wd hwd => ?_⟩
  · rw [List.getElem?_map] at h1 h2
    obtain ⟨z, hz, rfl⟩ := Option.map_eq_some_iff.mp h1
    obtain ⟨n, hn, rfl⟩ := Option.map_eq_some_iff.mp h2
    obtain ⟨n', hn', e1, e2⟩ := paired_getL hqs hz
    rw [hn] at hn'
    cases hn'
    show SqT K H2 z.1 [V.str n, V.ref (qs.getD (N.idxOf n) (0, 0)).2]
    rw [fat hn hz]
    exact SqT.of e1
  rw [merge_map W.nd]
  have s3 := same_new hwd (.dK (N.map fun n => ((Sum.inr n : Key), V.ref (qs.getD (N.idxOf n) (0, 0)).2)))
  have hW3 : IsWords (upd H2 wd (.dK (N.map fun n => ((Sum.inr n : Key), V.ref (qs.getD (N.idxOf n) (0, 0)).2)))) wd N home := by
    refine ⟨fun n => (qs.getD (N.idxOf n) (0, 0)).2, upd_same, fun n hn => ?_⟩
    obtain ⟨j, hj⟩ := idx_mem hn
    have hjq : j < qs.length := by rw [lq]; exact (List.getElem?_eq_some_iff.mp hj).1
    obtain ⟨n', hn', e1, e2⟩ := paired_getL hqs (List.getElem?_eq_getElem hjq)
    rw [hj] at hn'
    cases hn'
    show upd H2 wd _ (qs.getD (N.idxOf n) (0, 0)).2 = _
    rw [fat hj (List.getElem?_eq_getElem hjq)]
    exact s3 _ _ e2
  have s03 : Same H (upd H2 wd (.dK (N.map fun n => ((Sum.inr n : Key), V.ref (qs.getD (N.idxOf n) (0, 0)).2)))) := (s1.trans s2).trans s3
  have hd3 := (hd1.same s2).same s3
  have hwd0 : H wd = none := by
    cases q' : H wd with
    | none => rfl
    | some v => rw [(s1.trans s2) _ _ q'] at hwd; cases hwd
  have dwd : d ≠ wd := fun z => by
    have h1 : H2 d = _ := hd1.same s2
    rw [z, hwd] at h1
    cases h1
  generalize upd H2 wd (.dK (N.map fun n => ((Sum.inr n : Key), V.ref (qs.getD (N.idxOf n) (0, 0)).2))) = H3 at s03 hW3 hd3 ⊢
  refine ⟨_, rfl, c, _, rfl, SqT.of (s03 _ _ hc), fun q hq => ?_⟩
  have sq := same_new hq (.tup (cs.map V.str).reverse)
  refine ⟨q, rfl, ⟨_, SqT.of upd_same⟩, ?_⟩
  rw [← List.map_reverse]
  rw [← List.map_reverse] at sq
  refine for_tup (xs := cs.reverse.map V.str) (fun i σ H' => Same H H' ∧ IsWhom H' d N par ∧ H' q = some (.tup (cs.reverse.map V.str)) ∧ IsWords H' wd N (run par home (cs.reverse.take i)) ∧ ∃ o, σ = [some (.ref t), some (.ref c), some (.ref d), some (.ref wd), o, none, none]) ⟨s03.trans sq, hd3.same sq, upd_same, hW3.same sq, _, rfl⟩ (fun i σ H' _ z => SqT.of z.2.2.1) ?_ ?_
  · rintro i v σ H' hi ⟨s4, hd4, hq4, ⟨f, hf4, hw4⟩, o, rfl⟩
    rw [List.getElem?_map] at hi
    obtain ⟨n, hn, rfl⟩ := Option.map_eq_some_iff.mp hi
    obtain ⟨p, hp⟩ := hcs n (List.mem_reverse.mp (List.mem_of_getElem? hn))
    obtain ⟨hnN, hpN⟩ := W.pin _ _ hp
    have R : Reach par (run par home (cs.reverse.take i)) := Reach.home.run _ fun c' h' => hcs c' (List.mem_reverse.mp (List.mem_of_mem_take h'))
    have next : run par home (cs.reverse.take (i + 1)) = lay par (run par home (cs.reverse.take i)) n := by rw [take_snoc hn, run_append]; rfl
    rw [next]
    generalize run par home (cs.reverse.take i) = s at hw4 R ⊢
    have Ps := R.pl W.rk
    have out := fun x hx => R.out W (x := x) hx
    have gd := hd4.get hnN
    rw [hp] at gd
    have hlen : (N.map fun n => ((Sum.inr n : Key), V.ref (f n))).length < sizeLine := by rw [List.length_map]; exact small4 W.n4
    refine ⟨_, rfl, _, rfl, _, rfl, d, _, rfl, gd, wd, _, rfl, IsWords.get hf4 hpN, _, rfl, _, rfl, wd, _, rfl, IsWords.get hf4 hnN, ?_⟩
    refine catA_of (hw4 p hpN) (hw4 n hnN) ?_ fun b H5 s5 hb => ?_
    · rw [List.length_map, List.length_map]
      have h1 := pl_len Ps out hpN
      have h2 := pl_len Ps out hnN
      have := W.n4
      rw [sizeLine_eq]; omega
    rw [← List.map_append] at hb
    have gd5 := (hd4.same s5).get hnN
    rw [hp] at gd5
    refine ⟨_, rfl, _, rfl, _, rfl, d, _, rfl, gd5, wd, _, rfl, DPut.k (k := Sum.inr p) (s5 _ _ hf4) hlen, ?_⟩
    obtain ⟨f6, hf6, hw6⟩ := IsWords.put (s5 _ _ hf4) (fun n hn => s5 _ _ (hw4 n hn)) hpN hb
    have s6 := same_upd (o := .dK (putK (N.map fun n => ((Sum.inr n : Key), V.ref (f n))) (Sum.inr p) (.ref b))) (s4.trans s5) hwd0
    have hq6 : upd H5 wd (.dK (putK (N.map fun n => ((Sum.inr n : Key), V.ref (f n))) (Sum.inr p) (.ref b))) q = some (.tup (cs.reverse.map V.str)) := by
      rw [upd_ne (fun e => by rw [e, hf4] at hq4; cases hq4)]
      exact s5 _ _ hq4
    have hd6 : IsWhom (upd H5 wd (.dK (putK (N.map fun n => ((Sum.inr n : Key), V.ref (f n))) (Sum.inr p) (.ref b)))) d N par := by
      show upd H5 wd _ d = _
      rw [upd_ne dwd]
      exact s5 _ _ hd4
    generalize upd H5 wd (.dK (putK (N.map fun n => ((Sum.inr n : Key), V.ref (f n))) (Sum.inr p) (.ref b))) = H6 at hf6 hw6 s6 hq6 hd6 ⊢
    refine ⟨Nat.zero_le _, fun e he => ⟨_, rfl, _, rfl, wd, _, rfl, DPut.k (k := Sum.inr n) (same_new he _ _ _ hf6) (by rw [List.length_map]; exact small4 W.n4), ?_⟩⟩
    have se := same_new he (.tup [])
    have fin := IsWords.put (v := []) (se _ _ hf6) (fun n hn => se _ _ (hw6 n hn)) hnN (b := e) upd_same
    refine ⟨same_upd (s6.trans se) hwd0, ?_, ?_, ?_, _, rfl⟩
    · show upd (upd H6 e _) wd _ d = _
      rw [upd_ne dwd]
      exact se _ _ hd6
    · show upd (upd H6 e _) wd _ q = _
      rw [upd_ne (fun z => by rw [z, hf6] at hq6; cases hq6)]
      exact se _ _ hq6
    · rw [lay_some hp]
      exact fin
  · rintro σ H' ⟨s4, hd4, hq4, ⟨f, hf4, hw4⟩, o, rfl⟩
    rw [List.length_map, List.take_length] at hw4
    refine ⟨_, rfl, t, rfl, ⟨_, frzT (s4 _ _ ht)⟩, fun L hL => ?_⟩
    have hL0 : H L = none := by
      cases q' : H L with
      | none => rfl
      | some v => rw [s4 _ _ q'] at hL; cases hL
    refine lc_tup (xs := ts.map V.ref) (fun i H'' => Same H' H'' ∧ H'' L = some (.lst ((N.take i).map fun n => V.ref (f n)))) ⟨same_new hL _, upd_same⟩ (fun i H'' _ q => frzT (q.1 _ _ (s4 _ _ ht))) ?_ ?_
    · rintro i v H'' hi ⟨s5, hL5⟩
      obtain ⟨b, n, rfl, hn, hbn⟩ := folk_item hpr hi
      refine ⟨b, _, rfl, SqT.of (s5 _ _ (s4 _ _ hbn)), rfl, _, _, rfl, _, _, rfl, rfl, rfl, yesT ⟨_, rfl, _, rfl, wd, _, rfl, IsWords.get (s5 _ _ hf4) (List.mem_of_getElem? hn), _, hL5, ?_, same_upd s5 hL, ?_⟩⟩
      · rw [List.length_map]
        exact small4 (Nat.le_trans (List.length_take_le' _ _) W.n4)
      · rw [upd_same, take_snoc hn, List.map_append]; rfl
    · rintro H'' ⟨s5, hL5⟩
      rw [List.length_map, Paired.length hpr, List.take_length] at hL5
      refine ⟨L, _, rfl, .inl ⟨SqL.of hL5, fun l hl => ?_⟩⟩
      refine k _ l ((s4.trans s5).trans (same_new hl _)) ⟨N.map f, ?_, paired_ofget (by rw [List.length_map, List.length_map]) fun i b x h1 h2 => ?_⟩
      · rw [upd_same, List.map_map]; rfl
      · rw [List.getElem?_map] at h1 h2
        obtain ⟨n, hn, rfl⟩ := Option.map_eq_some_iff.mp h1
        rw [hn] at h2
        cases h2
        exact same_new hl _ _ _ (s5 _ _ (hw4 n (List.mem_of_getElem? hn)))
end
end HW
set_option Elab.async false
set_option maxRecDepth 100000
set_option linter.all false
set_option maxHeartbeats 4000000
/-! t * n, n one or more -/
namespace HW
open L2 PyProof.Rows PySem PySem.Spec
theorem tuple_once (l : Addr) (items : Array Value) (n : Nat) (dd : Option Addr) (sl : Array (Option Value)) (u : Tok) :
    Meets (Builtin.«tuple.__mul__» ⟨[.ref l, .int 1 u], []⟩) (fun _ R s => s.heap.get? l = some { cls := .type "tuple", dict := dd, data := .seq items n, slots := sl } ∧ R (.ok (.ret (.ref l))) s) := .of_wp fun prog w A R s h => by
    (obtain ⟨hp, g, d, tk, os⟩ := s); obtain ⟨hl, h⟩ := h
    have f1 := AutoSeq1.idx_int
    have c1 : (items.isEmpty || (1 : Int) == 1) = true := by simp
    (wp_walk using wpAny_loadPart' hl); exact ⟨_, rfl, h⟩
def rRepA : R2 := fun x y H Q => ∃ l k xs, x = .ref l ∧ y = .int k ∧ H l = some (.tup xs) ∧ xs ≠ [] ∧ 1 ≤ k ∧ k ≤ 1000 ∧ xs.length ≤ 1000 ∧ ∀ p H', (∀ b u, H b = some u → H' b = some u) → H' p = some (.tup (List.replicate k.toNat xs).flatten) → Q (.ref p) H'
theorem op_repA {X : Cx} : OpR X (binaryOp .Mult) rRepA := by
  (intro pins s σ H x y v u Q I rx ry h); obtain ⟨l, k, xs, rfl, rfl, hT, hne, h1, h2, hz, q⟩ := h
  by_cases k1 : k = 1
  · subst k1
    cases rx
    obtain ⟨t, rfl⟩ := ry
    obtain ⟨its, r, ⟨⟨cls, dd, data, sl⟩, ho, hc, n, hd⟩, hs⟩ := I.tuple (SqT.of hT)
    simp only at hc hd
    subst hc hd
    refine wpAny_binaryOp_repeat_ref (T := "tuple") (U := "int") (by decide) ⟨_, ho, rfl⟩ (fun s' => typeIs_int s' 1 t) noFill_tuple_mul F.fills_int_mul F.slot_int_rmul repeat_tuple F.slot_int_index.lookup
      (call_meets F.slot_int_rmul (typeIs_int s 1 t) F.entry_int_rmul (F.args_int_rmul_2 _ _) (int_rmul_tuple 1 t l its.toArray n dd sl)
        ⟨ho, rfl, ⟨_, ho, rfl⟩, call_meets F.slot_tuple_mul ⟨_, ho, rfl⟩ F.entry_tuple_mul (F.args_tuple_mul_2 _ _) (tuple_once l its.toArray n dd sl t) ⟨ho, ?_⟩⟩)
    exact ⟨.ref l, H, I, rfl, q l H (fun _ _ h => h) (by rw [hT]; simp)⟩
  · exact op_repT pins s σ H _ _ v u Q I rx ry ⟨l, k, xs, rfl, rfl, SqT.of hT, hne, by omega, h2, hz, fun p hp => q p _ (fun b u h => by rw [upd_ne (ne_of_none h hp)]; exact h) upd_same⟩
end HW
set_option Elab.async false
set_option maxRecDepth 100000
set_option linter.all false
set_option maxHeartbeats 4000000
namespace HW
open PySem L2 LamX
theorem cut_pre {xs : List V} {k : Nat} (h : k ≤ xs.length) : cutV xs none (some (k : Int)) = xs.take k := by
  have h2 : HT.sIx xs.length xs.length (some (k : Int)) = k := by
    show (if (k : Int) < 0 then ((k : Int) + xs.length).toNat else min (k : Int).toNat xs.length) = k
    rw [if_neg (by omega), Int.toNat_natCast, Nat.min_eq_left h]
  have h1 : HT.sIx xs.length 0 none = 0 := rfl
  unfold cutV
  rw [h1, h2]
  simp
theorem cut_suf {xs : List V} {k : Nat} (h : k ≤ xs.length) : cutV xs (some (k : Int)) none = xs.drop k := by
  have h1 : HT.sIx xs.length 0 (some (k : Int)) = k := by
    show (if (k : Int) < 0 then ((k : Int) + xs.length).toNat else min (k : Int).toNat xs.length) = k
    rw [if_neg (by omega), Int.toNat_natCast, Nat.min_eq_left h]
  have h2 : HT.sIx xs.length xs.length none = xs.length := rfl
  unfold cutV
  rw [h1, h2, List.take_of_length_le (by rw [List.length_drop]; exact Nat.le_refl _)]
/-- one put into a pile -/
def putP (ps : List (List Str)) (s k : Nat) (x : Str) : List (List Str) := ps.take s ++ [(ps.getD s []).take k ++ [x] ++ (ps.getD s []).drop k] ++ ps.drop (s + 1)
theorem putP_len {ps : List (List Str)} {s k : Nat} {x : Str} (h : s < ps.length) : (putP ps s k x).length = ps.length := by
  unfold putP
  rw [List.length_append, List.length_append, List.length_take, List.length_drop, List.length_singleton]
  omega
theorem perm4 (A B C D : List Str) (x : Str) : (A ++ (B ++ [x] ++ C) ++ D).Perm (A ++ (B ++ C) ++ D ++ [x]) :=
  List.perm_iff_count.mpr fun a => by simp only [List.count_append]; omega
theorem putP_perm {ps : List (List Str)} {s k : Nat} {x : Str} {L : List Str} (h : s < ps.length) (hp : ps.flatten.Perm L) : (putP ps s k x).flatten.Perm (L ++ [x]) := by
  have e : ps = ps.take s ++ [ps.getD s []] ++ ps.drop (s + 1) := by
    have h1 : ps.getD s [] = ps[s] := by rw [List.getD_eq_getElem?_getD, List.getElem?_eq_getElem h]; rfl
    rw [h1, List.append_assoc, List.singleton_append, List.getElem_cons_drop, List.take_append_drop]
  have e2 : ps.flatten = (ps.take s).flatten ++ (ps.getD s []) ++ (ps.drop (s + 1)).flatten := by
    conv => lhs; rw [e]
    simp
  unfold putP
  have e3 : (ps.take s ++ [(ps.getD s []).take k ++ [x] ++ (ps.getD s []).drop k] ++ ps.drop (s + 1)).flatten = (ps.take s).flatten ++ ((ps.getD s []).take k ++ [x] ++ (ps.getD s []).drop k) ++ (ps.drop (s + 1)).flatten := by simp
  rw [e3]
  refine List.Perm.trans ?_ (List.Perm.append_right [x] hp)
  rw [e2]
  have e4 : ps.getD s [] = (ps.getD s []).take k ++ (ps.getD s []).drop k := (List.take_append_drop _ _).symm
  conv => rhs; rw [e4]
  exact perm4 _ _ _ _ _
section
variable {P : Program} {w : World} {K : PySem.W.Frag} {mg : Str → Option Value} {base : Heap} {C : Addr}
theorem T1.keep {H H' : Hp} {l a : Addr} {xs qs : List V} (h : T1 H a xs) (hl : H l = some (.lst qs)) (k : Keep l H H') : T1 H' a xs := by
  obtain ⟨o, e, d⟩ := h
  exact ⟨o, k _ _ (fun z => by rw [z, hl] at e; cases e) e, d⟩
theorem IsPiles1.keep {H H' : Hp} {l a : Addr} {ps : List (List Str)} {qs : List V} (h : IsPiles1 H a ps) (hl : H l = some (.lst qs)) (k : Keep l H H') : IsPiles1 H' a ps := by
  obtain ⟨bs, e, p⟩ := h
  exact ⟨bs, k _ _ (fun z => by rw [z, hl] at e; cases e) e, paired_mono p fun b w q => q.keep hl k⟩
/-- a list of piles -/
def IsPL (H : Hp) (l : Addr) (pss : List (List (List Str))) : Prop := ∃ as : List Addr, H l = some (.lst (as.map V.ref)) ∧ Paired (fun a ps => IsPiles1 H a ps) as pss
theorem IsPL.keep {H H' : Hp} {l m : Addr} {pss : List (List (List Str))} {qs : List V} (h : IsPL H m pss) (hl : H l = some (.lst qs)) (hne : m ≠ l) (k : Keep l H H') : IsPL H' m pss := by
  obtain ⟨as, e, p⟩ := h
  exact ⟨as, k _ _ hne e, paired_mono p fun b w q => q.keep hl k⟩
theorem IsPL.same {H H' : Hp} {m : Addr} {pss : List (List (List Str))} (h : IsPL H m pss) (s : Same H H') : IsPL H' m pss := by
  obtain ⟨as, e, p⟩ := h
  exact ⟨as, s _ _ e, paired_mono p fun b w q => q.same s⟩
theorem IsPL.len {H : Hp} {l : Addr} {pss : List (List (List Str))} (h : IsPL H l pss) : ∃ as : List Addr, H l = some (.lst (as.map V.ref)) ∧ as.length = pss.length := by
  obtain ⟨as, e, p⟩ := h
  exact ⟨as, e, Paired.length p⟩
/-- one more at the end -/
theorem IsPL.snoc {H : Hp} {l a : Addr} {as : List Addr} {pss : List (List (List Str))} {ps : List (List Str)} (e : H l = some (.lst (as.map V.ref))) (p : Paired (fun a ps => IsPiles1 H a ps) as pss) (h : IsPiles1 H a ps) : IsPL (upd H l (.lst (as.map V.ref ++ [.ref a]))) l (pss ++ [ps]) := by
  have k : Keep l H (upd H l (.lst (as.map V.ref ++ [.ref a]))) := kp_upd _ (Keep.refl _ _)
  refine ⟨as ++ [a], ?_, paired_snoc (paired_mono p fun b w q => q.keep e k) (h.keep e k)⟩
  rw [upd_same, List.map_append]
  rfl
def GoodP (N : List Str) (i : Nat) (ps : List (List Str)) : Prop := ps.length = N.length ∧ ps.flatten.Perm (N.take i)
theorem paired_take {α β : Type} {F : α → β → Prop} : ∀ {l₁ : List α} {l₂ : List β}, Paired F l₁ l₂ → ∀ n, Paired F (l₁.take n) (l₂.take n)
  | _, _, .nil, n => by rw [List.take_nil, List.take_nil]; exact .nil
  | _, _, .cons _ _, 0 => .nil
  | _, _, .cons h t, n + 1 => .cons h (paired_take t n)
theorem paired_drop {α β : Type} {F : α → β → Prop} : ∀ {l₁ : List α} {l₂ : List β}, Paired F l₁ l₂ → ∀ n, Paired F (l₁.drop n) (l₂.drop n)
  | _, _, .nil, n => by rw [List.drop_nil, List.drop_nil]; exact .nil
  | _, _, .cons h t, 0 => .cons h t
  | _, _, .cons _ t, n + 1 => paired_drop t n
def spEvery : Sp := fun vs H Q _ => ∃ t N par r, vs = [.ref t] ∧ OkWeb N par r ∧ IsFolk H t N par ∧ ∀ H' l pss, Same H H' → H l = none → IsPL H' l pss → (∀ ps ∈ pss, IsPl N ps) → Q (.ref l) H'
theorem sum_len {ps : List (List Str)} : ((ps.map fun w => w.length + 1).sum) = ps.flatten.length + ps.length := by
  induction ps with
  | nil => rfl
  | cons w l ih =>
    rw [List.map_cons, List.sum_cons, ih, List.flatten_cons, List.length_append, List.length_cons]
    omega
theorem sum_take {ps : List (List Str)} {s : Nat} {w : List Str} (h : ps[s]? = some w) : ((ps.take (s + 1)).map fun w => w.length + 1).sum = ((ps.take s).map fun w => w.length + 1).sum + (w.length + 1) := by
  rw [take_snoc h, List.map_append, List.sum_append]
  simp
theorem sum_take_le (ps : List (List Str)) (s : Nat) : ((ps.take s).map fun w => w.length + 1).sum ≤ (ps.map fun w => w.length + 1).sum := by
  have e : ps = ps.take s ++ ps.drop s := (List.take_append_drop s ps).symm
  conv => rhs; rw [e]
  rw [List.map_append, List.sum_append]
  omega
theorem ok_l_every (T : Txt K mg C) (D : Df K mg "_law_every" s_l_every) : OkF P w K mg base "_law_every" ["_law_folk_here"] 1 spEvery := by
  obtain ⟨f, fd, F, g⟩ := D
  refine ⟨f, fd, g, F.kp, F.binds (ps := ["_law_folk_here"]) fun _ _ _ _ _ _ us hl => match us, hl with | [_], _ => rfl, ?_⟩
  refine F.ok sc_l_every (fun vs H Q E h => ?_) (fun cdv A outer s H vs Q E hr h => ?_)
  · obtain ⟨t, N, par, r, rfl, _⟩ := h
    rfl
  obtain ⟨t, N, par, r, rfl, W, hf, k⟩ := h
  refine ⟨_, (pss_cons (ps_set (i := 1) sc_l_every.nd rfl (.inl rfl) (pe_lst (pa_cons (pe_op op_repA (pe_tup (pa_cons (pe_tup1 pa_nil) pa_nil)) (pe_callB call_len_seq (by rfl) T.len (by decide +kernel) (pa_cons (pv 0) pa_nil))) pa_nil)))
  (pss_cons (ps_for PassesOwn.never rfl (pi_tup (pv 0)) (pg_tup rfl (pgs_cons (pg_name (i := 2) sc_l_every.nd rfl (Or.inl rfl)) (pgs_cons (pg_name (i := 3) sc_l_every.nd rfl (Or.inl rfl)) pgs_nil)))
  (pss_cons (ps_set (i := 4) sc_l_every.nd rfl (.inl rfl) (pe_lst pa_nil))
  (pss_cons (ps_for PassesOwn.never rfl (pi_list (pv 1)) (pg_name (i := 5) sc_l_every.nd rfl (Or.inl rfl))
  (pss_one (ps_for PassesOwn.never rfl (pi_enumT (by rfl) T.enum (pa_cons (pv 5) pa_nil)) (pg_tup rfl (pgs_cons (pg_name (i := 6) sc_l_every.nd rfl (Or.inl rfl)) (pgs_cons (pg_name (i := 7) sc_l_every.nd rfl (Or.inl rfl)) pgs_nil)))
  (pss_one (ps_for PassesOwn.never rfl (pi_range1 (by rfl) T.range (pa_cons (pe_op op_add (pe_callB call_len_seq (by rfl) T.len (by decide +kernel) (pa_cons (pv 7) pa_nil)) pe_int) pa_nil)) (pg_name (i := 8) sc_l_every.nd rfl (Or.inl rfl))
  (pss_one (ps_expr (pe_bm PySem.F.plainAttrs_list PySem.F.slot_list_append PySem.F.type_list_append mt_append (pv 4) (pa_cons (pe_op op_catA (pe_op op_catA (pe_slice sl_tupA (pv 5) po_none (po_some (pv 6))) (pe_tup (pa_cons (pe_op op_cat1 (pe_op op_cat1 (pe_slice sl_tup1 (pv 7) po_none (po_some (pv 8))) (pe_tup1 (pa_cons (pv 2) pa_nil))) (pe_slice sl_tup1 (pv 7) (po_some (pv 8)) po_none)) pa_nil))) (pe_slice sl_tupA (pv 5) (po_some (pe_op op_add (pv 6) pe_int)) po_none)) pa_nil)))))))))
  (pss_one (ps_set (i := 1) sc_l_every.nd rfl (.inl rfl) (pv 4))))))
  (pss_one (ps_ret (pv 1))))), ?_⟩
  obtain ⟨ts, ht, hpr⟩ := id hf
  have lts : ts.length = N.length := Paired.length hpr
  have n1 := W.n1
  have n4 := W.n4
  refine ⟨Nat.zero_le _, fun e H1 s1 he0 he => ⟨one_le, fun o ho => ?_⟩⟩
  have so := same_new ho (.tup [V.ref e])
  refine ⟨_, rfl, t, _, rfl, .inr (frzT ((s1.trans so) _ _ ht)), o, _, _, rfl, rfl, upd_same, by simp, by rw [List.length_map]; omega, by rw [List.length_map]; omega, by simp, fun p H2 s2 hp => ⟨one_le, fun fl hfl => ?_⟩⟩
  have s12 := (s1.trans so).trans s2
  have e2 : T1 H2 e [] := (he.same so).same s2
  have sf := same_new hfl (.lst [V.ref p])
  have eflat : (List.replicate ((((ts.map V.ref).length : Nat) : Int)).toNat [V.ref e]).flatten = (List.replicate N.length e).map V.ref := by
    rw [Int.toNat_natCast, List.length_map, lts]
    generalize N.length = n
    induction n with
    | zero => rfl
    | succ n ih => rw [List.replicate_succ, List.flatten_cons, ih]; rfl
  rw [eflat] at hp
  have good0 : IsPL (upd H2 fl (.lst [V.ref p])) fl [List.replicate N.length []] := by
    refine ⟨[p], upd_same, .cons ⟨List.replicate N.length e, sf _ _ hp, paired_ofget (by simp) fun i a b h1 h2 => ?_⟩ .nil⟩
    have ha : a = e := List.eq_of_mem_replicate (List.mem_of_getElem? h1)
    have hb : b = [] := List.eq_of_mem_replicate (List.mem_of_getElem? h2)
    subst ha hb
    exact e2.same sf
  have s0 := s12.trans sf
  refine ⟨_, rfl, t, rfl, ⟨_, frzT (s0 _ _ ht)⟩, ?_⟩
  refine for_tup (xs := ts.map V.ref) (fun i σ H' => Same H H' ∧ ∃ fl pss, H fl = none ∧ IsPL H' fl pss ∧ (∀ ps ∈ pss, GoodP N i ps) ∧ pss.length ≤ 8 ^ i ∧ ∃ o2 o3 o4 o5 o6 o7 o8, σ = [some (.ref t), some (.ref fl), o2, o3, o4, o5, o6, o7, o8])
    ⟨s0, fl, _, ?_, good0, fun ps hps => ?_, Nat.le_refl _, _, _, _, _, _, _, _, rfl⟩ (fun i σ H' _ q => frzT (q.1 _ _ ht)) ?_ ?_
  · cases q : H fl with
    | none => rfl
    | some u => rw [s12 _ _ q] at hfl; cases hfl
  · rw [List.mem_singleton.mp hps]
    refine ⟨by simp, ?_⟩
    have : (List.replicate N.length ([] : List Str)).flatten = [] := by simp
    rw [this, List.take_zero]
  · rintro i v σ H3 hi ⟨s3, fl, pss, hfl0, hPL, hgood, hcnt, o2, o3, o4, o5, o6, o7, o8, rfl⟩
    obtain ⟨b, n, rfl, hn, hbn⟩ := folk_item hpr hi
    have hiN : i < N.length := (List.getElem?_eq_some_iff.mp hn).1
    have pow : 8 ^ i ≤ 512 := by
      have : i ≤ 3 := by omega
      exact Nat.le_trans (Nat.pow_le_pow_right (by decide) this) (by decide)
    refine ⟨b, _, rfl, SqT.of (s3 _ _ hbn), rfl, _, _, rfl, _, _, rfl, rfl, ?_⟩
    refine ⟨Nat.zero_le _, fun lt hlt => ?_⟩
    have s4 := same_new hlt (.lst [])
    have hlt0 : H lt = none := by
      cases q : H lt with
      | none => rfl
      | some u => rw [s3 _ _ q] at hlt; cases hlt
    have hLT : upd H3 lt (.lst []) lt = some (.lst []) := upd_same
    have hPL4 := hPL.same s4
    obtain ⟨as, has, hps4⟩ := id hPL4
    have flt : fl ≠ lt := fun z => by
      obtain ⟨as', has', _⟩ := hPL
      rw [z, hlt] at has'
      cases has'
    have s34 := s3.trans s4
    generalize upd H3 lt (.lst []) = H4 at hLT hPL4 has hps4 s34
    refine ⟨_, rfl, fl, rfl, ⟨_, SqL.of has⟩, ?_⟩
    refine for_list (xs := as.map V.ref) (fun j σ H' => Keep lt H4 H' ∧ (∃ qss, IsPL H' lt qss ∧ (∀ ps ∈ qss, GoodP N (i + 1) ps) ∧ qss.length ≤ 8 * j) ∧ ∃ o3 o5 o6 o7 o8, σ = [some (.ref t), some (.ref fl), some (.str n), o3, some (.ref lt), o5, o6, o7, o8])
      ⟨Keep.refl _ _, ⟨[], ⟨[], hLT, .nil⟩, by simp, Nat.le_refl _⟩, _, _, _, _, _, rfl⟩ (fun j σ H' _ q => SqL.of (q.1 _ _ flt has)) ?_ ?_
    · rintro j v σ H5 hj ⟨k5, ⟨qss, hq5, hg5, hl5⟩, p3, p5, p6, p7, p8, rfl⟩
      rw [List.getElem?_map] at hj
      obtain ⟨a, ha, rfl⟩ := Option.map_eq_some_iff.mp hj
      obtain ⟨ps, hps, hPa⟩ := paired_getL hps4 ha
      obtain ⟨glen, gperm⟩ := hgood ps (List.mem_of_getElem? hps)
      have hja : j < pss.length := (List.getElem?_eq_some_iff.mp hps).1
      have tot : ((ps.map fun w => w.length + 1).sum) ≤ 8 := by
        rw [sum_len, gperm.length_eq, List.length_take, glen]
        omega
      have flen : ∀ {s : Nat} {wd : List Str}, ps[s]? = some wd → wd.length ≤ 4 := fun {s wd} h => by
        have h1 : wd.Sublist ps.flatten := List.sublist_flatten_of_mem (List.mem_of_getElem? h)
        have h2 := h1.length_le
        rw [gperm.length_eq, List.length_take] at h2
        omega
      obtain ⟨bs, hbs, hbp⟩ := hPa
      have lbs : bs.length = ps.length := Paired.length hbp
      have ane : a ≠ lt := fun z => by rw [z, hLT] at hbs; cases hbs
      refine ⟨_, rfl, a, _, rfl, SqT.of (k5 _ _ ane hbs), ?_⟩
      refine for_enumT (xs := bs.map V.ref) (fun sp σ H' => Keep lt H4 H' ∧ (∃ qss, IsPL H' lt qss ∧ (∀ ps ∈ qss, GoodP N (i + 1) ps) ∧ qss.length ≤ 8 * j + ((ps.take sp).map fun w => w.length + 1).sum) ∧ ∃ o3 o6 o7 o8, σ = [some (.ref t), some (.ref fl), some (.str n), o3, some (.ref lt), some (.ref a), o6, o7, o8])
        ⟨k5, ⟨qss, hq5, hg5, by simpa using hl5⟩, _, _, _, _, rfl⟩ (fun sp σ H' _ q => SqT.of (q.1 _ _ ane hbs)) ?_ ?_
      · rintro sp v T' σ H6 hsp ⟨k6, ⟨qss, hq6, hg6, hl6⟩, p3, p6, p7, p8, rfl⟩ hT'
        rw [List.getElem?_map] at hsp
        obtain ⟨b, hb, rfl⟩ := Option.map_eq_some_iff.mp hsp
        obtain ⟨wd, hwd, hbw⟩ := paired_getL hbp hb
        have hspl : sp < ps.length := (List.getElem?_eq_some_iff.mp hwd).1
        have sT := same_new hT' (.tup [V.int (sp : Nat), V.ref b])
        have k7 := k6.trans (kp_of sT)
        have hq7 := hq6.same sT
        have wl := flen hwd
        have slt := sum_take hwd
        have sle := sum_take_le ps (sp + 1)
        have tT : upd H6 T' (.tup [V.int (sp : Nat), V.ref b]) T' = some (.tup [V.int (sp : Nat), V.ref b]) := upd_same
        generalize upd H6 T' (.tup [V.int (sp : Nat), V.ref b]) = H7 at k7 hq7 sT tT ⊢
        have hb7 : T1 H7 b (wd.map V.str) := hbw.keep hLT k7
        refine ⟨T', _, rfl, SqT.of tT, rfl, _, _, rfl, _, _, rfl, rfl, ?_⟩
        refine ⟨_, rfl, b, _, rfl, .inr hb7.sq, _, _, rfl, rfl, _, rfl, by rw [List.length_map]; omega, by rw [List.length_map]; omega, ?_⟩
        rw [List.length_map]
        refine for_range (lo := 0) (n := ((wd.length : Int) + 1).toNat) (fun m σ H' => Keep lt H4 H' ∧ (∃ qss, IsPL H' lt qss ∧ (∀ ps ∈ qss, GoodP N (i + 1) ps) ∧ qss.length ≤ 8 * j + ((ps.take sp).map fun w => w.length + 1).sum + m) ∧ ∃ o3 o8, σ = [some (.ref t), some (.ref fl), some (.str n), o3, some (.ref lt), some (.ref a), some (.int (sp : Nat)), some (.ref b), o8])
          ⟨k7, ⟨qss, hq7, hg6, by omega⟩, _, _, rfl⟩ ?_ ?_
        · rintro m σ H8 hm ⟨k8, ⟨qss, hq8, hg8, hl8⟩, q3, q8, rfl⟩
          have hmw : m ≤ wd.length := by omega
          obtain ⟨cs, hcs, hcp⟩ := id hq8
          have lcs : cs.length = qss.length := Paired.length hcp
          have ha8 := k8 _ _ ane hbs
          have hb8 : T1 H8 b (wd.map V.str) := hbw.keep hLT k8
          refine ⟨_, rfl, .inl ⟨rfl, _, SqL.of hcs⟩, _, rfl, _, rfl, (sp : Nat), rfl, ?_⟩
          refine slA_of ha8 fun u1 H9 s9 hu1 => ?_
          rw [cut_pre (by rw [List.length_map]; omega)] at hu1
          have em : (0 : Int) + (m : Nat) = (m : Nat) := Int.zero_add _
          refine ⟨_, rfl, _, rfl, (m : Nat), by rw [em], b, _, rfl, hb8.same s9, fun u2 H10 s10 h2 => ⟨_, rfl, one_le, fun u3 H11 s11 h30 h3 => ?_⟩⟩
          rw [cut_pre (by rw [List.length_map]; omega)] at h2
          refine ⟨u2, u3, _, _, rfl, rfl, h2.same s11, h3, by rw [List.length_take, List.length_map, List.length_singleton, sizeLine_eq]; omega, fun u4 H12 s12' h4 => ?_⟩
          refine ⟨_, rfl, _, rfl, (m : Nat), by rw [em], b, _, rfl, (((hb8.same s9).same s10).same s11).same s12', fun u5 H13 s13 h5 => ?_⟩
          rw [cut_suf (by rw [List.length_map]; omega)] at h5
          refine ⟨u4, u5, _, _, rfl, rfl, h4.same s13, h5, by rw [List.length_append, List.length_take, List.length_drop, List.length_map, List.length_singleton, sizeLine_eq]; omega, fun u6 H14 s14 h6 => ⟨one_le, fun u7 h70 => ?_⟩⟩
          have s15 := same_new h70 (.tup [V.ref u6])
          have hu1' : upd H14 u7 (.tup [V.ref u6]) u1 = some (.tup ((bs.map V.ref).take sp)) := s15 _ _ (s14 _ _ (s13 _ _ (s12' _ _ (s11 _ _ (s10 _ _ hu1)))))
          refine catA_of hu1' upd_same (by rw [List.length_take, List.length_map, List.length_singleton, sizeLine_eq]; omega) fun u8 H16 s16 h8 => ?_
          have all16 : Same H8 H16 := (((((s9.trans s10).trans s11).trans s12').trans s13).trans s14).trans (s15.trans s16)
          refine ⟨_, rfl, _, rfl, _, _, rfl, rfl, _, rfl, ?_⟩
          dsimp only [tNoPart]
          refine slA_of (all16 _ _ ha8) fun u9 H17 s17 h9 => ?_
          have esp : ((sp : Nat) : Int) + 1 = ((sp + 1 : Nat) : Int) := by omega
          rw [esp, cut_suf (by rw [List.length_map]; omega)] at h9
          refine catA_of (s17 _ _ h8) h9 (by rw [List.length_append, List.length_take, List.length_drop, List.length_map, List.length_singleton, sizeLine_eq]; omega) fun u10 H18 s18 h10 => ?_
          have all18 : Same H8 H18 := (all16.trans s17).trans s18
          have hcs18 := all18 _ _ hcs
          have hcp18 := paired_mono hcp fun x y q => q.same all18
          have hnew : IsPiles1 H18 u10 (putP ps sp m n) := by
            refine ⟨bs.take sp ++ [u6] ++ bs.drop (sp + 1), ?_, ?_⟩
            · rw [h10, List.map_append, List.map_append, List.map_take, List.map_drop]
              rfl
            · have eget : ps.getD sp [] = wd := by rw [List.getD_eq_getElem?_getD, hwd]; rfl
              unfold putP
              rw [eget]
              have old : Paired (fun b w => T1 H18 b (w.map V.str)) bs ps := paired_mono hbp fun x y q => (q.keep hLT k8).same all18
              refine paired_append (paired_snoc (paired_take old sp) ?_) (paired_drop old (sp + 1))
              have h6' : T1 H14 u6 ((wd.take m ++ [n] ++ wd.drop m).map V.str) := by
                rw [List.map_append, List.map_append, List.map_take, List.map_drop]
                exact h6
              exact ((h6'.same (s15.trans s16)).same s17).same s18
          refine ⟨lt, _, _, rfl, rfl, hcs18, by rw [List.length_map, lcs, sizeLine_eq]; omega, kp_upd _ (k8.trans (kp_of all18)), ⟨qss ++ [putP ps sp m n], IsPL.snoc hcs18 hcp18 hnew, fun p hp => ?_, ?_⟩, _, _, rfl⟩
          · (rcases List.mem_append.mp hp with h | h)
            · exact hg8 p h
            · rw [List.mem_singleton.mp h]
              refine ⟨(putP_len hspl).trans glen, ?_⟩
              rw [take_snoc hn]
              exact putP_perm hspl gperm
          · (rw [List.length_append, List.length_singleton]; omega)
        · rintro σ H8 ⟨k8, ⟨qss, hq8, hg8, hl8⟩, q3, q8, rfl⟩
          exact ⟨k8, ⟨qss, hq8, hg8, by omega⟩, _, _, _, _, rfl⟩
      · rintro σ H6 ⟨k6, ⟨qss, hq6, hg6, hl6⟩, p3, p6, p7, p8, rfl⟩
        rw [List.length_map, lbs, List.take_length] at hl6
        exact ⟨k6, ⟨qss, hq6, hg6, by omega⟩, _, _, _, _, _, rfl⟩
    · rintro σ H' ⟨k5, ⟨qss, hq, hg, hl⟩, p3, p5, p6, p7, p8, rfl⟩
      rw [List.length_map, Paired.length hps4] at hl
      have s5 : Same H H' := fun b u hb => k5 _ _ (fun z => by rw [z, hlt0] at hb; cases hb) (s34 _ _ hb)
      refine ⟨_, rfl, s5, lt, qss, hlt0, hq, hg, ?_, _, _, _, _, _, _, _, rfl⟩
      rw [Nat.pow_succ, Nat.mul_comm]
      exact Nat.le_trans hl (Nat.mul_le_mul_left 8 hcnt)
  · rintro σ H3 ⟨s3, fl, pss, hfl0, hPL, hgood, hcnt, o2, o3, o4, o5, o6, o7, o8, rfl⟩
    rw [List.length_map, lts] at hgood
    exact ⟨_, rfl, k _ fl pss s3 hfl0 hPL fun ps h => ⟨(hgood ps h).1, by have := (hgood ps h).2; rwa [List.take_length] at this⟩⟩
end
end HW
set_option Elab.async false
set_option maxRecDepth 100000
set_option linter.all false
set_option maxHeartbeats 4000000
namespace HW
open PySem L2 LamX
section
variable {P : Program} {w : World} {K : PySem.W.Frag} {mg : Str → Option Value} {base : Heap} {C : Addr}
theorem T1.keepD {H H' : Hp} {l a : Addr} {xs : List V} {kvs : List (Key × V)} (h : T1 H a xs) (hl : H l = some (.dK kvs)) (k : Keep l H H') : T1 H' a xs := by
  obtain ⟨o, e, d⟩ := h
  exact ⟨o, k _ _ (fun z => by rw [z, hl] at e; cases e) e, d⟩
theorem strNe {a b : Str} (h : a ≠ b) : ¬ (V.str a = V.str b) := fun z => h (V.str.inj z)
def spBars : Sp := fun vs H Q _ => ∃ t a tk N par r ps told, vs = [.ref t, .ref a, .ref tk] ∧ OkWeb N par r ∧ IsFolk H t N par ∧ IsPiles1 H a ps ∧ IsPl N ps ∧ IsStrT H tk told ∧ Told N par (wsOf N ps) told ∧ ∀ H', Same H H' → Q (.bl true) H'
theorem ok_l_bars (T : Txt K mg C) (G_l_up : OkF P w K mg base "_law_up" ["_law_folk_here", "_law_one"] 1 spUp) (D : Df K mg "_law_bars" s_l_bars) : OkF P w K mg base "_law_bars" ["_law_folk_here", "_law_heaps_here", "_law_told"] 2 spBars := by
  obtain ⟨f, fd, F, g⟩ := D
  refine ⟨f, fd, g, F.kp, F.binds (ps := ["_law_folk_here", "_law_heaps_here", "_law_told"]) fun _ _ _ _ _ _ us hl => match us, hl with | [_, _, _], _ => rfl, ?_⟩
  refine F.ok sc_l_bars (fun vs H Q E h => ?_) (fun cdv A outer s H vs Q E hr h => ?_)
  · obtain ⟨t, a, tk, N, par, r, ps, told, rfl, _⟩ := h
    rfl
  obtain ⟨t, a, tk, N, par, r, ps, told, rfl, W, hf, hPa, hP, htk, hTold, k⟩ := h
  refine ⟨_, (pss_cons (ps_par (i := 5) (j := 6) rfl sc_l_bars.nd rfl rfl (by decide) rfl rfl (pa_cons (pe_lc (own := [("_law_one", 3), ("_law_high", 4)]) (g := (gTup K 2 (gCons (gName 3) (gCons (gName 4) gNil)))) (tt := tYes) (te := (tVar 3)) rfl sc_l_bars.nd (pi_tup (pv 0)) (blkOk_by (N := ["_law_folk_here", "_law_heaps_here", "_law_told", "_law_one", "_law_high", "_law_titles_here", "_law_at", "_law_spot", "_law_heap", "_law_word", "_law_under"]) (sc := defScope s_l_bars) (by decide +kernel)) (fun _ _ _ _ _ => (pg_tup rfl (pgs_cons (pg_name (i := 3) sc_l_bars.nd rfl (Or.inl rfl)) (pgs_cons (pg_name (i := 4) sc_l_bars.nd rfl (Or.inl rfl)) pgs_nil)))) (fun _ _ _ _ _ => pts_nil) (fun _ _ _ _ _ => (pv 3))) (pa_cons pe_dnewK pa_nil)) (by rfl))
  (pss_cons (ps_for PassesOwn.never rfl (pi_enumT (by rfl) T.enum (pa_cons (pv 1) pa_nil)) (pg_tup rfl (pgs_cons (pg_name (i := 7) sc_l_bars.nd rfl (Or.inl rfl)) (pgs_cons (pg_name (i := 8) sc_l_bars.nd rfl (Or.inl rfl)) pgs_nil)))
  (pss_one (ps_for PassesOwn.never rfl (pi_tup (pv 8)) (pg_name (i := 3) sc_l_bars.nd rfl (Or.inl rfl))
  (pss_one (ps_dput (hu_of hr) (pv 6) (pv 3) (pe_ix ix_list (pv 5) (pv 7) (fun _ _ => rfl)) (by rfl))))))
  (pss_cons (ps_if (pt_cmpR op_eq (pe_ix ix_tup (pv 2) pe_int (fun _ _ => rfl)) pe_str (nomark _)) (pss_one (ps_ret (pe_cmpR op_notIn_seq (pe_dget (hu_of hr) (pv 6) (pe_ix ix_tup (pv 2) pe_int (fun _ _ => rfl)) (fun _ _ => rfl)) (pe_f G_l_up hr (by omega) (by rfl) (pa_cons (pv 0) (pa_cons (pe_ix ix_tup (pv 2) pe_int (fun _ _ => rfl)) pa_nil))) (by rfl)))) pss_nil)
  (pss_cons (ps_asg (pv 2) (pg_tup rfl (pgs_cons (pg_name (i := 9) sc_l_bars.nd rfl (Or.inl rfl)) (pgs_cons (pg_name (i := 4) sc_l_bars.nd rfl (Or.inl rfl)) (pgs_cons (pg_name (i := 10) sc_l_bars.nd rfl (Or.inl rfl)) pgs_nil)))))
  (pss_cons (ps_if (pt_cmpR op_notIn_seq (pv 4) (pe_slice sl_list (pe_f G_l_up hr (by omega) (by rfl) (pa_cons (pv 0) (pa_cons (pv 10) pa_nil))) (po_some pe_int) po_none) (by rfl)) (pss_one (ps_ret pe_bl)) pss_nil)
  (pss_cons (ps_if (pt_cmpR op_eq (pv 9) pe_str (nomark _)) (pss_one (ps_ret (pe_cmpR op_notIn_seq (pe_dget (hu_of hr) (pv 6) (pv 4) (fun _ _ => rfl)) (pe_f G_l_up hr (by omega) (by rfl) (pa_cons (pv 0) (pa_cons (pe_dget (hu_of hr) (pv 6) (pv 10) (fun _ _ => rfl)) pa_nil))) (by rfl)))) pss_nil)
  (pss_cons (ps_set (i := 8) sc_l_bars.nd rfl (.inl rfl) (pe_ix ix_tup (pv 1) (pe_bm PySem.F.plainAttrs_list PySem.F.slot_list_index PySem.F.type_list_index mt_index (pv 5) (pa_cons (pe_dget (hu_of hr) (pv 6) (pv 10) (fun _ _ => rfl)) pa_nil)) (fun _ _ => rfl)))
  (pss_one (ps_ret (pe_and (pe_cmpR op_eq (pv 9) pe_str (nomark _)) (pe_and (pe_cmpR op_eq (pe_dget (hu_of hr) (pv 6) (pv 4) (fun _ _ => rfl)) (pe_dget (hu_of hr) (pv 6) (pv 10) (fun _ _ => rfl)) (nomark _)) (pe_one (pe_cmpR op_gt (pe_index1 (pv 8) (pa_cons (pv 4) pa_nil)) (pe_index1 (pv 8) (pa_cons (pv 10) pa_nil)) (nomark _)))))))))))))), ?_⟩
  obtain ⟨ts, ht, hpr⟩ := id hf
  obtain ⟨bs, hbs, hbp⟩ := id hPa
  have n4 := W.n4
  refine ⟨_, rfl, t, rfl, ⟨_, frzT ht⟩, fun D hD => ?_⟩
  refine lc_tup (xs := ts.map V.ref) (fun i H' => Same H H' ∧ H' D = some (.lst ((N.take i).map V.str))) ⟨same_new hD _, upd_same⟩ (fun i H' _ q => frzT (q.1 _ _ ht)) ?_ ?_
  · rintro i v H' hi ⟨s1, hD'⟩
    obtain ⟨b, n, rfl, hn, hbn⟩ := folk_item hpr hi
    refine ⟨b, _, rfl, SqT.of (s1 _ _ hbn), rfl, _, _, rfl, _, _, rfl, rfl, rfl, yesT ⟨_, rfl, _, hD', ?_, same_upd s1 hD, ?_⟩⟩
    · rw [List.length_map]
      exact small4 (Nat.le_trans (List.length_take_le' _ _) W.n4)
    · rw [upd_same, take_snoc hn, List.map_append]; rfl
  rintro H1 ⟨s1, hD1⟩
  rw [List.length_map, Paired.length hpr, List.take_length] at hD1
  refine fun d hd => ⟨_, _, rfl, ?_⟩
  have s2 := same_new hd (.dK [])
  have hd2 : upd H1 d (.dK []) d = some (.dK []) := upd_same
  have hD2 := s2 _ _ hD1
  have s02 := s1.trans s2
  have hd0 : H d = none := by
    cases q : H d with
    | none => rfl
    | some u => rw [s1 _ _ q] at hd; cases hd
  have Dd : D ≠ d := fun z => by rw [z, hd] at hD1; cases hD1
  generalize upd H1 d (.dK []) = H2 at hd2 hD2 s02 ⊢
  have ane : a ≠ d := fun z => by
    have h1 := s02 _ _ hbs
    rw [z, hd2] at h1
    cases h1
  have lbs : bs.length = ps.length := Paired.length hbp
  have Ps := wsOf_pl W.nd hP
  have out : ∀ x, x ∉ N → wsOf N ps x = [x] := fun x hx => wsOf_out hx
  refine ⟨_, rfl, a, _, rfl, SqT.of (s02 _ _ hbs), ?_⟩
  refine for_enumT (xs := bs.map V.ref) (fun i σ H' => Keep d H2 H' ∧ (∃ kvs : List (Key × V), H' d = some (.dK kvs) ∧ kvs.length ≤ 4 * i ∧ ∀ p ∈ N.take i, ∀ n ∈ wsOf N ps p, valV kvs (Sum.inr n) = some (.str p)) ∧
    ∃ o3 o7 o8, σ = [some (.ref t), some (.ref a), some (.ref tk), o3, none, some (.ref D), some (.ref d), o7, o8, none, none]) ⟨Keep.refl _ _, ⟨[], hd2, Nat.zero_le _, by simp⟩, _, _, _, rfl⟩ (fun i σ H' _ q => SqT.of (q.1 _ _ ane (s02 _ _ hbs))) ?_ ?_
  · rintro i v T' σ H' hi ⟨k3, ⟨kvs, hk, hl, hv⟩, o3, o7, o8, rfl⟩ hT'
    rw [List.getElem?_map] at hi
    obtain ⟨b, hb, rfl⟩ := Option.map_eq_some_iff.mp hi
    obtain ⟨wd, hwd, hbw⟩ := paired_getL hbp hb
    have hiN : i < N.length := by rw [← hP.1]; exact (List.getElem?_eq_some_iff.mp hwd).1
    have hNi : N[i]? = some N[i] := List.getElem?_eq_getElem hiN
    have ews : wsOf N ps N[i] = wd := wsOf_at W.nd hNi hwd
    have sT := same_new hT' (.tup [V.int (i : Nat), V.ref b])
    have k4 := k3.trans (kp_of sT)
    have hk4 := sT _ _ hk
    have tT : upd H' T' (.tup [V.int (i : Nat), V.ref b]) T' = some (.tup [V.int (i : Nat), V.ref b]) := upd_same
    generalize upd H' T' (.tup [V.int (i : Nat), V.ref b]) = H4 at k4 hk4 tT ⊢
    have hb4 : ∀ {Hx : Hp}, Keep d H2 Hx → T1 Hx b (wd.map V.str) := fun kx => (hbw.same s02).keepD hd2 kx
    refine ⟨T', _, rfl, SqT.of tT, rfl, _, _, rfl, _, _, rfl, rfl, ?_⟩
    refine ⟨_, rfl, b, rfl, ⟨_, (hb4 k4).sq⟩, ?_⟩
    have wl : wd.length ≤ 4 := by
      have := pl_len Ps out (List.mem_of_getElem? hNi)
      rw [ews] at this
      omega
    refine for_tup (xs := wd.map V.str) (fun j σ H' => Keep d H2 H' ∧ (∃ kvs : List (Key × V), H' d = some (.dK kvs) ∧ kvs.length ≤ 4 * i + j ∧ (∀ p ∈ N.take i, ∀ n ∈ wsOf N ps p, valV kvs (Sum.inr n) = some (.str p)) ∧ ∀ n ∈ wd.take j, valV kvs (Sum.inr n) = some (.str N[i])) ∧
      ∃ o3, σ = [some (.ref t), some (.ref a), some (.ref tk), o3, none, some (.ref D), some (.ref d), some (.int (i : Nat)), some (.ref b), none, none]) ⟨k4, ⟨kvs, hk4, hl, hv, by simp⟩, _, rfl⟩ (fun j σ H' _ q => (hb4 q.1).sq) ?_ ?_
    · rintro j v σ H5 hj ⟨k5, ⟨kvs, hk5, hl5, hv5, hw5⟩, o3, rfl⟩
      rw [List.getElem?_map] at hj
      obtain ⟨n, hn, rfl⟩ := Option.map_eq_some_iff.mp hj
      have hjw : j < wd.length := (List.getElem?_eq_some_iff.mp hn).1
      have hD5 := k5 _ _ Dd hD2
      refine ⟨_, rfl, _, rfl, D, _, _, .str N[i], rfl, rfl, SqL.of hD5, atN (by rw [List.getElem?_map, hNi]; rfl), _, rfl, _, rfl, d, _, rfl, DPut.k (k := Sum.inr n) hk5 (by rw [sizeLine_eq]; omega), kp_upd _ k5, ⟨_, upd_same, Nat.le_trans length_put (by omega), fun p' hp' n' hn' => ?_, fun n' hn' => ?_⟩, _, rfl⟩
      · rw [valV_put]
        by_cases e : n' = n
        · subst e
          have h1 : n' ∈ wsOf N ps N[i] := by rw [ews]; exact List.mem_of_getElem? hn
          rw [if_pos rfl, Ps.uniq n' p' _ hn' h1]
        · rw [if_neg (fun h => e (Sum.inr.inj h))]
          exact hv5 p' hp' n' hn'
      · rw [valV_put]
        by_cases e : n' = n
        · subst e; rw [if_pos rfl]
        · rw [if_neg (fun h => e (Sum.inr.inj h))]
          rw [take_snoc hn] at hn'
          exact hw5 n' ((List.mem_append.mp hn').resolve_right fun h => e (List.mem_singleton.mp h))
    · rintro σ H5 ⟨k5, ⟨kvs, hk5, hl5, hv5, hw5⟩, o3, rfl⟩
      rw [List.length_map] at hl5 hw5
      rw [List.take_length] at hw5
      refine ⟨k5, ⟨kvs, hk5, by omega, fun p' hp' => ?_⟩, _, _, _, rfl⟩
      rw [take_snoc hNi] at hp'
      rcases List.mem_append.mp hp' with h | h
      · exact hv5 p' h
      · rw [List.mem_singleton.mp h, ews]; exact hw5
  rintro σ H3 ⟨k3, ⟨kvs, hk3, _, hv3⟩, o3, o7, o8, rfl⟩
  rw [List.length_map, lbs, hP.1, List.take_length] at hv3
  have hat : IsAt H3 d N (wsOf N ps) := ⟨kvs, hk3, hv3⟩
  have s03 : Same H H3 := fun b u hb => k3 _ _ (fun z => by rw [z, hd0] at hb; cases hb) (s02 _ _ hb)
  have htk3 := s03 _ _ htk
  have hf3 := hf.same s03
  have hD3 := k3 _ _ Dd hD2
  cases hTold with
  | @stray n p hn hp hnp hno =>
    refine ⟨_, rfl, tk, _, _, .str "stray", rfl, rfl, SqT.of htk3, atN (j := 0) rfl, rfl, _, rfl, iteDT rfl ?_⟩
    refine ⟨_, rfl, _, rfl, tk, _, _, .str n, rfl, rfl, SqT.of htk3, atN (j := 1) rfl, d, _, rfl, hat.get hp hnp, ?_⟩
    refine ⟨_, rfl, _, rfl, tk, _, _, .str n, rfl, rfl, SqT.of htk3, atN (j := 1) rfl, t, N, par, r, n, rfl, W, hf3, hn, fun H4 m s4 _ hM => ?_⟩
    refine ⟨m, _, rfl, .inl (SqL.of hM), rfl, flatStrs _, ?_⟩
    show Q (.bl (!inV (.str p) ((ln par n).map V.str))) H4
    rw [inStrs, decide_eq_false hno]
    exact k _ (s03.trans s4)
  | @below h l p q hl hh hp hq hhp hlq hno =>
    refine ⟨_, rfl, tk, _, _, .str "below", rfl, rfl, SqT.of htk3, atN (j := 0) rfl, rfl, _, rfl, iteDF (strNe (by decide)) ?_⟩
    refine ⟨_, rfl, tk, _, rfl, SqT.of htk3, rfl, _, _, rfl, _, _, rfl, _, _, rfl, rfl, ?_⟩
    refine ⟨_, rfl, _, rfl, _, rfl, t, N, par, r, l, rfl, W, hf3, hl, fun H4 m s4 _ hM => ?_⟩
    refine ⟨1, rfl, m, _, rfl, SqL.of hM, fun z hz => ?_⟩
    rw [cut_tl]
    have sz := same_new hz (.lst ((tl par l).map V.str))
    refine ⟨z, _, rfl, .inl (SqL.of upd_same), rfl, flatStrs _, _, rfl, ?_⟩
    show if (!inV (.str h) ((tl par l).map V.str)) = true then _ else _
    rw [inStrs]
    refine iteNF hh ?_
    have s05 := (s03.trans s4).trans sz
    have hat5 := (hat.same s4).same sz
    have hf5 := (hf3.same s4).same sz
    generalize upd H4 z (.lst ((tl par l).map V.str)) = H5 at s05 hat5 hf5 ⊢
    refine ⟨_, rfl, rfl, _, rfl, iteDT rfl ?_⟩
    refine ⟨_, rfl, _, rfl, d, _, rfl, hat5.get hp hhp, _, rfl, _, rfl, _, rfl, d, _, rfl, hat5.get hq hlq, t, N, par, r, q, rfl, W, hf5, hq, fun H6 m2 s6 _ hM2 => ?_⟩
    refine ⟨m2, _, rfl, .inl (SqL.of hM2), rfl, flatStrs _, ?_⟩
    show Q (.bl (!inV (.str p) ((ln par q).map V.str))) H6
    rw [inStrs, decide_eq_false hno]
    exact k _ (s05.trans s6)
  | @turn h l p i j hl hh hp hi hj hlt =>
    refine ⟨_, rfl, tk, _, _, .str "turn", rfl, rfl, SqT.of htk3, atN (j := 0) rfl, rfl, _, rfl, iteDF (strNe (by decide)) ?_⟩
    refine ⟨_, rfl, tk, _, rfl, SqT.of htk3, rfl, _, _, rfl, _, _, rfl, _, _, rfl, rfl, ?_⟩
    refine ⟨_, rfl, _, rfl, _, rfl, t, N, par, r, l, rfl, W, hf3, hl, fun H4 m s4 _ hM => ?_⟩
    refine ⟨1, rfl, m, _, rfl, SqL.of hM, fun z hz => ?_⟩
    rw [cut_tl]
    have sz := same_new hz (.lst ((tl par l).map V.str))
    refine ⟨z, _, rfl, .inl (SqL.of upd_same), rfl, flatStrs _, _, rfl, ?_⟩
    show if (!inV (.str h) ((tl par l).map V.str)) = true then _ else _
    rw [inStrs]
    refine iteNF hh ?_
    have s05 := (s03.trans s4).trans sz
    have hat5 := (hat.same s4).same sz
    have hD5 := sz _ _ (s4 _ _ hD3)
    generalize upd H4 z (.lst ((tl par l).map V.str)) = H5 at s05 hat5 hD5 ⊢
    have hhp := List.mem_of_getElem? hi
    have hlp := List.mem_of_getElem? hj
    obtain ⟨jp, hjp⟩ := idx_mem hp
    have ljp : jp < bs.length := by rw [lbs, hP.1]; exact (List.getElem?_eq_some_iff.mp hjp).1
    obtain ⟨wd, hwd, hbw⟩ := paired_getL hbp (List.getElem?_eq_getElem ljp)
    have ews : wsOf N ps p = wd := wsOf_at W.nd hjp hwd
    have hb5 : T1 H5 bs[jp] ((wsOf N ps p).map V.str) := by rw [ews]; exact hbw.same s05
    refine ⟨_, rfl, rfl, _, rfl, iteDF (strNe (by decide)) ?_⟩
    refine ⟨_, rfl, _, rfl, .inl ⟨rfl, _, SqL.of hD5⟩, _, rfl, _, rfl, d, _, rfl, hat5.get hp hlp, D, _, _, jp, _, rfl, rfl, SqL.of hD5, rfl, flatStrs _, by rw [List.getElem?_map, hjp]; rfl, eqV_self p, firstIdx W.nd hjp, a, _, _, .ref bs[jp], rfl, rfl, SqT.of (s05 _ _ hbs), atN (by rw [List.getElem?_map, List.getElem?_eq_getElem ljp]; rfl), ?_⟩
    refine ⟨_, rfl, rfl, true, rfl, iteT ?_⟩
    refine ⟨_, rfl, _, rfl, d, _, rfl, hat5.get hp hhp, _, rfl, _, rfl, d, _, rfl, hat5.get hp hlp, rfl, ?_⟩
    rw [decide_eq_true rfl]
    refine ⟨true, rfl, iteT ?_⟩
    refine ⟨_, rfl, bs[jp], _, rfl, hb5, _, rfl, h, i, rfl, hb5, hi, idx_first (Ps.nd p) hi, ?_⟩
    refine ⟨_, rfl, bs[jp], _, rfl, hb5, _, rfl, l, j, rfl, hb5, hj, idx_first (Ps.nd p) hj, ?_⟩
    refine ⟨_, _, rfl, rfl, ?_⟩
    show Q (.bl (decide ((j : Int) < (i : Int)))) H5
    rw [decide_eq_true (show (j : Int) < (i : Int) by omega)]
    exact k _ s05
end
end HW
set_option Elab.async false
set_option maxRecDepth 100000
set_option linter.all false
set_option maxHeartbeats 4000000
/-! the piles that come: a sum that falls with each call, the set that is closed -/
namespace HW
open PySem L2 LamX
section
variable {N : List Str} {par : Str → Option Str} {r : Str → Nat}
theorem sum_put {f : Str → Nat} {c : Str} {v : Nat} : ∀ {N : List Str}, N.Nodup → c ∈ N → (N.map fun z => if z = c then v else f z).sum + f c = (N.map f).sum + v
  | x :: N, hn, hc => by
    rw [List.nodup_cons] at hn
    rw [List.map_cons, List.map_cons, List.sum_cons, List.sum_cons]
    by_cases h : x = c
    · subst h
      rw [if_pos rfl]
      have e : (N.map fun z => if z = x then v else f z) = N.map f := List.map_congr_left fun z hz => if_neg fun q => hn.1 (by rw [← q]; exact hz)
      rw [e]; omega
    · rw [if_neg h]
      have := sum_put (f := f) (v := v) hn.2 ((List.mem_cons.mp hc).resolve_left fun q => h q.symm)
      omega
def phi (N : List Str) (r : Str → Nat) (s : Str → List Str) : Nat := (N.map fun z => (s z).length * r z).sum
theorem phi_lay (W : OkWeb N par r) {s : Str → List Str} {c p : Str} (h : par c = some p) (hs : s c ≠ []) : phi N r (lay par s c) < phi N r s := by
  obtain ⟨hc, hp⟩ := W.pin _ _ h
  have rk := W.rk _ _ h
  have hcp : c ≠ p := fun z => by rw [z] at rk; omega
  have e : phi N r (lay par s c) = (N.map fun z => if z = c then 0 else (fun z => if z = p then ((s p).length + (s c).length) * r p else (s z).length * r z) z).sum := by
    unfold phi
    rw [lay_some h]
    refine congrArg List.sum (List.map_congr_left fun z _ => ?_)
    by_cases h1 : z = c
    · simp [h1]
    · by_cases h2 : z = p
      · simp [h1, h2, Ne.symm hcp]
      · simp [h1, h2]
  have s1 := sum_put (f := fun z => if z = p then ((s p).length + (s c).length) * r p else (s z).length * r z) (v := 0) W.nd hc
  have s2 := sum_put (f := fun z => (s z).length * r z) (v := ((s p).length + (s c).length) * r p) W.nd hp
  rw [← e] at s1
  simp only [if_neg hcp] at s1
  have hpos : 1 ≤ (s c).length := List.length_pos_iff.mpr hs
  have m1 : (s c).length * (r p + 1) ≤ (s c).length * r c := Nat.mul_le_mul_left _ rk
  rw [Nat.mul_succ] at m1
  have s3 := Nat.add_mul (s p).length (s c).length (r p)
  show _ < (N.map fun z => (s z).length * r z).sum
  generalize (N.map fun z => if z = p then ((s p).length + (s c).length) * r p else (s z).length * r z).sum = A1 at s1 s2
  generalize ((s p).length + (s c).length) * r p = A2 at s2 s3
  omega
theorem phi_home (W : OkWeb N par r) : phi N r (home : Str → List Str) ≤ 12 := by
  have : ∀ l : List Str, (∀ z ∈ l, r z ≤ 3) → (l.map fun z => ((home : Str → List Str) z).length * r z).sum ≤ l.length * 3 := by
    intro l
    induction l with
    | nil => intro _; exact Nat.zero_le _
    | cons x l ih =>
      intro h
      have h1 := h x List.mem_cons_self
      have h2 := ih fun z hz => h z (List.mem_cons_of_mem _ hz)
      rw [List.map_cons, List.sum_cons, List.length_cons]
      have : ((home : Str → List Str) x).length * r x = r x := by simp [HW.home]
      omega
  have h1 := this N fun z hz => by
    have := W.rb z hz
    have := W.n4
    omega
  have := W.n4
  unfold phi
  omega
theorem lay_nil {s : Str → List Str} {c p : Str} (h : par c = some p) (hs : s c = []) : lay par s c = s := by
  rw [lay_some h]
  funext z
  by_cases h1 : z = c
  · rw [if_pos h1, h1, hs]
  · rw [if_neg h1]
    by_cases h2 : z = p
    · rw [if_pos h2, h2, hs, List.append_nil]
    · rw [if_neg h2]
theorem rout (W : OkWeb N par r) {s : Str → List Str} (h : Reach par s) : ∀ x, x ∉ N → s x = [x] := fun _ hx => h.out W hx
/-- piles that come -/
def Rch (N : List Str) (par : Str → Option Str) (ps : List (List Str)) : Prop := ps.length = N.length ∧ Reach par (wsOf N ps)
def nxt (N : List Str) (par : Str → Option Str) (ps : List (List Str)) (c : Str) : List (List Str) := N.map (lay par (wsOf N ps) c)
theorem Rch.of (W : OkWeb N par r) {s : Str → List Str} (h : Reach par s) : Rch N par (N.map s) := ⟨by rw [List.length_map], by rw [wsOf_of W.nd (rout W h)]; exact h⟩
theorem Rch.nxt (W : OkWeb N par r) {ps : List (List Str)} {c p : Str} (h : Rch N par ps) (hc : par c = some p) : Rch N par (nxt N par ps c) := Rch.of W (.lay h.2 hc)
theorem wsOf_nxt (W : OkWeb N par r) {ps : List (List Str)} {c p : Str} (h : Rch N par ps) (hc : par c = some p) : wsOf N (nxt N par ps c) = lay par (wsOf N ps) c := wsOf_of W.nd (rout W (.lay h.2 hc))
theorem Rch.fall (W : OkWeb N par r) {ps : List (List Str)} {c p : Str} (h : Rch N par ps) (hc : par c = some p) (hne : HW.nxt N par ps c ≠ ps) : phi N r (wsOf N (HW.nxt N par ps c)) < phi N r (wsOf N ps) := by
  rw [wsOf_nxt W h hc]
  refine phi_lay W hc fun z => hne ?_
  unfold HW.nxt
  rw [lay_nil hc z, wsOf_map W.nd h.1]
theorem Rch.home (W : OkWeb N par r) : Rch N par (N.map HW.home) := Rch.of W .home
theorem Rch.so (W : OkWeb N par r) {ps : List (List Str)} (h : Rch N par ps) : ∀ wd ∈ ps, ∀ x ∈ wd, SO x := by
  have e : N.map (wsOf N ps) = ps := wsOf_map W.nd h.1
  intro wd hw x hx
  rw [← e] at hw
  obtain ⟨n, hn, rfl⟩ := List.mem_map.mp hw
  exact (W.ok x (pl_in (h.2.pl W.rk) (rout W h.2) hn hx)).so
/-- what is closed holds all that come -/
theorem closed_all (W : OkWeb N par r) {S : List (List Str) → Prop} (h0 : S (N.map home)) (hc : ∀ ps, S ps → Rch N par ps → ∀ c p, par c = some p → S (nxt N par ps c)) {ps : List (List Str)} (h : Rch N par ps) : S ps := by
  have key : ∀ s, Reach par s → S (N.map s) := by
    intro s hs
    induction hs with
    | home => exact h0
    | @lay s c p hs hp ih =>
      have := hc _ ih (Rch.of W hs) c p hp
      unfold HW.nxt at this
      rw [wsOf_of W.nd (rout W hs)] at this
      exact this
  have := key _ h.2
  rw [wsOf_map W.nd h.1] at this
  exact this
def ables (N : List Str) (par : Str → Option Str) : List Str := N.filter fun n => (par n).isSome
theorem ables_some {c : Str} (h : c ∈ ables N par) : ∃ p, par c = some p := Option.isSome_iff_exists.mp (List.mem_filter.mp h).2
theorem ables_mem (W : OkWeb N par r) {c p : Str} (h : par c = some p) : c ∈ ables N par := List.mem_filter.mpr ⟨(W.pin _ _ h).1, by rw [h]; rfl⟩
theorem top_is (W : OkWeb N par r) : ∃ n ∈ N, par n = none := by
  have go : ∀ k n, n ∈ N → r n ≤ k → ∃ n ∈ N, par n = none := by
    intro k
    induction k with
    | zero =>
      intro n hn hk
      cases e : par n with
      | none => exact ⟨n, hn, e⟩
      | some p => have := W.rk _ _ e; omega
    | succ k ih =>
      intro n hn hk
      cases e : par n with
      | none => exact ⟨n, hn, e⟩
      | some p => have := W.rk _ _ e; exact ih p (W.pin _ _ e).2 (by omega)
  have n1 := W.n1
  exact go _ N[0] (List.getElem_mem (by omega)) (Nat.le_refl _)
theorem ables_3 (W : OkWeb N par r) : (ables N par).length ≤ 3 := by
  obtain ⟨n, hn, e⟩ := top_is W
  have h : (ables N par).length < N.length := by
    unfold ables
    rw [List.length_filter_lt_length_iff_exists]
    exact ⟨n, hn, by rw [e]; simp⟩
  have := W.n4
  omega
end
end HW
set_option Elab.async false
set_option maxRecDepth 100000
set_option linter.all false
set_option maxHeartbeats 4000000
/-! a dict whose keys are piles (tuples of tuples of texts), whose values are objects -/
namespace HW
open L2 PyProof.Rows PySem PySem.Spec
def nkW (w : List Str) : NestedKey := .tup (w.map .text)
def nkP (ps : List (List Str)) : NestedKey := .tup (ps.map nkW)
theorem text_inj : ∀ {a b : List Str}, a.map NestedKey.text = b.map NestedKey.text → a = b
  | [], [], _ => rfl
  | [], _ :: _, h => by cases h
  | _ :: _, [], h => by cases h
  | x :: a, y :: b, h => by
    simp only [List.map_cons, List.cons.injEq, NestedKey.text.injEq] at h
    rw [h.1, text_inj h.2]
theorem nkW_inj {a b : List Str} (h : nkW a = nkW b) : a = b := text_inj (NestedKey.tup.inj h)
theorem nkWs_inj : ∀ {a b : List (List Str)}, a.map nkW = b.map nkW → a = b
  | [], [], _ => rfl
  | [], _ :: _, h => by cases h
  | _ :: _, [], h => by cases h
  | x :: a, y :: b, h => by
    (simp only [List.map_cons, List.cons.injEq] at h); rw [nkW_inj h.1, nkWs_inj h.2]
theorem nkP_inj {a b : List (List Str)} (h : nkP a = nkP b) : a = b := nkWs_inj (NestedKey.tup.inj h)
theorem nk_texts (w : List Str) : NestedKey.depthAll (w.map .text) ≤ 1 := by
  induction w with
  | nil => show 0 ≤ _; exact Nat.zero_le _
  | cons x w ih => simp only [List.map_cons, NestedKey.depthAll, NestedKey.depth]; omega
theorem nk_words (ps : List (List Str)) : NestedKey.depthAll (ps.map nkW) ≤ 2 := by
  induction ps with
  | nil => show 0 ≤ _; exact Nat.zero_le _
  | cons x w ih =>
    have := nk_texts x
    simp only [List.map_cons, NestedKey.depthAll, nkW, NestedKey.depth]
    omega
theorem nkP_depth (ps : List (List Str)) : (nkP ps).depth ≤ 8 := by
  have := nk_words ps
  simp only [nkP, NestedKey.depth]; omega
/-- a tuple that is read as PS -/
def PK (K : PySem.W.Frag) (H : Hp) (b : Addr) (ps : List (List Str)) : Prop := ∃ bs : List Addr, SqT K H b (bs.map V.ref) ∧ Paired (fun b w => SqT K H b (w.map V.str)) bs ps
theorem IsPiles1.pk {K : PySem.W.Frag} {H : Hp} {b : Addr} {ps : List (List Str)} (h : IsPiles1 H b ps) : PK K H b ps := let ⟨bs, e, p⟩ := h; ⟨bs, .inl (.inl e), paired_mono p fun _ _ q => q.sq⟩
theorem IsPiles.pk {K : PySem.W.Frag} {H : Hp} {b : Addr} {ps : List (List Str)} (h : IsPiles H b ps) : PK K H b ps := let ⟨bs, e, p⟩ := h; ⟨bs, .inl (.inl e), paired_mono p fun _ _ q => .inl (.inl q)⟩
section
variable {s : Shared} {H : Hp} {σ : L2.St} {pins : List (Addr × Obj)} {X : Cx}
theorem nest_strs {h : Heap} : ∀ {w : List Str} {its : List Value}, Vals (w.map V.str) its → NestedAll h (w.map .text) its
  | [], _, r => by cases r; exact .nil
  | x :: w, _, r => by
    rw [List.map_cons] at r
    cases r with
    | @cons a b as bs p q =>
      obtain ⟨t, rfl⟩ := p
      exact .cons (.text x t) (nest_strs q)
theorem nest_w (I : Inv X pins σ H s) {b : Addr} {w : List Str} (h : SqT X.K H b (w.map V.str)) : NestedIs s.heap (nkW w) (.ref b) := by
  obtain ⟨its, r, ⟨o, h1, h2, n, h3⟩, _⟩ := I.tuple h
  exact .tup h1 h2 h3 (nest_strs r)
theorem nest_ws (I : Inv X pins σ H s) : ∀ {bs : List Addr} {ps : List (List Str)} {its : List Value}, Paired (fun b w => SqT X.K H b (w.map V.str)) bs ps → Vals (bs.map V.ref) its → NestedAll s.heap (ps.map nkW) its
  | [], _, _, p, r => by cases p; cases r; exact .nil
  | b :: bs, _, _, p, r => by
    cases p with
    | cons p1 p2 =>
      rw [List.map_cons] at r
      cases r with
      | cons r1 r2 =>
        cases r1
        exact .cons (nest_w I p1) (nest_ws I p2 r2)
theorem nest_of (I : Inv X pins σ H s) {b : Addr} {ps : List (List Str)} (h : PK X.K H b ps) : (nestedKind X.prog X.w).is s.heap (nkP ps) b := by
  obtain ⟨bs, e, p⟩ := h
  obtain ⟨its, r, ⟨o, h1, h2, n, h3⟩, _⟩ := I.tuple e
  exact ⟨.tup h1 h2 h3 (nest_ws I p r), nkP_depth ps⟩
end
abbrev Ent := List (List Str) × Addr × Addr
def ndX (kvs : List Ent) : List (NestedKey × Addr × Value) := kvs.map fun e => (nkP e.1, e.2.1, .ref e.2.2)
def keyN (kvs : List Ent) (ps : List (List Str)) : Option (Addr × Addr) := (kvs.find? fun e => decide (e.1 = ps)).map (·.2)
theorem atKey_nd (kvs : List Ent) (ps : List (List Str)) : atKey (ndX kvs) (nkP ps) = (keyN kvs ps).map fun q => (q.1, Value.ref q.2) := by
  induction kvs with
  | nil => rfl
  | cons e kvs ih =>
    by_cases h : e.1 = ps
    · simp [ndX, keyN, atKey, h]
    · have h' : ¬ nkP e.1 = nkP ps := fun z => h (nkP_inj z)
      simpa [ndX, keyN, atKey, h, h'] using ih
theorem keyN_none {kvs : List Ent} {ps : List (List Str)} (h : keyN kvs ps = none) : ∀ e ∈ kvs, e.1 ≠ ps := by
  unfold keyN at h
  rw [Option.map_eq_none_iff, List.find?_eq_none] at h
  exact fun e he z => h e he (decide_eq_true z)
theorem keyN_some {kvs : List Ent} {ps : List (List Str)} {q : Addr × Addr} (h : keyN kvs ps = some q) : (ps, q) ∈ kvs := by
  unfold keyN at h
  obtain ⟨e, he, rfl⟩ := Option.map_eq_some_iff.mp h
  have h1 := List.find?_some he
  have h2 := List.mem_of_find?_eq_some he
  have h3 : e.1 = ps := of_decide_eq_true h1
  rw [← h3]; exact h2
theorem keyN_isSome {kvs : List Ent} {ps : List (List Str)} : (keyN kvs ps).isSome = decide (∃ e ∈ kvs, e.1 = ps) := by
  cases h : keyN kvs ps with
  | none => exact (decide_eq_false fun ⟨e, he, z⟩ => keyN_none h e he z).symm
  | some q => exact (decide_eq_true ⟨_, keyN_some h, rfl⟩).symm
/-- the dict at d, the keys' tuples and the values' objects by their places -/
def ndO (P : Program) (w : World) (d : Addr) (kvs : List Ent) : HO := .ext fun h => (d == sysModules) = false ∧ kvs.length ≤ sizeLine ∧ (kvs.map (·.1)).Nodup ∧
  ∃ o es ep, h.get? d = some o ∧ o.ExactDict ∧ o.data = .dict es ep ∧ es.toList = (ndX kvs).map (entryOfKey (nestedKind P w))
structure Nd (P : Program) (w : World) (H : Hp) (d : Addr) (kvs : List Ent) : Prop where
  stands : Rd H d (ndO P w d kvs)
  keys : ∀ e ∈ kvs, IsPiles1 H e.2.1 e.1
theorem nd_nodup : ∀ {kvs : List Ent}, (kvs.map (·.1)).Nodup → ((ndX kvs).map (·.1)).Nodup
  | [], _ => List.nodup_nil
  | e :: kvs, h => by
    (rw [List.map_cons, List.nodup_cons] at h); show (nkP e.1 :: (ndX kvs).map (·.1)).Nodup
    rw [List.nodup_cons]
    refine ⟨fun z => h.1 ?_, nd_nodup h.2⟩
    obtain ⟨x, hx, ex⟩ := List.mem_map.mp z
    (obtain ⟨y, hy, rfl⟩ := List.mem_map.mp hx); exact List.mem_map.mpr ⟨y, hy, nkP_inj ex⟩
theorem nd_nodup' : ∀ {kvs : List Ent}, ((ndX kvs).map (·.1)).Nodup → (kvs.map (·.1)).Nodup
  | [], _ => List.nodup_nil
  | e :: kvs, h => by
    have h' : (nkP e.1 :: (ndX kvs).map (·.1)).Nodup := h
    rw [List.nodup_cons] at h'
    (rw [List.map_cons, List.nodup_cons]); refine ⟨fun z => h'.1 ?_, nd_nodup' h'.2⟩
    obtain ⟨x, hx, ex⟩ := List.mem_map.mp z
    exact List.mem_map.mpr ⟨_, List.mem_map.mpr ⟨x, hx, rfl⟩, by rw [← ex]⟩
section
variable {X : Cx} {pins : List (Addr × Obj)} {σ : L2.St} {H : Hp} {s : Shared} {d : Addr} {kvs : List Ent}
theorem nd_of (I : Inv X pins σ H s) (h : Nd X.prog X.w H d kvs) : (d == sysModules) = false ∧ kvs.length ≤ sizeLine ∧ s.heap.DictOfH (nestedKind X.prog X.w) d (ndX kvs) := by
  obtain ⟨⟨h1, h2, h3, o, es, ep, h4, h5, h6, h7⟩, _⟩ := (show ObjOk X.prog X.w H s.heap d (ndO X.prog X.w d kvs) from h.stands.ok I.hok)
  refine ⟨h1, h2, o, es, ep, h4, h5, h6, h7, fun x hx => ?_, nd_nodup h3⟩
  obtain ⟨e, he, rfl⟩ := List.mem_map.mp hx
  exact nest_of I (h.keys e he).pk
theorem nd_ok {P : Program} {w : World} {h : Heap} (h1 : (d == sysModules) = false) (h2 : kvs.length ≤ sizeLine) (h3 : h.DictOfH (nestedKind P w) d (ndX kvs)) : ObjOk P w H h d (ndO P w d kvs) := by
  obtain ⟨o, es, ep, h4, h5, h6, h7, _, h8⟩ := h3
  exact ⟨⟨h1, h2, nd_nodup' h8, o, es, ep, h4, h5, h6, h7⟩, ⟨o, h4⟩, fun a b ⟨p1, p2, p3, o', es', ep', q1, q2⟩ k => ⟨p1, p2, p3, o', es', ep', k _ q1, q2⟩⟩
theorem room8 {A : Around} (hu : A.units + 64 < cLine) {P : Program} {w : World} : (nestedKind P w).room A.in1 := by
  show A.in1.units + 8 < cLine
  rw [Around.in1_units]; omega
end
section
variable {X : Cx}
/-- p in d, p not in d -/
def rInN (P : Program) (w : World) (K : PySem.W.Frag) (no : Bool) : R2 := fun x y H Q => ∃ b d kvs ps, x = .ref b ∧ y = .ref d ∧ Nd P w H d kvs ∧ PK K H b ps ∧ Q (.bl (no ^^ (keyN kvs ps).isSome)) H
theorem op_inN (hu : X.A.units + 64 < cLine) : OpR X (compareOp .In) (rInN X.prog X.w X.K false) := by
  (intro pins s σ H x y v u Q I rx ry h); obtain ⟨b, d, kvs, ps, rfl, rfl, hd, hp, q⟩ := h
  cases rx; cases ry
  obtain ⟨h1, h2, h3⟩ := nd_of I hd
  refine wpAny_in_heap (room8 hu) (nest_of I hp) h1 h3 ?_
  rw [atKey_nd, Option.isSome_map]
  exact ⟨.bl (false ^^ (keyN kvs ps).isSome), H, I.tok _, by rw [Bool.false_xor] <;> rfl, q⟩
theorem op_notInN (hu : X.A.units + 64 < cLine) : OpR X (compareOp .NotIn) (rInN X.prog X.w X.K true) := by
  (intro pins s σ H x y v u Q I rx ry h); obtain ⟨b, d, kvs, ps, rfl, rfl, hd, hp, q⟩ := h
  cases rx; cases ry
  obtain ⟨h1, h2, h3⟩ := nd_of I hd
  refine wpAny_notIn_heap (room8 hu) (nest_of I hp) h1 h3 ?_
  rw [atKey_nd, Option.isSome_map]
  exact ⟨.bl (true ^^ (keyN kvs ps).isSome), H, I.tok _, by rw [Bool.true_xor] <;> rfl, q⟩
/-- d[p], there -/
def tGetN (P : Program) (w : World) (K : PySem.W.Frag) (td ty : TE) : TE := fun σ H Q => td σ H fun x H1 => ty σ H1 fun y H2 => ∃ d b kvs ps kb vb, x = .ref d ∧ y = .ref b ∧ Nd P w H2 d kvs ∧ PK K H2 b ps ∧ keyN kvs ps = some (kb, vb) ∧ Q (.ref vb) H2
theorem pe_getN {o i : Expr} {pos : Pos} {td ty : TE} (hu : X.A.units + 64 < cLine) (ho : PE X o td) (hi : PE X i ty) (hs : NoSl i) : PE X (.Subscript o i pos) (tGetN X.prog X.w X.K td ty) := by
  (refine ⟨fun pins s σ H Q I h => ?_⟩); refine subD_of PySem.F.slot_dict_getitem.lookup hs (thn (ho.run pins s σ H _ I h) fun u s1 ⟨x, H1, I1, rx, q1⟩ => thn (hi.run pins s1 σ H1 _ I1 q1) fun iv s2 ⟨y, H2, I2, ry, d, b, kvs, ps, kb, vb, ex, ey, hd, hp, ha, q2⟩ => ?_)
  subst ex ey
  (obtain rfl : u = Value.ref d := rx); obtain rfl : iv = Value.ref b := ry
  obtain ⟨h1, h2, h3⟩ := nd_of I2 hd
  exact ⟨h3.typeIs, wpAny_getItem_heap (p := (kb, .ref vb)) (room8 hu) (nest_of I2 hp) h3 (by rw [atKey_nd, ha]; rfl) ⟨.ref vb, H2, I2.tok _, rfl, q2⟩⟩
/-- d[p] = v, new -/
def rSetN (P : Program) (w : World) : TSet := fun o i v H Q => ∃ d b vb kvs ps, o = .ref d ∧ i = .ref b ∧ v = .ref vb ∧ H d = some (ndO P w d kvs) ∧ Nd P w H d kvs ∧ IsPiles1 H b ps ∧ keyN kvs ps = none ∧ kvs.length < sizeLine ∧
  Q (upd H d (ndO P w d (kvs ++ [(ps, b, vb)])))
theorem set_N (hu : X.A.units + 64 < cLine) : PSet X (rSetN X.prog X.w) := by
  (intro pins s σ H o i v ov iv u Q I ro ri rv h); obtain ⟨d, b, vb, kvs, ps, rfl, rfl, rfl, he, hd, hp, ha, hl, q⟩ := h
  cases ro; cases ri; cases rv
  obtain ⟨h1, h2, h3⟩ := nd_of I hd
  refine wpAny_setItem_heap (hsz := by rw [ndX, List.length_map]; exact h2) (room8 hu) (nest_of I hp.pk) h3 fun h' dd' hs => ?_
  rw [storedH_new (by rw [atKey_nd, ha]; rfl)] at dd'
  have e : ndX kvs ++ [(nkP ps, b, Value.ref vb)] = ndX (kvs ++ [(ps, b, vb)]) := by rw [ndX, ndX, List.map_append]; rfl
  rw [e] at dd'
  have hq : ∃ q, h'.get? d = some q := let ⟨q, _, _, hq, _⟩ := dd'; ⟨q, hq⟩
  exact ⟨_, d_write I (by rw [he]; exact True.intro) hs hq (nd_ok h1 (by rw [List.length_append]; exact hl) dd'), q⟩
/-- {p: v} -/
def tNew1 (P : Program) (w : World) (tk tv : TE) : TE := fun σ H Q => ∀ d, H d = none → tk σ (upd H d (ndO P w d [])) fun x H1 => tv σ H1 fun y H2 => ∃ b vb ps, x = .ref b ∧ y = .ref vb ∧ H2 d = some (ndO P w d []) ∧ IsPiles1 H2 b ps ∧ Q (.ref d) (upd H2 d (ndO P w d [(ps, b, vb)]))
theorem pe_new1 {k v : Expr} {pos : Pos} {tk tv : TE} (hu : X.A.units + 64 < cLine) (hk : PE X k tk) (hv : PE X v tv) : PE X (.Dict [some k] [v] pos) (tNew1 X.prog X.w tk tv) := by
  (refine ⟨fun pins s σ H Q I q => ?_⟩); have hn := I.hok.fresh (Nat.le_refl s.heap.objs.size)
  have sy : (s.heap.objs.size == sysModules) = false := beq_eq_false_iff_ne.mpr (Ne.symm (Nat.ne_of_lt I.big))
  have I1 := I.laid (a := s.heap.objs.size) (o := ndO X.prog X.w s.heap.objs.size []) (h' := s.heap.push { cls := .type "dict", data := .dict #[] }) (t' := s.toks) (fun _ _ q => Heap.get?_push_of_some _ q) (Nat.le_refl _)
    (nd_ok sy (Nat.zero_le _) (Heap.DictOfH.new s.heap))
  have rm : (nestedKind X.prog X.w).room X.A := by show X.A.units + 8 < cLine; omega
  rw [arm_eval_Dict, show (evalEachOpt [some k] X.env).zip ((evalEach [v] X.env).map fun v => do let x ← v; standAt pos; pure x) = (pairTrees [some k] [v] X.env pos).map fun p => (some p.1, p.2) from rfl, dictDisplay_pairs (pairTrees [some k] [v] X.env pos) (fun z => nomatch z) (show 1 < 17 by decide)]
  refine wpAny_bind (wpAny_standAt (wpAny_bind (wpAny_subDictH (knd := nestedKind X.prog X.w) rm (show 1 ≤ 15 by decide) ?_)))
  refine pairTrees_cons_walk (thn (hk.run pins _ σ _ _ I1 (q _ hn)) fun u s1 ⟨x, H1, I2, rx, q1⟩ => thn (hv.run pins s1 σ H1 _ I2 q1) fun w2 s2 ⟨y, H2, I3, ry, b, vb, ps, ex, ey, e, hp, q2⟩ => pairTrees_nil_walk ?_)
  subst ex ey
  obtain rfl : u = Value.ref b := rx
  obtain rfl : w2 = Value.ref vb := ry
  obtain ⟨_, _, dd⟩ := nd_of (kvs := []) I3 ⟨.inl e, fun _ z => nomatch z⟩
  refine ⟨[(nkP ps, b, .ref vb)], ⟨rfl, rfl, nest_of I3 hp.pk, True.intro⟩, dd, fun h' tk' dd' hs => wpAny_pure ?_⟩
  have hq : ∃ q, h'.get? s.heap.objs.size = some q := let ⟨q, _, _, hq, _⟩ := dd'; ⟨q, hq⟩
  have dd2 : h'.DictOfH (nestedKind X.prog X.w) s.heap.objs.size (ndX [(ps, b, vb)]) := dd'
  exact ⟨.ref s.heap.objs.size, _, d_write I3 (by rw [e]; exact True.intro) hs hq (nd_ok sy (by show 1 ≤ sizeLine; decide) dd2), rfl, q2⟩
end
/-! the keys, while the dict is locked -/
def Itn (P : Program) (w : World) (d : Addr) (o : Obj) (kvs : List Ent) : It :=
  ⟨fun i H => H d = some (.frz o (ndO P w d kvs)) ∧ i < kvs.length, fun i H x H' => H' = H ∧ ∃ e, kvs[i]? = some e ∧ x = .ref e.2.1, fun i H => H d = some (.frz o (ndO P w d kvs)) ∧ kvs.length ≤ i⟩
section
variable {X : Cx} {pins : List (Addr × Obj)} {σ : L2.St} {H : Hp} {s : Shared} {d : Addr} {o : Obj} {kvs : List Ent}
theorem frzN (I : Inv X pins σ H s) (h : H d = some (.frz o (ndO X.prog X.w d kvs))) : (d == sysModules) = false ∧ s.heap.get? d = some o ∧ o.ExactDict ∧ ∃ (es : Array DictEntry) (ep : Nat), o.data = .dict es ep ∧ es.size = kvs.length ∧
    ∀ (i : Nat) (e : Ent), kvs[i]? = some e → ∃ en : DictEntry, es[i]? = some en ∧ en.key = .ref e.2.1 := by
  obtain ⟨hd, ⟨h1, h2, h3, o', es, ep, ho, hx, hdt, he⟩, _⟩ := (show ObjOk X.prog X.w H s.heap d (.frz o (ndO X.prog X.w d kvs)) from I.hok d _ h)
  rw [hd] at ho
  cases ho
  refine ⟨h1, hd, hx, es, ep, hdt, ?_, fun i e hi => ?_⟩
  · rw [size_of_entries he, ndX, List.length_map]
  · have q := entry_at he i
    rw [ndX, List.getElem?_map, hi] at q
    exact ⟨_, q, rfl⟩
end
section
variable {ep : Nat} {es : Array DictEntry} {o : Obj} {d : Addr} {tg : Expr} {K : PySem.W.Frag} {w : World} {P : Program}
theorem turn_keysN {kvs : List Ent} (it : Addr) (hod : o.data = .dict es ep) : Turn P w K tg (Itn P w d o kvs) [it] it (fun i h => h.IsKeyIter it d i kvs.length ep) where
  mem := List.mem_singleton.mpr rfl
  obj := fun i h st b hb => by
    obtain rfl := List.mem_singleton.mp hb
    obtain ⟨oi, e, c, dd⟩ := st
    refine ⟨oi, e, fun v z => ?_⟩
    rw [dd] at z
    cases z
  keep := fun i h h' st k => st.at fun oi => k it (List.mem_singleton.mpr rfl) oi
  item := by
    (intro X hP hw hK hc i pins s σ H E I hf st hg); subst hP hw hK
    obtain ⟨hd, hi⟩ := hg
    obtain ⟨f0, f1, f2, f3, f4, f5⟩ := hf it (List.mem_singleton.mpr rfl)
    obtain ⟨hs, hgd, hx, es', ep', hdt, hsz, ent⟩ := frzN I hd
    (obtain ⟨rfl, rfl⟩ := dict_ep hod hdt); have hkv : kvs[i]? = some kvs[i] := List.getElem?_eq_getElem hi
    obtain ⟨en, hen, hkey⟩ := ent i _ hkv
    (refine next_key_item st hgd hdt hsz hen fun h' st' sb => ?_); have I1 : Inv X pins σ H { s with heap := h' } := I.turned (t' := s.toks) (fun b ob hb e => (sb.2 b hb).trans e) f0 f1 f3 f4 f5
    (obtain ⟨oi, e, c, dd⟩ := id st'); refine ⟨en.key, rfl, go_of (s := { s with heap := h' }) e c dd (by decide) ⟨.ref kvs[i].2.1, H, I1, hkey, ⟨rfl, _, hkv, rfl⟩, st', fun b hb => (hf b hb).1⟩⟩
  done := by
    (intro X hP hw hK hc i pins s σ H E I hf st hg); subst hP hw hK
    obtain ⟨hd, hi⟩ := hg
    obtain ⟨f0, f1, f2, f3, f4, f5⟩ := hf it (List.mem_singleton.mpr rfl)
    obtain ⟨hs, hgd, hx, es', ep', hdt, hsz, ent⟩ := frzN I hd
    (obtain ⟨rfl, rfl⟩ := dict_ep hod hdt); refine next_key_end (I.ok.hd hc) st hgd hdt hsz hi fun h' eb => ⟨rfl, I.turned (t' := s.toks) (fun b ob hb e => eb b ob hb e) f0 f1 f3 f4 f5⟩
  self := fun A i s Q E st => by
    intro h
    (refine wpAny_pyIter_slot st.typeIs F.slot_dict_keyiterator_iter (wpAny_call_entry F.slot_dict_keyiterator_iter st.typeIs F.entry_dict_keyiterator_iter ?_ (F.args_dict_keyiterator_iter_1 _))); exact (show wpAny _ _ (ret (.ref it)) _ _ s from wpAny_pure ⟨_, rfl, "dict_keyiterator", _, st.typeIs, F.slot_dict_keyiterator_next.lookup, h⟩)
end
def iKeysN (P : Program) (w : World) (td : TE) : TI := fun σ H R => td σ H fun x H1 => ∃ d o kvs, x = .ref d ∧ H1 d = some (.frz o (ndO P w d kvs)) ∧ R (Itn P w d o kvs) H1
theorem pi_keysN {X : Cx} {tg e : Expr} {td : TE} (he : PE X e td) : PI X tg e (iKeysN X.prog X.w td) := by
  (refine ⟨fun pins s σ H R I h => ?_⟩); refine thn (he.run pins s σ H _ I h) fun u s1 ⟨x, H1, I1, rx, d, o, kvs, ex, hd, q⟩ => ?_
  subst ex
  (obtain rfl : u = Value.ref d := rx); obtain ⟨hs, hgd, hx, es, ep, hdt, hsz, ent⟩ := frzN I1 hd
  refine iter_keys hs hgd hx hdt (pi_one (tk := s1.toks) I1 _ (turn_keysN _ hdt) ⟨_, Heap.get?_push_size _ rfl, rfl, ?_⟩ q)
  rw [hsz] <;> rfl
/-! the same with the program, the world and the objects by name -/
section
variable {X : Cx} {P : Program} {w : World} {K : PySem.W.Frag} (eP : X.prog = P) (ew : X.w = w) (eK : X.K = K)
include eP ew eK
theorem op_inN' (hu : X.A.units + 64 < cLine) : OpR X (compareOp .In) (rInN P w K false) := by subst eP ew eK; exact op_inN hu
theorem op_notInN' (hu : X.A.units + 64 < cLine) : OpR X (compareOp .NotIn) (rInN P w K true) := by subst eP ew eK; exact op_notInN hu
theorem pe_getN' {o i : Expr} {pos : Pos} {td ty : TE} (hu : X.A.units + 64 < cLine) (ho : PE X o td) (hi : PE X i ty) (hs : NoSl i) : PE X (.Subscript o i pos) (tGetN P w K td ty) := by subst eP ew eK; exact pe_getN hu ho hi hs
theorem set_N' (hu : X.A.units + 64 < cLine) : PSet X (rSetN P w) := by subst eP ew eK; exact set_N hu
theorem pe_new1' {k v : Expr} {pos : Pos} {tk tv : TE} (hu : X.A.units + 64 < cLine) (hk : PE X k tk) (hv : PE X v tv) : PE X (.Dict [some k] [v] pos) (tNew1 P w tk tv) := by subst eP ew eK; exact pe_new1 hu hk hv
theorem pi_keysN' {tg e : Expr} {td : TE} (he : PE X e td) : PI X tg e (iKeysN P w td) := by subst eP ew eK; exact pi_keysN he
end
end HW
set_option Elab.async false
set_option maxRecDepth 100000
set_option linter.all false
set_option maxHeartbeats 4000000
/-! the dict of the piles that come, while it grows -/
namespace HW
open PySem L2 LamX
theorem IsPiles1.off {P : Program} {w : World} {H : Hp} {a d : Addr} {ps : List (List Str)} {kvs : List Ent} {o : HO} (h : IsPiles1 H a ps) (hd : H d = some (ndO P w d kvs)) : IsPiles1 (upd H d o) a ps := by
  obtain ⟨bs, e, p⟩ := h
  refine ⟨bs, by rw [upd_ne (fun z => by rw [z, hd] at e; cases e)]; exact e, paired_mono p fun b wd ⟨ob, q, n⟩ => ⟨ob, ?_, n⟩⟩
  rw [upd_ne (fun z => by rw [z, hd] at q; cases q)]; exact q
theorem IsPL.offD {P : Program} {w : World} {H : Hp} {l d : Addr} {pss : List (List (List Str))} {kvs : List Ent} {o : HO} (h : IsPL H l pss) (hd : H d = some (ndO P w d kvs)) : IsPL (upd H d o) l pss := by
  obtain ⟨as, e, p⟩ := h
  exact ⟨as, by rw [upd_ne (fun z => by rw [z, hd] at e; cases e)]; exact e, paired_mono p fun b wd q => q.off hd⟩
/-- the dict, while it is made -/
structure CI (P : Program) (w : World) (N : List Str) (par : Str → Option Str) (H0 H : Hp) (d : Addr) (kvs : List Ent) : Prop where
  same : Same H0 H
  d0 : H0 d = none
  stands : H d = some (ndO P w d kvs)
  keys : ∀ e ∈ kvs, IsPiles1 H e.2.1 e.1
  rch : ∀ e ∈ kvs, Rch N par e.1
  vals : ∀ e ∈ kvs, H0 e.2.2 = none ∧ ∃ i j : Int, H e.2.2 = some (.lst [.int i, .int j])
section
variable {P : Program} {w : World} {N : List Str} {par : Str → Option Str} {H0 H H' : Hp} {d l : Addr} {kvs : List Ent}
theorem CI.nd (h : CI P w N par H0 H d kvs) : Nd P w H d kvs := ⟨.inl h.stands, h.keys⟩
theorem CI.step (h : CI P w N par H0 H d kvs) (s : Same H H') : CI P w N par H0 H' d kvs :=
  ⟨h.same.trans s, h.d0, s _ _ h.stands, fun e he => (h.keys e he).same s, h.rch, fun e he => let ⟨a, i, j, q⟩ := h.vals e he; ⟨a, i, j, s _ _ q⟩⟩
theorem CI.lst (h : CI P w N par H0 H d kvs) {qs xs : List V} (hl : H l = some (.lst qs)) (l0 : H0 l = none) (hv : (∀ e ∈ kvs, e.2.2 ≠ l) ∨ ∃ i j : Int, xs = [.int i, .int j]) : CI P w N par H0 (upd H l (.lst xs)) d kvs := by
  refine ⟨same_upd h.same l0, h.d0, ?_, fun e he => (h.keys e he).keep hl (kp_upd _ (Keep.refl _ _)), h.rch, fun e he => ⟨(h.vals e he).1, ?_⟩⟩
  · rw [upd_ne (fun z => by have := h.stands; rw [z, hl] at this; cases this)]; exact h.stands
  · obtain ⟨_, i, j, q⟩ := h.vals e he
    by_cases z : e.2.2 = l
    · rcases hv with hv | ⟨i', j', rfl⟩
      · exact absurd z (hv e he)
      · exact ⟨i', j', by rw [z, upd_same]⟩
    · exact ⟨i, j, by rw [upd_ne z]; exact q⟩
theorem CI.add (h : CI P w N par H0 H d kvs) {b vb : Addr} {ps : List (List Str)} {i j : Int} (hb : IsPiles1 H b ps) (hr : Rch N par ps) (v0 : H0 vb = none) (hv : H vb = some (.lst [.int i, .int j])) :
    CI P w N par H0 (upd H d (ndO P w d (kvs ++ [(ps, b, vb)]))) d (kvs ++ [(ps, b, vb)]) := by
  have vne : ∀ {v : Addr} {xs : List V}, H v = some (.lst xs) → v ≠ d := fun q z => by rw [z, h.stands] at q; cases q
  refine ⟨same_upd h.same h.d0, h.d0, upd_same, fun e he => ?_, fun e he => ?_, fun e he => ?_⟩
  · rcases List.mem_append.mp he with q | q
    · exact (h.keys e q).off h.stands
    · rw [List.mem_singleton.mp q]; exact hb.off h.stands
  · rcases List.mem_append.mp he with q | q
    · exact h.rch e q
    · rw [List.mem_singleton.mp q]; exact hr
  · rcases List.mem_append.mp he with q | q
    · obtain ⟨a, i', j', q'⟩ := h.vals e q
      exact ⟨a, i', j', by rw [upd_ne (vne q')]; exact q'⟩
    · rw [List.mem_singleton.mp q]
      exact ⟨v0, i, j, by rw [upd_ne (vne hv)]; exact hv⟩
/-- the value that stands at a key -/
theorem CI.at' (h : CI P w N par H0 H d kvs) {ps : List (List Str)} (hk : ps ∈ kvs.map (·.1)) : ∃ kb vb i j, keyN kvs ps = some (kb, vb) ∧ H0 vb = none ∧ H vb = some (.lst [.int i, .int j]) := by
  have e : (keyN kvs ps).isSome = true := by
    rw [keyN_isSome]
    obtain ⟨e, he, q⟩ := List.mem_map.mp hk
    exact decide_eq_true ⟨e, he, q⟩
  obtain ⟨q, hq⟩ := Option.isSome_iff_exists.mp e
  obtain ⟨a, i, j, q'⟩ := h.vals _ (keyN_some hq)
  exact ⟨q.1, q.2, i, j, hq, a, q'⟩
end
/-- the state within a level -/
structure CB (P : Program) (w : World) (N : List Str) (par : Str → Option Str) (H0 H : Hp) (d A la ll : Addr) (as : List Addr) (pss lpss : List (List (List Str))) (kvs : List Ent) : Prop where
  ci : CI P w N par H0 H d kvs
  able : H A = some (.lst ((ables N par).map V.str))
  las : H la = some (.lst (as.map V.ref))
  lp : Paired (fun a ps => IsPiles1 H a ps) as pss
  lls : IsPL H ll lpss
  nA : A ≠ ll
  nl : la ≠ ll
  l0 : H0 ll = none
  vl : ∀ e ∈ kvs, e.2.2 ≠ ll
  inA : ∀ ps ∈ pss, ps ∈ kvs.map (·.1)
  inL : ∀ ps ∈ lpss, ps ∈ kvs.map (·.1)
section
variable {P : Program} {w : World} {N : List Str} {par : Str → Option Str} {H0 H H' : Hp} {d A la ll : Addr} {as : List Addr} {pss lpss : List (List (List Str))} {kvs : List Ent}
theorem CB.step (h : CB P w N par H0 H d A la ll as pss lpss kvs) (s : Same H H') : CB P w N par H0 H' d A la ll as pss lpss kvs :=
  ⟨h.ci.step s, s _ _ h.able, s _ _ h.las, paired_mono h.lp fun _ _ q => q.same s, h.lls.same s, h.nA, h.nl, h.l0, h.vl, h.inA, h.inL⟩
theorem strs_ne {xs : List Str} {i j : Int} : (xs.map V.str : List V) ≠ [.int i, .int j] := by
  intro z
  match xs with
  | [] => cases z
  | x :: xs => rw [List.map_cons, List.cons.injEq] at z; cases z.1
theorem refs_ne {xs : List Addr} {i j : Int} : (xs.map V.ref : List V) ≠ [.int i, .int j] := by
  intro z
  match xs with
  | [] => cases z
  | x :: xs => rw [List.map_cons, List.cons.injEq] at z; cases z.1
theorem CB.val (h : CB P w N par H0 H d A la ll as pss lpss kvs) {v : Addr} {i j i' j' : Int} (hv : H v = some (.lst [.int i, .int j])) (v0 : H0 v = none) : CB P w N par H0 (upd H v (.lst [.int i', .int j'])) d A la ll as pss lpss kvs := by
  obtain ⟨as', e, p⟩ := h.lls
  have k := kp_upd (.lst [.int i', .int j']) (Keep.refl v H)
  have n1 : A ≠ v := fun z => by
    have := h.able; rw [z, hv] at this
    exact strs_ne (HO.lst.inj (Option.some.inj this)).symm
  have n2 : la ≠ v := fun z => by
    have := h.las; rw [z, hv] at this
    exact refs_ne (HO.lst.inj (Option.some.inj this)).symm
  have n3 : ll ≠ v := fun z => by
    have := e; rw [z, hv] at this
    exact refs_ne (HO.lst.inj (Option.some.inj this)).symm
  exact ⟨h.ci.lst hv v0 (.inr ⟨_, _, rfl⟩), by rw [upd_ne n1]; exact h.able, by rw [upd_ne n2]; exact h.las, paired_mono h.lp fun _ _ q => q.keep hv k, h.lls.keep hv n3 k, h.nA, h.nl, h.l0, h.vl, h.inA, h.inL⟩
/-- a key that is new, and its piles at the end of the next level -/
theorem CB.put (h : CB P w N par H0 H d A la ll as pss lpss kvs) {b vb : Addr} {ps : List (List Str)} {i j : Int} (hb : IsPiles1 H b ps) (hr : Rch N par ps) (v0 : H0 vb = none) (hv : H vb = some (.lst [.int i, .int j])) {ls : List Addr}
    (hl : upd H d (ndO P w d (kvs ++ [(ps, b, vb)])) ll = some (.lst (ls.map V.ref))) :
    CB P w N par H0 (upd (upd H d (ndO P w d (kvs ++ [(ps, b, vb)]))) ll (.lst (ls.map V.ref ++ [.ref b]))) d A la ll as pss (lpss ++ [ps]) (kvs ++ [(ps, b, vb)]) := by
  have c1 := h.ci.add hb hr v0 hv
  have vne : ∀ {v : Addr} {xs : List V}, H v = some (.lst xs) → v ≠ d := fun q z => by rw [z, h.ci.stands] at q; cases q
  obtain ⟨as', e, p⟩ := h.lls
  have e' : upd H d (ndO P w d (kvs ++ [(ps, b, vb)])) ll = some (.lst (as'.map V.ref)) := by rw [upd_ne (vne e)]; exact e
  have ea : as' = ls := by
    rw [e'] at hl
    have := HO.lst.inj (Option.some.inj hl)
    exact (List.map_inj_right (fun x y z => V.ref.inj z)).mp this
  subst ea
  have p' := paired_mono p fun _ _ q => IsPiles1.off (o := ndO P w d (kvs ++ [(ps, b, vb)])) q h.ci.stands
  have k := kp_upd (.lst (as'.map V.ref ++ [.ref b])) (Keep.refl ll (upd H d (ndO P w d (kvs ++ [(ps, b, vb)]))))
  have nv : vb ≠ ll := fun z => by
    rw [z, e] at hv
    exact refs_ne (HO.lst.inj (Option.some.inj hv))
  have nvl : ∀ x ∈ kvs ++ [(ps, b, vb)], x.2.2 ≠ ll := fun x hx => by
    (rcases List.mem_append.mp hx with q | q)
    · exact h.vl x q
    · rw [List.mem_singleton.mp q]; exact nv
  refine ⟨c1.lst hl h.l0 (.inl nvl), ?_, ?_, paired_mono h.lp fun _ _ q => (q.off h.ci.stands).keep hl k, IsPL.snoc hl p' (hb.off h.ci.stands), h.nA, h.nl, h.l0, nvl, fun x hx => ?_, fun x hx => ?_⟩
  · rw [upd_ne h.nA, upd_ne (vne h.able)]; exact h.able
  · rw [upd_ne h.nl, upd_ne (vne h.las)]; exact h.las
  · rw [List.map_append]; exact List.mem_append_left _ (h.inA x hx)
  · (rw [List.map_append]); rcases List.mem_append.mp hx with q | q
    · exact List.mem_append_left _ (h.inL x q)
    · rw [List.mem_singleton.mp q]; exact List.mem_append_right _ (List.mem_singleton.mpr rfl)
end
def dPs (pss : List (List (List Str))) : PyData := .list (pss.map dP)
theorem dPs_shaped {pss : List (List (List Str))} (h : ∀ ps ∈ pss, ∀ wd ∈ ps, ∀ x ∈ wd, SO x) : SeqAt.shaped (dPs pss) = true := by
  have a : PyData.canLayAll0 (pss.map dP) = true := by
    induction pss with
    | nil => rfl
    | cons x l ih =>
      show (PyData.canLayAll0 (x.map dW) && PyData.canLayAll0 (l.map dP)) = true
      rw [dP_can (h x List.mem_cons_self), ih fun y hy => h y (List.mem_cons_of_mem _ hy)]
      rfl
  have b : PyData.depthAll (pss.map dP) ≤ 2 := by
    clear a h
    induction pss with
    | nil => exact Nat.zero_le _
    | cons x l ih =>
      have := dP_depth x
      show max (PyData.depthAll (x.map dW) + 1) (PyData.depthAll (l.map dP)) ≤ 2
      omega
  exact sh a (by show PyData.depthAll (pss.map dP) + 1 ≤ 64; omega)
theorem dp_Ps {K : PySem.W.Frag} {H : Hp} {l : Addr} {as : List Addr} {pss : List (List (List Str))} (e : H l = some (.lst (as.map V.ref))) (p : Paired (fun a ps => IsPiles1 H a ps) as pss) : Dp K H (.ref l) (dPs pss) := by
  refine .lst (SqL.of e) ?_
  clear e
  induction p with
  | nil => exact .nil
  | cons h _ ih => exact .cons (dp_P1 h) ih
theorem grow {a k m : Nat} (h1 : a * 3 ^ (m + 1) ≤ 1594323) (h2 : 2 * k * 3 ^ (m + 1) ≤ 4782969) : a ≤ 531441 ∧ k ≤ 797161 ∧ ∀ b k', b ≤ 3 * a → k' ≤ k + 3 * a → b * 3 ^ m ≤ 1594323 ∧ 2 * k' * 3 ^ m ≤ 4782969 := by
  have hT : 1 ≤ 3 ^ m := Nat.one_le_pow _ _ (by decide)
  rw [Nat.pow_succ] at h1 h2
  generalize 3 ^ m = T at *
  have e1 : a * (T * 3) = 3 * (a * T) := by rw [← Nat.mul_assoc, Nat.mul_comm]
  have e2 : 2 * k * (T * 3) = 6 * (k * T) := by rw [← Nat.mul_assoc, Nat.mul_assoc 2 k T]; omega
  have u1 : a ≤ a * T := Nat.le_mul_of_pos_right _ hT
  have u2 : k ≤ k * T := Nat.le_mul_of_pos_right _ hT
  refine ⟨by omega, by omega, fun b k' hb hk => ?_⟩
  have v1 : b * T ≤ 3 * a * T := Nat.mul_le_mul_right _ hb
  have v2 : k' * T ≤ (k + 3 * a) * T := Nat.mul_le_mul_right _ hk
  rw [Nat.add_mul] at v2
  rw [Nat.mul_assoc] at v1 v2
  rw [Nat.mul_assoc 2 k' T]
  omega
end HW
set_option Elab.async false
set_option maxRecDepth 100000
set_option linter.all false
set_option maxHeartbeats 4000000
namespace HW
open PySem L2 LamX
section
variable {P : Program} {w : World} {K : PySem.W.Frag} {mg : Str → Option Value} {base : Heap} {C : Addr}
def spClosure (P : Program) (w : World) : Sp := fun vs H Q _ => ∃ t N par r, vs = [.ref t] ∧ OkWeb N par r ∧ IsFolk H t N par ∧ ∀ H' d kvs, Same H H' → H d = none → H' d = some (ndO P w d kvs) → (∀ e ∈ kvs, IsPiles1 H' e.2.1 e.1) → (∀ ps, ps ∈ kvs.map (·.1) ↔ Rch N par ps) → Q (.ref d) H'
/-- all that one call lays from here are there -/
def Clo (N : List Str) (par : Str → Option Str) (kvs : List Ent) (ps : List (List Str)) : Prop := ∀ c p, par c = some p → nxt N par ps c ∈ kvs.map (·.1)
theorem iteBF {b : Bool} {A B : Prop} (h : b = false) (q : B) : if b = true then A else B := by rw [if_neg (by rw [h]; exact Bool.false_ne_true)]; exact q
theorem iteBT {b : Bool} {A B : Prop} (h : b = true) (q : A) : if b = true then A else B := by rw [if_pos h]; exact q
/-- between two levels -/
def CW (P : Program) (w : World) (N : List Str) (par : Str → Option Str) (r : Str → Nat) (H : Hp) (t A hm d : Addr) (m : Nat) (σ : L2.St) (H' : Hp) : Prop :=
  ∃ (kvs : List Ent) (la : Addr) (as : List Addr) (pss : List (List (List Str))), CI P w N par H H' d kvs ∧ H' A = some (.lst ((ables N par).map V.str)) ∧ H' la = some (.lst (as.map V.ref)) ∧ Paired (fun a ps => IsPiles1 H' a ps) as pss ∧ (∀ ps ∈ pss, ps ∈ kvs.map (·.1)) ∧ (∀ ps ∈ pss, phi N r (wsOf N ps) + 1 ≤ m) ∧
    pss.length * 3 ^ m ≤ 1594323 ∧ 2 * kvs.length * 3 ^ m ≤ 4782969 ∧ N.map home ∈ kvs.map (·.1) ∧ (∀ ps ∈ kvs.map (·.1), ps ∈ pss ∨ Clo N par kvs ps) ∧ ∃ o1 o6 o7 o8, σ = [some (.ref t), o1, some (.ref A), some (.ref hm), some (.ref d), some (.ref la), o6, o7, o8, none]
/-- within a level -/
structure CL (P : Program) (w : World) (N : List Str) (par : Str → Option Str) (r : Str → Nat) (H : Hp) (d A la ll : Addr) (as : List Addr) (pss : List (List (List Str))) (kvs : List Ent) (m i j : Nat) (cur : List (List (List Str))) (done : List (List (List Str))) (H' : Hp) (kvs' : List Ent) (lpss : List (List (List Str))) : Prop where
  cb : CB P w N par H H' d A la ll as pss lpss kvs'
  mono : ∀ ps ∈ kvs.map (·.1), ps ∈ kvs'.map (·.1)
  bl : lpss.length ≤ 3 * i + j
  bk : kvs'.length ≤ kvs.length + (3 * i + j)
  ph : ∀ ps ∈ lpss, phi N r (wsOf N ps) + 1 ≤ m
  cov : ∀ ps ∈ kvs'.map (·.1), ps ∈ cur ∨ ps ∈ lpss ∨ Clo N par kvs' ps
  don : ∀ ps ∈ done, ps ∈ kvs'.map (·.1)
theorem CL.step {N : List Str} {par : Str → Option Str} {r : Str → Nat} {H H1 H2 : Hp} {d A la ll : Addr} {as : List Addr} {pss cur done lpss : List (List (List Str))} {kvs kvs' : List Ent} {m i j : Nat} (h : CL P w N par r H d A la ll as pss kvs m i j cur done H1 kvs' lpss) (s : Same H1 H2) : CL P w N par r H d A la ll as pss kvs m i j cur done H2 kvs' lpss :=
  ⟨h.cb.step s, h.mono, h.bl, h.bk, h.ph, h.cov, h.don⟩
theorem Clo.mono {N : List Str} {par : Str → Option Str} {kvs kvs' : List Ent} {ps : List (List Str)} (h : Clo N par kvs ps) (k : ∀ ps ∈ kvs.map (·.1), ps ∈ kvs'.map (·.1)) : Clo N par kvs' ps := fun c p hc => k _ (h c p hc)
theorem ok_l_closure (T : Txt K mg C) (G_l_lay : OkF P w K mg base "_law_lay" ["_law_folk_here", "_law_heaps_here", "_law_one"] 1 spLay) (D : Df K mg "_law_closure" s_l_closure) : OkF P w K mg base "_law_closure" ["_law_folk_here"] 2 (spClosure P w) := by
  obtain ⟨f, fd, F, g⟩ := D
  refine ⟨f, fd, g, F.kp, F.binds (ps := ["_law_folk_here"]) fun _ _ _ _ _ _ us hl => match us, hl with | [_], _ => rfl, ?_⟩
  refine F.ok sc_l_closure (fun vs H Q E h => ?_) (fun cdv A outer s H vs Q E hr h => ?_)
  · obtain ⟨t, N, par, r, rfl, _⟩ := h
    rfl
  obtain ⟨t, N, par, r, rfl, W, hf, k⟩ := h
  refine ⟨_, (pss_cons (ps_setLc (i := 2) (own := [("_law_one", 1), ("_law_high", 9)]) (g := (gTup K 2 (gCons (gName 1) (gCons (gName 9) gNil)))) (tt := (tTest (tOp (fun x y H Q => y = .non ∧ Q (.bl (!decide (x = .non))) H) (tVar 9) (tC .non)))) (te := (tVar 1)) rfl sc_l_closure.nd rfl rfl (by rfl) (pi_tup (pv 0)) (blkOk_by (N := ["_law_folk_here", "_law_one", "_law_able", "_law_home", "_law_found", "_law_at", "_law_later", "_law_heaps_here", "_law_after", "_law_high"]) (sc := defScope s_l_closure) (by decide +kernel)) (fun _ _ _ _ _ => (pg_tup rfl (pgs_cons (pg_name (i := 1) sc_l_closure.nd rfl (Or.inl rfl)) (pgs_cons (pg_name (i := 9) sc_l_closure.nd rfl (Or.inl rfl)) pgs_nil)))) (fun _ _ _ _ _ => (pts_one (pt_cmpR op_notN (pv 9) pe_non (nomark _)))) (fun _ _ _ _ _ => (pv 1)))
  (pss_cons (ps_set (i := 3) sc_l_closure.nd rfl (.inl rfl) (pe_callTy call_tuple_of (by rfl) T.tuple (by decide +kernel) (pa_cons (pe_lc (own := [("_law_one", 1), ("_law_high", 9)]) (g := (gTup K 2 (gCons (gName 1) (gCons (gName 9) gNil)))) (tt := tYes) (te := _) rfl sc_l_closure.nd (pi_tup (pv 0)) (blkOk_by (N := ["_law_folk_here", "_law_one", "_law_able", "_law_home", "_law_found", "_law_at", "_law_later", "_law_heaps_here", "_law_after", "_law_high"]) (sc := defScope s_l_closure) (by decide +kernel)) (fun _ _ _ _ _ => (pg_tup rfl (pgs_cons (pg_name (i := 1) sc_l_closure.nd rfl (Or.inl rfl)) (pgs_cons (pg_name (i := 9) sc_l_closure.nd rfl (Or.inl rfl)) pgs_nil)))) (fun _ _ _ _ _ => pts_nil) (fun _ _ _ _ _ => (pe_tup1 (pa_cons (pv 1) pa_nil)))) pa_nil)))
  (pss_cons (ps_par (i := 4) (j := 5) rfl sc_l_closure.nd rfl rfl (by decide) rfl rfl (pa_cons (pe_new1' (P := P) (w := w) (K := K) rfl rfl rfl (hu64 hr) (pv 3) (pe_lst (pa_cons pe_int (pa_cons pe_int pa_nil)))) (pa_cons (pe_lst (pa_cons (pv 3) pa_nil)) pa_nil)) (by rfl))
  (pss_cons (ps_while PassesOwn.never (pt_cmpR (op_neD (hu64 hr)) (pv 5) (pe_lst pa_nil) (nomark _))
  (C8.pss_cut (ps_set (i := 6) sc_l_closure.nd rfl (.inl rfl) (pe_lst pa_nil))
  (pss_cons (ps_for PassesOwn.never rfl (pi_list (pv 5)) (pg_name (i := 7) sc_l_closure.nd rfl (Or.inl rfl))
  (pss_one (ps_for PassesOwn.never rfl (pi_list (pv 2)) (pg_name (i := 1) sc_l_closure.nd rfl (Or.inl rfl))
  (pss_cons (ps_set (i := 8) sc_l_closure.nd rfl (.inl rfl) (pe_f G_l_lay hr (by omega) (by rfl) (pa_cons (pv 0) (pa_cons (pv 7) (pa_cons (pv 1) pa_nil)))))
  (C8.pss_cut (ps_if ((pw_and (pt_cmpR (op_neD (hu64 hr)) (pv 8) (pv 7) (nomark _)) (pw_and1 (pt_cmpR (op_notInN' (P := P) (w := w) (K := K) rfl rfl rfl (hu64 hr)) (pv 8) (pv 4) (by rfl))))).pt (pss_cons (ps_asg (pe_lst (pa_cons (pe_op op_add (pe_ix ix_list (pe_getN' (P := P) (w := w) (K := K) rfl rfl rfl (hu64 hr) (pv 4) (pv 7) (fun _ _ => rfl)) pe_int (fun _ _ => rfl)) pe_int) (pa_cons pe_int pa_nil))) (pg_sub (pv 4) (pv 8) (set_N' (P := P) (w := w) (K := K) rfl rfl rfl (hu64 hr))))
  (pss_one (ps_expr (pe_bm PySem.F.plainAttrs_list PySem.F.slot_list_append PySem.F.type_list_append mt_append (pv 6) (pa_cons (pv 8) pa_nil))))) pss_nil)
  (pss_one (ps_if ((pw_and (pt_cmpR (op_neD (hu64 hr)) (pv 8) (pv 7) (nomark _)) (pw_and1 (pt_cmpR op_eq (pe_ix ix_list (pe_getN' (P := P) (w := w) (K := K) rfl rfl rfl (hu64 hr) (pv 4) (pv 8) (fun _ _ => rfl)) pe_int (fun _ _ => rfl)) (pe_op op_add (pe_ix ix_list (pe_getN' (P := P) (w := w) (K := K) rfl rfl rfl (hu64 hr) (pv 4) (pv 7) (fun _ _ => rfl)) pe_int (fun _ _ => rfl)) pe_int) (nomark _))))).pt (pss_one (ps_asg (pe_op op_add (pe_ix ix_list (pe_getN' (P := P) (w := w) (K := K) rfl rfl rfl (hu64 hr) (pv 4) (pv 8) (fun _ _ => rfl)) pe_int (fun _ _ => rfl)) (pe_ix ix_list (pe_getN' (P := P) (w := w) (K := K) rfl rfl rfl (hu64 hr) (pv 4) (pv 7) (fun _ _ => rfl)) pe_int (fun _ _ => rfl))) (pg_sub (pe_getN' (P := P) (w := w) (K := K) rfl rfl rfl (hu64 hr) (pv 4) (pv 8) (fun _ _ => rfl)) pe_int set_list))) pss_nil)))))))
  (pss_one (ps_set (i := 5) sc_l_closure.nd rfl (.inl rfl) (pv 6))))))
  (pss_one (ps_ret (pv 4))))))), ?_⟩
  obtain ⟨ts, ht, hpr⟩ := id hf
  have lts : ts.length = N.length := Paired.length hpr
  have n4 := W.n4
  refine ⟨_, rfl, t, rfl, ⟨_, frzT ht⟩, fun A hA => ?_⟩
  refine lc_tup (xs := ts.map V.ref) (fun i H' => Same H H' ∧ H' A = some (.lst (((N.take i).filter fun n => (par n).isSome).map V.str))) ⟨same_new hA _, upd_same⟩ (fun i H' _ q => frzT (q.1 _ _ ht)) ?_ ?_
  · rintro i v H' hi ⟨s1, hA'⟩
    obtain ⟨b, n, rfl, hn, hb⟩ := folk_item hpr hi
    have ef : (N.take (i + 1)).filter (fun n => (par n).isSome) = (N.take i).filter (fun n => (par n).isSome) ++ (if (par n).isSome = true then [n] else []) := by
      rw [take_snoc hn, List.filter_append]
      congr 1
      rw [List.filter_cons]
      cases (par n).isSome <;> rfl
    refine ⟨b, _, rfl, SqT.of (s1 _ _ hb), rfl, _, _, rfl, _, _, rfl, rfl, rfl, _, rfl, rfl, _, rfl, ?_⟩
    cases e : par n with
    | none => exact iteF ⟨s1, by rw [ef, e]; simpa using hA'⟩
    | some y =>
      refine iteT ⟨_, rfl, _, hA', ?_, same_upd s1 hA, ?_⟩
      · rw [List.length_map]
        have := List.length_filter_le (fun n => (par n).isSome) (N.take i)
        have := List.length_take_le' i N
        exact small4 (by omega)
      · rw [upd_same, ef, e, List.map_append]; rfl
  rintro H1 ⟨s1, hA1⟩
  rw [List.length_map, lts, List.take_length] at hA1
  refine ⟨_, rfl, t, rfl, ⟨_, frzT (s1 _ _ ht)⟩, fun L hL => ?_⟩
  have hL0 : H L = none := by
    cases q : H L with
    | none => rfl
    | some u => rw [s1 _ _ q] at hL; cases hL
  have AL : A ≠ L := fun z => by rw [z, hL] at hA1; cases hA1
  refine lc_tup (xs := ts.map V.ref) (fun i H' => Same H H' ∧ H' A = some (.lst ((ables N par).map V.str)) ∧ ∃ bs : List Addr, H' L = some (.lst (bs.map V.ref)) ∧ bs.length = i ∧ Paired (fun b w => T1 H' b (w.map V.str)) bs ((N.map home).take i)) ⟨same_upd s1 hL0, by rw [upd_ne AL]; exact hA1, [], upd_same, rfl, .nil⟩ (fun i H' _ q => frzT (q.1 _ _ ht)) ?_ ?_
  · rintro i v H' hi ⟨s2, hA', bs, hL', hbl, hbs⟩
    obtain ⟨b, n, rfl, hn, hb⟩ := folk_item hpr hi
    have hiN : i < N.length := (List.getElem?_eq_some_iff.mp hn).1
    refine ⟨b, _, rfl, SqT.of (s2 _ _ hb), rfl, _, _, rfl, _, _, rfl, rfl, rfl, yesT ⟨_, rfl, one_le, fun e H3 s3 he0 he => ⟨_, s3 _ _ hL', ?_, ?_⟩⟩⟩
    · rw [List.length_map]
      exact small4 (by omega)
    · have k3 := kp_upd (.lst (bs.map V.ref ++ [V.ref e])) (Keep.refl L H3)
      refine ⟨same_upd (s2.trans s3) hL0, by rw [upd_ne AL]; exact s3 _ _ hA', bs ++ [e], ?_, by rw [List.length_append, hbl]; rfl, ?_⟩
      · rw [upd_same, List.map_append]; rfl
      · have eh : (N.map home)[i]? = some [n] := by rw [List.getElem?_map, hn]; rfl
        rw [take_snoc eh]
        exact paired_snoc (paired_mono hbs fun x y q => (q.same s3).keep (s3 _ _ hL') k3) (he.keep (s3 _ _ hL') k3)
  rintro H2 ⟨s2, hA2, bs, hL2, hbl, hbs⟩
  rw [List.length_map, lts, List.take_of_length_le (by rw [List.length_map]; exact Nat.le_refl _)] at hbs
  refine ⟨L, _, rfl, .inl ⟨SqL.of hL2, fun hm hhm => ?_⟩⟩
  have s3 := same_new hhm (.tup (bs.map V.ref))
  have hm3 : IsPiles1 (upd H2 hm (.tup (bs.map V.ref))) hm (N.map home) := ⟨bs, upd_same, paired_mono hbs fun x y q => q.same s3⟩
  have hA3 := s3 _ _ hA2
  have s03 := s2.trans s3
  generalize upd H2 hm (.tup (bs.map V.ref)) = H3 at hm3 hA3 s03 ⊢
  intro d hd
  have s4 := same_new hd (ndO P w d [])
  have hd4 : upd H3 d (ndO P w d []) d = some (ndO P w d []) := upd_same
  have hd0 : H d = none := by
    cases q : H d with
    | none => rfl
    | some u => rw [s03 _ _ q] at hd; cases hd
  generalize upd H3 d (ndO P w d []) = H4 at s4 hd4 ⊢
  refine ⟨_, rfl, by decide, fun vb hvb => ⟨hm, vb, _, rfl, rfl, same_new hvb _ _ _ hd4, (hm3.same s4).same (same_new hvb _), _, rfl, one_le, fun la hla => ⟨_, _, rfl, ?_⟩⟩⟩
  have c5 : CI P w N par H (upd H4 vb (.lst [.int 0, .int 1])) d [] := ⟨(s03.trans s4).trans (same_new hvb _), hd0, same_new hvb _ _ _ hd4, (fun _ z => nomatch z), (fun _ z => nomatch z), (fun _ z => nomatch z)⟩
  have hvb0 : H vb = none := by
    cases q : H vb with
    | none => rfl
    | some u => rw [(s03.trans s4) _ _ q] at hvb; cases hvb
  have c6 := c5.add ((hm3.same s4).same (same_new hvb _)) (Rch.home W) hvb0 upd_same
  have c7 := c6.step (same_new hla (.lst [V.ref hm]))
  have hA7 : upd (upd (upd H4 vb (.lst [.int 0, .int 1])) d (ndO P w d [(N.map home, hm, vb)])) la (.lst [V.ref hm]) A = some (.lst ((ables N par).map V.str)) := by
    have h1 : upd H4 vb (.lst [.int 0, .int 1]) A = some (.lst ((ables N par).map V.str)) := same_new hvb _ _ _ (s4 _ _ hA3)
    refine same_new hla _ _ _ ?_
    rw [upd_ne (fun z => by have := c5.stands; rw [← z, h1] at this; cases this)]
    exact h1
  refine ⟨CW P w N par r H t A hm d,
    ⟨13, _, la, [hm], [N.map home], c7, hA7, upd_same, .cons (c7.keys _ (List.mem_singleton.mpr rfl)) .nil, fun ps h => h, fun ps h => ?_, by show 1 * 3 ^ 13 ≤ _; decide, by show 2 * 1 * 3 ^ 13 ≤ _; decide, List.mem_singleton.mpr rfl, fun ps h => .inl h, _, _, _, _, rfl⟩, ?_⟩
  · rw [List.mem_singleton.mp h, wsOf_of (s := home) W.nd (fun _ _ => rfl)]
    have := phi_home W
    omega
  rintro m σ H8 ⟨kvs, la, as, pss, ci, hA8, hla8, hpp, hin, hphi, hb1, hb2, hhome, hclo, o1, o6, o7, o8, rfl⟩
  have soP : ∀ ps ∈ pss, ∀ wd ∈ ps, ∀ x ∈ wd, SO x := fun ps h => by
    obtain ⟨e, he, ee⟩ := List.mem_map.mp (hin ps h)
    have := ci.rch e he
    rw [ee] at this
    exact this.so W
  refine ⟨_, rfl, Nat.zero_le _, fun e he => ?_⟩
  have s9 := same_new he (.lst [])
  refine ⟨dPs pss, .list [], dp_Ps (s9 _ _ hla8) (paired_mono hpp fun _ _ q => q.same s9), dp_nil (SqL.of upd_same), dPs_shaped soP, nil_shaped, ?_⟩
  rw [show PyData.eqv (dPs pss) (.list []) = decide (pss = []) from eqv_nil dP pss]
  have ci9 := ci.step s9
  have hA9 := s9 _ _ hA8
  have hla9 := s9 _ _ hla8
  have hpp9 := paired_mono hpp fun _ _ q => IsPiles1.same q s9
  generalize upd H8 e (.lst []) = H9 at ci9 hA9 hla9 hpp9 ⊢
  by_cases hz : pss = []
  · refine ⟨_, rfl, iteNF hz ⟨_, rfl, ?_⟩⟩
    refine k _ d kvs ci9.same ci9.d0 ci9.stands ci9.keys fun ps => ⟨fun h => ?_, fun h => ?_⟩
    · obtain ⟨x, hx, ex⟩ := List.mem_map.mp h
      rw [← ex]; exact ci9.rch x hx
    · exact closed_all (S := fun ps => ps ∈ kvs.map (·.1)) W hhome (fun ps h _ c p hc => ((hclo ps h).resolve_left (by rw [hz]; exact List.not_mem_nil)) c p hc) h
  obtain ⟨m', rfl⟩ : ∃ m', m = m' + 1 := by
    obtain ⟨x, hx⟩ := List.exists_mem_of_ne_nil _ hz
    have := hphi x hx
    exact ⟨m - 1, by omega⟩
  refine ⟨_, rfl, iteNT hz ⟨CW P w N par r H t A hm d m', fun σ' H' h => ⟨m', Nat.lt_succ_self _, h⟩, ?_⟩⟩
  obtain ⟨g1, g2, g3⟩ := grow hb1 hb2
  have lpp : as.length = pss.length := Paired.length hpp
  have ab3 := ables_3 W
  refine ⟨fun σ' H' => ∃ ll, CB P w N par H H' d A la ll as pss [] kvs ∧ ∃ o1 o7 o8, σ' = [some (.ref t), o1, some (.ref A), some (.ref hm), some (.ref d), some (.ref la), some (.ref ll), o7, o8, none], ?_, ?_⟩
  · refine ⟨Nat.zero_le _, fun ll hll => ⟨ll, ?_, _, _, _, rfl⟩⟩
    have s10 := same_new hll (.lst [])
    have nof : ∀ {x : Addr} {o : HO}, H9 x = some o → x ≠ ll := fun q z => by rw [z, hll] at q; cases q
    refine ⟨ci9.step s10, s10 _ _ hA9, s10 _ _ hla9, paired_mono hpp9 fun _ _ q => q.same s10, ⟨[], upd_same, .nil⟩, nof hA9, nof hla9, ?_, fun e he => ?_, hin, fun _ z => nomatch z⟩
    · cases q : H ll with
      | none => rfl
      | some u => rw [ci9.same _ _ q] at hll; cases hll
    · obtain ⟨_, i, j, q⟩ := ci9.vals e he
      exact nof q
  clear s9 he
  rintro σ' H10 ⟨ll, cb10, p1, p7, p8, rfl⟩
  refine ⟨_, rfl, la, rfl, ⟨_, SqL.of cb10.las⟩, ?_⟩
  refine for_list (xs := as.map V.ref) (fun i σ H' => ∃ kvs' lpss, CL P w N par r H d A la ll as pss kvs m' i 0 (pss.drop i) [] H' kvs' lpss ∧ ∃ o1 o7 o8, σ = [some (.ref t), o1, some (.ref A), some (.ref hm), some (.ref d), some (.ref la), some (.ref ll), o7, o8, none])
    ⟨kvs, [], ⟨cb10, fun _ h => h, Nat.zero_le _, Nat.le_add_right _ _, (fun _ z => nomatch z), fun ps h => (hclo ps h).imp_right .inr, (fun _ z => nomatch z)⟩, _, _, _, rfl⟩ (fun i σ H' _ ⟨_, _, q, _⟩ => SqL.of q.cb.las) ?_ ?_
  rotate_left
  · rintro σ H11 ⟨kvs', lpss, cl, q1, q7, q8, rfl⟩
    obtain ⟨ls, e1, e2⟩ := cl.cb.lls
    rw [List.length_map, lpp, List.drop_length] at cl
    have b1 := cl.bl
    have b2 := cl.bk
    obtain ⟨h1, h2⟩ := g3 lpss.length kvs'.length (by omega) (by omega)
    exact ⟨_, rfl, kvs', ll, ls, lpss, cl.cb.ci, cl.cb.able, e1, e2, cl.cb.inL, cl.ph, h1, h2, cl.mono _ hhome, fun ps h => (cl.cov ps h).resolve_left List.not_mem_nil, _, _, _, _, rfl⟩
  rintro i v σ H11 hi ⟨kvs', lpss, cl, q1, q7, q8, rfl⟩
  rw [List.getElem?_map] at hi
  obtain ⟨a, ha, rfl⟩ := Option.map_eq_some_iff.mp hi
  obtain ⟨ps, hps, hPa⟩ := paired_getL cl.cb.lp ha
  have hil : i < pss.length := (List.getElem?_eq_some_iff.mp hps).1
  have psIn : ps ∈ pss := List.mem_of_getElem? hps
  have hdrop : pss.drop i = ps :: pss.drop (i + 1) := by
    have := List.drop_eq_getElem_cons hil
    rw [(List.getElem?_eq_some_iff.mp hps).2] at this
    exact this
  have hR : Rch N par ps := by
    obtain ⟨x, hx, ex⟩ := List.mem_map.mp (cl.cb.inA ps psIn)
    rw [← ex]; exact cl.cb.ci.rch x hx
  have hph := hphi ps psIn
  refine ⟨_, rfl, A, rfl, ⟨_, SqL.of cl.cb.able⟩, ?_⟩
  refine for_list (xs := (ables N par).map V.str) (fun j σ H' => IsPiles1 H' a ps ∧ ∃ kvs' lpss, CL P w N par r H d A la ll as pss kvs m' i j (ps :: pss.drop (i + 1)) (((ables N par).take j).map (nxt N par ps)) H' kvs' lpss ∧ ∃ o1 o8, σ = [some (.ref t), o1, some (.ref A), some (.ref hm), some (.ref d), some (.ref la), some (.ref ll), some (.ref a), o8, none])
    ⟨hPa, kvs', lpss, by rw [hdrop] at cl; exact cl, _, _, rfl⟩ (fun i σ H' _ ⟨_, _, _, q, _⟩ => SqL.of q.cb.able) ?_ ?_
  rotate_left
  · rintro σ H12 ⟨hPa, kvs', lpss, cl, q1, q8, rfl⟩
    rw [List.length_map, List.take_length] at cl
    have b1 := cl.bl
    have b2 := cl.bk
    refine ⟨kvs', lpss, ⟨cl.cb, cl.mono, by omega, by omega, cl.ph, fun ps' h => ?_, (fun _ z => nomatch z)⟩, _, _, _, rfl⟩
    rcases cl.cov ps' h with z | z
    · (rcases List.mem_cons.mp z with z | z)
      · refine .inr (.inr fun c p hc => ?_)
        rw [z]
        exact cl.don _ (List.mem_map.mpr ⟨c, ables_mem W hc, rfl⟩)
      · exact .inl z
    · exact .inr z
  clear hPa cl kvs' lpss
  rintro j v σ H12 hj ⟨hPa, kvs', lpss, cl, q1, q8, rfl⟩
  rw [List.getElem?_map] at hj
  obtain ⟨c, hcj, rfl⟩ := Option.map_eq_some_iff.mp hj
  have hcm := List.mem_of_getElem? hcj
  obtain ⟨p, hcp⟩ := ables_some hcm
  have hjl : j < (ables N par).length := (List.getElem?_eq_some_iff.mp hcj).1
  have htake : ((ables N par).take (j + 1)).map (nxt N par ps) = ((ables N par).take j).map (nxt N par ps) ++ [nxt N par ps c] := by
    rw [take_snoc hcj, List.map_append]; rfl
  have hRn := hR.nxt W hcp
  refine ⟨_, rfl, _, rfl, _, rfl, t, a, c, p, N, par, r, ps, rfl, W, hf.same cl.cb.ci.same, hPa, hR.1, hR.2.pl W.rk, hcp, fun H13 b s13 hb0 hb => ?_⟩
  have cl13 := cl.step s13
  have hPa13 := hPa.same s13
  have hk : ps ∈ kvs'.map (·.1) := cl13.cb.inA ps psIn
  have dpa := dp_P1 (K := K) hPa13
  have dpb := dp_P1 (K := K) hb
  have ndA := dP_shaped (hR.so W)
  have ndB := dP_shaped (hRn.so W)
  clear cl hPa s13 hb0
  have same_case : nxt N par ps c = ps → CL P w N par r H d A la ll as pss kvs m' i (j + 1) (ps :: pss.drop (i + 1)) (((ables N par).take (j + 1)).map (nxt N par ps)) H13 kvs' lpss := fun z => by
    have b1 := cl13.bl
    have b2 := cl13.bk
    refine ⟨cl13.cb, cl13.mono, by omega, by omega, cl13.ph, cl13.cov, fun x hx => ?_⟩
    (rw [htake] at hx); rcases List.mem_append.mp hx with q | q
    · exact cl13.don x q
    · rw [List.mem_singleton.mp q, z]; exact hk
  refine ⟨fun σ' H' => IsPiles1 H' a ps ∧ IsPiles1 H' b (nxt N par ps c) ∧ ∃ kvs' lpss, CL P w N par r H d A la ll as pss kvs m' i (j + 1) (ps :: pss.drop (i + 1)) (((ables N par).take (j + 1)).map (nxt N par ps)) H' kvs' lpss ∧ σ' = [some (.ref t), some (.str c), some (.ref A), some (.ref hm), some (.ref d), some (.ref la), some (.ref ll), some (.ref a), some (.ref b), none], ?_, ?_⟩
  · refine ⟨_, rfl, _, rfl, dP (nxt N par ps c), dP ps, dpb, dpa, ndB, ndA, ?_⟩
    rw [dP_eq]
    by_cases hz : nxt N par ps c = ps
    · exact ⟨_, rfl, iteNF hz (iteF ⟨hPa13, hb, _, _, same_case hz, rfl⟩)⟩
    refine ⟨_, rfl, iteNT hz ⟨_, rfl, _, rfl, b, d, kvs', _, rfl, rfl, cl13.cb.ci.nd, hb.pk, _, rfl, ?_⟩⟩
    have b1 := cl13.bl
    have b2 := cl13.bk
    cases hA : keyN kvs' (nxt N par ps c) with
    | some q =>
      refine iteBF (by rw [show keyN kvs' (N.map (lay par (wsOf N ps) c)) = some q from hA]; rfl) ⟨hPa13, hb, _, _, ⟨cl13.cb, cl13.mono, by omega, by omega, cl13.ph, cl13.cov, fun x hx => ?_⟩, rfl⟩
      rw [htake] at hx
      rcases List.mem_append.mp hx with z | z
      · exact cl13.don x z
      · (rw [List.mem_singleton.mp z]); exact List.mem_map.mpr ⟨_, keyN_some hA, rfl⟩
    | none =>
      refine iteBT (by rw [show keyN kvs' (N.map (lay par (wsOf N ps) c)) = none from hA]; rfl) ?_
      obtain ⟨kb, vv, x0, y0, hat, v00, hv0⟩ := cl13.cb.ci.at' hk
      refine ⟨_, rfl, _, rfl, d, a, kvs', ps, kb, vv, rfl, rfl, cl13.cb.ci.nd, hPa13.pk, hat, vv, _, _, _, rfl, rfl, SqL.of hv0, atI_zero, _, _, rfl, rfl, (show 2 ≤ sizeLine by decide), fun vb hvb => ?_⟩
      have s14 := same_new hvb (.lst [V.int (x0 + 1), V.int 0])
      have cl14 := cl13.step s14
      have hb14 := hb.same s14
      have hPa14 := hPa13.same s14
      have hv14 : upd H13 vb (.lst [V.int (x0 + 1), V.int 0]) vb = some (.lst [V.int (x0 + 1), V.int 0]) := upd_same
      have vb0 : H vb = none := by
        cases q : H vb with
        | none => rfl
        | some u => rw [cl13.cb.ci.same _ _ q] at hvb; cases hvb
      generalize upd H13 vb (.lst [V.int (x0 + 1), V.int 0]) = H14 at cl14 hb14 hPa14 hv14 ⊢
      have st14 := cl14.cb.ci.stands
      refine ⟨_, rfl, _, rfl, d, b, vb, kvs', _, rfl, rfl, rfl, st14, cl14.cb.ci.nd, hb14, hA, by rw [sizeLine_eq]; omega, ?_⟩
      obtain ⟨ls, e1, e2⟩ := cl14.cb.lls
      have lne : ll ≠ d := fun z => by rw [z, st14] at e1; cases e1
      have e3 : upd H14 d (ndO P w d (kvs' ++ [(nxt N par ps c, b, vb)])) ll = some (.lst (ls.map V.ref)) := by rw [upd_ne lne]; exact e1
      have lls : ls.length = lpss.length := Paired.length e2
      refine ⟨_, rfl, .inl ⟨rfl, _, SqL.of e3⟩, _, rfl, ll, _, _, rfl, rfl, e3, by rw [List.length_map, sizeLine_eq]; omega, ?_⟩
      have cb15 := cl14.cb.put hb14 hRn vb0 hv14 e3
      have k15 := kp_upd (.lst (ls.map V.ref ++ [V.ref b])) (Keep.refl ll (upd H14 d (ndO P w d (kvs' ++ [(nxt N par ps c, b, vb)]))))
      have mono' : ∀ x ∈ kvs'.map (·.1), x ∈ (kvs' ++ [(nxt N par ps c, b, vb)]).map (·.1) := fun x hx => by rw [List.map_append]; exact List.mem_append_left _ hx
      have last : nxt N par ps c ∈ (kvs' ++ [(nxt N par ps c, b, vb)]).map (·.1) := by rw [List.map_append]; exact List.mem_append_right _ (List.mem_singleton.mpr rfl)
      refine ⟨(hPa14.off st14).keep e3 k15, (hb14.off st14).keep e3 k15, _, _, ⟨cb15, fun x hx => mono' x (cl14.mono x hx), ?_, ?_, fun x hx => ?_, fun x hx => ?_, fun x hx => ?_⟩, rfl⟩
      · (rw [List.length_append, List.length_singleton]; omega)
      · (rw [List.length_append, List.length_singleton]; omega)
      · rcases List.mem_append.mp hx with z | z
        · exact cl14.ph x z
        · (rw [List.mem_singleton.mp z]); exact Nat.le_trans (Nat.succ_le_of_lt (hR.fall W hcp hz)) (Nat.le_of_lt_succ hph)
      · rw [List.map_append] at hx
        rcases List.mem_append.mp hx with z | z
        · rcases cl14.cov x z with z | z | z
          · exact .inl z
          · exact .inr (.inl (List.mem_append_left _ z))
          · exact .inr (.inr (z.mono mono'))
        · (rw [List.mem_singleton.mp z]); exact .inr (.inl (List.mem_append_right _ (List.mem_singleton.mpr rfl)))
      · rw [htake] at hx
        rcases List.mem_append.mp hx with z | z
        · exact mono' x (cl14.don x z)
        · rw [List.mem_singleton.mp z]; exact last
  · clear cl13 hPa13 hb dpa dpb hk same_case
    rintro σ' H14 ⟨hPa, hb, kvs', lpss, cl, rfl⟩
    have hk : ps ∈ kvs'.map (·.1) := cl.cb.inA ps psIn
    have hk2 : nxt N par ps c ∈ kvs'.map (·.1) := cl.don _ (by rw [htake]; exact List.mem_append_right _ (List.mem_singleton.mpr rfl))
    refine ⟨_, rfl, _, rfl, dP (nxt N par ps c), dP ps, dp_P1 hb, dp_P1 hPa, ndB, ndA, ?_⟩
    rw [dP_eq]
    by_cases hz : nxt N par ps c = ps
    · exact ⟨_, rfl, iteNF hz (iteF ⟨hPa, kvs', lpss, cl, _, _, rfl⟩)⟩
    obtain ⟨kb, va, x0, y0, hat, va0, hva⟩ := cl.cb.ci.at' hk
    obtain ⟨kc, vc, x1, y1, hct, vc0, hvc⟩ := cl.cb.ci.at' hk2
    refine ⟨_, rfl, iteNT hz ⟨_, rfl, _, rfl, d, b, kvs', _, kc, vc, rfl, rfl, cl.cb.ci.nd, hb.pk, hct, vc, _, _, _, rfl, rfl, SqL.of hvc, atI_zero, _, rfl, _, rfl, d, a, kvs', ps, kb, va, rfl, rfl, cl.cb.ci.nd, hPa.pk, hat, va, _, _, _, rfl, rfl, SqL.of hva, atI_zero, _, _, rfl, rfl, rfl, _, rfl, ?_⟩⟩
    by_cases hq : V.int x1 = V.int (x0 + 1)
    · refine iteDT hq ⟨_, rfl, _, rfl, d, b, kvs', _, kc, vc, rfl, rfl, cl.cb.ci.nd, hb.pk, hct, vc, _, _, _, rfl, rfl, SqL.of hvc, atI_one, _, rfl, _, rfl, d, a, kvs', ps, kb, va, rfl, rfl, cl.cb.ci.nd, hPa.pk, hat, va, _, _, _, rfl, rfl, SqL.of hva, atI_one, _, _, rfl, rfl, ?_⟩
      refine ⟨_, rfl, _, rfl, d, b, kvs', _, kc, vc, rfl, rfl, cl.cb.ci.nd, hb.pk, hct, vc, _, _, 1, rfl, rfl, hvc, rfl, ?_⟩
      have kv := kp_upd (.lst [V.int x1, V.int (y1 + y0)]) (Keep.refl vc H14)
      exact ⟨hPa.keep hvc kv, kvs', lpss, ⟨cl.cb.val hvc vc0, cl.mono, cl.bl, cl.bk, cl.ph, cl.cov, cl.don⟩, _, _, rfl⟩
    · exact iteDF hq ⟨hPa, kvs', lpss, cl, _, _, rfl⟩
end
end HW
set_option Elab.async false
set_option maxRecDepth 100000
set_option linter.all false
set_option maxHeartbeats 4000000
/-! what nothing bars comes -/
namespace HW
open PySem L2 LamX
section
variable {N : List Str} {par : Str → Option Str} {r : Str → Nat}
theorem up_last {x p : Str} (h : Up par x p) (n : x ≠ p) : ∃ b, par b = some p ∧ Up par x b := by
  induction h with
  | refl x => exact absurd rfl n
  | @step x q y h1 h2 ih =>
    by_cases e : q = y
    · subst e; exact ⟨x, h1, .refl x⟩
    · obtain ⟨b, hb, hu⟩ := ih e
      exact ⟨b, hb, .step h1 hu⟩
theorem gath_one (W : OkWeb N par r) (x : Str) : ∀ (n : Nat) (p : Str), r x ≤ r p + n → Up par x p → x ≠ p → ∃ cs, Gath par p [x] cs := by
  intro n
  induction n with
  | zero => exact fun p hn hu hne => absurd (hu.lt W.rk hne) (by omega)
  | succ n ih =>
    intro p hn hu hne
    obtain ⟨b, hb, hxb⟩ := up_last hu hne
    have rb := W.rk _ _ hb
    by_cases e : x = b
    · subst e
      exact ⟨[] ++ [] ++ [x], .snoc (part := [x]) (.nil p) hb (fun z => nomatch z) (fun y hy => by rw [List.mem_singleton.mp hy]; exact .refl x) (by
        have : ([x].filter fun y => decide (y ≠ x)) = [] := by simp
        rw [this]; exact .nil x)⟩
    · obtain ⟨cs, hcs⟩ := ih b (by omega) hxb e
      refine ⟨[] ++ cs ++ [b], .snoc (part := [x]) (.nil p) hb (fun z => nomatch z) (fun y hy => by rw [List.mem_singleton.mp hy]; exact hxb) ?_⟩
      have : ([x].filter fun y => decide (y ≠ b)) = [x] := by simp [e]
      rw [this]; exact hcs
theorem gath_more (W : OkWeb N par r) (p : Str) : ∀ (l w0 cs0 : List Str), Gath par p w0 cs0 → (∀ x ∈ l, Up par x p ∧ x ≠ p) → ∃ cs, Gath par p (w0 ++ l) cs
  | [], w0, cs0, g, _ => ⟨cs0, by rw [List.append_nil]; exact g⟩
  | x :: l, w0, cs0, g, h => by
    obtain ⟨hu, hne⟩ := h x List.mem_cons_self
    obtain ⟨b, hb, hxb⟩ := up_last hu hne
    have one : ∃ cs1, Gath par b ([x].filter fun y => decide (y ≠ b)) cs1 := by
      by_cases e : x = b
      · refine ⟨[], ?_⟩
        have : ([x].filter fun y => decide (y ≠ b)) = [] := by simp [e]
        rw [this]; exact .nil b
      · have : ([x].filter fun y => decide (y ≠ b)) = [x] := by simp [e]
        rw [this]; exact gath_one W x _ b (Nat.le_add_left _ _) hxb e
    obtain ⟨cs1, hc⟩ := one
    have g' := Gath.snoc (part := [x]) g hb (fun z => nomatch z) (fun y hy => by rw [List.mem_singleton.mp hy]; exact hxb) hc
    obtain ⟨cs, hcs⟩ := gath_more W p l _ _ g' fun y hy => h y (List.mem_cons_of_mem _ hy)
    exact ⟨cs, by rw [List.append_assoc] at hcs; exact hcs⟩
theorem beh_more (W : OkWeb N par r) {s : Str → List Str} (U : Unb par s) : ∀ (O O0 cs0 : List Str), Beh par s O0 cs0 → ∃ cs, Beh par s (O0 ++ O) cs
  | [], O0, cs0, g => ⟨cs0, by rw [List.append_nil]; exact g⟩
  | p :: O, O0, cs0, g => by
    obtain ⟨cs1, h1⟩ := gath_more W p ((s p).filter fun x => decide (x ≠ p)) [] [] (.nil p) fun x hx => by
      obtain ⟨a, b⟩ := List.mem_filter.mp hx
      exact ⟨U.u1 _ _ a, of_decide_eq_true b⟩
    obtain ⟨cs, hcs⟩ := beh_more W U O _ _ (Beh.snoc g h1)
    exact ⟨cs, by rw [List.append_assoc] at hcs; exact hcs⟩
theorem unb_reach (W : OkWeb N par r) {s : Str → List Str} (P : Pl s) (out : ∀ x, x ∉ N → s x = [x]) (U : Unb par s) : Reach par s := by
  let all := N.mergeSort fun a b => decide (r a ≤ r b)
  have hperm : all.Perm N := List.mergeSort_perm N _
  have hpw : all.Pairwise fun x y => ¬ (Up par x y ∧ x ≠ y) := by
    have h := List.pairwise_mergeSort (le := fun a b => decide (r a ≤ r b)) (fun a b c h1 h2 => by
      have h1 := of_decide_eq_true h1
      have h2 := of_decide_eq_true h2
      exact decide_eq_true (Nat.le_trans h1 h2)) (fun a b => by
      rcases Nat.le_total (r a) (r b) with h | h
      · simp [h]
      · simp [h]) N
    refine List.Pairwise.imp (fun {x y} h q => ?_) h
    have h := of_decide_eq_true h
    have := q.1.lt W.rk q.2
    omega
  obtain ⟨cs, hB⟩ := beh_more W U all [] [] .nil
  rw [List.nil_append] at hB
  have e := hB.does W.rk P U (all := all) (fun p x hx hne => by
    by_cases hpN : p ∈ N
    · exact hperm.mem_iff.mpr hpN
    · rw [out p hpN] at hx
      exact absurd (List.mem_singleton.mp hx) hne) ⟨[], by simp⟩ hpw (hperm.symm.nodup W.nd)
  rw [mid_all P out hperm] at e
  rw [← e]
  exact Reach.run .home cs hB.able
/-- piles of all: nothing bars just those that come -/
theorem unb_iff (W : OkWeb N par r) {ps : List (List Str)} (h : IsPl N ps) : Unb par (wsOf N ps) ↔ Rch N par ps :=
  ⟨fun U => ⟨h.1, unb_reach W (wsOf_pl W.nd h) (fun _ hx => wsOf_out hx) U⟩, fun q => q.2.unb W.rk⟩
end
end HW
set_option Elab.async false
set_option maxRecDepth 100000
set_option linter.all false
set_option maxHeartbeats 4000000
/-! what stands while the law runs -/
namespace HW
open PySem L2 LamX
/-- the script: not the purse, not the dict -/
def Scr (K : PySem.W.Frag) (H : Hp) (a : Addr) (xs : List V) (p d : Addr) : Prop :=
  (Rd H a (.lst xs) ∧ a ≠ p ∧ a ≠ d) ∨ ∃ (o : Obj) (its : Array Value) (n : Nat), K.lookup a = some o ∧ o.cls = .type "list" ∧ o.dict = none ∧ o.data = .seq its n ∧ its.size ≤ sizeLine ∧ Vals xs its.toList
theorem Scr.sq {K : PySem.W.Frag} {H : Hp} {a p d : Addr} {xs : List V} (h : Scr K H a xs p d) : SqL K H a xs := h.imp (·.1) id
theorem rd_ne {H : Hp} {a p : Addr} {u : HO} (h : Rd H a u) (hp : H p = none) : a ≠ p := by
  rintro rfl
  rcases h with h | ⟨o, h⟩ <;> (rw [hp] at h; cases h)
theorem Scr.of {K : PySem.W.Frag} {H : Hp} {a p d : Addr} {xs : List V} (h : SqL K H a xs) (hp : H p = none) (hd : H d = none) : Scr K H a xs p d := by
  rcases h with h | h
  · exact .inl ⟨h, rd_ne h hp, rd_ne h hd⟩
  · exact .inr h
/-- the table of the lambda, none of whose objects stands at d -/
def TabD (Pt d : Addr) (H : Hp) : Prop := ∃ ps : Array Value, H Pt = some (.tbl ps) ∧ TriplesOk ps.toList ∧ ∀ (pos : Pos) (cv : Value), codeAmong pos ps.toList = some cv → ∃ c, cv = .ref c ∧ c ≠ d ∧ H c = some (CodeO c ("from_behind" ++ ".<locals>." ++ "<lambda>"))
theorem TabD.tabs {Pt d : Addr} {H : Hp} (h : TabD Pt d H) : Tabs (lamT Pt) H := fun p hp => by
  rw [List.mem_singleton.mp hp]
  obtain ⟨ps, h1, h2, h3⟩ := h
  exact ⟨ps, h1, h2, fun pos cv hc => let ⟨c, e, _, q⟩ := h3 pos cv hc; ⟨c, e, q⟩⟩
theorem TabD.of {Pt d : Addr} {H : Hp} (h : Tabs (lamT Pt) H) (hd : ∀ c q, H c = some (CodeO c q) → c ≠ d) : TabD Pt d H := by
  obtain ⟨ps, h1, h2, h3⟩ := h _ (List.mem_singleton.mpr rfl)
  exact ⟨ps, h1, h2, fun pos cv hc => let ⟨c, e, q⟩ := h3 pos cv hc; ⟨c, e, hd _ _ q, q⟩⟩
theorem TabD.move {Pt d : Addr} {H H' : Hp} (h : TabD Pt d H) (k1 : ∀ ps, H Pt = some (.tbl ps) → H' Pt = some (.tbl ps)) (k : ∀ c q, c ≠ d → H c = some (CodeO c q) → H' c = some (CodeO c q)) : TabD Pt d H' := by
  obtain ⟨ps, h1, h2, h3⟩ := h
  exact ⟨ps, k1 _ h1, h2, fun pos cv hc => let ⟨c, e, n, q⟩ := h3 pos cv hc; ⟨c, e, n, k _ _ n q⟩⟩
/-- all but p, d and the tables stays -/
def KX (p d : Addr) (H H' : Hp) : Prop := ∀ b u, b ≠ p → b ≠ d → H b = some u → (∀ ps, u ≠ .tbl ps) → H' b = some u
structure LS (K : PySem.W.Frag) (P : Program) (w : World) (C Pt a : Addr) (xs : List V) (p t x d : Addr) (N : List Str) (par : Str → Option Str) (kvs : List Ent) (H : Hp) : Prop where
  scr : Scr K H a xs p d
  tab : TabD Pt d H
  purse : IsPurse H p
  folk : IsFolk H t N par
  web : IsWeb C H x N par
  keys : ∀ e ∈ kvs, IsPiles1 H e.2.1 e.1
  dict : Rd H d (ndO P w d kvs)
section
variable {K : PySem.W.Frag} {P : Program} {w : World} {C Pt a : Addr} {xs : List V} {p t x d : Addr} {N : List Str} {par : Str → Option Str} {kvs : List Ent} {H H' : Hp}
theorem LS.nd (h : LS K P w C Pt a xs p t x d N par kvs H) : Nd P w H d kvs := ⟨h.dict, h.keys⟩
theorem LS.neP (h : LS K P w C Pt a xs p t x d N par kvs H) {b : Addr} {u : HO} (e : H b = some u) (n : ∀ ys, u ≠ .lst ys) : b ≠ p := by
  rintro rfl
  obtain ⟨i, j, k, q⟩ := h.purse
  rw [e] at q
  exact n _ (Option.some.inj q)
theorem LS.neD (h : LS K P w C Pt a xs p t x d N par kvs H) {b : Addr} {u : HO} (e : H b = some u) (n1 : ∀ φ, u ≠ .ext φ) (n2 : ∀ o φ, u ≠ .frz o (.ext φ)) : b ≠ d := by
  rintro rfl
  rcases h.dict with q | ⟨o, q⟩
  · rw [e] at q; exact n1 _ (Option.some.inj q)
  · rw [e] at q; exact n2 _ _ (Option.some.inj q)
theorem KX.tup (h : LS K P w C Pt a xs p t x d N par kvs H) (k : KX p d H H') {b : Addr} {ys : List V} (e : H b = some (.tup ys)) : H' b = some (.tup ys) :=
  k _ _ (h.neP e fun _ z => nomatch z) (h.neD e (fun _ z => nomatch z) fun _ _ z => nomatch z) e fun _ z => nomatch z
theorem KX.t1 (h : LS K P w C Pt a xs p t x d N par kvs H) (k : KX p d H H') {b : Addr} {ys : List V} (e : T1 H b ys) : T1 H' b ys := by
  obtain ⟨o, e, q⟩ := e
  exact ⟨o, k _ _ (h.neP e fun _ z => nomatch z) (h.neD e (fun _ z => nomatch z) fun _ _ z => nomatch z) e (fun _ z => nomatch z), q⟩
theorem KX.piles (h : LS K P w C Pt a xs p t x d N par kvs H) (k : KX p d H H') {b : Addr} {ps : List (List Str)} (e : IsPiles1 H b ps) : IsPiles1 H' b ps := by
  obtain ⟨bs, e, q⟩ := e
  exact ⟨bs, k.tup h e, paired_mono q fun _ _ q => k.t1 h q⟩
theorem KX.folk (h : LS K P w C Pt a xs p t x d N par kvs H) (k : KX p d H H') (e : IsFolk H t N par) : IsFolk H' t N par := by
  obtain ⟨ts, e, q⟩ := e
  exact ⟨ts, k _ _ (h.neP e fun _ z => nomatch z) (h.neD e (fun _ z => nomatch z) fun _ _ z => nomatch z) e (fun _ z => nomatch z), paired_mono q fun _ _ q => k.tup h q⟩
theorem LS.move (h : LS K P w C Pt a xs p t x d N par kvs H) (k : KX p d H H') (T : TabD Pt d H') (hp : IsPurse H' p) (hd : Rd H' d (ndO P w d kvs)) : LS K P w C Pt a xs p t x d N par kvs H' := by
  refine ⟨?_, T, hp, k.folk h h.folk, ?_, fun e he => k.piles h (h.keys e he), hd⟩
  · rcases h.scr with ⟨q, n1, n2⟩ | q
    · refine .inl ⟨?_, n1, n2⟩
      rcases q with q | ⟨o, q⟩
      · exact .inl (k _ _ n1 n2 q fun _ z => nomatch z)
      · exact .inr ⟨o, k _ _ n1 n2 q fun _ z => nomatch z⟩
    · exact .inr q
  · obtain ⟨dx, t', e, f⟩ := h.web
    refine ⟨dx, t', k _ _ (h.neP e fun _ z => nomatch z) (h.neD e (fun _ z => nomatch z) fun _ _ z => nomatch z) e (fun _ z => nomatch z), ?_⟩
    obtain ⟨ts, e, q⟩ := f
    exact ⟨ts, k _ _ (h.neP e fun _ z => nomatch z) (h.neD e (fun _ z => nomatch z) fun _ _ z => nomatch z) e (fun _ z => nomatch z), paired_mono q fun _ _ q => k.tup h q⟩
theorem Rd.same {u : HO} {b : Addr} (h : Rd H b u) (s : Same H H') : Rd H' b u := h.imp (s _ _) fun ⟨o, q⟩ => ⟨o, s _ _ q⟩
theorem LS.same (h : LS K P w C Pt a xs p t x d N par kvs H) (s : Same H H') : LS K P w C Pt a xs p t x d N par kvs H' :=
  h.move (fun b u _ _ e _ => s _ _ e) (h.tab.move (fun _ e => s _ _ e) fun _ _ _ e => s _ _ e) (h.purse.same s) (Rd.same h.dict s)
theorem LS.keep (h : LS K P w C Pt a xs p t x d N par kvs H) (k : Keep p H H') (hp : IsPurse H' p) : LS K P w C Pt a xs p t x d N par kvs H' := by
  refine h.move (fun b u n _ e _ => k _ _ n e) (h.tab.move (fun _ e => k _ _ (h.neP e fun _ z => nomatch z) e) fun _ _ _ e => k _ _ (h.neP e fun _ z => nomatch z) e) hp ?_
  rcases h.dict with q | ⟨o, q⟩
  · exact .inl (k _ _ (h.neP q fun _ z => nomatch z) q)
  · exact .inr ⟨o, k _ _ (h.neP q fun _ z => nomatch z) q⟩
/-- while the dict is locked -/
theorem LS.ext (h : LS K P w C Pt a xs p t x d N par kvs H) {o : Obj} (hd : H d = some (.frz o (ndO P w d kvs))) (e : ExtN H H') (T : Tabs (lamT Pt) H') : LS K P w C Pt a xs p t x d N par kvs H' ∧ H' d = some (.frz o (ndO P w d kvs)) := by
  have hd' := e _ _ hd fun _ z => nomatch z
  obtain ⟨i, j, l, q⟩ := h.purse
  refine ⟨h.move (fun b u _ _ q n => e _ _ q n) (TabD.of T fun c q' z => ?_) ⟨i, j, l, e _ _ q fun _ z => nomatch z⟩ (.inr ⟨o, hd'⟩), hd'⟩
  rintro rfl
  rw [hd'] at z
  cases z
theorem LS.at_d (h : LS K P w C Pt a xs p t x d N par kvs H) {u : HO} (hu : Rd (upd H d u) d (ndO P w d kvs)) : LS K P w C Pt a xs p t x d N par kvs (upd H d u) := by
  have nd : ∀ {b : Addr}, b ≠ d → upd H d u b = H b := fun n => upd_ne n
  have np : p ≠ d := fun z => by
    obtain ⟨i, j, l, q⟩ := h.purse
    exact h.neD q (fun _ z => nomatch z) (fun _ _ z => nomatch z) z
  refine h.move (fun b u _ n e _ => (nd n).trans e) (h.tab.move (fun ps e => (nd (h.neD e (fun _ z => nomatch z) fun _ _ z => nomatch z)).trans e) fun c q n e => (nd n).trans e) ?_ hu
  obtain ⟨i, j, l, q⟩ := h.purse
  exact ⟨i, j, l, (nd np).trans q⟩
end
theorem walk_keysN {P : Program} {w : World} {d : Addr} {o : Obj} {kvs : List Ent} : L2.Walk (Itn P w d o kvs) kvs.length (fun H => H d = some (.frz o (ndO P w d kvs))) (fun i H x H' => H' = H ∧ ∃ e, kvs[i]? = some e ∧ x = .ref e.2.1) :=
  ⟨fun _ _ hi q => ⟨q, hi⟩, fun _ q => ⟨q, Nat.le_refl kvs.length⟩, fun _ _ _ _ _ _ y => y⟩
theorem Scr.keep {K : PySem.W.Frag} {H H' : Hp} {a p d : Addr} {xs : List V} (h : Scr K H a xs p d) (k : Keep p H H') : Scr K H' a xs p d := by
  rcases h with ⟨h, n1, n2⟩ | h
  · refine .inl ⟨?_, n1, n2⟩
    rcases h with h | ⟨o, h⟩
    · exact .inl (k _ _ n1 h)
    · exact .inr ⟨o, k _ _ n1 h⟩
  · exact .inr h
theorem flat_nodup {s : Str → List Str} (P : Pl s) : ∀ {M : List Str}, M.Nodup → (M.map s).flatten.Nodup
  | [], _ => List.nodup_nil
  | p :: M, h => by
    rw [List.nodup_cons] at h
    rw [List.map_cons, List.flatten_cons, List.nodup_append]
    refine ⟨P.nd p, flat_nodup P h.2, fun a ha b hb e => ?_⟩
    obtain ⟨l, hl, hbl⟩ := List.mem_flatten.mp hb
    obtain ⟨q, hq, rfl⟩ := List.mem_map.mp hl
    rw [← e] at hbl
    rw [P.uniq a p q ha hbl] at h
    exact h.1 hq
/-- piles that come are piles of all -/
theorem Rch.isPl {N : List Str} {par : Str → Option Str} {r : Str → Nat} (W : OkWeb N par r) {ps : List (List Str)} (h : Rch N par ps) : IsPl N ps := by
  have Ps := h.2.pl W.rk
  have out := rout W h.2
  refine ⟨h.1, ?_⟩
  have e : N.map (wsOf N ps) = ps := wsOf_map W.nd h.1
  rw [← e]
  refine (List.perm_ext_iff_of_nodup (flat_nodup Ps W.nd) W.nd).mpr fun x => ⟨fun hx => ?_, fun hx => ?_⟩
  · obtain ⟨l, hl, hxl⟩ := List.mem_flatten.mp hx
    obtain ⟨q, hq, rfl⟩ := List.mem_map.mp hl
    exact pl_in Ps out hq hxl
  · obtain ⟨q, hq⟩ := Ps.all x
    by_cases hqN : q ∈ N
    · exact List.mem_flatten.mpr ⟨_, List.mem_map.mpr ⟨q, hqN, rfl⟩, hq⟩
    · rw [out q hqN] at hq
      rw [List.mem_singleton.mp hq] at hx
      exact absurd hx hqN
theorem key_in {kvs : List Ent} {ps : List (List Str)} : (keyN kvs ps).isSome = decide (ps ∈ kvs.map (·.1)) := by
  rw [keyN_isSome, decide_eq_decide]
  exact List.mem_map.symm
end HW
set_option Elab.async false
set_option maxRecDepth 100000
set_option linter.all false
set_option maxHeartbeats 4000000
namespace HW
open PySem L2 LamX
section
variable {P : Program} {w : World} {K : PySem.W.Frag} {mg : Str → Option Value} {base : Heap} {C : Addr}
def spLaw (K : PySem.W.Frag) (Pt : Addr) : Sp := fun vs H Q _ => ∃ a, ∃ ns : List Int, vs = [.ref a] ∧ SqL K H a (ns.map V.int) ∧ Tabs (lamT Pt) H ∧ ∀ H', Q (.bl true) H'
theorem law_fn {Pt f : Addr} {fd : FuncData} (T : Txt K mg C)
    (G_l_cell : OkF P w K mg base "_law_cell" ["_law_script", "_law_k"] 1 (spCell K)) (G_l_purse : OkF P w K mg base "_law_purse" ["_law_cell_here"] 1 spPurse) (G_l_take : OkF P w K mg base "_law_take" ["_law_purse_here", "_law_most"] 1 spTake)
    (G_l_folk : OkF P w K mg base "_law_folk" ["_law_purse_here", "_law_size"] 3 spFolk) (G_web : C8.Mak P w K mg base 4 "Web" C (spWebInit C) []) (G_l_closure : OkF P w K mg base "_law_closure" ["_law_folk_here"] 2 (spClosure P w))
    (G_l_every : OkF P w K mg base "_law_every" ["_law_folk_here"] 1 spEvery) (G_bar : OkF P w K mg base "bar" ["web", "piles"] 4 (spBar C)) (G_l_bars : OkF P w K mg base "_law_bars" ["_law_folk_here", "_law_heaps_here", "_law_told"] 2 spBars)
    (G_l_heaps : OkF P w K mg base "_law_heaps" ["_law_folk_here", "_law_some_here"] 1 spHeaps) (G_fewest : OkF P w K mg base "fewest" ["web", "piles"] 10 (spFewest C Pt)) (G_piles : OkF P w K mg base "piles" ["web", "calls"] 4 (spPiles C))
    (G_l_some : OkF P w K mg base "_law_some" ["_law_purse_here", "_law_folk_here", "_law_most"] 2 spSome)
    (F : Fun K "law" "law" s_law f fd) : FnOk P w K mg base C8.CX0 11 f fd ["_law_script"] (spLaw K Pt) := by
  refine F.ok sc_law (fun vs H Q E h => ?_) (fun cdv A outer s H vs Q E hr h => ?_)
  · obtain ⟨a, ns, rfl, _⟩ := h
    rfl
  obtain ⟨a, ns, rfl, ha, hT, k⟩ := h
  refine ⟨_, (pss_cons (ps_for PassesOwn.never rfl (pi_range1 (by rfl) T.range (pa_cons (pe_callB (call_max2 rfl) (by rfl) T.max (by decide +kernel) (pa_cons pe_int (pa_cons (pe_callB (call_min2 rfl) (by rfl) T.min (by decide +kernel) (pa_cons (pe_callB call_len_seq (by rfl) T.len (by decide +kernel) (pa_cons (pv 0) pa_nil)) (pa_cons pe_int pa_nil))) pa_nil))) pa_nil)) (pg_name (i := 1) sc_law.nd rfl (Or.inl rfl))
  (pss_cons (ps_set (i := 2) sc_law.nd rfl (.inl rfl) (pe_f G_l_purse hr (by omega) (by rfl) (pa_cons (pe_f G_l_cell hr (by omega) (by rfl) (pa_cons (pv 0) (pa_cons (pv 1) pa_nil))) pa_nil)))
  (pss_cons (ps_set (i := 3) sc_law.nd rfl (.inl rfl) (pe_f G_l_folk hr (by omega) (by rfl) (pa_cons (pv 2) (pa_cons (pe_op op_add pe_int (pe_f G_l_take hr (by omega) (by rfl) (pa_cons (pv 2) (pa_cons pe_int pa_nil)))) pa_nil))))
  (C8.pss_cut (ps_par (i := 4) (j := 5) rfl sc_law.nd rfl rfl (by decide) rfl rfl (pa_cons (C8.pe_mk G_web hr (by omega) (by rfl) (pa_cons (pv 3) pa_nil)) (pa_cons (pe_f G_l_closure hr (by omega) (by rfl) (pa_cons (pv 3) pa_nil)) pa_nil)) (by rfl))
  (C8.pss_cut (ps_for PassesOwn.never rfl (pi_list (pe_f G_l_every hr (by omega) (by rfl) (pa_cons (pv 3) pa_nil))) (pg_name (i := 6) sc_law.nd rfl (Or.inl rfl))
  (pss_cons (ps_set (i := 7) sc_law.nd rfl (.inl rfl) (pe_f G_bar hr (by omega) (by rfl) (pa_cons (pv 4) (pa_cons (pv 6) pa_nil))))
  (pss_one (ps_if ((pw_or (pt_cmpR op_ne (pe_cmpR op_isN (pv 7) pe_non (nomark _)) (pe_cmpR (op_inN' (P := P) (w := w) (K := K) rfl rfl rfl (hu64 hr)) (pv 6) (pv 5) (by rfl)) (nomark _)) (pw_or1 ((pw_and (pt_cmpR op_notN (pv 7) pe_non (nomark _)) (pw_and1 (pt_not (pt_val (pe_f G_l_bars hr (by omega) (by rfl) (pa_cons (pv 3) (pa_cons (pv 6) (pa_cons (pv 7) pa_nil))))))))).pt))).pt (pss_one (ps_ret pe_bl)) pss_nil))))
  (C8.pss_cut (ps_lock (ps_for PassesOwn.never rfl (pi_keysN' (P := P) (w := w) (K := K) rfl rfl rfl (pv 5)) (pg_name (i := 6) sc_law.nd rfl (Or.inl rfl))
  (pss_one (ps_if (pt_cmpR (op_neD (hu64 hr)) (pe_f G_l_heaps hr (by omega) (by rfl) (pa_cons (pv 3) (pa_cons (pe_f G_fewest hr (by omega) (by rfl) (pa_cons (pv 4) (pa_cons (pv 6) pa_nil))) pa_nil))) (pv 6) (nomark _)) (pss_one (ps_ret pe_bl)) pss_nil))))
  (pss_one (ps_for PassesOwn.never rfl (pi_range1 (by rfl) T.range (pa_cons pe_int pa_nil)) (pg_name (i := 8) sc_law.nd rfl (Or.inl rfl))
  (pss_one (ps_if (pt_cmpR (op_notInN' (P := P) (w := w) (K := K) rfl rfl rfl (hu64 hr)) (pe_f G_piles hr (by omega) (by rfl) (pa_cons (pv 4) (pa_cons (pe_f G_l_some hr (by omega) (by rfl) (pa_cons (pv 2) (pa_cons (pv 3) (pa_cons pe_int pa_nil)))) pa_nil))) (pv 5) (by rfl)) (pss_one (ps_ret pe_bl)) pss_nil))))))))))
  (pss_one (ps_ret pe_bl))), ?_⟩
  refine ⟨_, rfl, a, _, rfl, .inl ha, _, _, rfl, _, _, rfl, ?_⟩
  generalize hj : (if (if (5 : Int) < ((ns.map V.int).length : Int) then (5 : Int) else ((ns.map V.int).length : Int)) > 2 then (if (5 : Int) < ((ns.map V.int).length : Int) then (5 : Int) else ((ns.map V.int).length : Int)) else (2 : Int)) = jn
  have j5 : jn ≤ 5 := by
    rw [← hj]
    split <;> first | omega | (split <;> omega)
  have j2 : 2 ≤ jn := by
    rw [← hj]
    split <;> omega
  refine ⟨jn, rfl, by omega, by omega, ?_⟩
  refine for_range (lo := 0) (n := jn.toNat) (fun i σ H' => SqL K H' a (ns.map V.int) ∧ Tabs (lamT Pt) H' ∧ ∃ o1 o2 o3 o4 o5 o6 o7 o8, σ = [some (.ref a), o1, o2, o3, o4, o5, o6, o7, o8]) ⟨ha, hT, _, _, _, _, _, _, _, _, rfl⟩ ?_ ?_
  rotate_left
  · rintro σ H' ⟨_, _, _, _, _, _, _, _, _, _, rfl⟩
    exact k H'
  rintro i σ H0 hi ⟨ha, hT, o1, o2, o3, o4, o5, o6, o7, o8, rfl⟩
  have em : (0 : Int) + (i : Nat) = ((i : Nat) : Int) := Int.zero_add _
  refine ⟨_, rfl, _, rfl, a, ns, i, by rw [em]; rfl, ha, by omega, fun H1 z s1 => ⟨z, rfl, fun H2 p s2 hp0 hp2 => ?_⟩⟩
  have ha1 := sqL_same ha s1
  have hT2 := (hT.ext s1).ext s2
  refine ⟨_, rfl, _, rfl, p, 4, rfl, hp2, by decide, by decide, fun H3 z k3 p3 z0 z4 => ⟨_, _, rfl, rfl, p, (1 + z).toNat, by rw [Int.toNat_of_nonneg (by omega)]; rfl, p3, by omega, by omega, fun H4 t N par r k4 p4 hf4 W => ?_⟩⟩
  have k24 := k3.trans k4
  refine ⟨fun σ' H' => ∃ x d kvs, LS K P w C Pt a (ns.map V.int) p t x d N par kvs H' ∧ H' d = some (ndO P w d kvs) ∧ (∀ ps, ps ∈ kvs.map (·.1) ↔ Rch N par ps) ∧ ∃ o1 o6 o7 o8, σ' = [some (.ref a), o1, some (.ref p), some (.ref t), some (.ref x), some (.ref d), o6, o7, o8], ?_, ?_⟩
  · refine ⟨_, rfl, fun x dx hx hdx hne => ?_⟩
    have sA := same_new hdx (.own x)
    have hx' : upd H4 dx (.own x) x = none := by rw [upd_ne (Ne.symm hne)]; exact hx
    have sB := same_new hx' (.ins C dx [])
    refine ⟨x, dx, t, N, par, r, rfl, W, (hf4.same sA).same sB, upd_same, fun H6 kx hx6 => ⟨rfl, ?_⟩⟩
    have s46 : Same H4 H6 := fun b u e => kx b u (fun z => by rw [z, hx] at e; cases e) (sB _ _ (sA _ _ e))
    have hf6 := hf4.same s46
    refine ⟨_, rfl, t, N, par, r, rfl, W, hf6, fun H7 d kvs s7 hd0 hd7 hkeys hiff => ⟨_, _, rfl, x, d, kvs, ?_, hd7, hiff, _, _, _, _, rfl⟩⟩
    have s47 := s46.trans s7
    have pd : p ≠ d := (p4.same s46).ne hd0
    have hd2 : H2 d = none := by
      cases q : H2 d with
      | none => rfl
      | some u => rw [s46 _ _ (k24 _ _ (Ne.symm pd) q)] at hd0; cases hd0
    have hd1 : H1 d = none := by
      cases q : H1 d with
      | none => rfl
      | some u => rw [s2 _ _ q] at hd2; cases hd2
    have k27 : Keep p H2 H7 := k24.trans (kp_of s47)
    refine ⟨((Scr.of ha1 hp0 hd1).keep (kp_of s2)).keep k27, ?_, p4.same s47, hf4.same s47, ⟨dx, t, s7 _ _ hx6, hf4.same s47⟩, hkeys, .inl hd7⟩
    have np : ∀ {b : Addr} {u : HO}, H2 b = some u → (∀ ys, u ≠ .lst ys) → b ≠ p := fun {b u} e n z => by
      obtain ⟨i, j, l, q⟩ := hp2
      rw [z, q] at e
      exact n _ (Option.some.inj e).symm
    refine (TabD.of hT2 fun c q e z => ?_).move (fun ps e => k27 _ _ (np e fun _ z => nomatch z) e) fun c q _ e => k27 _ _ (np e fun _ z => nomatch z) e
    rw [z, hd2] at e
    cases e
  clear hT2 ha1 hp2 k3 k4 k24 p3 p4 hf4 z0 z4 hp0 s1 s2 ha hT em
  rintro σ5 H5 ⟨x, d, kvs, ls5, hd5, hiff, q1, q6, q7, q8, rfl⟩
  let M : L2.St → Hp → Prop := fun σ' H' => LS K P w C Pt a (ns.map V.int) p t x d N par kvs H' ∧ H' d = some (ndO P w d kvs) ∧ ∃ o1 o6 o7 o8, σ' = [some (.ref a), o1, some (.ref p), some (.ref t), some (.ref x), some (.ref d), o6, o7, o8]
  refine ⟨M, ?_, ?_⟩
  · refine ⟨_, rfl, t, N, par, r, rfl, W, ls5.folk, fun H6 l pss s6 hl0 hPL hIs => ?_⟩
    obtain ⟨as, has, hap⟩ := hPL
    refine ⟨l, rfl, ⟨_, SqL.of has⟩, ?_⟩
    refine for_list (xs := as.map V.ref) (fun i σ H' => Same H6 H' ∧ ∃ o6 o7, σ = [some (.ref a), q1, some (.ref p), some (.ref t), some (.ref x), some (.ref d), o6, o7, q8]) ⟨Same.refl _, _, _, rfl⟩ (fun i σ H' _ q => SqL.of (q.1 _ _ has)) ?_ ?_
    rotate_left
    · rintro σ H' ⟨s, u6, u7, rfl⟩
      exact ⟨(ls5.same s6).same s, s _ _ (s6 _ _ hd5), _, _, _, _, rfl⟩
    rintro i v σ H7 hi ⟨s7, u6, u7, rfl⟩
    rw [List.getElem?_map] at hi
    obtain ⟨b, hb, rfl⟩ := Option.map_eq_some_iff.mp hi
    obtain ⟨ps, hps, hPb⟩ := paired_getL hap hb
    have hIP := hIs ps (List.mem_of_getElem? hps)
    have hPb7 := hPb.same s7
    have ls7 := (ls5.same s6).same s7
    refine ⟨_, rfl, _, rfl, x, N, par, r, b, ps, rfl, W, ls7.web, hPb7, hIP, fun U H8 s8 => ?_, fun H8 tk told s8 htk hTold => ?_⟩
    · have ls8 := ls7.same s8
      have hyes : (keyN kvs ps).isSome = true := by
        rw [key_in]; exact decide_eq_true ((hiff ps).mpr ((unb_iff W hIP).mp U))
      refine ⟨_, rfl, rfl, _, rfl, _, rfl, b, d, kvs, ps, rfl, rfl, ls8.nd, (hPb7.same s8).pk, rfl, _, rfl, ?_⟩
      refine iteBF (by rw [hyes]; decide) ?_
      refine ⟨_, rfl, rfl, _, rfl, iteF (iteF ⟨s7.trans s8, _, _, rfl⟩)⟩
    · have ls8 := ls7.same s8
      have hno : (keyN kvs ps).isSome = false := by
        rw [key_in]; exact decide_eq_false fun z => hTold.bars W ((unb_iff W hIP).mpr ((hiff ps).mp z))
      refine ⟨_, rfl, rfl, _, rfl, _, rfl, b, d, kvs, ps, rfl, rfl, ls8.nd, (hPb7.same s8).pk, rfl, _, rfl, ?_⟩
      refine iteBF (by rw [hno, decide_eq_false (show ¬ V.ref tk = V.non from fun z => nomatch z)]; decide) ?_
      refine ⟨_, rfl, rfl, _, rfl, iteT ⟨_, rfl, _, rfl, _, rfl, t, b, tk, N, par, r, ps, told, rfl, W, ls8.folk, hPb7.same s8, hIP, htk, hTold, fun H9 s9 => ⟨_, rfl, ?_⟩⟩⟩
      exact iteF ⟨(s7.trans s8).trans s9, _, _, rfl⟩
  clear ls5 hd5
  rintro σ6 H6 ⟨ls6, hd6, q1, q6, q7, q8, rfl⟩
  refine ⟨M, ?_, ?_⟩
  · refine ⟨d, _, hd6, True.intro, fun od => ?_⟩
    refine ⟨_, rfl, d, od, kvs, rfl, upd_same, ?_⟩
    have hrd : Rd (upd H6 d (.frz od (ndO P w d kvs))) d (ndO P w d kvs) := .inr ⟨od, upd_same⟩
    refine for_it walk_keysN (fun i σ H' => LS K P w C Pt a (ns.map V.int) p t x d N par kvs H' ∧ H' d = some (.frz od (ndO P w d kvs)) ∧ ∃ o6, σ = [some (.ref a), q1, some (.ref p), some (.ref t), some (.ref x), some (.ref d), o6, q7, q8]) ⟨ls6.at_d hrd, upd_same, _, rfl⟩ (fun i σ H' _ q => q.2.1) ?_ ?_
    rotate_left
    · rintro σ H' ⟨ls, hd, u6, rfl⟩
      exact ⟨hd, ls.at_d (.inl upd_same), upd_same, _, _, _, _, rfl⟩
    rintro i v σ H7 H7' hi ⟨ls7, hd7, u6, rfl⟩ ⟨rfl, e, he, rfl⟩
    have hem := List.mem_of_getElem? he
    have hR := (hiff e.1).mp (List.mem_map.mpr ⟨e, hem, rfl⟩)
    have hIP := hR.isPl W
    have hPe := ls7.keys e hem
    refine ⟨_, rfl, _, rfl, _, rfl, x, N, par, r, e.2.1, e.1, rfl, W, ls7.web, hPe, hIP, (unb_iff W hIP).mpr hR, ls7.tab.tabs, fun H8 tt cs e8 T8 hcs hrun hab hlen => ?_⟩
    obtain ⟨ls8, hd8⟩ := ls7.ext hd7 e8 T8
    refine ⟨t, tt, N, par, r, cs, rfl, W, ls8.folk, hcs, hab, fun H9 b s9 hb => ?_⟩
    have ls9 := ls8.same s9
    have eps : N.map (run par home cs.reverse) = e.1 := by rw [hrun]; exact wsOf_map W.nd hR.1
    rw [eps] at hb
    refine ⟨_, rfl, dP e.1, dP e.1, dp_P hb, dp_P1 (ls9.keys e hem), dP_shaped (hR.so W), dP_shaped (hR.so W), ?_⟩
    rw [dP_eq]
    exact ⟨_, rfl, iteNF rfl ⟨ls9, s9 _ _ hd8, _, rfl⟩⟩
  clear ls6 hd6
  rintro σ7 H7 ⟨ls7, hd7, q1, q6, q7, q8, rfl⟩
  refine ⟨6, rfl, by decide, by decide, ?_⟩
  refine for_range (lo := 0) (n := (6 : Int).toNat) (fun i σ H' => LS K P w C Pt a (ns.map V.int) p t x d N par kvs H' ∧ ∃ o8, σ = [some (.ref a), q1, some (.ref p), some (.ref t), some (.ref x), some (.ref d), q6, q7, o8]) ⟨ls7, _, rfl⟩ ?_ ?_
  rotate_left
  · rintro σ H' ⟨ls, u8, rfl⟩
    exact ⟨ls.scr.sq, ls.tab.tabs, _, _, _, _, _, _, _, _, rfl⟩
  rintro i σ H8 _ ⟨ls8, u8, rfl⟩
  refine ⟨_, rfl, _, rfl, _, rfl, p, t, N, par, r, rfl, ls8.purse, W, ls8.folk, fun H9 c cs k9 p9 hcs hl hab => ?_⟩
  have ls9 := ls8.keep k9 p9
  refine ⟨x, N, par, r, c, cs, rfl, W, ls9.web, hcs, by omega, hab, fun H10 b s10 hb => ?_⟩
  have ls10 := ls9.same s10
  have hyes : (keyN kvs (N.map (run par home cs.reverse))).isSome = true := by
    rw [key_in]
    exact decide_eq_true ((hiff _).mpr (Rch.of W (Reach.run .home cs.reverse fun c hc => hab c (List.mem_reverse.mp hc))))
  refine ⟨_, rfl, b, d, kvs, _, rfl, rfl, ls10.nd, hb.pk, _, rfl, ?_⟩
  exact iteBF (by rw [hyes]; rfl) ⟨ls10, _, rfl⟩
end
end HW
set_option Elab.async false
set_option maxRecDepth 100000
set_option linter.all false
set_option maxHeartbeats 4000000
/-! all defs together -/
namespace HW
open PySem L2 LamX
theorem df_of {K : PySem.W.Frag} {h : Heap} {mg : Str → Option Value} {x : Str} {st : Stmt} {f : Addr} {oc : Value} {od an : Option Addr} {osl : Array (Option Value)} {kV doc pm cdv ct : Value} (X : K.In h) (G : h.Ns mainGlobals mg) (a : PySem.W.nsIn K mainGlobals x = some (some (.ref f)))
    (l : K.lookup f = some ⟨oc, od, .func (PySem.W.fnOf x x (defArgs st) (defBody st) (defScope st) .none kV doc pm an cdv ct), osl⟩) (c : PySem.W.codeIn K cdv x = true) (k : PySem.W.keepIn K (.ref f) = true) : Df K mg x st := ⟨f, _, fun_mk (st := st) l c k, PySem.W.mg_of X G a⟩
theorem dfc_of {K : PySem.W.Frag} {h : Heap} {mg : Str → Option Value} {x : Str} {st : Stmt} {f c : Addr} {oc : Value} {od an : Option Addr} {osl : Array (Option Value)} {kV doc pm ct : Value} (X : K.In h) (G : h.Ns mainGlobals mg) (a : PySem.W.nsIn K mainGlobals x = some (some (.ref f)))
    (l : K.lookup f = some ⟨oc, od, .func (PySem.W.fnOf x x (defArgs st) (defBody st) (defScope st) .none kV doc pm an (.ref c) ct), osl⟩) (cd : PySem.W.codeIn K (.ref c) x = true) (k : PySem.W.keepIn K (.ref f) = true) : DfC K mg x st c := ⟨f, _, ⟨⟨oc, od, kV, doc, pm, an, ct, osl, rfl, l, cd⟩, k⟩, PySem.W.mg_of X G a⟩
theorem dfi_of {K : PySem.W.Frag} {f C : Addr} {oc : Value} {od an : Option Addr} {osl : Array (Option Value)} {kV doc pm cdv ct : Value} (m : PySem.W.makesIn K C = true) (i : PySem.W.findIn K (.ref C) "__init__" = some (some (.ref f))) (n : PySem.W.isFn K (.ref f) = true) (kc : PySem.W.keepIn K (.ref C) = true)
    (l : K.lookup f = some ⟨oc, od, .func (PySem.W.fnOf "__init__" "Web.__init__" (defArgs s_webinit) (defBody s_webinit) (defScope s_webinit) .none kV doc pm an cdv ct), osl⟩) (c : PySem.W.codeIn K cdv "Web.__init__" = true) (k : PySem.W.keepIn K (.ref f) = true) : DfI K C := ⟨f, _, ⟨m, i, n, kc⟩, fun_mk (st := s_webinit) l c k⟩
theorem noattr {K : PySem.W.Frag} {C : Addr} {f : Str} (e : PySem.W.findIn K (.ref C) f = some none) : NoAttr K C f := e
def intAt (K : PySem.W.Frag) (x : Str) (i : Int) : Bool := match PySem.W.nsIn K mainGlobals x with
  | some (some (.int j _t)) => decide (j = i)
  | _ => false
theorem int_of {K : PySem.W.Frag} {h : Heap} {mg : Str → Option Value} {x : Str} {i : Int} (X : K.In h) (G : h.Ns mainGlobals mg) (e : intAt K x i = true) : ∃ t, mg x = some (.int i t) := by
  unfold intAt at e
  split at e
  · rename_i j t q
    have z := of_decide_eq_true e
    subst z
    exact ⟨t, PySem.W.mg_of X G q⟩
  · cases e
theorem law_at {l : PySem.W.OpenLaw} {w : World} {K : PySem.W.Frag} {mg : Str → Option Value} {h : Heap} {fa C c Pt : Addr} (X : K.In h) (G : h.Ns mainGlobals mg) (hfa : mg "law" = some (.ref fa))
    (hT : h.get? Pt = some { cls := .none, data := .fields #[] }) (nT : K.lookup Pt = none) (hd : PySem.W.codeHdIn K c Pt = true) (T : Txt K mg C) (DI : DfI K C) (DC : DfC K mg "from_behind" s_from_behind c)
    (D_whom_of : Df K mg "whom_of" s_whom_of) (D_names_by : Df K mg "names_by" s_names_by) (D_line_up : Df K mg "line_up" s_line_up) (D_is_name : Df K mg "is_name" s_is_name) (D_is_person : Df K mg "is_person" s_is_person) (D_upward : Df K mg "upward" s_upward) (D_odd_place : Df K mg "odd_place" s_odd_place) (D_is_one : Df K mg "is_one" s_is_one) (D_check_web : Df K mg "check_web" s_check_web) (D_check_calls : Df K mg "check_calls" s_check_calls) (D_check_piles : Df K mg "check_piles" s_check_piles) (D_at_home : Df K mg "at_home" s_at_home) (D_piles_by : Df K mg "piles_by" s_piles_by) (D_told_by : Df K mg "told_by" s_told_by) (D_piles : Df K mg "piles" s_piles) (D_words_of : Df K mg "words_of" s_words_of) (D_homes : Df K mg "homes" s_homes) (D_pairs_of : Df K mg "pairs_of" s_pairs_of) (D_bar_by : Df K mg "bar_by" s_bar_by) (D_bar : Df K mg "bar" s_bar) (D_coming : Df K mg "coming" s_coming) (D_through : Df K mg "through" s_through) (D_parts_of : Df K mg "parts_of" s_parts_of) (D_gathered : Df K mg "gathered" s_gathered) (D_fewest_by : Df K mg "fewest_by" s_fewest_by) (D_fewest : Df K mg "fewest" s_fewest) (D_l_cell : Df K mg "_law_cell" s_l_cell) (D_l_purse : Df K mg "_law_purse" s_l_purse) (D_l_take : Df K mg "_law_take" s_l_take) (D_l_titles : Df K mg "_law_titles" s_l_titles) (D_l_folk : Df K mg "_law_folk" s_l_folk) (D_l_up : Df K mg "_law_up" s_l_up) (D_l_some : Df K mg "_law_some" s_l_some) (D_l_lay : Df K mg "_law_lay" s_l_lay) (D_l_heaps : Df K mg "_law_heaps" s_l_heaps) (D_l_every : Df K mg "_law_every" s_l_every) (D_l_bars : Df K mg "_law_bars" s_l_bars) (D_l_closure : Df K mg "_law_closure" s_l_closure) (DL : Df K mg "law" s_law) : LawAtS l w K C8.CX0 11 63 "_law_script" mg fa h := by
  obtain ⟨f, fd, F, g⟩ := DL
  have e : f = fa := by
    rw [g] at hfa
    cases hfa
    rfl
  subst e
  refine ⟨fd, [(c, Pt)], spLaw K Pt, fun p hp => ?_, fun p hp => ?_, fun p hp => ?_, ?_, fun H a ns _ _ hH hS => ?_, fun base Kb Gb hTB => ?_⟩
  · rw [List.mem_singleton.mp hp]; exact hT
  · rw [List.mem_singleton.mp hp]; exact nT
  · rw [List.mem_singleton.mp hp]; exact PySem.W.codeHd_of_K X hd
  · obtain ⟨oc, od, kV, doc, pm, an, cdv, ct, osl, rfl, _⟩ := F.ex
    exact fun s v => .of_eq rfl
  · refine ⟨a, ns, rfl, hS, fun p hp => ?_, fun _ => rfl⟩
    rw [List.mem_singleton.mp hp]
    exact TabS.nil (hH _ (List.mem_singleton.mpr rfl))
  have TB := hTB _ (List.mem_singleton.mpr rfl)
  have G_whom_of := ok_whom_of (P := l.prog) (w := w) (base := base) T D_whom_of
  have G_names_by := ok_names_by (P := l.prog) (w := w) (base := base) T D_names_by
  have G_line_up := ok_line_up (P := l.prog) (w := w) (base := base) D_line_up
  have G_is_name := ok_is_name (P := l.prog) (w := w) (base := base) T D_is_name
  have G_is_person := ok_is_person (P := l.prog) (w := w) (base := base) T G_is_name D_is_person
  have G_upward := ok_upward (P := l.prog) (w := w) (base := base) T D_upward
  have G_odd_place := ok_odd_place (P := l.prog) (w := w) (base := base) T G_is_person G_upward D_odd_place
  have G_is_one := ok_is_one (P := l.prog) (w := w) (base := base) T D_is_one
  have G_check_web := ok_check_web (P := l.prog) (w := w) (base := base) T D_check_web
  have G_check_calls := ok_check_calls (P := l.prog) (w := w) (base := base) T G_whom_of G_is_one D_check_calls
  have G_check_piles := ok_check_piles (P := l.prog) (w := w) (base := base) T G_whom_of G_is_one D_check_piles
  have G_web := ok_web (P := l.prog) (w := w) (base := base) T G_odd_place DI
  have G_at_home := ok_at_home (P := l.prog) (w := w) (base := base) T G_names_by D_at_home
  have G_piles_by := ok_piles_by (P := l.prog) (w := w) (base := base) T G_at_home D_piles_by
  have G_told_by := ok_told_by (P := l.prog) (w := w) (base := base) T D_told_by
  have G_piles := ok_piles (P := l.prog) (w := w) (base := base) T G_check_web G_check_calls G_whom_of G_piles_by G_told_by D_piles
  have G_words_of := ok_words_of (P := l.prog) (w := w) (base := base) T G_whom_of G_names_by D_words_of
  have G_homes := ok_homes (P := l.prog) (w := w) (base := base) T D_homes
  have G_pairs_of := ok_pairs_of (P := l.prog) (w := w) (base := base) T G_names_by G_line_up D_pairs_of
  have G_bar_by := ok_bar_by (P := l.prog) (w := w) (base := base) T G_homes G_names_by G_line_up G_pairs_of D_bar_by
  have G_bar := ok_bar (P := l.prog) (w := w) (base := base) T G_check_web G_check_piles G_whom_of G_words_of G_bar_by D_bar
  have G_coming := ok_coming (P := l.prog) (w := w) (base := base) T G_bar G_whom_of G_words_of D_coming
  have G_through := ok_through (P := l.prog) (w := w) (base := base) T D_through
  have G_parts_of := ok_parts_of (P := l.prog) (w := w) (base := base) T G_through D_parts_of
  have G_gathered := ok_gathered (P := l.prog) (w := w) (base := base) T G_parts_of D_gathered 4 (Nat.le_refl 4)
  have G_from_behind := ok_from_behind (P := l.prog) (w := w) (base := base) T TB G_line_up G_gathered DC
  have G_fewest_by := ok_fewest_by (P := l.prog) (w := w) (base := base) T G_from_behind D_fewest_by
  have G_fewest := ok_fewest (P := l.prog) (w := w) (base := base) T G_coming G_fewest_by D_fewest
  have G_l_cell := ok_l_cell (P := l.prog) (w := w) (base := base) T D_l_cell
  have G_l_purse := ok_l_purse (P := l.prog) (w := w) (base := base) T D_l_purse
  have G_l_take := ok_l_take (P := l.prog) (w := w) (base := base) T D_l_take
  have G_l_titles := ok_l_titles (P := l.prog) (w := w) (base := base) T G_l_take D_l_titles
  have G_l_folk := ok_l_folk (P := l.prog) (w := w) (base := base) T G_l_take G_l_titles D_l_folk
  have G_l_up := ok_l_up (P := l.prog) (w := w) (base := base) T D_l_up
  have G_l_some := ok_l_some (P := l.prog) (w := w) (base := base) T G_l_take D_l_some
  have G_l_lay := ok_l_lay (P := l.prog) (w := w) (base := base) T D_l_lay
  have G_l_heaps := ok_l_heaps (P := l.prog) (w := w) (base := base) T D_l_heaps
  have G_l_every := ok_l_every (P := l.prog) (w := w) (base := base) T D_l_every
  have G_l_bars := ok_l_bars (P := l.prog) (w := w) (base := base) T G_l_up D_l_bars
  have G_l_closure := ok_l_closure (P := l.prog) (w := w) (base := base) T G_l_lay D_l_closure
  exact law_fn T G_l_cell G_l_purse G_l_take G_l_folk G_web G_l_closure G_l_every G_bar G_l_bars G_l_heaps G_fewest G_piles G_l_some F
end HW
set_option Elab.async false
set_option maxRecDepth 100000
open PySem PySem.W PyProof.Rows in
set_option maxRecDepth 100000 in
set_option maxHeartbeats 0 in
theorem PySem.Challenge.cw_heelrow_k68_whole_which_piles_come_holds : PySem.Challenge.rw_heelrow_k68_whole_which_piles_come.Holds := by
  w_on; o_law; k_head; (case hw => w_witness2)
  k_fill
  refine LamX.walk_ofTs (l := PySem.Challenge.rw_heelrow_k68_whole_which_piles_come) (n := 63) (k := 11) (x := "_law_script") (CX := fun _ => C8.CX0) rfl (by decide) rfl ⟨rfl, by decide, by decide⟩ (fun w h Y => PySem.W.km_in_of Y) ?F (fun _ _ _ _ _ h => h)
  case F =>
    intro w mg fa h Y KX G hmg
    refine' HW.law_at (Pt := 416) KX G hmg (PySem.W.km_tabs_of Y 416 (List.mem_singleton.mpr rfl)) ?nT ?hd ⟨⟨?pg, ?hdi, ?po, ?sa⟩, HW.noattr ?nP, PySem.W.mg_of KX G ?aC, ⟨⟨?pg2, ?hdi2, ?po2, ?sa2⟩, ?ha, ?hn, ?htk, ?hm, ?me⟩, PySem.W.mg_none_of KX G ?n0, PySem.W.mg_none_of KX G ?n1, PySem.W.mg_none_of KX G ?n2, PySem.W.mg_none_of KX G ?n3, PySem.W.mg_none_of KX G ?n4, PySem.W.mg_none_of KX G ?n5, PySem.W.mg_none_of KX G ?n6, PySem.W.mg_none_of KX G ?n7, PySem.W.mg_none_of KX G ?n8, PySem.W.mg_none_of KX G ?n9, PySem.W.mg_none_of KX G ?n10, PySem.W.mg_none_of KX G ?n11, PySem.W.mg_none_of KX G ?n12, PySem.W.mg_none_of KX G ?n13, PySem.W.mg_none_of KX G ?n14, PySem.W.mg_none_of KX G ?n15, HW.int_of KX G ?mp, HW.int_of KX G ?mc, HW.int_of KX G ?lnm⟩
      (HW.dfi_of ?mk ?iI ?iF ?kC ?lI ?cI ?kI) (HW.dfc_of KX G ?aB ?lB ?cB ?kB)
      (HW.df_of KX G ?a0 ?l0 ?c0 ?k0) (HW.df_of KX G ?a1 ?l1 ?c1 ?k1) (HW.df_of KX G ?a2 ?l2 ?c2 ?k2) (HW.df_of KX G ?a3 ?l3 ?c3 ?k3) (HW.df_of KX G ?a4 ?l4 ?c4 ?k4) (HW.df_of KX G ?a5 ?l5 ?c5 ?k5) (HW.df_of KX G ?a6 ?l6 ?c6 ?k6) (HW.df_of KX G ?a7 ?l7 ?c7 ?k7) (HW.df_of KX G ?a8 ?l8 ?c8 ?k8) (HW.df_of KX G ?a9 ?l9 ?c9 ?k9) (HW.df_of KX G ?a10 ?l10 ?c10 ?k10) (HW.df_of KX G ?a11 ?l11 ?c11 ?k11) (HW.df_of KX G ?a12 ?l12 ?c12 ?k12) (HW.df_of KX G ?a13 ?l13 ?c13 ?k13) (HW.df_of KX G ?a14 ?l14 ?c14 ?k14) (HW.df_of KX G ?a15 ?l15 ?c15 ?k15) (HW.df_of KX G ?a16 ?l16 ?c16 ?k16) (HW.df_of KX G ?a17 ?l17 ?c17 ?k17) (HW.df_of KX G ?a18 ?l18 ?c18 ?k18) (HW.df_of KX G ?a19 ?l19 ?c19 ?k19) (HW.df_of KX G ?a20 ?l20 ?c20 ?k20) (HW.df_of KX G ?a21 ?l21 ?c21 ?k21) (HW.df_of KX G ?a22 ?l22 ?c22 ?k22) (HW.df_of KX G ?a23 ?l23 ?c23 ?k23) (HW.df_of KX G ?a24 ?l24 ?c24 ?k24) (HW.df_of KX G ?a25 ?l25 ?c25 ?k25) (HW.df_of KX G ?a26 ?l26 ?c26 ?k26) (HW.df_of KX G ?a27 ?l27 ?c27 ?k27) (HW.df_of KX G ?a28 ?l28 ?c28 ?k28) (HW.df_of KX G ?a29 ?l29 ?c29 ?k29) (HW.df_of KX G ?a30 ?l30 ?c30 ?k30) (HW.df_of KX G ?a31 ?l31 ?c31 ?k31) (HW.df_of KX G ?a32 ?l32 ?c32 ?k32) (HW.df_of KX G ?a33 ?l33 ?c33 ?k33) (HW.df_of KX G ?a34 ?l34 ?c34 ?k34) (HW.df_of KX G ?a35 ?l35 ?c35 ?k35) (HW.df_of KX G ?a36 ?l36 ?c36 ?k36) (HW.df_of KX G ?a37 ?l37 ?c37 ?k37) (HW.df_of KX G ?a38 ?l38 ?c38 ?k38)
    (case aC => k_is)
    (case aB => k_is)
    (case lB => k_is)
    (case cB => k_is)
    (case kB => k_is)
    (case nT => kernel_rfl)
    (case hd => kernel_rfl)
    (case pg => k_is)
    (case hdi => k_is)
    (case po => k_is)
    (case sa => k_is)
    (case nP => k_is)
    (case pg2 => k_is)
    (case hdi2 => k_is)
    (case po2 => k_is)
    (case sa2 => k_is)
    (case ha => k_is)
    (case hn => k_is)
    (case htk => k_is)
    (case hm => k_is)
    (case me => kernel_rfl)
    (case mp => kernel_rfl)
    (case mc => kernel_rfl)
    (case lnm => kernel_rfl)
    (case mk => k_is)
    (case iI => k_is)
    (case iF => k_is)
    (case kC => k_is)
    (case lI => k_is)
    (case cI => k_is)
    (case kI => k_is)
    (case n0 => k_is)
    (case n1 => k_is)
    (case n2 => k_is)
    (case n3 => k_is)
    (case n4 => k_is)
    (case n5 => k_is)
    (case n6 => k_is)
    (case n7 => k_is)
    (case n8 => k_is)
    (case n9 => k_is)
    (case n10 => k_is)
    (case n11 => k_is)
    (case n12 => k_is)
    (case n13 => k_is)
    (case n14 => k_is)
    (case n15 => k_is)
    (case a0 => k_is)
    (case l0 => k_is)
    (case c0 => k_is)
    (case k0 => k_is)
    (case a1 => k_is)
    (case l1 => k_is)
    (case c1 => k_is)
    (case k1 => k_is)
    (case a2 => k_is)
    (case l2 => k_is)
    (case c2 => k_is)
    (case k2 => k_is)
    (case a3 => k_is)
    (case l3 => k_is)
    (case c3 => k_is)
    (case k3 => k_is)
    (case a4 => k_is)
    (case l4 => k_is)
    (case c4 => k_is)
    (case k4 => k_is)
    (case a5 => k_is)
    (case l5 => k_is)
    (case c5 => k_is)
    (case k5 => k_is)
    (case a6 => k_is)
    (case l6 => k_is)
    (case c6 => k_is)
    (case k6 => k_is)
    (case a7 => k_is)
    (case l7 => k_is)
    (case c7 => k_is)
    (case k7 => k_is)
    (case a8 => k_is)
    (case l8 => k_is)
    (case c8 => k_is)
    (case k8 => k_is)
    (case a9 => k_is)
    (case l9 => k_is)
    (case c9 => k_is)
    (case k9 => k_is)
    (case a10 => k_is)
    (case l10 => k_is)
    (case c10 => k_is)
    (case k10 => k_is)
    (case a11 => k_is)
    (case l11 => k_is)
    (case c11 => k_is)
    (case k11 => k_is)
    (case a12 => k_is)
    (case l12 => k_is)
    (case c12 => k_is)
    (case k12 => k_is)
    (case a13 => k_is)
    (case l13 => k_is)
    (case c13 => k_is)
    (case k13 => k_is)
    (case a14 => k_is)
    (case l14 => k_is)
    (case c14 => k_is)
    (case k14 => k_is)
    (case a15 => k_is)
    (case l15 => k_is)
    (case c15 => k_is)
    (case k15 => k_is)
    (case a16 => k_is)
    (case l16 => k_is)
    (case c16 => k_is)
    (case k16 => k_is)
    (case a17 => k_is)
    (case l17 => k_is)
    (case c17 => k_is)
    (case k17 => k_is)
    (case a18 => k_is)
    (case l18 => k_is)
    (case c18 => k_is)
    (case k18 => k_is)
    (case a19 => k_is)
    (case l19 => k_is)
    (case c19 => k_is)
    (case k19 => k_is)
    (case a20 => k_is)
    (case l20 => k_is)
    (case c20 => k_is)
    (case k20 => k_is)
    (case a21 => k_is)
    (case l21 => k_is)
    (case c21 => k_is)
    (case k21 => k_is)
    (case a22 => k_is)
    (case l22 => k_is)
    (case c22 => k_is)
    (case k22 => k_is)
    (case a23 => k_is)
    (case l23 => k_is)
    (case c23 => k_is)
    (case k23 => k_is)
    (case a24 => k_is)
    (case l24 => k_is)
    (case c24 => k_is)
    (case k24 => k_is)
    (case a25 => k_is)
    (case l25 => k_is)
    (case c25 => k_is)
    (case k25 => k_is)
    (case a26 => k_is)
    (case l26 => k_is)
    (case c26 => k_is)
    (case k26 => k_is)
    (case a27 => k_is)
    (case l27 => k_is)
    (case c27 => k_is)
    (case k27 => k_is)
    (case a28 => k_is)
    (case l28 => k_is)
    (case c28 => k_is)
    (case k28 => k_is)
    (case a29 => k_is)
    (case l29 => k_is)
    (case c29 => k_is)
    (case k29 => k_is)
    (case a30 => k_is)
    (case l30 => k_is)
    (case c30 => k_is)
    (case k30 => k_is)
    (case a31 => k_is)
    (case l31 => k_is)
    (case c31 => k_is)
    (case k31 => k_is)
    (case a32 => k_is)
    (case l32 => k_is)
    (case c32 => k_is)
    (case k32 => k_is)
    (case a33 => k_is)
    (case l33 => k_is)
    (case c33 => k_is)
    (case k33 => k_is)
    (case a34 => k_is)
    (case l34 => k_is)
    (case c34 => k_is)
    (case k34 => k_is)
    (case a35 => k_is)
    (case l35 => k_is)
    (case c35 => k_is)
    (case k35 => k_is)
    (case a36 => k_is)
    (case l36 => k_is)
    (case c36 => k_is)
    (case k36 => k_is)
    (case a37 => k_is)
    (case l37 => k_is)
    (case c37 => k_is)
    (case k37 => k_is)
    (case a38 => k_is)
    (case l38 => k_is)
    (case c38 => k_is)
    (case k38 => k_is)
