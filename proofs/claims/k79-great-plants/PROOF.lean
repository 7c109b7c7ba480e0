import PyProof.Rows.All
import Wide.All
import OpenK.AllK
import Wide.FinOn
import HandS.ForMost
import HandS.DictComp
import HandS.Strs
import HandS.SetTxt0
import HandS.SetKeys
import HandS.IsInst
import HandS.Sort
import KE.SortData
import HandS.SetFor
import HandS.Evl
import HandS.Walk
import HandS.Codes
import HandS.Property
import HandS.More
import HandS.Style
import HandS.Wide
import PySem.Challenge.RW_metersure_k79_whole_great_plants_and_pap
set_option Elab.async false
set_option linter.all false
set_option linter.all false
namespace MM
/-! ### sums -/
def sm {β : Type} (ls : List β) (f : β → Int) : Int := (ls.map f).sum
section
variable {β : Type}
theorem sm_nil (f : β → Int) : sm [] f = 0 := rfl
theorem sm_cons (b : β) (ls : List β) (f : β → Int) : sm (b :: ls) f = f b + sm ls f := by
  unfold sm; rw [List.map_cons, List.sum_cons]
theorem sm_append (l1 l2 : List β) (f : β → Int) : sm (l1 ++ l2) f = sm l1 f + sm l2 f := by
  unfold sm; rw [List.map_append, List.sum_append]
theorem sm_congr : ∀ {ls : List β} {f g : β → Int}, (∀ l ∈ ls, f l = g l) → sm ls f = sm ls g
  | [], _, _, _ => rfl
  | b :: r, f, g, h => by
    rw [sm_cons, sm_cons, h b (List.mem_cons_self), sm_congr (fun l hl => h l (List.mem_cons_of_mem _ hl))]
theorem sm_le : ∀ {ls : List β} {f g : β → Int}, (∀ l ∈ ls, f l ≤ g l) → sm ls f ≤ sm ls g
  | [], _, _, _ => Int.le_refl _
  | b :: r, f, g, h => by
    rw [sm_cons, sm_cons]
    have h1 := h b List.mem_cons_self
    have h2 := sm_le (ls := r) (fun l hl => h l (List.mem_cons_of_mem _ hl))
    omega
theorem sm_eq_of_le : ∀ {ls : List β} {f g : β → Int}, (∀ l ∈ ls, f l ≤ g l) → sm ls g ≤ sm ls f → ∀ l ∈ ls, f l = g l
  | [], _, _, _, _, _, hl => by cases hl
  | b :: r, f, g, h, e, l, hl => by
    rw [sm_cons, sm_cons] at e
    have h1 := h b List.mem_cons_self
    have h2 := sm_le (ls := r) (fun l hl => h l (List.mem_cons_of_mem _ hl))
    rcases List.mem_cons.mp hl with q | q
    · subst q; omega
    · exact sm_eq_of_le (fun l hl => h l (List.mem_cons_of_mem _ hl)) (by omega) l q
theorem sm_add : ∀ (ls : List β) (f g : β → Int), sm ls (fun l => f l + g l) = sm ls f + sm ls g
  | [], _, _ => rfl
  | b :: r, f, g => by rw [sm_cons, sm_cons, sm_cons, sm_add r]; omega
theorem sm_sub : ∀ (ls : List β) (f g : β → Int), sm ls (fun l => f l - g l) = sm ls f - sm ls g
  | [], _, _ => rfl
  | b :: r, f, g => by rw [sm_cons, sm_cons, sm_cons, sm_sub r]; omega
theorem sm_neg : ∀ (ls : List β) (f : β → Int), sm ls (fun l => - f l) = - sm ls f
  | [], _ => rfl
  | b :: r, f => by rw [sm_cons, sm_cons, sm_neg r]; omega
theorem sm_zero : ∀ (ls : List β), sm ls (fun _ => 0) = 0
  | [] => rfl
  | b :: r => by rw [sm_cons, sm_zero r]; omega
theorem sm_nonneg {ls : List β} {f : β → Int} (h : ∀ l ∈ ls, 0 ≤ f l) : 0 ≤ sm ls f := by
  have q := sm_le (ls := ls) (f := fun _ => 0) (g := f) h
  rw [sm_zero] at q; exact q
theorem sm_perm {l1 l2 : List β} (p : l1.Perm l2) (f : β → Int) : sm l1 f = sm l2 f := by
  induction p with
  | nil => rfl
  | cons x _ ih => rw [sm_cons, sm_cons, ih]
  | swap x y l => simp only [sm_cons]; omega
  | trans _ _ ih1 ih2 => rw [ih1, ih2]
theorem sm_filter : ∀ (ls : List β) (p : β → Bool) (f : β → Int), sm (ls.filter p) f = sm ls (fun l => if p l = true then f l else 0)
  | [], _, _ => rfl
  | b :: r, p, f => by
    by_cases h : p b = true
    · rw [List.filter_cons, if_pos h, sm_cons, sm_cons, if_pos h, sm_filter r]
    · rw [List.filter_cons, if_neg h, sm_cons, if_neg h, sm_filter r]; omega
theorem sm_map {γ : Type} (ls : List γ) (k : γ → β) (f : β → Int) : sm (ls.map k) f = sm ls (fun l => f (k l)) := by
  unfold sm; rw [List.map_map]; rfl
theorem le_sm {ls : List β} {f : β → Int} (h : ∀ l ∈ ls, 0 ≤ f l) : ∀ l ∈ ls, f l ≤ sm ls f := by
  induction ls with
  | nil => intro l hl; cases hl
  | cons b r ih =>
    intro l hl
    rw [sm_cons]
    have h0 := sm_nonneg (ls := r) (f := f) fun l hl => h l (List.mem_cons_of_mem _ hl)
    have hb := h b List.mem_cons_self
    rcases List.mem_cons.mp hl with q | q
    · subst q; omega
    · have := ih (fun l hl => h l (List.mem_cons_of_mem _ hl)) l q; omega
/-- one summand differs -/
theorem sm_one {ls : List β} {f g : β → Int} {x : Int} {key : β → Bool} : (∀ l ∈ ls, key l = false → g l = f l) → (∀ l ∈ ls, key l = true → g l = f l + x) → (ls.filter key).length = 1 → sm ls g = sm ls f + x := by
  induction ls with
  | nil => intro _ _ h; simp at h
  | cons b r ih =>
    intro h1 h2 h3
    rw [sm_cons, sm_cons]
    cases hb : key b with
    | false =>
      rw [List.filter_cons, if_neg (by simp [hb])] at h3
      have e := ih (fun l hl => h1 l (List.mem_cons_of_mem _ hl)) (fun l hl => h2 l (List.mem_cons_of_mem _ hl)) h3
      rw [e, h1 b List.mem_cons_self hb]; omega
    | true =>
      rw [List.filter_cons, if_pos hb, List.length_cons] at h3
      have h0 : r.filter key = [] := List.eq_nil_of_length_eq_zero (by omega)
      have e : sm r g = sm r f := sm_congr fun l hl => h1 l (List.mem_cons_of_mem _ hl) (by
        have := List.filter_eq_nil_iff.mp h0 l hl
        simpa using this)
      rw [e, h2 b List.mem_cons_self hb]; omega
end

variable {α : Type} [DecidableEq α]
structure Ln (α : Type) where
  n : α
  t : α
  h : α
structure Arc (α : Type) where
  a : α
  b : α
  n : α
  s : Int
  r : Int

/-! ### what comes to a knot less what goes from it, and lots -/
def net (ls : List (Ln α)) (F : α → Int) (v : α) : Int := sm ls fun l => (if l.h = v then F l.n else 0) - (if l.t = v then F l.n else 0)
/-- what leaves a lot less what comes into it -/
def flux (ls : List (Ln α)) (F : α → Int) (B : α → Bool) : Int := sm ls fun l => (if B l.t = true ∧ B l.h = false then F l.n else 0) - (if B l.h = true ∧ B l.t = false then F l.n else 0)
def lack (ls : List (Ln α)) (lo hi : α → Int) (B : α → Bool) : Int := sm ls fun l => (if B l.t = true ∧ B l.h = false then lo l.n else 0) - (if B l.h = true ∧ B l.t = false then hi l.n else 0)
def missing (ks : List α) (ls : List (Ln α)) (F : α → Int) : Int := sm ks fun v => max 0 (- net ls F v)

theorem sm_single {ks : List α} (hn : ks.Nodup) {h : α} (hm : h ∈ ks) (B : α → Bool) (x : Int) : sm ks (fun v => if B v = true then (if h = v then x else 0) else 0) = if B h = true then x else 0 := by
  induction ks with
  | nil => cases hm
  | cons k r ih =>
    rw [sm_cons]
    obtain ⟨h1, h2⟩ := List.nodup_cons.mp hn
    rcases List.mem_cons.mp hm with e | e
    · subst e
      have z : sm r (fun v => if B v = true then (if h = v then x else 0) else 0) = 0 := by
        refine Eq.trans (sm_congr (g := fun _ => 0) fun l hl => ?_) (sm_zero r)
        have : h ≠ l := fun q => h1 (q ▸ hl)
        simp [this]
      rw [z]; simp
    · have : h ≠ k := fun q => h1 (q ▸ e)
      rw [ih h2 e]; simp [this]
theorem div_thm {ks : List α} (hn : ks.Nodup) {ls : List (Ln α)} (he : ∀ l ∈ ls, l.t ∈ ks ∧ l.h ∈ ks) (F : α → Int) (B : α → Bool) :
    sm ks (fun v => if B v = true then - net ls F v else 0) = flux ls F B := by
  induction ls with
  | nil =>
    refine Eq.trans (sm_congr (g := fun _ => 0) fun l _ => ?_) (sm_zero ks)
    show (if B l = true then - (0 : Int) else 0) = 0
    split <;> rfl
  | cons l r ih =>
    have ih := ih fun m hm => he m (List.mem_cons_of_mem _ hm)
    obtain ⟨ht, hh⟩ := he l List.mem_cons_self
    unfold flux at ih ⊢
    rw [sm_cons, ← ih]
    have e1 := sm_single hn hh B (F l.n)
    have e2 := sm_single hn ht B (F l.n)
    have e : sm ks (fun v => if B v = true then - net (l :: r) F v else 0) = sm ks (fun v => (if B v = true then (if l.t = v then F l.n else 0) else 0) - (if B v = true then (if l.h = v then F l.n else 0) else 0)) + sm ks (fun v => if B v = true then - net r F v else 0) := by
      rw [← sm_add]
      refine sm_congr fun v _ => ?_
      have q : net (l :: r) F v = ((if l.h = v then F l.n else 0) - (if l.t = v then F l.n else 0)) + net r F v := sm_cons _ _ _
      rw [q]
      by_cases hb : B v = true
      · simp only [hb, if_true]; omega
      · simp only [hb]; simp
    rw [e, sm_sub, e1, e2]
    cases B l.t <;> cases B l.h <;> simp <;> omega
theorem flux_eq {ks : List α} (hn : ks.Nodup) {ls : List (Ln α)} (he : ∀ l ∈ ls, l.t ∈ ks ∧ l.h ∈ ks) (F : α → Int) (B : α → Bool) :
    flux ls F B = - sm ks (fun v => if B v = true then net ls F v else 0) := by
  rw [← div_thm hn he, ← sm_neg]
  exact sm_congr fun v _ => by split <;> simp
theorem net_sum {ks : List α} (hn : ks.Nodup) {ls : List (Ln α)} (he : ∀ l ∈ ls, l.t ∈ ks ∧ l.h ∈ ks) (F : α → Int) : sm ks (net ls F) = 0 := by
  have h := flux_eq hn he F fun _ => true
  have z : flux ls F (fun _ => true) = 0 := by
    unfold flux; rw [← sm_zero ls]; exact sm_congr fun l _ => by simp
  rw [z] at h
  have e : sm ks (fun v => if (fun _ => true) v = true then net ls F v else 0) = sm ks (net ls F) := sm_congr fun v _ => by simp
  rw [e] at h; omega
def Tight (ls : List (Ln α)) (lo hi F : α → Int) (B : α → Bool) : Prop := ∀ l ∈ ls, (B l.t = true → B l.h = false → F l.n = lo l.n) ∧ (B l.h = true → B l.t = false → F l.n = hi l.n)
def Within (ls : List (Ln α)) (lo hi F : α → Int) : Prop := ∀ l ∈ ls, lo l.n ≤ F l.n ∧ F l.n ≤ hi l.n
theorem tight_lack {ls : List (Ln α)} {lo hi F : α → Int} {B : α → Bool} (h : Tight ls lo hi F B) : lack ls lo hi B = flux ls F B := by
  refine sm_congr fun l hl => ?_
  obtain ⟨h1, h2⟩ := h l hl
  cases e1 : B l.t <;> cases e2 : B l.h <;> simp [e1, e2] at h1 h2 ⊢ <;> omega
theorem lack_le_flux {ls : List (Ln α)} {lo hi F : α → Int} (w : Within ls lo hi F) (B : α → Bool) : lack ls lo hi B ≤ flux ls F B := by
  refine sm_le fun l hl => ?_
  obtain ⟨h1, h2⟩ := w l hl
  cases e1 : B l.t <;> cases e2 : B l.h <;> simp <;> omega
theorem tight_of_eq {ls : List (Ln α)} {lo hi F : α → Int} (w : Within ls lo hi F) {B : α → Bool} (e : flux ls F B ≤ lack ls lo hi B) : Tight ls lo hi F B := by
  have q := sm_eq_of_le (ls := ls) (f := fun l => (if B l.t = true ∧ B l.h = false then lo l.n else 0) - (if B l.h = true ∧ B l.t = false then hi l.n else 0))
    (g := fun l => (if B l.t = true ∧ B l.h = false then F l.n else 0) - (if B l.h = true ∧ B l.t = false then F l.n else 0)) (fun l hl => by
      obtain ⟨h1, h2⟩ := w l hl
      cases e1 : B l.t <;> cases e2 : B l.h <;> simp <;> omega) e
  intro l hl
  have := q l hl
  cases e1 : B l.t <;> cases e2 : B l.h <;> simp [e1, e2] at this ⊢ <;> omega
theorem lack_congr {ls : List (Ln α)} {lo hi lo' hi' : α → Int} {B B' : α → Bool} (h : ∀ l ∈ ls, B l.t = B' l.t ∧ B l.h = B' l.h ∧ lo l.n = lo' l.n ∧ hi l.n = hi' l.n) : lack ls lo hi B = lack ls lo' hi' B' :=
  sm_congr fun l hl => by obtain ⟨h1, h2, h3, h4⟩ := h l hl; rw [h1, h2, h3, h4]
theorem net_congr {ls : List (Ln α)} {F F' : α → Int} (h : ∀ l ∈ ls, F l.n = F' l.n) (v : α) : net ls F v = net ls F' v :=
  sm_congr fun l hl => by rw [h l hl]

/-! ### what is missing -/
theorem flux_le_missing {ks : List α} (hn : ks.Nodup) {ls : List (Ln α)} (he : ∀ l ∈ ls, l.t ∈ ks ∧ l.h ∈ ks) (F : α → Int) (B : α → Bool) : flux ls F B ≤ missing ks ls F := by
  rw [← div_thm hn he]
  exact sm_le fun v _ => by split <;> omega
theorem missing_le_flux {ks : List α} (hn : ks.Nodup) {ls : List (Ln α)} (he : ∀ l ∈ ls, l.t ∈ ks ∧ l.h ∈ ks) (F : α → Int) (B : α → Bool)
    (h : missing ks ls F ≤ flux ls F B) : ∀ v ∈ ks, (net ls F v < 0 → B v = true) ∧ (0 < net ls F v → B v = false) := by
  rw [← div_thm hn he] at h
  have q := sm_eq_of_le (ls := ks) (f := fun v => if B v = true then - net ls F v else 0) (g := fun v => max 0 (- net ls F v)) (fun v _ => by split <;> omega) h
  intro v hv
  have := q v hv
  cases e : B v <;> simp [e] at this ⊢ <;> omega
theorem flux_is_missing {ks : List α} (hn : ks.Nodup) {ls : List (Ln α)} (he : ∀ l ∈ ls, l.t ∈ ks ∧ l.h ∈ ks) (F : α → Int) (B : α → Bool)
    (h : ∀ v ∈ ks, (net ls F v < 0 → B v = true) ∧ (0 < net ls F v → B v = false)) : flux ls F B = missing ks ls F := by
  rw [← div_thm hn he]
  refine sm_congr fun v hv => ?_
  obtain ⟨h1, h2⟩ := h v hv
  cases e : B v <;> simp [e] at h1 h2 ⊢ <;> omega
theorem missing_nonneg (ks : List α) (ls : List (Ln α)) (F : α → Int) : 0 ≤ missing ks ls F := sm_nonneg fun v _ => by omega
theorem missing_zero {ks : List α} (hn : ks.Nodup) {ls : List (Ln α)} (he : ∀ l ∈ ls, l.t ∈ ks ∧ l.h ∈ ks) {F : α → Int} (h : missing ks ls F = 0) : ∀ v ∈ ks, net ls F v = 0 := by
  have h0 : ∀ v ∈ ks, 0 ≤ net ls F v := fun v hv => by
    have q := le_sm (ls := ks) (f := fun v => max 0 (- net ls F v)) (fun v _ => by omega) v hv
    have e : sm ks (fun v => max 0 (- net ls F v)) = 0 := h
    rw [e] at q
    omega
  have hs := net_sum hn he F
  intro v hv
  have q := le_sm (ls := ks) (f := net ls F) h0 v hv
  have := h0 v hv
  omega

/-! ### where something can be pushed -/
/-- a step of the rest: along a line with room, or back -/
def Rs (ls : List (Ln α)) (lo hi F : α → Int) (a b : α) : Prop := ∃ l ∈ ls, (a = l.t ∧ b = l.h ∧ F l.n < hi l.n) ∨ (a = l.h ∧ b = l.t ∧ lo l.n < F l.n)
/-- nothing can be pushed into B from outside -/
def ClIn (ls : List (Ln α)) (lo hi F : α → Int) (B : α → Prop) : Prop := ∀ a b, Rs ls lo hi F a b → B b → B a
def ClOut (ls : List (Ln α)) (lo hi F : α → Int) (B : α → Prop) : Prop := ∀ a b, Rs ls lo hi F a b → B a → B b
theorem tight_in {ls : List (Ln α)} {lo hi F : α → Int} (w : Within ls lo hi F) {B : α → Bool} (h : ClIn (ls.filter fun l => decide (l.t ≠ l.h)) lo hi F (fun v => B v = true)) : Tight ls lo hi F B := by
  intro l hl
  obtain ⟨w1, w2⟩ := w l hl
  have ne : B l.t ≠ B l.h → l ∈ ls.filter fun l => decide (l.t ≠ l.h) := fun q => List.mem_filter.mpr ⟨hl, decide_eq_true fun e => q (by rw [e])⟩
  refine ⟨fun e1 e2 => ?_, fun e1 e2 => ?_⟩
  · by_cases c : lo l.n < F l.n
    · have q : B l.h = true := h l.h l.t ⟨l, ne (by rw [e1, e2]; decide), .inr ⟨rfl, rfl, c⟩⟩ e1
      rw [e2] at q; cases q
    · omega
  · by_cases c : F l.n < hi l.n
    · have q : B l.t = true := h l.t l.h ⟨l, ne (by rw [e1, e2]; decide), .inl ⟨rfl, rfl, c⟩⟩ e1
      rw [e2] at q; cases q
    · omega
theorem tight_out {ls : List (Ln α)} {lo hi F : α → Int} (w : Within ls lo hi F) {B : α → Bool} (h : ClOut (ls.filter fun l => decide (l.t ≠ l.h)) lo hi F (fun v => B v = false)) : Tight ls lo hi F B := by
  refine tight_in w fun a b r hb => ?_
  cases e : B a with
  | true => exact e
  | false =>
    have q : B b = false := h a b r e
    have hb : B b = true := hb
    rw [hb] at q; cases q
theorem in_of_tight {ls : List (Ln α)} {lo hi F : α → Int} {B : α → Bool} (t : Tight ls lo hi F B) : ClIn ls lo hi F (fun v => B v = true) := by
  rintro a b ⟨l, hl, ⟨rfl, rfl, c⟩ | ⟨rfl, rfl, c⟩⟩ hb
  · cases e : B l.t with
    | true => rfl
    | false => have := (t l hl).2 hb e; omega
  · cases e : B l.h with
    | true => rfl
    | false => have := (t l hl).1 hb e; omega

/-- what least_missing tells -/
structure LM (ks : List α) (ls : List (Ln α)) (lo hi : α → Int) (m : Int) (F : α → Int) (lst grt : List α) : Prop where
  w : Within ls lo hi F
  ms : m = missing ks ls F
  l1 : lack ls lo hi (fun v => decide (v ∈ lst)) = m
  g1 : lack ls lo hi (fun v => decide (v ∈ grt)) = m
  mx : ∀ B : α → Bool, lack ls lo hi B ≤ m
  mn : ∀ B : α → Bool, lack ls lo hi B = m → (∀ x ∈ ks, x ∈ lst → B x = true) ∧ (∀ x ∈ ks, B x = true → x ∈ grt)
  fl : lst = ks.filter (fun v => decide (v ∈ lst))
  fg : grt = ks.filter (fun v => decide (v ∈ grt))
theorem mem_filter_self {ks l : List α} (h : l = ks.filter (fun v => decide (v ∈ l))) {x : α} (hx : x ∈ l) : x ∈ ks := by
  rw [h] at hx; exact (List.mem_filter.mp hx).1
theorem hoffman {ks : List α} (hn : ks.Nodup) {ls : List (Ln α)} (he : ∀ l ∈ ls, l.t ∈ ks ∧ l.h ∈ ks) {lo hi F : α → Int} (w : Within ls lo hi F) {L S W : α → Bool} {over short : List α}
    (ho : over = ks.filter fun v => decide (0 < net ls F v)) (hs : short = ks.filter fun v => decide (net ls F v < 0))
    (W0 : ∀ v ∈ over, W v = true) (W1 : ClOut (ls.filter fun l => decide (l.t ≠ l.h)) lo hi F (fun v => W v = true)) (W2 : ∀ v ∈ short, W v = false)
    (L0 : ∀ v ∈ short, L v = true) (L1 : ClIn (ls.filter fun l => decide (l.t ≠ l.h)) lo hi F (fun v => L v = true)) (L2 : ∀ T : α → Prop, (∀ v ∈ short, T v) → ClIn (ls.filter fun l => decide (l.t ≠ l.h)) lo hi F T → ∀ v, L v = true → T v)
    (S0 : ∀ v ∈ over, S v = true) (S1 : ClOut (ls.filter fun l => decide (l.t ≠ l.h)) lo hi F (fun v => S v = true)) (S2 : ∀ T : α → Prop, (∀ v ∈ over, T v) → ClOut (ls.filter fun l => decide (l.t ≠ l.h)) lo hi F T → ∀ v, S v = true → T v) :
    LM ks ls lo hi (missing ks ls F) F (ks.filter L) (ks.filter fun v => !S v) := by
  have mo : ∀ v ∈ ks, 0 < net ls F v → v ∈ over := fun v hv q => by rw [ho]; exact List.mem_filter.mpr ⟨hv, decide_eq_true q⟩
  have msh : ∀ v ∈ ks, net ls F v < 0 → v ∈ short := fun v hv q => by rw [hs]; exact List.mem_filter.mpr ⟨hv, decide_eq_true q⟩
  have sub : ∀ a b, Rs (ls.filter fun l => decide (l.t ≠ l.h)) lo hi F a b → Rs ls lo hi F a b := fun a b ⟨l, hl, q⟩ => ⟨l, (List.mem_filter.mp hl).1, q⟩
  have LW : ∀ v, L v = true → W v = false := L2 (fun v => W v = false) W2 fun a b r hb => by
    cases e : W a with
    | false => exact e
    | true =>
      have q : W b = true := W1 a b r e
      have hb : W b = false := hb
      rw [hb] at q; cases q
  have SW : ∀ v, S v = true → W v = true := S2 (fun v => W v = true) W0 W1
  have tL : lack ls lo hi L = missing ks ls F := by
    rw [tight_lack (tight_in w L1)]
    refine flux_is_missing hn he F L fun v hv => ⟨fun q => L0 v (msh v hv q), fun q => ?_⟩
    cases e : L v with
    | false => rfl
    | true =>
      have := LW v e
      rw [W0 v (mo v hv q)] at this; cases this
  have tG : lack ls lo hi (fun v => !S v) = missing ks ls F := by
    rw [tight_lack (tight_out (B := fun v => !S v) w fun a b r q => by
      have q' : S a = true := by simpa using q
      have : S b = true := S1 a b r q'
      simp [this])]
    refine flux_is_missing hn he F _ fun v hv => ⟨fun q => ?_, fun q => by simp [S0 v (mo v hv q)]⟩
    cases e : S v with
    | false => rfl
    | true =>
      have := SW v e
      rw [W2 v (msh v hv q)] at this; cases this
  have cl : lack ls lo hi (fun v => decide (v ∈ ks.filter L)) = lack ls lo hi L := lack_congr fun l hl => by
    obtain ⟨q1, q2⟩ := he l hl
    simp [q1, q2]
  have cg : lack ls lo hi (fun v => decide (v ∈ ks.filter fun v => !S v)) = lack ls lo hi (fun v => !S v) := lack_congr fun l hl => by
    obtain ⟨q1, q2⟩ := he l hl
    simp [q1, q2]
  refine ⟨w, rfl, cl.trans tL, cg.trans tG, fun B => Int.le_trans (lack_le_flux w B) (flux_le_missing hn he F B), fun B e => ?_, ?_, ?_⟩
  · have h1 := lack_le_flux w B
    have h2 := flux_le_missing hn he F B
    have tB := tight_of_eq w (B := B) (by omega)
    have mB := missing_le_flux hn he F B (by omega)
    have cB := in_of_tight tB
    refine ⟨fun x _ hxl => ?_, fun x hx hB => List.mem_filter.mpr ⟨hx, ?_⟩⟩
    · exact L2 (fun v => B v = true) (fun v hv => by
        rw [hs] at hv
        obtain ⟨h3, h4⟩ := List.mem_filter.mp hv
        exact (mB v h3).1 (of_decide_eq_true h4)) (fun a b r => cB a b (sub a b r)) x (List.mem_filter.mp hxl).2
    · cases e2 : S x with
      | false => rfl
      | true =>
        have := S2 (fun v => B v = false) (fun v hv => by
          rw [ho] at hv
          obtain ⟨h3, h4⟩ := List.mem_filter.mp hv
          exact (mB v h3).2 (of_decide_eq_true h4)) (fun a b r ha => by
            cases eb : B b with
            | false => exact eb
            | true =>
              have q : B a = true := cB a b (sub a b r) eb
              have ha : B a = false := ha
              rw [ha] at q; cases q) x e2
        rw [hB] at this; cases this
  · refine List.filter_congr fun x hx => ?_
    simp [hx]
  · refine List.filter_congr fun x hx => ?_
    simp [hx]
/-! ### all streams turned round -/
def rev (l : Ln α) : Ln α := ⟨l.n, l.h, l.t⟩
theorem lack_rev (ls : List (Ln α)) (lo hi : α → Int) (B : α → Bool) : lack (ls.map rev) lo hi B = lack ls lo hi (fun v => !B v) := by
  unfold lack
  rw [sm_map]
  refine sm_congr fun l _ => ?_
  show (if B l.h = true ∧ B l.t = false then lo l.n else 0) - (if B l.t = true ∧ B l.h = false then hi l.n else 0) = _
  cases e1 : B l.t <;> cases e2 : B l.h <;> simp [e1, e2]
theorem turned {ks : List α} {ls : List (Ln α)} (he : ∀ l ∈ ls, l.t ∈ ks ∧ l.h ∈ ks) {lo hi : α → Int} {m m' : Int} {F F' : α → Int} {l g l' g' : List α} (A : LM ks ls lo hi m F l g) (B : LM ks (ls.map rev) lo hi m' F' l' g') :
    l' = ks.filter (fun v => decide (v ∉ g)) ∧ g' = ks.filter (fun v => decide (v ∉ l)) := by
  have ea : ∀ X : List α, lack (ls.map rev) lo hi (fun v => decide (v ∈ X)) = lack ls lo hi (fun v => decide (v ∉ X)) := fun X => by
    rw [lack_rev]
    exact lack_congr fun y _ => ⟨by simp, by simp, rfl, rfl⟩
  have eb : ∀ X : List α, lack (ls.map rev) lo hi (fun v => decide (v ∉ X)) = lack ls lo hi (fun v => decide (v ∈ X)) := fun X => by
    rw [lack_rev]
    exact lack_congr fun y _ => ⟨by simp, by simp, rfl, rfl⟩
  have hm : m = m' := by
    have h1 := A.mx (fun v => decide (v ∉ l'))
    rw [← ea, B.l1] at h1
    have h2 := B.mx (fun v => decide (v ∉ l))
    rw [eb, A.l1] at h2
    omega
  subst hm
  have p1 := A.mn (fun v => decide (v ∉ l')) (by rw [← ea, B.l1])
  have p2 := A.mn (fun v => decide (v ∉ g')) (by rw [← ea, B.g1])
  have p3 := B.mn (fun v => decide (v ∉ l)) (by rw [eb, A.l1])
  have p4 := B.mn (fun v => decide (v ∉ g)) (by rw [eb, A.g1])
  constructor
  · rw [B.fl]
    refine List.filter_congr fun x hx => ?_
    by_cases c : x ∈ l'
    · have q1 := p4.1 x hx c
      simp at q1
      simp [c, q1]
    · have q1 := p1.2 x hx (by simp [c])
      simp [c, q1]
  · rw [B.fg]
    refine List.filter_congr fun x hx => ?_
    by_cases c : x ∈ g'
    · have q : x ∉ l := fun z => by
        have := p2.1 x hx z
        simp [c] at this
      simp [c, q]
    · have q : x ∈ l := by
        by_cases z : x ∈ l
        · exact z
        · exact absurd (p3.2 x hx (by simp [z])) c
      simp [c, q]
end MM

namespace MM
variable {α : Type} [DecidableEq α]
/-! ### arcs -/
def arcs1 (lo hi F : α → Int) (l : Ln α) : List (Arc α) :=
  (if F l.n < hi l.n then [⟨l.t, l.h, l.n, 1, hi l.n - F l.n⟩] else []) ++ (if lo l.n < F l.n then [⟨l.h, l.t, l.n, -1, F l.n - lo l.n⟩] else [])
def arcsOf (ls : List (Ln α)) (lo hi F : α → Int) : List (Arc α) := ls.flatMap (arcs1 lo hi F)
theorem mem_arcs {ls : List (Ln α)} {lo hi F : α → Int} {x : Arc α} : x ∈ arcsOf ls lo hi F ↔
    ∃ l ∈ ls, (x = ⟨l.t, l.h, l.n, 1, hi l.n - F l.n⟩ ∧ F l.n < hi l.n) ∨ (x = ⟨l.h, l.t, l.n, -1, F l.n - lo l.n⟩ ∧ lo l.n < F l.n) := by
  unfold arcsOf arcs1
  rw [List.mem_flatMap]
  constructor
  · rintro ⟨l, hl, h⟩
    refine ⟨l, hl, ?_⟩
    rcases List.mem_append.mp h with h | h
    · split at h
      · exact .inl ⟨List.mem_singleton.mp h, by assumption⟩
      · cases h
    · split at h
      · exact .inr ⟨List.mem_singleton.mp h, by assumption⟩
      · cases h
  · rintro ⟨l, hl, ⟨rfl, c⟩ | ⟨rfl, c⟩⟩
    · exact ⟨l, hl, List.mem_append_left _ (by rw [if_pos c]; exact List.mem_singleton.mpr rfl)⟩
    · exact ⟨l, hl, List.mem_append_right _ (by rw [if_pos c]; exact List.mem_singleton.mpr rfl)⟩
theorem rs_iff {ls : List (Ln α)} {lo hi F : α → Int} {a b : α} : Rs ls lo hi F a b ↔ ∃ x ∈ arcsOf ls lo hi F, x.a = a ∧ x.b = b := by
  constructor
  · rintro ⟨l, hl, ⟨rfl, rfl, c⟩ | ⟨rfl, rfl, c⟩⟩
    · exact ⟨_, mem_arcs.mpr ⟨l, hl, .inl ⟨rfl, c⟩⟩, rfl, rfl⟩
    · exact ⟨_, mem_arcs.mpr ⟨l, hl, .inr ⟨rfl, c⟩⟩, rfl, rfl⟩
  · rintro ⟨x, hx, rfl, rfl⟩
    obtain ⟨l, hl, ⟨rfl, c⟩ | ⟨rfl, c⟩⟩ := mem_arcs.mp hx
    · exact ⟨l, hl, .inl ⟨rfl, rfl, c⟩⟩
    · exact ⟨l, hl, .inr ⟨rfl, rfl, c⟩⟩
theorem arcs_len {ls : List (Ln α)} {lo hi F : α → Int} : (arcsOf ls lo hi F).length ≤ 2 * ls.length := by
  induction ls with
  | nil => simp [arcsOf]
  | cons l r ih =>
    have e : arcsOf (l :: r) lo hi F = arcs1 lo hi F l ++ arcsOf r lo hi F := rfl
    rw [e, List.length_append, List.length_cons]
    have : (arcs1 lo hi F l).length ≤ 2 := by
      unfold arcs1; rw [List.length_append]
      split <;> split <;> simp
    omega

/-! ### ways -/
/-- the way w, over the places vs, leads from one of S to p, as par tells -/
inductive Pth (A : List (Arc α)) (S : List α) (par : α → Option (Arc α)) : α → List (Arc α) → List α → Prop
  | start {p : α} : p ∈ S → par p = none → Pth A S par p [] [p]
  | step {q : α} {w : List (Arc α)} {vs : List α} {x : Arc α} : Pth A S par x.a w vs → x ∈ A → x.b = q → par q = some x → q ∉ vs → Pth A S par q (w ++ [x]) (vs ++ [q])
theorem Pth.mem {A : List (Arc α)} {S : List α} {par : α → Option (Arc α)} {p : α} {w : List (Arc α)} {vs : List α} (h : Pth A S par p w vs) : p ∈ vs := by
  cases h with
  | start => exact List.mem_singleton.mpr rfl
  | step => exact List.mem_append_right _ (List.mem_singleton.mpr rfl)
theorem Pth.arcs {A : List (Arc α)} {S : List α} {par : α → Option (Arc α)} {p : α} {w : List (Arc α)} {vs : List α} (h : Pth A S par p w vs) : ∀ x ∈ w, x ∈ A ∧ x.a ∈ vs ∧ x.b ∈ vs := by
  induction h with
  | start => intro x hx; cases hx
  | step h hx e _ _ ih =>
    intro y hy
    rcases List.mem_append.mp hy with q | q
    · obtain ⟨h1, h2, h3⟩ := ih y q
      exact ⟨h1, List.mem_append_left _ h2, List.mem_append_left _ h3⟩
    · have := List.mem_singleton.mp q
      subst this
      exact ⟨hx, List.mem_append_left _ h.mem, List.mem_append_right _ (by rw [e]; exact List.mem_singleton.mpr rfl)⟩
theorem Pth.mono {A : List (Arc α)} {S : List α} {par par' : α → Option (Arc α)} {p : α} {w : List (Arc α)} {vs : List α} (h : Pth A S par p w vs) (e : ∀ v ∈ vs, par' v = par v) : Pth A S par' p w vs := by
  induction h with
  | start h1 h2 => exact .start h1 (by rw [e _ (List.mem_singleton.mpr rfl)]; exact h2)
  | step h hx e1 e2 nv ih =>
    exact .step (ih fun v hv => e v (List.mem_append_left _ hv)) hx e1 (by rw [e _ (List.mem_append_right _ (List.mem_singleton.mpr rfl))]; exact e2) nv
theorem Pth.len {A : List (Arc α)} {S : List α} {par : α → Option (Arc α)} {p : α} {w : List (Arc α)} {vs : List α} (h : Pth A S par p w vs) : vs.length = w.length + 1 ∧ vs.Nodup := by
  induction h with
  | start => simp
  | step h _ _ _ nv ih =>
    obtain ⟨h1, h2⟩ := ih
    refine ⟨by simp [h1], List.nodup_append.mpr ⟨h2, by simp, fun a ha b hb => ?_⟩⟩
    rw [List.mem_singleton.mp hb]
    exact fun q => nv (q ▸ ha)
theorem Pth.start_mem {A : List (Arc α)} {S : List α} {par : α → Option (Arc α)} {p : α} {w : List (Arc α)} {vs : List α} (h : Pth A S par p w vs) : ∃ s ∈ S, vs.head? = some s ∧ ∀ x, w.head? = some x → x.a = s := by
  induction h with
  | start h1 _ => exact ⟨_, h1, rfl, fun x hx => by cases hx⟩
  | @step q w vs x h hx e1 e2 nv ih =>
    obtain ⟨s, hs, e, k⟩ := ih
    refine ⟨s, hs, by rw [List.head?_append, e]; rfl, fun y hy => ?_⟩
    cases hw : w with
    | nil =>
      rw [hw] at hy h
      have ey : x = y := Option.some.inj hy
      subst ey
      have : vs.length = 1 := by have := h.len.1; simpa using this
      obtain ⟨z, rfl⟩ := List.length_eq_one_iff.mp this
      have ez : z = s := Option.some.inj e
      have := h.mem
      rw [ez] at this
      exact List.mem_singleton.mp this
    | cons a r =>
      rw [hw] at hy k
      exact k y hy
theorem Pth.last {A : List (Arc α)} {S : List α} {par : α → Option (Arc α)} {p : α} {w : List (Arc α)} {vs : List α} (h : Pth A S par p w vs) : ∀ x, w.getLast? = some x → x.b = p := by
  intro x hx
  cases h with
  | start => cases hx
  | step _ _ e _ _ =>
    rw [List.getLast?_append] at hx
    have := Option.some.inj hx
    subst this
    exact e
theorem Pth.no_start {A : List (Arc α)} {S : List α} {par : α → Option (Arc α)} {p : α} {w : List (Arc α)} {vs : List α} (h : Pth A S par p w vs) (hp : p ∉ S) : w ≠ [] := by
  cases h with
  | start h1 _ => exact absurd h1 hp
  | step => simp

/-! ### the search for a way: W the places that were met, par how -/
structure Bfs (A : List (Arc α)) (S W : List α) (par : α → Option (Arc α)) : Prop where
  sub : ∀ s ∈ S, s ∈ W
  nd : W.Nodup
  pth : ∀ p ∈ W, ∃ w vs, Pth A S par p w vs ∧ ∀ v ∈ vs, v ∈ W
  from_ : ∀ p ∈ W, p ∈ S ++ A.map (·.b)
theorem Bfs.init {A : List (Arc α)} {S : List α} (h : S.Nodup) : Bfs A S S (fun _ => none) :=
  ⟨fun _ h => h, h, fun p hp => ⟨[], [p], .start hp rfl, fun v hv => by rw [List.mem_singleton.mp hv]; exact hp⟩, fun p hp => List.mem_append_left _ hp⟩
theorem Bfs.add {A : List (Arc α)} {S W : List α} {par : α → Option (Arc α)} (h : Bfs A S W par) {x : Arc α} (hx : x ∈ A) (ha : x.a ∈ W) (hb : x.b ∉ W) :
    Bfs A S (W ++ [x.b]) (fun v => if v = x.b then some x else par v) := by
  refine ⟨fun s hs => List.mem_append_left _ (h.sub s hs), ?_, fun p hp => ?_, fun p hp => ?_⟩
  · refine List.nodup_append.mpr ⟨h.nd, by simp, fun a ha b hb' => ?_⟩
    rw [List.mem_singleton.mp hb']
    exact fun q => hb (q ▸ ha)
  · have old : ∀ p ∈ W, ∃ w vs, Pth A S (fun v => if v = x.b then some x else par v) p w vs ∧ ∀ v ∈ vs, v ∈ W := fun p hp => by
      obtain ⟨w, vs, h1, h2⟩ := h.pth p hp
      refine ⟨w, vs, h1.mono fun v hv => if_neg fun (q : v = x.b) => hb (by rw [← q]; exact h2 v hv), h2⟩
    rcases List.mem_append.mp hp with q | q
    · obtain ⟨w, vs, h1, h2⟩ := old p q
      exact ⟨w, vs, h1, fun v hv => List.mem_append_left _ (h2 v hv)⟩
    · have e := List.mem_singleton.mp q
      subst e
      obtain ⟨w, vs, h1, h2⟩ := old x.a ha
      refine ⟨w ++ [x], vs ++ [x.b], .step h1 hx rfl (if_pos rfl) fun z => hb (h2 _ z), fun v hv => ?_⟩
      rcases List.mem_append.mp hv with z | z
      · exact List.mem_append_left _ (h2 v z)
      · exact List.mem_append_right _ z
  · rcases List.mem_append.mp hp with q | q
    · exact h.from_ p q
    · rw [List.mem_singleton.mp q]
      exact List.mem_append_right _ (List.mem_map.mpr ⟨x, hx, rfl⟩)
theorem nodup_len {W U : List α} (h : W.Nodup) (s : ∀ p ∈ W, p ∈ U) : W.length ≤ U.length := by
  induction W generalizing U with
  | nil => exact Nat.zero_le _
  | cons a r ih =>
    obtain ⟨h1, h2⟩ := List.nodup_cons.mp h
    have hm := s a List.mem_cons_self
    have q := ih (U := U.erase a) h2 fun p hp => (List.mem_erase_of_ne (fun (e : p = a) => h1 (by rw [← e]; exact hp))).mpr (s p (List.mem_cons_of_mem _ hp))
    rw [List.length_erase_of_mem hm] at q
    have : 0 < U.length := List.length_pos_of_mem hm
    rw [List.length_cons]
    omega
theorem Bfs.len {A : List (Arc α)} {S W : List α} {par : α → Option (Arc α)} (h : Bfs A S W par) : W.length ≤ S.length + A.length := by
  have := nodup_len h.nd h.from_
  rw [List.length_append, List.length_map] at this
  exact this

/-! ### what can be come to -/
/-- W holds just what can be come to from S along the pairs -/
structure Come (P : List (α × α)) (S W : List α) : Prop where
  sub : ∀ s ∈ S, s ∈ W
  nd : W.Nodup
  least : ∀ T : α → Prop, (∀ s ∈ S, T s) → (∀ p ∈ P, T p.1 → T p.2) → ∀ v ∈ W, T v
theorem Come.init {P : List (α × α)} {S : List α} (h : S.Nodup) : Come P S S := ⟨fun _ h => h, h, fun T h0 _ v hv => h0 v hv⟩
theorem Come.add {P : List (α × α)} {S W : List α} (h : Come P S W) {p : α × α} (hp : p ∈ P) (ha : p.1 ∈ W) (hb : p.2 ∉ W) : Come P S (W ++ [p.2]) := by
  refine ⟨fun s hs => List.mem_append_left _ (h.sub s hs), ?_, fun T h0 h1 v hv => ?_⟩
  · refine List.nodup_append.mpr ⟨h.nd, by simp, fun a ha b hb' => ?_⟩
    rw [List.mem_singleton.mp hb']
    exact fun q => hb (q ▸ ha)
  · rcases List.mem_append.mp hv with q | q
    · exact h.least T h0 h1 v q
    · rw [List.mem_singleton.mp q]
      exact h1 p hp (h.least T h0 h1 p.1 ha)
theorem Come.len {P : List (α × α)} {S W : List α} (h : Come P S W) : W.length ≤ S.length + P.length := by
  have := nodup_len (U := S ++ P.map (·.2)) h.nd fun p hp => h.least (fun v => v ∈ S ++ P.map (·.2)) (fun s hs => List.mem_append_left _ hs) (fun q hq _ => List.mem_append_right _ (List.mem_map.mpr ⟨q, hq, rfl⟩)) p hp
  rw [List.length_append, List.length_map] at this
  exact this

/-! ### pushing -/
def setF (F : α → Int) (n : α) (x : Int) : α → Int := fun m => if m = n then x else F m
def push1 (x : Int) (F : α → Int) (a : Arc α) : α → Int := setF F a.n (F a.n + a.s * x)
def pushW (w : List (Arc α)) (x : Int) (F : α → Int) : α → Int := w.foldl (push1 x) F
theorem key_one {ls : List (Ln α)} (hn : (ls.map (·.n)).Nodup) {l : Ln α} (hl : l ∈ ls) : (ls.filter fun y => decide (y.n = l.n)).length = 1 := by
  induction ls with
  | nil => cases hl
  | cons b r ih =>
    rw [List.map_cons] at hn
    obtain ⟨h1, h2⟩ := List.nodup_cons.mp hn
    rcases List.mem_cons.mp hl with e | e
    · subst e
      have z : r.filter (fun y => decide (y.n = l.n)) = [] := List.filter_eq_nil_iff.mpr fun y hy q => h1 (by
        rw [← of_decide_eq_true q]; exact List.mem_map.mpr ⟨y, hy, rfl⟩)
      rw [List.filter_cons, if_pos (by simp), z]; rfl
    · have ne : b.n ≠ l.n := fun q => h1 (by rw [q]; exact List.mem_map.mpr ⟨l, e, rfl⟩)
      rw [List.filter_cons, if_neg (by simp [ne])]
      exact ih h2 e
theorem same_line {ls : List (Ln α)} (hn : (ls.map (·.n)).Nodup) {l l' : Ln α} (hl : l ∈ ls) (hl' : l' ∈ ls) (e : l.n = l'.n) : l = l' := by
  induction ls with
  | nil => cases hl
  | cons b r ih =>
    rw [List.map_cons] at hn
    obtain ⟨h1, h2⟩ := List.nodup_cons.mp hn
    rcases List.mem_cons.mp hl with q | q <;> rcases List.mem_cons.mp hl' with q' | q'
    · rw [q, q']
    · exact absurd (List.mem_map.mpr ⟨l', q', by rw [← e, q]⟩) h1
    · exact absurd (List.mem_map.mpr ⟨l, q, by rw [e, q']⟩) h1
    · exact ih h2 q q'
/-- one line's flow changes -/
theorem net_set {ls : List (Ln α)} (hn : (ls.map (·.n)).Nodup) {l : Ln α} (hl : l ∈ ls) (F : α → Int) (x : Int) (v : α) :
    net ls (setF F l.n (F l.n + x)) v = net ls F v + ((if l.h = v then x else 0) - (if l.t = v then x else 0)) := by
  refine sm_one (key := fun y => decide (y.n = l.n)) (fun y _ hk => ?_) (fun y hy hk => ?_) (key_one hn hl)
  · have : y.n ≠ l.n := of_decide_eq_false hk
    simp [setF, this]
  · have e := same_line hn hy hl (of_decide_eq_true hk)
    subst e
    simp only [setF, if_true]
    split <;> split <;> omega
theorem arc_net {ss ls : List (Ln α)} (hn : (ss.map (·.n)).Nodup) (hs : ∀ l ∈ ls, l ∈ ss) {lo hi F0 F : α → Int} {a : Arc α} (ha : a ∈ arcsOf ls lo hi F0) (x : Int) (v : α) :
    net ss (push1 x F a) v = net ss F v + ((if a.b = v then x else 0) - (if a.a = v then x else 0)) := by
  obtain ⟨l, hl, ⟨rfl, c⟩ | ⟨rfl, c⟩⟩ := mem_arcs.mp ha
  · have := net_set hn (hs l hl) F (1 * x) v
    show net ss (setF F l.n (F l.n + 1 * x)) v = _
    rw [this]; simp only [Int.one_mul]
  · have := net_set hn (hs l hl) F (-1 * x) v
    show net ss (setF F l.n (F l.n + -1 * x)) v = _
    rw [this]
    show _ + ((if l.h = v then -1 * x else 0) - (if l.t = v then -1 * x else 0)) = _ + ((if l.t = v then x else 0) - (if l.h = v then x else 0))
    split <;> split <;> omega
/-- the whole way: each line at most once -/
theorem push_way {ss ls : List (Ln α)} (hn : (ss.map (·.n)).Nodup) (hs : ∀ l ∈ ls, l ∈ ss) {lo hi F : α → Int} {S : List α} {par : α → Option (Arc α)} {p : α} {w : List (Arc α)} {vs : List α}
    (h : Pth (arcsOf ls lo hi F) S par p w vs) (x : Int) :
    (∀ n, (pushW w x F n = F n ∧ ∀ a ∈ w, a.n ≠ n) ∨ ∃ a ∈ w, a.n = n ∧ pushW w x F n = F n + a.s * x) ∧
    ∀ s, vs.head? = some s → ∀ v, net ss (pushW w x F) v = net ss F v + ((if p = v then x else 0) - (if s = v then x else 0)) := by
  induction h with
  | @start p h1 _ =>
    refine ⟨fun n => .inl ⟨rfl, fun a ha => by cases ha⟩, fun s e v => ?_⟩
    have e : p = s := Option.some.inj e
    subst e
    show net ss F v = _
    split <;> omega
  | @step q w vs a hp ha e1 e2 nv ih =>
    obtain ⟨i1, i2⟩ := ih
    have ef : pushW (w ++ [a]) x F = push1 x (pushW w x F) a := by
      unfold pushW; rw [List.foldl_append]; rfl
    have fresh : ∀ b ∈ w, b.n ≠ a.n := fun b hb e => by
      obtain ⟨h1, h2, h3⟩ := hp.arcs b hb
      have key : a.b = b.a ∨ a.b = b.b := by
        obtain ⟨l, hl, q1⟩ := mem_arcs.mp h1
        obtain ⟨l', hl', q2⟩ := mem_arcs.mp ha
        have el : l = l' := same_line hn (hs l hl) (hs l' hl') (by
          rcases q1 with ⟨rfl, _⟩ | ⟨rfl, _⟩ <;> rcases q2 with ⟨rfl, _⟩ | ⟨rfl, _⟩ <;> exact e)
        subst el
        rcases q1 with ⟨rfl, _⟩ | ⟨rfl, _⟩ <;> rcases q2 with ⟨rfl, _⟩ | ⟨rfl, _⟩ <;> simp
      rcases key with z | z
      · exact nv (by rw [← e1, z]; exact h2)
      · exact nv (by rw [← e1, z]; exact h3)
    have keep : pushW w x F a.n = F a.n := by
      rcases i1 a.n with ⟨z, _⟩ | ⟨b, hb, z, _⟩
      · exact z
      · exact absurd z (fresh b hb)
    refine ⟨fun n => ?_, fun s es v => ?_⟩
    · rw [ef]
      by_cases c : n = a.n
      · subst c
        refine .inr ⟨a, List.mem_append_right _ (List.mem_singleton.mpr rfl), rfl, ?_⟩
        show setF (pushW w x F) a.n (pushW w x F a.n + a.s * x) a.n = _
        simp [setF, keep]
      · have z : push1 x (pushW w x F) a n = pushW w x F n := by
          show setF (pushW w x F) a.n (pushW w x F a.n + a.s * x) n = _
          simp [setF, c]
        rw [z]
        rcases i1 n with ⟨k1, k2⟩ | ⟨b, hb, k1, k2⟩
        · refine .inl ⟨k1, fun b hb => ?_⟩
          rcases List.mem_append.mp hb with y | y
          · exact k2 b y
          · rw [List.mem_singleton.mp y]; exact fun e => c e.symm
        · exact .inr ⟨b, List.mem_append_left _ hb, k1, k2⟩
    · have es' : vs.head? = some s := by
        cases vs with
        | nil => have := hp.mem; cases this
        | cons y r => exact es
      rw [ef, arc_net hn hs ha x v, i2 s es' v, e1]
      split <;> split <;> split <;> omega
theorem push_within {ss ls : List (Ln α)} (hn : (ss.map (·.n)).Nodup) (hs : ∀ l ∈ ls, l ∈ ss) {lo hi F : α → Int} {S : List α} {par : α → Option (Arc α)} {p : α} {w : List (Arc α)} {vs : List α}
    (h : Pth (arcsOf ls lo hi F) S par p w vs) {x : Int} (hx : 0 ≤ x) (hr : ∀ a ∈ w, x ≤ a.r) (wi : Within ls lo hi F) : Within ls lo hi (pushW w x F) := by
  intro l hl
  obtain ⟨w1, w2⟩ := wi l hl
  rcases (push_way hn hs h x).1 l.n with ⟨e, _⟩ | ⟨a, ha, e, q⟩
  · rw [e]; exact ⟨w1, w2⟩
  · rw [q]
    have r := hr a ha
    obtain ⟨l', hl', c⟩ := mem_arcs.mp (h.arcs a ha).1
    rcases c with ⟨rfl, c⟩ | ⟨rfl, c⟩
    · have el := same_line hn (hs l' hl') (hs l hl) e
      subst el
      simp at r ⊢; omega
    · have el := same_line hn (hs l' hl') (hs l hl) e
      subst el
      simp at r ⊢; omega
theorem push_off {ss ls : List (Ln α)} (hn : (ss.map (·.n)).Nodup) (hs : ∀ l ∈ ls, l ∈ ss) {lo hi F : α → Int} {S : List α} {par : α → Option (Arc α)} {p : α} {w : List (Arc α)} {vs : List α}
    (h : Pth (arcsOf ls lo hi F) S par p w vs) (x : Int) {n : α} (hn' : n ∉ ls.map (·.n)) : pushW w x F n = F n := by
  rcases (push_way hn hs h x).1 n with ⟨e, _⟩ | ⟨a, ha, e, q⟩
  · exact e
  · obtain ⟨l', hl', c⟩ := mem_arcs.mp (h.arcs a ha).1
    exact absurd (List.mem_map.mpr ⟨l', hl', by rcases c with ⟨rfl, c⟩ | ⟨rfl, c⟩ <;> exact e⟩) hn'
theorem room_pos {ls : List (Ln α)} {lo hi F : α → Int} {a : Arc α} (h : a ∈ arcsOf ls lo hi F) : 1 ≤ a.r ∧ (a.s = 1 ∨ a.s = -1) ∧ a.n ∈ ls.map (·.n) := by
  obtain ⟨l, hl, c⟩ := mem_arcs.mp h
  rcases c with ⟨rfl, c⟩ | ⟨rfl, c⟩
  · exact ⟨by show 1 ≤ hi l.n - F l.n; omega, .inl rfl, List.mem_map.mpr ⟨l, hl, rfl⟩⟩
  · exact ⟨by show 1 ≤ F l.n - lo l.n; omega, .inr rfl, List.mem_map.mpr ⟨l, hl, rfl⟩⟩
/-- a push from a place that has too much to one where something is missing makes what there is too much less -/
def toomuch (ks : List α) (ls : List (Ln α)) (F : α → Int) : Int := sm ks fun v => max 0 (net ls F v)
theorem toomuch_nonneg (ks : List α) (ls : List (Ln α)) (F : α → Int) : 0 ≤ toomuch ks ls F := sm_nonneg fun v _ => by omega
theorem toomuch_falls {ks : List α} {ls : List (Ln α)} {F F' : α → Int} {s p : α} {x : Int} (hs : s ∈ ks) (hx : 1 ≤ x) (h1 : x ≤ net ls F s) (h2 : x ≤ - net ls F p)
    (h : ∀ v, net ls F' v = net ls F v + ((if p = v then x else 0) - (if s = v then x else 0))) : toomuch ks ls F' < toomuch ks ls F := by
  have hsp : p ≠ s := fun e => by subst e; omega
  unfold toomuch
  have hle : ∀ v ∈ ks, max 0 (net ls F' v) ≤ max 0 (net ls F v) := fun v _ => by
    rw [h v]
    by_cases c1 : p = v
    · subst c1
      have : s ≠ p := fun e => hsp e.symm
      simp [this]; omega
    · by_cases c2 : s = v
      · subst c2; simp [c1]; omega
      · simp [c1, c2]
  have hlt : max 0 (net ls F' s) < max 0 (net ls F s) := by
    rw [h s]; simp [hsp]; omega
  by_cases q : sm ks (fun v => max 0 (net ls F v)) ≤ sm ks (fun v => max 0 (net ls F' v))
  · have := sm_eq_of_le hle q s hs
    omega
  · omega
end MM
set_option Elab.async false
set_option linter.all false
set_option maxRecDepth 100000
set_option maxHeartbeats 2000000
namespace MS
open PySem PySem.Spec PyProof.Rows L2

/-! ### what e gives is locked for good -/
def tFroz (t : TE) : TE := fun σ H Q => t σ H fun x H1 => ∃ d u, H1 d = some u ∧ Mut (some u) ∧ ∀ od, Q x (upd H1 d (.frz od u))
section
variable {X : Cx}
theorem pe_froz {e : Expr} {t : TE} (h : PE X e t) : PE X e (tFroz t) := ⟨fun pins s σ H Q I hw =>
  thn (h.run pins s σ H _ I hw) fun v s1 ⟨x, H1, I1, r, d, u, hd, mu, q⟩ => by
    obtain ⟨od, I2⟩ := I1.lock hd mu
    exact ⟨x, _, I2, r, q od⟩⟩

/-! ### name = {..} on one line -/
theorem ps_setDc {i : Nat} {y : Str} {py : Pos} {kx vx tg iter : Expr} {ifs : List Expr} {scope : Scope} {own : List (Str × Nat)} {pos spos : Pos} {wi : TI} {g : TG} {tt : TT} {tk tv : TE} (hc : X.calm = true) (hN : X.N.Nodup) (hy : X.N[i]? = some y)
    (hyl : X.env.scope.names.lookup y = some .local) (hsw : swapsWith (.DictComp kx vx [⟨tg, iter, ifs, 0⟩] scope pos) (some (.Name y py)) spos.line X.env = pure true) (hi : PI X tg iter wi) (ok : BlkOk X.N X.env.scope scope own)
    (hg : ∀ (s : Shared) (H : Hp) (C : Addr) (cl : List (Str × Addr)) (fp : List Addr), PG (X.blk s H scope (compEnvC scope cl C X.env) fp) tg g)
    (ht : ∀ (s : Shared) (H : Hp) (C : Addr) (cl : List (Str × Addr)) (fp : List Addr), PTs (X.blk s H scope (compEnvC scope cl C X.env) fp) ifs tt)
    (hk : ∀ (s : Shared) (H : Hp) (C : Addr) (cl : List (Str × Addr)) (fp : List Addr), PE (X.blk s H scope (compEnvC scope cl C X.env) fp) kx tk)
    (he : ∀ (s : Shared) (H : Hp) (C : Addr) (cl : List (Str × Addr)) (fp : List Addr), PE (X.blk s H scope (compEnvC scope cl C X.env) fp) vx tv) (hs : ∀ x, foldedSetIterable iter X.env x = pure x := by intro _; rfl) :
    PS X (.Assign [.Name y py] (.DictComp kx vx [⟨tg, iter, ifs, 0⟩] scope pos) spos) (tAsg (tDc wi g tt tk tv (own.map (·.2))) (gName i)) := by
  refine ⟨fun pins s σ H D I h => ?_⟩
  rw [exec_Assign_Name_used _ _ _ _ hsw]
  refine wpAny_bind (wpAny_standAt (wpAny_bind ?_))
  have h : tDc wi g tt tk tv (own.map (·.2)) σ H (fun x H1 => gName i x σ H1 D.nx) := h
  refine wpAny_bind (thn (dc_core (use := some (assign (.Name y py) X.env)) (Qf := fun _ s' => SP X pins D .next s') hc hN I hi ok hg ht hk he hs h fun L C s' m H' I' q hn f => ?_) fun _ s' hq => wpAny_pure (wpAny_pure hq))
  obtain ⟨f0, f1, f2, f3, f4, f5⟩ := f
  show wpAny _ _ (assign (.Name y py) X.env (.ref L)) _ _ _
  refine wpAny_assign_Name (store_ok2 (v := V.ref L) I' hN hy (.inl hyl) rfl (fun s2 I2 ⟨a, sb, ha⟩ => ?_) (.inr hyl))
  have apart : C ≠ a := ha.elim (fun z => z ▸ f1) (fun z e => f4 y a z e.symm)
  exact ⟨m, hn.sameBut sb apart, fun h3 sb3 => ⟨_, H', I2.turned (t' := s2.toks) (fun b o hb e => (sb3.2 b hb).trans e) f0 f1 f3 f4 f5, q⟩⟩
theorem sw_trueD {kx vx : Expr} {gs : List Comprehension} {scope : Scope} {pos py : Pos} {y : Str} {l : Nat} {env : Env} (hk : env.scope.kind = .function) (hy : env.scope.names.lookup y = some .local) (hl : (py.line == pos.line) = true)
    (ha : (scope.names.any fun (n, k) => n == y && (k == .local || k == .cell)) = false) : swapsWith (.DictComp kx vx gs scope pos) (some (.Name y py)) l env = pure true := by
  have k1 : env.kindOf y = some .local := hy
  have k2 : env.blockKind = .function := by unfold Env.blockKind; rw [hk]; rfl
  unfold swapsWith
  simp only [k2, k1, ha, Expr.pos, hl]
  rfl

/-! ### a < b < c < d -/
def tChain3 (r r' r'' : R2) (ta tb tc td : TE) : TE := fun σ H Q => ta σ H fun x H1 => tb σ H1 fun y H2 => r x y H2 fun z H3 => ∃ k, z = .bl k ∧
  (if k = true then tc σ H3 fun u H4 => r' y u H4 fun z' H5 => ∃ k', z' = .bl k' ∧ (if k' = true then td σ H5 fun w' H6 => r'' u w' H6 Q else Q (.bl false) H5) else Q (.bl false) H3)
theorem pe_chain3 {op op' op'' : CmpOp} {r r' r'' : R2} {a b c d : Expr} {ta tb tc td : TE} {pos : Pos} (ho : OpR X (compareOp op) r) (ho' : OpR X (compareOp op') r') (ho'' : OpR X (compareOp op'') r'') (ha : PE X a ta) (hb : PE X b tb) (hc : PE X c tc) (hd : PE X d td)
    (hm : lastMarks [op, op', op''] [b, c, d] = false := by with_unfolding_all rfl) : PE X (.Compare a [op, op', op''] [b, c, d] pos) (tChain3 r r' r'' ta tb tc td) := by
  refine ⟨fun pins s σ H Q I h => ?_⟩
  refine Compare_chain (thn (ha.run pins s σ H _ I h) fun v1 s1 ⟨x, H1, I1, r1, q1⟩ => chain_link (thn (hb.run pins s1 σ H1 _ I1 q1) fun v2 s2 ⟨y, H2, I2, r2, q2⟩ => thn (ho pins s2 σ H2 x y v1 v2 _ I2 r1 r2 q2) fun d1 s3 ⟨z, H3, I3, r3, k, e, q3⟩ => ?_)) hm
  subst e; cases r3
  refine wpAny_truthy_bool ?_
  cases k with
  | false => exact ite_ff ⟨.bl false, H3, I3, rfl, q3⟩
  | true =>
    refine ite_tt (chain_link (thn (hc.run pins s3 σ H3 _ I3 q3) fun v3 s4 ⟨u, H4, I4, r4, q4⟩ => thn (ho' pins s4 σ H4 y u v2 v3 _ I4 r2 r4 q4) fun d2 s5 ⟨z', H5, I5, r5, k', e', q5⟩ => ?_))
    subst e'; cases r5
    refine wpAny_truthy_bool ?_
    cases k' with
    | false => exact ite_ff ⟨.bl false, H5, I5, rfl, q5⟩
    | true => exact ite_tt (chain_last (thn (hd.run pins s5 σ H5 _ I5 q5) fun v4 s6 ⟨w', H6, I6, r6, q6⟩ => ho'' pins s6 σ H6 u w' v3 v4 Q I6 r4 r6 q6))
end

/-! ### sorted of a list of tuples (three texts, two ints): some arrangement -/
structure Stm where
  n : Str
  t : Str
  h : Str
  lo : Int
  hi : Int
def tupS (x : Stm) : List V := [.str x.n, .str x.t, .str x.h, .int x.lo, .int x.hi]
def datS (x : Stm) : PyData := .tuple [.str x.n, .str x.t, .str x.h, .int x.lo, .int x.hi]
def rSortStm (K : PySem.W.Frag) : List V → Hp → VK → Prop := fun vs H Q => ∃ (a : Addr) (bs : List (Addr × Stm)), vs = [V.ref a] ∧ SqL K H a (bs.map fun b => V.ref b.1) ∧ (∀ b ∈ bs, H b.1 = some (.tup (tupS b.2))) ∧ bs.length ≤ 1000 ∧
  ∀ (cs : List (Addr × Stm)) (p : Addr), cs.Perm bs → H p = none → Q (.ref p) (upd H p (.lst (cs.map fun b => V.ref b.1)))
theorem each_of {α β : Type} {R : α → β → Prop} (f : β → α) : ∀ {bs : List β}, (∀ b ∈ bs, R (f b) b) → PySem.W.EachIs R (bs.map f) bs
  | [], _ => .nil
  | b :: r, h => .cons (h b List.mem_cons_self) (each_of f fun c hc => h c (List.mem_cons_of_mem _ hc))
theorem eq_of_each {α β : Type} (f : β → α) : ∀ {as : List α} {bs : List β}, PySem.W.EachIs (fun a b => a = f b) as bs → as = bs.map f
  | _, _, .nil => rfl
  | _, _, .cons h t => by rw [h, eq_of_each f t]; rfl
theorem refs_of_vals : ∀ {l : List (Addr × Stm)} {us : List Value}, Vals (l.map fun p => V.ref p.1) us → us = l.map fun p => Value.ref p.1
  | [], _, .nil => rfl
  | _ :: _, _, .cons h t => by
    cases h
    rw [List.map_cons, refs_of_vals t]
theorem vals_of_refs : ∀ (l : List (Addr × Stm)), Vals (l.map fun p => V.ref p.1) (l.map fun p => Value.ref p.1)
  | [] => .nil
  | p :: r => .cons (show RelV (.ref p.1) (.ref p.1) from rfl) (vals_of_refs r)
section
variable {X : Cx}
theorem cr_sortStm (hu : X.A.units + 64 < cLine) : CallR X (.builtin "sorted") (rSortStm X.K) := by
  intro pins s σ H vs us Q I r h
  obtain ⟨a, bs, rfl, hs, ht, hlen, q⟩ := h
  obtain ⟨its, rv, hl, hz⟩ := I.list hs
  obtain ⟨u, rfl, ru⟩ := vals1 r
  obtain rfl : u = Value.ref a := ru
  have ei := refs_of_vals rv
  subst ei
  have alk : PySem.W.AllAlike (bs.map fun b => datS b.2) := PySem.W.AllAlike.of fun b b' => by simp [datS, PySem.W.alike, PySem.W.alikeAll]
  have srt : PySem.W.Sortable (bs.map fun b => datS b.2) := PySem.W.Sortable.tuples fun b => ⟨_, _, rfl⟩
  refine PySem.W.sorted_data (R := fun v b => v = Value.ref b.1) (enc := fun b : Addr × Stm => datS b.2) hl.isList (each_of _ fun _ _ => rfl) (each_of _ fun b hb => ?_) alk srt (Nat.le_trans hlen (by decide)) (fun b _ => ?_) fun out ho eo => ?_
  · exact Dp.reads I (datS b.2) (.ref b.1) (.ref b.1) (.tup (SqT.of (ht b hb)) (.cons (.str _) (.cons (.str _) (.cons (.str _) (.cons (.int _) (.cons (.int _) .nil)))))) rfl
  · have : (datS b.2).depth ≤ 1 := by simp [datS, PyData.depth, PyData.depthAll]
    show X.A.units + 2 + (datS b.2).depth < cLine
    omega
  · have e := eq_of_each (fun b : Addr × Stm => Value.ref b.1) eo
    subst e
    have pm : (bs.mergeSort (PySem.W.dataLe false fun b => datS b.2)).Perm bs := List.mergeSort_perm _ _
    have old := fun b o => sortedAll_old (h := s.heap) (vs := bs.map fun p => Value.ref p.1) (out := ((bs.mergeSort (PySem.W.dataLe false fun b => datS b.2)).map fun b => Value.ref b.1).toArray) (b := b) (o := o)
    obtain ⟨c, hc⟩ := sortedAll_at s.heap (bs.map fun p => Value.ref p.1) ((bs.mergeSort (PySem.W.dataLe false fun b => datS b.2)).map fun b => Value.ref b.1).toArray
    refine ⟨.ref (s.heap.objs.size + 1), upd H (s.heap.objs.size + 1) (.lst _), I.laid (t' := s.toks) old (Nat.le_succ _) ⟨?_, _, c, vals_of_refs _, hc⟩, rfl, q _ _ pm (I.hok.fresh (Nat.le_succ _))⟩
    rw [List.length_map, pm.length_eq]
    exact Nat.le_trans hlen (by decide)
end
end MS
set_option Elab.async false
set_option linter.all false
set_option maxRecDepth 100000
set_option maxHeartbeats 4000000
namespace MS
open PySem PySem.Spec PyProof.Rows L2 PySem.Froz

theorem off2 {x y z : Addr} (h1 : x ≠ y) (h2 : x ≠ z) : x ∉ [y, z] := fun h => by
  rcases List.mem_cons.mp h with q | q
  · exact h1 q
  · exact h2 (List.mem_singleton.mp q)
theorem perm_of_nodup {α : Type} [DecidableEq α] : ∀ {l ks : List α}, l.Nodup → (∀ k ∈ l, k ∈ ks) → ks.length ≤ l.length → ks.Perm l
  | [], ks, _, _, h => by rw [List.eq_nil_of_length_eq_zero (Nat.le_zero.mp h)]
  | a :: r, ks, nd, hs, h => by
    obtain ⟨h1, h2⟩ := List.nodup_cons.mp nd
    have ha := hs a List.mem_cons_self
    have e := List.length_erase_of_mem ha
    have h : ks.length ≤ r.length + 1 := h
    exact (List.perm_cons_erase ha).trans ((perm_of_nodup h2 (fun k hk => (List.mem_erase_of_ne fun z : k = a => h1 (z ▸ hk)).mpr (hs k (List.mem_cons_of_mem _ hk))) (by omega)).cons a)
/-! ### sets of texts that can be walked -/
/-- the payload D holds just the texts l (each once), its table rises -/
structure Sx (P : Program) (w : World) (D : SD) (l : List Str) : Prop where
  tx : TxOk P w D l
  nd : l.Nodup
  ris : Ris D.2.2.place.toList
  led : w.params.followText "set-order" = true ∨ D.2.2.led = true
def freshD (w : World) : SD := (#[], 0, .fresh 0 0 (!w.params.followText "set-order"))
def SxAt (P : Program) (w : World) (h : Heap) (a : Addr) (l : List Str) : Prop := ∃ D, h.get? a = some (sObj "set" D) ∧ Sx P w D l
section
variable {P : Program} {w : World} {A : Around} {E : Value → Shared → Prop} {s : Shared}
theorem Sx.fresh : Sx P w (freshD w) [] := by
  refine ⟨TxOk.nil rfl, List.nodup_nil, List.Pairwise.nil, ?_⟩
  show _ ∨ (!w.params.followText "set-order") = true
  cases w.params.followText "set-order" <;> simp
theorem Sx.add {D : SD} {l : List Str} {k : Str} (u : Tok) (F : Sx P w D l) (hk : k ∉ l) : Sx P w (addTx (hashStr w k) (.str k u) D) (k :: l) := by
  obtain ⟨es, ep, t⟩ := D
  have g1 := layNew_ris t es (hashStr w k) (.str k u) F.ris
  have g2 := layNew_led t es (hashStr w k) (.str k u)
  have z : ∀ {b : Bool} {ep : Nat} {es : Array (Int × Value)} {t2 : SetTable}, Ris t2.place.toList → (w.params.followText "set-order" = true ∨ t2.led = true) →
      Ris (tailTx ep es t2 b).2.2.place.toList ∧ (w.params.followText "set-order" = true ∨ (tailTx ep es t2 b).2.2.led = true) := fun {b ep es t2} r1 r2 => by
    unfold tailTx
    split
    · exact ⟨relayAll_ris _ _ _, r2.imp_right fun q => (relayAll_led t2 es _).trans q⟩
    · exact ⟨r1, r2⟩
  have led : w.params.followText "set-order" = true ∨ (layNew t es (hashStr w k) (.str k u)).2.1.led = true := F.led.imp_right fun q => g2.trans q
  refine ⟨add_ok u F.tx, List.nodup_cons.mpr ⟨hk, F.nd⟩, ?_, ?_⟩
  · unfold addTx; dsimp only
    refine (z ?_ ?_).1
    · split <;> exact g1
    · split <;> exact led
  · unfold addTx; dsimp only
    refine (z ?_ ?_).2
    · split <;> exact g1
    · split <;> exact led
/-- adding what is there already -/
theorem add_there {a : Addr} {D : SD} {l : List Str} {k : Str} {u : Tok} {Q : Bool → Shared → Prop} (ho : s.heap.get? a = some (sObj "set" D)) (F : Sx P w D l) (hk : k ∈ l) (hb : l.length < scanBound) (h : Q false s) :
    wpAny (model P w) A (setAddHashed a (.str k u) (hashStr w k)) Q E s := by
  obtain ⟨es, ep, t⟩ := D
  have el : ElemsOf (strKind P w) es.toList := F.tx.el
  have hd : (sObj "set" (es, ep, t)).data = .set es ep t := rfl
  have hf : t.fits es.size = true := F.tx.fit
  have hs : es.size < scanBound := by rw [show es.size = l.length from F.tx.sz]; exact hb
  obtain ⟨e, he, q⟩ := (F.tx.mem k).mp hk
  unfold setAddHashed setAddHashedIn
  refine wpAny_holding (wpAny_bind (wpAny_setState_of ho hd hf ?_))
  dsimp only
  rw [byScan_of (x := .str k u) rfl hs el]
  simp only [↓reduceIte]
  unfold setAddByScan
  refine wpAny_bind (wpAny_bind (wpAny_rule (wpAny_bind (wpAny_setScan_of (knd := strKind P w) (is_str k u) ho hd hf el ?_))))
  cases hr : List.findIdx? (fun e => (strKind P w).is k e.2) es.toList with
  | none => have := List.findIdx?_eq_none_iff.mp hr e he; rw [q] at this; cases this
  | some j => exact wpAny_pure (wpAny_pure h)
/-- the one who adds text after text -/
theorem fill_set {I : Addr} {fp wr : List Addr} {G : Array GenState → Array GenState → Prop} {n : Nat} {Pv : Nat → Value → Prop} {St : Nat → Shared → Prop} {R : Result → Shared → Prop} (W : WalksS P w A.in1 I fp wr G n Pv St) {S : Addr} (hS : S ∉ fp) {xs : List Str}
    (hn : n = xs.length) (hb : xs.length + 1 < scanBound) (hv : ∀ i v, Pv i v → ∃ k t, xs[i]? = some k ∧ v = .str k t) (hR : ∀ s₀ s' l, Moved (S :: wr) G s₀ s' → SxAt P w s'.heap S l → (∀ k, k ∈ l ↔ k ∈ xs) → s₀ = s → R (.ok (.ret .none)) s') :
    ∀ (m i : Nat) (s₁ : Shared) (l : List Str), n - i = m → i ≤ n → St i s₁ → SxAt P w s₁.heap S l → l.length ≤ i → (∀ k, k ∈ l ↔ k ∈ xs.take i) → (∀ s', Moved (S :: wr) G s₁ s' → Moved (S :: wr) G s s') →
      codeAny (model P w) A (.builtin "set.update.loop" ⟨[.ref S, .ref I], []⟩) R s₁ := by
  have nw : S ∉ wr := fun z => hS (W.sub _ z)
  have wider : ∀ b ∈ wr, b ∈ S :: wr := fun b z => List.mem_cons_of_mem _ z
  intro m
  induction m with
  | zero =>
    intro i s₁ l hm hi st at_ hl hk mv
    refine codeAny_builtin F.entry_set_update_loop ?_
    rw [Around.under_plainId F.plain_set_update_loop _]
    show wpAny _ A.in1 (pyNext (.ref I) >>= _) _ _ s₁
    have ei : i = n := by omega
    subst ei
    refine wpAny_bind (W.done s₁ _ _ st fun s' mo => ?_)
    show wpAny _ A.in1 (ret Value.none) _ _ s'
    obtain ⟨D, hD, q⟩ := at_
    exact wpAny_pure (hR s s' l (mv s' (mo.mono wider)) ⟨D, mo.heap S _ nw hD, q⟩ (fun k => by rw [hk k, List.take_of_length_le (by omega)]) rfl)
  | succ m ih =>
    intro i s₁ l hm hi st at_ hl hk mv
    have lt : i < n := by omega
    refine codeAny_builtin F.entry_set_update_loop ?_
    rw [Around.under_plainId F.plain_set_update_loop _]
    show wpAny _ A.in1 (pyNext (.ref I) >>= _) _ _ s₁
    refine wpAny_bind (W.item i s₁ _ _ lt st fun v s' pv st' mo => ?_)
    obtain ⟨k, tk, hx, rfl⟩ := hv i v pv
    obtain ⟨D, hD, q⟩ := at_
    have hD' := mo.heap S _ nw hD
    show wpAny _ A.in1 (holding [Value.str k tk] (setAdd S (.str k tk)) >>= _) _ _ s'
    refine wpAny_bind (wpAny_holding ?_)
    unfold setAdd
    refine wpAny_holding (wpAny_bind ((strKind P w).pyHash (is_str k tk) ?_))
    have et : xs.take (i + 1) = xs.take i ++ [k] := by rw [List.take_add_one, hx]; rfl
    by_cases c : k ∈ l
    · refine add_there (s := { s' with toks := s'.toks + 1 }) hD' q c (by omega) ?_
      refine wpAny_pure ⟨plainId_quiet F.plain_set_update_loop _, ih (i + 1) _ l (by omega) lt (W.frame _ s' _ _ st' (Nat.le_succ _) fun b _ o e => e) ⟨D, hD', q⟩ (by omega) (fun j => ?_) fun s2 m2 => mv s2 (Moved.trans W.gtrans ((mo.mono wider).then_heap (Nat.le_succ _) fun b o _ e => e) m2)⟩
      rw [hk j, et, List.mem_append, List.mem_singleton]
      exact ⟨.inl, fun z => z.elim id fun z => by rw [z]; exact (hk k).mp c⟩
    · refine add_x (T := "set") (s := { s' with toks := s'.toks + 1 }) hD' q.tx c (by omega) ?_
      have sb := Heap.SameBut.update s'.heap S (fun _ => sObj "set" (addTx (hashStr w k) (.str k tk) D))
      refine wpAny_pure ⟨plainId_quiet F.plain_set_update_loop _, ih (i + 1) _ (k :: l) (by omega) lt (W.frame _ s' _ _ st' (Nat.le_succ _) fun b hb' o e => ?_) ⟨_, get_upd _ hD' rfl, q.add tk c⟩ (by show l.length + 1 ≤ i + 1; omega) (fun j => ?_) fun s2 m2 => mv s2 (Moved.trans W.gtrans ((mo.mono wider).then_heap (Nat.le_succ _) fun b o hb' e => ?_) m2)⟩
      · rw [sb.2 b fun z : b = S => hS (z ▸ hb')]; exact e
      · rw [List.mem_cons, hk j, et, List.mem_append, List.mem_singleton]; exact Or.comm
      · rw [sb.2 b fun z : b = S => hb' (z ▸ List.mem_cons_self)]; exact e

set_option maxHeartbeats 8000000 in
/-- set(xs), xs a list of texts -/
theorem set_of_texts {l : Addr} {items : Array Value} {xs : List Str} {Q : Value → Shared → Prop} (hh : A.handled = none) (hl : s.heap.IsList l items) (hx : StrsAre items.toList xs) (hb : xs.length + 1 < scanBound)
    (h : ∀ (h' : Heap) (tk : Nat) (ms : List Str), SxAt P w h' s.heap.objs.size ms → (∀ k, k ∈ ms ↔ k ∈ xs) → (∀ b o, s.heap.get? b = some o → h'.get? b = some o) → Q (.ref s.heap.objs.size) { s with heap := h', toks := tk }) :
    wpAny (model P w) A (call (.type "set") [.ref l]) Q E s := by
  have nx : items.size = xs.length := by rw [← StrsAre.len_eq hx, Array.length_toList]
  generalize hS0 : s.heap.objs.size = S at h
  obtain ⟨_, _, hmro⟩ := F.called_set.mro
  have hmade := F.called_set.made
  have hsub := F.called_set.sub
  refine wpAny_call (codeAny_of_tree ?_)
  show wpAny _ _ (callAny (.type "set") _) _ _ _
  refine wpAny_pure ⟨Code.quiet_builtin _ (by decide +kernel), codeAny_builtin F.entry_type_call ?_⟩
  rw [Around.under_plain (weight_type_call_type "set" [.ref l] []) rfl]
  have h1 := F.called_set.notType
  have h2 := F.called_set.canCreate
  have hct := F.typeCall_set_1 (.ref l)
  repeat (any_goals (first | assumption | wp_step))
  refine codeAny_mono (code_set_led1 (.ref l) (E := E) (Q₁ := fun ob s₁ => ob = .ref S ∧ s₁ = { s with heap := s.heap.push (sObj "set" (freshD w)) }) ⟨by rw [hS0], rfl⟩) fun r s₁ hr => ?_
  cases r with
  | error e => exact hr
  | ok fl =>
    cases fl with
    | ret ob =>
      obtain ⟨rfl, rfl⟩ := hr
      have new : (s.heap.push (sObj "set" (freshD w))).get? S = some (sObj "set" (freshD w)) := by rw [← hS0]; exact Heap.get?_push_size _ rfl
      have hT : Shared.TypeIs { s with heap := s.heap.push (sObj "set" (freshD w)) } (.ref S) "set" := ⟨_, new, rfl⟩
      have hli := F.called_set.init.lookup
      have hbi := F.called_set.init.bind (.ref S)
      repeat (any_goals (first | assumption | wp_step))
      refine codeAny_mono (codeAny_call_builtin (R := wants (fun r s₂ => r = .none ∧ ∃ h' tk ms, s₂ = { s with heap := h', toks := tk } ∧ SxAt P w h' S ms ∧ (∀ k, k ∈ ms ↔ k ∈ xs) ∧ (∀ b o, s.heap.get? b = some o → h'.get? b = some o)) E)
        F.called_set.init.plain F.entry_set_init (check_set_init_1 hT ?_)) fun r₂ s₂ hr₂ => ?_
      · obtain ⟨ol, hol, hcl, nl, hdl⟩ := hl
        obtain ⟨ocls, odict, odata, oslots⟩ := ol
        simp only at hcl hdl
        subst hcl; subst hdl
        have hol' : (s.heap.push (sObj "set" (freshD w))).get? l = some { cls := .type "list", dict := odict, data := .seq items nl, slots := oslots } := Heap.get?_push_of_some _ hol
        have q1 := F.sub_list_set
        have q2 := F.sub_list_frozenset
        have q3 : (Value.type "list" == Value.type "dict") = false := by decide
        have isl : (s.heap.push (sObj "set" (freshD w))).IsList l items := ⟨_, hol', rfl, nl, rfl⟩
        unfold Builtin.«set.__init__» noKeywords Builtin.Frozenset.updateFrom
        generalize hPI : pyIter = PI
        wp_walk
        subst hPI
        refine wpAny_pyIter_list isl ?_
        refine wpAny_bind (wpAny_runValue ?_)
        have lS : l < S := by rw [← hS0]; exact Heap.lt_size hol
        have sz : (s.heap.push (sObj "set" (freshD w))).objs.size = S + 1 := by rw [Heap.size_push, hS0]
        have h3 : A.in1.in1.in1.handled = none := by simp [hh]
        have ne1 : l ≠ (s.heap.push (sObj "set" (freshD w))).objs.size := by rw [sz]; exact Nat.ne_of_lt (Nat.lt_succ_of_lt lS)
        have hSf : S ∉ [(s.heap.push (sObj "set" (freshD w))).objs.size, l] := by rw [sz]; exact off2 (Nat.ne_of_lt (Nat.lt_succ_self _)) (Nat.ne_of_gt lS)
        refine fill_set (P := P) (w := w) ((Walks.list h3 _ l ne1 items).toS) hSf nx hb (fun i v hv => ?_) (fun s₀ s' ms mo at_ hk e0 => ?_) (items.size - 0) 0 _ [] (by omega) (Nat.zero_le _) ⟨⟨_, Heap.get?_push_size _ rfl, rfl, rfl⟩, (isl.push _)⟩ ⟨freshD w, Heap.get?_push_of_some _ new, Sx.fresh⟩ (Nat.le_refl _) (fun k => by simp) (fun _ m => m)
        · have hi : i < xs.length := by rw [← nx]; exact (Array.getElem?_eq_some_iff.mp hv).1
          obtain ⟨t, e⟩ := SS.strs_at hx i v (by rw [Array.getElem?_toList]; exact hv)
          refine ⟨xs[i], t, List.getElem?_eq_getElem hi, ?_⟩
          rw [e, List.getD_eq_getElem?_getD, List.getElem?_eq_getElem hi] <;> rfl
        · subst e0
          obtain ⟨h', g2, d', tk', os'⟩ := s'
          obtain rfl : g2 = s.gens := mo.gens
          obtain rfl : d' = s.drawn := mo.drawn
          obtain rfl : os' = s.os := mo.os
          show wpAny _ _ _ _ _ _
          refine wpAny_pure ?_
          show wpAny _ _ (ret Value.none) _ _ _
          refine wpAny_pure ⟨rfl, h', tk', ms, rfl, at_, hk, fun b o e => ?_⟩
          have lb : b < S := by rw [← hS0]; exact Heap.lt_size e
          refine mo.heap b o ?_ (Heap.get?_push_of_some _ (Heap.get?_push_of_some _ e))
          rw [sz]; exact off2 (Nat.ne_of_lt lb) (Nat.ne_of_lt (Nat.lt_succ_of_lt lb))
      · cases r₂ with
        | error e => exact hr₂
        | ok fl₂ =>
          cases fl₂ with
          | ret r =>
            obtain ⟨rfl, h', tk, ms, rfl, g1, g2, g3⟩ := hr₂
            repeat (any_goals (first | assumption | wp_step))
            exact h _ _ _ g1 g2 g3
          | _ => exact hr₂.elim
    | _ => exact hr.elim
/-- sorted of such a set -/
theorem sorted_texts {a : Addr} {l : List Str} {Q : Value → Shared → Prop} (R : SxAt P w s.heap a l) (hh : A.handled = none) (h64 : l.length < 64)
    (hQ : ∀ s' p (out : Array Value) (c : Nat) (ys : List Str), (∀ b o, s.heap.get? b = some o → s'.heap.get? b = some o) → s'.gens = s.gens → s'.os = s.os → s.heap.objs.size ≤ p → s'.heap.get? p = some (seqObj "list" out c) → StrsAre out.toList ys → sortedS ys = true → ys.Perm l → Q (.ref p) s') :
    wpAny (model P w) A (call (.builtin "sorted") [.ref a]) Q E s := by
  obtain ⟨⟨es, ep, t⟩, ho, q⟩ := R
  have hsz : es.size = l.length := q.tx.sz
  have el : ElemsOf (strKind P w) es.toList := q.tx.el
  have vals : ∀ e ∈ es.toList, ∃ k u, e.2 = Value.str k u := fun e he => by
    obtain ⟨⟨k, hk, _⟩, _⟩ := el e he
    obtain ⟨u, hu⟩ := Value.isStrOf_shape (x := k) (v := e.2) hk
    exact ⟨k, u, hu⟩
  refine Calls.call_function_entry kind_sorted plain_sorted entry_sorted (args_sorted1 _) ?_
  unfold Builtin.«sorted»
  refine wpAny_bind (m := checkCount "sorted" 1 1 _) (wpAny_pure ?_)
  refine wpAny_bind (collect_set (A := A.in1) hh ⟨_, ho, rfl, rfl⟩ q.tx.fit (by rw [hsz]; unfold scanBound; omega) q.ris q.led fun s1 vs k1 hz g1 o1 pm => ?_)
  have lv : vs.length = l.length := by rw [pm.length_eq, List.length_map, Array.length_toList]; exact hsz
  obtain ⟨ks, hks, pk⟩ : ∃ ks, StrsAre vs ks ∧ ks.Perm l := by
    have mk : ∀ vs : List Value, (∀ v ∈ vs, ∃ k u, v = Value.str k u) → ∃ ks, StrsAre vs ks ∧ (∀ k, k ∈ ks ↔ ∃ v ∈ vs, ∃ u, v = Value.str k u) := fun vs => by
      induction vs with
      | nil => exact fun _ => ⟨[], .nil, fun k => by simp⟩
      | cons v r ih =>
        intro hv
        obtain ⟨k, u, rfl⟩ := hv v List.mem_cons_self
        obtain ⟨ks, h1, h2⟩ := ih fun w hw => hv w (List.mem_cons_of_mem _ hw)
        refine ⟨k :: ks, .cons k u h1, fun j => ?_⟩
        rw [List.mem_cons, h2 j]
        constructor
        · rintro (rfl | ⟨v, hv, z⟩)
          · exact ⟨_, List.mem_cons_self, u, rfl⟩
          · exact ⟨v, List.mem_cons_of_mem _ hv, z⟩
        · rintro ⟨v, hv, u', z⟩
          rcases List.mem_cons.mp hv with y | y
          · rw [y] at z; injection z with z1 _; exact .inl z1.symm
          · exact .inr ⟨v, y, u', z⟩
    obtain ⟨ks, h1, h2⟩ := mk vs fun v hv => by
      obtain ⟨e, he, z⟩ := List.mem_map.mp (pm.mem_iff.mp hv)
      obtain ⟨k, u, z'⟩ := vals e he
      exact ⟨k, u, by rw [← z]; exact z'⟩
    have mem : ∀ k, k ∈ ks ↔ k ∈ l := fun k => by
      rw [h2 k, q.tx.mem k]
      constructor
      · rintro ⟨v, hv, u, rfl⟩
        obtain ⟨e, he, z⟩ := List.mem_map.mp (pm.mem_iff.mp hv)
        exact ⟨e, he, by rw [show e.2 = Value.str k u from z]; exact is_str k u⟩
      · rintro ⟨e, he, z⟩
        obtain ⟨u, hu⟩ := Value.isStrOf_shape (x := k) (v := e.2) z
        exact ⟨e.2, pm.mem_iff.mpr (List.mem_map.mpr ⟨e, he, rfl⟩), u, hu⟩
    have lk : ks.length = l.length := by rw [← StrsAre.len_eq h1, lv]
    exact ⟨ks, h1, perm_of_nodup q.nd (fun k hk => (mem k).mpr hk) (by omega)⟩
  refine wpAny_bind (wpAny_newList ?_ (by rw [lv, sizeLine_eq]; omega))
  have hL : (s1.heap.push (seqObj "list" vs.toArray 0)).get? s1.heap.objs.size = some (seqObj "list" vs.toArray 0) := Heap.get?_push_size _ rfl
  refine wpAny_bind (wpAny_holding (wpAny_call_entry slot_list_sort ⟨_, hL, rfl⟩ entry_list_sort (list_sort_treeK strKind_oneLt hL hks.keysOf (fun v₁ v₂ rest e => keyKind_strs (by rw [← e]; exact hks)) (by rw [lv]; exact h64) fun st' hp hs => ?_) (args_list_sort _)))
  obtain ⟨ys, a1, a2, a3⟩ := sorted_out_str hks hp hs
  obtain ⟨c, hc⟩ := sortedHeap_at (vs := vs) (out := (arrOf st').map (·.2)) hL
  refine ⟨_, rfl, wpAny_pure ⟨_, rfl, hQ _ s1.heap.objs.size _ c ys (fun b u e => ?_) g1 o1 hz hc a1 a3 (a2.trans pk)⟩⟩
  have e1 := k1 b u e
  have lt := Heap.lt_size e1
  exact (sortedHeap_old (Nat.ne_of_lt lt) (by rw [size_push']; exact Nat.lt_succ_of_lt lt)).trans (Heap.get?_push_of_some _ e1)
end
end MS
set_option Elab.async false
set_option linter.all false
set_option maxRecDepth 100000
set_option maxHeartbeats 4000000
namespace MS
open PySem PySem.Spec PyProof.Rows L2 PySem.Froz
def SetSO (P : Program) (w : World) (a : Addr) (l : List Str) : HO := .ext fun h => SxAt P w h a l
section
variable {X : Cx}
theorem SxAt.keep {P : Program} {w : World} {h h' : Heap} {a : Addr} {l : List Str} (x : SxAt P w h a l) (k : ∀ o, h.get? a = some o → h'.get? a = some o) : SxAt P w h' a l := by
  obtain ⟨D, ho, q⟩ := x
  exact ⟨D, k _ ho, q⟩
theorem setSO_ok {P : Program} {w : World} {H : Hp} {h : Heap} {a : Addr} {l : List Str} (x : SxAt P w h a l) : ObjOk P w H h a (SetSO P w a l) :=
  ⟨x, ⟨_, x.choose_spec.1⟩, fun _ _ p k => SxAt.keep p k⟩
def rSetS (K : PySem.W.Frag) (P : Program) (w : World) : List V → Hp → VK → Prop := fun vs H Q => ∃ (p : Addr) (xs : List Str), vs = [V.ref p] ∧ SqL K H p (xs.map V.str) ∧ xs.length ≤ 1000 ∧
  ∀ (a : Addr) (l : List Str), (∀ k, k ∈ l ↔ k ∈ xs) → l.Nodup → H a = none → Q (.ref a) (upd H a (SetSO P w a l))
theorem cr_setS (hc : X.calm = true) : CallR X (.type "set") (rSetS X.K X.prog X.w) := by
  intro pins s σ H vs us Q I r h
  obtain ⟨p, xs, rfl, hs, hl, q⟩ := h
  obtain ⟨its, rv, pl, hz⟩ := I.list hs
  rw [Vals.ref1 r]
  refine set_of_texts (P := X.prog) (w := X.w) (I.ok.hd hc) pl.isList (by simpa using rv.strs) (by unfold scanBound; omega) fun h' tk ms at_ hm k => ?_
  refine ⟨.ref s.heap.objs.size, upd H s.heap.objs.size (SetSO X.prog X.w s.heap.objs.size ms), I.laid (t' := tk) k (Nat.le_refl _) (setSO_ok at_), rfl, q _ ms hm ?_ (I.hok.fresh (Nat.le_refl _))⟩
  obtain ⟨_, _, z⟩ := at_
  exact z.nd
def rSortSS (P : Program) (w : World) : List V → Hp → VK → Prop := fun vs H Q => ∃ (a : Addr) (l : List Str), vs = [V.ref a] ∧ H a = some (SetSO P w a l) ∧ l.length < 64 ∧
  ∀ (ys : List Str) (p : Addr), ys.Perm l → sortedS ys = true → H p = none → Q (.ref p) (upd H p (.lst (ys.map V.str)))
theorem cr_sortSS (hc : X.calm = true) : CallR X (.builtin "sorted") (rSortSS X.prog X.w) := by
  intro pins s σ H vs us Q I r h
  obtain ⟨a, l, rfl, ha, h64, q⟩ := h
  have at_ : SxAt X.prog X.w s.heap a l := (I.hok a _ ha).1
  rw [Vals.ref1 r]
  refine sorted_texts at_ (I.ok.hd hc) h64 fun s' p out c ys k g o hp hg hi hs hm => ?_
  have hn : H p = none := I.hok.fresh hp
  have lz : (ys.map V.str).length ≤ sizeLine := by rw [List.length_map, hm.length_eq, sizeLine_eq]; omega
  have J : Inv X pins σ (upd H p (.lst (ys.map V.str))) s' := I.call' (ch := []) o (Un.laid k hp hn) (I.hok.laid k hp ⟨lz, out.toList, c, vals_of_strs hi, hg⟩) (by rw [g]; exact I.bare) (fun _ z => nomatch z)
  exact ⟨.ref p, _, J, rfl, q ys p hm hs hn⟩
def rLenSS (P : Program) (w : World) : List V → Hp → VK → Prop := fun vs H Q => ∃ (a : Addr) (l : List Str), vs = [V.ref a] ∧ H a = some (SetSO P w a l) ∧ l.length ≤ 1000 ∧ Q (.int (l.length : Nat)) H
theorem cr_lenSS : CallR X (.builtin "len") (rLenSS X.prog X.w) := by
  intro pins s σ H vs us Q I r h
  obtain ⟨a, l, rfl, ha, hl, q⟩ := h
  have at_ : SxAt X.prog X.w s.heap a l := (I.hok a _ ha).1
  obtain ⟨D, ho, z⟩ := at_
  have hn : D.1.size = l.length := z.tx.sz
  rw [Vals.ref1 r]
  exact call_len_set ho ⟨rfl, rfl, rfl⟩ rfl z.tx.fit (by rw [hn]; omega) ⟨.int (l.length : Nat), H, I.tok _, ⟨_, by rw [hn]⟩, q⟩
end
end MS
set_option Elab.async false
set_option linter.all false
set_option maxRecDepth 100000
set_option maxHeartbeats 4000000
namespace MS
open PySem PySem.Spec PyProof.Rows L2 Evl
/-! ### the text -/
def top (i : Nat) : Stmt := PySem.Challenge.pw_metersure_k79_whole_great_plants_and_pap.main.body.getD i (.Pass ⟨0, 0, 0, 0⟩)
def inCls (s : Stmt) (j : Nat) : Stmt := (C8.clsBody s).getD j (.Pass ⟨0, 0, 0, 0⟩)
def letters : Str := "abcdefghijklmnopqrstuvwxyz0123456789"
/-- what the top has left: the classes at aP (Plant), aM (Missing), aR (Range) -/
structure Txt (K : PySem.W.Frag) (mg : Str → Option Value) (aP aM aR : Addr) : Prop where
  n_len : mg "len" = none
  n_all : mg "all" = none
  n_sum : mg "sum" = none
  n_max : mg "max" = none
  n_min : mg "min" = none
  n_sorted : mg "sorted" = none
  n_set : mg "set" = none
  n_list : mg "list" = none
  n_dict : mg "dict" = none
  n_range : mg "range" = none
  n_isinstance : mg "isinstance" = none
  n_abs : mg "abs" = none
  n_int : mg "int" = none
  n_str : mg "str" = none
  g_LETTERS : ∃ u, mg "LETTERS" = some u ∧ RelV (.str letters) u
  g_MOST_FLOW : ∃ u, mg "MOST_FLOW" = some u ∧ RelV (.int 1000000) u
  g_MOST_KNOTS : ∃ u, mg "MOST_KNOTS" = some u ∧ RelV (.int 24) u
  g_MOST_STREAMS : ∃ u, mg "MOST_STREAMS" = some u ∧ RelV (.int 60) u
  g_LOT : ∃ u, mg "LOT" = some u ∧ RelV (.str "lot") u
  g_STREAM : ∃ u, mg "STREAM" = some u ∧ RelV (.str "stream") u
  g_APART : ∃ u, mg "APART" = some u ∧ RelV (.str "") u
  cP : Cls K aP
  p_k : NoAttr K aP "_knots"
  p_s : NoAttr K aP "_streams"
  cM : Cls K aM
  m_n : NoAttr K aM "number"
  m_f : NoAttr K aM "flows"
  m_l : NoAttr K aM "least"
  m_g : NoAttr K aM "greatest"
  cR : Cls K aR
  r_l : NoAttr K aR "low"
  r_h : NoAttr K aR "high"
  r_lf : NoAttr K aR "low_flows"
  r_hf : NoAttr K aR "high_flows"
  r_ll : NoAttr K aR "low_lot"
  r_hl : NoAttr K aR "high_lot"
/-- a def of the text under its name -/
structure Dn (K : PySem.W.Frag) (mg : Str → Option Value) (x : Str) (st : Stmt) (ps : List Str) : Prop where
  ex : ∃ (f : Addr) (fd : FuncData), C8.Def K mg x st f fd ∧ Binds K fd ps []
/-- a method of the text -/
structure Mn (K : PySem.W.Frag) (C : Addr) (m qual : Str) (st : Stmt) (ps : List Str) : Prop where
  ex : ∃ (f : Addr) (fd : FuncData), Meth K C m f ∧ C8.Fun K m qual st f fd ∧ Binds K fd ps []
/-- a property of the text -/
structure Pn (K : PySem.W.Frag) (C : Addr) (m qual : Str) (st : Stmt) : Prop where
  ex : ∃ (p f : Addr) (fd : FuncData), PropOf K C m p f ∧ C8.Fun K m qual st f fd ∧ Binds K fd ["self"] []
/-- a class of the text with its __init__ -/
structure In (K : PySem.W.Frag) (mg : Str → Option Value) (x qual : Str) (C : Addr) (st : Stmt) (ps : List Str) : Prop where
  ex : ∃ (f : Addr) (fd : FuncData), Mk K C f ∧ mg x = some (.ref C) ∧ C8.Fun K "__init__" qual st f fd ∧ Binds K fd ps []
structure Prp (P : Program) (w : World) (K : PySem.W.Frag) (mg : Str → Option Value) (base : Heap) (k : Nat) (C : Addr) (m : Str) (sp : Sp) : Prop where
  ex : ∃ (p f : Addr) (fd : FuncData), PropOf K C m p f ∧ FnOk P w K mg base C8.CX0 k f fd ["self"] sp ∧ Binds K fd ["self"] []
section
variable {P : Program} {w : World} {K : PySem.W.Frag} {mg : Str → Option Value} {base : Heap} {k : Nat} {sp : Sp}
abbrev Body (P : Program) (w : World) (K : PySem.W.Frag) (mg : Str → Option Value) (base : Heap) (k : Nat) (qual : Str) (st : Stmt) (N : List Str) (sp : Sp) : Prop :=
  ∀ (f : Addr) (cdv : Value) (A : Around) (outer : List Env) (s : Shared) (H : Hp) (vs : List V) (Q : VK) (E : XK), Room k (A.deeper (envOfC qual (C8.fnScope st) s.heap.objs.size f cdv)) → sp vs H Q E →
    ∃ t, PSs (cxOf C8.CX0 P w K mg base N qual (C8.fnScope st) f cdv A outer s H E).nox (C8.fnBody st) t ∧ t { nx := fun _ H' => Q .non H', rt := Q } (start N vs) H
theorem cal_of {x : Str} {st : Stmt} {ps N : List Str} (D : Dn K mg x st ps) (S : FnScope N ps (C8.fnScope st)) (len : ∀ vs H Q E, sp vs H Q E → vs.length = ps.length) (hb : Body P w K mg base k x st N sp) : C8.Cal P w K mg base (k + 1) x sp [] := by
  obtain ⟨f, fd, F, b⟩ := D.ex
  exact C8.cal0 F b .nil S len (hb f)
theorem met_of {C : Addr} {m qual : Str} {st : Stmt} {ps N : List Str} (c : Cls K C) (D : Mn K C m qual st ps) (S : FnScope N ps (C8.fnScope st)) (len : ∀ vs H Q E, sp vs H Q E → vs.length = ps.length) (hb : Body P w K mg base k qual st N sp) : C8.Met P w K mg base (k + 1) C m sp [] := by
  obtain ⟨f, fd, me, F, b⟩ := D.ex
  exact C8.met0 c me F b S len (hb f)
theorem prp_of {C : Addr} {m qual : Str} {st : Stmt} {N : List Str} (D : Pn K C m qual st) (S : FnScope N ["self"] (C8.fnScope st)) (len : ∀ vs H Q E, sp vs H Q E → vs.length = 1) (hb : Body P w K mg base k qual st N sp) : Prp P w K mg base (k + 1) C m sp := by
  obtain ⟨p, f, fd, hp, F, b⟩ := D.ex
  exact ⟨p, f, fd, hp, C8.fn0 F S len (hb f), b⟩
theorem mak_of {x qual : Str} {C : Addr} {st : Stmt} {ps N : List Str} (D : In K mg x qual C st ps) (S : FnScope N ps (C8.fnScope st)) (len : ∀ vs H Q E, sp vs H Q E → vs.length = ps.length) (hb : Body P w K mg base k qual st N sp) : C8.Mak P w K mg base (k + 1) x C sp [] := by
  obtain ⟨f, fd, M, hm, F, b⟩ := D.ex
  exact C8.mak0 M hm F b .nil S len (hb f)
end
theorem pe_pr {X : Cx} {k j : Nat} {C : Addr} {m : Str} {sp : Sp} {e : Expr} {ta : TE} {pos : Pos} (c : Cls X.K C) (h : Prp X.prog X.w X.K X.mg X.base k C m sp) (hr : Room j X.A) (hk : k + 1 ≤ j) (he : PE X e ta) (hab : attributeBase e m X.env (eval e X.env) = eval e X.env := by rfl) :
    PE X (.Attribute e m pos) (tProp C sp [] C8.E0 ta) := by
  obtain ⟨p, f, fd, hp, F, b⟩ := h.ex
  exact pe_prop he c hp F (hr.mono hk) b .nil C8.pass0 hab

/-! ### rules within a comprehension: K told -/
section
variable {X : Cx}
theorem ix_tupK (K : PySem.W.Frag) (h : X.K = K := by rfl) : IxR X (rIxT K) := h ▸ ix_tup
theorem ix_listK (K : PySem.W.Frag) (h : X.K = K := by rfl) : IxR X (rIxL K) := h ▸ ix_list
theorem op_inK (K : PySem.W.Frag) (h : X.K = K := by rfl) : OpR X (compareOp .In) (rIn K false) := h ▸ op_in_seq
theorem op_ninK (K : PySem.W.Frag) (h : X.K = K := by rfl) : OpR X (compareOp .NotIn) (rIn K true) := h ▸ op_notIn_seq
theorem call_lenK (K : PySem.W.Frag) (h : X.K = K := by rfl) : CallR X (.builtin "len") (rLenS K) := h ▸ call_len_seq
end
/-! ### heaps -/
/-- all but d is kept -/
def ExD (d : Addr) (H H' : Hp) : Prop := ∀ a o, a ≠ d → H a = some o → H' a = some o
theorem ExD.of_ex {d : Addr} {H H' : Hp} (e : Ex H H') : ExD d H H' := fun a o _ h => e a o h
theorem ExD.trans {d : Addr} {H H1 H2 : Hp} (a : ExD d H H1) (b : ExD d H1 H2) : ExD d H H2 := fun c o n h => b c o n (a c o n h)
theorem ExD.refl {d : Addr} {H : Hp} : ExD d H H := fun _ _ _ h => h
theorem ExD.upd {d : Addr} {H : Hp} {o : HO} : ExD d H (upd H d o) := fun a u n h => by rw [upd_ne n]; exact h
theorem ExD.ex {d : Addr} {H0 H H' : Hp} (e : Ex H0 H) (h0 : H0 d = none) (x : ExD d H H') : Ex H0 H' := fun a o h => x a o (fun z => by rw [z, h0] at h; cases h) (e a o h)
theorem ne_none {H : Hp} {a b : Addr} {o : HO} (h : H a = some o) (h' : H b = none) : b ≠ a := fun e => by rw [e, h] at h'; cases h'
/-- the tuples (of values) at the addresses as -/
def Tups (H : Hp) (as : List Addr) (rows : List (List V)) : Prop := as.length = rows.length ∧ ∀ (i : Nat) (a : Addr) (r : List V), as[i]? = some a → rows[i]? = some r → H a = some (.tup r)
/-- a list of tuples -/
def TL (H : Hp) (l : Addr) (rows : List (List V)) : Prop := ∃ as : List Addr, H l = some (.lst (as.map V.ref)) ∧ Tups H as rows
theorem Tups.mono {H H' : Hp} {as : List Addr} {rows : List (List V)} (h : Tups H as rows) (e : Ex H H') : Tups H' as rows := ⟨h.1, fun i a r h1 h2 => e _ _ (h.2 i a r h1 h2)⟩
theorem TL.mono {H H' : Hp} {l : Addr} {rows : List (List V)} (h : TL H l rows) (e : Ex H H') : TL H' l rows := by
  obtain ⟨as, h1, h2⟩ := h
  exact ⟨as, e _ _ h1, h2.mono e⟩
theorem Tups.but {H H' : Hp} {d : Addr} {as : List Addr} {rows : List (List V)} (h : Tups H as rows) (hd : ∀ r, H d ≠ some (.tup r)) (e : ExD d H H') : Tups H' as rows :=
  ⟨h.1, fun i a r h1 h2 => e _ _ (fun z => hd r (z ▸ h.2 i a r h1 h2)) (h.2 i a r h1 h2)⟩
theorem TL.but {H H' : Hp} {l d : Addr} {rows : List (List V)} (h : TL H l rows) (hd : ∀ r, H d ≠ some (.tup r)) (hl : ∀ r, H d ≠ some (.lst r)) (e : ExD d H H') : TL H' l rows := by
  obtain ⟨as, h1, h2⟩ := h
  exact ⟨as, e _ _ (fun z => hl _ (z ▸ h1)) h1, h2.but hd e⟩
theorem Tups.nil {H : Hp} : Tups H [] [] := ⟨rfl, fun i a r h => by simp at h⟩
theorem Tups.snoc {H : Hp} {as : List Addr} {rows : List (List V)} {a : Addr} {r : List V} (h : Tups H as rows) (ha : H a = some (.tup r)) : Tups H (as ++ [a]) (rows ++ [r]) := by
  refine ⟨by simp [h.1], fun i b q h1 h2 => ?_⟩
  by_cases c : i < as.length
  · rw [List.getElem?_append_left c] at h1
    rw [List.getElem?_append_left (by rw [← h.1]; exact c)] at h2
    exact h.2 i b q h1 h2
  · have hi : i = as.length := by
      have := (List.getElem?_eq_some_iff.mp h1).1
      rw [List.length_append, List.length_singleton] at this
      omega
    subst hi
    rw [List.getElem?_append_right (Nat.le_refl _), Nat.sub_self] at h1
    rw [List.getElem?_append_right (Nat.le_of_eq h.1.symm), h.1, Nat.sub_self] at h2
    cases h1; cases h2
    exact ha
theorem Tups.at {H : Hp} {as : List Addr} {rows : List (List V)} (h : Tups H as rows) {i : Nat} {r : List V} (hr : rows[i]? = some r) : ∃ a, as[i]? = some a ∧ H a = some (.tup r) := by
  have hi : i < as.length := by rw [h.1]; exact (List.getElem?_eq_some_iff.mp hr).1
  exact ⟨as[i], List.getElem?_eq_getElem hi, h.2 i _ r (List.getElem?_eq_getElem hi) hr⟩
theorem Tups.vals {H : Hp} {as : List Addr} {rows : List (List V)} (h : Tups H as rows) {i : Nat} {x : V} (hx : (as.map V.ref)[i]? = some x) : ∃ a r, x = .ref a ∧ as[i]? = some a ∧ rows[i]? = some r ∧ H a = some (.tup r) := by
  rw [List.getElem?_map] at hx
  cases e : as[i]? with
  | none => rw [e] at hx; cases hx
  | some a =>
    rw [e] at hx
    have hx : V.ref a = x := Option.some.inj hx
    have hi : i < rows.length := by rw [← h.1]; exact (List.getElem?_eq_some_iff.mp e).1
    exact ⟨a, rows[i], hx.symm, rfl, List.getElem?_eq_getElem hi, h.2 i a _ e (List.getElem?_eq_getElem hi)⟩

/-! ### dicts with text keys -/
def dm (ns : List Str) (g : Str → V) : List (Key × V) := ns.map fun n => (Sum.inr n, g n)
theorem valV_dm (ns : List Str) (g : Str → V) (m : Str) : valV (dm ns g) (Sum.inr m) = if m ∈ ns then some (g m) else none := by
  induction ns with
  | nil => rfl
  | cons n r ih =>
    show valV ((Sum.inr n, g n) :: dm r g) (Sum.inr m) = _
    by_cases e : n = m
    · subst e; rw [valV_pos rfl]; simp
    · rw [valV_neg (fun z => e (Sum.inr.inj z)), ih]
      have : m ≠ n := fun z => e z.symm
      simp [this]
theorem dm_congr {ns : List Str} {g g' : Str → V} (h : ∀ n ∈ ns, g n = g' n) : dm ns g = dm ns g' := List.map_congr_left fun n hn => by rw [h n hn]
theorem putK_dm {ns : List Str} {g : Str → V} {m : Str} {v : V} (h : m ∈ ns) : putK (dm ns g) (Sum.inr m) v = dm ns (fun n => if n = m then v else g n) := by
  unfold putK
  have q : ((dm ns g).any fun kv => decide (kv.1 = Sum.inr m)) = true := List.any_eq_true.mpr ⟨(Sum.inr m, g m), List.mem_map.mpr ⟨m, h, rfl⟩, by simp⟩
  rw [if_pos q]
  unfold dm
  rw [List.map_map]
  refine List.map_congr_left fun n _ => ?_
  show (if (Sum.inr n : Key) = Sum.inr m then (Sum.inr n, v) else (Sum.inr n, g n)) = (Sum.inr n, if n = m then v else g n)
  by_cases e : n = m
  · subst e; simp
  · rw [if_neg e, if_neg fun z => e (Sum.inr.inj z)]
theorem putK_dm_new {ns : List Str} {g : Str → V} {m : Str} {v : V} (h : m ∉ ns) : putK (dm ns g) (Sum.inr m) v = dm (ns ++ [m]) (fun n => if n = m then v else g n) := by
  rw [putK_new v (by rw [valV_dm]; simp [h])]
  unfold dm
  rw [List.map_append]
  congr 1
  · exact List.map_congr_left fun n hn => by
      have : n ≠ m := fun z => h (z ▸ hn)
      simp [this]
  · simp
theorem dm_keys (ns : List Str) (g : Str → V) : (dm ns g).map (fun kv => kV kv.1) = ns.map V.str := by
  unfold dm; rw [List.map_map]; rfl
theorem dm_len (ns : List Str) (g : Str → V) : (dm ns g).length = ns.length := List.length_map _
theorem dm_fst (ns : List Str) (g : Str → V) : (dm ns g).map (·.1) = ns.map Sum.inr := by
  unfold dm; rw [List.map_map]; rfl
/-- what a dict gives at a key that it has -/
theorem dget {H : Hp} {a : Addr} {ns : List Str} {g : Str → V} {m : Str} (h : Rd H a (.dK (dm ns g))) (hm : m ∈ ns) : DGet H a (.str m) (some (g m)) := .inl ⟨_, Sum.inr m, h, rfl, by rw [valV_dm, if_pos hm]⟩
theorem dget_o {H : Hp} {a : Addr} {ns : List Str} {g : Str → V} {m : Str} (h : Rd H a (.dK (dm ns g))) : DGet H a (.str m) (if m ∈ ns then some (g m) else none) := .inl ⟨_, Sum.inr m, h, rfl, by rw [valV_dm]⟩

/-! ### what evaluates to what: any value | a new object -/
def EvP (te : TE) (σ : L2.St) (H : Hp) (P : V → Hp → Prop) : Prop := ∀ H1, Ex H H1 → ∀ Q : VK, (∀ v H2, Ex H1 H2 → P v H2 → Q v H2) → te σ H1 Q
def EvN (te : TE) (σ : L2.St) (H : Hp) (P : Addr → Hp → Prop) : Prop := ∀ H1, Ex H H1 → ∀ Q : VK, (∀ p H2, H1 p = none → Ex H1 H2 → P p H2 → Q (.ref p) H2) → te σ H1 Q
section
variable {K : PySem.W.Frag} {σ : L2.St} {H H' : Hp} {ta tb te tx : TE} {t u : TT} {x y z v : V} {r : R2} {D : Ends} {tu tw tz : TS} {g : TG}
theorem EvN.mono {P : Addr → Hp → Prop} (e : Ex H H') (h : EvN te σ H P) : EvN te σ H' P := fun H1 a Q q => h H1 (e.trans a) Q q
theorem EvP.mono {P : V → Hp → Prop} (e : Ex H H') (h : EvP te σ H P) : EvP te σ H' P := fun H1 a Q q => h H1 (e.trans a) Q q
theorem EvN.imp {P P' : Addr → Hp → Prop} (h : EvN te σ H P) (i : ∀ p H2, Ex H H2 → P p H2 → P' p H2) : EvN te σ H P' := fun H1 a Q q => h H1 a Q fun p H2 hp e k => q p H2 hp e (i p H2 (a.trans e) k)
theorem EvN.p {P : Addr → Hp → Prop} (h : EvN te σ H P) : EvP te σ H (fun v H2 => ∃ p, v = .ref p ∧ P p H2) := fun H1 a Q q => h H1 a Q fun p H2 _ e k => q _ H2 e ⟨p, rfl, k⟩
theorem EvL.n {xs : List V} (h : EvL te σ H xs) : EvN te σ H (fun p H2 => H2 p = some (.lst xs)) := h
/-- statements -/
theorem s_asgN {i : Nat} {P : Addr → Hp → Prop} (h : EvN te σ H P) (k : ∀ p H1, H p = none → Ex H H1 → P p H1 → D.nx (σ.set i (some (.ref p))) H1) : tAsg te (gName i) D σ H := h H (Ex.refl H) _ k
theorem s_asgP {i : Nat} {P : V → Hp → Prop} (h : EvP te σ H P) (k : ∀ v H1, Ex H H1 → P v H1 → D.nx (σ.set i (some v)) H1) : tAsg te (gName i) D σ H := h H (Ex.refl H) _ k
theorem q_asgN {i : Nat} {P : Addr → Hp → Prop} (h : EvN te σ H P) (k : ∀ p H1, H p = none → Ex H H1 → P p H1 → tz D (σ.set i (some (.ref p))) H1) : tSeq (tAsg te (gName i)) tz D σ H := s_asgN (D := { D with nx := tz D }) h k
theorem q_asgP {i : Nat} {P : V → Hp → Prop} (h : EvP te σ H P) (k : ∀ v H1, Ex H H1 → P v H1 → tz D (σ.set i (some v)) H1) : tSeq (tAsg te (gName i)) tz D σ H := s_asgP (D := { D with nx := tz D }) h k
theorem s_retN {P : Addr → Hp → Prop} (h : EvN te σ H P) (k : ∀ p H1, H p = none → Ex H H1 → P p H1 → D.rt (.ref p) H1) : tRet te D σ H := h H (Ex.refl H) _ k
theorem s_retP {P : V → Hp → Prop} (h : EvP te σ H P) (k : ∀ v H1, Ex H H1 → P v H1 → D.rt v H1) : tRet te D σ H := h H (Ex.refl H) _ k
theorem s_dropP {P : V → Hp → Prop} (h : EvP te σ H P) (k : ∀ v H1, Ex H H1 → P v H1 → D.nx σ H1) : tDrop te D σ H := h H (Ex.refl H) _ k
theorem q_tgt (h : Ev te σ H v) (k : ∀ H1, Ex H H1 → g v σ H1 fun σ' H' => tz D σ' H') : tSeq (tAsg te g) tz D σ H := h H (Ex.refl H) _ k
theorem q_tgtN {P : Addr → Hp → Prop} (h : EvN te σ H P) (k : ∀ p H1, H p = none → Ex H H1 → P p H1 → g (.ref p) σ H1 fun σ' H' => tz D σ' H') : tSeq (tAsg te g) tz D σ H := h H (Ex.refl H) _ k
theorem q_tgtU {xs : List V} (h : EvU te σ H xs) (k : ∀ p H1, H p = none → Ex H H1 → H1 p = some (.tup xs) → g (.ref p) σ H1 fun σ' H' => tz D σ' H') : tSeq (tAsg te g) tz D σ H := h H (Ex.refl H) _ k
/-- values of dicts -/
theorem ev_dget {a : Addr} {ns : List Str} {gv : Str → V} {m : Str} (h1 : Ev ta σ H (.ref a)) (h2 : Ev tb σ H (.str m)) (hd : Rd H a (.dK (dm ns gv))) (hm : m ∈ ns) : Ev (tDGet ta tb) σ H (gv m) := fun H1 e Q q =>
  h1 H1 e _ fun H2 e2 => h2 H2 (e.trans e2) _ fun H3 e3 => ⟨a, gv m, rfl, dget (ex_rd ((e.trans e2).trans e3) hd) hm, q H3 (e2.trans e3)⟩
theorem ev_din {a : Addr} {ns : List Str} {gv : Str → V} {m : Str} (h1 : Ev ta σ H (.str m)) (h2 : Ev tb σ H (.ref a)) (hd : Rd H a (.dK (dm ns gv))) : Ev (tDIn ta tb) σ H (.bl (decide (m ∈ ns))) := fun H1 e Q q =>
  h1 H1 e _ fun H2 e2 => h2 H2 (e.trans e2) _ fun H3 e3 => ⟨a, _, rfl, dget_o (ex_rd ((e.trans e2).trans e3) hd), by
    have z := q H3 (e2.trans e3)
    have e : (if m ∈ ns then some (gv m) else none).isSome = decide (m ∈ ns) := by split <;> simp_all
    rw [e]; exact z⟩
theorem ev_dnin {a : Addr} {ns : List Str} {gv : Str → V} {m : Str} (h1 : Ev ta σ H (.str m)) (h2 : Ev tb σ H (.ref a)) (hd : Rd H a (.dK (dm ns gv))) : Ev (tDNotIn ta tb) σ H (.bl (decide (m ∉ ns))) := fun H1 e Q q =>
  h1 H1 e _ fun H2 e2 => h2 H2 (e.trans e2) _ fun H3 e3 => ⟨a, _, rfl, dget_o (ex_rd ((e.trans e2).trans e3) hd), by
    have z := q H3 (e2.trans e3)
    have e : (!(if m ∈ ns then some (gv m) else none).isSome) = decide (m ∉ ns) := by split <;> simp_all
    rw [e]; exact z⟩
/-- the i-th of a tuple, of a list -/
theorem ev_ixT {a : Addr} {xs : List V} {i : Nat} (h1 : Ev ta σ H (.ref a)) (h2 : Ev tb σ H (.int (i : Int))) (h : H a = some (.tup xs)) (hv : xs[i]? = some v) : Ev (tOp (rIxT K) ta tb) σ H v := ev_op h1 h2 (rv_ixT (st_of h) (atI_nat hv))
theorem ev_ixL {a : Addr} {xs : List V} {i : Nat} (h1 : Ev ta σ H (.ref a)) (h2 : Ev tb σ H (.int (i : Int))) (h : H a = some (.lst xs)) (hv : xs[i]? = some v) : Ev (tOp (rIxL K) ta tb) σ H v := ev_op h1 h2 (rv_ixL (sq_of h) (atI_nat hv))
theorem ev_add {i j : Int} (h1 : Ev ta σ H (.int i)) (h2 : Ev tb σ H (.int j)) : Ev (tOp (rI0 fun i j => .int (i + j)) ta tb) σ H (.int (i + j)) := ev_op h1 h2 rv_I0
theorem ev_sub {i j : Int} (h1 : Ev ta σ H (.int i)) (h2 : Ev tb σ H (.int j)) : Ev (tOp (rI0 fun i j => .int (i - j)) ta tb) σ H (.int (i - j)) := ev_op h1 h2 rv_I0
theorem ev_cmp {f : Int → Int → Bool} {i j : Int} (h1 : Ev ta σ H (.int i)) (h2 : Ev tb σ H (.int j)) : Ev (tOp (rI0 fun i j => .bl (f i j)) ta tb) σ H (.bl (f i j)) := ev_op h1 h2 rv_I0
theorem et_cmp {f : Int → Int → Bool} {i j : Int} (h1 : Ev ta σ H (.int i)) (h2 : Ev tb σ H (.int j)) : EvT (tTest (tOp (rI0 fun i j => .bl (f i j)) ta tb)) σ H (f i j) := et_test (ev_cmp h1 h2)
theorem ev_eq (h1 : Ev ta σ H x) (h2 : Ev tb σ H y) (hs : scal x y = true) : Ev (tOp rEq ta tb) σ H (.bl (decide (x = y))) := ev_op h1 h2 (rv_eq hs)
theorem ev_ne (h1 : Ev ta σ H x) (h2 : Ev tb σ H y) (hs : scal x y = true) : Ev (tOp rNe ta tb) σ H (.bl (!decide (x = y))) := ev_op h1 h2 (rv_ne hs)
theorem ev_eqS {a b : Str} (h1 : Ev ta σ H (.str a)) (h2 : Ev tb σ H (.str b)) : Ev (tOp rEq ta tb) σ H (.bl (decide (a = b))) := ev_is (ev_eq h1 h2 rfl) (by simp)
theorem ev_eqI {a b : Int} (h1 : Ev ta σ H (.int a)) (h2 : Ev tb σ H (.int b)) : Ev (tOp rEq ta tb) σ H (.bl (decide (a = b))) := ev_is (ev_eq h1 h2 rfl) (by simp)
theorem ev_neS {a b : Str} (h1 : Ev ta σ H (.str a)) (h2 : Ev tb σ H (.str b)) : Ev (tOp rNe ta tb) σ H (.bl (decide (a ≠ b))) := ev_is (ev_ne h1 h2 rfl) (by simp)
theorem ev_neI {a b : Int} (h1 : Ev ta σ H (.int a)) (h2 : Ev tb σ H (.int b)) : Ev (tOp rNe ta tb) σ H (.bl (decide (a ≠ b))) := ev_is (ev_ne h1 h2 rfl) (by simp)
theorem ev_isN (h1 : Ev ta σ H x) : Ev (tIsN ta) σ H (.bl (decide (x = .non))) := fun H1 e Q q => h1 H1 e _ fun H2 e2 => q H2 e2
theorem ev_notN (h1 : Ev ta σ H x) : Ev (tNotN ta) σ H (.bl (!decide (x = .non))) := fun H1 e Q q => h1 H1 e _ fun H2 e2 => q H2 e2
theorem ev_isL {xs ys : List V} (h : EvL te σ H xs) (e : xs = ys) : EvL te σ H ys := e ▸ h
/-- in a list of texts -/
theorem inV_strs (z : Str) : ∀ xs : List Str, inV (.str z) (xs.map V.str) = decide (z ∈ xs)
  | [] => by simp [inV]
  | x :: r => by
    have ih := inV_strs z r
    unfold inV at ih ⊢
    rw [List.map_cons, List.any_cons, ih]
    by_cases e : x = z
    · subst e; simp [eqV]
    · have : z ≠ x := fun q => e q.symm
      simp [eqV, e, this]
theorem flat_strs' (xs : List Str) : (xs.map V.str).all flatV = true := List.all_eq_true.mpr fun v hv => by
  obtain ⟨z, _, rfl⟩ := List.mem_map.mp hv
  rfl
theorem ev_inS {a : Addr} {xs : List Str} {m : Str} (h1 : Ev ta σ H (.str m)) (h2 : Ev tb σ H (.ref a)) (hx : SqL K H a (xs.map V.str)) : Ev (tOp (rIn K false) ta tb) σ H (.bl (decide (m ∈ xs))) :=
  ev_is (ev_op h1 h2 (rv_isL hx rfl (flat_strs' xs))) (by rw [inV_strs])
theorem ev_ninS {a : Addr} {xs : List Str} {m : Str} (h1 : Ev ta σ H (.str m)) (h2 : Ev tb σ H (.ref a)) (hx : SqL K H a (xs.map V.str)) : Ev (tOp (rIn K true) ta tb) σ H (.bl (decide (m ∉ xs))) :=
  ev_is (ev_op h1 h2 (rv_niL hx rfl (flat_strs' xs))) (by rw [inV_strs]; simp)
/-- a chain of three, of four -/
theorem ev_chain {f f' : Int → Int → Bool} {tc : TE} {i j k : Int} (h1 : Ev ta σ H (.int i)) (h2 : Ev tb σ H (.int j)) (h3 : Ev tc σ H (.int k)) : Ev (tChain (rI0 fun i j => .bl (f i j)) (rI0 fun i j => .bl (f' i j)) ta tb tc) σ H (.bl (f i j && f' j k)) := fun H1 e Q q =>
  h1 H1 e _ fun H2 e2 => h2 H2 (e.trans e2) _ fun H3 e3 => ⟨i, j, rfl, rfl, f i j, rfl, by
    cases c : f i j with
    | true =>
      rw [if_pos rfl]
      exact h3 H3 ((e.trans e2).trans e3) _ fun H4 e4 => ⟨j, k, rfl, rfl, by
        have z := q H4 ((e2.trans e3).trans e4)
        rw [c] at z; simpa using z⟩
    | false =>
      rw [if_neg (by decide)]
      have z := q H3 (e2.trans e3)
      rw [c] at z; simpa using z⟩
theorem ev_chain3 {f f' f'' : Int → Int → Bool} {tc td : TE} {i j k l : Int} (h1 : Ev ta σ H (.int i)) (h2 : Ev tb σ H (.int j)) (h3 : Ev tc σ H (.int k)) (h4 : Ev td σ H (.int l)) (c1 : f i j = true) (c2 : f' j k = true) (c3 : f'' k l = true) :
    Ev (tChain3 (rI0 fun i j => .bl (f i j)) (rI0 fun i j => .bl (f' i j)) (rI0 fun i j => .bl (f'' i j)) ta tb tc td) σ H (.bl true) := fun H1 e Q q =>
  h1 H1 e _ fun H2 e2 => h2 H2 (e.trans e2) _ fun H3 e3 => ⟨i, j, rfl, rfl, f i j, rfl, by
    rw [c1, if_pos rfl]
    exact h3 H3 ((e.trans e2).trans e3) _ fun H4 e4 => ⟨j, k, rfl, rfl, f' j k, rfl, by
      rw [c2, if_pos rfl]
      exact h4 H4 (((e.trans e2).trans e3).trans e4) _ fun H5 e5 => ⟨k, l, rfl, rfl, by show Q (.bl (f'' k l)) H5; rw [c3]; exact q H5 (((e2.trans e3).trans e4).trans e5)⟩⟩⟩
/-- targets of two, three, five names -/
theorem g2 {i j : Nat} {a : Addr} {x y : V} {Q : L2.St → Hp → Prop} (h : H a = some (.tup [x, y])) (q : Q ((σ.set i (some x)).set j (some y)) H) : gTup K 2 (gCons (gName i) (gCons (gName j) gNil)) (.ref a) σ H Q :=
  ⟨a, _, rfl, st_of h, rfl, x, _, rfl, y, _, rfl, rfl, q⟩
theorem g3 {i j k : Nat} {a : Addr} {x y z : V} {Q : L2.St → Hp → Prop} (h : H a = some (.tup [x, y, z])) (q : Q (((σ.set i (some x)).set j (some y)).set k (some z)) H) : gTup K 3 (gCons (gName i) (gCons (gName j) (gCons (gName k) gNil))) (.ref a) σ H Q :=
  ⟨a, _, rfl, st_of h, rfl, x, _, rfl, y, _, rfl, z, _, rfl, rfl, q⟩
theorem g5 {i j k l m : Nat} {a : Addr} {x y z v w : V} {Q : L2.St → Hp → Prop} (h : H a = some (.tup [x, y, z, v, w])) (q : Q (((((σ.set i (some x)).set j (some y)).set k (some z)).set l (some v)).set m (some w)) H) :
    gTup K 5 (gCons (gName i) (gCons (gName j) (gCons (gName k) (gCons (gName l) (gCons (gName m) gNil))))) (.ref a) σ H Q :=
  ⟨a, _, rfl, st_of h, rfl, x, _, rfl, y, _, rfl, z, _, rfl, v, _, rfl, w, _, rfl, rfl, q⟩

theorem ev_callN {sp : Sp} {dvs : List V} {E : XK} {P : Addr → Hp → Prop} (h : EvN te σ H P) (hs : ∀ p H1, Ex H H1 → P p H1 → SpV sp (.ref p :: dvs) H1 z) : Ev (tCall sp dvs E (tCons te tNil)) σ H z := fun H1 e Q q =>
  h H1 e _ fun p H2 _ e2 hp => hs p H2 (e.trans e2) hp H2 (Ex.refl _) Q (fun H3 e3 => q H3 (e2.trans e3)) E
/-! ### comprehensions over anything that stands -/
/-- wi walks just xs -/
def EvI (wi : TI) (σ : L2.St) (H : Hp) (xs : List V) : Prop := ∀ H1, Ex H H1 → ∀ R : It → Hp → Prop, (∀ (J : It) (G : Hp → Prop) H2, Ex H1 H2 → G H2 → (∀ A B, Ex A B → G A → G B) → Walk J xs.length G (YAt xs) → R J H2) → wi σ H1 R
theorem EvI.mono {wi : TI} {xs : List V} (e : Ex H H') (h : EvI wi σ H xs) : EvI wi σ H' xs := fun H1 a R q => h H1 (e.trans a) R q
theorem ei_list {tl : TE} {a : Addr} {xs : List V} (h : Ev tl σ H (.ref a)) (hx : SqL K H a xs) : EvI (iList K tl) σ H xs := fun H1 e R q => h H1 e _ fun H2 e2 =>
  ⟨a, rfl, ⟨xs, ex_l (e.trans e2) hx⟩, q _ (fun H => SqL K H a xs) H2 e2 (ex_l (e.trans e2) hx) (fun _ _ e h => ex_l e h) walk_list⟩
theorem ei_listN {tl : TE} {xs : List V} (h : EvL tl σ H xs) : EvI (iList K tl) σ H xs := fun H1 e R q => h H1 e _ fun a H2 _ e2 hx =>
  ⟨a, rfl, ⟨xs, sq_of hx⟩, q _ (fun H => SqL K H a xs) H2 e2 (sq_of hx) (fun _ _ e h => ex_l e h) walk_list⟩
theorem EvI.of_listN {tl : TE} {xs : List V} (h : EvL tl σ H xs) : EvI (iList K tl) σ H xs := ei_listN h
theorem ex_rd_some {H0 H1 : Hp} {d : Addr} {kv : List (Key × V)} (e : Ex H0 H1) (h : Rd H0 d (.dK kv)) : H1 d = some (match H1 d with | some o => o | none => .lst []) := by
  rcases ex_rd e h with z | ⟨o, z⟩ <;> rw [z]
theorem ei_keys {td : TE} {d : Addr} {o : Obj} {ns : List Str} {gv : Str → V} (h : Ev td σ H (.ref d)) (hd : H d = some (.frz o (.dK (dm ns gv)))) : EvI (iKeys td) σ H (ns.map V.str) := fun H1 e R q => h H1 e _ fun H2 e2 => by
  have hd2 := (e.trans e2) _ _ hd
  refine ⟨d, o, rfl, .inl ⟨_, hd2, q _ (fun H => H d = some (.frz o (.dK (dm ns gv)))) H2 e2 hd2 (fun _ _ e h => e _ _ h) ?_⟩⟩
  have w := walk_keys (d := d) (o := o) (kvs := dm ns gv)
  have el : (ns.map V.str).length = (dm ns gv).length := by rw [dm_len, List.length_map]
  rw [el]
  refine w.mono (fun _ h => h) fun i H x H' _ _ ⟨e1, k, v, h1, h2⟩ => ⟨e1, ?_⟩
  rw [← dm_keys ns gv, List.getElem?_map, h1, h2]; rfl
theorem ei_vals {td : TE} {d : Addr} {o : Obj} {ns : List Str} {gv : Str → V} (h : Ev td σ H (.ref d)) (hd : H d = some (.frz o (.dK (dm ns gv)))) : EvI (iVals td) σ H (ns.map gv) := fun H1 e R q => h H1 e _ fun H2 e2 => by
  have hd2 := (e.trans e2) _ _ hd
  refine ⟨d, o, _, rfl, hd2, q _ (fun H => H d = some (.frz o (.dK (dm ns gv)))) H2 e2 hd2 (fun _ _ e h => e _ _ h) ?_⟩
  have w := walk_values (d := d) (o := o) (kvs := dm ns gv)
  have el : (ns.map gv).length = (dm ns gv).length := by rw [dm_len, List.length_map]
  rw [el]
  refine w.mono (fun _ h => h) fun i H x H' _ _ ⟨e1, k, h1⟩ => ⟨e1, ?_⟩
  have : (dm ns gv).map Prod.snd = ns.map gv := by unfold dm; rw [List.map_map]; rfl
  rw [← this, List.getElem?_map, h1]; rfl
/-- the values of a new dict -/
theorem ei_valsF {td : TE} {ns : List Str} {gv : Str → V} (h : EvN td σ H (fun d H2 => H2 d = some (.dK (dm ns gv)))) : EvI (iVals (tFroz td)) σ H (ns.map gv) := fun H1 e R q => h H1 e _ fun d H2 hd0 e2 hd => by
  refine ⟨d, _, hd, trivial, fun o => ⟨d, o, _, rfl, upd_same, q _ (fun H => H d = some (.frz o (.dK (dm ns gv)))) _ (e2.mut hd0) upd_same (fun _ _ e h => e _ _ h) ?_⟩⟩
  have w := walk_values (d := d) (o := o) (kvs := dm ns gv)
  have el : (ns.map gv).length = (dm ns gv).length := by rw [dm_len, List.length_map]
  rw [el]
  refine w.mono (fun _ h => h) fun i H x H' _ _ ⟨e1, k, h1⟩ => ⟨e1, ?_⟩
  have : (dm ns gv).map Prod.snd = ns.map gv := by unfold dm; rw [List.map_map]; rfl
  rw [← this, List.getElem?_map, h1]; rfl
theorem ei_str {te : TE} {z : Str} (h : Ev te σ H (.str z)) : EvI (iStr te) σ H (z.cps.toList.map fun c => V.str ⟨#[c]⟩) := fun H1 e R q => h H1 e _ fun H2 e2 => by
  refine ⟨z, rfl, q _ (fun _ => True) H2 e2 trivial (fun _ _ _ _ => trivial) ?_⟩
  have el : (z.cps.toList.map fun c => V.str ⟨#[c]⟩).length = z.cps.size := by rw [List.length_map, Array.length_toList]
  rw [el]
  refine walk_str.mono (fun _ h => h) fun i H x H' _ _ ⟨e1, c, h1, h2⟩ => ⟨e1, ?_⟩
  rw [List.getElem?_map, Array.getElem?_toList, h1, h2]; rfl
theorem ei_range {ta : TA} {n : Int} (h : EvA ta σ H [.int n]) (h0 : 0 ≤ n) (h1 : n ≤ 100000) : EvI (iRng1 ta) σ H ((List.range n.toNat).map fun i => V.int (i : Nat)) := fun H1 e R q => h H1 e _ fun H2 e2 => by
  refine ⟨n, rfl, by omega, by omega, q _ (fun _ => True) H2 e2 trivial (fun _ _ _ _ => trivial) ?_⟩
  have el : ((List.range n.toNat).map fun i => V.int (i : Nat)).length = n.toNat := by simp
  rw [el]
  refine walk_range.mono (fun _ h => h) fun i H x H' hi _ ⟨e1, h2⟩ => ⟨e1, ?_⟩
  rw [List.getElem?_map, List.getElem?_range hi, h2]; simp
/-- what one turn's target, tests leave -/
structure TurnOk {β : Type} (g : TG) (tt : TT) (vs : List Nat) (σ : L2.St) (H : Hp) (x : V) (b : Bool) (C : L2.St → Prop) : Prop where
  ok : ∃ σ2, (∀ Q : L2.St → Hp → Prop, Q σ2 H → g x (wipe σ vs) H Q) ∧ wipe σ2 vs = wipe σ vs ∧ EvT tt σ2 H b ∧ (b = true → C σ2)
theorem el_lc {β : Type} {wi : TI} {tt : TT} {vs : List Nat} {xs : List V} {ys : List β} (hw : EvI wi σ H xs) (hl : xs.length = ys.length) (hz : xs.length ≤ 40000) (f : β → Bool) (v : β → V)
    (h : ∀ (i : Nat) x y H', xs[i]? = some x → ys[i]? = some y → Ex H H' → ∃ σ2, (∀ Q : L2.St → Hp → Prop, Q σ2 H' → g x (wipe σ vs) H' Q) ∧ wipe σ2 vs = wipe σ vs ∧ EvT tt σ2 H' (f y) ∧ (f y = true → Ev te σ2 H' (v y))) :
    EvL (tLc wi g tt te vs) σ H ((ys.filter f).map v) := fun H1 e Q q => hw H1 e _ fun J G H2 e2 hG mono W D hD => by
  refine lc_it W (Pv := fun i H' => Ex H2 H' ∧ H' D = some (.lst (((ys.take i).filter f).map v))) ⟨Ex.new hD, by rw [upd_same]; rfl⟩ (fun i H' _ p => mono _ _ p.1 hG) (fun i x H3 H4 hi ⟨p1, p2⟩ ⟨e3, hx⟩ => ?_) (fun H3 ⟨p1, p2⟩ => ?_)
  · subst H4
    obtain ⟨y, hy⟩ : ∃ y, ys[i]? = some y := ⟨_, List.getElem?_eq_getElem (by omega)⟩
    obtain ⟨σ2, h1, h2, h3, h4⟩ := h i x y H3 hx hy ((e.trans e2).trans p1)
    refine h1 _ ⟨h2, h3 H3 (Ex.refl _) _ fun H5 e5 => ?_⟩
    have et : ys.take (i + 1) = ys.take i ++ [y] := by rw [List.take_add_one, hy]; rfl
    cases c : f y with
    | true =>
      rw [if_pos rfl]
      refine h4 c H5 e5 _ fun H6 e6 => ⟨_, e6 _ _ (e5 _ _ p2), ?_, Ex.mut ((p1.trans e5).trans e6) hD, ?_⟩
      · rw [List.length_map]
        have q1 := List.length_filter_le f (ys.take i)
        have q2 := List.length_take_le i ys
        exact Nat.lt_of_le_of_lt (show _ ≤ 40000 by omega) (by decide)
      · rw [upd_same, et, List.filter_append, List.map_append]
        simp [c]
    | false =>
      rw [if_neg (by decide)]
      refine ⟨p1.trans e5, ?_⟩
      rw [et, List.filter_append]
      simp [c]
      exact e5 _ _ p2
  · refine q D H3 (fresh_back e2 hD) (e2.trans p1) ?_
    rw [p2, hl, List.take_length]
/-- the elements new tuples -/
theorem en_lcT {β : Type} {wi : TI} {tt : TT} {vs : List Nat} {xs : List V} {ys : List β} (hw : EvI wi σ H xs) (hl : xs.length = ys.length) (hz : xs.length ≤ 40000) (f : β → Bool) (v : β → List V)
    (h : ∀ (i : Nat) x y H', xs[i]? = some x → ys[i]? = some y → Ex H H' → ∃ σ2, (∀ Q : L2.St → Hp → Prop, Q σ2 H' → g x (wipe σ vs) H' Q) ∧ wipe σ2 vs = wipe σ vs ∧ EvT tt σ2 H' (f y) ∧ (f y = true → EvU te σ2 H' (v y))) :
    EvN (tLc wi g tt te vs) σ H (fun p H' => TL H' p ((ys.filter f).map v)) := fun H1 e Q q => hw H1 e _ fun J G H2 e2 hG mono W D hD => by
  refine lc_it W (Pv := fun i H' => Ex H2 H' ∧ TL H' D (((ys.take i).filter f).map v)) ⟨Ex.new hD, [], upd_same, Tups.nil⟩ (fun i H' _ p => mono _ _ p.1 hG) (fun i x H3 H4 hi ⟨p1, as, p2, p3⟩ ⟨e3, hx⟩ => ?_) (fun H3 ⟨p1, p2⟩ => ?_)
  · subst H4
    obtain ⟨y, hy⟩ : ∃ y, ys[i]? = some y := ⟨_, List.getElem?_eq_getElem (by omega)⟩
    obtain ⟨σ2, h1, h2, h3, h4⟩ := h i x y H3 hx hy ((e.trans e2).trans p1)
    refine h1 _ ⟨h2, h3 H3 (Ex.refl _) _ fun H5 e5 => ?_⟩
    have et : ys.take (i + 1) = ys.take i ++ [y] := by rw [List.take_add_one, hy]; rfl
    cases c : f y with
    | true =>
      rw [if_pos rfl]
      refine h4 c H5 e5 _ fun a H6 ha e6 hat => ⟨_, e6 _ _ (e5 _ _ p2), ?_, Ex.mut ((p1.trans e5).trans e6) hD, as ++ [a], ?_, ?_⟩
      · rw [List.length_map, p3.1, List.length_map]
        have q1 := List.length_filter_le f (ys.take i)
        have q2 := List.length_take_le i ys
        exact Nat.lt_of_le_of_lt (show _ ≤ 40000 by omega) (by decide)
      · rw [upd_same, List.map_append]; rfl
      · rw [et, List.filter_append, List.map_append]
        have nd : ∀ r, H6 D ≠ some (.tup r) := fun r z => by rw [e6 _ _ (e5 _ _ p2)] at z; cases z
        have : (([y].filter f).map v) = [v y] := by simp [c]
        rw [this]
        exact (((p3.mono e5).mono e6).snoc hat).but nd ExD.upd
    | false =>
      rw [if_neg (by decide)]
      refine ⟨p1.trans e5, as, e5 _ _ p2, ?_⟩
      rw [et, List.filter_append]
      simp [c]
      exact p3.mono e5
  · refine q D H3 (fresh_back e2 hD) (e2.trans p1) ?_
    rw [hl, List.take_length] at p2
    exact p2
/-- {x: .. for x in ..}, the keys texts, each once -/
theorem en_dc {wi : TI} {tk tv : TE} {vs : List Nat} {ns : List Str} (hw : EvI wi σ H (ns.map V.str)) (hn : ns.Nodup) (hz : ns.length ≤ 40000) (gv : Str → V)
    (h : ∀ n H', n ∈ ns → Ex H H' → ∃ σ2, (∀ Q : L2.St → Hp → Prop, Q σ2 H' → g (.str n) (wipe σ vs) H' Q) ∧ wipe σ2 vs = wipe σ vs ∧ Ev tk σ2 H' (.str n) ∧ Ev tv σ2 H' (gv n)) :
    EvN (tDc wi g tYes tk tv vs) σ H (fun p H' => H' p = some (.dK (dm ns gv))) := fun H1 e Q q => hw H1 e _ fun J G H2 e2 hG mono W D hD => by
  refine ⟨fun i m H' => m = ns.length - i ∧ i ≤ ns.length ∧ Ex H2 H' ∧ H' D = some (.dK (dm (ns.take i) gv)), ⟨ns.length, by simp, Nat.zero_le _, Ex.new hD, by rw [upd_same]; rfl⟩, ?_⟩
  rintro i m H3 ⟨rfl, hi, p1, p2⟩
  have W' := W
  have el : (ns.map V.str).length = ns.length := List.length_map _
  by_cases c : i < ns.length
  · refine .inr ⟨W.goes i H3 (by rw [el]; exact c) (mono _ _ p1 hG), fun H' => Ex H2 H' ∧ H' D = some (.dK (dm (ns.take (i + 1)) gv)), fun H' p => ⟨ns.length - (i + 1), by omega, rfl, c, p⟩, fun x H4 y => ?_⟩
    obtain ⟨e3, hx⟩ := W.yields i H3 x H4 (by rw [el]; exact c) (mono _ _ p1 hG) y
    subst e3
    rw [List.getElem?_map, List.getElem?_eq_getElem c] at hx
    have hx : V.str ns[i] = x := Option.some.inj hx
    subst hx
    obtain ⟨σ2, h1, h2, h3, h4⟩ := h ns[i] H4 (List.getElem_mem c) ((e.trans e2).trans p1)
    refine h1 _ ⟨h2, ?_⟩
    show tk σ2 H4 _
    refine h3 H4 (Ex.refl _) _ fun H5 e5 => h4 H5 e5 _ fun H6 e6 => ⟨_, Sum.inr ns[i], rfl, e6 _ _ (e5 _ _ p2), ?_, Ex.mut ((p1.trans e5).trans e6) hD, ?_⟩
    · rw [dm_len]
      have q2 := List.length_take_le i ns
      exact Nat.lt_of_le_of_lt (show _ ≤ 40000 by omega) (by decide)
    · have nm : ns[i] ∉ ns.take i := fun z => by
        obtain ⟨j, hj, ej⟩ := List.mem_iff_getElem.mp z
        rw [List.length_take] at hj
        rw [List.getElem_take] at ej
        exact absurd (List.pairwise_iff_getElem.mp hn j i (by omega) c (by omega)) (fun k => k ej)
      rw [upd_same, putK_dm_new nm, List.take_add_one, List.getElem?_eq_getElem c]
      congr 2
      exact dm_congr fun n _ => by split <;> simp_all
  · have ei : i = ns.length := by omega
    subst ei
    refine .inl ⟨by have := W.stops H3 (mono _ _ p1 hG); rw [el] at this; exact this, q D H3 (fresh_back e2 hD) (e2.trans p1) ?_⟩
    show H3 D = _
    rw [p2, List.take_length]
end
end MS
set_option Elab.async false
set_option linter.all false
set_option maxRecDepth 100000
set_option maxHeartbeats 4000000
namespace MS
open PySem PySem.Spec PyProof.Rows L2 Evl
section
variable {K : PySem.W.Frag} {σ : L2.St} {H : Hp} {ta te : TE}
theorem ev_allN {bs : List Bool} (h : EvL te σ H (bs.map V.bl)) : Ev (tCB (rAll K) (tCons te tNil)) σ H (.bl (bs.all id)) := fun H1 e Q q => h H1 e _ fun p H2 _ e2 hp => ⟨p, bs, rfl, sq_of hp, q H2 e2⟩
theorem ev_sumN {ns : List Int} (h : EvL te σ H (ns.map V.int)) : Ev (tCB (rSum K) (tCons te tNil)) σ H (.int ns.sum) := fun H1 e Q q => h H1 e _ fun p H2 _ e2 hp => ⟨p, ns, rfl, sq_of hp, q H2 e2⟩
def rLenStr : List V → Hp → VK → Prop := fun xs H Q => ∃ z, xs = [V.str z] ∧ z.length ≤ sizeLine ∧ Q (.int z.length) H
theorem ev_lenStr {z : Str} (h : Ev te σ H (.str z)) (hz : z.length ≤ 1000) : Ev (tCB rLenStr (tCons te tNil)) σ H (.int (z.length : Nat)) := fun H1 e Q q => h H1 e _ fun H2 e2 => ⟨z, rfl, Nat.le_trans hz (by decide), q H2 e2⟩
end
/-- a name -/
def Nm (z : Str) : Prop := 1 ≤ z.length ∧ z.length ≤ 12 ∧ ∀ c ∈ z.cps.toList, c ∈ letters.cps.toList
section
variable {P : Program} {w : World} {K : PySem.W.Frag} {mg : Str → Option Value} {base : Heap} {aP aM aR : Addr}
/-! ### is_name -/
abbrev s_is_name : Stmt := top 12
abbrev N_is_name : List Str := ["text", "sign"]
theorem sc_is_name : FnScope N_is_name ["text"] (C8.fnScope s_is_name) := C8.fnScope_by (by decide +kernel)

def sp_is_name : Sp := fun vs H Q _ => ∃ z, vs = [V.str z] ∧ Nm z ∧ ∀ H', Ex H H' → Q (.bl true) H'
theorem c_is_name_ (T : Txt K mg aP aM aR) (D : Dn K mg "is_name" s_is_name ["text"]) : C8.Cal P w K mg base 1 "is_name" sp_is_name [] := by
  refine cal_of D sc_is_name (fun vs H Q E h => ?_) (fun f cdv A outer s H vs Q E hr h => ?_)
  · obtain ⟨z, rfl, _⟩ := h
    rfl
  · obtain ⟨z, rfl, ⟨n1, n2, n3⟩, q⟩ := h
    refine ⟨_, (pss_one (ps_ret (pe_and (pe_chain op_le op_le pe_int (pe_callB call_len_str (by rfl) T.n_len PySem.boot_len (pa_cons (pv 0) pa_nil)) pe_int) (pe_one (pe_callB (cr_all rfl) (by rfl) T.n_all (by decide +kernel) (pa_cons (pe_lc (own := [("sign", 1)]) (g := (gName 1)) (tt := tYes) rfl sc_is_name.nd (pi_str (pv 0)) (blkOk_by (own := [("sign", 1)]) (N := N_is_name) (sc := C8.fnScope s_is_name) (by decide +kernel)) (fun _ _ _ _ _ => (pg_name (i := 1) sc_is_name.nd rfl (Or.inl rfl))) (fun _ _ _ _ _ => pts_nil) (fun _ _ _ _ _ => (pe_cmpR op_in_sign (pv 1) (C8.pe_gc (by rfl) T.g_LETTERS) (by rfl)))) pa_nil)))))), ?_⟩
    refine s_ret (v := .bl true) (ev_andV (a := true) (b := true) (ev_is (ev_chain ev_c (ev_lenStr (ev_var rfl) (by omega)) ev_c) ?_) fun _ => ?_) fun H1 e => q H1 e
    · have h1 : decide ((1 : Int) ≤ (z.length : Nat)) = true := decide_eq_true (by omega)
      have h2 : decide (((z.length : Nat) : Int) ≤ 12) = true := decide_eq_true (by omega)
      rw [h1, h2]; rfl
    · have hl : z.cps.toList.length ≤ 12 := n2
      refine ev_is (ev_allN (bs := (z.cps.toList.filter fun _ => true).map fun _ => true) (ev_isL (el_lc (ei_str (ev_var rfl)) (ys := z.cps.toList) (by rw [List.length_map]) (by rw [List.length_map]; omega) (fun _ => true) (fun _ => .bl true) fun i x y H' hx hy e => ?_) (by rw [List.map_map]; rfl))) (by simp)
      rw [List.getElem?_map, hy] at hx
      have hx : V.str ⟨#[y]⟩ = x := Option.some.inj hx
      subst hx
      refine ⟨_, fun Q q => q, rfl, fun H1 _ _ q => q H1 (Ex.refl _), fun _ => ?_⟩
      refine fun H1 e1 Q q => ⟨_, rfl, y, letters, rfl, rfl, ?_⟩
      rw [decide_eq_true (n3 y (List.mem_of_getElem? hy))]
      exact q H1 (Ex.refl _)

/-! ### are_names -/
abbrev s_are_names : Stmt := top 13
abbrev N_are_names : List Str := ["texts", "text"]
theorem sc_are_names : FnScope N_are_names ["texts"] (C8.fnScope s_are_names) := C8.fnScope_by (by decide +kernel)

theorem ev_lenSet {te : TE} {σ : L2.St} {H : Hp} {a : Addr} {xs : List Str} (h : Ev te σ H (.ref a)) (hx : SqL K H a (xs.map V.str)) (nd : xs.Nodup) (hl : xs.length ≤ 1000) : Ev (tCB (rLenSS P w) (tCons (tCB (rSetS K P w) (tCons te tNil)) tNil)) σ H (.int (xs.length : Nat)) := fun H1 e Q q =>
  h H1 e _ fun H2 e2 => ⟨a, xs, rfl, ex_l (e.trans e2) hx, hl, fun b l hm ln hb => by
    have hp : l.Perm xs := perm_of_nodup nd (fun k hk => (hm k).mpr hk) (MM.nodup_len ln fun k hk => (hm k).mp hk)
    refine ⟨b, l, rfl, upd_same, by rw [hp.length_eq]; exact hl, ?_⟩
    rw [hp.length_eq]
    exact q _ (e2.trans (Ex.new hb))⟩
theorem all_true {α : Type} (l : List α) : ((l.filter fun _ => true).map fun _ => true).all id = true := by simp
def sp_are_names : Sp := fun vs H Q _ => ∃ (a : Addr) (xs : List Str), vs = [V.ref a] ∧ H a = some (.lst (xs.map V.str)) ∧ xs.Nodup ∧ xs.length ≤ 1000 ∧ (∀ z ∈ xs, Nm z) ∧ ∀ H', Ex H H' → Q (.bl true) H'
theorem c_are_names_ (T : Txt K mg aP aM aR) (D : Dn K mg "are_names" s_are_names ["texts"]) (c_is_name : C8.Cal P w K mg base 1 "is_name" sp_is_name []) : C8.Cal P w K mg base 2 "are_names" sp_are_names [] := by
  refine cal_of D sc_are_names (fun vs H Q E h => ?_) (fun f cdv A outer s H vs Q E hr h => ?_)
  · obtain ⟨a, xs, rfl, _⟩ := h
    rfl
  · obtain ⟨a, xs, rfl, ha, nd, hl, hn, q⟩ := h
    refine ⟨_, (pss_one (ps_ret (pe_and (pe_callB (cr_all rfl) (by rfl) T.n_all (by decide +kernel) (pa_cons (pe_lc (own := [("text", 1)]) (g := (gName 1)) (tt := tYes) rfl sc_are_names.nd (pi_list (pv 0)) (blkOk_by (own := [("text", 1)]) (N := N_are_names) (sc := C8.fnScope s_are_names) (by decide +kernel)) (fun _ _ _ _ _ => (pg_name (i := 1) sc_are_names.nd rfl (Or.inl rfl))) (fun _ _ _ _ _ => pts_nil) (fun _ _ _ _ _ => (C8.pe_c c_is_name hr (by decide) (by rfl) (pa_cons (pv 1) pa_nil)))) pa_nil)) (pe_one (pe_cmpR op_eq (pe_callB cr_lenSS (by rfl) T.n_len PySem.boot_len (pa_cons (pe_callTy (cr_setS rfl) (by rfl) T.n_set (by decide +kernel) (pa_cons (pv 0) pa_nil)) pa_nil)) (pe_callB call_len_seq (by rfl) T.n_len PySem.boot_len (pa_cons (pv 0) pa_nil)) (nomark _)))))), ?_⟩
    refine s_ret (v := .bl true) (ev_andV (a := true) (b := true) (ev_is (ev_allN (bs := (xs.filter fun _ => true).map fun _ => true) (ev_isL (el_lc (ei_list (ev_var rfl) (sq_of ha)) (ys := xs) (by rw [List.length_map]) (by rw [List.length_map]; omega) (fun _ => true) (fun _ => .bl true) fun i x y H' hx hy e => ?_) (by rw [List.map_map]; rfl))) (by rw [all_true])) fun _ => ?_) fun H1 e => q H1 e
    · rw [List.getElem?_map, hy] at hx
      have hx : V.str y = x := Option.some.inj hx
      subst hx
      refine ⟨_, fun Q q => q, rfl, fun H1 _ _ q => q H1 (Ex.refl _), fun _ => ?_⟩
      exact ev_call (ea_cons (ev_var rfl) ea_nil) fun H1 e1 Q q E => ⟨y, rfl, hn y (List.mem_of_getElem? hy), q⟩
    · refine ev_is (ev_eqI (ev_lenSet (ev_var rfl) (sq_of ha) nd hl) (ev_len (ev_var rfl) (sq_of ha))) ?_
      simp
/-! ### is_stream -/
abbrev s_is_stream : Stmt := top 14
abbrev N_is_stream : List Str := ["stream", "knots", "_", "tail", "head", "low", "high"]
theorem sc_is_stream : FnScope N_is_stream ["stream", "knots"] (C8.fnScope s_is_stream) := C8.fnScope_by (by decide +kernel)

/-- a stream between some knots -/
def Sok (ks : List Str) (x : Stm) : Prop := x.t ∈ ks ∧ x.h ∈ ks ∧ 0 ≤ x.lo ∧ x.lo ≤ x.hi ∧ x.hi ≤ 1000000
def sp_is_stream : Sp := fun vs H Q _ => ∃ (a l : Addr) (x : Stm) (ks : List Str), vs = [V.ref a, V.ref l] ∧ H a = some (.tup (tupS x)) ∧ H l = some (.lst (ks.map V.str)) ∧ Sok ks x ∧ ∀ H', Ex H H' → Q (.bl true) H'
theorem ev_lenT {te : TE} {σ : L2.St} {H : Hp} {a : Addr} {xs : List V} (h : Ev te σ H (.ref a)) (hx : H a = some (.tup xs)) : Ev (tCB (rLenS K) (tCons te tNil)) σ H (.int (xs.length : Int)) := fun H1 e Q q =>
  h H1 e _ fun H2 e2 => ⟨a, xs, rfl, Or.inr (st_of (e2 _ _ (e _ _ hx))), q H2 e2⟩
theorem c_is_stream_ (T : Txt K mg aP aM aR) (D : Dn K mg "is_stream" s_is_stream ["stream", "knots"]) : C8.Cal P w K mg base 1 "is_stream" sp_is_stream [] := by
  refine cal_of D sc_is_stream (fun vs H Q E h => ?_) (fun f cdv A outer s H vs Q E hr h => ?_)
  · obtain ⟨a, l, x, ks, rfl, _⟩ := h
    rfl
  · obtain ⟨a, l, x, ks, rfl, ha, hl, ⟨o1, o2, o3, o4, o5⟩, q⟩ := h
    refine ⟨_, (pss_cons (ps_if (pt_cmpR op_ne (pe_callB call_len_seq (by rfl) T.n_len PySem.boot_len (pa_cons (pv 0) pa_nil)) pe_int (nomark _)) (pss_one (ps_ret pe_bl)) pss_nil)
      (pss_cons (ps_asg (pv 0) (pg_tup rfl (pgs_cons (pg_name (i := 2) sc_is_stream.nd rfl (Or.inl rfl)) (pgs_cons (pg_name (i := 3) sc_is_stream.nd rfl (Or.inl rfl)) (pgs_cons (pg_name (i := 4) sc_is_stream.nd rfl (Or.inl rfl)) (pgs_cons (pg_name (i := 5) sc_is_stream.nd rfl (Or.inl rfl)) (pgs_cons (pg_name (i := 6) sc_is_stream.nd rfl (Or.inl rfl)) pgs_nil)))))))
      (pss_one (ps_ret (pe_and (pe_cmpR op_in_seq (pv 3) (pv 1) (by rfl)) (pe_and (pe_cmpR op_in_seq (pv 4) (pv 1) (by rfl)) (pe_one (pe_chain3 op_le op_le op_le pe_int (pv 5) (pv 6) (C8.pe_gc (by rfl) T.g_MOST_FLOW))))))))), ?_⟩
    refine q_when (b := false) (et_is (et_test (ev_neI (ev_lenT (ev_var rfl) ha) ev_c)) (by simp [tupS])) (fun hb => nomatch hb) fun _ H1 e1 => ?_
    refine q_tgt (ev_var rfl) fun H2 e2 => g5 ((e1.trans e2) _ _ ha) ?_
    refine s_ret (v := .bl true) (ev_andV (a := true) (b := true) (ev_is (ev_inS (ev_var rfl) (ev_var rfl) (sq_of ((e1.trans e2) _ _ hl))) (by rw [decide_eq_true o1])) fun _ =>
      ev_andV (a := true) (b := true) (ev_is (ev_inS (ev_var rfl) (ev_var rfl) (sq_of ((e1.trans e2) _ _ hl))) (by rw [decide_eq_true o2])) fun _ =>
        ev_chain3 ev_c (ev_var rfl) (ev_var rfl) ev_c (decide_eq_true o3) (decide_eq_true o4) (decide_eq_true o5)) fun H3 e3 => q H3 ((e1.trans e2).trans e3)
/-! ### Plant -/
/-- a plant stands at p -/
def PlantAt (aP : Addr) (H : Hp) (p : Addr) (ks : List Str) (ss : List Stm) : Prop := ∃ dx lk ls : Addr, H p = some (.ins aP dx [("_knots", .ref lk), ("_streams", .ref ls)]) ∧ H lk = some (.lst (ks.map V.str)) ∧ TL H ls (ss.map tupS)
theorem PlantAt.mono {aP p : Addr} {H H' : Hp} {ks : List Str} {ss : List Stm} (h : PlantAt aP H p ks ss) (e : Ex H H') : PlantAt aP H' p ks ss := by
  obtain ⟨dx, lk, ls, h1, h2, h3⟩ := h
  exact ⟨dx, lk, ls, e _ _ h1, e _ _ h2, h3.mono e⟩
theorem PlantAt.but {aP p d : Addr} {H H' : Hp} {ks : List Str} {ss : List Stm} {kv : List (Key × V)} (h : PlantAt aP H p ks ss) (hd : H d = some (.dK kv)) (e : ExD d H H') : PlantAt aP H' p ks ss := by
  obtain ⟨dx, lk, ls, h1, h2, h3⟩ := h
  refine ⟨dx, lk, ls, e _ _ (fun z => ?_) h1, e _ _ (fun z => ?_) h2, h3.but (fun r z => ?_) (fun r z => ?_) e⟩
  · rw [← z, h1] at hd; cases hd
  · rw [← z, h2] at hd; cases hd
  · rw [hd] at z; cases z
  · rw [hd] at z; cases z
abbrev s_Plant___init__ : Stmt := inCls (top 15) 0
abbrev N_Plant___init__ : List Str := ["self", "knots", "streams", "stream"]
theorem sc_Plant___init__ : FnScope N_Plant___init__ ["self", "knots", "streams"] (C8.fnScope s_Plant___init__) := C8.fnScope_by (by decide +kernel)

def sp_init (aP : Addr) : Sp := fun vs H Q _ => ∃ (x dx l1 l2 : Addr) (ks : List Str) (ss : List Stm), vs = [V.ref x, V.ref l1, V.ref l2] ∧ H x = some (.ins aP dx []) ∧ H l1 = some (.lst (ks.map V.str)) ∧ TL H l2 (ss.map tupS) ∧
  1 ≤ ks.length ∧ ks.length ≤ 24 ∧ ks.Nodup ∧ (∀ z ∈ ks, Nm z) ∧ ss.length ≤ 60 ∧ (ss.map (·.n)).Nodup ∧ (∀ s ∈ ss, Nm s.n ∧ Sok ks s) ∧
  ∀ H' (ks' : List Str) (ss' : List Stm), ks'.Perm ks → sortedS ks' = true → ss'.Perm ss → ExD x H H' → PlantAt aP H' x ks' ss' → Q .non H'
theorem zip_at {l as : List Addr} : True := trivial
/-- names of streams -/
theorem el_names {wi : TI} {g : TG} {vs : List Nat} {σ : L2.St} {H : Hp} {ss : List Stm} {as : List Addr} {te : TE} (hw : EvI wi σ H (as.map V.ref)) (ht : Tups H as (ss.map tupS)) (hz : ss.length ≤ 40000)
    (h : ∀ a H', Ex H H' → ∃ σ2, (∀ Q : L2.St → Hp → Prop, Q σ2 H' → g (.ref a) (wipe σ vs) H' Q) ∧ wipe σ2 vs = wipe σ vs ∧ ∀ s, H' a = some (.tup (tupS s)) → Ev te σ2 H' (.str s.n)) :
    EvL (tLc wi g tYes te vs) σ H ((ss.map (·.n)).map V.str) := by
  have hl : as.length = ss.length := by have := ht.1; rw [List.length_map] at this; exact this
  refine ev_isL (el_lc hw (ys := ss) (by rw [List.length_map]; exact hl) (by rw [List.length_map]; omega) (fun _ => true) (fun s => .str s.n) fun i x y H' hx hy e => ?_) (by rw [List.filter_eq_self.mpr (fun _ _ => rfl), List.map_map]; rfl)
  obtain ⟨a, r, rfl, h1, h2, h3⟩ := ht.vals hx
  rw [List.getElem?_map, hy] at h2
  have h2 : tupS y = r := Option.some.inj h2
  obtain ⟨σ2, k1, k2, k3⟩ := h a H' e
  exact ⟨σ2, k1, k2, fun H1 _ _ q => q H1 (Ex.refl _), fun _ => k3 y (by rw [h2]; exact e _ _ h3)⟩
theorem putF_2 {a b : V} : putF "_streams" b (putF "_knots" a []) = ([("_knots", a), ("_streams", b)] : List (Str × V)) := by
  show (if ("_knots" : Str) = "_streams" then _ else (("_knots" : Str), a) :: putF "_streams" b []) = _
  rw [if_neg (by decide +kernel)]
  rfl
theorem c_Plant_ (T : Txt K mg aP aM aR) (D : In K mg "Plant" "Plant.__init__" aP s_Plant___init__ ["self", "knots", "streams"]) (c_are_names : C8.Cal P w K mg base 2 "are_names" sp_are_names []) (c_is_stream : C8.Cal P w K mg base 1 "is_stream" sp_is_stream []) :
    C8.Mak P w K mg base 3 "Plant" aP (sp_init aP) [] := by
  refine mak_of D sc_Plant___init__ (fun vs H Q E h => ?_) (fun f cdv A outer s H vs Q E hr h => ?_)
  · obtain ⟨x, dx, l1, l2, ks, ss, rfl, _⟩ := h
    rfl
  · obtain ⟨x, dx, l1, l2, ks, ss, rfl, hx, h1, ⟨as, h2, ht⟩, k1, k2, kn, kN, s1, sn, sS, q⟩ := h
    have la : as.length = ss.length := by have := ht.1; rw [List.length_map] at this; exact this
    refine ⟨_, (pss_cons (ps_if (PW.pt (pw_or (pt_not (pt_chain op_le op_le pe_int (pe_callB call_len_seq (by rfl) T.n_len PySem.boot_len (pa_cons (pv 1) pa_nil)) (C8.pe_gc (by rfl) T.g_MOST_KNOTS))) (pw_or1 (pt_not (pt_val (C8.pe_c c_are_names hr (by decide) (by rfl) (pa_cons (pv 1) pa_nil))))))) (pss_one ps_never) pss_nil)
      (pss_cons (ps_if (PW.pt (pw_or (pt_cmpR op_gt (pe_callB call_len_seq (by rfl) T.n_len PySem.boot_len (pa_cons (pv 2) pa_nil)) (C8.pe_gc (by rfl) T.g_MOST_STREAMS) (nomark _)) (pw_or1 (pt_not (pt_val (pe_callB (cr_all rfl) (by rfl) T.n_all (by decide +kernel) (pa_cons (pe_lc (own := [("stream", 3)]) (g := (gName 3)) (tt := tYes) rfl sc_Plant___init__.nd (pi_list (pv 2)) (blkOk_by (own := [("stream", 3)]) (N := N_Plant___init__) (sc := C8.fnScope s_Plant___init__) (by decide +kernel)) (fun _ _ _ _ _ => (pg_name (i := 3) sc_Plant___init__.nd rfl (Or.inl rfl))) (fun _ _ _ _ _ => pts_nil) (fun _ _ _ _ _ => (C8.pe_c c_is_stream hr (by decide) (by rfl) (pa_cons (pv 3) (pa_cons (pv 1) pa_nil))))) pa_nil))))))) (pss_one ps_never) pss_nil)
      (pss_cons (ps_if (pt_not (pt_val (C8.pe_c c_are_names hr (by decide) (by rfl) (pa_cons (pe_lc (own := [("stream", 3)]) (g := (gName 3)) (tt := tYes) rfl sc_Plant___init__.nd (pi_list (pv 2)) (blkOk_by (own := [("stream", 3)]) (N := N_Plant___init__) (sc := C8.fnScope s_Plant___init__) (by decide +kernel)) (fun _ _ _ _ _ => (pg_name (i := 3) sc_Plant___init__.nd rfl (Or.inl rfl))) (fun _ _ _ _ _ => pts_nil) (fun _ _ _ _ _ => (pe_ix (ix_tupK K) (pv 3) pe_int (fun _ _ => rfl)))) pa_nil)))) (pss_one ps_never) pss_nil)
      (pss_cons (ps_fld (pv 0) (pe_callB cr_sortedS (by rfl) T.n_sorted (by decide +kernel) (pa_cons (pv 1) pa_nil)) rfl)
      (pss_one (ps_fld (pv 0) (pe_callB (cr_sortStm hr.units) (by rfl) T.n_sorted (by decide +kernel) (pa_cons (pv 2) pa_nil)) rfl)))))), ?_⟩
    -- if not 1 <= len(knots) <= MOST_KNOTS or not are_names(knots)
    refine q_when (b := false) (et_is (et_or (a := !true) (b := !true) (et_not (et_is (et_test (ev_chain ev_c (ev_len (ev_var rfl) (sq_of h1)) ev_c)) ?_)) fun _ => et_not (et_B (ev_call (ea_cons (ev_var rfl) ea_nil) fun H1 e1 Q q E => ⟨l1, ks, rfl, e1 _ _ h1, kn, by omega, kN, q⟩))) rfl) (fun hb => nomatch hb) fun _ H1 e1 => ?_
    · rw [List.length_map]
      have z1 : decide ((1 : Int) ≤ (ks.length : Nat)) = true := decide_eq_true (by omega)
      have z2 : decide (((ks.length : Nat) : Int) ≤ 24) = true := decide_eq_true (by omega)
      rw [z1, z2]; rfl
    have h1' := e1 _ _ h1
    have h2' := e1 _ _ h2
    have ht' := ht.mono e1
    -- if len(streams) > MOST_STREAMS or not all(..)
    refine q_when (b := false) (et_is (et_or (a := false) (b := !true) (et_is (et_cmp (ev_len (ev_var rfl) (sq_of h2')) ev_c) ?_) fun _ => et_not (et_B (ev_is (ev_allN (bs := (ss.filter fun _ => true).map fun _ => true) (ev_isL (el_lc (ei_list (ev_var rfl) (sq_of h2')) (ys := ss) (by rw [List.length_map]; exact la) (by rw [List.length_map]; omega) (fun _ => true) (fun _ => .bl true) fun i y z H' hy hz e => ?_) (by rw [List.map_map]; rfl))) (by rw [all_true])))) rfl) (fun hb => nomatch hb) fun _ H2 e2 => ?_
    · rw [List.length_map]
      exact decide_eq_false (by omega)
    · obtain ⟨a, r, rfl, y1, y2, y3⟩ := ht'.vals hy
      rw [List.getElem?_map, hz] at y2
      have y2 : tupS z = r := Option.some.inj y2
      refine ⟨_, fun Q q => q, rfl, fun H1 _ _ q => q H1 (Ex.refl _), fun _ => ?_⟩
      exact ev_call (ea_cons (ev_var rfl) (ea_cons (ev_var rfl) ea_nil)) fun H3 e3 Q q E => ⟨a, l1, z, ks, rfl, by rw [y2]; exact e3 _ _ (e _ _ y3), e3 _ _ (e _ _ h1'), (sS z (List.mem_of_getElem? hz)).2, q⟩
    have h2'' := e2 _ _ h2'
    have ht'' := ht'.mono e2
    -- if not are_names([stream[0] for stream in streams])
    refine q_when (b := false) (et_is (et_not (a := true) (et_B (ev_callN (EvL.n (el_names (ei_list (ev_var rfl) (sq_of h2'')) ht'' (by omega) fun a H' e => ?_)) fun p H3 e3 hp H4 e4 Q q E => ?_))) rfl) (fun hb => nomatch hb) fun _ H3 e3 => ?_
    · refine ⟨_, fun Q q => q, rfl, fun s hs => ?_⟩
      exact ev_ixT (i := 0) (ev_var rfl) ev_c hs rfl
    · exact ⟨p, ss.map (·.n), rfl, e4 _ _ hp, sn, by rw [List.length_map]; omega, fun z hz => by
        obtain ⟨s, hs, rfl⟩ := List.mem_map.mp hz
        exact (sS s hs).1, q⟩
    -- self._knots = sorted(knots)
    have e13 := (e1.trans e2).trans e3
    refine ⟨_, rfl, l1, ks, rfl, sq_of (e13 _ _ h1), by omega, fun kk p pm srt hp => ?_⟩
    have npx : p ≠ x := fun z => by rw [z, e13 _ _ hx] at hp; cases hp
    refine ⟨_, rfl, x, aP, dx, [], rfl, by rw [upd_ne npx.symm]; exact e13 _ _ hx, T.cP, T.p_k, (by show (0 : Nat) < 1000; decide), ?_⟩
    generalize hG : upd (upd H3 p (.lst (kk.map V.str))) x (.ins aP dx (putF "_knots" (.ref p) [])) = G
    have eG : ExD x H G := by
      rw [← hG]
      exact (ExD.of_ex (e13.trans (Ex.new hp))).trans ExD.upd
    have gx : G x = some (.ins aP dx (putF "_knots" (.ref p) [])) := by rw [← hG, upd_same]
    have gp : G p = some (.lst (kk.map V.str)) := by rw [← hG, upd_ne npx, upd_same]
    have n2 : l2 ≠ x := fun z => by rw [z, hx] at h2; cases h2
    have tG : Tups G as (ss.map tupS) := ⟨ht.1, fun i a r i1 i2 => eG _ _ (fun z => by have := ht.2 i a r i1 i2; rw [z, hx] at this; cases this) (ht.2 i a r i1 i2)⟩
    -- self._streams = sorted(streams)
    have lz : (as.zip ss).map (fun b => V.ref b.1) = as.map V.ref := by
      rw [← List.map_fst_zip (l₁ := as) (l₂ := ss) (by omega), List.map_map]
      simp [Function.comp_def, List.map_fst_zip, la]
    refine ⟨_, rfl, l2, as.zip ss, rfl, by rw [lz]; exact sq_of (eG _ _ n2 h2), fun b hb => ?_, by rw [List.length_zip]; omega, fun cs p2 pm2 hp2 => ?_⟩
    · obtain ⟨i, hi, ei⟩ := List.mem_iff_getElem.mp hb
      have hi' := hi
      rw [List.length_zip] at hi'
      rw [List.getElem_zip] at ei
      subst ei
      exact tG.2 i _ _ (List.getElem?_eq_getElem (by omega)) (by rw [List.getElem?_map, List.getElem?_eq_getElem (by omega)]; rfl)
    have np2 : p2 ≠ x := fun z => by rw [z, gx] at hp2; cases hp2
    refine ⟨_, rfl, x, aP, dx, _, rfl, by rw [upd_ne np2.symm]; exact gx, T.cP, T.p_s, (by show (1 : Nat) < 1000; decide), ?_⟩
    refine q _ kk (cs.map (·.2)) pm srt (by
      have := pm2.map (·.2)
      rw [List.map_snd_zip (by omega)] at this
      exact this) ((eG.trans (ExD.of_ex (Ex.new hp2))).trans ExD.upd) ⟨dx, p, p2, by rw [upd_same, putF_2], ?_, cs.map (·.1), ?_, ?_⟩
    · have : p ≠ p2 := ne_of_none gp hp2
      rw [upd_ne npx, upd_ne this]; exact gp
    · rw [upd_ne np2, upd_same, List.map_map]; rfl
    · refine ⟨by simp, fun i a r i1 i2 => ?_⟩
      rw [List.getElem?_map] at i1
      rw [List.getElem?_map, List.getElem?_map] at i2
      cases hc : cs[i]? with
      | none => rw [hc] at i1; cases i1
      | some c =>
        rw [hc] at i1 i2
        have i1 : c.1 = a := Option.some.inj i1
        have i2 : tupS c.2 = r := Option.some.inj i2
        have hm : c ∈ as.zip ss := pm2.mem_iff.mp (List.mem_of_getElem? hc)
        obtain ⟨j, hj, ej⟩ := List.mem_iff_getElem.mp hm
        have hj' := hj
        rw [List.length_zip] at hj'
        rw [List.getElem_zip] at ej
        have g := tG.2 j as[j] (tupS ss[j]) (List.getElem?_eq_getElem (by omega)) (by rw [List.getElem?_map, List.getElem?_eq_getElem (by omega)]; rfl)
        have c1 : as[j] = c.1 := congrArg Prod.fst ej
        have c2 : ss[j] = c.2 := congrArg Prod.snd ej
        rw [c1, c2, i1, i2] at g
        have nx : a ≠ x := fun z => by rw [z, gx] at g; cases g
        rw [upd_ne nx, upd_ne (ne_of_none g hp2)]
        exact g
end
end MS
set_option Elab.async false
set_option linter.all false
set_option maxRecDepth 100000
set_option maxHeartbeats 4000000
namespace MS
open PySem PySem.Spec PyProof.Rows L2 Evl
def ln (s : Stm) : MM.Ln Str := ⟨s.n, s.t, s.h⟩
def lns (ss : List Stm) : List (MM.Ln Str) := ss.map ln
/-- a plant's knots and streams, well made -/
structure Wf (ks : List Str) (ss : List Stm) : Prop where
  k1 : 1 ≤ ks.length
  k2 : ks.length ≤ 24
  kn : ks.Nodup
  kN : ∀ z ∈ ks, Nm z
  s1 : ss.length ≤ 60
  sn : (ss.map (·.n)).Nodup
  sS : ∀ s ∈ ss, Sok ks s
  srt : sortedS ks = true
def fd (ns : List Str) (F : Str → Int) : List (Key × V) := dm ns fun n => .int (F n)
theorem fd_congr {ns : List Str} {F G : Str → Int} (h : ∀ n ∈ ns, F n = G n) : fd ns F = fd ns G := dm_congr fun n hn => by rw [h n hn]
theorem putK_fd {ns : List Str} {F : Str → Int} {m : Str} {x : Int} (h : m ∈ ns) : putK (fd ns F) (Sum.inr m) (.int x) = fd ns (MM.setF F m x) := by
  unfold fd
  rw [putK_dm h]
  exact dm_congr fun n _ => by
    unfold MM.setF
    split <;> rfl
section
variable {K : PySem.W.Frag} {σ : L2.St} {H : Hp} {td ty tv : TE} {D : Ends} {tz : TS}
theorem s_daug {rd : V → V → Hp → VK → Prop} {a : Addr} {ns : List Str} {F : Str → Int} {m : Str} {j x : Int} (h1 : Ev td σ H (.ref a)) (h2 : Ev ty σ H (.str m)) (hd : H a = some (.dK (fd ns F))) (hm : m ∈ ns) (hl : ns.length ≤ 1000) (h3 : Ev tv σ H (.int j))
    (hr : ∀ H' Q, Q (.int x) H' → rd (.int (F m)) (.int j) H' Q) (k : ∀ H1, Ex H H1 → D.nx σ (upd H1 a (.dK (fd ns (MM.setF F m x))))) : sDAug td ty tv rd D σ H :=
  h1 H (Ex.refl _) _ fun H1 e1 => h2 H1 e1 _ fun H2 e2 => ⟨a, .int (F m), rfl, dget (.inl ((e1.trans e2) _ _ hd)) hm, h3 H2 (e1.trans e2) _ fun H3 e3 => hr H3 _ ⟨_, DPut.k (k := Sum.inr m) (((e1.trans e2).trans e3) _ _ hd) (by rw [show (fd ns F).length = ns.length from dm_len _ _]; exact small1000 hl), by
    rw [putK_fd hm]
    exact k H3 ((e1.trans e2).trans e3)⟩⟩
theorem q_daug {rd : V → V → Hp → VK → Prop} {a : Addr} {ns : List Str} {F : Str → Int} {m : Str} {j x : Int} (h1 : Ev td σ H (.ref a)) (h2 : Ev ty σ H (.str m)) (hd : H a = some (.dK (fd ns F))) (hm : m ∈ ns) (hl : ns.length ≤ 1000) (h3 : Ev tv σ H (.int j))
    (hr : ∀ H' Q, Q (.int x) H' → rd (.int (F m)) (.int j) H' Q) (k : ∀ H1, Ex H H1 → tz D σ (upd H1 a (.dK (fd ns (MM.setF F m x))))) : tSeq (sDAug td ty tv rd) tz D σ H := s_daug (D := { D with nx := tz D }) h1 h2 hd hm hl h3 hr k
theorem r_add {i j : Int} : ∀ (H' : Hp) (Q : VK), Q (.int (i + j)) H' → rAdd (.int i) (.int j) H' Q := fun _ _ q => ⟨i, j, rfl, rfl, q⟩
theorem r_sub {i j : Int} : ∀ (H' : Hp) (Q : VK), Q (.int (i - j)) H' → rSub (.int i) (.int j) H' Q := fun _ _ q => ⟨i, j, rfl, rfl, q⟩
end
section
variable {P : Program} {w : World} {K : PySem.W.Frag} {mg : Str → Option Value} {base : Heap} {aP aM aR : Addr}
/-! ### the properties -/
abbrev s_Plant_knots : Stmt := inCls (top 15) 1
abbrev N_Plant_knots : List Str := ["self"]
theorem sc_Plant_knots : FnScope N_Plant_knots ["self"] (C8.fnScope s_Plant_knots) := C8.fnScope_by (by decide +kernel)

def sp_knots (aP : Addr) : Sp := fun vs H Q _ => ∃ (p : Addr) (ks : List Str) (ss : List Stm), vs = [V.ref p] ∧ PlantAt aP H p ks ss ∧ ∀ q H', H q = none → Ex H H' → H' q = some (.lst (ks.map V.str)) → Q (.ref q) H'
theorem lk_k {a b : V} : List.lookup ("_knots" : Str) ([("_knots", a), ("_streams", b)] : List (Str × V)) = some a := by rw [List.lookup_cons_self]
theorem lk_s {a b : V} : List.lookup ("_streams" : Str) ([("_knots", a), ("_streams", b)] : List (Str × V)) = some b := by
  rw [List.lookup_cons, show (("_streams" : Str) == "_knots") = false by decide +kernel, List.lookup_cons_self]
theorem lk_no {a b : V} {m : Str} (h1 : (m == ("_knots" : Str)) = false) (h2 : (m == ("_streams" : Str)) = false) : List.lookup m ([("_knots", a), ("_streams", b)] : List (Str × V)) = none := by
  rw [List.lookup_cons, h1, List.lookup_cons, h2]; rfl
theorem ev_fk {ta : TE} {σ : L2.St} {H : Hp} {p dx : Addr} {a b : V} (T : Txt K mg aP aM aR) (h : Ev ta σ H (.ref p)) (hp : H p = some (.ins aP dx [("_knots", a), ("_streams", b)])) : Ev (tFld K ta "_knots") σ H a := fun H1 e Q q =>
  h H1 e _ fun H2 e2 => ⟨p, aP, dx, _, a, rfl, (e.trans e2) _ _ hp, T.cP, T.p_k, lk_k, q H2 e2⟩
theorem ev_fs {ta : TE} {σ : L2.St} {H : Hp} {p dx : Addr} {a b : V} (T : Txt K mg aP aM aR) (h : Ev ta σ H (.ref p)) (hp : H p = some (.ins aP dx [("_knots", a), ("_streams", b)])) : Ev (tFld K ta "_streams") σ H b := fun H1 e Q q =>
  h H1 e _ fun H2 e2 => ⟨p, aP, dx, _, b, rfl, (e.trans e2) _ _ hp, T.cP, T.p_s, lk_s, q H2 e2⟩
theorem c_knots_ (T : Txt K mg aP aM aR) (D : Pn K aP "knots" "Plant.knots" s_Plant_knots) : Prp P w K mg base 1 aP "knots" (sp_knots aP) := by
  refine prp_of D sc_Plant_knots (fun vs H Q E h => ?_) (fun f cdv A outer s H vs Q E hr h => ?_)
  · obtain ⟨p, ks, ss, rfl, _⟩ := h
    rfl
  · obtain ⟨p, ks, ss, rfl, ⟨dx, lk, ls, h1, h2, h3⟩, q⟩ := h
    refine ⟨_, (pss_one (ps_ret (pe_callTy call_list_of (by rfl) T.n_list (by decide +kernel) (pa_cons (pe_fld (pv 0) rfl) pa_nil)))), ?_⟩
    exact s_retL (el_list (ev_fk T (ev_var rfl) h1) (sq_of h2)) q
abbrev s_Plant_streams : Stmt := inCls (top 15) 2
abbrev N_Plant_streams : List Str := ["self"]
theorem sc_Plant_streams : FnScope N_Plant_streams ["self"] (C8.fnScope s_Plant_streams) := C8.fnScope_by (by decide +kernel)

def sp_streams (aP : Addr) : Sp := fun vs H Q _ => ∃ (p : Addr) (ks : List Str) (ss : List Stm), vs = [V.ref p] ∧ PlantAt aP H p ks ss ∧ ∀ q H', H q = none → Ex H H' → TL H' q (ss.map tupS) → Q (.ref q) H'
theorem c_streams_ (T : Txt K mg aP aM aR) (D : Pn K aP "streams" "Plant.streams" s_Plant_streams) : Prp P w K mg base 1 aP "streams" (sp_streams aP) := by
  refine prp_of D sc_Plant_streams (fun vs H Q E h => ?_) (fun f cdv A outer s H vs Q E hr h => ?_)
  · obtain ⟨p, ks, ss, rfl, _⟩ := h
    rfl
  · obtain ⟨p, ks, ss, rfl, ⟨dx, lk, ls, h1, h2, as, h3, h4⟩, q⟩ := h
    refine ⟨_, (pss_one (ps_ret (pe_callTy call_list_of (by rfl) T.n_list (by decide +kernel) (pa_cons (pe_fld (pv 0) rfl) pa_nil)))), ?_⟩
    exact s_retL (el_list (ev_fs T (ev_var rfl) h1) (sq_of h3)) fun r H1 hr e hl => q r H1 hr e ⟨as, hl, h4.mono e⟩
theorem el_knots {ta : TE} {σ : L2.St} {H : Hp} {p : Addr} {ks : List Str} {ss : List Stm} {E : XK} (h : Ev ta σ H (.ref p)) (hp : PlantAt aP H p ks ss) : EvL (tProp aP (sp_knots aP) [] E ta) σ H (ks.map V.str) := fun H1 e Q q => h H1 e _ fun H2 e2 => by
  have hp2 := (hp.mono e).mono e2
  obtain ⟨dx, lk, ls, h1, h2, h3⟩ := id hp2
  exact ⟨p, dx, _, rfl, h1, p, ks, ss, rfl, hp2, fun r H3 hr e3 hl => q r H3 (fresh_back e2 hr) (e2.trans e3) hl⟩
theorem en_streams {ta : TE} {σ : L2.St} {H : Hp} {p : Addr} {ks : List Str} {ss : List Stm} {E : XK} (h : Ev ta σ H (.ref p)) (hp : PlantAt aP H p ks ss) : EvN (tProp aP (sp_streams aP) [] E ta) σ H (fun r H' => TL H' r (ss.map tupS)) := fun H1 e Q q => h H1 e _ fun H2 e2 => by
  have hp2 := (hp.mono e).mono e2
  obtain ⟨dx, lk, ls, h1, h2, h3⟩ := id hp2
  exact ⟨p, dx, _, rfl, h1, p, ks, ss, rfl, hp2, fun r H3 hr e3 hl => q r H3 (fresh_back e2 hr) (e2.trans e3) hl⟩
/-- a comprehension over a new list of tuples -/
theorem el_lcS {β : Type} {tl : TE} {g : TG} {tt : TT} {te : TE} {vs : List Nat} {σ : L2.St} {H : Hp} {ys : List β} {row : β → List V} (h0 : EvN tl σ H (fun r H' => TL H' r (ys.map row))) (hz : ys.length ≤ 40000) (f : β → Bool) (v : β → V)
    (h : ∀ a y H', y ∈ ys → Ex H H' → H' a = some (.tup (row y)) → ∃ σ2, (∀ Q : L2.St → Hp → Prop, Q σ2 H' → g (.ref a) (wipe σ vs) H' Q) ∧ wipe σ2 vs = wipe σ vs ∧ EvT tt σ2 H' (f y) ∧ (f y = true → Ev te σ2 H' (v y))) :
    EvL (tLc (iList K tl) g tt te vs) σ H ((ys.filter f).map v) := fun H1 e Q q => h0 H1 e _ fun r H2 hr e2 ⟨as, ha, ht⟩ => by
  have hl : as.length = ys.length := by have := ht.1; rw [List.length_map] at this; exact this
  have k := el_lc (H := H2) (σ := σ) (tt := tt) (te := te) (g := g) (vs := vs) (ei_list (K := K) (tl := tC (.ref r)) (ev_c) (sq_of ha)) (ys := ys) (by rw [List.length_map]; exact hl) (by rw [List.length_map]; omega) f v (fun i x y H' hx hy e' => by
    obtain ⟨a, rw', rfl, h1, h2, h3⟩ := ht.vals hx
    rw [List.getElem?_map, hy] at h2
    have h2 : row y = rw' := Option.some.inj h2
    exact h a y H' (List.mem_of_getElem? hy) ((e.trans e2).trans e') (by rw [h2]; exact e' _ _ h3))
  exact k H2 (Ex.refl _) Q fun p H3 hp e3 hl3 => q p H3 (fresh_back e2 hp) (e2.trans e3) hl3
theorem en_lcTS {β : Type} {tl : TE} {g : TG} {tt : TT} {te : TE} {vs : List Nat} {σ : L2.St} {H : Hp} {ys : List β} {row : β → List V} (h0 : EvN tl σ H (fun r H' => TL H' r (ys.map row))) (hz : ys.length ≤ 40000) (f : β → Bool) (v : β → List V)
    (h : ∀ a y H', y ∈ ys → Ex H H' → H' a = some (.tup (row y)) → ∃ σ2, (∀ Q : L2.St → Hp → Prop, Q σ2 H' → g (.ref a) (wipe σ vs) H' Q) ∧ wipe σ2 vs = wipe σ vs ∧ EvT tt σ2 H' (f y) ∧ (f y = true → EvU te σ2 H' (v y))) :
    EvN (tLc (iList K tl) g tt te vs) σ H (fun p H' => TL H' p ((ys.filter f).map v)) := fun H1 e Q q => h0 H1 e _ fun r H2 hr e2 ⟨as, ha, ht⟩ => by
  have hl : as.length = ys.length := by have := ht.1; rw [List.length_map] at this; exact this
  have k := en_lcT (H := H2) (σ := σ) (tt := tt) (te := te) (g := g) (vs := vs) (ei_list (K := K) (tl := tC (.ref r)) (ev_c) (sq_of ha)) (ys := ys) (by rw [List.length_map]; exact hl) (by rw [List.length_map]; omega) f v (fun i x y H' hx hy e' => by
    obtain ⟨a, rw', rfl, h1, h2, h3⟩ := ht.vals hx
    rw [List.getElem?_map, hy] at h2
    have h2 : row y = rw' := Option.some.inj h2
    exact h a y H' (List.mem_of_getElem? hy) ((e.trans e2).trans e') (by rw [h2]; exact e' _ _ h3))
  exact k H2 (Ex.refl _) Q fun p H3 hp e3 hl3 => q p H3 (fresh_back e2 hp) (e2.trans e3) hl3
theorem et_yes {σ : L2.St} {H : Hp} : EvT tYes σ H true := fun H1 _ _ q => q H1 (Ex.refl _)
/-! ### methods -/
abbrev s_Plant_stream_names : Stmt := inCls (top 15) 3
abbrev N_Plant_stream_names : List Str := ["self", "stream"]
theorem sc_Plant_stream_names : FnScope N_Plant_stream_names ["self"] (C8.fnScope s_Plant_stream_names) := C8.fnScope_by (by decide +kernel)

def sp_stream_names (aP : Addr) : Sp := fun vs H Q _ => ∃ (p : Addr) (ks : List Str) (ss : List Stm), vs = [V.ref p] ∧ PlantAt aP H p ks ss ∧ ss.length ≤ 60 ∧ ∀ q H', H q = none → Ex H H' → H' q = some (.lst ((ss.map (·.n)).map V.str)) → Q (.ref q) H'
theorem TL.n {te : TE} {σ : L2.St} {H : Hp} {l : Addr} {rows : List (List V)} (h : Ev te σ H (.ref l)) (ht : TL H l rows) : ∀ H1, Ex H H1 → ∀ Q : VK, (∀ H2, Ex H1 H2 → TL H2 l rows → Q (.ref l) H2) → te σ H1 Q := fun H1 e Q q => h H1 e _ fun H2 e2 => q H2 e2 (ht.mono (e.trans e2))
/-- .. over a list of tuples that stands -/
theorem el_lcO {β : Type} {tl : TE} {g : TG} {tt : TT} {te : TE} {vs : List Nat} {σ : L2.St} {H : Hp} {l : Addr} {ys : List β} {row : β → List V} (h0 : Ev tl σ H (.ref l)) (ht : TL H l (ys.map row)) (hz : ys.length ≤ 40000) (f : β → Bool) (v : β → V)
    (h : ∀ a y H', y ∈ ys → Ex H H' → H' a = some (.tup (row y)) → ∃ σ2, (∀ Q : L2.St → Hp → Prop, Q σ2 H' → g (.ref a) (wipe σ vs) H' Q) ∧ wipe σ2 vs = wipe σ vs ∧ EvT tt σ2 H' (f y) ∧ (f y = true → Ev te σ2 H' (v y))) :
    EvL (tLc (iList K tl) g tt te vs) σ H ((ys.filter f).map v) := by
  obtain ⟨as, ha, ht⟩ := ht
  have hl : as.length = ys.length := by have := ht.1; rw [List.length_map] at this; exact this
  refine el_lc (ei_list h0 (sq_of ha)) (ys := ys) (by rw [List.length_map]; exact hl) (by rw [List.length_map]; omega) f v fun i x y H' hx hy e' => ?_
  obtain ⟨a, rw', rfl, h1, h2, h3⟩ := ht.vals hx
  rw [List.getElem?_map, hy] at h2
  have h2 : row y = rw' := Option.some.inj h2
  exact h a y H' (List.mem_of_getElem? hy) e' (by rw [h2]; exact e' _ _ h3)
theorem en_lcTO {β : Type} {tl : TE} {g : TG} {tt : TT} {te : TE} {vs : List Nat} {σ : L2.St} {H : Hp} {l : Addr} {ys : List β} {row : β → List V} (h0 : Ev tl σ H (.ref l)) (ht : TL H l (ys.map row)) (hz : ys.length ≤ 40000) (f : β → Bool) (v : β → List V)
    (h : ∀ a y H', y ∈ ys → Ex H H' → H' a = some (.tup (row y)) → ∃ σ2, (∀ Q : L2.St → Hp → Prop, Q σ2 H' → g (.ref a) (wipe σ vs) H' Q) ∧ wipe σ2 vs = wipe σ vs ∧ EvT tt σ2 H' (f y) ∧ (f y = true → EvU te σ2 H' (v y))) :
    EvN (tLc (iList K tl) g tt te vs) σ H (fun p H' => TL H' p ((ys.filter f).map v)) := by
  obtain ⟨as, ha, ht⟩ := ht
  have hl : as.length = ys.length := by have := ht.1; rw [List.length_map] at this; exact this
  refine en_lcT (ei_list h0 (sq_of ha)) (ys := ys) (by rw [List.length_map]; exact hl) (by rw [List.length_map]; omega) f v fun i x y H' hx hy e' => ?_
  obtain ⟨a, rw', rfl, h1, h2, h3⟩ := ht.vals hx
  rw [List.getElem?_map, hy] at h2
  have h2 : row y = rw' := Option.some.inj h2
  exact h a y H' (List.mem_of_getElem? hy) e' (by rw [h2]; exact e' _ _ h3)
theorem all_map {α β : Type} (l : List α) (f : α → β) : (l.filter fun _ => true).map f = l.map f := by rw [List.filter_eq_self.mpr (fun _ _ => rfl)]
theorem c_stream_names_ (T : Txt K mg aP aM aR) (D : Mn K aP "stream_names" "Plant.stream_names" s_Plant_stream_names ["self"]) : C8.Met P w K mg base 1 aP "stream_names" (sp_stream_names aP) [] := by
  refine met_of T.cP D sc_Plant_stream_names (fun vs H Q E h => ?_) (fun f cdv A outer s H vs Q E hr h => ?_)
  · obtain ⟨p, ks, ss, rfl, _⟩ := h
    rfl
  · obtain ⟨p, ks, ss, rfl, ⟨dx, lk, ls, h1, h2, h3⟩, hz, q⟩ := h
    refine ⟨_, (pss_one (ps_ret (pe_lc (own := [("stream", 1)]) (g := (gName 1)) (tt := tYes) rfl sc_Plant_stream_names.nd (pi_list (pe_fld (pv 0) rfl)) (blkOk_by (own := [("stream", 1)]) (N := N_Plant_stream_names) (sc := C8.fnScope s_Plant_stream_names) (by decide +kernel)) (fun _ _ _ _ _ => (pg_name (i := 1) sc_Plant_stream_names.nd rfl (Or.inl rfl))) (fun _ _ _ _ _ => pts_nil) (fun _ _ _ _ _ => (pe_ix (ix_tupK K) (pv 1) pe_int (fun _ _ => rfl)))))), ?_⟩
    refine s_retL (ev_isL (el_lcO (ys := ss) (row := tupS) (ev_fs T (ev_var rfl) h1) h3 (by omega) (fun _ => true) (fun s => .str s.n) fun a y H' hy e ha => ?_) (by rw [all_map, List.map_map]; rfl)) q
    refine ⟨_, fun Q q => q, rfl, et_yes, fun _ => ?_⟩
    exact ev_ixT (i := 0) (ev_var rfl) ev_c ha rfl
theorem el_snames {ta : TE} {σ : L2.St} {H : Hp} {p : Addr} {ks : List Str} {ss : List Stm} {E : XK} (h : Ev ta σ H (.ref p)) (hp : PlantAt aP H p ks ss) (hz : ss.length ≤ 60) : EvL (tMeth aP "stream_names" (sp_stream_names aP) [] E ta tNil) σ H ((ss.map (·.n)).map V.str) := fun H1 e Q q => h H1 e _ fun H2 e2 => by
  have hp2 := (hp.mono e).mono e2
  obtain ⟨dx, lk, ls, h1, h2, h3⟩ := id hp2
  exact ⟨p, dx, _, rfl, h1, lk_no (by decide +kernel) (by decide +kernel), p, ks, ss, rfl, hp2, hz, fun r H3 hr e3 hl => q r H3 (fresh_back e2 hr) (e2.trans e3) hl⟩
abbrev s_Plant_check_knot : Stmt := inCls (top 15) 5
abbrev N_Plant_check_knot : List Str := ["self", "knot"]
theorem sc_Plant_check_knot : FnScope N_Plant_check_knot ["self", "knot"] (C8.fnScope s_Plant_check_knot) := C8.fnScope_by (by decide +kernel)

def sp_check_knot (aP : Addr) : Sp := fun vs H Q _ => ∃ (p : Addr) (ks : List Str) (ss : List Stm) (k : Str), vs = [V.ref p, V.str k] ∧ PlantAt aP H p ks ss ∧ k ∈ ks ∧ ∀ H', Ex H H' → Q .non H'
theorem c_check_knot_ (T : Txt K mg aP aM aR) (D : Mn K aP "check_knot" "Plant.check_knot" s_Plant_check_knot ["self", "knot"]) : C8.Met P w K mg base 1 aP "check_knot" (sp_check_knot aP) [] := by
  refine met_of T.cP D sc_Plant_check_knot (fun vs H Q E h => ?_) (fun f cdv A outer s H vs Q E hr h => ?_)
  · obtain ⟨p, ks, ss, k, rfl, _⟩ := h
    rfl
  · obtain ⟨p, ks, ss, k, rfl, ⟨dx, lk, ls, h1, h2, h3⟩, hk, q⟩ := h
    refine ⟨_, (pss_one (ps_if (pt_cmpR op_notIn_seq (pv 1) (pe_fld (pv 0) rfl) (by rfl)) (pss_one ps_never) pss_nil)), ?_⟩
    exact s_when (b := false) (et_is (et_test (ev_ninS (ev_var rfl) (ev_fk T (ev_var rfl) h1) (sq_of h2))) (by simp [hk])) (fun hb => nomatch hb) fun _ H1 e1 => q H1 e1
abbrev s_Plant_stream_named : Stmt := inCls (top 15) 4
abbrev N_Plant_stream_named : List Str := ["self", "name", "stream"]
theorem sc_Plant_stream_named : FnScope N_Plant_stream_named ["self", "name"] (C8.fnScope s_Plant_stream_named) := C8.fnScope_by (by decide +kernel)

def sp_stream_named (aP : Addr) : Sp := fun vs H Q _ => ∃ (p : Addr) (ks : List Str) (ss : List Stm) (x : Stm), vs = [V.ref p, V.str x.n] ∧ PlantAt aP H p ks ss ∧ (ss.map (·.n)).Nodup ∧ x ∈ ss ∧ ∀ a H', Ex H H' → H' a = some (.tup (tupS x)) → Q (.ref a) H'
theorem stm_same {ss : List Stm} (hn : (ss.map (·.n)).Nodup) {x y : Stm} (hx : x ∈ ss) (hy : y ∈ ss) (e : x.n = y.n) : x = y := by
  obtain ⟨i, hi, rfl⟩ := List.mem_iff_getElem.mp hx
  obtain ⟨j, hj, rfl⟩ := List.mem_iff_getElem.mp hy
  have : i = j := (List.getElem_inj (h₀ := by simpa using hi) (h₁ := by simpa using hj) hn).mp (by simpa using e)
  subst this; rfl
theorem c_stream_named_ (T : Txt K mg aP aM aR) (D : Mn K aP "stream_named" "Plant.stream_named" s_Plant_stream_named ["self", "name"]) : C8.Met P w K mg base 1 aP "stream_named" (sp_stream_named aP) [] := by
  refine met_of T.cP D sc_Plant_stream_named (fun vs H Q E h => ?_) (fun f cdv A outer s H vs Q E hr h => ?_)
  · obtain ⟨p, ks, ss, x, rfl, _⟩ := h
    rfl
  · obtain ⟨p, ks, ss, x, rfl, ⟨dx, lk, ls, h1, h2, as, h3, h4⟩, nd, hx, q⟩ := h
    have la : as.length = ss.length := by have := h4.1; rw [List.length_map] at this; exact this
    refine ⟨_, (pss_cons (ps_for PassesOwn.never rfl (pi_list (pe_fld (pv 0) rfl)) (pg_name (i := 2) sc_Plant_stream_named.nd rfl (Or.inl rfl)) (pss_one (ps_if (pt_cmpR op_eq (pe_ix ix_tup (pv 2) pe_int (fun _ _ => rfl)) (pv 1) (nomark _)) (pss_one (ps_ret (pv 2))) pss_nil)))
      (pss_one ps_never)), ?_⟩
    refine q_forL (ev_fs T (ev_var rfl) h1) (sq_of h3) (fun i σ H' => ∃ y, σ = [some (.ref p), some (.str x.n), y] ∧ Ex H H' ∧ ∀ j s, j < i → ss[j]? = some s → s ≠ x) (fun H1 e => ⟨none, rfl, e, fun j s hj => absurd hj (Nat.not_lt_zero _)⟩) (fun i σ H' _ ⟨_, _, e, _⟩ => ex_l e (sq_of h3)) (fun i v σ H' hv ⟨y, hσ, e, hno⟩ => ?_) (fun σ H' ⟨y, hσ, e, hno⟩ => ?_)
    · subst hσ
      obtain ⟨a, r, rfl, k1, k2, k3⟩ := h4.vals hv
      rw [List.getElem?_map] at k2
      cases hs : ss[i]? with
      | none => rw [hs] at k2; cases k2
      | some s =>
        rw [hs] at k2
        have k2 : tupS s = r := Option.some.inj k2
        subst k2
        have ha := e _ _ k3
        refine s_when (b := decide (s.n = x.n)) (et_test (ev_eqS (ev_ixT (i := 0) (ev_var rfl) ev_c ha rfl) (ev_var rfl))) (fun hb H1 e1 => ?_) fun hb H1 e1 => ?_
        · have es := stm_same nd (List.mem_of_getElem? hs) hx (of_decide_eq_true hb)
          subst es
          exact s_ret (ev_var rfl) fun H2 e2 => q a H2 ((e.trans e1).trans e2) ((e1.trans e2) _ _ ha)
        · refine ⟨_, rfl, e.trans e1, fun j t hj ht => ?_⟩
          by_cases c : j < i
          · exact hno j t c ht
          · have : j = i := by omega
            subst this
            rw [hs] at ht; cases ht
            exact fun z => of_decide_eq_false hb (by rw [z])
    · obtain ⟨j, hj⟩ := List.mem_iff_getElem?.mp hx
      refine absurd rfl (hno j x ?_ hj)
      rw [List.length_map, la]
      exact (List.getElem?_eq_some_iff.mp hj).1
abbrev s_Plant_streams_into : Stmt := inCls (top 15) 6
abbrev N_Plant_streams_into : List Str := ["self", "knot", "stream"]
theorem sc_Plant_streams_into : FnScope N_Plant_streams_into ["self", "knot"] (C8.fnScope s_Plant_streams_into) := C8.fnScope_by (by decide +kernel)

def sp_streams_into (aP : Addr) : Sp := fun vs H Q _ => ∃ (p : Addr) (ks : List Str) (ss : List Stm) (k : Str), vs = [V.ref p, V.str k] ∧ PlantAt aP H p ks ss ∧ k ∈ ks ∧ ss.length ≤ 60 ∧ ∀ q H', H q = none → Ex H H' → H' q = some (.lst (((ss.filter fun s => decide (s.h = k)).map (·.n)).map V.str)) → Q (.ref q) H'
theorem c_streams_into_ (T : Txt K mg aP aM aR) (D : Mn K aP "streams_into" "Plant.streams_into" s_Plant_streams_into ["self", "knot"]) (c_check_knot : C8.Met P w K mg base 1 aP "check_knot" (sp_check_knot aP) []) : C8.Met P w K mg base 2 aP "streams_into" (sp_streams_into aP) [] := by
  refine met_of T.cP D sc_Plant_streams_into (fun vs H Q E h => ?_) (fun f cdv A outer s H vs Q E hr h => ?_)
  · obtain ⟨p, ks, ss, k, rfl, _⟩ := h
    rfl
  · obtain ⟨p, ks, ss, k, rfl, hp, hk, hz, q⟩ := h
    refine ⟨_, (pss_cons (ps_expr (C8.pe_mt c_check_knot hr (by decide) (pv 0) (pa_cons (pv 1) pa_nil)))
      (pss_one (ps_ret (pe_lc (own := [("stream", 2)]) (g := (gName 2)) rfl sc_Plant_streams_into.nd (pi_list (pe_fld (pv 0) rfl)) (blkOk_by (own := [("stream", 2)]) (N := N_Plant_streams_into) (sc := C8.fnScope s_Plant_streams_into) (by decide +kernel)) (fun _ _ _ _ _ => (pg_name (i := 2) sc_Plant_streams_into.nd rfl (Or.inl rfl))) (fun _ _ _ _ _ => (pts_one (pt_cmpR op_eq (pe_ix (ix_tupK K) (pv 2) pe_int (fun _ _ => rfl)) (pv 1) (nomark _)))) (fun _ _ _ _ _ => (pe_ix (ix_tupK K) (pv 2) pe_int (fun _ _ => rfl))))))), ?_⟩
    obtain ⟨dx, lk, ls, h1, h2, h3⟩ := id hp
    refine q_drop (v := .non) (fun H1 e Q q => ⟨_, rfl, p, dx, _, rfl, e _ _ h1, lk_no (by decide +kernel) (by decide +kernel), _, rfl, p, ks, ss, k, rfl, hp.mono e, hk, q⟩) fun H1 e1 => ?_
    refine s_retL (ev_isL (el_lcO (ys := ss) (row := tupS) (ev_fs T (ev_var rfl) (e1 _ _ h1)) (h3.mono e1) (by omega) (fun s => decide (s.h = k)) (fun s => .str s.n) fun a y H' hy e ha => ?_) (by rw [List.map_map]; rfl)) fun r H2 hr e2 hl => q r H2 (fresh_back e1 hr) (e1.trans e2) hl
    refine ⟨_, fun Q q => q, rfl, et_test (ev_eqS (ev_ixT (i := 2) (ev_var rfl) ev_c ha rfl) (ev_var rfl)), fun _ => ?_⟩
    exact ev_ixT (i := 0) (ev_var rfl) ev_c ha rfl
end
end MS
set_option Elab.async false
set_option linter.all false
set_option maxRecDepth 100000
set_option maxHeartbeats 4000000
namespace MS
open PySem PySem.Spec PyProof.Rows L2 Evl
section
variable {P : Program} {w : World} {K : PySem.W.Frag} {σ : L2.St} {H : Hp} {ta tb te tl : TE} {g : TG} {tu tz : TS} {D : Ends}
/-- a for over a list that has just come, or that stands -/
theorem s_forX {R : List V → Hp → Prop} (h : EvP tl σ H (fun v H2 => ∃ p xs, v = .ref p ∧ SqL K H2 p xs ∧ R xs H2)) (k : ∀ (p : Addr) (xs : List V) H1, Ex H H1 → SqL K H1 p xs → R xs H1 → ∃ Pv : Nat → L2.St → Hp → Prop, Pv 0 σ H1 ∧ (∀ i σ' H', i ≤ xs.length → Pv i σ' H' → SqL K H' p xs) ∧
    (∀ i x σ' H', xs[i]? = some x → Pv i σ' H' → g x σ' H' fun σ2 H2 => tu { D with nx := Pv (i + 1), ct := Pv (i + 1), bk := D.nx } σ2 H2) ∧ (∀ σ' H', Pv xs.length σ' H' → D.nx σ' H')) : tFor (iList K tl) g tu D σ H :=
  h H (Ex.refl _) _ fun v H1 e ⟨p, xs, hv, hs, hR⟩ => by
    subst hv
    obtain ⟨Pv, k0, k1, k2, k3⟩ := k p xs H1 e hs hR
    exact ⟨p, rfl, ⟨xs, hs⟩, for_list Pv k0 k1 k2 k3⟩
theorem q_forX {R : List V → Hp → Prop} (h : EvP tl σ H (fun v H2 => ∃ p xs, v = .ref p ∧ SqL K H2 p xs ∧ R xs H2)) (k : ∀ (p : Addr) (xs : List V) H1, Ex H H1 → SqL K H1 p xs → R xs H1 → ∃ Pv : Nat → L2.St → Hp → Prop, Pv 0 σ H1 ∧ (∀ i σ' H', i ≤ xs.length → Pv i σ' H' → SqL K H' p xs) ∧
    (∀ i x σ' H', xs[i]? = some x → Pv i σ' H' → g x σ' H' fun σ2 H2 => tu { D with nx := Pv (i + 1), ct := Pv (i + 1), bk := tz D } σ2 H2) ∧ (∀ σ' H', Pv xs.length σ' H' → tz D σ' H')) : tSeq (tFor (iList K tl) g tu) tz D σ H := s_forX (D := { D with nx := tz D }) h k
/-- a for over a new list -/
theorem s_forN {R : List V → Hp → Prop} (h : EvN tl σ H (fun p H2 => ∃ xs, H2 p = some (.lst xs) ∧ R xs H2)) (k : ∀ (p : Addr) (xs : List V) H1, H p = none → Ex H H1 → H1 p = some (.lst xs) → R xs H1 → ∃ Pv : Nat → L2.St → Hp → Prop, Pv 0 σ H1 ∧ (∀ i σ' H', i ≤ xs.length → Pv i σ' H' → H' p = some (.lst xs)) ∧
    (∀ i x σ' H', xs[i]? = some x → Pv i σ' H' → g x σ' H' fun σ2 H2 => tu { D with nx := Pv (i + 1), ct := Pv (i + 1), bk := D.nx } σ2 H2) ∧ (∀ σ' H', Pv xs.length σ' H' → D.nx σ' H')) : tFor (iList K tl) g tu D σ H :=
  h H (Ex.refl _) _ fun p H1 hp e ⟨xs, hs, hR⟩ => by
    obtain ⟨Pv, k0, k1, k2, k3⟩ := k p xs H1 hp e hs hR
    exact ⟨p, rfl, ⟨xs, sq_of hs⟩, for_list Pv k0 (fun i σ H hi hp => sq_of (k1 i σ H hi hp)) k2 k3⟩
theorem q_forN {R : List V → Hp → Prop} (h : EvN tl σ H (fun p H2 => ∃ xs, H2 p = some (.lst xs) ∧ R xs H2)) (k : ∀ (p : Addr) (xs : List V) H1, H p = none → Ex H H1 → H1 p = some (.lst xs) → R xs H1 → ∃ Pv : Nat → L2.St → Hp → Prop, Pv 0 σ H1 ∧ (∀ i σ' H', i ≤ xs.length → Pv i σ' H' → H' p = some (.lst xs)) ∧
    (∀ i x σ' H', xs[i]? = some x → Pv i σ' H' → g x σ' H' fun σ2 H2 => tu { D with nx := Pv (i + 1), ct := Pv (i + 1), bk := tz D } σ2 H2) ∧ (∀ σ' H', Pv xs.length σ' H' → tz D σ' H')) : tSeq (tFor (iList K tl) g tu) tz D σ H := s_forN (D := { D with nx := tz D }) h k
/-- a + b, lists, the second one new -/
theorem el_cat {a : Addr} {xs ys : List V} (h1 : Ev ta σ H (.ref a)) (ha : H a = some (.lst xs)) (h2 : EvL tb σ H ys) (hz : xs.length + ys.length ≤ 100000) : EvL (tOp rCat ta tb) σ H (xs ++ ys) := fun H1 e Q q =>
  h1 H1 e _ fun H2 e2 => h2 H2 (e.trans e2) _ fun b H3 hb e3 h3 => ⟨a, b, xs, ys, rfl, rfl, ((e.trans e2).trans e3) _ _ ha, h3, Nat.le_trans hz (by decide), fun p hp => q p _ (fresh_back (e2.trans e3) hp) ((e2.trans e3).trans (Ex.new hp)) upd_same⟩
/-- sorted(set(..)) -/
theorem en_sortSet {xs : List Str} (h : EvP te σ H (fun v H2 => ∃ a, v = .ref a ∧ SqL K H2 a (xs.map V.str))) (hl : xs.length ≤ 1000) {U : List Str} (hU : U.length < 64) (hx : ∀ x ∈ xs, x ∈ U) :
    EvN (tCB (rSortSS P w) (tCons (tCB (rSetS K P w) (tCons te tNil)) tNil)) σ H (fun p H' => ∃ ys : List Str, H' p = some (.lst (ys.map V.str)) ∧ (∀ k, k ∈ ys ↔ k ∈ xs) ∧ ys.Nodup ∧ sortedS ys = true) := fun H1 e Q q =>
  h H1 e _ fun v H2 e2 ⟨a, hv, ha⟩ => ⟨a, xs, by rw [hv], ha, hl, fun b l hm ln hb => by
    have hll : l.length ≤ U.length := MM.nodup_len ln fun k hk => hx k ((hm k).mp hk)
    refine ⟨b, l, rfl, upd_same, Nat.lt_of_le_of_lt hll hU, fun ys p pm srt hp => ?_⟩
    have hb2 := fresh_back (Ex.new hb) hp
    exact q p _ (fresh_back e2 hb2) ((e2.trans (Ex.new hb)).trans (Ex.new hp)) ⟨ys, upd_same, fun k => (pm.mem_iff).trans (hm k), pm.nodup_iff.mpr ln, srt⟩⟩
theorem el_listD {d : Addr} {ns : List Str} {gv : Str → V} (h : Ev te σ H (.ref d)) (hd : Rd H d (.dK (dm ns gv))) : EvL (tCB (fun xs H Q => ∃ (a : Addr) (kvs : List (Key × V)), xs = [.ref a] ∧ Rd H a (.dK kvs) ∧ ∀ p, H p = none → Q (.ref p) (upd H p (.lst (kvs.map fun kv => kV kv.1)))) (tCons te tNil)) σ H (ns.map V.str) := fun H1 e Q q =>
  h H1 e _ fun H2 e2 => ⟨d, dm ns gv, rfl, ex_rd (e.trans e2) hd, fun p hp => q p _ (fresh_back e2 hp) (e2.trans (Ex.new hp)) (by rw [upd_same, dm_keys])⟩
theorem EvL.p {xs : List V} (h : EvL te σ H xs) : EvP te σ H (fun v H2 => ∃ a, v = .ref a ∧ SqL K H2 a xs) := fun H1 e Q q => h H1 e _ fun p H2 _ e2 hp => q _ H2 e2 ⟨p, rfl, sq_of hp⟩
theorem EvN.x {Pn : Addr → Hp → Prop} (h : EvN te σ H Pn) : EvP te σ H (fun v H2 => ∃ p, v = .ref p ∧ Pn p H2) := h.p
end
/-- the keys are just the streams -/
def Keys (ns : List Str) (ss : List Stm) : Prop := ns.Nodup ∧ ∀ n, n ∈ ns ↔ n ∈ ss.map (·.n)
theorem Keys.len {ns : List Str} {ss : List Stm} (h : Keys ns ss) (hs : ss.length ≤ 60) : ns.length ≤ 60 := by
  have := MM.nodup_len h.1 fun n hn => (h.2 n).mp hn
  rw [List.length_map] at this
  omega
section
variable {P : Program} {w : World} {K : PySem.W.Frag} {mg : Str → Option Value} {base : Heap} {aP aM aR : Addr}
abbrev s_check_flows : Stmt := top 16
abbrev N_check_flows : List Str := ["plant", "flows", "names", "name"]
theorem sc_check_flows : FnScope N_check_flows ["plant", "flows"] (C8.fnScope s_check_flows) := C8.fnScope_by (by decide +kernel)

def sp_check_flows (aP : Addr) : Sp := fun vs H Q _ => ∃ (p d : Addr) (ks : List Str) (ss : List Stm) (ns : List Str) (gv : Str → V), vs = [V.ref p, V.ref d] ∧ PlantAt aP H p ks ss ∧ ss.length ≤ 60 ∧ Rd H d (.dK (dm ns gv)) ∧ Keys ns ss ∧ ∀ H', Ex H H' → Q .non H'
theorem c_check_flows_ (T : Txt K mg aP aM aR) (D : Dn K mg "check_flows" s_check_flows ["plant", "flows"]) (c_stream_names : C8.Met P w K mg base 1 aP "stream_names" (sp_stream_names aP) []) : C8.Cal P w K mg base 2 "check_flows" (sp_check_flows aP) [] := by
  refine cal_of D sc_check_flows (fun vs H Q E h => ?_) (fun f cdv A outer s H vs Q E hr h => ?_)
  · obtain ⟨p, d, ks, ss, ns, gv, rfl, _⟩ := h
    rfl
  · obtain ⟨p, d, ks, ss, ns, gv, rfl, hp, hz, hd, hk, q⟩ := h
    have ln := hk.len hz
    refine ⟨_, (pss_cons (ps_set (i := 2) sc_check_flows.nd rfl (Or.inl rfl) (C8.pe_mt0 c_stream_names hr (by decide) (pv 0)))
      (pss_one (ps_for PassesOwn.never rfl (pi_list (pe_callB (cr_sortSS rfl) (by rfl) T.n_sorted (by decide +kernel) (pa_cons (pe_callTy (cr_setS rfl) (by rfl) T.n_set (by decide +kernel) (pa_cons (pe_op op_cat (pv 2) (pe_callTy (call_listD rfl) (by rfl) T.n_list (by decide +kernel) (pa_cons (pv 1) pa_nil))) pa_nil)) pa_nil))) (pg_name (i := 3) sc_check_flows.nd rfl (Or.inl rfl)) (pss_one (ps_if (PW.pt (pw_or (pt_cmpR op_notIn_seq (pv 3) (pv 2) (by rfl)) (pw_or1 (pt_cmp (pc_dnotin (hu_of hr) (pv 3) (pv 1)))))) (pss_one ps_never) pss_nil))))), ?_⟩
    refine q_asgL (el_snames (ev_var rfl) hp hz) fun l H1 hl0 e1 hl => ?_
    have hd1 := ex_rd e1 hd
    refine s_forN (R := fun xs _ => ∃ ys : List Str, xs = ys.map V.str ∧ ∀ y ∈ ys, y ∈ ns) ((en_sortSet (xs := ss.map (·.n) ++ ns) (U := ns) (EvL.p (ev_isL (el_cat (ev_var rfl) hl (el_listD (ev_var rfl) hd1) (by simp; omega)) (by rw [List.map_append]))) (by simp; omega) (by omega) fun x hx => ?_).imp fun r H2 _ ⟨ys, h1, h2, _, _⟩ => ⟨ys.map V.str, h1, ys, rfl, fun y hy => ?_⟩) fun r xs H2 hr0 e2 hr2 ⟨ys, exs, hy⟩ => ?_
    · rcases List.mem_append.mp hx with z | z
      · exact (hk.2 x).mpr z
      · exact z
    · rcases List.mem_append.mp ((h2 y).mp hy) with z | z
      · exact (hk.2 y).mpr z
      · exact z
    subst exs
    refine ⟨fun i σ H' => ∃ y, σ = [some (.ref p), some (.ref d), some (.ref l), y] ∧ Ex H2 H', ⟨none, rfl, Ex.refl _⟩, fun i σ H' _ ⟨_, _, e⟩ => e _ _ hr2, fun i x σ H' hx ⟨y, hσ, e⟩ => ?_, fun σ H' ⟨_, _, e⟩ => q H' ((e1.trans e2).trans e)⟩
    subst hσ
    rw [List.getElem?_map] at hx
    cases hi : ys[i]? with
    | none => rw [hi] at hx; cases hx
    | some z =>
      rw [hi] at hx
      have hx : V.str z = x := Option.some.inj hx
      subst hx
      have zn := hy z (List.mem_of_getElem? hi)
      refine s_when (b := false) (et_is (et_or (a := false) (b := false) (et_is (et_test (ev_ninS (ev_var rfl) (ev_var rfl) (sq_of (e _ _ (e2 _ _ hl))))) (decide_eq_false fun c => c ((hk.2 z).mp zn))) fun _ => et_is (et_B (ev_dnin (ev_var rfl) (ev_var rfl) (ex_rd (e2.trans e) hd1))) (decide_eq_false fun c => c zn)) rfl) (fun hb => nomatch hb) fun _ H3 e3 => ⟨some (.str z), rfl, e.trans e3⟩
abbrev s_lacks : Stmt := top 17
abbrev N_lacks : List Str := ["plant", "flows", "found", "knot", "name", "tail", "head", "_"]
theorem sc_lacks : FnScope N_lacks ["plant", "flows"] (C8.fnScope s_lacks) := C8.fnScope_by (by decide +kernel)

def sp_lacks (aP : Addr) : Sp := fun vs H Q _ => ∃ (p d : Addr) (ks : List Str) (ss : List Stm) (ns : List Str) (F : Str → Int), vs = [V.ref p, V.ref d] ∧ PlantAt aP H p ks ss ∧ Wf ks ss ∧ Rd H d (.dK (fd ns F)) ∧ Keys ns ss ∧
  ∀ q H', H q = none → Ex H H' → H' q = some (.dK (fd ks (MM.net (lns ss) F))) → Q (.ref q) H'
theorem net_snoc (ss : List Stm) (s : Stm) (F : Str → Int) (v : Str) : MM.net (lns (ss ++ [s])) F v = MM.net (lns ss) F v + ((if s.h = v then F s.n else 0) - (if s.t = v then F s.n else 0)) := by
  unfold MM.net lns
  rw [List.map_append, MM.sm_append]
  congr 1
  show MM.sm [ln s] _ = _
  rw [MM.sm_cons, MM.sm_nil]
  show (if s.h = v then F s.n else 0) - (if s.t = v then F s.n else 0) + 0 = _
  omega
theorem c_lacks_ (T : Txt K mg aP aM aR) (D : Dn K mg "lacks" s_lacks ["plant", "flows"]) (c_knots : Prp P w K mg base 1 aP "knots" (sp_knots aP)) (c_streams : Prp P w K mg base 1 aP "streams" (sp_streams aP)) (c_check_flows : C8.Cal P w K mg base 2 "check_flows" (sp_check_flows aP) []) :
    C8.Cal P w K mg base 3 "lacks" (sp_lacks aP) [] := by
  refine cal_of D sc_lacks (fun vs H Q E h => ?_) (fun f cdv A outer s H vs Q E hr h => ?_)
  · obtain ⟨p, d, ks, ss, ns, F, rfl, _⟩ := h
    rfl
  · obtain ⟨p, d, ks, ss, ns, F, rfl, hp, wf, hd, hk, q⟩ := h
    refine ⟨_, (pss_cons (ps_expr (C8.pe_c c_check_flows hr (by decide) (by rfl) (pa_cons (pv 0) (pa_cons (pv 1) pa_nil))))
      (pss_cons (ps_setDc (i := 2) (own := [("knot", 3)]) (g := (gName 3)) (tt := tYes) rfl sc_lacks.nd rfl rfl (sw_trueD rfl rfl rfl (by decide +kernel)) (pi_list (pe_pr T.cP c_knots hr (by decide) (pv 0))) (blkOk_by (own := [("knot", 3)]) (N := N_lacks) (sc := C8.fnScope s_lacks) (by decide +kernel)) (fun _ _ _ _ _ => (pg_name (i := 3) sc_lacks.nd rfl (Or.inl rfl))) (fun _ _ _ _ _ => pts_nil) (fun _ _ _ _ _ => (pv 3)) (fun _ _ _ _ _ => pe_int))
      (pss_cons (ps_for PassesOwn.never rfl (pi_list (pe_pr T.cP c_streams hr (by decide) (pv 0))) (pg_tup rfl (pgs_cons (pg_name (i := 4) sc_lacks.nd rfl (Or.inl rfl)) (pgs_cons (pg_name (i := 5) sc_lacks.nd rfl (Or.inl rfl)) (pgs_cons (pg_name (i := 6) sc_lacks.nd rfl (Or.inl rfl)) (pgs_cons (pg_name (i := 7) sc_lacks.nd rfl (Or.inl rfl)) (pgs_cons (pg_name (i := 7) sc_lacks.nd rfl (Or.inl rfl)) pgs_nil)))))) (pss_cons (ps_daug (hu_of hr) (pv 2) (pv 5) (pe_dget (hu_of hr) (pv 1) (pv 4) (fun _ _ => rfl)) in_sub (fun _ _ _ => rfl))
      (pss_one (ps_daug (hu_of hr) (pv 2) (pv 6) (pe_dget (hu_of hr) (pv 1) (pv 4) (fun _ _ => rfl)) in_add (fun _ _ _ => rfl)))))
      (pss_one (ps_ret (pv 2)))))), ?_⟩
    refine q_drop (v := .non) (ev_call (ea_cons (ev_var rfl) (ea_cons (ev_var rfl) ea_nil)) fun H1 e Q q E => ⟨p, d, ks, ss, ns, _, rfl, hp.mono e, wf.s1, ex_rd e hd, hk, q⟩) fun H1 e1 => ?_
    have hp1 := hp.mono e1
    refine q_asgN (en_dc (ns := ks) (EvI.of_listN (el_knots (ev_var rfl) hp1)) wf.kn (by have := wf.k2; omega) (fun _ => .int 0) fun n H' hn e => ?_) fun r H2 hr0 e2 hr2 => ?_
    · exact ⟨_, fun Q q => q, rfl, ev_var rfl, ev_c⟩
    refine q_forN (R := fun xs H' => ∃ as : List Addr, xs = as.map V.ref ∧ Tups H' as (ss.map tupS)) ((en_streams (ev_var rfl) (hp1.mono e2)).imp fun l H' _ ⟨as, h1, h2⟩ => ⟨_, h1, as, rfl, h2⟩) fun l xs H3 hl0 e3 hl3 ⟨as, exs, ht⟩ => ?_
    subst exs
    have la : as.length = ss.length := by have := ht.1; rw [List.length_map] at this; exact this
    have nlr : l ≠ r := ne_none hr2 hl0
    refine ⟨fun i σ H' => ∃ a b c y, σ = [some (.ref p), some (.ref d), some (.ref r), none, a, b, c, y] ∧ ExD r H3 H' ∧ H' r = some (.dK (fd ks (MM.net (lns (ss.take i)) F))), ⟨none, none, none, none, rfl, ExD.refl, e3 _ _ hr2⟩, fun i σ H' _ ⟨_, _, _, _, _, e, _⟩ => e _ _ nlr hl3, fun i x σ H' hx ⟨a, b, c, y, hσ, e, hf⟩ => ?_, fun σ H' ⟨a, b, c, y, hσ, e, hf⟩ => ?_⟩
    · subst hσ
      obtain ⟨adr, row, rfl, k1, k2, k3⟩ := ht.vals hx
      rw [List.getElem?_map] at k2
      cases hs : ss[i]? with
      | none => rw [hs] at k2; cases k2
      | some s =>
        rw [hs] at k2
        have k2 : tupS s = row := Option.some.inj k2
        subst k2
        have hm : s ∈ ss := List.mem_of_getElem? hs
        obtain ⟨st, sh, _⟩ := wf.sS s hm
        have nadr : adr ≠ r := fun z => by rw [z, e3 _ _ hr2] at k3; cases k3
        refine g5 (e _ _ nadr k3) ?_
        have sn : s.n ∈ ns := (hk.2 s.n).mpr (List.mem_map.mpr ⟨s, hm, rfl⟩)
        have ndr : ∀ {H'' : Hp}, ExD r H3 H'' → Rd H'' d (.dK (fd ns F)) := fun {H''} e => by
          rcases ex_rd ((e1.trans e2).trans e3) hd with z | ⟨o, z⟩
          · exact .inl (e _ _ (fun y => ne_none (ex_rd_some e1 hd) hr0 y.symm) z)
          · exact .inr ⟨o, e _ _ (fun y => ne_none (ex_rd_some e1 hd) hr0 y.symm) z⟩
        refine q_daug (ev_var rfl) (ev_var rfl) hf st (by have := wf.k2; omega) (ev_dget (ev_var rfl) (ev_var rfl) (ndr e) sn) r_sub fun H4 e4 => ?_
        have e34 : ExD r H3 (upd H4 r (.dK (fd ks (MM.setF (MM.net (lns (ss.take i)) F) s.t (MM.net (lns (ss.take i)) F s.t - F s.n))))) := (e.trans (ExD.of_ex e4)).trans ExD.upd
        refine s_daug (ev_var rfl) (ev_var rfl) upd_same sh (by have := wf.k2; omega) (ev_dget (ev_var rfl) (ev_var rfl) (ndr e34) sn) r_add fun H5 e5 => ⟨_, _, _, _, rfl, (e34.trans (ExD.of_ex e5)).trans ExD.upd, ?_⟩
        rw [upd_same]
        congr 2
        refine fd_congr fun v _ => ?_
        have et : ss.take (i + 1) = ss.take i ++ [s] := by rw [List.take_add_one, hs]; rfl
        rw [et, net_snoc]
        grind [MM.setF]
    · subst hσ
      refine s_ret (ev_var rfl) fun H4 e4 => q r H4 (fresh_back e1 hr0) ?_ ?_
      · exact (ExD.ex (e1.trans (e2.trans e3)) (fresh_back e1 hr0) e).trans e4
      · rw [List.length_map, la, List.take_length] at hf
        exact e4 _ _ hf
end
end MS
set_option Elab.async false
set_option linter.all false
set_option maxRecDepth 100000
set_option maxHeartbeats 4000000
namespace MS
open PySem PySem.Spec PyProof.Rows L2 Evl
abbrev Ln := MM.Ln Str
abbrev Arc := MM.Arc Str
def row3 (l : Ln) : List V := [.str l.n, .str l.t, .str l.h]
def rowA (a : Arc) : List V := [.str a.a, .str a.b, .str a.n, .int a.s, .int a.r]
def rowP (p : Str × Str) : List V := [.str p.1, .str p.2]
/-- limits stand at d, locked -/
def LimAt (H : Hp) (d : Addr) (ns : List Str) (lo hi : Str → Int) : Prop := ∃ (o : Obj) (A : Str → Addr), H d = some (.frz o (.dK (dm ns fun n => .ref (A n)))) ∧ ∀ n ∈ ns, H (A n) = some (.tup [.int (lo n), .int (hi n)])
theorem LimAt.mono {H H' : Hp} {d : Addr} {ns : List Str} {lo hi : Str → Int} (h : LimAt H d ns lo hi) (e : Ex H H') : LimAt H' d ns lo hi := by
  obtain ⟨o, A, h1, h2⟩ := h
  exact ⟨o, A, e _ _ h1, fun n hn => e _ _ (h2 n hn)⟩
theorem LimAt.but {H H' : Hp} {d r : Addr} {ns : List Str} {lo hi : Str → Int} {kv : List (Key × V)} (h : LimAt H d ns lo hi) (hr : H r = some (.dK kv)) (e : ExD r H H') : LimAt H' d ns lo hi := by
  obtain ⟨o, A, h1, h2⟩ := h
  exact ⟨o, A, e _ _ (fun z => by rw [z, hr] at h1; cases h1) h1, fun n hn => e _ _ (fun z => by have := h2 n hn; rw [z, hr] at this; cases this) (h2 n hn)⟩
theorem TL.butD {H H' : Hp} {l r : Addr} {rows : List (List V)} {kv : List (Key × V)} (h : TL H l rows) (hr : H r = some (.dK kv)) (e : ExD r H H') : TL H' l rows := h.but (fun _ z => by rw [hr] at z; cases z) (fun _ z => by rw [hr] at z; cases z) e
section
variable {K : PySem.W.Frag} {σ : L2.St} {H : Hp} {ta tb te tl : TE} {t : TT} {g : TG} {tu tz : TS} {D : Ends} {l : Addr} {xs ys : List V}
theorem s_ifApp {J : Hp → Prop} {b : Bool} (h : EvT t σ H b) (hl : H l = some (.lst xs)) (ha : Ev ta σ H (.ref l)) (he : b = true → EvU te σ H ys) (hz : xs.length < 100000) (k1 : b = true → ∀ p H1, H p = none → Ex H H1 → H1 p = some (.tup ys) → J (upd H1 l (.lst (xs ++ [.ref p]))))
    (k2 : b = false → ∀ H1, Ex H H1 → J H1) (k : ∀ H', J H' → D.nx σ H') : tIfS t (tDrop (tBM K "list" rAppend ta (tCons te tNil))) tNext D σ H :=
  s_if h (fun hb H1 e1 => s_appU (e1 _ _ hl) (ha.mono e1) (fun H2 e2 Q q => he hb H2 (e1.trans e2) Q q) hz fun p H2 hp e2 h2 => k _ (k1 hb p H2 (fresh_back e1 hp) (e1.trans e2) h2)) (fun hb H1 e1 => k _ (k2 hb H1 e1))
theorem q_ifApp {J : Hp → Prop} {b : Bool} (h : EvT t σ H b) (hl : H l = some (.lst xs)) (ha : Ev ta σ H (.ref l)) (he : b = true → EvU te σ H ys) (hz : xs.length < 100000) (k1 : b = true → ∀ p H1, H p = none → Ex H H1 → H1 p = some (.tup ys) → J (upd H1 l (.lst (xs ++ [.ref p]))))
    (k2 : b = false → ∀ H1, Ex H H1 → J H1) (k : ∀ H', J H' → tz D σ H') : tSeq (tIfS t (tDrop (tBM K "list" rAppend ta (tCons te tNil))) tNext) tz D σ H := s_ifApp (D := { D with nx := tz D }) h hl ha he hz k1 k2 k
theorem et_truthL (h : Ev te σ H (.ref l)) (hl : H l = some (.lst xs)) : EvT (fun σ H Q => te σ H fun x H' => ∃ k, TruV K x H' k ∧ Q k H') σ H (!xs.isEmpty) := fun H1 e Q q =>
  h H1 e _ fun H2 e2 => ⟨_, .inl ⟨xs, sq_of ((e.trans e2) _ _ hl), rfl⟩, q H2 e2⟩
theorem eu_3 {tc : TE} {x y z : V} (h1 : Ev ta σ H x) (h2 : Ev tb σ H y) (h3 : Ev tc σ H z) : EvU (tTup (tCons ta (tCons tb (tCons tc tNil)))) σ H [x, y, z] := eu_tup (ea_cons h1 (ea_cons h2 (ea_cons h3 ea_nil))) (by show 3 ≤ 100000; decide)
theorem eu_2 {x y : V} (h1 : Ev ta σ H x) (h2 : Ev tb σ H y) : EvU (tTup (tCons ta (tCons tb tNil))) σ H [x, y] := eu_tup (ea_cons h1 (ea_cons h2 ea_nil)) (by show 2 ≤ 100000; decide)
end
section
variable {P : Program} {w : World} {K : PySem.W.Frag} {mg : Str → Option Value} {base : Heap} {aP aM aR : Addr}
/-! ### lines -/
abbrev s_lines_of : Stmt := top 19
abbrev N_lines_of : List Str := ["plant", "name", "tail", "head", "_"]
theorem sc_lines_of : FnScope N_lines_of ["plant"] (C8.fnScope s_lines_of) := C8.fnScope_by (by decide +kernel)

def linesOf (ss : List Stm) : List Ln := (lns ss).filter fun l => decide (l.t ≠ l.h)
def sp_lines_of (aP : Addr) : Sp := fun vs H Q _ => ∃ (p : Addr) (ks : List Str) (ss : List Stm), vs = [V.ref p] ∧ PlantAt aP H p ks ss ∧ ss.length ≤ 60 ∧ ∀ q H', H q = none → Ex H H' → TL H' q ((linesOf ss).map row3) → Q (.ref q) H'
theorem c_lines_of_ (T : Txt K mg aP aM aR) (D : Dn K mg "lines_of" s_lines_of ["plant"]) (c_streams : Prp P w K mg base 1 aP "streams" (sp_streams aP)) : C8.Cal P w K mg base 3 "lines_of" (sp_lines_of aP) [] := by
  refine cal_of D sc_lines_of (fun vs H Q E h => ?_) (fun f cdv A outer s H vs Q E hr h => ?_)
  · obtain ⟨p, ks, ss, rfl, _⟩ := h
    rfl
  · obtain ⟨p, ks, ss, rfl, hp, hz, q⟩ := h
    refine ⟨_, (pss_one (ps_ret (pe_lc (own := [("name", 1), ("tail", 2), ("head", 3), ("_", 4)]) (g := (gTup K 5 (gCons (gName 1) (gCons (gName 2) (gCons (gName 3) (gCons (gName 4) (gCons (gName 4) gNil))))))) rfl sc_lines_of.nd (pi_list (pe_pr T.cP c_streams hr (by decide) (pv 0))) (blkOk_by (own := [("name", 1), ("tail", 2), ("head", 3), ("_", 4)]) (N := N_lines_of) (sc := C8.fnScope s_lines_of) (by decide +kernel)) (fun _ _ _ _ _ => (pg_tup rfl (pgs_cons (pg_name (i := 1) sc_lines_of.nd rfl (Or.inl rfl)) (pgs_cons (pg_name (i := 2) sc_lines_of.nd rfl (Or.inl rfl)) (pgs_cons (pg_name (i := 3) sc_lines_of.nd rfl (Or.inl rfl)) (pgs_cons (pg_name (i := 4) sc_lines_of.nd rfl (Or.inl rfl)) (pgs_cons (pg_name (i := 4) sc_lines_of.nd rfl (Or.inl rfl)) pgs_nil))))))) (fun _ _ _ _ _ => (pts_one (pt_cmpR op_ne (pv 2) (pv 3) (nomark _)))) (fun _ _ _ _ _ => (pe_tup (pa_cons (pv 1) (pa_cons (pv 2) (pa_cons (pv 3) pa_nil)))))))), ?_⟩
    refine s_retN ((en_lcTS (ys := ss) (row := tupS) (en_streams (ev_var rfl) hp) (by omega) (fun s => decide (s.t ≠ s.h)) (fun s => row3 (ln s)) fun a y H' hy e ha => ?_).imp fun r H' _ hr => ?_) q
    · refine ⟨_, fun Q q => g5 ha q, rfl, et_test (ev_neS (ev_var rfl) (ev_var rfl)), fun _ => ?_⟩
      exact eu_3 (ev_var rfl) (ev_var rfl) (ev_var rfl)
    · unfold linesOf lns
      rw [List.filter_map, List.map_map]
      exact hr
abbrev s_parted_lines : Stmt := top 20
abbrev N_parted_lines : List Str := ["plant", "knot", "name", "tail", "head", "_"]
theorem sc_parted_lines : FnScope N_parted_lines ["plant", "knot"] (C8.fnScope s_parted_lines) := C8.fnScope_by (by decide +kernel)

def part (k : Str) (l : Ln) : Ln := ⟨l.n, if l.t = k then "" else l.t, l.h⟩
def partOf (ss : List Stm) (k : Str) : List Ln := (lns ss).map (part k)
def sp_parted_lines (aP : Addr) : Sp := fun vs H Q _ => ∃ (p : Addr) (ks : List Str) (ss : List Stm) (k : Str), vs = [V.ref p, V.str k] ∧ PlantAt aP H p ks ss ∧ ss.length ≤ 60 ∧ ∀ q H', H q = none → Ex H H' → TL H' q ((partOf ss k).map row3) → Q (.ref q) H'
theorem c_parted_lines_ (T : Txt K mg aP aM aR) (D : Dn K mg "parted_lines" s_parted_lines ["plant", "knot"]) (c_streams : Prp P w K mg base 1 aP "streams" (sp_streams aP)) : C8.Cal P w K mg base 3 "parted_lines" (sp_parted_lines aP) [] := by
  refine cal_of D sc_parted_lines (fun vs H Q E h => ?_) (fun f cdv A outer s H vs Q E hr h => ?_)
  · obtain ⟨p, ks, ss, k, rfl, _⟩ := h
    rfl
  · obtain ⟨p, ks, ss, k, rfl, hp, hz, q⟩ := h
    refine ⟨_, (pss_one (ps_ret (pe_lc (own := [("name", 2), ("tail", 3), ("head", 4), ("_", 5)]) (g := (gTup K 5 (gCons (gName 2) (gCons (gName 3) (gCons (gName 4) (gCons (gName 5) (gCons (gName 5) gNil))))))) (tt := tYes) rfl sc_parted_lines.nd (pi_list (pe_pr T.cP c_streams hr (by decide) (pv 0))) (blkOk_by (own := [("name", 2), ("tail", 3), ("head", 4), ("_", 5)]) (N := N_parted_lines) (sc := C8.fnScope s_parted_lines) (by decide +kernel)) (fun _ _ _ _ _ => (pg_tup rfl (pgs_cons (pg_name (i := 2) sc_parted_lines.nd rfl (Or.inl rfl)) (pgs_cons (pg_name (i := 3) sc_parted_lines.nd rfl (Or.inl rfl)) (pgs_cons (pg_name (i := 4) sc_parted_lines.nd rfl (Or.inl rfl)) (pgs_cons (pg_name (i := 5) sc_parted_lines.nd rfl (Or.inl rfl)) (pgs_cons (pg_name (i := 5) sc_parted_lines.nd rfl (Or.inl rfl)) pgs_nil))))))) (fun _ _ _ _ _ => pts_nil) (fun _ _ _ _ _ => (pe_tup (pa_cons (pv 2) (pa_cons (pe_ifExp (pt_cmpR op_eq (pv 3) (pv 1) (nomark _)) pe_str (pv 3)) (pa_cons (pv 4) pa_nil)))))))), ?_⟩
    refine s_retN ((en_lcTS (ys := ss) (row := tupS) (en_streams (ev_var rfl) hp) (by omega) (fun s => true) (fun s => row3 (part k (ln s))) fun a y H' hy e ha => ?_).imp fun r H' _ hr => ?_) q
    · refine ⟨_, fun Q q => g5 ha q, rfl, et_yes, fun _ => ?_⟩
      refine eu_3 (ev_var rfl) (ev_if (b := decide (y.t = k)) (et_test (ev_eqS (ev_var rfl) (ev_var rfl))) (fun hb => ?_) (fun hb => ?_)) (ev_var rfl)
      · exact ev_is ev_c (by simp [part, ln, of_decide_eq_true hb])
      · exact ev_is (ev_var rfl) (by simp [part, ln, of_decide_eq_false hb])
    · unfold partOf lns
      rw [all_map] at hr
      rw [List.map_map, List.map_map]
      exact hr
/-! ### arcs -/
abbrev s_arcs_of : Stmt := top 21
abbrev N_arcs_of : List Str := ["lines", "limits", "flows", "found", "name", "tail", "head", "low", "high"]
theorem sc_arcs_of : FnScope N_arcs_of ["lines", "limits", "flows"] (C8.fnScope s_arcs_of) := C8.fnScope_by (by decide +kernel)

def sp_arcs_of : Sp := fun vs H Q _ => ∃ (l d fl : Addr) (ls : List Ln) (ns nf : List Str) (lo hi F : Str → Int), vs = [V.ref l, V.ref d, V.ref fl] ∧ TL H l (ls.map row3) ∧ LimAt H d ns lo hi ∧ Rd H fl (.dK (fd nf F)) ∧ (∀ x ∈ ls, x.n ∈ ns ∧ x.n ∈ nf) ∧ ls.length ≤ 60 ∧
  ∀ q H', H q = none → Ex H H' → TL H' q ((MM.arcsOf ls lo hi F).map rowA) → Q (.ref q) H'
theorem c_arcs_of_ (T : Txt K mg aP aM aR) (D : Dn K mg "arcs_of" s_arcs_of ["lines", "limits", "flows"]) : C8.Cal P w K mg base 1 "arcs_of" sp_arcs_of [] := by
  refine cal_of D sc_arcs_of (fun vs H Q E h => ?_) (fun f cdv A outer s H vs Q E hr h => ?_)
  · obtain ⟨l, d, fl, ls, ns, nf, lo, hi, F, rfl, _⟩ := h
    rfl
  · obtain ⟨l, d, fl, ls, ns, nf, lo, hi, F, rfl, ⟨as, hl, ht⟩, ⟨o, B, hd, hB⟩, hf, hn, hz, q⟩ := h
    have la : as.length = ls.length := by have := ht.1; rw [List.length_map] at this; exact this
    refine ⟨_, (pss_cons (ps_set (i := 3) sc_arcs_of.nd rfl (Or.inl rfl) (pe_lst pa_nil))
      (pss_cons (ps_for PassesOwn.never rfl (pi_list (pv 0)) (pg_tup rfl (pgs_cons (pg_name (i := 4) sc_arcs_of.nd rfl (Or.inl rfl)) (pgs_cons (pg_name (i := 5) sc_arcs_of.nd rfl (Or.inl rfl)) (pgs_cons (pg_name (i := 6) sc_arcs_of.nd rfl (Or.inl rfl)) pgs_nil)))) (pss_cons (ps_asg (pe_dget (hu_of hr) (pv 1) (pv 4) (fun _ _ => rfl)) (pg_tup rfl (pgs_cons (pg_name (i := 7) sc_arcs_of.nd rfl (Or.inl rfl)) (pgs_cons (pg_name (i := 8) sc_arcs_of.nd rfl (Or.inl rfl)) pgs_nil))))
      (pss_cons (ps_if (pt_cmpR op_lt (pe_dget (hu_of hr) (pv 2) (pv 4) (fun _ _ => rfl)) (pv 8) (nomark _)) (pss_one (ps_expr (pe_bm PySem.F.plainAttrs_list PySem.F.slot_list_append PySem.F.type_list_append mt_append (pv 3) (pa_cons (pe_tup (pa_cons (pv 5) (pa_cons (pv 6) (pa_cons (pv 4) (pa_cons pe_int (pa_cons (pe_op op_sub (pv 8) (pe_dget (hu_of hr) (pv 2) (pv 4) (fun _ _ => rfl))) pa_nil)))))) pa_nil)))) pss_nil)
      (pss_one (ps_if (pt_cmpR op_gt (pe_dget (hu_of hr) (pv 2) (pv 4) (fun _ _ => rfl)) (pv 7) (nomark _)) (pss_one (ps_expr (pe_bm PySem.F.plainAttrs_list PySem.F.slot_list_append PySem.F.type_list_append mt_append (pv 3) (pa_cons (pe_tup (pa_cons (pv 6) (pa_cons (pv 5) (pa_cons (pv 4) (pa_cons (pe_un un_neg pe_int) (pa_cons (pe_op op_sub (pe_dget (hu_of hr) (pv 2) (pv 4) (fun _ _ => rfl)) (pv 7)) pa_nil)))))) pa_nil)))) pss_nil)))))
      (pss_one (ps_ret (pv 3))))), ?_⟩
    refine q_asgL (el_lst ea_nil (by decide)) fun r H1 hr0 e1 hr1 => ?_
    refine q_forL (ev_var rfl) (sq_of (e1 _ _ hl)) (fun i σ H' => ∃ a b c x y, σ = [some (.ref l), some (.ref d), some (.ref fl), some (.ref r), a, b, c, x, y] ∧ Ex H H' ∧ TL H' r ((MM.arcsOf (ls.take i) lo hi F).map rowA)) (fun H2 e2 => ⟨none, none, none, none, none, rfl, e1.trans e2, [], e2 _ _ hr1, Tups.nil⟩) (fun i σ H' _ ⟨_, _, _, _, _, _, e, _⟩ => sq_of (e _ _ hl)) (fun i v σ H' hv ⟨a, b, c, x, y, hσ, e, bs, hrr, hb⟩ => ?_) (fun σ H' ⟨a, b, c, x, y, hσ, e, ht'⟩ => ?_)
    · subst hσ
      obtain ⟨adr, row, rfl, k1, k2, k3⟩ := ht.vals hv
      rw [List.getElem?_map] at k2
      cases hs : ls[i]? with
      | none => rw [hs] at k2; cases k2
      | some x =>
        rw [hs] at k2
        have k2 : row3 x = row := Option.some.inj k2
        subst k2
        obtain ⟨n1, n2⟩ := hn x (List.mem_of_getElem? hs)
        have lb : bs.length ≤ 120 := by
          have := hb.1
          rw [List.length_map] at this
          have q := MM.arcs_len (ls := ls.take i) (lo := lo) (hi := hi) (F := F)
          rw [List.length_take] at q
          omega
        have et : MM.arcsOf (ls.take (i + 1)) lo hi F = MM.arcsOf (ls.take i) lo hi F ++ MM.arcs1 lo hi F x := by
          rw [List.take_add_one, hs]
          unfold MM.arcsOf
          rw [List.flatMap_append]
          simp
        have r0 : H r = none := hr0
        refine g3 (e _ _ k3) ?_
        -- low, high = limits[name]
        refine q_tgt (ev_dget (ev_var rfl) (ev_var rfl) (.inr ⟨o, e _ _ hd⟩) n1) fun H2 e2 => g2 ((e.trans e2) _ _ (hB _ n1)) ?_
        have fv : ∀ {σ' : L2.St} {H' : Hp}, Ex H H' → σ'[2]? = some (some (.ref fl)) → σ'[4]? = some (some (.str x.n)) → Ev (tDGet (tVar 2) (tVar 4)) σ' H' (.int (F x.n)) := fun {σ' H'} e h1 h2 => ev_dget (ev_var h1) (ev_var h2) (ex_rd e hf) n2
        have hr2 := e2 _ _ hrr
        have hb2 := hb.mono e2
        have e02 := e.trans e2
        refine q_ifApp (l := r) (b := decide (F x.n < hi x.n)) (J := fun H' => Ex H H' ∧ TL H' r ((MM.arcsOf (ls.take i) lo hi F ++ (if F x.n < hi x.n then [(⟨x.t, x.h, x.n, 1, hi x.n - F x.n⟩ : Arc)] else [])).map rowA)) (et_cmp (fv e02 rfl rfl) (ev_var rfl)) hr2 (ev_var rfl)
          (fun _ => eu_tup (ea_cons (ev_var rfl) (ea_cons (ev_var rfl) (ea_cons (ev_var rfl) (ea_cons ev_c (ea_cons (ev_sub (ev_var rfl) (fv e02 rfl rfl)) ea_nil))))) (by show 5 ≤ 100000; decide)) (by rw [List.length_map]; omega) (fun hb' p H3 hp e3 h3 => ⟨Ex.mut (e02.trans e3) r0, bs ++ [p], by rw [upd_same, List.map_append]; rfl, ?_⟩) (fun hb' H3 e3 => ⟨e02.trans e3, bs, e3 _ _ hr2, ?_⟩) fun H3 hJ3 => ?_
        · rw [if_pos (of_decide_eq_true hb'), List.map_append]
          exact ((hb2.mono e3).snoc h3).but (fun _ z => by rw [e3 _ _ hr2] at z; cases z) ExD.upd
        · rw [if_neg (of_decide_eq_false hb'), List.append_nil]
          exact hb2.mono e3
        obtain ⟨e3, cs, hr3, hc⟩ := hJ3
        have lc : cs.length ≤ 121 := by
          have := hc.1
          rw [List.length_map, List.length_append] at this
          have q := MM.arcs_len (ls := ls.take i) (lo := lo) (hi := hi) (F := F)
          rw [List.length_take] at q
          have : (if F x.n < hi x.n then [(⟨x.t, x.h, x.n, 1, hi x.n - F x.n⟩ : Arc)] else []).length ≤ 1 := by split <;> simp
          omega
        refine s_ifApp (l := r) (b := decide (lo x.n < F x.n)) (J := fun H' => Ex H H' ∧ TL H' r ((MM.arcsOf (ls.take i) lo hi F ++ MM.arcs1 lo hi F x).map rowA)) (et_cmp (f := fun i j => decide (j < i)) (fv e3 rfl rfl) (ev_var rfl)) hr3 (ev_var rfl)
          (fun _ => eu_tup (ea_cons (ev_var rfl) (ea_cons (ev_var rfl) (ea_cons (ev_var rfl) (ea_cons (ev_un ev_c ru_neg) (ea_cons (ev_sub (fv e3 rfl rfl) (ev_var rfl)) ea_nil))))) (by show 5 ≤ 100000; decide)) (by rw [List.length_map]; omega) (fun hb' p H4 hp e4 h4 => ⟨Ex.mut (e3.trans e4) r0, cs ++ [p], by rw [upd_same, List.map_append]; rfl, ?_⟩) (fun hb' H4 e4 => ⟨e3.trans e4, cs, e4 _ _ hr3, ?_⟩) fun H4 hJ4 => ?_
        · unfold MM.arcs1
          rw [if_pos (of_decide_eq_true hb'), ← List.append_assoc, List.map_append]
          exact ((hc.mono e4).snoc h4).but (fun _ z => by rw [e4 _ _ hr3] at z; cases z) ExD.upd
        · unfold MM.arcs1
          rw [if_neg (of_decide_eq_false hb'), List.append_nil]
          exact hc.mono e4
        · exact ⟨_, _, _, _, _, rfl, hJ4.1, by rw [et]; exact hJ4.2⟩
    · subst hσ
      refine s_ret (ev_var rfl) fun H2 e2 => q r H2 hr0 (e.trans e2) ?_
      rw [List.length_map, la, List.take_length] at ht'
      exact ht'.mono e2
end
end MS
set_option Elab.async false
set_option linter.all false
set_option maxRecDepth 100000
set_option maxHeartbeats 4000000
namespace MS
open PySem PySem.Spec PyProof.Rows L2 Evl
theorem Tups.el {β : Type} {H : Hp} {as : List Addr} {ys : List β} {row : β → List V} (ht : Tups H as (ys.map row)) {i : Nat} {x : V} (hx : (as.map V.ref)[i]? = some x) : ∃ a y, x = .ref a ∧ as[i]? = some a ∧ ys[i]? = some y ∧ H a = some (.tup (row y)) := by
  obtain ⟨a, r, rfl, k1, k2, k3⟩ := ht.vals hx
  rw [List.getElem?_map] at k2
  cases hs : ys[i]? with
  | none => rw [hs] at k2; cases k2
  | some y =>
    rw [hs] at k2
    have k2 : row y = r := Option.some.inj k2
    exact ⟨a, y, rfl, k1, rfl, by rw [k2]; exact k3⟩
theorem Tups.ln {β : Type} {H : Hp} {as : List Addr} {ys : List β} {row : β → List V} (ht : Tups H as (ys.map row)) : as.length = ys.length := by have := ht.1; rw [List.length_map] at this; exact this
section
variable {K : PySem.W.Frag} {σ : L2.St} {H : Hp} {ta tb te td ty tv : TE} {t : TT} {D : Ends} {tz : TS}
theorem s_dputS {d : Addr} {ns : List Str} {g : Str → V} {m : Str} {v : V} (hd : H d = some (.dK (dm ns g))) (h1 : Ev td σ H (.ref d)) (h2 : Ev ty σ H (.str m)) (h3 : Ev tv σ H v) (hl : ns.length < 100000) (k : ∀ H1, Ex H H1 → D.nx σ (upd H1 d (.dK (putK (dm ns g) (Sum.inr m) v)))) : sDPut td ty tv D σ H :=
  h3 H (Ex.refl _) _ fun H1 e1 => h1 H1 e1 _ fun H2 e2 => h2 H2 (e1.trans e2) _ fun H3 e3 => ⟨d, _, rfl, DPut.k (k := Sum.inr m) (((e1.trans e2).trans e3) _ _ hd) (by rw [dm_len]; exact sz_lt hl), k H3 ((e1.trans e2).trans e3)⟩
theorem q_dputS {d : Addr} {ns : List Str} {g : Str → V} {m : Str} {v : V} (hd : H d = some (.dK (dm ns g))) (h1 : Ev td σ H (.ref d)) (h2 : Ev ty σ H (.str m)) (h3 : Ev tv σ H v) (hl : ns.length < 100000) (k : ∀ H1, Ex H H1 → tz D σ (upd H1 d (.dK (putK (dm ns g) (Sum.inr m) v)))) : tSeq (sDPut td ty tv) tz D σ H := s_dputS (D := { D with nx := tz D }) hd h1 h2 h3 hl k
theorem ev_callX {sp : Sp} {dvs vs : List V} {E : XK} {ta : TA} {Pv : V → Hp → Prop} (h : EvA ta σ H vs) (hs : ∀ H1, Ex H H1 → ∀ Q : VK, (∀ v H2, Ex H1 H2 → Pv v H2 → Q v H2) → ∀ E : XK, sp (vs ++ dvs) H1 Q E) : EvP (tCall sp dvs E ta) σ H Pv := fun H1 e Q q =>
  h H1 e _ fun H2 e2 => hs H2 (e.trans e2) Q (fun v H3 e3 hv => q v H3 (e2.trans e3) hv) E
/-- x = xs.pop() -/
theorem q_pop {i : Nat} {l : Addr} {xs : List V} {v : V} (hl : H l = some (.lst (xs ++ [v]))) (h : Ev ta σ H (.ref l)) (k : ∀ H1, Ex H H1 → tz D (σ.set i (some v)) (upd H1 l (.lst xs))) : tSeq (tAsg (tBM0 K "list" rPop ta) (gName i)) tz D σ H :=
  h H (Ex.refl _) _ fun H1 e1 => ⟨Or.inl ⟨rfl, _, sq_of (e1 _ _ hl)⟩, l, xs ++ [v], v, rfl, rfl, e1 _ _ hl, by simp, by
    rw [List.dropLast_concat]
    exact k H1 e1⟩
end
/-! ### come_to -/
structure Cs (prs : List (Str × Str)) (S : List Str) (z : Option Str) (W stk : List Str) : Prop where
  come : MM.Come prs S W
  sub : ∀ v ∈ stk, v ∈ W
  len : stk.length ≤ W.length
  cl : ∀ p ∈ prs, p.1 ∈ W → p.1 ∈ stk ∨ z = some p.1 ∨ p.2 ∈ W
theorem Cs.init {prs : List (Str × Str)} {S : List Str} (h : S.Nodup) : Cs prs S none S S := ⟨.init h, fun _ h => h, Nat.le_refl _, fun _ _ h => .inl h⟩
theorem Cs.pop {prs : List (Str × Str)} {S W stk : List Str} {v : Str} (h : Cs prs S none W (stk ++ [v])) : Cs prs S (some v) W stk := by
  refine ⟨h.come, fun x hx => h.sub x (List.mem_append_left _ hx), by have := h.len; simp at this; omega, fun p hp hw => ?_⟩
  rcases h.cl p hp hw with q | q | q
  · rcases List.mem_append.mp q with z | z
    · exact .inl z
    · exact .inr (.inl (by rw [List.mem_singleton.mp z]))
  · cases q
  · exact .inr (.inr q)
theorem Cs.add {prs : List (Str × Str)} {S W stk : List Str} {v : Str} (h : Cs prs S (some v) W stk) {p : Str × Str} (hp : p ∈ prs) (hv : p.1 = v) (hw : v ∈ W) (hn : p.2 ∉ W) : Cs prs S (some v) (W ++ [p.2]) (stk ++ [p.2]) := by
  refine ⟨h.come.add hp (hv ▸ hw) hn, fun x hx => ?_, by have := h.len; simp; omega, fun y hy hyw => ?_⟩
  · rcases List.mem_append.mp hx with z | z
    · exact List.mem_append_left _ (h.sub x z)
    · exact List.mem_append_right _ z
  · rcases List.mem_append.mp hyw with z | z
    · rcases h.cl y hy z with q | q | q
      · exact .inl (List.mem_append_left _ q)
      · exact .inr (.inl q)
      · exact .inr (.inr (List.mem_append_left _ q))
    · exact .inl (List.mem_append_right _ z)
theorem Cs.done {prs : List (Str × Str)} {S W stk : List Str} {v : Str} (h : Cs prs S (some v) W stk) (hd : ∀ p ∈ prs, p.1 = v → p.2 ∈ W) : Cs prs S none W stk :=
  ⟨h.come, h.sub, h.len, fun p hp hw => by
    rcases h.cl p hp hw with q | q | q
    · exact .inl q
    · exact .inr (.inr (hd p hp (Option.some.inj q).symm))
    · exact .inr (.inr q)⟩
/-- what come_to gives -/
structure Closed (prs : List (Str × Str)) (S W : List Str) : Prop where
  come : MM.Come prs S W
  cl : ∀ p ∈ prs, p.1 ∈ W → p.2 ∈ W
section
variable {P : Program} {w : World} {K : PySem.W.Frag} {mg : Str → Option Value} {base : Heap} {aP aM aR : Addr}
abbrev s_come_to : Stmt := top 28
abbrev N_come_to : List Str := ["pairs", "starts", "found", "place", "waiting", "one", "other"]
theorem sc_come_to : FnScope N_come_to ["pairs", "starts"] (C8.fnScope s_come_to) := C8.fnScope_by (by decide +kernel)

def tt (_ : Str) : V := .bl true
def sp_come_to (K : PySem.W.Frag) : Sp := fun vs H Q _ => ∃ (p s : Addr) (prs : List (Str × Str)) (S : List Str), vs = [V.ref p, V.ref s] ∧ TL H p (prs.map rowP) ∧ SqL K H s (S.map V.str) ∧ S.Nodup ∧ S.length ≤ 100 ∧ prs.length ≤ 120 ∧
  ∀ q H' W, H q = none → Ex H H' → H' q = some (.dK (dm W tt)) → Closed prs S W → Q (.ref q) H'
theorem c_come_to_ (T : Txt K mg aP aM aR) (D : Dn K mg "come_to" s_come_to ["pairs", "starts"]) : C8.Cal P w K mg base 1 "come_to" (sp_come_to K) [] := by
  refine cal_of D sc_come_to (fun vs H Q E h => ?_) (fun f cdv A outer s H vs Q E hr h => ?_)
  · obtain ⟨p, s, prs, S, rfl, _⟩ := h
    rfl
  · obtain ⟨p, st, prs, S, rfl, ⟨as, hp, ht⟩, hs, hS, hS1, hz, q⟩ := h
    refine ⟨_, (pss_cons (ps_setDc (i := 2) (own := [("place", 3)]) (g := (gName 3)) (tt := tYes) rfl sc_come_to.nd rfl rfl (sw_trueD rfl rfl rfl (by decide +kernel)) (pi_list (pv 1)) (blkOk_by (own := [("place", 3)]) (N := N_come_to) (sc := C8.fnScope s_come_to) (by decide +kernel)) (fun _ _ _ _ _ => (pg_name (i := 3) sc_come_to.nd rfl (Or.inl rfl))) (fun _ _ _ _ _ => pts_nil) (fun _ _ _ _ _ => (pv 3)) (fun _ _ _ _ _ => pe_bl))
      (pss_cons (ps_set (i := 4) sc_come_to.nd rfl (Or.inl rfl) (pe_callTy call_list_of (by rfl) T.n_list (by decide +kernel) (pa_cons (pv 1) pa_nil)))
      (pss_cons (ps_while PassesOwn.never (pt_truth (pv 4) (by intro _; rfl)) (pss_cons (ps_set (i := 3) sc_come_to.nd rfl (Or.inl rfl) (pe_bm0 PySem.F.plainAttrs_list PySem.F.slot_list_pop PySem.F.type_list_pop mt_pop (pv 4)))
      (pss_one (ps_for PassesOwn.never rfl (pi_list (pv 0)) (pg_tup rfl (pgs_cons (pg_name (i := 5) sc_come_to.nd rfl (Or.inl rfl)) (pgs_cons (pg_name (i := 6) sc_come_to.nd rfl (Or.inl rfl)) pgs_nil))) (pss_one (ps_if (PW.pt (pw_and (pt_cmpR op_eq (pv 5) (pv 3) (nomark _)) (pw_and1 (pt_cmp (pc_dnotin (hu_of hr) (pv 6) (pv 2)))))) (pss_cons (ps_dput (hu_of hr) (pv 2) (pv 6) pe_bl rfl)
      (pss_one (ps_expr (pe_bm PySem.F.plainAttrs_list PySem.F.slot_list_append PySem.F.type_list_append mt_append (pv 4) (pa_cons (pv 6) pa_nil))))) pss_nil))))))
      (pss_one (ps_ret (pv 2)))))), ?_⟩
    refine q_asgN (en_dc (ns := S) (ei_list (ev_var rfl) hs) hS (by omega) tt fun n H' hn e => ⟨_, fun Q q => q, rfl, ev_var rfl, ev_c⟩) fun d H1 hd0 e1 hd => ?_
    refine q_asgL (el_list (ev_var rfl) (ex_l e1 hs)) fun wt H2 hw0 e2 hw => ?_
    have w0 : H wt = none := fresh_back e1 hw0
    have nwd : d ≠ wt := fun z => ne_none hd hw0 z.symm
    refine q_while (fun m σ H' => ∃ a b c W stk, σ = [some (.ref p), some (.ref st), some (.ref d), a, some (.ref wt), b, c] ∧ Ex H H' ∧ H' d = some (.dK (dm W tt)) ∧ H' wt = some (.lst (stk.map V.str)) ∧ Cs prs S none W stk ∧ m = 2 * (S.length + prs.length - W.length) + stk.length) _ ⟨_, _, _, S, S, rfl, e1.trans e2, e2 _ _ hd, hw, Cs.init hS, rfl⟩ ?_
    rintro m σ H' ⟨a, b, c, W, stk, rfl, e, hd', hw', cs, rfl⟩
    refine ⟨_, et_truthL (ev_var rfl) hw', fun hb H3 e3 => ?_, fun hb H3 e3 => ?_⟩
    · obtain ⟨stk', v, rfl⟩ : ∃ s' v, stk = s' ++ [v] := by
        rcases List.eq_nil_or_concat stk with z | ⟨s', v, z⟩
        · subst z; simp at hb
        · exact ⟨s', v, by rw [z]; simp⟩
      have cp := cs.pop
      have vW : v ∈ W := cs.sub v (by simp)
      refine ⟨fun σ H' => ∃ a b c W' stk'', σ = [some (.ref p), some (.ref st), some (.ref d), a, some (.ref wt), b, c] ∧ Ex H H' ∧ H' d = some (.dK (dm W' tt)) ∧ H' wt = some (.lst (stk''.map V.str)) ∧ Cs prs S none W' stk'' ∧ 2 * (S.length + prs.length - W'.length) + stk''.length < 2 * (S.length + prs.length - W.length) + (stk' ++ [v]).length, ?_, ?_⟩
      · rintro σ2 H2 ⟨a, b, c, W', stk'', h1, h2, h3, h4, h5, h6⟩
        exact ⟨_, h6, a, b, c, W', stk'', h1, h2, h3, h4, h5, rfl⟩
      have hw3 : H3 wt = some (.lst (stk'.map V.str ++ [.str v])) := by rw [e3 _ _ hw', List.map_append]; rfl
      refine q_pop hw3 (ev_var rfl) fun H4 e4 => ?_
      have eA : Ex H (upd H4 wt (.lst (stk'.map V.str))) := Ex.mut ((e.trans e3).trans e4) w0
      refine s_forL (ev_var rfl) (sq_of (eA _ _ hp)) (fun i σ H' => ∃ b c W' stk'', σ = [some (.ref p), some (.ref st), some (.ref d), some (.str v), some (.ref wt), b, c] ∧ Ex H H' ∧ H' d = some (.dK (dm W' tt)) ∧ H' wt = some (.lst (stk''.map V.str)) ∧ Cs prs S (some v) W' stk'' ∧ v ∈ W' ∧ 2 * (S.length + prs.length - W'.length) + stk''.length ≤ 2 * (S.length + prs.length - W.length) + stk'.length ∧ ∀ j y, j < i → prs[j]? = some y → y.1 = v → y.2 ∈ W')
        (fun H5 e5 => ⟨_, _, W, stk', rfl, eA.trans e5, e5 _ _ (by rw [upd_ne nwd]; exact e4 _ _ (e3 _ _ hd')), e5 _ _ upd_same, cp, vW, Nat.le_refl _, fun j y hj => absurd hj (Nat.not_lt_zero _)⟩) (fun i σ H' _ ⟨_, _, _, _, _, e, _⟩ => sq_of (e _ _ hp)) (fun i x σ H' hx h => ?_) (fun σ H' h => ?_)
      · obtain ⟨b, c, W', stk'', rfl, e5, hd5, hw5, c5, v5, m5, d5⟩ := h
        obtain ⟨adr, y, rfl, _, hy, ha⟩ := ht.el hx
        refine g2 (e5 _ _ ha) ?_
        have ym := List.mem_of_getElem? hy
        refine s_if (b := decide (y.1 = v) && decide (y.2 ∉ W')) (et_and (et_test (ev_eqS (ev_var rfl) (ev_var rfl))) fun _ => et_B (ev_dnin (ev_var rfl) (ev_var rfl) (.inl hd5))) (fun hb H6 e6 => ?_) (fun hb H6 e6 => ?_)
        · rw [Bool.and_eq_true] at hb
          have b1 := of_decide_eq_true hb.1
          have b2 := of_decide_eq_true hb.2
          have lW := c5.come.len
          have cA := c5.add ym b1 v5 b2
          have lA := cA.come.len
          rw [List.length_append, List.length_singleton] at lA
          have l5 := c5.len
          refine q_dputS (e6 _ _ hd5) (ev_var rfl) (ev_var rfl) (ev_c (v := .bl true)) (by omega) fun H7 e7 => ?_
          have hw7 : (upd H7 d (.dK (putK (dm W' tt) (Sum.inr y.2) (.bl true)))) wt = some (.lst (stk''.map V.str)) := by rw [upd_ne nwd.symm]; exact e7 _ _ (e6 _ _ hw5)
          refine s_app hw7 (ev_var rfl) (ev_var rfl) (by rw [List.length_map]; omega) fun H8 e8 => ⟨_, _, W' ++ [y.2], stk'' ++ [y.2], rfl, ?_, ?_, ?_, cA, List.mem_append_left _ v5, ?_, ?_⟩
          · exact Ex.mut ((Ex.mut ((e5.trans e6).trans e7) hd0).trans e8) w0
          · rw [upd_ne nwd, e8 _ _ upd_same, putK_dm_new b2]
            congr 2
            exact dm_congr fun n _ => by show (if n = y.2 then V.bl true else V.bl true) = V.bl true; split <;> rfl
          · rw [upd_same, List.map_append]; rfl
          · simp only [List.length_append, List.length_singleton]; omega
          · intro j z hj hz hz1
            by_cases cj : j < i
            · exact List.mem_append_left _ (d5 j z cj hz hz1)
            · have : j = i := by omega
              subst this
              rw [hy] at hz; cases hz
              exact List.mem_append_right _ (List.mem_singleton.mpr rfl)
        · refine ⟨_, _, W', stk'', rfl, e5.trans e6, e6 _ _ hd5, e6 _ _ hw5, c5, v5, m5, fun j z hj hz hz1 => ?_⟩
          by_cases cj : j < i
          · exact d5 j z cj hz hz1
          · have : j = i := by omega
            subst this
            rw [hy] at hz; cases hz
            simpa [hz1] using hb
      · obtain ⟨b, c, W', stk'', rfl, e5, hd5, hw5, c5, v5, m5, d5⟩ := h
        refine ⟨_, _, _, W', stk'', rfl, e5, hd5, hw5, c5.done fun y hy hy1 => ?_, ?_⟩
        · obtain ⟨j, hj⟩ := List.mem_iff_getElem?.mp hy
          exact d5 j y (by rw [List.length_map, ht.ln]; exact (List.getElem?_eq_some_iff.mp hj).1) hj hy1
        · simp only [List.length_append, List.length_singleton]; omega
    · have : stk = [] := by cases stk with
        | nil => rfl
        | cons a r => simp at hb
      subst this
      refine s_ret (ev_var rfl) fun H4 e4 => q d H4 W hd0 ((e.trans e3).trans e4) (e4 _ _ (e3 _ _ hd')) ⟨cs.come, fun y hy hyw => ?_⟩
      rcases cs.cl y hy hyw with z | z | z
      · cases z
      · cases z
      · exact z
/-! ### leading_to, led_from -/
/-- what arcs_of reads -/
structure AI (H : Hp) (l d fl : Addr) (ls : List Ln) (ns nf : List Str) (lo hi F : Str → Int) : Prop where
  l : TL H l (ls.map row3)
  d : LimAt H d ns lo hi
  f : Rd H fl (.dK (fd nf F))
  n : ∀ x ∈ ls, x.n ∈ ns ∧ x.n ∈ nf
  z : ls.length ≤ 60
theorem AI.mono {H H' : Hp} {l d fl : Addr} {ls : List Ln} {ns nf : List Str} {lo hi F : Str → Int} (h : AI H l d fl ls ns nf lo hi F) (e : Ex H H') : AI H' l d fl ls ns nf lo hi F := ⟨h.l.mono e, h.d.mono e, ex_rd e h.f, h.n, h.z⟩
theorem AI.put {H H' : Hp} {l d fl : Addr} {ls : List Ln} {ns nf : List Str} {lo hi F F' : Str → Int} {kv : List (Key × V)} (h : AI H l d fl ls ns nf lo hi F) (hf : H fl = some (.dK kv)) (e : ExD fl H H') (hf' : H' fl = some (.dK (fd nf F'))) : AI H' l d fl ls ns nf lo hi F' := ⟨h.l.butD hf e, h.d.but hf e, .inl hf', h.n, h.z⟩
theorem en_arcs {ta : TA} {σ : L2.St} {H : Hp} {E : XK} {l d fl : Addr} {ls : List Ln} {ns nf : List Str} {lo hi F : Str → Int} (h : EvA ta σ H [.ref l, .ref d, .ref fl]) (a : AI H l d fl ls ns nf lo hi F) : EvN (tCall sp_arcs_of [] E ta) σ H (fun q H' => TL H' q ((MM.arcsOf ls lo hi F).map rowA)) := fun H1 e Q q => h H1 e _ fun H2 e2 => by
  have a2 := (a.mono e).mono e2
  exact ⟨l, d, fl, ls, ns, nf, lo, hi, F, rfl, a2.l, a2.d, a2.f, a2.n, a2.z, fun r H3 hr e3 hl => q r H3 (fresh_back e2 hr) (e2.trans e3) hl⟩
abbrev s_leading_to : Stmt := top 26
abbrev N_leading_to : List Str := ["lines", "limits", "flows", "ends", "pairs", "arc"]
theorem sc_leading_to : FnScope N_leading_to ["lines", "limits", "flows", "ends"] (C8.fnScope s_leading_to) := C8.fnScope_by (by decide +kernel)

def sp_leading_to (K : PySem.W.Frag) : Sp := fun vs H Q _ => ∃ (l d fl en : Addr) (ls : List Ln) (ns nf : List Str) (lo hi F : Str → Int) (S : List Str), vs = [V.ref l, V.ref d, V.ref fl, V.ref en] ∧ AI H l d fl ls ns nf lo hi F ∧ SqL K H en (S.map V.str) ∧ S.Nodup ∧ S.length ≤ 100 ∧
  ∀ q H' W, H q = none → Ex H H' → H' q = some (.dK (dm W tt)) → Closed ((MM.arcsOf ls lo hi F).map fun x => (x.b, x.a)) S W → Q (.ref q) H'
theorem c_leading_to_ (T : Txt K mg aP aM aR) (D : Dn K mg "leading_to" s_leading_to ["lines", "limits", "flows", "ends"]) (c_arcs_of : C8.Cal P w K mg base 1 "arcs_of" sp_arcs_of []) (c_come_to : C8.Cal P w K mg base 1 "come_to" (sp_come_to K) []) : C8.Cal P w K mg base 2 "leading_to" (sp_leading_to K) [] := by
  refine cal_of D sc_leading_to (fun vs H Q E h => ?_) (fun f cdv A outer s H vs Q E hr h => ?_)
  · obtain ⟨l, d, fl, en, ls, ns, nf, lo, hi, F, S, rfl, _⟩ := h
    rfl
  · obtain ⟨l, d, fl, en, ls, ns, nf, lo, hi, F, S, rfl, a, hs, hS, hz, q⟩ := h
    have al := MM.arcs_len (ls := ls) (lo := lo) (hi := hi) (F := F)
    have az := a.z
    refine ⟨_, (pss_cons (ps_setLc (i := 4) (own := [("arc", 5)]) (g := (gName 5)) (tt := tYes) rfl sc_leading_to.nd rfl rfl (sw_true rfl rfl rfl (by decide +kernel)) (pi_list (C8.pe_c c_arcs_of hr (by decide) (by rfl) (pa_cons (pv 0) (pa_cons (pv 1) (pa_cons (pv 2) pa_nil))))) (blkOk_by (own := [("arc", 5)]) (N := N_leading_to) (sc := C8.fnScope s_leading_to) (by decide +kernel)) (fun _ _ _ _ _ => (pg_name (i := 5) sc_leading_to.nd rfl (Or.inl rfl))) (fun _ _ _ _ _ => pts_nil) (fun _ _ _ _ _ => (pe_tup (pa_cons (pe_ix (ix_tupK K) (pv 5) pe_int (fun _ _ => rfl)) (pa_cons (pe_ix (ix_tupK K) (pv 5) pe_int (fun _ _ => rfl)) pa_nil)))))
      (pss_one (ps_ret (C8.pe_c c_come_to hr (by decide) (by rfl) (pa_cons (pv 4) (pa_cons (pv 3) pa_nil)))))), ?_⟩
    refine q_asgN (en_lcTS (ys := MM.arcsOf ls lo hi F) (row := rowA) (en_arcs (ea_cons (ev_var rfl) (ea_cons (ev_var rfl) (ea_cons (ev_var rfl) ea_nil))) a) (by omega) (fun _ => true) (fun x => rowP (x.b, x.a)) fun a y H' hy e ha => ?_) fun r H1 hr0 e1 hr1 => ?_
    · exact ⟨_, fun Q q => q, rfl, et_yes, fun _ => eu_2 (ev_ixT (i := 1) (ev_var rfl) ev_c ha rfl) (ev_ixT (i := 0) (ev_var rfl) ev_c ha rfl)⟩
    refine s_retP (ev_callX (ea_cons (ev_var rfl) (ea_cons (ev_var rfl) ea_nil)) (Pv := fun v H' => ∃ q W, v = .ref q ∧ H1 q = none ∧ H' q = some (.dK (dm W tt)) ∧ Closed ((MM.arcsOf ls lo hi F).map fun x => (x.b, x.a)) S W) fun H2 e2 Q q E => ?_) ?_
    · refine ⟨r, en, (MM.arcsOf ls lo hi F).map fun x => (x.b, x.a), S, rfl, ?_, ex_l (e1.trans e2) hs, hS, hz, by rw [List.length_map]; omega, fun q' H' W hq' e' hW hc => q _ H' e' ⟨q', W, rfl, fresh_back e2 hq', hW, hc⟩⟩
      rw [all_map] at hr1
      rw [List.map_map]
      exact hr1.mono e2
    · rintro v H2 e2 ⟨q', W, rfl, h0, hW, hc⟩
      exact q q' H2 W (fresh_back e1 h0) (e1.trans e2) hW hc
abbrev s_led_from : Stmt := top 27
abbrev N_led_from : List Str := ["lines", "limits", "flows", "starts", "pairs", "arc"]
theorem sc_led_from : FnScope N_led_from ["lines", "limits", "flows", "starts"] (C8.fnScope s_led_from) := C8.fnScope_by (by decide +kernel)

def sp_led_from (K : PySem.W.Frag) : Sp := fun vs H Q _ => ∃ (l d fl en : Addr) (ls : List Ln) (ns nf : List Str) (lo hi F : Str → Int) (S : List Str), vs = [V.ref l, V.ref d, V.ref fl, V.ref en] ∧ AI H l d fl ls ns nf lo hi F ∧ SqL K H en (S.map V.str) ∧ S.Nodup ∧ S.length ≤ 100 ∧
  ∀ q H' W, H q = none → Ex H H' → H' q = some (.dK (dm W tt)) → Closed ((MM.arcsOf ls lo hi F).map fun x => (x.a, x.b)) S W → Q (.ref q) H'
theorem c_led_from_ (T : Txt K mg aP aM aR) (D : Dn K mg "led_from" s_led_from ["lines", "limits", "flows", "starts"]) (c_arcs_of : C8.Cal P w K mg base 1 "arcs_of" sp_arcs_of []) (c_come_to : C8.Cal P w K mg base 1 "come_to" (sp_come_to K) []) : C8.Cal P w K mg base 2 "led_from" (sp_led_from K) [] := by
  refine cal_of D sc_led_from (fun vs H Q E h => ?_) (fun f cdv A outer s H vs Q E hr h => ?_)
  · obtain ⟨l, d, fl, en, ls, ns, nf, lo, hi, F, S, rfl, _⟩ := h
    rfl
  · obtain ⟨l, d, fl, en, ls, ns, nf, lo, hi, F, S, rfl, a, hs, hS, hz, q⟩ := h
    have al := MM.arcs_len (ls := ls) (lo := lo) (hi := hi) (F := F)
    have az := a.z
    refine ⟨_, (pss_cons (ps_setLc (i := 4) (own := [("arc", 5)]) (g := (gName 5)) (tt := tYes) rfl sc_led_from.nd rfl rfl (sw_true rfl rfl rfl (by decide +kernel)) (pi_list (C8.pe_c c_arcs_of hr (by decide) (by rfl) (pa_cons (pv 0) (pa_cons (pv 1) (pa_cons (pv 2) pa_nil))))) (blkOk_by (own := [("arc", 5)]) (N := N_led_from) (sc := C8.fnScope s_led_from) (by decide +kernel)) (fun _ _ _ _ _ => (pg_name (i := 5) sc_led_from.nd rfl (Or.inl rfl))) (fun _ _ _ _ _ => pts_nil) (fun _ _ _ _ _ => (pe_tup (pa_cons (pe_ix (ix_tupK K) (pv 5) pe_int (fun _ _ => rfl)) (pa_cons (pe_ix (ix_tupK K) (pv 5) pe_int (fun _ _ => rfl)) pa_nil)))))
      (pss_one (ps_ret (C8.pe_c c_come_to hr (by decide) (by rfl) (pa_cons (pv 4) (pa_cons (pv 3) pa_nil)))))), ?_⟩
    refine q_asgN (en_lcTS (ys := MM.arcsOf ls lo hi F) (row := rowA) (en_arcs (ea_cons (ev_var rfl) (ea_cons (ev_var rfl) (ea_cons (ev_var rfl) ea_nil))) a) (by omega) (fun _ => true) (fun x => rowP (x.a, x.b)) fun a y H' hy e ha => ?_) fun r H1 hr0 e1 hr1 => ?_
    · exact ⟨_, fun Q q => q, rfl, et_yes, fun _ => eu_2 (ev_ixT (i := 0) (ev_var rfl) ev_c ha rfl) (ev_ixT (i := 1) (ev_var rfl) ev_c ha rfl)⟩
    refine s_retP (ev_callX (ea_cons (ev_var rfl) (ea_cons (ev_var rfl) ea_nil)) (Pv := fun v H' => ∃ q W, v = .ref q ∧ H1 q = none ∧ H' q = some (.dK (dm W tt)) ∧ Closed ((MM.arcsOf ls lo hi F).map fun x => (x.a, x.b)) S W) fun H2 e2 Q q E => ?_) ?_
    · refine ⟨r, en, (MM.arcsOf ls lo hi F).map fun x => (x.a, x.b), S, rfl, ?_, ex_l (e1.trans e2) hs, hS, hz, by rw [List.length_map]; omega, fun q' H' W hq' e' hW hc => q _ H' e' ⟨q', W, rfl, fresh_back e2 hq', hW, hc⟩⟩
      rw [all_map] at hr1
      rw [List.map_map]
      exact hr1.mono e2
    · rintro v H2 e2 ⟨q', W, rfl, h0, hW, hc⟩
      exact q q' H2 W (fresh_back e1 h0) (e1.trans e2) hW hc
end
end MS
set_option Elab.async false
set_option linter.all false
set_option maxRecDepth 100000
set_option maxHeartbeats 4000000
namespace MS
open PySem PySem.Spec PyProof.Rows L2 Evl
theorem Tups.rev {H : Hp} {as : List Addr} {rows : List (List V)} (h : Tups H as rows) : Tups H as.reverse rows.reverse := by
  refine ⟨by simp [h.1], fun i a r h1 h2 => ?_⟩
  have hi : i < as.length := by have := (List.getElem?_eq_some_iff.mp h1).1; rwa [List.length_reverse] at this
  rw [List.getElem?_reverse hi] at h1
  rw [List.getElem?_reverse (by rw [← h.1]; exact hi)] at h2
  rw [← h.1] at h2
  exact h.2 _ a r h1 h2
section
variable {K : PySem.W.Frag} {σ : L2.St} {H : Hp} {ta tb te td ty tv : TE} {t : TT} {D : Ends} {tz : TS}
theorem el_rev {a : Addr} {xs : List V} (h : Ev te σ H (.ref a)) (ha : H a = some (.lst xs)) : EvL (tRevL K te) σ H xs.reverse := fun H1 e Q q => h H1 e _ fun H2 e2 =>
  ⟨a, xs, rfl, sq_of ((e.trans e2) _ _ ha), fun p hp => q p _ (fresh_back e2 hp) (e2.trans (Ex.new hp)) upd_same⟩
/-- d.setdefault(n, []).append(v) -/
theorem s_setdApp {lv : Addr} {ks : List Str} {g : Str → V} {n : Str} {j : Nat} {v : V} (hd : H lv = some (.dK (dm ks g))) (h1 : Ev td σ H (.ref lv)) (h2 : Ev ty σ H (.str n)) (hj : σ[j]? = some (some v)) (hk : ks.length < 100000)
    (k1 : n ∈ ks → ∃ l xs, g n = .ref l ∧ H l = some (.lst xs) ∧ xs.length < 100000 ∧ ∀ H1, Ex H H1 → D.nx σ (upd H1 l (.lst (xs ++ [v]))))
    (k2 : n ∉ ks → ∀ p H1, H p = none → Ex H H1 → D.nx σ (upd (upd H1 lv (.dK (putK (dm ks g) (Sum.inr n) (.ref p)))) p (.lst [v]))) :
    tDrop (tBM K "list" rAppend (tDSetd td ty (tLst tNil)) (tCons (tVar j) tNil)) D σ H :=
  h1 H (Ex.refl _) _ fun H1 e1 => ⟨lv, rfl, .inl ⟨_, .inl (e1 _ _ hd)⟩, h2 H1 e1 _ fun H2 e2 => ⟨by exact Nat.zero_le _, fun p hp => by
    have e12 := e1.trans e2
    have e3 : Ex H2 (upd H2 p (.lst [])) := Ex.new hp
    refine ⟨dm ks g, Sum.inr n, e3 _ _ (e12 _ _ hd), rfl, by rw [dm_len]; exact sz_lt hk, fun w hw => ?_, fun hw => ?_⟩
    · rw [valV_dm] at hw
      by_cases c : n ∈ ks
      · rw [if_pos c] at hw
        obtain ⟨l, xs, gl, hl, hz, k⟩ := k1 c
        have hw : V.ref l = w := by rw [← gl]; exact Option.some.inj hw
        subst hw
        have hl3 := e3 _ _ (e12 _ _ hl)
        exact ⟨Or.inl ⟨rfl, xs, sq_of hl3⟩, v, hj, l, xs, v, rfl, rfl, hl3, sz_lt hz, k _ (e12.trans e3)⟩
      · rw [if_neg c] at hw; cases hw
    · rw [valV_dm] at hw
      by_cases c : n ∈ ks
      · rw [if_pos c] at hw; cases hw
      · have nlp : p ≠ lv := ne_none (e12 _ _ hd) hp
        have hp' : (upd (upd H2 p (.lst [])) lv (.dK (putK (dm ks g) (Sum.inr n) (.ref p)))) p = some (.lst []) := by rw [upd_ne nlp, upd_same]
        exact ⟨Or.inl ⟨rfl, [], sq_of hp'⟩, v, hj, p, [], v, rfl, rfl, hp', by decide, k2 c p _ (fresh_back e12 hp) (e12.trans e3)⟩⟩⟩
end
section
variable {P : Program} {w : World} {K : PySem.W.Frag} {mg : Str → Option Value} {base : Heap} {aP aM aR : Addr}
/-! ### way_back -/
def ParAt (H : Hp) (W : List Str) (par : Str → Option Arc) (g : Str → V) : Prop := ∀ v ∈ W, (par v = none → g v = .non) ∧ ∀ x, par v = some x → ∃ a, g v = .ref a ∧ H a = some (.tup (rowA x))
theorem ParAt.mono {H H' : Hp} {W : List Str} {par : Str → Option Arc} {g : Str → V} (h : ParAt H W par g) (e : Ex H H') : ParAt H' W par g := fun v hv => ⟨(h v hv).1, fun x hx => by
  obtain ⟨a, h1, h2⟩ := (h v hv).2 x hx
  exact ⟨a, h1, e _ _ h2⟩⟩
abbrev s_way_back : Stmt := top 23
abbrev N_way_back : List Str := ["before", "place", "way"]
theorem sc_way_back : FnScope N_way_back ["before", "place"] (C8.fnScope s_way_back) := C8.fnScope_by (by decide +kernel)

def sp_way_back : Sp := fun vs H Q _ => ∃ (b : Addr) (p : Str) (W : List Str) (g : Str → V) (A : List Arc) (S : List Str) (par : Str → Option Arc) (w : List Arc) (vs0 : List Str), vs = [V.ref b, V.str p] ∧ H b = some (.dK (dm W g)) ∧ ParAt H W par g ∧ MM.Pth A S par p w vs0 ∧ (∀ v ∈ vs0, v ∈ W) ∧ w.length ≤ 1000 ∧
  ∀ q H', H q = none → Ex H H' → TL H' q (w.map rowA) → Q (.ref q) H'
theorem c_way_back_ (T : Txt K mg aP aM aR) (D : Dn K mg "way_back" s_way_back ["before", "place"]) : C8.Cal P w K mg base 1 "way_back" sp_way_back [] := by
  refine cal_of D sc_way_back (fun vs H Q E h => ?_) (fun f cdv A outer s H vs Q E hr h => ?_)
  · obtain ⟨b, p, W, g, A, S, par, w, vs0, rfl, _⟩ := h
    rfl
  · obtain ⟨b, p, W, g, A', S, par, w, vs0, rfl, hb, hpar, hp, hW, hz, q⟩ := h
    refine ⟨_, (pss_cons (ps_set (i := 2) sc_way_back.nd rfl (Or.inl rfl) (pe_lst pa_nil))
      (pss_cons (ps_while PassesOwn.never (pt_cmp (pc_notN (pe_dget (hu_of hr) (pv 0) (pv 1) (fun _ _ => rfl))) rfl) (pss_cons (ps_expr (pe_bm PySem.F.plainAttrs_list PySem.F.slot_list_append PySem.F.type_list_append mt_append (pv 2) (pa_cons (pe_dget (hu_of hr) (pv 0) (pv 1) (fun _ _ => rfl)) pa_nil)))
      (pss_one (ps_set (i := 1) sc_way_back.nd rfl (Or.inl rfl) (pe_ix ix_tup (pe_dget (hu_of hr) (pv 0) (pv 1) (fun _ _ => rfl)) pe_int (fun _ _ => rfl))))))
      (pss_one (ps_ret (pe_revL (pv 2)))))), ?_⟩
    refine q_asgL (el_lst ea_nil (by decide)) fun r H1 hr0 e1 hr1 => ?_
    refine q_while (fun m σ H' => ∃ p1 w1 vs1 back bs, σ = [some (.ref b), some (.str p1), some (.ref r)] ∧ MM.Pth A' S par p1 w1 vs1 ∧ (∀ v ∈ vs1, v ∈ W) ∧ w = w1 ++ back ∧ Ex H H' ∧ H' r = some (.lst (bs.map V.ref)) ∧ Tups H' bs (back.reverse.map rowA) ∧ m = w1.length) _ ⟨p, w, vs0, [], [], rfl, hp, hW, by simp, e1, hr1, Tups.nil, rfl⟩ ?_
    rintro m σ H' ⟨p1, w1, vs1, back, bs, rfl, h1, h2, h3, e, h4, h5, rfl⟩
    have pW : p1 ∈ W := h2 p1 h1.mem
    have hd : Rd H' b (.dK (dm W g)) := .inl (e _ _ hb)
    refine ⟨!decide (g p1 = .non), et_B (ev_notN (ev_dget (ev_var rfl) (ev_var rfl) hd pW)), fun hb' H3 e3 => ?_, fun hb' H3 e3 => ?_⟩
    · cases h1 with
      | start hs hn => rw [(hpar _ pW).1 hn] at hb'; exact absurd hb' (by decide)
      | step hw hx hq hpx hnv =>
        rename_i w' vs' x
        subst hq
        obtain ⟨a, ga, ha⟩ := (hpar _ pW).2 x hpx
        have ha3 := e3 _ _ (e _ _ ha)
        have lb : bs.length ≤ 1000 := by
          have := h5.1
          rw [List.length_map, List.length_reverse] at this
          rw [h3, List.length_append] at hz
          omega
        refine ⟨fun σ H' => ∃ p1 w1 vs1 back bs, σ = [some (.ref b), some (.str p1), some (.ref r)] ∧ MM.Pth A' S par p1 w1 vs1 ∧ (∀ v ∈ vs1, v ∈ W) ∧ w = w1 ++ back ∧ Ex H H' ∧ H' r = some (.lst (bs.map V.ref)) ∧ Tups H' bs (back.reverse.map rowA) ∧ w1.length < (w' ++ [x]).length, fun σ2 H2 ⟨p1, w1, vs1, back, bs, k1, k2, k3, k4, k5, k6, k7, k8⟩ => ⟨_, k8, p1, w1, vs1, back, bs, k1, k2, k3, k4, k5, k6, k7, rfl⟩, ?_⟩
        have hd3 := ex_rd e3 hd
        refine q_app (e3 _ _ h4) (ev_var rfl) (ev_is (ev_dget (ev_var rfl) (ev_var rfl) hd3 pW) ga) (by rw [List.length_map]; omega) fun H4 e4 => ?_
        have e34 : Ex H' (H4) := e3.trans e4
        have eU : Ex H (upd H4 r (.lst (bs.map V.ref ++ [.ref a]))) := Ex.mut (e.trans e34) hr0
        have hd4 : Rd (upd H4 r (.lst (bs.map V.ref ++ [.ref a]))) b (.dK (dm W g)) := ex_rd eU (.inl hb)
        refine s_asg (ev_ixT (i := 0) (ev_is (ev_dget (ev_var rfl) (ev_var rfl) hd4 pW) ga) ev_c (eU _ _ ha) rfl) fun H5 e5 => ⟨x.a, w', vs', [x] ++ back, bs ++ [a], rfl, hw, fun v hv => h2 v (List.mem_append_left _ hv), by rw [h3]; simp, eU.trans e5, e5 _ _ (by rw [upd_same, List.map_append]; rfl), ?_, by simp⟩
        have : (([x] ++ back).reverse.map rowA) = back.reverse.map rowA ++ [rowA x] := by simp
        rw [this]
        refine Tups.mono ?_ e5
        have nar : ∀ t, H4 r ≠ some (.tup t) := fun t z => by rw [e34 _ _ h4] at z; cases z
        exact ((h5.mono e34).snoc (e4 _ _ ha3)).but nar ExD.upd
    · cases h1 with
      | step hw hx hq hpx hnv =>
        obtain ⟨a, ga, ha⟩ := (hpar _ pW).2 _ hpx
        rw [ga] at hb'; simp at hb'
      | start hs hn =>
        rw [List.nil_append] at h3
        subst h3
        refine s_retL (el_rev (ev_var rfl) (e3 _ _ h4)) fun q' H4 hq' e4 hl => q q' H4 (fresh_back (e.trans e3) hq') ((e.trans e3).trans e4) ⟨bs.reverse, by rw [hl, List.map_reverse], ?_⟩
        have := (h5.mono (e3.trans e4)).rev
        rw [← List.map_reverse, List.reverse_reverse] at this
        exact this
end
end MS
set_option Elab.async false
set_option linter.all false
set_option maxRecDepth 100000
set_option maxHeartbeats 4000000
namespace MS
open PySem PySem.Spec PyProof.Rows L2 Evl
/-- the arcs (with where they stand) that leave n -/
def outs (az : List (Addr × Arc)) (n : Str) : List (Addr × Arc) := az.filter fun y => decide (y.2.a = n)
def refs (az : List (Addr × Arc)) : List V := az.map fun y => V.ref y.1
theorem outs_snoc (az : List (Addr × Arc)) (y : Addr × Arc) (n : Str) : outs (az ++ [y]) n = outs az n ++ (if y.2.a = n then [y] else []) := by
  unfold outs
  rw [List.filter_append]
  by_cases c : y.2.a = n <;> simp [c]
theorem outs_len (az : List (Addr × Arc)) (n : Str) : (outs az n).length ≤ az.length := List.length_filter_le _ _
/-- the dict leaving -/
structure Lv (H0 H : Hp) (lv : Addr) (az : List (Addr × Arc)) (ks : List Str) (la : Str → Addr) : Prop where
  d : H lv = some (.dK (dm ks fun n => .ref (la n)))
  l : ∀ n ∈ ks, H0 (la n) = none ∧ la n ≠ lv ∧ H (la n) = some (.lst (refs (outs az n)))
  inj : ∀ n ∈ ks, ∀ m ∈ ks, la n = la m → n = m
  no : ∀ n, n ∉ ks → outs az n = []
  z : ks.length ≤ az.length
theorem Lv.mono {H0 H H' : Hp} {lv : Addr} {az : List (Addr × Arc)} {ks : List Str} {la : Str → Addr} (h : Lv H0 H lv az ks la) (e : Ex H H') : Lv H0 H' lv az ks la := ⟨e _ _ h.d, fun n hn => ⟨(h.l n hn).1, (h.l n hn).2.1, e _ _ (h.l n hn).2.2⟩, h.inj, h.no, h.z⟩
theorem Lv.old {H0 H : Hp} {lv : Addr} {az : List (Addr × Arc)} {ks : List Str} {la : Str → Addr} (h : Lv H0 H lv az ks la) (y : Addr × Arc) (hn : y.2.a ∈ ks) : Lv H0 (upd H (la y.2.a) (.lst (refs (outs az y.2.a) ++ [.ref y.1]))) lv (az ++ [y]) ks la := by
  refine ⟨by rw [upd_ne (h.l _ hn).2.1.symm]; exact h.d, fun n hn' => ⟨(h.l n hn').1, (h.l n hn').2.1, ?_⟩, h.inj, fun n hn' => ?_, by rw [List.length_append]; have := h.z; omega⟩
  · by_cases c : y.2.a = n
    · subst c
      rw [upd_same, outs_snoc, if_pos rfl]
      unfold refs
      rw [List.map_append]; rfl
    · rw [upd_ne (fun z => c (h.inj _ hn _ hn' z.symm)), outs_snoc, if_neg c, List.append_nil]
      exact (h.l n hn').2.2
  · have c : y.2.a ≠ n := fun z => hn' (z ▸ hn)
    rw [outs_snoc, if_neg c, List.append_nil]
    exact h.no n hn'
theorem Lv.new {H0 H H1 : Hp} {lv p : Addr} {az : List (Addr × Arc)} {ks : List Str} {la : Str → Addr} (h : Lv H0 H lv az ks la) (e : Ex H H1) (y : Addr × Arc) (hn : y.2.a ∉ ks) (hp : H p = none) (hp0 : H0 p = none) :
    Lv H0 (upd (upd H1 lv (.dK (putK (dm ks fun n => V.ref (la n)) (Sum.inr y.2.a) (.ref p)))) p (.lst [.ref y.1])) lv (az ++ [y]) (ks ++ [y.2.a]) (fun n => if n = y.2.a then p else la n) := by
  have plv : p ≠ lv := ne_none h.d hp
  have pla : ∀ n ∈ ks, la n ≠ p := fun n hn' z => by have := (h.l n hn').2.2; rw [z, hp] at this; cases this
  refine ⟨?_, fun n hn' => ?_, fun n hn' m hm' hz => ?_, fun n hn' => ?_, by rw [List.length_append, List.length_append]; have := h.z; simp; omega⟩
  · rw [upd_ne plv.symm, upd_same, putK_dm_new hn]
    congr 2
    exact dm_congr fun n _ => by split <;> rfl
  · by_cases c : n = y.2.a
    · subst c
      simp only [if_true]
      refine ⟨hp0, plv, ?_⟩
      rw [upd_same, outs_snoc, if_pos rfl, h.no _ hn]
      rfl
    · have hk : n ∈ ks := by rcases List.mem_append.mp hn' with z | z; exact z; exact absurd (List.mem_singleton.mp z) c
      simp only [if_neg c]
      obtain ⟨l1, l2, l3⟩ := h.l n hk
      refine ⟨l1, l2, ?_⟩
      rw [upd_ne (pla n hk), upd_ne l2, e _ _ l3, outs_snoc, if_neg (fun z => c z.symm), List.append_nil]
  · by_cases c : n = y.2.a
    · by_cases c' : m = y.2.a
      · rw [c, c']
      · have hk : m ∈ ks := by rcases List.mem_append.mp hm' with z | z; exact z; exact absurd (List.mem_singleton.mp z) c'
        simp only [if_pos c, if_neg c'] at hz
        exact absurd hz.symm (pla m hk)
    · have hk : n ∈ ks := by rcases List.mem_append.mp hn' with z | z; exact z; exact absurd (List.mem_singleton.mp z) c
      by_cases c' : m = y.2.a
      · simp only [if_pos c', if_neg c] at hz
        exact absurd hz (pla n hk)
      · have hk' : m ∈ ks := by rcases List.mem_append.mp hm' with z | z; exact z; exact absurd (List.mem_singleton.mp z) c'
        simp only [if_neg c', if_neg c] at hz
        exact h.inj n hk m hk' hz
  · have c : y.2.a ≠ n := fun z => hn' (List.mem_append_right _ (List.mem_singleton.mpr z.symm))
    rw [outs_snoc, if_neg c, List.append_nil]
    exact h.no n fun z => hn' (List.mem_append_left _ z)
section
variable {K : PySem.W.Frag} {σ : L2.St} {H : Hp} {ta tb te td ty tv : TE} {t : TT} {D : Ends} {tz : TS}
theorem en_dnewK : EvN tDNewK σ H (fun p H' => H' p = some (.dK [])) := fun H1 e Q q => fun p hp => q p _ hp (Ex.new hp) upd_same
/-- leaving.get(place, []) -/
theorem ep_outs {H0 : Hp} {lv : Addr} {az : List (Addr × Arc)} {ks : List Str} {la : Str → Addr} {n : Str} (L : Lv H0 H lv az ks la) (h1 : Ev td σ H (.ref lv)) (h2 : Ev ty σ H (.str n)) : EvP (tDGet2 td ty (tLst tNil)) σ H (fun v H2 => ∃ p, v = .ref p ∧ H2 p = some (.lst (refs (outs az n))) ∧ (H p = none ∨ ∃ n ∈ ks, p = la n)) := fun H1 e Q q =>
  h1 H1 e _ fun H2 e2 => ⟨lv, rfl, .inl ⟨_, .inl (e2 _ _ (e _ _ L.d))⟩, h2 H2 (e.trans e2) _ fun H3 e3 => ⟨by exact Nat.zero_le _, fun p hp => by
    have e4 : Ex H3 (upd H3 p (.lst [])) := Ex.new hp
    have L4 := L.mono (((e.trans e2).trans e3).trans e4)
    refine ⟨_, dget_o (.inl L4.d), ?_⟩
    by_cases c : n ∈ ks
    · rw [if_pos c]
      exact q _ _ ((e2.trans e3).trans e4) ⟨la n, rfl, (L4.l n c).2.2, .inr ⟨n, c, rfl⟩⟩
    · rw [if_neg c]
      exact q _ _ ((e2.trans e3).trans e4) ⟨p, rfl, by rw [L.no n c]; exact upd_same, .inl (fresh_back ((e.trans e2).trans e3) hp)⟩⟩⟩
theorem q_forY {tl : TE} {g : TG} {tu : TS} {R : Addr → Hp → Prop} {xs : List V} (h : EvP tl σ H (fun v H2 => ∃ p, v = .ref p ∧ H2 p = some (.lst xs) ∧ R p H2)) (k : ∀ (p : Addr) H1, Ex H H1 → H1 p = some (.lst xs) → R p H1 → ∃ Pv : Nat → L2.St → Hp → Prop, Pv 0 σ H1 ∧ (∀ i σ' H', i ≤ xs.length → Pv i σ' H' → H' p = some (.lst xs)) ∧
    (∀ i x σ' H', xs[i]? = some x → Pv i σ' H' → g x σ' H' fun σ2 H2 => tu { D with nx := Pv (i + 1), ct := Pv (i + 1), bk := tz D } σ2 H2) ∧ (∀ σ' H', Pv xs.length σ' H' → tz D σ' H')) : tSeq (tFor (iList K tl) g tu) tz D σ H :=
  h H (Ex.refl _) _ fun v H1 e ⟨p, hv, hs, hR⟩ => by
    subst hv
    obtain ⟨Pv, k0, k1, k2, k3⟩ := k p H1 e hs hR
    exact ⟨p, rfl, ⟨xs, sq_of hs⟩, for_list (D := { D with nx := tz D }) Pv k0 (fun i σ H hi hp => sq_of (k1 i σ H hi hp)) k2 k3⟩
end
/-- before, waiting: the search under way; the first i places are done -/
structure Sr (H0 H : Hp) (bf wt : Addr) (A : List Arc) (S En W : List Str) (i : Nat) : Prop where
  ex : ∃ (par : Str → Option Arc) (g : Str → V), H bf = some (.dK (dm W g)) ∧ ParAt H0 W par g ∧ MM.Bfs A S W par
  w : H wt = some (.lst (W.map V.str))
  e : Ex H0 H
  cl : ∀ x ∈ A, ∀ j, j < i → W[j]? = some x.a → x.b ∈ W
  no : ∀ j v, j < i → W[j]? = some v → v ∉ En
section
variable {P : Program} {w : World} {K : PySem.W.Frag} {mg : Str → Option Value} {base : Heap} {aP aM aR : Addr}
abbrev s_way_between : Stmt := top 22
abbrev N_way_between : List Str := ["arcs", "starts", "ends", "leaving", "arc", "before", "place", "waiting", "at"]
theorem sc_way_between : FnScope N_way_between ["arcs", "starts", "ends"] (C8.fnScope s_way_between) := C8.fnScope_by (by decide +kernel)

def sp_way_between (K : PySem.W.Frag) : Sp := fun vs H Q _ => ∃ (ar s en : Addr) (A : List Arc) (S En : List Str), vs = [V.ref ar, V.ref s, V.ref en] ∧ TL H ar (A.map rowA) ∧ SqL K H s (S.map V.str) ∧ SqL K H en (En.map V.str) ∧ S.Nodup ∧ S.length ≤ 100 ∧ A.length ≤ 120 ∧
  (∀ q H' par w vs0 p, H q = none → Ex H H' → TL H' q (w.map rowA) → MM.Pth A S par p w vs0 → p ∈ En → w.length ≤ 1000 → Q (.ref q) H') ∧ (∀ (H' : Hp) (W : List Str), Ex H H' → (∀ s ∈ S, s ∈ W) → (∀ x ∈ A, x.a ∈ W → x.b ∈ W) → (∀ v ∈ W, v ∉ En) → Q .non H')
theorem c_way_between_ (T : Txt K mg aP aM aR) (D : Dn K mg "way_between" s_way_between ["arcs", "starts", "ends"]) (c_way_back : C8.Cal P w K mg base 1 "way_back" sp_way_back []) : C8.Cal P w K mg base 2 "way_between" (sp_way_between K) [] := by
  refine cal_of D sc_way_between (fun vs H Q E h => ?_) (fun f cdv A outer s H vs Q E hr h => ?_)
  · obtain ⟨ar, s, en, A, S, En, rfl, _⟩ := h
    rfl
  · obtain ⟨ar, st, en, Ar, S, En, rfl, ⟨as, hA, ht⟩, hs, hen, hS, hS1, hz, q1, q2⟩ := h
    have la := ht.ln
    refine ⟨_, (pss_cons (ps_set (i := 3) sc_way_between.nd rfl (Or.inl rfl) pe_dnewK)
      (pss_cons (ps_for PassesOwn.never rfl (pi_list (pv 0)) (pg_name (i := 4) sc_way_between.nd rfl (Or.inl rfl)) (pss_one (ps_expr (pe_bm PySem.F.plainAttrs_list PySem.F.slot_list_append PySem.F.type_list_append mt_append (pe_dsetd (pv 3) (pe_ix ix_tup (pv 4) pe_int (fun _ _ => rfl)) (pe_lst pa_nil) ⟨rfl, rfl, rfl, rfl⟩) (pa_cons (pv 4) pa_nil)))))
      (pss_cons (ps_setDc (i := 5) (own := [("place", 6)]) (g := (gName 6)) (tt := tYes) rfl sc_way_between.nd rfl rfl (sw_trueD rfl rfl rfl (by decide +kernel)) (pi_list (pv 1)) (blkOk_by (own := [("place", 6)]) (N := N_way_between) (sc := C8.fnScope s_way_between) (by decide +kernel)) (fun _ _ _ _ _ => (pg_name (i := 6) sc_way_between.nd rfl (Or.inl rfl))) (fun _ _ _ _ _ => pts_nil) (fun _ _ _ _ _ => (pv 6)) (fun _ _ _ _ _ => pe_non))
      (pss_cons (ps_set (i := 7) sc_way_between.nd rfl (Or.inl rfl) (pe_callTy call_list_of (by rfl) T.n_list (by decide +kernel) (pa_cons (pv 1) pa_nil)))
      (pss_cons (ps_set (i := 8) sc_way_between.nd rfl (Or.inl rfl) pe_int)
      (pss_cons (ps_while PassesOwn.never (pt_cmpR op_lt (pv 8) (pe_callB call_len_seq (by rfl) T.n_len PySem.boot_len (pa_cons (pv 7) pa_nil)) (nomark _)) (pss_cons (ps_if (pt_cmpR op_in_seq (pe_ix ix_list (pv 7) (pv 8) (fun _ _ => rfl)) (pv 2) (by rfl)) (pss_one (ps_ret (C8.pe_c c_way_back hr (by decide) (by rfl) (pa_cons (pv 5) (pa_cons (pe_ix ix_list (pv 7) (pv 8) (fun _ _ => rfl)) pa_nil))))) pss_nil)
      (pss_cons (ps_for PassesOwn.never rfl (pi_list (pe_dget2 (hu_of hr) (pv 3) (pe_ix ix_list (pv 7) (pv 8) (fun _ _ => rfl)) (pe_lst pa_nil) ⟨rfl, rfl, rfl, rfl⟩)) (pg_name (i := 4) sc_way_between.nd rfl (Or.inl rfl)) (pss_one (ps_if (pt_cmp (pc_dnotin (hu_of hr) (pe_ix ix_tup (pv 4) pe_int (fun _ _ => rfl)) (pv 5))) (pss_cons (ps_dput (hu_of hr) (pv 5) (pe_ix ix_tup (pv 4) pe_int (fun _ _ => rfl)) (pv 4) rfl)
      (pss_one (ps_expr (pe_bm PySem.F.plainAttrs_list PySem.F.slot_list_append PySem.F.type_list_append mt_append (pv 7) (pa_cons (pe_ix ix_tup (pv 4) pe_int (fun _ _ => rfl)) pa_nil))))) pss_nil)))
      (pss_one (ps_aug (i := 8) sc_way_between.nd rfl (Or.inl rfl) pe_int ip_add)))))
      (pss_one (ps_ret pe_non)))))))), ?_⟩
    refine q_asgN en_dnewK fun lv H1 hl0 e1 hl => ?_
    refine q_forL (ev_var rfl) (sq_of (e1 _ _ hA)) (fun i σ H' => ∃ b ks la, σ = [some (.ref ar), some (.ref st), some (.ref en), some (.ref lv), b, none, none, none, none] ∧ Ex H H' ∧ Lv H H' lv ((as.zip Ar).take i) ks la)
      (fun H2 e2 => ⟨none, [], fun _ => lv, rfl, e1.trans e2, ⟨e2 _ _ hl, fun n hn => (nomatch hn), fun n hn => (nomatch hn), fun n _ => rfl, Nat.zero_le _⟩⟩) (fun i σ H' _ ⟨_, _, _, _, e, _⟩ => sq_of (e _ _ hA)) (fun i x σ H' hx h => ?_) (fun σ H' h => ?_)
    · obtain ⟨b, ks, la', rfl, e, L⟩ := h
      obtain ⟨a, y, rfl, ha, hy, hya⟩ := ht.el hx
      have hzi : (as.zip Ar)[i]? = some (a, y) := List.getElem?_zip_eq_some.mpr ⟨ha, hy⟩
      have et : (as.zip Ar).take (i + 1) = (as.zip Ar).take i ++ [(a, y)] := by rw [List.take_add_one, hzi]; rfl
      have lz : ((as.zip Ar).take i).length ≤ 120 := by
        rw [List.length_take, List.length_zip]; omega
      have lk := L.z
      refine s_setdApp (n := y.a) L.d (ev_var rfl) (ev_ixT (i := 0) (ev_var rfl) ev_c (e _ _ hya) rfl) (v := .ref a) rfl (by omega) (fun hn => ?_) (fun hn p H3 hp e3 => ?_)
      · refine ⟨la' y.a, _, rfl, (L.l _ hn).2.2, ?_, fun H3 e3 => ⟨_, ks, la', rfl, Ex.mut (e.trans e3) (L.l _ hn).1, ?_⟩⟩
        · have := outs_len ((as.zip Ar).take i) y.a
          unfold refs
          rw [List.length_map]; omega
        · rw [et]
          exact (L.mono e3).old (a, y) hn
      · refine ⟨_, ks ++ [y.a], fun n => if n = y.a then p else la' n, rfl, Ex.mut (Ex.mut (e.trans e3) hl0) (fresh_back e hp), ?_⟩
        rw [et]
        exact L.new e3 (a, y) hn hp (fresh_back e hp)
    obtain ⟨b, ks, la', rfl, e, L⟩ := h
    have lz : (as.zip Ar).length = Ar.length := by rw [List.length_zip]; omega
    rw [List.length_map, show as.length = (as.zip Ar).length by omega, List.take_length] at L
    have hAz : ∀ y ∈ as.zip Ar, y.2 ∈ Ar ∧ H y.1 = some (.tup (rowA y.2)) := fun y hy => by
      obtain ⟨i, hi⟩ := List.mem_iff_getElem?.mp hy
      obtain ⟨h1, h2⟩ := List.getElem?_zip_eq_some.mp hi
      refine ⟨List.mem_of_getElem? h2, ht.2 i _ _ h1 ?_⟩
      rw [List.getElem?_map, h2]; rfl
    refine q_asgN (en_dc (ns := S) (ei_list (ev_var rfl) (ex_l e hs)) hS (by omega) (fun _ => .non) fun n H' hn e => ⟨_, fun Q q => q, rfl, ev_var rfl, ev_c⟩) fun bf H2 hb0 e2 hb => ?_
    refine q_asgL (el_list (ev_var rfl) (ex_l (e.trans e2) hs)) fun wt H3 hw0 e3 hw => ?_
    have nwb : bf ≠ wt := fun z => ne_none hb hw0 z.symm
    have w0 := fresh_back e2 hw0
    refine q_asg (ev_c (v := .int 0)) fun H4 e4 => ?_
    refine q_while (fun m σ H'' => ∃ b c i W, σ = [some (.ref ar), some (.ref st), some (.ref en), some (.ref lv), b, some (.ref bf), c, some (.ref wt), some (.int (i : Nat))] ∧ Sr H' H'' bf wt Ar S En W i ∧ i ≤ W.length ∧ m = S.length + Ar.length - i) _ ⟨_, _, 0, S, rfl, ⟨⟨fun _ => none, fun _ => .non, e4 _ _ (e3 _ _ hb), fun v hv => ⟨fun _ => rfl, fun x hx => (nomatch hx)⟩, .init hS⟩, e4 _ _ hw, (e2.trans e3).trans e4, fun x _ j hj => absurd hj (Nat.not_lt_zero _), fun j v hj => absurd hj (Nat.not_lt_zero _)⟩, Nat.zero_le _, rfl⟩ ?_
    rintro m σ H5 ⟨b, c, i, W, rfl, s5, hi, rfl⟩
    refine ⟨_, et_test (ev_cmp (f := fun i j => decide (i < j)) (ev_var rfl) (ev_len (ev_var rfl) (sq_of s5.w))), fun hb H6 e6 => ?_, fun hb H6 e6 => ?_⟩
    · have hlt : i < W.length := by have := of_decide_eq_true hb; rw [List.length_map] at this; omega
      have ez : W[i]? = some W[i] := List.getElem?_eq_getElem hlt
      generalize W[i] = z at ez
      have hz' : (W.map V.str)[i]? = some (V.str z) := by rw [List.getElem?_map, ez]; rfl
      have zW : z ∈ W := List.mem_of_getElem? ez
      have w6 := e6 _ _ s5.w
      have eH6 : Ex H' H6 := s5.e.trans e6
      refine ⟨fun σ H'' => ∃ b c i' W, σ = [some (.ref ar), some (.ref st), some (.ref en), some (.ref lv), b, some (.ref bf), c, some (.ref wt), some (.int (i' : Nat))] ∧ Sr H' H'' bf wt Ar S En W i' ∧ i' ≤ W.length ∧ S.length + Ar.length - i' < S.length + Ar.length - i, fun σ2 H2 ⟨b, c, i', W, h1, h2, h3, h4⟩ => ⟨_, h4, b, c, i', W, h1, h2, h3, rfl⟩, ?_⟩
      refine q_when (b := decide (z ∈ En)) (et_test (ev_inS (xs := En) (a := en) (ev_ixL (i := i) (ev_var rfl) (ev_var rfl) w6 hz') (ev_var rfl) (ex_l (e.trans eH6) hen))) (fun hb H7 e7 => ?_) (fun hb H7 e7 => ?_)
      · obtain ⟨par, g, g1, g2, g3⟩ := s5.ex
        obtain ⟨w', vs', p1, p2⟩ := g3.pth z zW
        have lw : w'.length ≤ 1000 := by
          obtain ⟨l1, l2⟩ := p1.len
          have l3 := MM.nodup_len l2 p2
          have l4 := g3.len
          omega
        refine s_retP (ev_callX (ea_cons (ev_var rfl) (ea_cons (ev_ixL (i := i) (ev_var rfl) (ev_var rfl) (e7 _ _ w6) hz') ea_nil)) (Pv := fun v H'' => ∃ q, v = .ref q ∧ H7 q = none ∧ TL H'' q (w'.map rowA)) fun H8 e8 Q q E => ?_) ?_
        · exact ⟨bf, z, W, g, Ar, S, par, w', vs', rfl, e8 _ _ (e7 _ _ (e6 _ _ g1)), g2.mono ((eH6.trans e7).trans e8), p1, p2, lw, fun q' H' hq' e' h' => q _ _ e' ⟨q', rfl, fresh_back e8 hq', h'⟩⟩
        · rintro v H8 e8 ⟨q', rfl, h1, h2⟩
          exact q1 q' H8 par w' vs' z (fresh_back ((e.trans eH6).trans e7) h1) (((e.trans eH6).trans e7).trans e8) h2 p1 (of_decide_eq_true hb) lw
      · have zEn : z ∉ En := of_decide_eq_false hb
        have L7 := L.mono (eH6.trans e7)
        have wl0 : H' wt = none := w0
        have lW : W.length ≤ S.length + Ar.length := by obtain ⟨_, _, _, _, g3⟩ := s5.ex; exact g3.len
        refine q_forY (ep_outs (n := z) L7 (ev_var rfl) (ev_ixL (i := i) (ev_var rfl) (ev_var rfl) (e7 _ _ w6) hz')) fun p H8 e8 hp8 hpp => ?_
        have npw : p ≠ wt := by
          rcases hpp with z | ⟨n, hn, z⟩
          · exact fun y => by rw [y, e7 _ _ w6] at z; cases z
          · exact fun y => by have := (L.l n hn).2.2; rw [← z, y, wl0] at this; cases this
        have npb : p ≠ bf := by
          obtain ⟨_, _, g1, _, _⟩ := s5.ex
          rcases hpp with z | ⟨n, hn, z⟩
          · exact fun y => by rw [y, e7 _ _ (e6 _ _ g1)] at z; cases z
          · exact fun y => by have := (L.l n hn).2.2; rw [← z, y, hb0] at this; cases this
        refine ⟨fun k σ H'' => ∃ b c W', σ = [some (.ref ar), some (.ref st), some (.ref en), some (.ref lv), b, some (.ref bf), c, some (.ref wt), some (.int (i : Nat))] ∧ Sr H' H'' bf wt Ar S En W' i ∧ (∃ t, W' = W ++ t) ∧ (∀ j y, j < k → (outs (as.zip Ar) z)[j]? = some y → y.2.b ∈ W') ∧ H'' p = some (.lst (refs (outs (as.zip Ar) z))),
          ⟨_, _, W, rfl, ?_, ⟨[], by simp⟩, fun j y hj => absurd hj (Nat.not_lt_zero _), hp8⟩, fun k σ H'' _ ⟨_, _, _, _, _, _, _, h⟩ => h, fun k x σ H9 hx h => ?_, fun σ H9 h => ?_⟩
        · obtain ⟨⟨par, g, g1, g2, g3⟩, s52, s53, s54, s55⟩ := s5
          exact ⟨⟨par, g, e8 _ _ (e7 _ _ (e6 _ _ g1)), g2, g3⟩, e8 _ _ (e7 _ _ w6), (eH6.trans e7).trans e8, s54, s55⟩
        · obtain ⟨b, c, W', rfl, s9, ⟨t, rfl⟩, h9, hp9⟩ := h
          unfold refs at hx
          rw [List.getElem?_map] at hx
          cases hy : (outs (as.zip Ar) z)[k]? with
          | none => rw [hy] at hx; cases hx
          | some y =>
            rw [hy] at hx
            have hx : V.ref y.1 = x := Option.some.inj hx
            subst hx
            have hy' := List.mem_filter.mp (List.mem_of_getElem? hy)
            obtain ⟨yA, ya⟩ := hAz y hy'.1
            have ez' : y.2.a = z := of_decide_eq_true hy'.2
            have ya' := e _ _ ya
            obtain ⟨⟨par, g, g1, g2, g3⟩, s92, s93, s94, s95⟩ := s9
            have aW : y.2.a ∈ W ++ t := by rw [ez']; exact List.mem_append_left _ zW
            have lW9 := g3.len
            refine s_if (b := decide (y.2.b ∉ W ++ t)) (et_B (ev_dnin (ev_ixT (i := 1) (ev_var rfl) ev_c (s93 _ _ ya') rfl) (ev_var rfl) (.inl g1))) (fun hb H10 e10 => ?_) (fun hb H10 e10 => ?_)
            · have nb := of_decide_eq_true hb
              have ya10 := e10 _ _ (s93 _ _ ya')
              have g3' := g3.add yA aW nb
              refine q_dputS (m := y.2.b) (e10 _ _ g1) (ev_var rfl) (ev_ixT (i := 1) (ev_var rfl) ev_c ya10 rfl) (ev_var (v := .ref y.1) rfl) (by omega) fun H11 e11 => ?_
              have eU : Ex H' (upd H11 bf (.dK (putK (dm (W ++ t) g) (Sum.inr y.2.b) (.ref y.1)))) := Ex.mut ((s93.trans e10).trans e11) hb0
              have w11 : (upd H11 bf (.dK (putK (dm (W ++ t) g) (Sum.inr y.2.b) (.ref y.1)))) wt = some (.lst ((W ++ t).map V.str)) := by rw [upd_ne nwb.symm]; exact e11 _ _ (e10 _ _ s92)
              refine s_app w11 (ev_var rfl) (ev_ixT (i := 1) (ev_var rfl) ev_c (eU _ _ ya') rfl) (by rw [List.length_map]; omega) fun H12 e12 => ⟨_, _, (W ++ t) ++ [y.2.b], rfl, ⟨⟨fun v => if v = y.2.b then some y.2 else par v, fun n => if n = y.2.b then .ref y.1 else g n, ?_, fun v hv => ?_, g3'⟩, ?_, ?_, ?_, ?_⟩, ⟨t ++ [y.2.b], by simp⟩, ?_, ?_⟩
              · rw [upd_ne nwb, e12 _ _ upd_same, putK_dm_new nb]
              · by_cases cv : v = y.2.b
                · subst cv
                  simp only [if_true]
                  exact ⟨fun z => (nomatch z), fun x hx => ⟨y.1, rfl, by rw [← Option.some.inj hx]; exact ya'⟩⟩
                · simp only [if_neg cv]
                  have hv' : v ∈ W ++ t := by rcases List.mem_append.mp hv with z | z; exact z; exact absurd (List.mem_singleton.mp z) cv
                  exact g2 v hv'
              · rw [upd_same]; simp
              · exact Ex.mut (eU.trans e12) wl0
              · intro x hx j hj hjx
                have : j < (W ++ t).length := by rw [List.length_append]; omega
                rw [List.getElem?_append_left this] at hjx
                exact List.mem_append_left _ (s94 x hx j hj hjx)
              · intro j v hj hjv
                have : j < (W ++ t).length := by rw [List.length_append]; omega
                rw [List.getElem?_append_left this] at hjv
                exact s95 j v hj hjv
              · intro j y' hj hjy
                by_cases cj : j < k
                · exact List.mem_append_left _ (h9 j y' cj hjy)
                · have : j = k := by omega
                  subst this
                  rw [hy] at hjy; cases hjy
                  exact List.mem_append_right _ (List.mem_singleton.mpr rfl)
              · rw [upd_ne npw, e12 _ _ (by rw [upd_ne npb]; exact e11 _ _ (e10 _ _ hp9))]
            · refine ⟨_, _, W ++ t, rfl, ⟨⟨par, g, e10 _ _ g1, g2, g3⟩, e10 _ _ s92, s93.trans e10, s94, s95⟩, ⟨t, rfl⟩, fun j y' hj hjy => ?_, e10 _ _ hp9⟩
              by_cases cj : j < k
              · exact h9 j y' cj hjy
              · have : j = k := by omega
                subst this
                rw [hy] at hjy; cases hjy
                exact Classical.not_not.mp (of_decide_eq_false hb)
        · obtain ⟨b, c, W', rfl, s9, ⟨t, rfl⟩, h9, hp9⟩ := h
          refine s_aug (f := fun i j => i + j) (a := (i : Int)) (b := 1) rfl ev_c fun H10 e10 => ⟨b, c, i + 1, W ++ t, by simp, ?_, by rw [List.length_append]; omega, by omega⟩
          obtain ⟨⟨par, g, g1, g2, g3⟩, s92, s93, s94, s95⟩ := s9
          have ez9 : (W ++ t)[i]? = some z := by rw [List.getElem?_append_left hlt]; exact ez
          refine ⟨⟨par, g, e10 _ _ g1, g2, g3⟩, e10 _ _ s92, s93.trans e10, fun x hx j hj hjx => ?_, fun j v hj hjv => ?_⟩
          · by_cases cj : j < i
            · exact s94 x hx j cj hjx
            · have : j = i := by omega
              subst this
              rw [ez9] at hjx
              have exz : z = x.a := Option.some.inj hjx
              obtain ⟨k, hk⟩ := List.mem_iff_getElem?.mp hx
              have hka : k < as.length := by rw [la]; exact (List.getElem?_eq_some_iff.mp hk).1
              have hm : (as[k], x) ∈ outs (as.zip Ar) z := List.mem_filter.mpr ⟨List.mem_of_getElem? (List.getElem?_zip_eq_some.mpr ⟨List.getElem?_eq_getElem hka, hk⟩), decide_eq_true exz.symm⟩
              obtain ⟨k', hk'⟩ := List.mem_iff_getElem?.mp hm
              exact h9 k' _ (by unfold refs; rw [List.length_map]; exact (List.getElem?_eq_some_iff.mp hk').1) hk'
          · by_cases cj : j < i
            · exact s95 j v cj hjv
            · have : j = i := by omega
              subst this
              rw [ez9] at hjv
              cases hjv
              exact zEn
    · have hge : i = W.length := by have := of_decide_eq_false hb; rw [List.length_map] at this; omega
      subst hge
      obtain ⟨⟨par, g, g1, g2, g3⟩, s52, s53, s54, s55⟩ := s5
      refine s_ret ev_c fun H7 e7 => q2 H7 W (((e.trans s53).trans e6).trans e7) g3.sub (fun x hx hxa => ?_) (fun v hv => ?_)
      · obtain ⟨j, hj⟩ := List.mem_iff_getElem?.mp hxa
        exact s54 x hx j (List.getElem?_eq_some_iff.mp hj).1 hj
      · obtain ⟨j, hj⟩ := List.mem_iff_getElem?.mp hv
        exact s55 j v (List.getElem?_eq_some_iff.mp hj).1 hj
end
end MS
set_option Elab.async false
set_option linter.all false
set_option maxRecDepth 100000
set_option maxHeartbeats 4000000
namespace MS
open PySem PySem.Spec PyProof.Rows L2 Evl
section
variable {K : PySem.W.Frag} {σ : L2.St} {H : Hp} {ta tb tc te td ty tv : TE} {t : TT} {D : Ends} {tz : TS}
theorem el_catN {xs ys : List V} (h1 : EvL ta σ H xs) (h2 : EvL tb σ H ys) (hz : xs.length + ys.length ≤ 100000) : EvL (tOp rCat ta tb) σ H (xs ++ ys) := fun H1 e Q q =>
  h1 H1 e _ fun a H2 ha0 e2 ha => h2 H2 (e.trans e2) _ fun b H3 hb e3 h3 => ⟨a, b, xs, ys, rfl, rfl, e3 _ _ ha, h3, Nat.le_trans hz (by decide), fun p hp => q p _ (fresh_back (e2.trans e3) hp) ((e2.trans e3).trans (Ex.new hp)) upd_same⟩
theorem ep_min {ns : List Int} (h : EvL te σ H (ns.map V.int)) (h0 : 0 < ns.length) : EvP (tCB (rMin K) (tCons te tNil)) σ H (fun v _ => ∃ m, v = .int m ∧ m ∈ ns ∧ ∀ y ∈ ns, m ≤ y) := fun H1 e Q q =>
  h H1 e _ fun a H2 _ e2 ha => ⟨a, ns, rfl, sq_of ha, h0, fun m h1 h2 => q _ H2 e2 ⟨m, rfl, h1, h2⟩⟩
theorem ev_mul {i j : Int} (h1 : Ev ta σ H (.int i)) (h2 : Ev tb σ H (.int j)) (hc : CMul i j) : Ev (tOp (rI CMul fun i j => .int (i * j)) ta tb) σ H (.int (i * j)) := ev_op h1 h2 (rv_I hc)
theorem cmul1 {s j : Int} (h : s = 1 ∨ s = -1) : CMul s j := .inl (by rcases h with rfl | rfl <;> decide)
theorem Ev.sp {a : Addr} {xs : List V} (h : Ev te σ H (.ref a)) (hs : SqL K H a xs) : EvP te σ H (fun v H2 => ∃ a, v = .ref a ∧ SqL K H2 a xs) := fun H1 e Q q => h H1 e _ fun H2 e2 => q _ H2 e2 ⟨a, rfl, ex_l (e.trans e2) hs⟩
theorem mcall {sp : Sp} {dvs vs : List V} {E : XK} {tA : TA} {Q : VK} (h : EvA tA σ H vs) (hs : ∀ H1, Ex H H1 → sp (vs ++ dvs) H1 Q E) : tCall sp dvs E tA σ H Q := h H (Ex.refl H) _ hs
/-- what way_between gives -/
def WayR (A : List Arc) (S En : List Str) (v : V) (H' : Hp) : Prop := (v = .non ∧ ∃ W : List Str, (∀ s ∈ S, s ∈ W) ∧ (∀ x ∈ A, x.a ∈ W → x.b ∈ W) ∧ ∀ v ∈ W, v ∉ En) ∨
  ∃ (q : Addr) (par : Str → Option Arc) (w : List Arc) (vs : List Str) (p : Str), v = .ref q ∧ TL H' q (w.map rowA) ∧ MM.Pth A S par p w vs ∧ p ∈ En ∧ w.length ≤ 1000
theorem ep_between {E : XK} {A : List Arc} {S En : List Str} (h1 : EvN ta σ H (fun q H' => TL H' q (A.map rowA))) (h2 : EvP tb σ H (fun v H' => ∃ a, v = .ref a ∧ SqL K H' a (S.map V.str))) (h3 : EvP tc σ H (fun v H' => ∃ a, v = .ref a ∧ SqL K H' a (En.map V.str)))
    (hS : S.Nodup) (hz : S.length ≤ 100) (hA : A.length ≤ 120) : EvP (tCall (sp_way_between K) [] E (tCons ta (tCons tb (tCons tc tNil)))) σ H (WayR A S En) := fun H1 e Q q =>
  h1 H1 e _ fun a H2 _ e2 ha => h2 H2 (e.trans e2) _ fun v H3 e3 ⟨b, hv, hb⟩ => h3 H3 ((e.trans e2).trans e3) _ fun v' H4 e4 ⟨c, hv', hc⟩ => by
    subst hv; subst hv'
    exact ⟨a, b, c, A, S, En, rfl, ha.mono (e3.trans e4), ex_l e4 hb, hc, hS, hz, hA, fun q' H' par w vs0 p _ e' h1 h2 h3 h4 => q _ H' (((e2.trans e3).trans e4).trans e') (.inr ⟨q', par, w, vs0, p, rfl, h1, h2, h3, h4⟩), fun H' W e' h1 h2 h3 => q _ H' (((e2.trans e3).trans e4).trans e') (.inl ⟨rfl, W, h1, h2, h3⟩)⟩
end
section
variable {P : Program} {w : World} {K : PySem.W.Frag} {mg : Str → Option Value} {base : Heap} {aP aM aR : Addr}
abbrev s_push : Stmt := top 24
abbrev N_push : List Str := ["flows", "way", "most", "amount", "arc"]
theorem sc_push : FnScope N_push ["flows", "way", "most"] (C8.fnScope s_push) := C8.fnScope_by (by decide +kernel)

def sp_push : Sp := fun vs H Q _ => ∃ (fl wy : Addr) (most : Int) (nf : List Str) (F : Str → Int) (w : List Arc), vs = [V.ref fl, V.ref wy, V.int most] ∧ H fl = some (.dK (fd nf F)) ∧ TL H wy (w.map rowA) ∧ (∀ x ∈ w, x.n ∈ nf ∧ (x.s = 1 ∨ x.s = -1)) ∧ nf.length ≤ 1000 ∧ w.length ≤ 1000 ∧
  ∀ (x : Int) H', x ≤ most → (∀ a ∈ w, x ≤ a.r) → (x = most ∨ ∃ a ∈ w, x = a.r) → ExD fl H H' → H' fl = some (.dK (fd nf (MM.pushW w x F))) → Q (.int x) H'
theorem c_push_ (T : Txt K mg aP aM aR) (D : Dn K mg "push" s_push ["flows", "way", "most"]) : C8.Cal P w K mg base 1 "push" sp_push [] := by
  refine cal_of D sc_push (fun vs H Q E h => ?_) (fun f cdv A outer s H vs Q E hr h => ?_)
  · obtain ⟨fl, wy, most, nf, F, w, rfl, _⟩ := h
    rfl
  · obtain ⟨fl, wy, most, nf, F, way, rfl, hf, ⟨as, hw, ht⟩, hn, hz, hz', q⟩ := h
    refine ⟨_, (pss_cons (ps_set (i := 3) sc_push.nd rfl (Or.inl rfl) (pe_callB (cr_min rfl) (by rfl) T.n_min (by decide +kernel) (pa_cons (pe_op op_cat (pe_lst (pa_cons (pv 2) pa_nil)) (pe_lc (own := [("arc", 4)]) (g := (gName 4)) (tt := tYes) rfl sc_push.nd (pi_list (pv 1)) (blkOk_by (own := [("arc", 4)]) (N := N_push) (sc := C8.fnScope s_push) (by decide +kernel)) (fun _ _ _ _ _ => (pg_name (i := 4) sc_push.nd rfl (Or.inl rfl))) (fun _ _ _ _ _ => pts_nil) (fun _ _ _ _ _ => (pe_ix (ix_tupK K) (pv 4) pe_int (fun _ _ => rfl))))) pa_nil)))
      (pss_cons (ps_for PassesOwn.never rfl (pi_list (pv 1)) (pg_name (i := 4) sc_push.nd rfl (Or.inl rfl)) (pss_one (ps_daug (hu_of hr) (pv 0) (pe_ix ix_tup (pv 4) pe_int (fun _ _ => rfl)) (pe_op op_mul (pe_ix ix_tup (pv 4) pe_int (fun _ _ => rfl)) (pv 3)) in_add (fun _ _ _ => rfl))))
      (pss_one (ps_ret (pv 3))))), ?_⟩
    refine q_asgP (ep_min (ns := most :: way.map (·.r)) (ev_isL (el_catN (el_lst (ea_cons (ev_var rfl) ea_nil) (by show 1 ≤ 100000; decide)) (el_lcO (ys := way) (row := rowA) (ev_var rfl) ⟨as, hw, ht⟩ (by omega) (fun _ => true) (fun x => .int x.r) fun a y H' hy e ha => ⟨_, fun Q q => q, rfl, et_yes, fun _ => ev_ixT (i := 4) (ev_var rfl) ev_c ha rfl⟩) (by rw [all_map, List.length_map]; simp; omega)) (by rw [all_map]; simp [Function.comp_def])) (by simp)) fun v H1 e1 hv => ?_
    obtain ⟨x, rfl, hx1, hx2⟩ := hv
    refine q_forL (ev_var rfl) (sq_of (e1 _ _ hw)) (fun i σ H' => ∃ b, σ = [some (.ref fl), some (.ref wy), some (.int most), some (.int x), b] ∧ ExD fl H H' ∧ H' fl = some (.dK (fd nf (MM.pushW (way.take i) x F)))) (fun H2 e2 => ⟨none, rfl, ExD.of_ex (e1.trans e2), e2 _ _ (e1 _ _ hf)⟩) (fun i σ H' _ ⟨_, _, e, _⟩ => sq_of (e _ _ (fun z => by rw [z, hf] at hw; cases hw) hw)) (fun i v σ H' hv h => ?_) (fun σ H' h => ?_)
    · obtain ⟨b, rfl, e, hf'⟩ := h
      obtain ⟨a, y, rfl, _, hy, hya⟩ := ht.el hv
      have ha := e _ _ (fun z => by rw [z, hf] at hya; cases hya) hya
      refine s_daug (ev_var rfl) (ev_ixT (i := 2) (ev_var rfl) ev_c ha rfl) hf' (hn y (List.mem_of_getElem? hy)).1 hz (ev_mul (i := y.s) (j := x) (ev_ixT (i := 3) (ev_var rfl) ev_c ha rfl) (ev_var rfl) (cmul1 (hn y (List.mem_of_getElem? hy)).2)) r_add fun H2 e2 => ⟨_, rfl, (e.trans (ExD.of_ex e2)).trans ExD.upd, ?_⟩
      rw [upd_same, List.take_add_one, hy]
      unfold MM.pushW
      rw [List.foldl_append]
      rfl
    · obtain ⟨b, rfl, e, hf'⟩ := h
      rw [List.length_map, ht.ln, List.take_length] at hf'
      refine s_ret (ev_var rfl) fun H2 e2 => q x H2 (hx2 _ (by simp)) (fun a ha => hx2 _ (List.mem_cons_of_mem _ (List.mem_map.mpr ⟨a, ha, rfl⟩))) ?_ (e.trans (ExD.of_ex e2)) (e2 _ _ hf')
      rcases List.mem_cons.mp hx1 with z | z
      · exact .inl z
      · obtain ⟨a, ha, z⟩ := List.mem_map.mp z
        exact .inr ⟨a, ha, z.symm⟩
end
end MS
set_option Elab.async false
set_option linter.all false
set_option maxRecDepth 100000
set_option maxHeartbeats 4000000
namespace MS
open PySem PySem.Spec PyProof.Rows L2 Evl
/-- what a push of x from s to e leaves -/
structure Pushed (ls : List Ln) (lo hi F : Str → Int) (s e : Str) (x : Int) (F' : Str → Int) : Prop where
  w : MM.Within ls lo hi F'
  off : ∀ n, n ∉ ls.map (·.n) → F' n = F n
  net : ∀ v, MM.net ls F' v = MM.net ls F v + ((if e = v then x else 0) - (if s = v then x else 0))
theorem Pushed.init {ls : List Ln} {lo hi F : Str → Int} {s e : Str} (h : MM.Within ls lo hi F) : Pushed ls lo hi F s e 0 F := ⟨h, fun _ _ => rfl, fun v => by split <;> split <;> omega⟩
theorem Pushed.step {ls : List Ln} {lo hi F F' : Str → Int} {s e : Str} {x y : Int} (h : Pushed ls lo hi F s e x F') (hn : (ls.map (·.n)).Nodup) {par : Str → Option Arc} {w : List Arc} {vs : List Str}
    (hp : MM.Pth (MM.arcsOf ls lo hi F') [s] par e w vs) (hy : 0 ≤ y) (hr : ∀ a ∈ w, y ≤ a.r) : Pushed ls lo hi F s e (x + y) (MM.pushW w y F') := by
  refine ⟨MM.push_within hn (fun _ h => h) hp hy hr h.w, fun n hn' => ?_, fun v => ?_⟩
  · rw [MM.push_off hn (fun _ h => h) hp y hn']
    exact h.off n hn'
  · obtain ⟨s', hs', hh, _⟩ := hp.start_mem
    rw [List.mem_singleton.mp hs'] at hh
    rw [(MM.push_way hn (fun _ h => h) hp y).2 s hh v, h.net v]
    split <;> split <;> omega
/-- nothing more can be pushed from s to e -/
def Full (ls : List Ln) (lo hi F : Str → Int) (s e : Str) : Prop := ∃ W : List Str, s ∈ W ∧ e ∉ W ∧ ∀ y ∈ MM.arcsOf ls lo hi F, y.a ∈ W → y.b ∈ W
section
variable {P : Program} {w : World} {K : PySem.W.Frag} {mg : Str → Option Value} {base : Heap} {aP aM aR : Addr}
abbrev s_push_all : Stmt := top 25
abbrev N_push_all : List Str := ["lines", "limits", "flows", "start", "end", "most", "pushed", "way"]
theorem sc_push_all : FnScope N_push_all ["lines", "limits", "flows", "start", "end", "most"] (C8.fnScope s_push_all) := C8.fnScope_by (by decide +kernel)

def sp_push_all : Sp := fun vs H Q _ => ∃ (l d fl : Addr) (s e : Str) (most : Int) (ls : List Ln) (ns nf : List Str) (lo hi F : Str → Int), vs = [V.ref l, V.ref d, V.ref fl, V.str s, V.str e, V.int most] ∧ AI H l d fl ls ns nf lo hi F ∧ H fl = some (.dK (fd nf F)) ∧
  (ls.map (·.n)).Nodup ∧ MM.Within ls lo hi F ∧ s ≠ e ∧ 0 ≤ most ∧ nf.length ≤ 1000 ∧
  ∀ (x : Int) (F' : Str → Int) H', 0 ≤ x → x ≤ most → Pushed ls lo hi F s e x F' → (x = most ∨ Full ls lo hi F' s e) → ExD fl H H' → H' fl = some (.dK (fd nf F')) → Q (.int x) H'
theorem c_push_all_ (T : Txt K mg aP aM aR) (D : Dn K mg "push_all" s_push_all ["lines", "limits", "flows", "start", "end", "most"]) (c_arcs_of : C8.Cal P w K mg base 1 "arcs_of" sp_arcs_of []) (c_way_between : C8.Cal P w K mg base 2 "way_between" (sp_way_between K) []) (c_push : C8.Cal P w K mg base 1 "push" sp_push []) :
    C8.Cal P w K mg base 3 "push_all" sp_push_all [] := by
  refine cal_of D sc_push_all (fun vs H Q E h => ?_) (fun f cdv A outer s H vs Q E hr h => ?_)
  · obtain ⟨l, d, fl, s, e, most, ls, ns, nf, lo, hi, F, rfl, _⟩ := h
    rfl
  · obtain ⟨l, d, fl, st, en, most, ls, ns, nf, lo, hi, F, rfl, a, hf, hn, hw, hse, hm, hz, q⟩ := h
    have az := a.z
    refine ⟨_, (pss_cons (ps_set (i := 6) sc_push_all.nd rfl (Or.inl rfl) pe_int)
      (pss_cons (ps_while PassesOwn.never (pt_cmpR op_lt (pv 6) (pv 5) (nomark _)) (pss_cons (ps_set (i := 7) sc_push_all.nd rfl (Or.inl rfl) (C8.pe_c c_way_between hr (by decide) (by rfl) (pa_cons (C8.pe_c c_arcs_of hr (by decide) (by rfl) (pa_cons (pv 0) (pa_cons (pv 1) (pa_cons (pv 2) pa_nil)))) (pa_cons (pe_lst (pa_cons (pv 3) pa_nil)) (pa_cons (pe_lst (pa_cons (pv 4) pa_nil)) pa_nil)))))
      (pss_cons (ps_if (pt_cmp (pc_isN (pv 7)) rfl) (pss_one (ps_ret (pv 6))) pss_nil)
      (pss_one (ps_aug (i := 6) sc_push_all.nd rfl (Or.inl rfl) (C8.pe_c c_push hr (by decide) (by rfl) (pa_cons (pv 2) (pa_cons (pv 7) (pa_cons (pe_op op_sub (pv 5) (pv 6)) pa_nil)))) ip_add)))))
      (pss_one (ps_ret (pv 6))))), ?_⟩
    refine q_asg (ev_c (v := .int 0)) fun H1 e1 => ?_
    refine q_while (fun m σ H' => ∃ (x : Int) (F' : Str → Int) (v : Option V), σ = [some (.ref l), some (.ref d), some (.ref fl), some (.str st), some (.str en), some (.int most), some (.int x), v] ∧ 0 ≤ x ∧ x ≤ most ∧ Pushed ls lo hi F st en x F' ∧ ExD fl H H' ∧ H' fl = some (.dK (fd nf F')) ∧ AI H' l d fl ls ns nf lo hi F' ∧ m = (most - x).toNat) _ ⟨0, F, none, rfl, Int.le_refl _, hm, .init hw, .of_ex e1, e1 _ _ hf, a.mono e1, rfl⟩ ?_
    rintro m σ H' ⟨x, F', v, rfl, hx0, hx1, hp, e', hf', a', rfl⟩
    refine ⟨_, et_cmp (f := fun i j => decide (i < j)) (ev_var rfl) (ev_var rfl), fun hb H3 e3 => ?_, fun hb H3 e3 => ?_⟩
    · have hlt := of_decide_eq_true hb
      refine ⟨fun σ H' => ∃ (x' : Int) (F' : Str → Int) (v : Option V), σ = [some (.ref l), some (.ref d), some (.ref fl), some (.str st), some (.str en), some (.int most), some (.int x'), v] ∧ 0 ≤ x' ∧ x' ≤ most ∧ Pushed ls lo hi F st en x' F' ∧ ExD fl H H' ∧ H' fl = some (.dK (fd nf F')) ∧ AI H' l d fl ls ns nf lo hi F' ∧ (most - x').toNat < (most - x).toNat, fun σ2 H2 ⟨x', F', v, h1, h2, h3, h4, h5, h6, h7, h8⟩ => ⟨_, h8, x', F', v, h1, h2, h3, h4, h5, h6, h7, rfl⟩, ?_⟩
      have a3 := a'.mono e3
      have al := MM.arcs_len (ls := ls) (lo := lo) (hi := hi) (F := F')
      refine q_asgP (ep_between (S := [st]) (En := [en]) (en_arcs (ea_cons (ev_var rfl) (ea_cons (ev_var rfl) (ea_cons (ev_var rfl) ea_nil))) a3) (EvL.p (el_lst (ea_cons (ev_var rfl) ea_nil) (by show 1 ≤ 100000; decide))) (EvL.p (el_lst (ea_cons (ev_var rfl) ea_nil) (by show 1 ≤ 100000; decide))) (by simp) (by show 1 ≤ 100; decide) (by omega)) fun v H4 e4 hv => ?_
      have f4 := e4 _ _ (e3 _ _ hf')
      have e04 : ExD fl H H4 := e'.trans (ExD.of_ex (e3.trans e4))
      rcases hv with ⟨rfl, W, w1, w2, w3⟩ | ⟨r, par, wy, vs, p, rfl, t1, t2, t3, t4⟩
      · refine q_when (b := true) (et_is (et_B (ev_isN (x := .non) (ev_var rfl))) (by simp)) (fun _ H5 e5 => ?_) (fun hb => nomatch hb)
        exact s_ret (ev_var rfl) fun H6 e6 => q x F' H6 hx0 hx1 hp (.inr ⟨W, w1 st (by simp), fun z => w3 en z (by simp), w2⟩) (e04.trans (ExD.of_ex (e5.trans e6))) (e6 _ _ (e5 _ _ f4))
      · refine q_when (b := false) (et_is (et_B (ev_isN (x := .ref r) (ev_var rfl))) (by simp)) (fun hb => nomatch hb) (fun _ H5 e5 => ?_)
        have ep : p = en := List.mem_singleton.mp t3
        subst ep
        have wne : wy ≠ [] := t2.no_start (fun z => hse (List.mem_singleton.mp z).symm)
        have wa := t2.arcs
        have rp : ∀ y ∈ wy, 1 ≤ y.r ∧ (y.s = 1 ∨ y.s = -1) ∧ y.n ∈ ls.map (·.n) := fun y hy => MM.room_pos (wa y hy).1
        refine ⟨.int x, rfl, mcall (ea_cons (ev_var rfl) (ea_cons (ev_var rfl) (ea_cons (ev_sub (i := most) (j := x) (ev_var rfl) (ev_var rfl)) ea_nil))) fun H6 e6 => ?_⟩
        have e46 : Ex H4 H6 := e5.trans e6
        refine ⟨fl, r, most - x, nf, F', wy, rfl, e46 _ _ f4, t1.mono e46, fun y hy => ⟨?_, (rp y hy).2.1⟩, hz, t4, fun z H7 z1 z2 z3 e7 f7 => ?_⟩
        · obtain ⟨l', hl', en'⟩ := List.mem_map.mp (rp y hy).2.2
          rw [← en']
          exact (a'.n l' hl').2
        · have zp : 1 ≤ z := by
            rcases z3 with z3 | ⟨y, hy, z3⟩
            · omega
            · rw [z3]; exact (rp y hy).1
          have h4 : ExD fl H4 H7 := (ExD.of_ex e46).trans e7
          exact ⟨x, z, rfl, rfl, x + z, _, _, rfl, by omega, by omega, hp.step hn t2 (by omega) z2, e04.trans h4, f7, (a3.mono e4).put f4 h4 f7, by omega⟩
    · have : x = most := by have := of_decide_eq_false hb; omega
      exact s_ret (ev_var rfl) fun H4 e4 => q x F' H4 hx0 hx1 hp (.inl this) (e'.trans (ExD.of_ex (e3.trans e4))) (e4 _ _ (e3 _ _ hf'))
end
end MS
set_option Elab.async false
set_option linter.all false
set_option maxRecDepth 100000
set_option maxHeartbeats 4000000
namespace MS
open PySem PySem.Spec PyProof.Rows L2 Evl
section
variable {K : PySem.W.Frag} {σ : L2.St} {H : Hp} {ta tb tc te td ty tv : TE} {t : TT} {D : Ends} {tz : TS}
theorem q_fldP {C a dx : Addr} {m : Str} {fs : List (Str × V)} {i : Nat} {Pv : V → Hp → Prop} (h : EvP te σ H Pv) (hi : σ[i]? = some (some (.ref a))) (hx : H a = some (.ins C dx fs)) (c : Cls K C) (n : NoAttr K C m) (hz : fs.length < 1000) (k : ∀ v H1, Ex H H1 → Pv v H1 → tz D σ (upd H1 a (.ins C dx (putF m v fs)))) : tSeq (sFld K (tVar i) te m) tz D σ H :=
  h H (Ex.refl _) _ fun v H1 e hv => ⟨_, hi, a, C, dx, fs, rfl, e _ _ hx, c, n, hz, k v H1 e hv⟩
theorem s_fldP {C a dx : Addr} {m : Str} {fs : List (Str × V)} {i : Nat} {Pv : V → Hp → Prop} (h : EvP te σ H Pv) (hi : σ[i]? = some (some (.ref a))) (hx : H a = some (.ins C dx fs)) (c : Cls K C) (n : NoAttr K C m) (hz : fs.length < 1000) (k : ∀ v H1, Ex H H1 → Pv v H1 → D.nx σ (upd H1 a (.ins C dx (putF m v fs)))) : sFld K (tVar i) te m D σ H :=
  h H (Ex.refl _) _ fun v H1 e hv => ⟨_, hi, a, C, dx, fs, rfl, e _ _ hx, c, n, hz, k v H1 e hv⟩
theorem Ev.p {v : V} (h : Ev te σ H v) : EvP te σ H (fun x _ => x = v) := fun H1 e Q q => h H1 e _ fun H2 e2 => q v H2 e2 rfl
theorem en_dictD {a : Addr} {kvs : List (Key × V)} (h : Ev te σ H (.ref a)) (hd : Rd H a (.dK kvs)) : EvN (tCB (fun xs H Q => ∃ (a : Addr) (kvs : List (Key × V)), xs = [.ref a] ∧ Rd H a (.dK kvs) ∧ ∀ p, H p = none → Q (.ref p) (upd H p (.dK kvs))) (tCons te tNil)) σ H (fun p H' => H' p = some (.dK kvs)) := fun H1 e Q q =>
  h H1 e _ fun H2 e2 => ⟨a, kvs, rfl, ex_rd (e.trans e2) hd, fun p hp => q p _ (fresh_back e2 hp) (e2.trans (Ex.new hp)) upd_same⟩
/-- a new instance -/
theorem en_mk {C : Addr} {sp : Sp} {E : XK} {tA : TA} {vs : List V} {Pn : Addr → Hp → Prop} (h : EvA tA σ H vs) (hs : ∀ x dx H1 (Q : VK) E, Ex H H1 → H1 x = some (.ins C dx []) → (∀ H2, ExD x H1 H2 → Pn x H2 → Q .non H2) → sp (.ref x :: (vs ++ [])) H1 Q E) : EvN (tMake C sp [] E tA) σ H Pn := fun H1 e Q q =>
  h H1 e _ fun H2 e2 x dx hx hdx ne => by
    have e3 : Ex H2 (upd (upd H2 dx (.own x)) x (.ins C dx [])) := (Ex.new hdx).trans (Ex.new (by rw [upd_ne (fun z => ne z.symm)]; exact hx))
    exact hs x dx _ _ _ ((e.trans e2).trans e3) upd_same fun H4 e4 hp => ⟨rfl, q x H4 (fresh_back e2 hx) (e2.trans (fun a o ha => e4 _ _ (ne_of_none ha hx) (e3 _ _ ha))) hp⟩

end
section
variable {P : Program} {w : World} {K : PySem.W.Frag} {mg : Str → Option Value} {base : Heap} {aP aM aR : Addr}
/-! ### Missing -/
def mFs (m : Int) (fl la lb : Addr) : List (Str × V) := [("number", .int m), ("flows", .ref fl), ("least", .ref la), ("greatest", .ref lb)]
def MissAt (aM : Addr) (H : Hp) (x : Addr) (m : Int) (nf : List Str) (F : Str → Int) (lst grt : List Str) : Prop := ∃ dx fl la lb : Addr, H x = some (.ins aM dx (mFs m fl la lb)) ∧ H fl = some (.dK (fd nf F)) ∧ H la = some (.lst (lst.map V.str)) ∧ H lb = some (.lst (grt.map V.str))
theorem MissAt.mono {H H' : Hp} {x : Addr} {m : Int} {nf : List Str} {F : Str → Int} {lst grt : List Str} (h : MissAt aM H x m nf F lst grt) (e : Ex H H') : MissAt aM H' x m nf F lst grt := by
  obtain ⟨dx, fl, la, lb, h1, h2, h3, h4⟩ := h
  exact ⟨dx, fl, la, lb, e _ _ h1, e _ _ h2, e _ _ h3, e _ _ h4⟩
abbrev s_Missing___init__ : Stmt := inCls (top 30) 0
abbrev N_Missing___init__ : List Str := ["self", "number", "flows", "least", "greatest"]
theorem sc_Missing___init__ : FnScope N_Missing___init__ ["self", "number", "flows", "least", "greatest"] (C8.fnScope s_Missing___init__) := C8.fnScope_by (by decide +kernel)

def sp_minit (aM : Addr) (K : PySem.W.Frag) : Sp := fun vs H Q _ => ∃ (x dx f l1 l2 : Addr) (m : Int) (nf : List Str) (F : Str → Int) (lst grt : List Str), vs = [V.ref x, V.int m, V.ref f, V.ref l1, V.ref l2] ∧ H x = some (.ins aM dx []) ∧ Rd H f (.dK (fd nf F)) ∧ H l1 = some (.lst (lst.map V.str)) ∧ H l2 = some (.lst (grt.map V.str)) ∧
  ∀ H', ExD x H H' → MissAt aM H' x m nf F lst grt → Q .non H'
theorem mfs_eq {m : Int} {fl la lb : Addr} : putF "greatest" (.ref lb) (putF "least" (.ref la) (putF "flows" (.ref fl) (putF "number" (.int m) []))) = mFs m fl la lb := by
  show (if ("number" : Str) = "greatest" then _ else _) = _
  rw [if_neg (by decide +kernel)]
  have h1 : ("number" : Str) ≠ "flows" := by decide +kernel
  have h2 : ("number" : Str) ≠ "least" := by decide +kernel
  have h3 : ("flows" : Str) ≠ "least" := by decide +kernel
  have h4 : ("flows" : Str) ≠ "greatest" := by decide +kernel
  have h5 : ("least" : Str) ≠ "greatest" := by decide +kernel
  have h6 : ("number" : Str) ≠ "greatest" := by decide +kernel
  simp [putF, h1, h2, h3, h4, h5, h6, mFs]
theorem rd_but {H H' : Hp} {x f : Addr} {u : HO} {C dx : Addr} {fs : List (Str × V)} {kv : List (Key × V)} (h : Rd H f (.dK kv)) (hx : H x = some (.ins C dx fs)) (e : ExD x H H') : Rd H' f (.dK kv) := by
  rcases h with h | ⟨o, h⟩
  · exact .inl (e _ _ (fun z => by rw [z, hx] at h; cases h) h)
  · exact .inr ⟨o, e _ _ (fun z => by rw [z, hx] at h; cases h) h⟩
theorem c_Missing_ (T : Txt K mg aP aM aR) (D : In K mg "Missing" "Missing.__init__" aM s_Missing___init__ ["self", "number", "flows", "least", "greatest"]) : C8.Mak P w K mg base 1 "Missing" aM (sp_minit aM K) [] := by
  refine mak_of D sc_Missing___init__ (fun vs H Q E h => ?_) (fun f cdv A outer s H vs Q E hr h => ?_)
  · obtain ⟨x, dx, f, l1, l2, m, nf, F, lst, grt, rfl, _⟩ := h
    rfl
  · obtain ⟨x, dx, f, l1, l2, m, nf, F, lst, grt, rfl, hx, hf, h1, h2, q⟩ := h
    refine ⟨_, (pss_cons (ps_fld (pv 0) (pv 1) rfl)
      (pss_cons (ps_fld (pv 0) (pe_callTy call_dictD (by rfl) T.n_dict (by decide +kernel) (pa_cons (pv 2) pa_nil)) rfl)
      (pss_cons (ps_fld (pv 0) (pe_callTy call_list_of (by rfl) T.n_list (by decide +kernel) (pa_cons (pv 3) pa_nil)) rfl)
      (pss_one (ps_fld (pv 0) (pe_callTy call_list_of (by rfl) T.n_list (by decide +kernel) (pa_cons (pv 4) pa_nil)) rfl))))), ?_⟩
    have n1 : l1 ≠ x := fun z => by rw [z, hx] at h1; cases h1
    have n2 : l2 ≠ x := fun z => by rw [z, hx] at h2; cases h2
    refine q_fldP (Ev.p (ev_var rfl)) rfl hx T.cM T.m_n (by decide) fun v H1 e1 hv => ?_
    subst hv
    generalize hG1 : upd H1 x _ = G1
    have g1 : G1 x = some (.ins aM dx (putF "number" (.int m) [])) := by rw [← hG1, upd_same]
    have d1 : ExD x H G1 := by rw [← hG1]; exact (ExD.of_ex e1).trans ExD.upd
    refine q_fldP (en_dictD (ev_var rfl) (rd_but (u := .lst []) hf hx d1)).p rfl g1 T.cM T.m_f (by show 1 < 1000; decide) fun v H2 e2 ⟨fl, hv, hfl⟩ => ?_
    subst hv
    have nfx : fl ≠ x := fun z => by rw [z, e2 _ _ g1] at hfl; cases hfl
    generalize hG2 : upd H2 x _ = G2
    have g2 : G2 x = some (.ins aM dx (putF "flows" (.ref fl) (putF "number" (.int m) []))) := by rw [← hG2, upd_same]
    have d2 : ExD x G1 G2 := by rw [← hG2]; exact (ExD.of_ex e2).trans ExD.upd
    have gf2 : G2 fl = some (.dK (fd nf F)) := by rw [← hG2, upd_ne nfx]; exact hfl
    refine q_fldP (EvL.n (el_list (ev_var rfl) (sq_of ((d1.trans d2) _ _ n1 h1)))).p rfl g2 T.cM T.m_l (by show 2 < 1000; decide) fun v H3 e3 ⟨la, hv, hla⟩ => ?_
    subst hv
    have nax : la ≠ x := fun z => by rw [z, e3 _ _ g2] at hla; cases hla
    generalize hG3 : upd H3 x _ = G3
    have g3 : G3 x = some (.ins aM dx (putF "least" (.ref la) (putF "flows" (.ref fl) (putF "number" (.int m) [])))) := by rw [← hG3, upd_same]
    have d3 : ExD x G2 G3 := by rw [← hG3]; exact (ExD.of_ex e3).trans ExD.upd
    have ga3 : G3 la = some (.lst (lst.map V.str)) := by rw [← hG3, upd_ne nax]; exact hla
    refine s_fldP (EvL.n (el_list (ev_var rfl) (sq_of (((d1.trans d2).trans d3) _ _ n2 h2)))).p rfl g3 T.cM T.m_g (by show 3 < 1000; decide) fun v H4 e4 ⟨lb, hv, hlb⟩ => ?_
    subst hv
    have nbx : lb ≠ x := fun z => by rw [z, e4 _ _ g3] at hlb; cases hlb
    have d4 : ExD x G3 (upd H4 x (.ins aM dx (putF "greatest" (.ref lb) (putF "least" (.ref la) (putF "flows" (.ref fl) (putF "number" (.int m) [])))))) := (ExD.of_ex e4).trans ExD.upd
    refine q _ (((d1.trans d2).trans d3).trans d4) ⟨dx, fl, la, lb, by rw [upd_same, mfs_eq], (d3.trans d4) _ _ nfx gf2, d4 _ _ nax ga3, by rw [upd_ne nbx]; exact hlb⟩
end
end MS
set_option Elab.async false
set_option linter.all false
set_option maxRecDepth 100000
set_option maxHeartbeats 4000000
namespace MS
open PySem PySem.Spec PyProof.Rows L2 Evl
section
variable {K : PySem.W.Frag} {σ : L2.St} {H : Hp} {ta tb tc te td ty tv : TE} {t : TT} {D : Ends} {tz : TS} {aP : Addr}
theorem ep_lacks {E : XK} {p : Addr} {ks : List Str} {ss : List Stm} {ns : List Str} {F : Str → Int} (h1 : Ev ta σ H (.ref p)) (h2 : EvP tb σ H (fun v H2 => ∃ a, v = .ref a ∧ Rd H2 a (.dK (fd ns F)))) (hp : PlantAt aP H p ks ss) (wf : Wf ks ss) (hk : Keys ns ss) :
    EvN (tCall (sp_lacks aP) [] E (tCons ta (tCons tb tNil))) σ H (fun q H' => H' q = some (.dK (fd ks (MM.net (lns ss) F)))) := fun H1 e Q q =>
  h1 H1 e _ fun H2 e2 => h2 H2 (e.trans e2) _ fun v H3 e3 ⟨a, hv, ha⟩ => by
    subst hv
    exact ⟨p, a, ks, ss, ns, F, rfl, hp.mono ((e.trans e2).trans e3), wf, ha, hk, fun q' H' hq' e' h' => q q' H' (fresh_back (e2.trans e3) hq') ((e2.trans e3).trans e') h'⟩
theorem Ev.rd {a : Addr} {u : HO} (h : Ev te σ H (.ref a)) (hd : Rd H a u) : EvP te σ H (fun v H2 => ∃ a, v = .ref a ∧ Rd H2 a u) := fun H1 e Q q => h H1 e _ fun H2 e2 => q _ H2 e2 ⟨a, rfl, ex_rd (e.trans e2) hd⟩
theorem EvN.rd {u : HO} (h : EvN te σ H (fun p H2 => H2 p = some u)) : EvP te σ H (fun v H2 => ∃ a, v = .ref a ∧ Rd H2 a u) := fun H1 e Q q => h H1 e _ fun p H2 _ e2 hp => q _ H2 e2 ⟨p, rfl, .inl hp⟩
end
/-- what crossed gives -/
def CrossR (ss : List Stm) (lo hi : Str → Int) (v : V) : Prop := (∃ n ∈ ss.map (·.n), v = .str n ∧ hi n < lo n) ∨ (v = .non ∧ ∀ s ∈ ss, lo s.n ≤ hi s.n)
section
variable {P : Program} {w : World} {K : PySem.W.Frag} {mg : Str → Option Value} {base : Heap} {aP aM aR : Addr}
abbrev s_check_limits : Stmt := top 31
abbrev N_check_limits : List Str := ["plant", "limits", "name"]
theorem sc_check_limits : FnScope N_check_limits ["plant", "limits"] (C8.fnScope s_check_limits) := C8.fnScope_by (by decide +kernel)

def sp_check_limits (aP : Addr) : Sp := fun vs H Q _ => ∃ (p d : Addr) (ks : List Str) (ss : List Stm) (ns : List Str) (lo hi : Str → Int), vs = [V.ref p, V.ref d] ∧ PlantAt aP H p ks ss ∧ Wf ks ss ∧ LimAt H d ns lo hi ∧ Keys ns ss ∧ ∀ H', Ex H H' → Q .non H'
theorem c_check_limits_ (T : Txt K mg aP aM aR) (D : Dn K mg "check_limits" s_check_limits ["plant", "limits"]) (c_lacks : C8.Cal P w K mg base 3 "lacks" (sp_lacks aP) []) : C8.Cal P w K mg base 4 "check_limits" (sp_check_limits aP) [] := by
  refine cal_of D sc_check_limits (fun vs H Q E h => ?_) (fun f cdv A outer s H vs Q E hr h => ?_)
  · obtain ⟨p, d, ks, ss, ns, lo, hi, rfl, _⟩ := h
    rfl
  · obtain ⟨p, d, ks, ss, ns, lo, hi, rfl, hp, wf, ⟨o, B, hd, hB⟩, hk, q⟩ := h
    have ln := hk.len wf.s1
    refine ⟨_, (pss_one (ps_expr (C8.pe_c c_lacks hr (by decide) (by rfl) (pa_cons (pv 0) (pa_cons (pe_dc (own := [("name", 2)]) (g := (gName 2)) (tt := tYes) rfl sc_check_limits.nd (pi_keys (pv 1)) (blkOk_by (own := [("name", 2)]) (N := N_check_limits) (sc := C8.fnScope s_check_limits) (by decide +kernel)) (fun _ _ _ _ _ => (pg_name (i := 2) sc_check_limits.nd rfl (Or.inl rfl))) (fun _ _ _ _ _ => pts_nil) (fun _ _ _ _ _ => (pv 2)) (fun _ _ _ _ _ => pe_int)) pa_nil))))), ?_⟩
    exact s_dropP (EvN.p (ep_lacks (ns := ns) (F := fun _ => 0) (ev_var rfl) (EvN.rd (en_dc (ns := ns) (ei_keys (ev_var rfl) hd) hk.1 (by omega) (fun _ => .int 0) fun n H' hn e => ⟨_, fun Q q => q, rfl, ev_var rfl, ev_c⟩)) hp wf hk)) fun v H1 e1 _ => q H1 e1
abbrev s_crossed : Stmt := top 32
abbrev N_crossed : List Str := ["plant", "limits", "name"]
theorem sc_crossed : FnScope N_crossed ["plant", "limits"] (C8.fnScope s_crossed) := C8.fnScope_by (by decide +kernel)

def sp_crossed (aP : Addr) : Sp := fun vs H Q _ => ∃ (p d : Addr) (ks : List Str) (ss : List Stm) (ns : List Str) (lo hi : Str → Int), vs = [V.ref p, V.ref d] ∧ PlantAt aP H p ks ss ∧ Wf ks ss ∧ LimAt H d ns lo hi ∧ Keys ns ss ∧ ∀ v H', Ex H H' → CrossR ss lo hi v → Q v H'
theorem c_crossed_ (T : Txt K mg aP aM aR) (D : Dn K mg "crossed" s_crossed ["plant", "limits"]) (c_check_limits : C8.Cal P w K mg base 4 "check_limits" (sp_check_limits aP) []) (c_stream_names : C8.Met P w K mg base 1 aP "stream_names" (sp_stream_names aP) []) : C8.Cal P w K mg base 5 "crossed" (sp_crossed aP) [] := by
  refine cal_of D sc_crossed (fun vs H Q E h => ?_) (fun f cdv A outer s H vs Q E hr h => ?_)
  · obtain ⟨p, d, ks, ss, ns, lo, hi, rfl, _⟩ := h
    rfl
  · obtain ⟨p, d, ks, ss, ns, lo, hi, rfl, hp, wf, hd, hk, q⟩ := h
    refine ⟨_, (pss_cons (ps_expr (C8.pe_c c_check_limits hr (by decide) (by rfl) (pa_cons (pv 0) (pa_cons (pv 1) pa_nil))))
      (pss_cons (ps_for PassesOwn.never rfl (pi_list (C8.pe_mt0 c_stream_names hr (by decide) (pv 0))) (pg_name (i := 2) sc_crossed.nd rfl (Or.inl rfl)) (pss_one (ps_if (pt_cmpR op_gt (pe_ix ix_tup (pe_dget (hu_of hr) (pv 1) (pv 2) (fun _ _ => rfl)) pe_int (fun _ _ => rfl)) (pe_ix ix_tup (pe_dget (hu_of hr) (pv 1) (pv 2) (fun _ _ => rfl)) pe_int (fun _ _ => rfl)) (nomark _)) (pss_one (ps_ret (pv 2))) pss_nil)))
      (pss_one (ps_ret pe_non)))), ?_⟩
    refine q_drop (v := .non) (ev_call (ea_cons (ev_var rfl) (ea_cons (ev_var rfl) ea_nil)) fun H1 e Q q E => ⟨p, d, ks, ss, ns, lo, hi, rfl, hp.mono e, wf, hd.mono e, hk, q⟩) fun H1 e1 => ?_
    obtain ⟨o, B, hd, hB⟩ := hd
    refine q_forNL (el_snames (ev_var rfl) (hp.mono e1) wf.s1) (fun r i σ H' => ∃ a, σ = [some (.ref p), some (.ref d), a] ∧ Ex H H' ∧ H' r = some (.lst ((ss.map (·.n)).map V.str)) ∧ ∀ j s, j < i → ss[j]? = some s → lo s.n ≤ hi s.n) (fun r H2 _ e2 h2 => ⟨none, rfl, e1.trans e2, h2, fun j s hj => absurd hj (Nat.not_lt_zero _)⟩) (fun r i σ H' _ ⟨_, _, _, h, _⟩ => sq_of h) (fun r i x σ H' hx h => ?_) (fun r σ H' h => ?_)
    · obtain ⟨a, rfl, e, hr', hj⟩ := h
      rw [List.map_map, List.getElem?_map] at hx
      cases hs : ss[i]? with
      | none => rw [hs] at hx; cases hx
      | some y =>
        rw [hs] at hx
        have hx : V.str y.n = x := Option.some.inj hx
        subst hx
        have ym : y.n ∈ ss.map (·.n) := List.mem_map.mpr ⟨y, List.mem_of_getElem? hs, rfl⟩
        have yn : y.n ∈ ns := (hk.2 _).mpr ym
        have yB := e _ _ (hB _ yn)
        have dd : Rd H' d (.dK (dm ns fun n => .ref (B n))) := .inr ⟨o, e _ _ hd⟩
        refine s_when (b := decide (hi y.n < lo y.n)) (et_cmp (f := fun i j => decide (j < i)) (i := lo y.n) (j := hi y.n) (ev_ixT (i := 0) (ev_dget (ev_var rfl) (ev_var rfl) dd yn) ev_c yB rfl) (ev_ixT (i := 1) (ev_dget (ev_var rfl) (ev_var rfl) dd yn) ev_c yB rfl)) (fun hb H2 e2 => ?_) (fun hb H2 e2 => ?_)
        · exact s_ret (ev_var rfl) fun H3 e3 => q _ H3 ((e.trans e2).trans e3) (.inl ⟨y.n, ym, rfl, of_decide_eq_true hb⟩)
        · refine ⟨_, rfl, e.trans e2, e2 _ _ hr', fun j s hj' hs' => ?_⟩
          by_cases cj : j < i
          · exact hj j s cj hs'
          · have : j = i := by omega
            subst this
            rw [hs] at hs'; cases hs'
            have := of_decide_eq_false hb; omega
    · obtain ⟨a, rfl, e, hr', hj⟩ := h
      refine s_ret ev_c fun H3 e3 => q _ H3 (e.trans e3) (.inr ⟨rfl, fun s hs => ?_⟩)
      obtain ⟨j, hj'⟩ := List.mem_iff_getElem?.mp hs
      exact hj j s (by rw [List.length_map, List.length_map]; exact (List.getElem?_eq_some_iff.mp hj').1) hj'
abbrev s_missing_of : Stmt := top 33
abbrev N_missing_of : List Str := ["plant", "flows", "number"]
theorem sc_missing_of : FnScope N_missing_of ["plant", "flows"] (C8.fnScope s_missing_of) := C8.fnScope_by (by decide +kernel)

def sp_missing_of (aP : Addr) : Sp := fun vs H Q _ => ∃ (p d : Addr) (ks : List Str) (ss : List Stm) (ns : List Str) (F : Str → Int), vs = [V.ref p, V.ref d] ∧ PlantAt aP H p ks ss ∧ Wf ks ss ∧ Rd H d (.dK (fd ns F)) ∧ Keys ns ss ∧ ∀ H', Ex H H' → Q (.int (MM.missing ks (lns ss) F)) H'
theorem c_missing_of_ (T : Txt K mg aP aM aR) (D : Dn K mg "missing_of" s_missing_of ["plant", "flows"]) (c_lacks : C8.Cal P w K mg base 3 "lacks" (sp_lacks aP) []) : C8.Cal P w K mg base 4 "missing_of" (sp_missing_of aP) [] := by
  refine cal_of D sc_missing_of (fun vs H Q E h => ?_) (fun f cdv A outer s H vs Q E hr h => ?_)
  · obtain ⟨p, d, ks, ss, ns, F, rfl, _⟩ := h
    rfl
  · obtain ⟨p, d, ks, ss, ns, F, rfl, hp, wf, hd, hk, q⟩ := h
    refine ⟨_, (pss_one (ps_ret (pe_callB (cr_sum rfl) (by rfl) T.n_sum (by decide +kernel) (pa_cons (pe_lc (own := [("number", 2)]) (g := (gName 2)) (tt := tYes) rfl sc_missing_of.nd (pi_values (pe_froz (C8.pe_c c_lacks hr (by decide) (by rfl) (pa_cons (pv 0) (pa_cons (pv 1) pa_nil))))) (blkOk_by (own := [("number", 2)]) (N := N_missing_of) (sc := C8.fnScope s_missing_of) (by decide +kernel)) (fun _ _ _ _ _ => (pg_name (i := 2) sc_missing_of.nd rfl (Or.inl rfl))) (fun _ _ _ _ _ => pts_nil) (fun _ _ _ _ _ => (pe_callB (call_max2 rfl) (by rfl) T.n_max (by decide +kernel) (pa_cons pe_int (pa_cons (pe_un un_neg (pv 2)) pa_nil))))) pa_nil)))), ?_⟩
    have k2 := wf.k2
    refine s_ret (ev_is (ev_sumN (ns := ks.map fun v => max 0 (- MM.net (lns ss) F v)) (ev_isL (el_lc (ei_valsF (ns := ks) (gv := fun n => .int (MM.net (lns ss) F n)) (ep_lacks (ev_var rfl) (Ev.rd (ev_var rfl) hd) hp wf hk)) (ys := ks) (by rw [List.length_map]) (by rw [List.length_map]; omega) (fun _ => true) (fun v => .int (max 0 (- MM.net (lns ss) F v))) fun i x y H' hx hy e => ?_) (by rw [all_map, List.map_map]; rfl))) rfl) q
    rw [List.getElem?_map, hy] at hx
    have hx : V.int (MM.net (lns ss) F y) = x := Option.some.inj hx
    subst hx
    refine ⟨_, fun Q q => q, rfl, et_yes, fun _ => ev_is (ev_max2 (i := 0) (j := - MM.net (lns ss) F y) ev_c (ev_un (ev_var rfl) ru_neg)) ?_⟩
    congr 1
    split <;> omega
end
end MS
set_option Elab.async false
set_option linter.all false
set_option maxRecDepth 100000
set_option maxHeartbeats 4000000
namespace MS
open PySem PySem.Spec PyProof.Rows L2 Evl
section
variable {K : PySem.W.Frag} {σ : L2.St} {H : Hp} {ta tb tc te td ty tv : TE} {t : TT} {D : Ends} {tz : TS} {aP : Addr}
theorem ep_cross {E : XK} {tA : TA} {p d : Addr} {ks : List Str} {ss : List Stm} {ns : List Str} {lo hi : Str → Int} (h : EvA tA σ H [.ref p, .ref d]) (hp : PlantAt aP H p ks ss) (wf : Wf ks ss) (hd : LimAt H d ns lo hi) (hk : Keys ns ss) : EvP (tCall (sp_crossed aP) [] E tA) σ H (fun v _ => CrossR ss lo hi v) :=
  ev_callX h fun H1 e Q q E => ⟨p, d, ks, ss, ns, lo, hi, rfl, hp.mono e, wf, hd.mono e, hk, fun v H2 e2 h => q v H2 e2 h⟩
theorem et_cross {E : XK} {tA : TA} {p d : Addr} {ks : List Str} {ss : List Stm} {ns : List Str} {lo hi : Str → Int} (h : EvA tA σ H [.ref p, .ref d]) (hp : PlantAt aP H p ks ss) (wf : Wf ks ss) (hd : LimAt H d ns lo hi) (hk : Keys ns ss) : EvT (tB (tNotN (tCall (sp_crossed aP) [] E tA))) σ H ((ss.any fun s => decide (hi s.n < lo s.n))) := fun H1 e Q q =>
  ep_cross h hp wf hd hk H1 e _ fun v H2 e2 hv => by
    rcases hv with ⟨n, h1, rfl, h2⟩ | ⟨rfl, h⟩
    · refine ⟨true, by simp, ?_⟩
      have : (ss.any fun s => decide (hi s.n < lo s.n)) = true := by
        obtain ⟨s, hs, rfl⟩ := List.mem_map.mp h1
        exact List.any_eq_true.mpr ⟨s, hs, decide_eq_true h2⟩
      rw [this] at q
      exact q H2 e2
    · refine ⟨false, by simp, ?_⟩
      have : (ss.any fun s => decide (hi s.n < lo s.n)) = false := List.any_eq_false.mpr fun s hs z => by
        have := of_decide_eq_true z
        have := h s hs
        omega
      rw [this] at q
      exact q H2 e2
theorem ep_lines {E : XK} {tA : TA} {p : Addr} {ks : List Str} {ss : List Stm} (h : EvA tA σ H [.ref p]) (hp : PlantAt aP H p ks ss) (hz : ss.length ≤ 60) : EvN (tCall (sp_lines_of aP) [] E tA) σ H (fun q H' => TL H' q ((linesOf ss).map row3)) := fun H1 e Q q =>
  h H1 e _ fun H2 e2 => ⟨p, ks, ss, rfl, hp.mono (e.trans e2), hz, fun q' H' hq' e' h' => q q' H' (fresh_back e2 hq') (e2.trans e') h'⟩
theorem ep_leading {E : XK} {tA : TA} {l d fl en : Addr} {ls : List Ln} {ns nf : List Str} {lo hi F : Str → Int} {S : List Str} (h : EvA tA σ H [.ref l, .ref d, .ref fl, .ref en]) (a : AI H l d fl ls ns nf lo hi F) (hs : SqL K H en (S.map V.str)) (hS : S.Nodup) (hz : S.length ≤ 100) :
    EvN (tCall (sp_leading_to K) [] E tA) σ H (fun q H' => ∃ W, H' q = some (.dK (dm W tt)) ∧ Closed ((MM.arcsOf ls lo hi F).map fun x => (x.b, x.a)) S W) := fun H1 e Q q =>
  h H1 e _ fun H2 e2 => ⟨l, d, fl, en, ls, ns, nf, lo, hi, F, S, rfl, a.mono (e.trans e2), ex_l (e.trans e2) hs, hS, hz, fun q' H' W hq' e' h1 h2 => q q' H' (fresh_back e2 hq') (e2.trans e') ⟨W, h1, h2⟩⟩
theorem ep_led {E : XK} {tA : TA} {l d fl en : Addr} {ls : List Ln} {ns nf : List Str} {lo hi F : Str → Int} {S : List Str} (h : EvA tA σ H [.ref l, .ref d, .ref fl, .ref en]) (a : AI H l d fl ls ns nf lo hi F) (hs : SqL K H en (S.map V.str)) (hS : S.Nodup) (hz : S.length ≤ 100) :
    EvN (tCall (sp_led_from K) [] E tA) σ H (fun q H' => ∃ W, H' q = some (.dK (dm W tt)) ∧ Closed ((MM.arcsOf ls lo hi F).map fun x => (x.a, x.b)) S W) := fun H1 e Q q =>
  h H1 e _ fun H2 e2 => ⟨l, d, fl, en, ls, ns, nf, lo, hi, F, S, rfl, a.mono (e.trans e2), ex_l (e.trans e2) hs, hS, hz, fun q' H' W hq' e' h1 h2 => q q' H' (fresh_back e2 hq') (e2.trans e') ⟨W, h1, h2⟩⟩
theorem ev_missing {E : XK} {tA : TA} {p d : Addr} {ks : List Str} {ss : List Stm} {ns : List Str} {F : Str → Int} (h : EvA tA σ H [.ref p, .ref d]) (hp : PlantAt aP H p ks ss) (wf : Wf ks ss) (hd : Rd H d (.dK (fd ns F))) (hk : Keys ns ss) : Ev (tCall (sp_missing_of aP) [] E tA) σ H (.int (MM.missing ks (lns ss) F)) :=
  ev_call h fun H1 e Q q E => ⟨p, d, ks, ss, ns, F, rfl, hp.mono e, wf, ex_rd e hd, hk, fun H2 e2 => q H2 e2⟩
theorem ev_min2 {i j : Int} (ha : Ev ta σ H (.int i)) (hb : Ev tb σ H (.int j)) : Ev (tCB (fun xs H Q => ∃ i j, xs = [.int i, .int j] ∧ Q (.int (if j < i then j else i)) H) (tCons ta (tCons tb tNil))) σ H (.int (if j < i then j else i)) := fun H1 e Q q =>
  ha H1 e _ fun H2 e2 => hb H2 (e.trans e2) _ fun H3 e3 => ⟨i, j, rfl, q H3 (e2.trans e3)⟩
theorem en_lst2 {xs ys : List V} (h1 : EvL ta σ H xs) (h2 : EvL tb σ H ys) : EvN (tLst (tCons ta (tCons tb tNil))) σ H (fun q H' => ∃ a b, H' q = some (.lst [.ref a, .ref b]) ∧ H' a = some (.lst xs) ∧ H' b = some (.lst ys)) := fun H1 e Q q =>
  h1 H1 e _ fun a H2 _ e2 ha => h2 H2 (e.trans e2) _ fun b H3 _ e3 hb => ⟨sz_of (by show 2 ≤ 100000; decide), fun p hp => q p _ (fresh_back (e2.trans e3) hp) ((e2.trans e3).trans (Ex.new hp)) ⟨a, b, upd_same, (Ex.new hp) _ _ (e3 _ _ ha), (Ex.new hp) _ _ hb⟩⟩
/-- what of the plant's knots is chosen by a dict's numbers, by a dict's keys -/
theorem el_kn {E : XK} {g : TG} {tt' : TT} {vs : List Nat} {p : Addr} {ks : List Str} {ss : List Stm} (h : Ev ta σ H (.ref p)) (hp : PlantAt aP H p ks ss) (hz : ks.length ≤ 24) (f : Str → Bool)
    (k : ∀ n H', n ∈ ks → Ex H H' → ∃ σ2, (∀ Q : L2.St → Hp → Prop, Q σ2 H' → g (.str n) (wipe σ vs) H' Q) ∧ wipe σ2 vs = wipe σ vs ∧ EvT tt' σ2 H' (f n) ∧ (f n = true → Ev te σ2 H' (.str n))) : EvL (tLc (iList K (tProp aP (sp_knots aP) [] E ta)) g tt' te vs) σ H ((ks.filter f).map V.str) := by
  refine el_lc (EvI.of_listN (el_knots h hp)) (ys := ks) (by rw [List.length_map]) (by rw [List.length_map]; omega) f V.str fun i x y H' hx hy e => ?_
  rw [List.getElem?_map, hy] at hx
  have hx : V.str y = x := Option.some.inj hx
  subst hx
  exact k y H' (List.mem_of_getElem? hy) e
end
section
variable {P : Program} {w : World} {K : PySem.W.Frag} {mg : Str → Option Value} {base : Heap} {aP aM aR : Addr}
theorem wf_he {ks : List Str} {ss : List Stm} (wf : Wf ks ss) : ∀ l ∈ lns ss, l.t ∈ ks ∧ l.h ∈ ks := fun l hl => by
  obtain ⟨s, hs, rfl⟩ := List.mem_map.mp hl
  obtain ⟨h1, h2, _⟩ := wf.sS s hs
  exact ⟨h1, h2⟩
theorem wf_nd {ks : List Str} {ss : List Stm} (wf : Wf ks ss) : ((lns ss).map (·.n)).Nodup := by
  have := wf.sn
  unfold lns
  rw [List.map_map]
  exact this
theorem lines_len {ss : List Stm} (h : ss.length ≤ 60) : (linesOf ss).length ≤ 60 := by
  have := List.length_filter_le (fun l : Ln => decide (l.t ≠ l.h)) (lns ss)
  unfold linesOf
  unfold lns at this ⊢
  rw [List.length_map] at this
  omega
theorem lines_in {ss : List Stm} {ns : List Str} (hk : Keys ns ss) : ∀ x ∈ linesOf ss, x.n ∈ ns ∧ x.n ∈ ns := fun x hx => by
  have h := (List.mem_filter.mp hx).1
  obtain ⟨s, hs, rfl⟩ := List.mem_map.mp h
  have : s.n ∈ ns := (hk.2 _).mpr (List.mem_map.mpr ⟨s, hs, rfl⟩)
  exact ⟨this, this⟩
theorem lm_of {ks : List Str} {ss : List Stm} {lo hi F : Str → Int} (wf : Wf ks ss) (hw : MM.Within (lns ss) lo hi F) {WW WL WS over short : List Str} (ho : over = ks.filter fun v => decide (0 < MM.net (lns ss) F v)) (hs : short = ks.filter fun v => decide (MM.net (lns ss) F v < 0))
    (w1 : ∀ s ∈ over, s ∈ WW) (w2 : ∀ x ∈ MM.arcsOf (linesOf ss) lo hi F, x.a ∈ WW → x.b ∈ WW) (w3 : ∀ v ∈ WW, v ∉ short) (cL : Closed ((MM.arcsOf (linesOf ss) lo hi F).map fun x => (x.b, x.a)) short WL) (cS : Closed ((MM.arcsOf (linesOf ss) lo hi F).map fun x => (x.a, x.b)) over WS) :
    MM.LM ks (lns ss) lo hi (MM.missing ks (lns ss) F) F (ks.filter fun v => decide (v ∈ WL)) (ks.filter fun v => decide (v ∉ WS)) := by
  have := MM.hoffman (ks := ks) wf.kn (wf_he wf) hw (L := fun v => decide (v ∈ WL)) (S := fun v => decide (v ∈ WS)) (W := fun v => decide (v ∈ WW)) ho hs (fun v hv => decide_eq_true (w1 v hv)) (fun a b r ha => ?_) (fun v hv => decide_eq_false fun z => w3 v z hv) (fun v hv => decide_eq_true (cL.come.sub v hv)) (fun a b r hb => ?_) (fun T h0 h1 v hv => ?_) (fun v hv => decide_eq_true (cS.come.sub v hv)) (fun a b r ha => ?_) (fun T h0 h1 v hv => ?_)
  · have e : (fun v => decide (v ∉ WS)) = (fun v => !decide (v ∈ WS)) := by funext v; simp
    rw [e]
    exact this
  · obtain ⟨x, hx, rfl, rfl⟩ := MM.rs_iff.mp r
    exact decide_eq_true (w2 x hx (of_decide_eq_true ha))
  · obtain ⟨x, hx, rfl, rfl⟩ := MM.rs_iff.mp r
    exact decide_eq_true (cL.cl (x.b, x.a) (List.mem_map.mpr ⟨x, hx, rfl⟩) (of_decide_eq_true hb))
  · refine cL.come.least T h0 (fun pr hpr ht => ?_) v (of_decide_eq_true hv)
    obtain ⟨x, hx, rfl⟩ := List.mem_map.mp hpr
    exact h1 x.a x.b (MM.rs_iff.mpr ⟨x, hx, rfl, rfl⟩) ht
  · obtain ⟨x, hx, rfl, rfl⟩ := MM.rs_iff.mp r
    exact decide_eq_true (cS.cl (x.a, x.b) (List.mem_map.mpr ⟨x, hx, rfl⟩) (of_decide_eq_true ha))
  · refine cS.come.least T h0 (fun pr hpr ht => ?_) v (of_decide_eq_true hv)
    obtain ⟨x, hx, rfl⟩ := List.mem_map.mp hpr
    exact h1 x.a x.b (MM.rs_iff.mpr ⟨x, hx, rfl, rfl⟩) ht
abbrev s_least_missing : Stmt := top 34
abbrev N_least_missing : List Str := ["plant", "limits", "lines", "flows", "name", "left", "over", "knot", "short", "way", "least", "spared", "lots"]
theorem sc_least_missing : FnScope N_least_missing ["plant", "limits"] (C8.fnScope s_least_missing) := C8.fnScope_by (by decide +kernel)

def sp_least_missing (aP aM : Addr) : Sp := fun vs H Q _ => ∃ (p d : Addr) (ks : List Str) (ss : List Stm) (ns : List Str) (lo hi : Str → Int), vs = [V.ref p, V.ref d] ∧ PlantAt aP H p ks ss ∧ Wf ks ss ∧ LimAt H d ns lo hi ∧ Keys ns ss ∧
  (∀ n ∈ ss.map (·.n), hi n < lo n → ∀ H', Ex H H' → Q .non H') ∧ (∀ (q : Addr) (H' : Hp) (m : Int) (F : Str → Int) (lst grt : List Str), H q = none → Ex H H' → MissAt aM H' q m ns F lst grt → MM.LM ks (lns ss) lo hi m F lst grt → Q (.ref q) H')
theorem c_least_missing_ (T : Txt K mg aP aM aR) (D : Dn K mg "least_missing" s_least_missing ["plant", "limits"]) (c_knots : Prp P w K mg base 1 aP "knots" (sp_knots aP)) (c_lacks : C8.Cal P w K mg base 3 "lacks" (sp_lacks aP) []) (c_lines_of : C8.Cal P w K mg base 3 "lines_of" (sp_lines_of aP) []) (c_arcs_of : C8.Cal P w K mg base 1 "arcs_of" sp_arcs_of [])
    (c_way_between : C8.Cal P w K mg base 2 "way_between" (sp_way_between K) []) (c_push : C8.Cal P w K mg base 1 "push" sp_push []) (c_leading_to : C8.Cal P w K mg base 2 "leading_to" (sp_leading_to K) []) (c_led_from : C8.Cal P w K mg base 2 "led_from" (sp_led_from K) [])
    (c_Missing : C8.Mak P w K mg base 1 "Missing" aM (sp_minit aM K) []) (c_crossed : C8.Cal P w K mg base 5 "crossed" (sp_crossed aP) []) (c_missing_of : C8.Cal P w K mg base 4 "missing_of" (sp_missing_of aP) []) : C8.Cal P w K mg base 6 "least_missing" (sp_least_missing aP aM) [] := by
  refine cal_of D sc_least_missing (fun vs H Q E h => ?_) (fun f cdv A outer s H vs Q E hr h => ?_)
  · obtain ⟨p, d, ks, ss, ns, lo, hi, rfl, _⟩ := h
    rfl
  · obtain ⟨p, d, ks, ss, ns, lo, hi, rfl, hp, wf, hd, hk, q1, q2⟩ := h
    have k2 := wf.k2
    have ln := hk.len wf.s1
    have he := wf_he wf
    have nd := wf_nd wf
    refine ⟨_, (pss_cons (ps_if (pt_cmp (pc_notN (C8.pe_c c_crossed hr (by decide) (by rfl) (pa_cons (pv 0) (pa_cons (pv 1) pa_nil)))) rfl) (pss_one (ps_ret pe_non)) pss_nil)
      (pss_cons (ps_set (i := 2) sc_least_missing.nd rfl (Or.inl rfl) (C8.pe_c c_lines_of hr (by decide) (by rfl) (pa_cons (pv 0) pa_nil)))
      (pss_cons (ps_setDc (i := 3) (own := [("name", 4)]) (g := (gName 4)) (tt := tYes) rfl sc_least_missing.nd rfl rfl (sw_trueD rfl rfl rfl (by decide +kernel)) (pi_keys (pv 1)) (blkOk_by (own := [("name", 4)]) (N := N_least_missing) (sc := C8.fnScope s_least_missing) (by decide +kernel)) (fun _ _ _ _ _ => (pg_name (i := 4) sc_least_missing.nd rfl (Or.inl rfl))) (fun _ _ _ _ _ => pts_nil) (fun _ _ _ _ _ => (pv 4)) (fun _ _ _ _ _ => (pe_ix (ix_tupK K) (pe_dget (hu_of hr) (pv 1) (pv 4) (fun _ _ => rfl)) pe_int (fun _ _ => rfl))))
      (pss_cons (ps_while PassesOwn.never (pt_val pe_bl) (pss_cons (ps_set (i := 5) sc_least_missing.nd rfl (Or.inr rfl) (C8.pe_c c_lacks hr (by decide) (by rfl) (pa_cons (pv 0) (pa_cons (pv 3) pa_nil))))
      (pss_cons (ps_setLc (i := 6) (own := [("knot", 7)]) (g := (gName 7)) rfl sc_least_missing.nd rfl rfl (sw_true rfl rfl rfl (by decide +kernel)) (pi_list (pe_pr T.cP c_knots hr (by decide) (pv 0))) (blkOk_by (own := [("knot", 7)]) (N := N_least_missing) (sc := C8.fnScope s_least_missing) (by decide +kernel)) (fun _ _ _ _ _ => (pg_name (i := 7) sc_least_missing.nd rfl (Or.inl rfl))) (fun _ _ _ _ _ => (pts_one (pt_cmpR op_gt (pe_dget (hu_of hr) (pv 5) (pv 7) (fun _ _ => rfl)) pe_int (nomark _)))) (fun _ _ _ _ _ => (pv 7)))
      (pss_cons (ps_setLc (i := 8) (own := [("knot", 7)]) (g := (gName 7)) rfl sc_least_missing.nd rfl rfl (sw_true rfl rfl rfl (by decide +kernel)) (pi_list (pe_pr T.cP c_knots hr (by decide) (pv 0))) (blkOk_by (own := [("knot", 7)]) (N := N_least_missing) (sc := C8.fnScope s_least_missing) (by decide +kernel)) (fun _ _ _ _ _ => (pg_name (i := 7) sc_least_missing.nd rfl (Or.inl rfl))) (fun _ _ _ _ _ => (pts_one (pt_cmpR op_lt (pe_dget (hu_of hr) (pv 5) (pv 7) (fun _ _ => rfl)) pe_int (nomark _)))) (fun _ _ _ _ _ => (pv 7)))
      (pss_cons (ps_set (i := 9) sc_least_missing.nd rfl (Or.inl rfl) (C8.pe_c c_way_between hr (by decide) (by rfl) (pa_cons (C8.pe_c c_arcs_of hr (by decide) (by rfl) (pa_cons (pv 2) (pa_cons (pv 1) (pa_cons (pv 3) pa_nil)))) (pa_cons (pv 6) (pa_cons (pv 8) pa_nil)))))
      (pss_cons (ps_if (pt_cmp (pc_isN (pv 9)) rfl) (pss_one ps_break) pss_nil)
      (pss_one (ps_expr (C8.pe_c c_push hr (by decide) (by rfl) (pa_cons (pv 3) (pa_cons (pv 9) (pa_cons (pe_callB (call_min2 rfl) (by rfl) T.n_min (by decide +kernel) (pa_cons (pe_dget (hu_of hr) (pv 5) (pe_ix ix_tup (pe_ix ix_list (pv 9) pe_int (fun _ _ => rfl)) pe_int (fun _ _ => rfl)) (fun _ _ => rfl)) (pa_cons (pe_un un_neg (pe_dget (hu_of hr) (pv 5) (pe_ix ix_tup (pe_ix ix_list (pv 9) (pe_un un_neg pe_int) (fun _ _ => rfl)) pe_int (fun _ _ => rfl)) (fun _ _ => rfl))) pa_nil))) pa_nil))))))))))))
      (pss_cons (ps_set (i := 10) sc_least_missing.nd rfl (Or.inr rfl) (C8.pe_c c_leading_to hr (by decide) (by rfl) (pa_cons (pv 2) (pa_cons (pv 1) (pa_cons (pv 3) (pa_cons (pv 8) pa_nil))))))
      (pss_cons (ps_set (i := 11) sc_least_missing.nd rfl (Or.inr rfl) (C8.pe_c c_led_from hr (by decide) (by rfl) (pa_cons (pv 2) (pa_cons (pv 1) (pa_cons (pv 3) (pa_cons (pv 6) pa_nil))))))
      (pss_cons (ps_set (i := 12) sc_least_missing.nd rfl (Or.inl rfl) (pe_lst (pa_cons (pe_lc (own := [("knot", 7)]) (g := (gName 7)) rfl sc_least_missing.nd (pi_list (pe_pr T.cP c_knots hr (by decide) (pv 0))) (blkOk_by (own := [("knot", 7)]) (N := N_least_missing) (sc := C8.fnScope s_least_missing) (by decide +kernel)) (fun _ _ _ _ _ => (pg_name (i := 7) sc_least_missing.nd rfl (Or.inl rfl))) (fun _ _ _ _ _ => (pts_one (pt_cmp (pc_din (hu_of hr) (pv 7) (pv 10))))) (fun _ _ _ _ _ => (pv 7))) (pa_cons (pe_lc (own := [("knot", 7)]) (g := (gName 7)) rfl sc_least_missing.nd (pi_list (pe_pr T.cP c_knots hr (by decide) (pv 0))) (blkOk_by (own := [("knot", 7)]) (N := N_least_missing) (sc := C8.fnScope s_least_missing) (by decide +kernel)) (fun _ _ _ _ _ => (pg_name (i := 7) sc_least_missing.nd rfl (Or.inl rfl))) (fun _ _ _ _ _ => (pts_one (pt_cmp (pc_dnotin (hu_of hr) (pv 7) (pv 11))))) (fun _ _ _ _ _ => (pv 7))) pa_nil))))
      (pss_one (ps_ret (C8.pe_mk c_Missing hr (by decide) (by rfl) (pa_cons (C8.pe_c c_missing_of hr (by decide) (by rfl) (pa_cons (pv 0) (pa_cons (pv 3) pa_nil))) (pa_cons (pv 3) (pa_cons (pe_ix ix_list (pv 12) pe_int (fun _ _ => rfl)) (pa_cons (pe_ix ix_list (pv 12) pe_int (fun _ _ => rfl)) pa_nil)))))))))))))), ?_⟩
    refine q_when (b := (ss.any fun s => decide (hi s.n < lo s.n))) (et_cross (ea_cons (ev_var rfl) (ea_cons (ev_var rfl) ea_nil)) hp wf hd hk) (fun hb H1 e1 => ?_) (fun hb H1 e1 => ?_)
    · obtain ⟨x, h1, h2⟩ := List.any_eq_true.mp hb
      exact s_ret ev_c fun H2 e2 => q1 x.n (List.mem_map.mpr ⟨x, h1, rfl⟩) (of_decide_eq_true h2) H2 (e1.trans e2)
    have hle : ∀ s ∈ ss, lo s.n ≤ hi s.n := fun s hs => by
      have := List.any_eq_false.mp hb s hs
      by_cases c : lo s.n ≤ hi s.n
      · exact c
      · exact absurd (decide_eq_true (by omega)) this
    refine q_asgN (ep_lines (ea_cons (ev_var rfl) ea_nil) (hp.mono e1) wf.s1) fun l H2 hl0 e2 hl => ?_
    have e02 := e1.trans e2
    obtain ⟨o, B, hd', hB⟩ := id hd
    refine q_asgN (en_dc (ns := ns) (ei_keys (ev_var rfl) (e02 _ _ hd')) hk.1 (by omega) (fun n => .int (lo n)) fun n H' hn e => ⟨_, fun Q q => q, rfl, ev_var rfl, ev_ixT (i := 0) (ev_dget (ev_var rfl) (ev_var rfl) (.inr ⟨o, (e02.trans e) _ _ hd'⟩) hn) ev_c ((e02.trans e) _ _ (hB n hn)) rfl⟩) fun fl H3 hf0 e3 hf => ?_
    refine q_while (fun m σ H' => ∃ (F : Str → Int) (a b c k s w : Option V), σ = [some (.ref p), some (.ref d), some (.ref l), some (.ref fl), a, b, c, k, s, w, none, none, none] ∧ MM.Within (lns ss) lo hi F ∧ Ex H2 H' ∧ H' fl = some (.dK (fd ns F)) ∧ m = (MM.toomuch ks (lns ss) F).toNat) _ ⟨lo, _, _, _, _, _, _, rfl, fun x hx => by
      obtain ⟨s, hs, rfl⟩ := List.mem_map.mp hx
      exact ⟨Int.le_refl _, hle s hs⟩, e3, hf, rfl⟩ ?_
    rintro m σ H' ⟨F, v4, v5, v6, v7, v8, v9, rfl, hw, e, hf', rfl⟩
    refine ⟨true, et_B ev_c, fun _ H4 e4 => ?_, fun hb => nomatch hb⟩
    refine ⟨fun σ H' => ∃ (F' : Str → Int) (a b c k s w : Option V), σ = [some (.ref p), some (.ref d), some (.ref l), some (.ref fl), a, b, c, k, s, w, none, none, none] ∧ MM.Within (lns ss) lo hi F' ∧ Ex H2 H' ∧ H' fl = some (.dK (fd ns F')) ∧ (MM.toomuch ks (lns ss) F').toNat < (MM.toomuch ks (lns ss) F).toNat, fun σ2 H5 ⟨F', a, b, c, k, s, w, h1, h2, h3, h4, h5⟩ => ⟨_, h5, F', a, b, c, k, s, w, h1, h2, h3, h4, rfl⟩, ?_⟩
    have e24 := e.trans e4
    have e04 := e02.trans e24
    have a4 : AI H4 l d fl (linesOf ss) ns ns lo hi F := ⟨hl.mono e24, hd.mono e04, .inl (e4 _ _ hf'), lines_in hk, lines_len wf.s1⟩
    have al := MM.arcs_len (ls := linesOf ss) (lo := lo) (hi := hi) (F := F)
    have az := a4.z
    refine q_asgN (ep_lacks (ev_var rfl) (Ev.rd (ev_var rfl) a4.f) (hp.mono e04) wf hk) fun lf H5 _ e5 hlf => ?_
    refine q_asgL (el_kn (ev_var rfl) (hp.mono (e04.trans e5)) k2 (fun v => decide (0 < MM.net (lns ss) F v)) fun n H' hn e => ⟨_, fun Q q => q, rfl, et_cmp (f := fun i j => decide (j < i)) (i := MM.net (lns ss) F n) (j := 0) (ev_dget (ev_var rfl) (ev_var rfl) (.inl (e _ _ hlf)) hn) ev_c, fun _ => ev_var rfl⟩) fun ov H6 _ e6 hov => ?_
    refine q_asgL (el_kn (ev_var rfl) (hp.mono ((e04.trans e5).trans e6)) k2 (fun v => decide (MM.net (lns ss) F v < 0)) fun n H' hn e => ⟨_, fun Q q => q, rfl, et_cmp (f := fun i j => decide (i < j)) (i := MM.net (lns ss) F n) (j := 0) (ev_dget (ev_var rfl) (ev_var rfl) (.inl (e _ _ (e6 _ _ hlf))) hn) ev_c, fun _ => ev_var rfl⟩) fun sh H7 _ e7 hsh => ?_
    have e47 : Ex H4 H7 := (e5.trans e6).trans e7
    have hov7 := e7 _ _ hov
    generalize hO : (ks.filter fun v => decide (0 < MM.net (lns ss) F v)) = over at hov7
    generalize hSh : (ks.filter fun v => decide (MM.net (lns ss) F v < 0)) = short at hsh
    have nO : over.Nodup := by rw [← hO]; exact wf.kn.filter _
    have nS : short.Nodup := by rw [← hSh]; exact wf.kn.filter _
    have lO : over.length ≤ 100 := by rw [← hO]; have := List.length_filter_le (fun v => decide (0 < MM.net (lns ss) F v)) ks; omega
    have lS : short.length ≤ 100 := by rw [← hSh]; have := List.length_filter_le (fun v => decide (MM.net (lns ss) F v < 0)) ks; omega
    have mO : ∀ v ∈ over, v ∈ ks ∧ 0 < MM.net (lns ss) F v := fun v hv => by
      rw [← hO] at hv
      exact ⟨(List.mem_filter.mp hv).1, of_decide_eq_true (List.mem_filter.mp hv).2⟩
    have mS : ∀ v ∈ short, v ∈ ks ∧ MM.net (lns ss) F v < 0 := fun v hv => by
      rw [← hSh] at hv
      exact ⟨(List.mem_filter.mp hv).1, of_decide_eq_true (List.mem_filter.mp hv).2⟩
    refine q_asgP (ep_between (S := over) (En := short) (en_arcs (ea_cons (ev_var rfl) (ea_cons (ev_var rfl) (ea_cons (ev_var rfl) ea_nil))) (a4.mono e47)) (Ev.sp (ev_var rfl) (sq_of hov7)) (Ev.sp (ev_var rfl) (sq_of hsh)) nO lO (by omega)) fun v H8 e8 hv => ?_
    have e48 := e47.trans e8
    rcases hv with ⟨rfl, WW, w1, w2, w3⟩ | ⟨r, par, wy, vs, pe, rfl, t1, t2, t3, t4⟩
    · refine q_when (b := true) (et_is (et_B (ev_isN (x := .non) (ev_var rfl))) (by simp)) (fun _ H9 e9 => ?_) (fun hb => nomatch hb)
      unfold tBreak
      have e49 := e48.trans e9
      have a9 := a4.mono e49
      refine q_asgN (ep_leading (ea_cons (ev_var rfl) (ea_cons (ev_var rfl) (ea_cons (ev_var rfl) (ea_cons (ev_var rfl) ea_nil)))) a9 (sq_of ((e8.trans e9) _ _ hsh)) nS lS) fun le H10 _ e10 ⟨WL, hle', cL⟩ => ?_
      refine q_asgN (ep_led (ea_cons (ev_var rfl) (ea_cons (ev_var rfl) (ea_cons (ev_var rfl) (ea_cons (ev_var rfl) ea_nil)))) (a9.mono e10) (sq_of (((e8.trans e9).trans e10) _ _ hov7)) nO lO) fun sp H11 _ e11 ⟨WS, hsp, cS⟩ => ?_
      have e411 := (e49.trans e10).trans e11
      have hp11 := hp.mono (e04.trans e411)
      refine q_asgN (en_lst2 (el_kn (ev_var rfl) hp11 k2 (fun v => decide (v ∈ WL)) fun n H' hn e => ⟨_, fun Q q => q, rfl, et_B (ev_din (ev_var rfl) (ev_var rfl) (.inl (e _ _ (e11 _ _ hle')))), fun _ => ev_var rfl⟩) (el_kn (ev_var rfl) hp11 k2 (fun v => decide (v ∉ WS)) fun n H' hn e => ⟨_, fun Q q => q, rfl, et_B (ev_dnin (ev_var rfl) (ev_var rfl) (.inl (e _ _ hsp))), fun _ => ev_var rfl⟩)) fun lt H12 _ e12 ⟨la, lb, h1, h2, h3⟩ => ?_
      have e412 := e411.trans e12
      have f12 := e412 _ _ (e4 _ _ hf')
      refine s_retN (en_mk (Pn := fun x H' => MissAt aM H' x (MM.missing ks (lns ss) F) ns F (ks.filter fun v => decide (v ∈ WL)) (ks.filter fun v => decide (v ∉ WS))) (vs := [.int (MM.missing ks (lns ss) F), .ref fl, .ref la, .ref lb]) (ea_cons (ev_missing (ea_cons (ev_var rfl) (ea_cons (ev_var rfl) ea_nil)) (hp.mono (e04.trans e412)) wf (.inl f12) hk) (ea_cons (ev_var rfl) (ea_cons (ev_ixL (i := 0) (ev_var rfl) ev_c h1 rfl) (ea_cons (ev_ixL (i := 1) (ev_var rfl) ev_c h1 rfl) ea_nil)))) fun x dx H13 Q E e13 hx q => ?_) fun x H14 hx0 e14 hm => ?_
      · exact ⟨x, dx, fl, la, lb, _, ns, F, _, _, rfl, hx, .inl (e13 _ _ f12), e13 _ _ h2, e13 _ _ h3, fun H' e' hm => q H' e' hm⟩
      · exact q2 x H14 _ F _ _ (fresh_back (e04.trans e412) hx0) ((e04.trans e412).trans e14) hm (lm_of wf hw hO.symm hSh.symm w1 w2 w3 cL cS)
    · refine q_when (b := false) (et_is (et_B (ev_isN (x := .ref r) (ev_var rfl))) (by simp)) (fun hb => nomatch hb) (fun _ H9 e9 => ?_)
      have e49 := e48.trans e9
      have f9 := e49 _ _ (e4 _ _ hf')
      obtain ⟨s, sO, vh, sh1⟩ := t2.start_mem
      have sS : pe ∉ over := fun z => by have := (mO pe z).2; have := (mS pe t3).2; omega
      have wne := t2.no_start sS
      have wa := t2.arcs
      have rp : ∀ y ∈ wy, 1 ≤ y.r ∧ (y.s = 1 ∨ y.s = -1) ∧ y.n ∈ (linesOf ss).map (·.n) := fun y hy => MM.room_pos (wa y hy).1
      obtain ⟨as, hr9, ht9⟩ := t1.mono e9
      have lr := ht9.ln
      have sub : ∀ x ∈ linesOf ss, x ∈ lns ss := fun x hx => (List.mem_filter.mp hx).1
      -- the first and the last arc
      obtain ⟨x0, xr, ex0⟩ : ∃ x r, wy = x :: r := by
        cases wy with
        | nil => exact absurd rfl wne
        | cons x r => exact ⟨x, r, rfl⟩
      obtain ⟨w', xl, exl⟩ : ∃ w' x, wy = w' ++ [x] := by
        rcases List.eq_nil_or_concat wy with z | ⟨w', x, z⟩
        · exact absurd z wne
        · exact ⟨w', x, by rw [z]; simp⟩
      have ea0 : x0.a = s := sh1 x0 (by rw [ex0]; rfl)
      have ebl : xl.b = pe := t2.last xl (by rw [exl]; simp)
      obtain ⟨a0, ha0, ht0⟩ := ht9.at (i := 0) (r := rowA x0) (by rw [ex0]; rfl)
      obtain ⟨al', hal, htl⟩ := ht9.at (i := w'.length) (r := rowA xl) (by rw [exl, List.map_append, List.getElem?_append_right (by rw [List.length_map]; exact Nat.le_refl _), List.length_map, Nat.sub_self]; rfl)
      have eas : as.map V.ref = as.dropLast.map V.ref ++ [V.ref al'] := by
        have hne : as ≠ [] := fun z => by rw [z] at ha0; cases ha0
        have : as.getLast hne = al' := by
          have h1 : as.length = w'.length + 1 := by rw [lr, exl]; simp
          rw [List.getLast_eq_getElem]
          have h2 := (List.getElem?_eq_some_iff.mp hal).2
          have h3 : as.length - 1 = w'.length := by omega
          simp only [h3]
          exact h2
        rw [← this, ← List.map_singleton (f := V.ref), ← List.map_append, List.dropLast_concat_getLast hne]
      have lf9 : Rd H9 lf (.dK (fd ks (MM.net (lns ss) F))) := .inl (e9 _ _ (e8 _ _ (e7 _ _ (e6 _ _ hlf))))
      have ex0' : Ev (tOp (rIxT K) (tOp (rIxL K) (tVar 9) (tC (.int 0))) (tC (.int 0))) [some (.ref p), some (.ref d), some (.ref l), some (.ref fl), v4, some (.ref lf), some (.ref ov), v7, some (.ref sh), some (.ref r), none, none, none] H9 (.str s) := by
        rw [← ea0]
        exact ev_ixT (i := 0) (ev_ixL (i := 0) (ev_var rfl) ev_c hr9 (by rw [List.getElem?_map, ha0]; rfl)) ev_c ht0 rfl
      have exl' : Ev (tOp (rIxT K) (tOp (rIxL K) (tVar 9) (tUn (rU fun i => .int (-i)) (tC (.int 1)))) (tC (.int 1))) [some (.ref p), some (.ref d), some (.ref l), some (.ref fl), v4, some (.ref lf), some (.ref ov), v7, some (.ref sh), some (.ref r), none, none, none] H9 (.str pe) := by
        rw [← ebl]
        exact ev_ixT (i := 1) (ev_op (ev_var rfl) (ev_un ev_c ru_neg) (rv_ixL (sq_of hr9) (by rw [eas]; exact atI_last _ _))) ev_c htl rfl
      refine mcall (ea_cons (ev_var rfl) (ea_cons (ev_var rfl) (ea_cons (ev_min2 (i := MM.net (lns ss) F s) (j := - MM.net (lns ss) F pe) (ev_dget (ev_var rfl) ex0' lf9 (mO s sO).1) (ev_un (ev_dget (ev_var rfl) exl' lf9 (mS pe t3).1) ru_neg)) ea_nil))) fun H10 e10 => ?_
      have f10 := e10 _ _ f9
      refine ⟨fl, r, _, ns, F, wy, rfl, f10, t1.mono (e9.trans e10), fun y hy => ⟨?_, (rp y hy).2.1⟩, by omega, t4, fun x H11 x1 x2 x3 e11 f11 => ?_⟩
      · obtain ⟨l', hl', en'⟩ := List.mem_map.mp (rp y hy).2.2
        rw [← en']
        exact (a4.n l' hl').2
      · have p1 := (mO s sO).2
        have p2 := (mS pe t3).2
        have xp : 1 ≤ x := by
          rcases x3 with z | ⟨y, hy, z⟩
          · rw [z]; split <;> omega
          · rw [z]; exact (rp y hy).1
        have x1' : x ≤ MM.net (lns ss) F s ∧ x ≤ - MM.net (lns ss) F pe := by split at x1 <;> omega
        have fall := MM.toomuch_falls (ks := ks) (mO s sO).1 xp x1'.1 x1'.2 ((MM.push_way nd sub t2 x).2 s vh)
        have nn := MM.toomuch_nonneg ks (lns ss) (MM.pushW wy x F)
        refine ⟨MM.pushW wy x F, _, _, _, _, _, _, rfl, (fun y hy => by
          by_cases c : y.n ∈ (linesOf ss).map (·.n)
          · obtain ⟨l', hl', el⟩ := List.mem_map.mp c
            have := MM.same_line nd (sub l' hl') hy el
            subst this
            exact MM.push_within nd sub t2 (by omega) x2 (fun z hz => hw z (sub z hz)) _ hl'
          · rw [MM.push_off nd sub t2 x c]
            exact hw y hy), ?_, f11, by omega⟩
        exact ExD.ex ((e24.trans e49).trans e10) hf0 e11
end
end MS
set_option Elab.async false
set_option linter.all false
set_option maxRecDepth 100000
set_option maxHeartbeats 4000000
namespace MS
open PySem PySem.Spec PyProof.Rows L2 Evl
section
variable {K : PySem.W.Frag} {σ : L2.St} {H : Hp} {ta tb tc te td ty tv : TE} {t : TT} {D : Ends} {tu tz : TS} {aP aM : Addr}
/-- an if whose ways meet at J -/
theorem q_ifJ {J : L2.St → Hp → Prop} {b : Bool} (h : EvT t σ H b) (h1 : b = true → ∀ H1, Ex H H1 → ∀ D' : Ends, (∀ σ' H', J σ' H' → D'.nx σ' H') → tu D' σ H1) (h2 : b = false → ∀ H1, Ex H H1 → J σ H1) (k : ∀ σ' H', J σ' H' → tz D σ' H') : tSeq (tIfS t tu tNext) tz D σ H :=
  q_when h (fun hb H1 e => h1 hb H1 e _ k) (fun hb H1 e => k _ _ (h2 hb H1 e))
theorem s_ifJ {J : L2.St → Hp → Prop} {b : Bool} (h : EvT t σ H b) (h1 : b = true → ∀ H1, Ex H H1 → ∀ D' : Ends, (∀ σ' H', J σ' H' → D'.nx σ' H') → tu D' σ H1) (h2 : b = false → ∀ H1, Ex H H1 → J σ H1) (k : ∀ σ' H', J σ' H' → D.nx σ' H') : tIfS t tu tNext D σ H :=
  s_when h (fun hb H1 e => h1 hb H1 e _ k) (fun hb H1 e => k _ _ (h2 hb H1 e))
theorem en_sortD {r : Addr} {rn : List Str} {g : Str → V} (h : Ev te σ H (.ref r)) (hd : Rd H r (.dK (dm rn g))) (hz : rn.length < 64) : EvN (tCB (fun xs H Q => ∃ (a : Addr) (kvs : List (Key × V)) (ks : List Str), xs = [.ref a] ∧ Rd H a (.dK kvs) ∧ kvs.map (·.1) = ks.map Sum.inr ∧ ks.length < 64 ∧ ∀ ys p, ys.Perm ks → sortedS ys = true → H p = none → Q (.ref p) (upd H p (.lst (ys.map V.str)))) (tCons te tNil)) σ H (fun p H' => ∃ ys : List Str, H' p = some (.lst (ys.map V.str)) ∧ ys.Perm rn ∧ sortedS ys = true) := fun H1 e Q q =>
  h H1 e _ fun H2 e2 => ⟨r, _, rn, rfl, ex_rd (e.trans e2) hd, dm_fst _ _, hz, fun ys p h1 h2 hp => q p _ (fresh_back e2 hp) (e2.trans (Ex.new hp)) ⟨ys, upd_same, h1, h2⟩⟩
theorem ei_tup {tl : TE} {a : Addr} {xs : List V} (h : Ev tl σ H (.ref a)) (hx : H a = some (.tup xs)) : EvI (iTup K tl) σ H xs := fun H1 e R q => h H1 e _ fun H2 e2 =>
  ⟨a, rfl, ⟨xs, st_of ((e.trans e2) _ _ hx)⟩, q _ (fun H => SqT K H a xs) H2 e2 (st_of ((e.trans e2) _ _ hx)) (fun _ _ e h => ex_t e h) walk_tup⟩
/-- d[k] = a new thing -/
theorem s_dputU {d : Addr} {ns : List Str} {g : Str → V} {m : Str} {xs : List V} (hd : H d = some (.dK (dm ns g))) (h1 : Ev td σ H (.ref d)) (h2 : Ev ty σ H (.str m)) (h3 : EvU tv σ H xs) (hl : ns.length < 100000) (k : ∀ p H1, H p = none → Ex H H1 → H1 p = some (.tup xs) → D.nx σ (upd H1 d (.dK (putK (dm ns g) (Sum.inr m) (.ref p))))) : sDPut td ty tv D σ H :=
  h3 H (Ex.refl _) _ fun p H1 hp e1 hx => h1 H1 e1 _ fun H2 e2 => h2 H2 (e1.trans e2) _ fun H3 e3 => ⟨d, _, rfl, DPut.k (k := Sum.inr m) (((e1.trans e2).trans e3) _ _ hd) (by rw [dm_len]; exact sz_lt hl), k p H3 hp ((e1.trans e2).trans e3) (e3 _ _ (e2 _ _ hx))⟩
end
/-- readings at r -/
def ReadAt (H : Hp) (r : Addr) (rn : List Str) (nu to : Str → Int) : Prop := ∃ A : Str → Addr, Rd H r (.dK (dm rn fun n => .ref (A n))) ∧ ∀ n ∈ rn, H (A n) = some (.tup [.int (nu n), .int (to n)])
theorem ReadAt.mono {H H' : Hp} {r : Addr} {rn : List Str} {nu to : Str → Int} (h : ReadAt H r rn nu to) (e : Ex H H') : ReadAt H' r rn nu to := by
  obtain ⟨A, h1, h2⟩ := h
  exact ⟨A, ex_rd e h1, fun n hn => e _ _ (h2 n hn)⟩
structure Rok (ss : List Stm) (rn : List Str) (nu to : Str → Int) : Prop where
  sub : ∀ n ∈ rn, n ∈ ss.map (·.n)
  nd : rn.Nodup
  ok : ∀ n ∈ rn, (0 ≤ nu n ∧ nu n ≤ 1000000) ∧ 0 ≤ to n ∧ to n ≤ 1000000
theorem Rok.len {ss : List Stm} {rn : List Str} {nu to : Str → Int} (h : Rok ss rn nu to) (hz : ss.length ≤ 60) : rn.length ≤ 60 := by
  have := MM.nodup_len h.nd h.sub
  rw [List.length_map] at this
  omega
/-- the limits that the readings leave a stream -/
def loR (rn : List Str) (nu to : Str → Int) (s : Stm) : Int := if s.n ∈ rn then max s.lo (nu s.n - to s.n) else s.lo
def hiR (rn : List Str) (nu to : Str → Int) (s : Stm) : Int := if s.n ∈ rn then min s.hi (nu s.n + to s.n) else s.hi
def LimR (ss : List Stm) (rn : List Str) (nu to lo hi : Str → Int) : Prop := ∀ s ∈ ss, lo s.n = loR rn nu to s ∧ hi s.n = hiR rn nu to s
section
variable {P : Program} {w : World} {K : PySem.W.Frag} {mg : Str → Option Value} {base : Heap} {aP aM aR : Addr}
abbrev s_check_readings : Stmt := top 36
abbrev N_check_readings : List Str := ["plant", "readings", "names", "name", "reading", "part"]
theorem sc_check_readings : FnScope N_check_readings ["plant", "readings"] (C8.fnScope s_check_readings) := C8.fnScope_by (by decide +kernel)

def sp_check_readings (aP : Addr) : Sp := fun vs H Q _ => ∃ (p r : Addr) (ks : List Str) (ss : List Stm) (rn : List Str) (nu to : Str → Int), vs = [V.ref p, V.ref r] ∧ PlantAt aP H p ks ss ∧ ss.length ≤ 60 ∧ ReadAt H r rn nu to ∧ Rok ss rn nu to ∧ ∀ H', Ex H H' → Q .non H'
theorem c_check_readings_ (T : Txt K mg aP aM aR) (D : Dn K mg "check_readings" s_check_readings ["plant", "readings"]) (c_stream_names : C8.Met P w K mg base 1 aP "stream_names" (sp_stream_names aP) []) : C8.Cal P w K mg base 2 "check_readings" (sp_check_readings aP) [] := by
  refine cal_of D sc_check_readings (fun vs H Q E h => ?_) (fun f cdv A outer s H vs Q E hr h => ?_)
  · obtain ⟨p, r, ks, ss, rn, nu, to, rfl, _⟩ := h
    rfl
  · obtain ⟨p, r, ks, ss, rn, nu, to, rfl, hp, hz, ⟨B, hd, hB⟩, hk, q⟩ := h
    have ln := hk.len hz
    refine ⟨_, (pss_cons (ps_set (i := 2) sc_check_readings.nd rfl (Or.inl rfl) (C8.pe_mt0 c_stream_names hr (by decide) (pv 0)))
      (pss_cons (ps_for PassesOwn.never rfl (pi_list (pe_callB (call_sortedD rfl) (by rfl) T.n_sorted (by decide +kernel) (pa_cons (pv 1) pa_nil))) (pg_name (i := 3) sc_check_readings.nd rfl (Or.inl rfl)) (pss_one (ps_if (pt_cmpR op_notIn_seq (pv 3) (pv 2) (by rfl)) (pss_one ps_never) pss_nil)))
      (pss_one (ps_for PassesOwn.never rfl (pi_list (pe_callB (call_sortedD rfl) (by rfl) T.n_sorted (by decide +kernel) (pa_cons (pv 1) pa_nil))) (pg_name (i := 3) sc_check_readings.nd rfl (Or.inl rfl)) (pss_cons (ps_set (i := 4) sc_check_readings.nd rfl (Or.inl rfl) (pe_dget (hu_of hr) (pv 1) (pv 3) (fun _ _ => rfl)))
      (pss_one (ps_if (PW.pt (pw_or (pt_cmpR op_ne (pe_callB call_len_seq (by rfl) T.n_len PySem.boot_len (pa_cons (pv 4) pa_nil)) pe_int (nomark _)) (pw_or1 (pt_not (pt_val (pe_callB (cr_all rfl) (by rfl) T.n_all (by decide +kernel) (pa_cons (pe_lc (own := [("part", 5)]) (g := (gName 5)) (tt := tYes) rfl sc_check_readings.nd (pi_tup (pv 4)) (blkOk_by (own := [("part", 5)]) (N := N_check_readings) (sc := C8.fnScope s_check_readings) (by decide +kernel)) (fun _ _ _ _ _ => (pg_name (i := 5) sc_check_readings.nd rfl (Or.inl rfl))) (fun _ _ _ _ _ => pts_nil) (fun _ _ _ _ _ => (pe_chain op_le op_le pe_int (pv 5) (C8.pe_gc (by rfl) T.g_MOST_FLOW)))) pa_nil))))))) (pss_one ps_never) pss_nil))))))), ?_⟩
    refine q_asgL (el_snames (ev_var rfl) hp hz) fun l H1 hl0 e1 hl => ?_
    have hd1 := ex_rd e1 hd
    refine q_forN (R := fun xs _ => ∃ ys : List Str, xs = ys.map V.str ∧ ∀ y ∈ ys, y ∈ rn) ((en_sortD (ev_var rfl) hd1 (by omega)).imp fun _ _ _ ⟨ys, h1, h2, _⟩ => ⟨_, h1, ys, rfl, fun y hy => h2.mem_iff.mp hy⟩) fun r1 xs H2 hr0 e2 hr2 ⟨ys, exs, hy⟩ => ?_
    subst exs
    refine ⟨fun i σ H' => ∃ y, σ = [some (.ref p), some (.ref r), some (.ref l), y, none, none] ∧ Ex H2 H', ⟨none, rfl, Ex.refl _⟩, fun i σ H' _ ⟨_, _, e⟩ => e _ _ hr2, fun i x σ H' hx ⟨y, hσ, e⟩ => ?_, fun σ H' ⟨y, hσ, e⟩ => ?_⟩
    · subst hσ
      rw [List.getElem?_map] at hx
      cases hi : ys[i]? with
      | none => rw [hi] at hx; cases hx
      | some z =>
        rw [hi] at hx
        have hx : V.str z = x := Option.some.inj hx
        subst hx
        have zn := hk.sub z (hy z (List.mem_of_getElem? hi))
        exact s_when (b := false) (et_is (et_test (ev_ninS (ev_var rfl) (ev_var rfl) (sq_of (e _ _ (e2 _ _ hl))))) (decide_eq_false fun c => c zn)) (fun hb => nomatch hb) fun _ H3 e3 => ⟨some (.str z), rfl, e.trans e3⟩
    · subst hσ
      have e02 := (e1.trans e2).trans e
      refine s_forN (R := fun xs _ => ∃ ys : List Str, xs = ys.map V.str ∧ ∀ y ∈ ys, y ∈ rn) ((en_sortD (ev_var rfl) (ex_rd e02 hd) (by omega)).imp fun _ _ _ ⟨ys, h1, h2, _⟩ => ⟨_, h1, ys, rfl, fun y hy => h2.mem_iff.mp hy⟩) fun r2 xs H3 hr0 e3 hr3 ⟨ys, exs, hy⟩ => ?_
      subst exs
      have e03 := e02.trans e3
      refine ⟨fun i σ H' => ∃ y z, σ = [some (.ref p), some (.ref r), some (.ref l), y, z, none] ∧ Ex H3 H', ⟨_, _, rfl, Ex.refl _⟩, fun i σ H' _ ⟨_, _, _, e⟩ => e _ _ hr3, fun i x σ H' hx ⟨y, z, hσ, e⟩ => ?_, fun σ H' ⟨_, _, _, e⟩ => q H' (e03.trans e)⟩
      subst hσ
      rw [List.getElem?_map] at hx
      cases hi : ys[i]? with
      | none => rw [hi] at hx; cases hx
      | some z =>
        rw [hi] at hx
        have hx : V.str z = x := Option.some.inj hx
        subst hx
        have zn := hy z (List.mem_of_getElem? hi)
        obtain ⟨⟨o1, o2⟩, o3, o4⟩ := hk.ok z zn
        refine q_asg (ev_dget (ev_var rfl) (ev_var rfl) (ex_rd (e03.trans e) hd) zn) fun H4 e4 => ?_
        have hb4 := ((e03.trans e).trans e4) _ _ (hB z zn)
        refine s_when (b := false) (et_is (et_or (a := false) (b := !true) (et_is (et_test (ev_neI (b := 2) (ev_lenT (ev_var rfl) hb4) ev_c)) rfl) fun _ => et_not (et_B (ev_is (ev_allN (bs := [nu z, to z].map fun i => decide (0 ≤ i) && decide (i ≤ 1000000)) (ev_isL (el_lc (ei_tup (ev_var rfl) hb4) (ys := [nu z, to z]) rfl (by show 2 ≤ 40000; decide) (fun _ => true) (fun i => .bl (decide (0 ≤ i) && decide (i ≤ 1000000))) fun i x y H' hy hz e => ?_) rfl)) ?_))) rfl) (fun hb => nomatch hb) fun _ H5 e5 => ⟨_, _, rfl, (e.trans e4).trans e5⟩
        · have : x = .int y := by
            match i, hy, hz with
            | 0, hy, hz => cases hy; cases hz; rfl
            | 1, hy, hz => cases hy; cases hz; rfl
          subst this
          exact ⟨_, fun Q q => q, rfl, et_yes, fun _ => ev_chain ev_c (ev_var rfl) ev_c⟩
        · simp [o1, o2, o3, o4]
end
end MS
set_option Elab.async false
set_option linter.all false
set_option maxRecDepth 100000
set_option maxHeartbeats 4000000
namespace MS
open PySem PySem.Spec PyProof.Rows L2 Evl
/-! ### sorted lists of texts -/
def leS (a b : Str) : Prop := ltCps b.cps.toList a.cps.toList = false
theorem leS_iff {a b : Str} : leS a b ↔ a.cps.toList ≤ b.cps.toList := by
  unfold leS
  rw [ltCps_eq]
  rw [decide_eq_false_iff_not]
  exact List.not_lt
theorem leS_trans {a b c : Str} (h1 : leS a b) (h2 : leS b c) : leS a c := leS_iff.mpr (List.le_trans (leS_iff.mp h1) (leS_iff.mp h2))
theorem leS_anti {a b : Str} (h1 : leS a b) (h2 : leS b a) : a = b := by
  have := List.le_antisymm (leS_iff.mp h1) (leS_iff.mp h2)
  cases a; cases b
  congr 1
  exact Array.toList_inj.mp this
theorem risingS_pw : ∀ (l : List Str) (p : Str), risingS p l = true → (p :: l).Pairwise leS
  | [], p, _ => List.pairwise_singleton _ _
  | x :: r, p, h => by
    have h' : (!ltCps x.cps.toList p.cps.toList && risingS x r) = true := h
    rw [Bool.and_eq_true] at h'
    have px : leS p x := by simpa [leS] using h'.1
    have ih := risingS_pw r x h'.2
    refine List.pairwise_cons.mpr ⟨fun y hy => ?_, ih⟩
    rcases List.mem_cons.mp hy with z | z
    · rw [z]; exact px
    · exact leS_trans px ((List.pairwise_cons.mp ih).1 y z)
theorem sortedS_pw : ∀ {l : List Str}, sortedS l = true → l.Pairwise leS
  | [], _ => .nil
  | x :: r, h => risingS_pw r x h
theorem pw_sortedS {l : List Str} (h : l.Pairwise leS) : sortedS l = true := sortedS_of_pairwise l h
theorem sortedS_filter {l : List Str} (f : Str → Bool) (h : sortedS l = true) : sortedS (l.filter f) = true := pw_sortedS ((sortedS_pw h).sublist List.filter_sublist)
theorem pw_perm_eq : ∀ {l1 l2 : List Str}, l1.Perm l2 → l1.Pairwise leS → l2.Pairwise leS → l1 = l2
  | [], l2, p, _, _ => (List.Perm.nil_eq p)
  | a :: r, [], p, _, _ => absurd p.length_eq (by simp)
  | a :: r, b :: r', p, h1, h2 => by
    obtain ⟨h1a, h1b⟩ := List.pairwise_cons.mp h1
    obtain ⟨h2a, h2b⟩ := List.pairwise_cons.mp h2
    have e : a = b := by
      have ma : a ∈ b :: r' := p.mem_iff.mp List.mem_cons_self
      have mb : b ∈ a :: r := p.mem_iff.mpr List.mem_cons_self
      rcases List.mem_cons.mp ma with z | z
      · exact z
      · rcases List.mem_cons.mp mb with y | y
        · exact y.symm
        · exact leS_anti (h1a b y) (h2a a z)
    subst e
    rw [pw_perm_eq (p.cons_inv) h1b h2b]
theorem sorted_eq {l1 l2 : List Str} (p : l1.Perm l2) (h1 : sortedS l1 = true) (h2 : sortedS l2 = true) : l1 = l2 := pw_perm_eq p (sortedS_pw h1) (sortedS_pw h2)
end MS
set_option Elab.async false
set_option linter.all false
set_option maxRecDepth 100000
set_option maxHeartbeats 4000000
namespace MS
open PySem PySem.Spec PyProof.Rows L2 Evl
section
variable {K : PySem.W.Frag} {σ : L2.St} {H : Hp} {ta tb tc te td ty tv : TE} {t : TT} {D : Ends} {tu tz : TS} {aP aM : Addr}
theorem ev_fldX {C a dx : Addr} {fs : List (Str × V)} {m : Str} {v : V} (h : Ev ta σ H (.ref a)) (hx : H a = some (.ins C dx fs)) (c : Cls K C) (n : NoAttr K C m) (hl : fs.lookup m = some v) : Ev (tFld K ta m) σ H v := fun H1 e Q q =>
  h H1 e _ fun H2 e2 => ⟨a, C, dx, fs, v, rfl, (e.trans e2) _ _ hx, c, n, hl, q H2 e2⟩
/-- a dict that is given back, locked for good -/
theorem s_retFroz {i : Nat} {d : Addr} {kv : List (Key × V)} (hi : σ[i]? = some (some (.ref d))) (hd : H d = some (.dK kv)) (k : ∀ o, D.rt (.ref d) (upd H d (.frz o (.dK kv)))) : tRet (tFroz (tVar i)) D σ H := ⟨_, hi, d, _, hd, trivial, k⟩
end
theorem take_new {ss : List Stm} (h : (ss.map (·.n)).Nodup) {i : Nat} {s : Stm} (hs : ss[i]? = some s) : s.n ∉ (ss.take i).map (·.n) := fun z => by
  obtain ⟨t, ht, e⟩ := List.mem_map.mp z
  obtain ⟨j, hj, et⟩ := List.mem_iff_getElem.mp ht
  rw [List.length_take] at hj
  rw [List.getElem_take] at et
  obtain ⟨hi, es⟩ := List.getElem?_eq_some_iff.mp hs
  have := (List.getElem_inj (i := j) (j := i) (h₀ := by rw [List.length_map]; omega) (h₁ := by rw [List.length_map]; exact hi) h).mp (by rw [List.getElem_map, List.getElem_map, et, es]; exact e)
  omega
theorem mf_n {m : Int} {fl la lb : Addr} : List.lookup ("number" : Str) (mFs m fl la lb) = some (.int m) := by unfold mFs; rw [List.lookup_cons_self]
theorem mf_f {m : Int} {fl la lb : Addr} : List.lookup ("flows" : Str) (mFs m fl la lb) = some (.ref fl) := by
  unfold mFs
  rw [List.lookup_cons, show (("flows" : Str) == "number") = false by decide +kernel, List.lookup_cons_self]
theorem mf_l {m : Int} {fl la lb : Addr} : List.lookup ("least" : Str) (mFs m fl la lb) = some (.ref la) := by
  unfold mFs
  rw [List.lookup_cons, show (("least" : Str) == "number") = false by decide +kernel, List.lookup_cons, show (("least" : Str) == "flows") = false by decide +kernel, List.lookup_cons_self]
theorem mf_g {m : Int} {fl la lb : Addr} : List.lookup ("greatest" : Str) (mFs m fl la lb) = some (.ref lb) := by
  unfold mFs
  rw [List.lookup_cons, show (("greatest" : Str) == "number") = false by decide +kernel, List.lookup_cons, show (("greatest" : Str) == "flows") = false by decide +kernel, List.lookup_cons, show (("greatest" : Str) == "least") = false by decide +kernel, List.lookup_cons_self]
section
variable {P : Program} {w : World} {K : PySem.W.Frag} {mg : Str → Option Value} {base : Heap} {aP aM aR : Addr}
/-- limits found for the first i streams -/
def LimsTo (H : Hp) (fo : Addr) (ss : List Stm) (lo hi : Str → Int) : Prop := ∃ A : Str → Addr, H fo = some (.dK (dm (ss.map (·.n)) fun n => .ref (A n))) ∧ ∀ s ∈ ss, H (A s.n) = some (.tup [.int (lo s.n), .int (hi s.n)])
theorem LimsTo.put {H H1 : Hp} {fo p : Addr} {ss : List Stm} {s : Stm} {lo hi : Str → Int} (h : LimsTo H fo ss lo hi) (e : Ex H H1) (hp : H p = none) (h1 : H1 p = some (.tup [.int (lo s.n), .int (hi s.n)])) (hn : s.n ∉ ss.map (·.n)) :
    ∀ A : Str → Addr, H fo = some (.dK (dm (ss.map (·.n)) fun n => .ref (A n))) → LimsTo (upd H1 fo (.dK (putK (dm (ss.map (·.n)) fun n => .ref (A n)) (Sum.inr s.n) (.ref p)))) fo (ss ++ [s]) lo hi := fun A hA => by
  obtain ⟨B, b1, b2⟩ := h
  have hAB : ∀ n ∈ ss.map (·.n), A n = B n := fun n hn => by
    rw [hA] at b1
    have e1 : (dm (ss.map (·.n)) fun n => V.ref (A n)) = dm (ss.map (·.n)) fun n => V.ref (B n) := HO.dK.inj (Option.some.inj b1)
    have h1 := valV_dm (ss.map (·.n)) (fun n => V.ref (A n)) n
    rw [e1, valV_dm, if_pos hn, if_pos hn] at h1
    exact (V.ref.inj (Option.some.inj h1)).symm
  refine ⟨fun n => if n = s.n then p else A n, ?_, fun x hx => ?_⟩
  · rw [upd_same, putK_dm_new hn, List.map_append]
    congr 2
    exact dm_congr fun n _ => by
      by_cases c : n = s.n <;> simp [c]
  · rcases List.mem_append.mp hx with z | z
    · have xm : x.n ∈ ss.map (·.n) := List.mem_map.mpr ⟨x, z, rfl⟩
      have ne : x.n ≠ s.n := fun q => hn (q ▸ xm)
      simp only [if_neg ne]
      rw [hAB _ xm, upd_ne (fun q => by have := b2 x z; rw [q, b1] at this; cases this)]
      exact e _ _ (b2 x z)
    · rw [List.mem_singleton.mp z]
      simp only [if_true]
      rw [upd_ne (fun q => by rw [q, e _ _ b1] at h1; cases h1)]
      exact h1
abbrev s_limits_of : Stmt := top 37
abbrev N_limits_of : List Str := ["plant", "readings", "found", "name", "_", "low", "high", "number", "tolerance"]
theorem sc_limits_of : FnScope N_limits_of ["plant", "readings"] (C8.fnScope s_limits_of) := C8.fnScope_by (by decide +kernel)

def sp_limits_of (aP : Addr) : Sp := fun vs H Q _ => ∃ (p r : Addr) (ks : List Str) (ss : List Stm) (rn : List Str) (nu to lo hi : Str → Int), vs = [V.ref p, V.ref r] ∧ PlantAt aP H p ks ss ∧ Wf ks ss ∧ ReadAt H r rn nu to ∧ Rok ss rn nu to ∧ LimR ss rn nu to lo hi ∧
  ∀ q H', H q = none → Ex H H' → LimAt H' q (ss.map (·.n)) lo hi → Q (.ref q) H'
theorem c_limits_of_ (T : Txt K mg aP aM aR) (D : Dn K mg "limits_of" s_limits_of ["plant", "readings"]) (c_streams : Prp P w K mg base 1 aP "streams" (sp_streams aP)) (c_check_readings : C8.Cal P w K mg base 2 "check_readings" (sp_check_readings aP) []) : C8.Cal P w K mg base 3 "limits_of" (sp_limits_of aP) [] := by
  refine cal_of D sc_limits_of (fun vs H Q E h => ?_) (fun f cdv A outer s H vs Q E hr h => ?_)
  · obtain ⟨p, r, ks, ss, rn, nu, to, lo, hi, rfl, _⟩ := h
    rfl
  · obtain ⟨p, r, ks, ss, rn, nu, to, lo, hi, rfl, hp, wf, hd, hk, hl, q⟩ := h
    have s1 := wf.s1
    refine ⟨_, (pss_cons (ps_expr (C8.pe_c c_check_readings hr (by decide) (by rfl) (pa_cons (pv 0) (pa_cons (pv 1) pa_nil))))
      (pss_cons (ps_set (i := 2) sc_limits_of.nd rfl (Or.inl rfl) pe_dnewK)
      (pss_cons (ps_for PassesOwn.never rfl (pi_list (pe_pr T.cP c_streams hr (by decide) (pv 0))) (pg_tup rfl (pgs_cons (pg_name (i := 3) sc_limits_of.nd rfl (Or.inl rfl)) (pgs_cons (pg_name (i := 4) sc_limits_of.nd rfl (Or.inl rfl)) (pgs_cons (pg_name (i := 4) sc_limits_of.nd rfl (Or.inl rfl)) (pgs_cons (pg_name (i := 5) sc_limits_of.nd rfl (Or.inl rfl)) (pgs_cons (pg_name (i := 6) sc_limits_of.nd rfl (Or.inl rfl)) pgs_nil)))))) (pss_cons (ps_if (pt_cmp (pc_din (hu_of hr) (pv 3) (pv 1))) (pss_cons (ps_asg (pe_dget (hu_of hr) (pv 1) (pv 3) (fun _ _ => rfl)) (pg_tup rfl (pgs_cons (pg_name (i := 7) sc_limits_of.nd rfl (Or.inl rfl)) (pgs_cons (pg_name (i := 8) sc_limits_of.nd rfl (Or.inl rfl)) pgs_nil))))
      (pss_cons (ps_set (i := 5) sc_limits_of.nd rfl (Or.inl rfl) (pe_callB (call_max2 rfl) (by rfl) T.n_max (by decide +kernel) (pa_cons (pv 5) (pa_cons (pe_op op_sub (pv 7) (pv 8)) pa_nil))))
      (pss_one (ps_set (i := 6) sc_limits_of.nd rfl (Or.inl rfl) (pe_callB (call_min2 rfl) (by rfl) T.n_min (by decide +kernel) (pa_cons (pv 6) (pa_cons (pe_op op_add (pv 7) (pv 8)) pa_nil))))))) pss_nil)
      (pss_one (ps_dput (hu_of hr) (pv 2) (pv 3) (pe_tup (pa_cons (pv 5) (pa_cons (pv 6) pa_nil))) rfl))))
      (pss_one (ps_ret (pe_froz (pv 2))))))), ?_⟩
    refine q_drop (v := .non) (ev_call (ea_cons (ev_var rfl) (ea_cons (ev_var rfl) ea_nil)) fun H1 e Q q E => ⟨p, r, ks, ss, rn, nu, to, rfl, hp.mono e, wf.s1, hd.mono e, hk, q⟩) fun H1 e1 => ?_
    refine q_asgN en_dnewK fun fo H2 hf0 e2 hf => ?_
    have f0 : H fo = none := fresh_back e1 hf0
    have e02 := e1.trans e2
    refine q_forN (R := fun xs H' => ∃ as : List Addr, xs = as.map V.ref ∧ Tups H' as (ss.map tupS)) ((en_streams (ev_var rfl) (hp.mono e02)).imp fun l H' _ ⟨as, h1, h2⟩ => ⟨_, h1, as, rfl, h2⟩) fun l xs H3 hl0 e3 hl3 ⟨as, exs, ht⟩ => ?_
    subst exs
    have nlf : l ≠ fo := ne_none hf hl0
    have f3 := e3 _ _ hf
    refine ⟨fun i σ H' => ∃ a b c x y z, σ = [some (.ref p), some (.ref r), some (.ref fo), a, b, c, x, y, z] ∧ ExD fo H3 H' ∧ LimsTo H' fo (ss.take i) lo hi, ⟨_, _, _, _, _, _, rfl, ExD.refl, fun _ => fo, f3, fun s hs => (nomatch hs)⟩, fun i σ H' _ ⟨_, _, _, _, _, _, _, e, _⟩ => e _ _ nlf hl3, fun i x σ H' hx h => ?_, fun σ H' h => ?_⟩
    · obtain ⟨a, b, c, x', y, z, rfl, e, L⟩ := h
      obtain ⟨adr, s, rfl, _, hs, ha⟩ := ht.el hx
      have nadr : adr ≠ fo := fun z => by rw [z, f3] at ha; cases ha
      have eH : Ex H H' := ExD.ex (e02.trans e3) f0 e
      have sm := List.mem_of_getElem? hs
      obtain ⟨l1, l2⟩ := hl s sm
      refine g5 (e _ _ nadr ha) ?_
      obtain ⟨B, hB, hB'⟩ := hd.mono eH
      refine q_ifJ (J := fun σ' H1 => ∃ u v, σ' = [some (.ref p), some (.ref r), some (.ref fo), some (.str s.n), some (.str s.h), some (.int (lo s.n)), some (.int (hi s.n)), u, v] ∧ Ex H' H1) (b := decide (s.n ∈ rn)) (et_B (ev_din (ev_var rfl) (ev_var rfl) hB)) (fun hb H4 e4 D' k => ?_) (fun hb H4 e4 => ?_) (fun σ4 H4 h4 => ?_)
      · have sr := of_decide_eq_true hb
        have hb4 := e4 _ _ (hB' _ sr)
        refine q_tgt (ev_dget (ev_var rfl) (ev_var rfl) (ex_rd e4 hB) sr) fun H5 e5 => g2 (e5 _ _ hb4) ?_
        refine q_asg (ev_max2 (i := s.lo) (j := nu s.n - to s.n) (ev_var rfl) (ev_sub (ev_var rfl) (ev_var rfl))) fun H6 e6 => ?_
        refine s_asg (ev_min2 (i := s.hi) (j := nu s.n + to s.n) (ev_var rfl) (ev_add (ev_var rfl) (ev_var rfl))) fun H7 e7 => k _ _ ⟨some (.int (nu s.n)), some (.int (to s.n)), ?_, ((e4.trans e5).trans e6).trans e7⟩
        rw [l1, l2]
        unfold loR hiR
        rw [if_pos sr, if_pos sr]
        have m1 : (if nu s.n - to s.n > s.lo then nu s.n - to s.n else s.lo) = max s.lo (nu s.n - to s.n) := by split <;> omega
        have m2 : (if nu s.n + to s.n < s.hi then nu s.n + to s.n else s.hi) = min s.hi (nu s.n + to s.n) := by split <;> omega
        rw [← m1, ← m2]
        rfl
      · have sr := of_decide_eq_false hb
        refine ⟨y, z, ?_, e4⟩
        rw [l1, l2]
        unfold loR hiR
        rw [if_neg sr, if_neg sr]
        rfl
      · obtain ⟨u, v, rfl, e4⟩ := h4
        obtain ⟨A, hA, hA'⟩ := id L
        refine s_dputU (e4 _ _ hA) (ev_var rfl) (ev_var rfl) (eu_2 (ev_var rfl) (ev_var rfl)) (by rw [List.length_map, List.length_take]; omega) fun pn H5 hp5 e5 h5 => ⟨_, _, _, _, _, _, rfl, (e.trans (ExD.of_ex (e4.trans e5))).trans ExD.upd, ?_⟩
        have et : ss.take (i + 1) = ss.take i ++ [s] := by rw [List.take_add_one, hs]; rfl
        rw [et]
        exact L.put (e4.trans e5) (fresh_back e4 hp5) h5 (take_new wf.sn hs) A hA
    · obtain ⟨a, b, c, x', y, z, rfl, e, L⟩ := h
      rw [List.length_map, ht.ln, List.take_length] at L
      obtain ⟨A, hA, hA'⟩ := L
      refine s_retFroz rfl hA fun o => q fo _ f0 ((ExD.ex (e02.trans e3) f0 e).mut f0) ⟨o, A, upd_same, fun n hn => ?_⟩
      obtain ⟨s, hs, rfl⟩ := List.mem_map.mp hn
      rw [upd_ne (fun q => by have := hA' s hs; rw [q, hA] at this; cases this)]
      exact hA' s hs
end
end MS
set_option Elab.async false
set_option linter.all false
set_option maxRecDepth 100000
set_option maxHeartbeats 4000000
namespace MS
open PySem PySem.Spec PyProof.Rows L2 Evl
/-- flows within the limits that balance -/
def Good (ks : List Str) (ss : List Stm) (lo hi F : Str → Int) : Prop := MM.Within (lns ss) lo hi F ∧ ∀ v ∈ ks, MM.net (lns ss) F v = 0
/-- there are none -/
def Bad (ks : List Str) (ss : List Stm) (lo hi : Str → Int) : Prop := (∃ n ∈ ss.map (·.n), hi n < lo n) ∨ ∃ (m : Int) (F : Str → Int) (lst grt : List Str), MM.LM ks (lns ss) lo hi m F lst grt ∧ 0 < m
theorem Bad.not {ks : List Str} {ss : List Stm} {lo hi F : Str → Int} (wf : Wf ks ss) (b : Bad ks ss lo hi) (g : Good ks ss lo hi F) : False := by
  rcases b with ⟨n, hn, h⟩ | ⟨m, F', lst, grt, L, hm⟩
  · obtain ⟨s, hs, rfl⟩ := List.mem_map.mp hn
    have := g.1 (ln s) (List.mem_map.mpr ⟨s, hs, rfl⟩)
    have : lo s.n ≤ F s.n ∧ F s.n ≤ hi s.n := this
    omega
  · have h1 := L.l1
    have h2 := MM.lack_le_flux g.1 (fun v => decide (v ∈ lst))
    have h3 := MM.flux_le_missing wf.kn (wf_he wf) F (fun v => decide (v ∈ lst))
    have h4 : MM.missing ks (lns ss) F = 0 := by
      unfold MM.missing
      rw [MM.sm_congr (g := fun _ => 0) (fun v hv => by rw [g.2 v hv]; rfl), MM.sm_zero]
    omega
theorem good_of {ks : List Str} {ss : List Stm} {lo hi F : Str → Int} {m : Int} {lst grt : List Str} (wf : Wf ks ss) (L : MM.LM ks (lns ss) lo hi m F lst grt) (h : m ≤ 0) : Good ks ss lo hi F := by
  have := L.ms
  have n0 := MM.missing_nonneg ks (lns ss) F
  exact ⟨L.w, MM.missing_zero wf.kn (wf_he wf) (by omega)⟩
def FlowsR (ks : List Str) (ss : List Stm) (lo hi : Str → Int) (ns : List Str) (v : V) (H' : Hp) : Prop := (v = .non ∧ Bad ks ss lo hi) ∨ ∃ (fl : Addr) (F : Str → Int), v = .ref fl ∧ H' fl = some (.dK (fd ns F)) ∧ Good ks ss lo hi F
def PaperR (ks : List Str) (ss : List Stm) (lo hi : Str → Int) (v : V) (H' : Hp) : Prop := (v = .non ∧ ∃ F, Good ks ss lo hi F) ∨ (∃ (q : Addr) (n : Str), v = .ref q ∧ H' q = some (.tup [.str "stream", .str n]) ∧ n ∈ ss.map (·.n) ∧ hi n < lo n) ∨
  ∃ (q l : Addr) (lst : List Str), v = .ref q ∧ H' q = some (.tup [.str "lot", .ref l]) ∧ H' l = some (.lst (lst.map V.str)) ∧ sortedS lst = true ∧ lst.Nodup ∧ lst.length ≤ 24 ∧ (∀ v ∈ lst, v ∈ ks) ∧ 0 < MM.lack (lns ss) lo hi (fun v => decide (v ∈ lst)) ∧ Bad ks ss lo hi
theorem FlowsR.mono {ks : List Str} {ss : List Stm} {lo hi : Str → Int} {ns : List Str} {v : V} {H H' : Hp} (h : FlowsR ks ss lo hi ns v H) (e : Ex H H') : FlowsR ks ss lo hi ns v H' := by
  rcases h with h | ⟨fl, F, h1, h2, h3⟩
  · exact .inl h
  · exact .inr ⟨fl, F, h1, e _ _ h2, h3⟩
theorem PaperR.mono {ks : List Str} {ss : List Stm} {lo hi : Str → Int} {v : V} {H H' : Hp} (h : PaperR ks ss lo hi v H) (e : Ex H H') : PaperR ks ss lo hi v H' := by
  rcases h with h | ⟨q, n, h1, h2, h3⟩ | ⟨q, l, lst, h1, h2, h3, h4⟩
  · exact .inl h
  · exact .inr (.inl ⟨q, n, h1, e _ _ h2, h3⟩)
  · exact .inr (.inr ⟨q, l, lst, h1, e _ _ h2, e _ _ h3, h4⟩)
def LeastR (aM : Addr) (ks : List Str) (ss : List Stm) (lo hi : Str → Int) (ns : List Str) (v : V) (H' : Hp) : Prop := (v = .non ∧ ∃ n ∈ ss.map (·.n), hi n < lo n) ∨ ∃ (q : Addr) (m : Int) (F : Str → Int) (lst grt : List Str), v = .ref q ∧ MissAt aM H' q m ns F lst grt ∧ MM.LM ks (lns ss) lo hi m F lst grt
/-- what a plant with limits is asked -/
structure PL (aP : Addr) (H : Hp) (p d : Addr) (ks : List Str) (ss : List Stm) (ns : List Str) (lo hi : Str → Int) : Prop where
  p : PlantAt aP H p ks ss
  wf : Wf ks ss
  d : LimAt H d ns lo hi
  k : Keys ns ss
theorem PL.mono {aP : Addr} {H H' : Hp} {p d : Addr} {ks : List Str} {ss : List Stm} {ns : List Str} {lo hi : Str → Int} (h : PL aP H p d ks ss ns lo hi) (e : Ex H H') : PL aP H' p d ks ss ns lo hi := ⟨h.p.mono e, h.wf, h.d.mono e, h.k⟩
/-- .. with readings -/
structure PR (aP : Addr) (H : Hp) (p r : Addr) (ks : List Str) (ss : List Stm) (rn : List Str) (nu to lo hi : Str → Int) : Prop where
  p : PlantAt aP H p ks ss
  wf : Wf ks ss
  r : ReadAt H r rn nu to
  k : Rok ss rn nu to
  l : LimR ss rn nu to lo hi
theorem PR.mono {aP : Addr} {H H' : Hp} {p r : Addr} {ks : List Str} {ss : List Stm} {rn : List Str} {nu to lo hi : Str → Int} (h : PR aP H p r ks ss rn nu to lo hi) (e : Ex H H') : PR aP H' p r ks ss rn nu to lo hi := ⟨h.p.mono e, h.wf, h.r.mono e, h.k, h.l⟩
theorem keys_self {ks : List Str} {ss : List Stm} (wf : Wf ks ss) : Keys (ss.map (·.n)) ss := ⟨wf.sn, fun n => Iff.rfl⟩
section
variable {K : PySem.W.Frag} {σ : L2.St} {H : Hp} {ta tb tc te td ty tv : TE} {t : TT} {D : Ends} {tu tz : TS} {aP aM : Addr}
theorem ep_least {E : XK} {tA : TA} {p d : Addr} {ks : List Str} {ss : List Stm} {ns : List Str} {lo hi : Str → Int} (h : EvA tA σ H [.ref p, .ref d]) (a : PL aP H p d ks ss ns lo hi) : EvP (tCall (sp_least_missing aP aM) [] E tA) σ H (LeastR aM ks ss lo hi ns) :=
  ev_callX h fun H1 e Q q E => ⟨p, d, ks, ss, ns, lo, hi, rfl, (a.mono e).p, a.wf, (a.mono e).d, a.k, fun n hn hl H2 e2 => q _ H2 e2 (.inl ⟨rfl, n, hn, hl⟩), fun q' H2 m F lst grt _ e2 hm hl => q _ H2 e2 (.inr ⟨q', m, F, lst, grt, rfl, hm, hl⟩)⟩
theorem ep_lim2 {sp : Sp} {E : XK} {p : Addr} {ns : List Str} {lo hi : Str → Int} {Pv : V → Hp → Prop} (h0 : Ev ta σ H (.ref p)) (h1 : EvN tb σ H (fun d H' => LimAt H' d ns lo hi)) (hs : ∀ d H1, Ex H H1 → LimAt H1 d ns lo hi → ∀ Q : VK, (∀ v H2, Ex H1 H2 → Pv v H2 → Q v H2) → ∀ E, sp [.ref p, .ref d] H1 Q E) : EvP (tCall sp [] E (tCons ta (tCons tb tNil))) σ H Pv := fun H1 e Q q =>
  h0 H1 e _ fun H2 e2 => h1 H2 (e.trans e2) _ fun d H3 _ e3 hd => hs d H3 ((e.trans e2).trans e3) hd Q (fun v H4 e4 hv => q v H4 ((e2.trans e3).trans e4) hv) E
theorem ep_lim3 {sp : Sp} {E : XK} {p : Addr} {x : V} {ns : List Str} {lo hi : Str → Int} {Pv : V → Hp → Prop} (h0 : Ev ta σ H (.ref p)) (h1 : EvN tb σ H (fun d H' => LimAt H' d ns lo hi)) (h2 : Ev tc σ H x) (hs : ∀ d H1, Ex H H1 → LimAt H1 d ns lo hi → ∀ Q : VK, (∀ v H2, Ex H1 H2 → Pv v H2 → Q v H2) → ∀ E, sp [.ref p, .ref d, x] H1 Q E) : EvP (tCall sp [] E (tCons ta (tCons tb (tCons tc tNil)))) σ H Pv := fun H1 e Q q =>
  h0 H1 e _ fun H2 e2 => h1 H2 (e.trans e2) _ fun d H3 _ e3 hd => h2 H3 ((e.trans e2).trans e3) _ fun H4 e4 => hs d H4 (((e.trans e2).trans e3).trans e4) (hd.mono e4) Q (fun v H5 e5 hv => q v H5 (((e2.trans e3).trans e4).trans e5) hv) E
theorem en_limits {E : XK} {tA : TA} {p r : Addr} {ks : List Str} {ss : List Stm} {rn : List Str} {nu to lo hi : Str → Int} (h : EvA tA σ H [.ref p, .ref r]) (a : PR aP H p r ks ss rn nu to lo hi) : EvN (tCall (sp_limits_of aP) [] E tA) σ H (fun q H' => LimAt H' q (ss.map (·.n)) lo hi) := fun H1 e Q q =>
  h H1 e _ fun H2 e2 => ⟨p, r, ks, ss, rn, nu, to, lo, hi, rfl, a.p.mono (e.trans e2), a.wf, a.r.mono (e.trans e2), a.k, a.l, fun q' H' hq' e' h' => q q' H' (fresh_back e2 hq') (e2.trans e') h'⟩
end
section
variable {P : Program} {w : World} {K : PySem.W.Frag} {mg : Str → Option Value} {base : Heap} {aP aM aR : Addr}
abbrev s_flows_within : Stmt := top 41
abbrev N_flows_within : List Str := ["plant", "limits", "found"]
theorem sc_flows_within : FnScope N_flows_within ["plant", "limits"] (C8.fnScope s_flows_within) := C8.fnScope_by (by decide +kernel)

def sp_flows_within (aP : Addr) : Sp := fun vs H Q _ => ∃ (p d : Addr) (ks : List Str) (ss : List Stm) (ns : List Str) (lo hi : Str → Int), vs = [V.ref p, V.ref d] ∧ PL aP H p d ks ss ns lo hi ∧ ∀ v H', Ex H H' → FlowsR ks ss lo hi ns v H' → Q v H'
theorem c_flows_within_ (T : Txt K mg aP aM aR) (D : Dn K mg "flows_within" s_flows_within ["plant", "limits"]) (c_least_missing : C8.Cal P w K mg base 6 "least_missing" (sp_least_missing aP aM) []) : C8.Cal P w K mg base 7 "flows_within" (sp_flows_within aP) [] := by
  refine cal_of D sc_flows_within (fun vs H Q E h => ?_) (fun f cdv A outer s H vs Q E hr h => ?_)
  · obtain ⟨p, d, ks, ss, ns, lo, hi, rfl, _⟩ := h
    rfl
  · obtain ⟨p, d, ks, ss, ns, lo, hi, rfl, a, q⟩ := h
    refine ⟨_, (pss_cons (ps_set (i := 2) sc_flows_within.nd rfl (Or.inl rfl) (C8.pe_c c_least_missing hr (by decide) (by rfl) (pa_cons (pv 0) (pa_cons (pv 1) pa_nil))))
      (pss_cons (ps_if (PW.pt (pw_or (pt_cmp (pc_isN (pv 2)) rfl) (pw_or1 (pt_cmpR op_gt (pe_fld (pv 2) rfl) pe_int (nomark _))))) (pss_one (ps_ret pe_non)) pss_nil)
      (pss_one (ps_ret (pe_fld (pv 2) rfl))))), ?_⟩
    refine q_asgP (ep_least (ea_cons (ev_var rfl) (ea_cons (ev_var rfl) ea_nil)) a) fun v H1 e1 hv => ?_
    rcases hv with ⟨rfl, n, hn, hl⟩ | ⟨x, m, F, lst, grt, rfl, ⟨dx, fl, la, lb, hx, hf, h1, h2⟩, L⟩
    · refine q_when (b := true || false) (et_or (a := true) (b := false) (et_is (et_B (ev_isN (x := .non) (ev_var rfl))) (by simp)) fun h => nomatch h) (fun _ H2 e2 => ?_) (fun hb => nomatch hb)
      exact s_ret ev_c fun H3 e3 => q _ H3 ((e1.trans e2).trans e3) (.inl ⟨rfl, .inl ⟨n, hn, hl⟩⟩)
    · refine q_when (b := false || decide (0 < m)) (et_or (a := false) (b := decide (0 < m)) (et_is (et_B (ev_isN (x := .ref x) (ev_var rfl))) (by simp)) fun _ => et_cmp (f := fun i j => decide (j < i)) (i := m) (j := 0) (ev_fldX (ev_var rfl) hx T.cM T.m_n mf_n) ev_c) (fun hb H2 e2 => ?_) (fun hb H2 e2 => ?_)
      · rw [Bool.false_or] at hb
        exact s_ret ev_c fun H3 e3 => q _ H3 ((e1.trans e2).trans e3) (.inl ⟨rfl, .inr ⟨m, F, lst, grt, L, of_decide_eq_true hb⟩⟩)
      · rw [Bool.false_or] at hb
        exact s_ret (ev_fldX (ev_var rfl) (e2 _ _ hx) T.cM T.m_f mf_f) fun H3 e3 => q _ H3 ((e1.trans e2).trans e3) (.inr ⟨fl, F, rfl, (e2.trans e3) _ _ hf, good_of a.wf L (by have := of_decide_eq_false hb; omega)⟩)
abbrev s_paper_within : Stmt := top 42
abbrev N_paper_within : List Str := ["plant", "limits", "name", "found"]
theorem sc_paper_within : FnScope N_paper_within ["plant", "limits"] (C8.fnScope s_paper_within) := C8.fnScope_by (by decide +kernel)

def sp_paper_within (aP : Addr) : Sp := fun vs H Q _ => ∃ (p d : Addr) (ks : List Str) (ss : List Stm) (ns : List Str) (lo hi : Str → Int), vs = [V.ref p, V.ref d] ∧ PL aP H p d ks ss ns lo hi ∧ ∀ v H', Ex H H' → PaperR ks ss lo hi v H' → Q v H'
theorem c_paper_within_ (T : Txt K mg aP aM aR) (D : Dn K mg "paper_within" s_paper_within ["plant", "limits"]) (c_crossed : C8.Cal P w K mg base 5 "crossed" (sp_crossed aP) []) (c_least_missing : C8.Cal P w K mg base 6 "least_missing" (sp_least_missing aP aM) []) : C8.Cal P w K mg base 7 "paper_within" (sp_paper_within aP) [] := by
  refine cal_of D sc_paper_within (fun vs H Q E h => ?_) (fun f cdv A outer s H vs Q E hr h => ?_)
  · obtain ⟨p, d, ks, ss, ns, lo, hi, rfl, _⟩ := h
    rfl
  · obtain ⟨p, d, ks, ss, ns, lo, hi, rfl, a, q⟩ := h
    refine ⟨_, (pss_cons (ps_set (i := 2) sc_paper_within.nd rfl (Or.inl rfl) (C8.pe_c c_crossed hr (by decide) (by rfl) (pa_cons (pv 0) (pa_cons (pv 1) pa_nil))))
      (pss_cons (ps_if (pt_cmp (pc_notN (pv 2)) rfl) (pss_one (ps_ret (pe_tup (pa_cons (C8.pe_gc (by rfl) T.g_STREAM) (pa_cons (pv 2) pa_nil))))) pss_nil)
      (pss_cons (ps_set (i := 3) sc_paper_within.nd rfl (Or.inl rfl) (C8.pe_c c_least_missing hr (by decide) (by rfl) (pa_cons (pv 0) (pa_cons (pv 1) pa_nil))))
      (pss_cons (ps_if (pt_cmpR op_eq (pe_fld (pv 3) rfl) pe_int (nomark _)) (pss_one (ps_ret pe_non)) pss_nil)
      (pss_one (ps_ret (pe_tup (pa_cons (C8.pe_gc (by rfl) T.g_LOT) (pa_cons (pe_fld (pv 3) rfl) pa_nil))))))))), ?_⟩
    refine q_asgP (ep_cross (ea_cons (ev_var rfl) (ea_cons (ev_var rfl) ea_nil)) a.p a.wf a.d a.k) fun v H1 e1 hv => ?_
    rcases hv with ⟨n, hn, rfl, hl⟩ | ⟨rfl, hle⟩
    · refine q_when (b := true) (et_is (et_B (ev_notN (x := .str n) (ev_var rfl))) (by simp)) (fun _ H2 e2 => ?_) (fun hb => nomatch hb)
      exact s_retU (eu_2 ev_c (ev_var rfl)) fun r H3 _ e3 h3 => q _ H3 ((e1.trans e2).trans e3) (.inr (.inl ⟨r, n, rfl, h3, hn, hl⟩))
    · refine q_when (b := false) (et_is (et_B (ev_notN (x := .non) (ev_var rfl))) (by simp)) (fun hb => nomatch hb) (fun _ H2 e2 => ?_)
      refine q_asgP (ep_least (ea_cons (ev_var rfl) (ea_cons (ev_var rfl) ea_nil)) (a.mono (e1.trans e2))) fun v H3 e3 hv => ?_
      rcases hv with ⟨rfl, n, hn, hl⟩ | ⟨x, m, F, lst, grt, rfl, ⟨dx, fl, la, lb, hx, hf, h1, h2⟩, L⟩
      · obtain ⟨s, hs, rfl⟩ := List.mem_map.mp hn
        have := hle s hs
        omega
      · have mn : 0 ≤ m := by rw [L.ms]; exact MM.missing_nonneg _ _ _
        refine q_when (b := decide (m = 0)) (et_test (ev_eqI (ev_fldX (ev_var rfl) hx T.cM T.m_n mf_n) ev_c)) (fun hb H4 e4 => ?_) (fun hb H4 e4 => ?_)
        · have := of_decide_eq_true hb
          exact s_ret ev_c fun H5 e5 => q _ H5 ((((e1.trans e2).trans e3).trans e4).trans e5) (.inl ⟨rfl, F, good_of a.wf L (by omega)⟩)
        · have := of_decide_eq_false hb
          refine s_retU (eu_2 ev_c (ev_fldX (ev_var rfl) (e4 _ _ hx) T.cM T.m_l mf_l)) fun r H5 _ e5 h5 => q _ H5 ((((e1.trans e2).trans e3).trans e4).trans e5) (.inr (.inr ⟨r, la, lst, rfl, h5, (e4.trans e5) _ _ h1, ?_, ?_, ?_, fun v hv => MM.mem_filter_self L.fl hv, by rw [L.l1]; omega, .inr ⟨m, F, lst, grt, L, by omega⟩⟩))
          · rw [L.fl]; exact sortedS_filter _ a.wf.srt
          · rw [L.fl]; exact a.wf.kn.filter _
          · rw [L.fl]
            have := List.length_filter_le (fun v => decide (v ∈ lst)) ks
            have := a.wf.k2
            omega
abbrev s_flows_of : Stmt := top 43
abbrev N_flows_of : List Str := ["plant", "readings"]
theorem sc_flows_of : FnScope N_flows_of ["plant", "readings"] (C8.fnScope s_flows_of) := C8.fnScope_by (by decide +kernel)

def sp_flows_of (aP : Addr) : Sp := fun vs H Q _ => ∃ (p r : Addr) (ks : List Str) (ss : List Stm) (rn : List Str) (nu to lo hi : Str → Int), vs = [V.ref p, V.ref r] ∧ PR aP H p r ks ss rn nu to lo hi ∧ ∀ v H', Ex H H' → FlowsR ks ss lo hi (ss.map (·.n)) v H' → Q v H'
theorem c_flows_of_ (T : Txt K mg aP aM aR) (D : Dn K mg "flows_of" s_flows_of ["plant", "readings"]) (c_limits_of : C8.Cal P w K mg base 3 "limits_of" (sp_limits_of aP) []) (c_flows_within : C8.Cal P w K mg base 7 "flows_within" (sp_flows_within aP) []) : C8.Cal P w K mg base 8 "flows_of" (sp_flows_of aP) [] := by
  refine cal_of D sc_flows_of (fun vs H Q E h => ?_) (fun f cdv A outer s H vs Q E hr h => ?_)
  · obtain ⟨p, r, ks, ss, rn, nu, to, lo, hi, rfl, _⟩ := h
    rfl
  · obtain ⟨p, r, ks, ss, rn, nu, to, lo, hi, rfl, a, q⟩ := h
    refine ⟨_, (pss_one (ps_ret (C8.pe_c c_flows_within hr (by decide) (by rfl) (pa_cons (pv 0) (pa_cons (C8.pe_c c_limits_of hr (by decide) (by rfl) (pa_cons (pv 0) (pa_cons (pv 1) pa_nil))) pa_nil))))), ?_⟩
    exact s_retP (ep_lim2 (Pv := FlowsR ks ss lo hi (ss.map (·.n))) (ev_var rfl) (en_limits (ea_cons (ev_var rfl) (ea_cons (ev_var rfl) ea_nil)) a) fun d H1 e1 hd Q q E => ⟨p, d, ks, ss, ss.map (·.n), lo, hi, rfl, ⟨a.p.mono e1, a.wf, hd, keys_self a.wf⟩, q⟩) q
abbrev s_paper_of : Stmt := top 44
abbrev N_paper_of : List Str := ["plant", "readings"]
theorem sc_paper_of : FnScope N_paper_of ["plant", "readings"] (C8.fnScope s_paper_of) := C8.fnScope_by (by decide +kernel)

def sp_paper_of (aP : Addr) : Sp := fun vs H Q _ => ∃ (p r : Addr) (ks : List Str) (ss : List Stm) (rn : List Str) (nu to lo hi : Str → Int), vs = [V.ref p, V.ref r] ∧ PR aP H p r ks ss rn nu to lo hi ∧ ∀ v H', Ex H H' → PaperR ks ss lo hi v H' → Q v H'
theorem c_paper_of_ (T : Txt K mg aP aM aR) (D : Dn K mg "paper_of" s_paper_of ["plant", "readings"]) (c_limits_of : C8.Cal P w K mg base 3 "limits_of" (sp_limits_of aP) []) (c_paper_within : C8.Cal P w K mg base 7 "paper_within" (sp_paper_within aP) []) : C8.Cal P w K mg base 8 "paper_of" (sp_paper_of aP) [] := by
  refine cal_of D sc_paper_of (fun vs H Q E h => ?_) (fun f cdv A outer s H vs Q E hr h => ?_)
  · obtain ⟨p, r, ks, ss, rn, nu, to, lo, hi, rfl, _⟩ := h
    rfl
  · obtain ⟨p, r, ks, ss, rn, nu, to, lo, hi, rfl, a, q⟩ := h
    refine ⟨_, (pss_one (ps_ret (C8.pe_c c_paper_within hr (by decide) (by rfl) (pa_cons (pv 0) (pa_cons (C8.pe_c c_limits_of hr (by decide) (by rfl) (pa_cons (pv 0) (pa_cons (pv 1) pa_nil))) pa_nil))))), ?_⟩
    exact s_retP (ep_lim2 (Pv := PaperR ks ss lo hi) (ev_var rfl) (en_limits (ea_cons (ev_var rfl) (ea_cons (ev_var rfl) ea_nil)) a) fun d H1 e1 hd Q q E => ⟨p, d, ks, ss, ss.map (·.n), lo, hi, rfl, ⟨a.p.mono e1, a.wf, hd, keys_self a.wf⟩, q⟩) q
end
end MS
set_option Elab.async false
set_option linter.all false
set_option maxRecDepth 100000
set_option maxHeartbeats 4000000
namespace MS
open PySem PySem.Spec PyProof.Rows L2 Evl
def LotAt (H : Hp) (v : V) : Option (List Str) → Prop
  | none => v = .non
  | some l => ∃ a : Addr, v = .ref a ∧ H a = some (.lst (l.map V.str))
theorem LotAt.mono {H H' : Hp} {v : V} {o : Option (List Str)} (h : LotAt H v o) (e : Ex H H') : LotAt H' v o := by
  cases o with
  | none => exact h
  | some l => obtain ⟨a, h1, h2⟩ := h; exact ⟨a, h1, e _ _ h2⟩
theorem LotAt.butI {H H' : Hp} {v : V} {o : Option (List Str)} {x C dx : Addr} {fs : List (Str × V)} (h : LotAt H v o) (hx : H x = some (.ins C dx fs)) (e : ExD x H H') : LotAt H' v o := by
  cases o with
  | none => exact h
  | some l => obtain ⟨a, h1, h2⟩ := h; exact ⟨a, h1, e _ _ (fun z => by rw [z, hx] at h2; cases h2) h2⟩
theorem LotAt.butD {H H' : Hp} {v : V} {o : Option (List Str)} {x : Addr} {kv : List (Key × V)} (h : LotAt H v o) (hx : H x = some (.dK kv)) (e : ExD x H H') : LotAt H' v o := by
  cases o with
  | none => exact h
  | some l => obtain ⟨a, h1, h2⟩ := h; exact ⟨a, h1, e _ _ (fun z => by rw [z, hx] at h2; cases h2) h2⟩
section
variable {K : PySem.W.Frag} {σ : L2.St} {H : Hp} {ta tb tc te td ty tv : TE} {t : TT} {D : Ends} {tu tz : TS} {aP aM : Addr}
theorem q_fldD {H0 : Hp} {C a dx : Addr} {m : Str} {fs : List (Str × V)} {i : Nat} {Pv : V → Hp → Prop} (h : EvP te σ H Pv) (hi : σ[i]? = some (some (.ref a))) (hx : H a = some (.ins C dx fs)) (d0 : ExD a H0 H) (c : Cls K C) (n : NoAttr K C m) (hz : fs.length < 1000)
    (k : ∀ v H1 G, H1 a = some (.ins C dx fs) → Pv v H1 → ExD a H1 G → ExD a H G → ExD a H0 G → G a = some (.ins C dx (putF m v fs)) → tz D σ G) : tSeq (sFld K (tVar i) te m) tz D σ H :=
  q_fldP h hi hx c n hz fun v H1 e hv => k v H1 _ (e _ _ hx) hv ExD.upd ((ExD.of_ex e).trans ExD.upd) (d0.trans ((ExD.of_ex e).trans ExD.upd)) upd_same
theorem s_fldD {H0 : Hp} {C a dx : Addr} {m : Str} {fs : List (Str × V)} {i : Nat} {Pv : V → Hp → Prop} (h : EvP te σ H Pv) (hi : σ[i]? = some (some (.ref a))) (hx : H a = some (.ins C dx fs)) (d0 : ExD a H0 H) (c : Cls K C) (n : NoAttr K C m) (hz : fs.length < 1000)
    (k : ∀ v H1 G, H1 a = some (.ins C dx fs) → Pv v H1 → ExD a H1 G → ExD a H G → ExD a H0 G → G a = some (.ins C dx (putF m v fs)) → D.nx σ G) : sFld K (tVar i) te m D σ H :=
  s_fldP h hi hx c n hz fun v H1 e hv => k v H1 _ (e _ _ hx) hv ExD.upd ((ExD.of_ex e).trans ExD.upd) (d0.trans ((ExD.of_ex e).trans ExD.upd)) upd_same
theorem ep_leadingN {E : XK} {t1 t2 t3 t4 : TE} {l d fl : Addr} {ls : List Ln} {ns nf : List Str} {lo hi F : Str → Int} {S : List Str} (h1 : Ev t1 σ H (.ref l)) (h2 : Ev t2 σ H (.ref d)) (h3 : Ev t3 σ H (.ref fl)) (h4 : EvL t4 σ H (S.map V.str)) (a : AI H l d fl ls ns nf lo hi F) (hS : S.Nodup) (hz : S.length ≤ 100) :
    EvN (tCall (sp_leading_to K) [] E (tCons t1 (tCons t2 (tCons t3 (tCons t4 tNil))))) σ H (fun q H' => ∃ W, H' q = some (.dK (dm W tt)) ∧ Closed ((MM.arcsOf ls lo hi F).map fun x => (x.b, x.a)) S W) := fun H1 e Q q =>
  h1 H1 e _ fun H2 e2 => h2 H2 (e.trans e2) _ fun H3 e3 => h3 H3 ((e.trans e2).trans e3) _ fun H4 e4 => h4 H4 (((e.trans e2).trans e3).trans e4) _ fun r H5 _ e5 h5 =>
    have e15 := ((e2.trans e3).trans e4).trans e5
    ⟨l, d, fl, r, ls, ns, nf, lo, hi, F, S, rfl, a.mono (e.trans e15), sq_of h5, hS, hz, fun q' H' W hq' e' h1 h2 => q q' H' (fresh_back e15 hq') (e15.trans e') ⟨W, h1, h2⟩⟩
theorem s_retPair {x : V} {i : Nat} {ys : List V} (hi : σ[i]? = some (some x)) (h2 : EvL tb σ H ys) (k : ∀ r b H1, Ex H H1 → H1 r = some (.tup [x, .ref b]) → H1 b = some (.lst ys) → D.rt (.ref r) H1) : tRet (tTup (tCons (tVar i) (tCons tb tNil))) D σ H :=
  ⟨x, hi, h2 H (Ex.refl _) _ fun b H2 hb e2 hb2 => ⟨sz_of (by show 2 ≤ 100000; decide), fun p hp => k p b _ (e2.trans (Ex.new hp)) upd_same ((Ex.new hp) _ _ hb2)⟩⟩
/-- None if v is None else list(v) -/
theorem ep_lot {v : V} {o : Option (List Str)} {i : Nat} (hi : σ[i]? = some (some v)) (hl : LotAt H v o) : EvP (tIf (tB (tIsN (tVar i))) (tC .non) (tCB (rListS K) (tCons (tVar i) tNil))) σ H (fun u H' => LotAt H' u o) := fun H1 e Q q => by
  cases o with
  | none =>
    have hl : v = .non := hl
    subst hl
    exact (et_is (et_B (ev_isN (x := .non) (ev_var hi))) (by simp) : EvT _ σ H true) H1 e _ fun H2 e2 => q _ H2 e2 rfl
  | some l =>
    obtain ⟨a, rfl, ha⟩ := hl
    exact (et_is (et_B (ev_isN (x := .ref a) (ev_var hi))) (by simp) : EvT _ σ H false) H1 e _ fun H2 e2 => el_list (K := K) (ev_var hi) (sq_of ha) H2 (e.trans e2) _ fun p H3 _ e3 h3 => q _ H3 (e2.trans e3) ⟨p, rfl, h3⟩
end
def rFs (x y : Int) (f g : Addr) (u v : V) : List (Str × V) := [("low", .int x), ("high", .int y), ("low_flows", .ref f), ("high_flows", .ref g), ("low_lot", u), ("high_lot", v)]
theorem rfs_eq {x y : Int} {f g : Addr} {u v : V} : putF "high_lot" v (putF "low_lot" u (putF "high_flows" (.ref g) (putF "low_flows" (.ref f) (putF "high" (.int y) (putF "low" (.int x) []))))) = rFs x y f g u v := by
  have h1 : ("low" : Str) ≠ "high" := by decide +kernel
  have h2 : ("low" : Str) ≠ "low_flows" := by decide +kernel
  have h3 : ("low" : Str) ≠ "high_flows" := by decide +kernel
  have h4 : ("low" : Str) ≠ "low_lot" := by decide +kernel
  have h5 : ("low" : Str) ≠ "high_lot" := by decide +kernel
  have h6 : ("high" : Str) ≠ "low_flows" := by decide +kernel
  have h7 : ("high" : Str) ≠ "high_flows" := by decide +kernel
  have h8 : ("high" : Str) ≠ "low_lot" := by decide +kernel
  have h9 : ("high" : Str) ≠ "high_lot" := by decide +kernel
  have h10 : ("low_flows" : Str) ≠ "high_flows" := by decide +kernel
  have h11 : ("low_flows" : Str) ≠ "low_lot" := by decide +kernel
  have h12 : ("low_flows" : Str) ≠ "high_lot" := by decide +kernel
  have h13 : ("high_flows" : Str) ≠ "low_lot" := by decide +kernel
  have h14 : ("high_flows" : Str) ≠ "high_lot" := by decide +kernel
  have h15 : ("low_lot" : Str) ≠ "high_lot" := by decide +kernel
  simp [putF, h1, h2, h3, h4, h5, h6, h7, h8, h9, h10, h11, h12, h13, h14, h15, rFs]
def RangeAt (aR : Addr) (H : Hp) (x : Addr) (lw hg : Int) (nf : List Str) (F G : Str → Int) (o1 o2 : Option (List Str)) : Prop := ∃ (dx f g : Addr) (u v : V), H x = some (.ins aR dx (rFs lw hg f g u v)) ∧ H f = some (.dK (fd nf F)) ∧ H g = some (.dK (fd nf G)) ∧ LotAt H u o1 ∧ LotAt H v o2
theorem RangeAt.mono {aR : Addr} {H H' : Hp} {x : Addr} {lw hg : Int} {nf : List Str} {F G : Str → Int} {o1 o2 : Option (List Str)} (h : RangeAt aR H x lw hg nf F G o1 o2) (e : Ex H H') : RangeAt aR H' x lw hg nf F G o1 o2 := by
  obtain ⟨dx, f, g, u, v, h1, h2, h3, h4, h5⟩ := h
  exact ⟨dx, f, g, u, v, e _ _ h1, e _ _ h2, e _ _ h3, h4.mono e, h5.mono e⟩
section
variable {P : Program} {w : World} {K : PySem.W.Frag} {mg : Str → Option Value} {base : Heap} {aP aM aR : Addr}
abbrev s_Range___init__ : Stmt := inCls (top 47) 0
abbrev N_Range___init__ : List Str := ["self", "low", "high", "low_flows", "high_flows", "low_lot", "high_lot"]
theorem sc_Range___init__ : FnScope N_Range___init__ ["self", "low", "high", "low_flows", "high_flows", "low_lot", "high_lot"] (C8.fnScope s_Range___init__) := C8.fnScope_by (by decide +kernel)

def sp_rinit (aR : Addr) : Sp := fun vs H Q _ => ∃ (x dx f g : Addr) (lw hg : Int) (nf : List Str) (F G : Str → Int) (u v : V) (o1 o2 : Option (List Str)), vs = [V.ref x, V.int lw, V.int hg, V.ref f, V.ref g, u, v] ∧ H x = some (.ins aR dx []) ∧ Rd H f (.dK (fd nf F)) ∧ Rd H g (.dK (fd nf G)) ∧ LotAt H u o1 ∧ LotAt H v o2 ∧
  ∀ H', ExD x H H' → RangeAt aR H' x lw hg nf F G o1 o2 → Q .non H'
theorem c_Range_ (T : Txt K mg aP aM aR) (D : In K mg "Range" "Range.__init__" aR s_Range___init__ ["self", "low", "high", "low_flows", "high_flows", "low_lot", "high_lot"]) : C8.Mak P w K mg base 1 "Range" aR (sp_rinit aR) [] := by
  refine mak_of D sc_Range___init__ (fun vs H Q E h => ?_) (fun f cdv A outer s H vs Q E hr h => ?_)
  · obtain ⟨x, dx, f, g, lw, hg, nf, F, G, u, v, o1, o2, rfl, _⟩ := h
    rfl
  · obtain ⟨x, dx, f, g, lw, hg, nf, F, G, u, v, o1, o2, rfl, hx, hf, hg', h1, h2, q⟩ := h
    refine ⟨_, (pss_cons (ps_fld (pv 0) (pv 1) rfl)
      (pss_cons (ps_fld (pv 0) (pv 2) rfl)
      (pss_cons (ps_fld (pv 0) (pe_callTy call_dictD (by rfl) T.n_dict (by decide +kernel) (pa_cons (pv 3) pa_nil)) rfl)
      (pss_cons (ps_fld (pv 0) (pe_callTy call_dictD (by rfl) T.n_dict (by decide +kernel) (pa_cons (pv 4) pa_nil)) rfl)
      (pss_cons (ps_fld (pv 0) (pe_ifExp (pt_cmp (pc_isN (pv 5)) rfl) pe_non (pe_callTy call_list_of (by rfl) T.n_list (by decide +kernel) (pa_cons (pv 5) pa_nil))) rfl)
      (pss_one (ps_fld (pv 0) (pe_ifExp (pt_cmp (pc_isN (pv 6)) rfl) pe_non (pe_callTy call_list_of (by rfl) T.n_list (by decide +kernel) (pa_cons (pv 6) pa_nil))) rfl))))))), ?_⟩
    refine q_fldD (H0 := H) (Ev.p (ev_var rfl)) rfl hx ExD.refl T.cR T.r_l (by decide) fun v1 H1 G1 x1 hv1 _ _ d1 g1 => ?_
    subst hv1
    refine q_fldD (H0 := H) (Ev.p (ev_var rfl)) rfl g1 d1 T.cR T.r_h (by show 1 < 1000; decide) fun v2 H2 G2 x2 hv2 _ _ d2 g2 => ?_
    subst hv2
    refine q_fldD (H0 := H) (EvN.p (en_dictD (ev_var rfl) (rd_but (u := .lst []) hf hx d2))) rfl g2 d2 T.cR T.r_lf (by show 2 < 1000; decide) fun v3 H3 G3 x3 ⟨f', hv3, hf3⟩ e3 _ d3 g3 => ?_
    subst hv3
    have nf3 : f' ≠ x := fun z => by rw [z, x3] at hf3; cases hf3
    have hf3 := e3 _ _ nf3 hf3
    refine q_fldD (H0 := H) (EvN.p (en_dictD (ev_var rfl) (rd_but (u := .lst []) hg' hx d3))) rfl g3 d3 T.cR T.r_hf (by show 3 < 1000; decide) fun v4 H4 G4 x4 ⟨g', hv4, hg4⟩ e4 e34 d4 g4 => ?_
    subst hv4
    have ng4 : g' ≠ x := fun z => by rw [z, x4] at hg4; cases hg4
    have hg4 := e4 _ _ ng4 hg4
    have hf4 := e34 _ _ nf3 hf3
    refine q_fldD (H0 := H) (ep_lot (o := o1) rfl (h1.butI hx d4)) rfl g4 d4 T.cR T.r_ll (by show 4 < 1000; decide) fun v5 H5 G5 x5 hv5 e5 e45 d5 g5 => ?_
    have hv5 := hv5.butI x5 e5
    refine s_fldD (H0 := H) (ep_lot (o := o2) rfl (h2.butI hx d5)) rfl g5 d5 T.cR T.r_hl (by show 5 < 1000; decide) fun v6 H6 G6 x6 hv6 e6 e56 d6 g6 => ?_
    have hv6 := hv6.butI x6 e6
    refine q G6 d6 ⟨dx, f', g', v5, v6, by rw [g6, rfs_eq], e56 _ _ nf3 (e45 _ _ nf3 hf4), e56 _ _ ng4 (e45 _ _ ng4 hg4), hv5.butI g5 e56, hv6⟩
/-- the lot that pushed_to tells when less than most was pushed -/
def LotR (ks : List Str) (ls : List Ln) (lo hi F' : Str → Int) (s e : Str) (x most : Int) (o : Option (List Str)) : Prop := (o = none ∧ x = most) ∨ ∃ W : List Str, o = some (ks.filter fun v => decide (v ∈ W)) ∧ e ∈ W ∧ s ∉ W ∧ MM.ClIn ls lo hi F' (fun v => v ∈ W) ∧ x < most
abbrev s_pushed_to : Stmt := top 48
abbrev N_pushed_to : List Str := ["plant", "lines", "limits", "flows", "start", "end", "most", "pushed", "found", "knot"]
theorem sc_pushed_to : FnScope N_pushed_to ["plant", "lines", "limits", "flows", "start", "end", "most"] (C8.fnScope s_pushed_to) := C8.fnScope_by (by decide +kernel)

def sp_pushed_to (aP : Addr) : Sp := fun vs H Q _ => ∃ (p l d fl : Addr) (s e : Str) (most : Int) (ks : List Str) (ss : List Stm) (ls : List Ln) (ns nf : List Str) (lo hi F : Str → Int), vs = [V.ref p, V.ref l, V.ref d, V.ref fl, V.str s, V.str e, V.int most] ∧ PlantAt aP H p ks ss ∧ ks.length ≤ 24 ∧ AI H l d fl ls ns nf lo hi F ∧ H fl = some (.dK (fd nf F)) ∧
  (ls.map (·.n)).Nodup ∧ MM.Within ls lo hi F ∧ s ≠ e ∧ 0 ≤ most ∧ nf.length ≤ 1000 ∧
  ∀ (q : Addr) (H' : Hp) (x : Int) (F' : Str → Int) (v : V) (o : Option (List Str)), 0 ≤ x → x ≤ most → Pushed ls lo hi F s e x F' → LotR ks ls lo hi F' s e x most o → ExD fl H H' → H' fl = some (.dK (fd nf F')) → H' q = some (.tup [.int x, v]) → LotAt H' v o → Q (.ref q) H'
theorem c_pushed_to_ (T : Txt K mg aP aM aR) (D : Dn K mg "pushed_to" s_pushed_to ["plant", "lines", "limits", "flows", "start", "end", "most"]) (c_knots : Prp P w K mg base 1 aP "knots" (sp_knots aP)) (c_push_all : C8.Cal P w K mg base 3 "push_all" sp_push_all []) (c_leading_to : C8.Cal P w K mg base 2 "leading_to" (sp_leading_to K) []) :
    C8.Cal P w K mg base 4 "pushed_to" (sp_pushed_to aP) [] := by
  refine cal_of D sc_pushed_to (fun vs H Q E h => ?_) (fun f cdv A outer s H vs Q E hr h => ?_)
  · obtain ⟨p, l, d, fl, s, e, most, ks, ss, ls, ns, nf, lo, hi, F, rfl, _⟩ := h
    rfl
  · obtain ⟨p, l, d, fl, st, en, most, ks, ss, ls, ns, nf, lo, hi, F, rfl, hp, k2, a, hf, hn, hw, hse, hm, hz, q⟩ := h
    refine ⟨_, (pss_cons (ps_set (i := 7) sc_pushed_to.nd rfl (Or.inl rfl) (C8.pe_c c_push_all hr (by decide) (by rfl) (pa_cons (pv 1) (pa_cons (pv 2) (pa_cons (pv 3) (pa_cons (pv 4) (pa_cons (pv 5) (pa_cons (pv 6) pa_nil))))))))
      (pss_cons (ps_if (pt_cmpR op_eq (pv 7) (pv 6) (nomark _)) (pss_one (ps_ret (pe_tup (pa_cons (pv 7) (pa_cons pe_non pa_nil))))) pss_nil)
      (pss_cons (ps_set (i := 8) sc_pushed_to.nd rfl (Or.inr rfl) (C8.pe_c c_leading_to hr (by decide) (by rfl) (pa_cons (pv 1) (pa_cons (pv 2) (pa_cons (pv 3) (pa_cons (pe_lst (pa_cons (pv 5) pa_nil)) pa_nil))))))
      (pss_one (ps_ret (pe_tup (pa_cons (pv 7) (pa_cons (pe_lc (own := [("knot", 9)]) (g := (gName 9)) rfl sc_pushed_to.nd (pi_list (pe_pr T.cP c_knots hr (by decide) (pv 0))) (blkOk_by (own := [("knot", 9)]) (N := N_pushed_to) (sc := C8.fnScope s_pushed_to) (by decide +kernel)) (fun _ _ _ _ _ => (pg_name (i := 9) sc_pushed_to.nd rfl (Or.inl rfl))) (fun _ _ _ _ _ => (pts_one (pt_cmp (pc_din (hu_of hr) (pv 9) (pv 8))))) (fun _ _ _ _ _ => (pv 9))) pa_nil)))))))), ?_⟩
    refine mcall (vs := [.ref l, .ref d, .ref fl, .str st, .str en, .int most]) (ea_cons (ev_var rfl) (ea_cons (ev_var rfl) (ea_cons (ev_var rfl) (ea_cons (ev_var rfl) (ea_cons (ev_var rfl) (ea_cons (ev_var rfl) ea_nil)))))) fun H1 e1 => ?_
    refine ⟨l, d, fl, st, en, most, ls, ns, nf, lo, hi, F, rfl, a.mono e1, e1 _ _ hf, hn, hw, hse, hm, hz, fun x F' H2 x0 x1 hP hF e2 f2 => ?_⟩
    have e02 : ExD fl H H2 := (ExD.of_ex e1).trans e2
    refine q_when (b := decide (x = most)) (et_test (ev_eqI (ev_var rfl) (ev_var rfl))) (fun hb H3 e3 => ?_) (fun hb H3 e3 => ?_)
    · exact s_retU (eu_2 (ev_var rfl) ev_c) fun r H4 _ e4 h4 => q r H4 x F' _ none x0 x1 hP (.inl ⟨rfl, of_decide_eq_true hb⟩) (e02.trans (ExD.of_ex (e3.trans e4))) (e4 _ _ (e3 _ _ f2)) h4 rfl
    · have hne := of_decide_eq_false hb
      have a2 : AI H2 l d fl ls ns nf lo hi F' := (a.mono e1).put (e1 _ _ hf) e2 f2
      have hp2 : PlantAt aP H2 p ks ss := hp.but hf e02
      refine q_asgN (ep_leadingN (S := [en]) (ev_var rfl) (ev_var rfl) (ev_var rfl) (el_lst (ea_cons (ev_var rfl) ea_nil) (by show 1 ≤ 100000; decide)) (a2.mono e3) (by simp) (by show 1 ≤ 100; decide)) fun le H4 _ e4 ⟨W, hle, hc⟩ => ?_
      · refine s_retPair rfl (el_kn (ev_var rfl) ((hp2.mono e3).mono e4) k2 (fun v => decide (v ∈ W)) fun n H' hn e => ⟨_, fun Q q => q, rfl, et_B (ev_din (ev_var rfl) (ev_var rfl) (.inl (e _ _ hle))), fun _ => ev_var rfl⟩) fun r b H5 e5 h5 hb5 => ?_
        have e25 := (e3.trans e4).trans e5
        refine q r H5 x F' _ (some (ks.filter fun v => decide (v ∈ W))) x0 x1 hP (.inr ⟨W, rfl, hc.come.sub en (by simp), ?_, ?_, by omega⟩) (e02.trans (ExD.of_ex e25)) (e25 _ _ f2) h5 ⟨b, rfl, hb5⟩
        · rcases hF with z | ⟨WF, w1, w2, w3⟩
          · exact absurd z hne
          · intro hs
            refine hc.come.least (fun v => v ∉ WF) (fun s hs => by rw [List.mem_singleton.mp hs]; exact w2) (fun pr hpr ht => ?_) st hs w1
            obtain ⟨y, hy, rfl⟩ := List.mem_map.mp hpr
            exact fun z => ht (w3 y hy z)
        · intro a b r hb'
          obtain ⟨y, hy, rfl, rfl⟩ := MM.rs_iff.mp r
          exact hc.cl (y.b, y.a) (List.mem_map.mpr ⟨y, hy, rfl⟩) hb'
end
end MS
set_option Elab.async false
set_option linter.all false
set_option maxRecDepth 100000
set_option maxHeartbeats 4000000
namespace MS
open PySem PySem.Spec PyProof.Rows L2 Evl
open MM (sm sm_nil sm_cons sm_append sm_congr sm_le sm_add sm_sub sm_neg sm_zero sm_filter sm_map)
def oth (ss : List Stm) (n : Str) : List Ln := (lns ss).filter fun l => decide (l.n ≠ n)
def othN (ss : List Stm) (n : Str) : List Ln := (linesOf ss).filter fun l => decide (l.n ≠ n)
theorem othN_eq (ss : List Stm) (n : Str) : othN ss n = (oth ss n).filter fun l => decide (l.t ≠ l.h) := by
  unfold othN oth linesOf
  rw [List.filter_filter, List.filter_filter]
  exact List.filter_congr fun l _ => Bool.and_comm _ _
theorem sm_split {ls : List Ln} (hn : (ls.map (·.n)).Nodup) {l : Ln} (hl : l ∈ ls) (φ : Ln → Int) : sm ls φ = sm (ls.filter fun y => decide (y.n ≠ l.n)) φ + φ l := by
  rw [sm_filter]
  refine MM.sm_one (f := fun y => if decide (y.n ≠ l.n) = true then φ y else 0) (g := φ) (x := φ l) (key := fun y => decide (y.n = l.n)) (fun y hy hk => ?_) (fun y hy hk => ?_) (MM.key_one hn hl)
  · have := of_decide_eq_false hk
    simp [this]
  · have e := of_decide_eq_true hk
    have := MM.same_line hn hy hl e
    subst this
    simp
theorem net_noloop (ls : List Ln) (F : Str → Int) (v : Str) : MM.net (ls.filter fun l => decide (l.t ≠ l.h)) F v = MM.net ls F v := by
  unfold MM.net
  rw [sm_filter]
  refine sm_congr fun l _ => ?_
  by_cases c : l.t = l.h
  · simp [c]
  · simp [c]
theorem net_split {ss : List Stm} (hn : ((lns ss).map (·.n)).Nodup) {s : Stm} (hs : s ∈ ss) (F : Str → Int) (v : Str) : MM.net (lns ss) F v = MM.net (othN ss s.n) F v + ((if s.h = v then F s.n else 0) - (if s.t = v then F s.n else 0)) := by
  rw [othN_eq, net_noloop]
  exact sm_split hn (l := ln s) (List.mem_map.mpr ⟨s, hs, rfl⟩) _
theorem oth_n {ss : List Stm} {n : Str} {l : Ln} (h : l ∈ othN ss n) : l.n ≠ n := of_decide_eq_true (List.mem_filter.mp h).2
theorem oth_in {ss : List Stm} {n : Str} {l : Ln} (h : l ∈ othN ss n) : l ∈ lns ss := (List.mem_filter.mp (List.mem_filter.mp h).1).1
theorem othN_nd {ss : List Stm} (hn : ((lns ss).map (·.n)).Nodup) (n : Str) : ((othN ss n).map (·.n)).Nodup := by
  unfold othN linesOf
  exact ((List.filter_sublist.trans List.filter_sublist).map _).nodup hn
/-- a push beside the stream s, made good by s -/
theorem good_moved {ks : List Str} {ss : List Stm} {lo hi F F1 : Str → Int} (wf : Wf ks ss) (g : Good ks ss lo hi F) {s : Stm} (hs : s ∈ ss) {δ : Int} (w : MM.Within (othN ss s.n) lo hi F1) (off : ∀ n, n ∉ (othN ss s.n).map (·.n) → F1 n = F n)
    (hnet : ∀ v, MM.net (othN ss s.n) F1 v = MM.net (othN ss s.n) F v + ((if s.t = v then δ else 0) - (if s.h = v then δ else 0))) (h1 : lo s.n ≤ F s.n + δ) (h2 : F s.n + δ ≤ hi s.n) : Good ks ss lo hi (MM.setF F1 s.n (F s.n + δ)) := by
  refine ⟨fun l hl => ?_, fun v hv => ?_⟩
  · unfold MM.setF
    by_cases c : l.n = s.n
    · rw [if_pos c, c]; exact ⟨h1, h2⟩
    · rw [if_neg c]
      by_cases m : l.n ∈ (othN ss s.n).map (·.n)
      · obtain ⟨l', hl', e⟩ := List.mem_map.mp m
        have := w l' hl'
        rw [e] at this
        exact this
      · rw [off _ m]; exact g.1 l hl
  · have g2 := g.2 v hv
    rw [net_split (wf_nd wf) hs] at g2 ⊢
    have e : MM.net (othN ss s.n) (MM.setF F1 s.n (F s.n + δ)) v = MM.net (othN ss s.n) F1 v := MM.net_congr (fun l hl => by unfold MM.setF; rw [if_neg (oth_n hl)]) v
    rw [e, hnet v]
    have e2 : MM.setF F1 s.n (F s.n + δ) s.n = F s.n + δ := by unfold MM.setF; rw [if_pos rfl]
    rw [e2]
    split <;> split <;> simp_all <;> omega
theorem good_loop {ks : List Str} {ss : List Stm} {lo hi F : Str → Int} (wf : Wf ks ss) (g : Good ks ss lo hi F) {s : Stm} (hs : s ∈ ss) (he : s.t = s.h) {x : Int} (h1 : lo s.n ≤ x) (h2 : x ≤ hi s.n) : Good ks ss lo hi (MM.setF F s.n x) := by
  have := good_moved wf g hs (δ := x - F s.n) (F1 := F) (fun l hl => g.1 l (oth_in hl)) (fun _ _ => rfl) (fun v => by rw [he]; omega) (by omega) (by omega)
  rw [show F s.n + (x - F s.n) = x by omega] at this
  exact this
theorem good_flux {ks : List Str} {ss : List Stm} {lo hi F : Str → Int} (wf : Wf ks ss) (g : Good ks ss lo hi F) (B : Str → Bool) : MM.flux (lns ss) F B = 0 := by
  rw [MM.flux_eq wf.kn (wf_he wf)]
  rw [sm_congr (g := fun _ => 0) (fun v hv => by rw [g.2 v hv]; split <;> rfl), sm_zero]
  rfl
/-- where s's flow ends: the lot's lack beside s -/
theorem end_lot {ks : List Str} {ss : List Stm} {lo hi F : Str → Int} (wf : Wf ks ss) (g : Good ks ss lo hi F) {s : Stm} (hs : s ∈ ss) {W : List Str} (cl : MM.ClIn (othN ss s.n) lo hi F (fun v => v ∈ W)) :
    MM.lack (oth ss s.n) lo hi (fun v => decide (v ∈ ks.filter fun v => decide (v ∈ W))) + ((if s.t ∈ W ∧ s.h ∉ W then F s.n else 0) - (if s.h ∈ W ∧ s.t ∉ W then F s.n else 0)) = 0 := by
  have he := wf_he wf
  have mk : ∀ v ∈ ks, (decide (v ∈ ks.filter fun v => decide (v ∈ W)) = true ↔ v ∈ W) := fun v hv => by simp [hv]
  have tg : MM.Tight (oth ss s.n) lo hi F (fun v => decide (v ∈ ks.filter fun v => decide (v ∈ W))) := by
    have key : MM.ClIn (othN ss s.n) lo hi F (fun v => decide (v ∈ ks.filter fun v => decide (v ∈ W)) = true) := by
      intro a b r hb
      obtain ⟨l, hl, c⟩ := r
      obtain ⟨ht, hh⟩ := he l (oth_in hl)
      have ab : a ∈ ks ∧ b ∈ ks := by rcases c with ⟨rfl, rfl, _⟩ | ⟨rfl, rfl, _⟩ <;> exact ⟨by assumption, by assumption⟩
      exact (mk a ab.1).mpr (cl a b ⟨l, hl, c⟩ ((mk b ab.2).mp hb))
    rw [othN_eq] at key
    exact MM.tight_in (fun l hl => g.1 l (List.mem_filter.mp hl).1) key
  rw [MM.tight_lack tg]
  have z := good_flux wf g (fun v => decide (v ∈ ks.filter fun v => decide (v ∈ W)))
  unfold MM.flux at z ⊢
  rw [sm_split (wf_nd wf) (l := ln s) (List.mem_map.mpr ⟨s, hs, rfl⟩)] at z
  obtain ⟨ht, hh⟩ := he (ln s) (List.mem_map.mpr ⟨s, hs, rfl⟩)
  have ht' : s.t ∈ ks := ht
  have hh' : s.h ∈ ks := hh
  refine Eq.trans (congrArg _ ?_) z
  show _ = ((if decide (s.t ∈ ks.filter fun v => decide (v ∈ W)) = true ∧ decide (s.h ∈ ks.filter fun v => decide (v ∈ W)) = false then F s.n else 0) - (if decide (s.h ∈ ks.filter fun v => decide (v ∈ W)) = true ∧ decide (s.t ∈ ks.filter fun v => decide (v ∈ W)) = false then F s.n else 0))
  have e1 : decide (s.t ∈ ks.filter fun v => decide (v ∈ W)) = decide (s.t ∈ W) := by simp [ht']
  have e2 : decide (s.h ∈ ks.filter fun v => decide (v ∈ W)) = decide (s.h ∈ W) := by simp [hh']
  rw [e1, e2]
  simp
end MS
set_option Elab.async false
set_option linter.all false
set_option maxRecDepth 100000
set_option maxHeartbeats 4000000
namespace MS
open PySem PySem.Spec PyProof.Rows L2 Evl
section
variable {K : PySem.W.Frag} {σ : L2.St} {H : Hp} {ta tb tc te td ty tv : TE} {t : TT} {D : Ends} {g : TG} {tu tz : TS} {aP aM : Addr}
theorem q_tgtP {Pv : V → Hp → Prop} (h : EvP te σ H Pv) (k : ∀ v H1, Ex H H1 → Pv v H1 → g v σ H1 fun σ' H' => tz D σ' H') : tSeq (tAsg te g) tz D σ H := h H (Ex.refl H) _ k
theorem ep_named {E : XK} {p : Addr} {ks : List Str} {ss : List Stm} {x : Stm} (h : Ev ta σ H (.ref p)) (h2 : Ev tb σ H (.str x.n)) (hp : PlantAt aP H p ks ss) (nd : (ss.map (·.n)).Nodup) (hx : x ∈ ss) : EvP (tMeth aP "stream_named" (sp_stream_named aP) [] E ta (tCons tb tNil)) σ H (fun v H' => ∃ a, v = .ref a ∧ H' a = some (.tup (tupS x))) := fun H1 e Q q => h H1 e _ fun H2 e2 => by
  have hp2 := (hp.mono e).mono e2
  obtain ⟨dx, lk, ls, h1, _, _⟩ := id hp2
  refine ⟨p, dx, _, rfl, h1, lk_no (by decide +kernel) (by decide +kernel), h2 H2 (e.trans e2) _ fun H3 e3 => ?_⟩
  exact ⟨p, ks, ss, x, rfl, hp2.mono e3, nd, hx, fun a H4 e4 ha => q _ H4 ((e2.trans e3).trans e4) ⟨a, rfl, ha⟩⟩
theorem ep_flows {E : XK} {tA : TA} {p d : Addr} {ks : List Str} {ss : List Stm} {ns : List Str} {lo hi : Str → Int} (h : EvA tA σ H [.ref p, .ref d]) (a : PL aP H p d ks ss ns lo hi) : EvP (tCall (sp_flows_within aP) [] E tA) σ H (FlowsR ks ss lo hi ns) :=
  ev_callX h fun H1 e Q q E => ⟨p, d, ks, ss, ns, lo, hi, rfl, a.mono e, q⟩
/-- a comprehension that keeps some of a new list's tuples -/
theorem en_lcF {β : Type} {tl : TE} {tt' : TT} {vs : List Nat} {ys : List β} {row : β → List V} (h0 : EvN tl σ H (fun r H' => TL H' r (ys.map row))) (hz : ys.length ≤ 40000) (f : β → Bool)
    (h : ∀ a y H', y ∈ ys → Ex H H' → H' a = some (.tup (row y)) → ∃ σ2, (∀ Q : L2.St → Hp → Prop, Q σ2 H' → g (.ref a) (wipe σ vs) H' Q) ∧ wipe σ2 vs = wipe σ vs ∧ EvT tt' σ2 H' (f y) ∧ (f y = true → Ev te σ2 H' (.ref a))) :
    EvN (tLc (iList K tl) g tt' te vs) σ H (fun p H' => TL H' p ((ys.filter f).map row)) := fun H1 e Q q => h0 H1 e _ fun r H2 hr e2 ⟨as, ha, ht⟩ => by
  have hl := ht.ln
  have hzs : ∀ y ∈ as.zip ys, y.2 ∈ ys ∧ H2 y.1 = some (.tup (row y.2)) := fun y hy => by
    obtain ⟨i, hi⟩ := List.mem_iff_getElem?.mp hy
    obtain ⟨h1, h2⟩ := List.getElem?_zip_eq_some.mp hi
    refine ⟨List.mem_of_getElem? h2, ht.2 i _ _ h1 ?_⟩
    rw [List.getElem?_map, h2]; rfl
  have lz : (as.zip ys).length = ys.length := by rw [List.length_zip]; omega
  have k := el_lc (H := H2) (σ := σ) (tt := tt') (te := te) (g := g) (vs := vs) (ei_list (K := K) (tl := tC (.ref r)) (ev_c) (sq_of ha)) (ys := as.zip ys) (by rw [List.length_map, lz]; exact hl) (by rw [List.length_map]; omega) (fun y => f y.2) (fun y => .ref y.1) (fun i x y H' hx hy e' => by
    obtain ⟨h1, h2⟩ := List.getElem?_zip_eq_some.mp hy
    rw [List.getElem?_map, h1] at hx
    have hx : V.ref y.1 = x := Option.some.inj hx
    subst hx
    obtain ⟨m1, m2⟩ := hzs y (List.mem_of_getElem? hy)
    exact h y.1 y.2 H' m1 ((e.trans e2).trans e') (e' _ _ m2))
  refine k H2 (Ex.refl _) Q fun p H3 hp e3 hl3 => q p H3 (fresh_back e2 hp) (e2.trans e3) ⟨((as.zip ys).filter fun y => f y.2).map (·.1), by rw [hl3, List.map_map]; rfl, ?_⟩
  have ey : ys.filter f = ((as.zip ys).filter fun y => f y.2).map (·.2) := by
    have : ys = (as.zip ys).map (·.2) := (List.map_snd_zip (by omega)).symm
    conv => lhs; rw [this]
    rw [List.filter_map]; rfl
  rw [ey, List.map_map]
  refine ⟨by simp, fun i a r' h1 h2 => ?_⟩
  rw [List.getElem?_map] at h1 h2
  cases hc : ((as.zip ys).filter fun y => f y.2)[i]? with
  | none => rw [hc] at h1; cases h1
  | some c =>
    rw [hc] at h1 h2
    have h1 : c.1 = a := Option.some.inj h1
    have h2 : row c.2 = r' := Option.some.inj h2
    rw [← h1, ← h2]
    exact e3 _ _ (hzs c (List.mem_filter.mp (List.mem_of_getElem? hc)).1).2
end
/-- the two ends of a stream's flow -/
def EndL (ss : List Stm) (lo hi : Str → Int) (s : Stm) (x : Int) (o : Option (List Str)) : Prop := (o = none ∧ x = lo s.n) ∨ ∃ lot, o = some lot ∧ s.h ∈ lot ∧ s.t ∉ lot ∧ x = MM.lack (oth ss s.n) lo hi (fun v => decide (v ∈ lot))
def EndH (ss : List Stm) (lo hi : Str → Int) (s : Stm) (x : Int) (o : Option (List Str)) : Prop := (o = none ∧ x = hi s.n) ∨ ∃ lot, o = some lot ∧ s.t ∈ lot ∧ s.h ∉ lot ∧ x = - MM.lack (oth ss s.n) lo hi (fun v => decide (v ∈ lot))
def ShortLot (o : Option (List Str)) : Prop := ∀ l, o = some l → l.length ≤ 24
structure RngR (ks : List Str) (ss : List Stm) (lo hi : Str → Int) (s : Stm) (x y : Int) (F G : Str → Int) (o1 o2 : Option (List Str)) : Prop where
  f : Good ks ss lo hi F
  g : Good ks ss lo hi G
  fx : F s.n = x
  gy : G s.n = y
  l : EndL ss lo hi s x o1
  h : EndH ss lo hi s y o2
theorem clin_set {ss : List Stm} {n : Str} {lo hi F1 : Str → Int} {z : Int} {B : Str → Prop} (h : MM.ClIn (othN ss n) lo hi F1 B) : MM.ClIn (othN ss n) lo hi (MM.setF F1 n z) B := fun a b ⟨l, hl, c⟩ hb => h a b ⟨l, hl, by
  have e : MM.setF F1 n z l.n = F1 l.n := by unfold MM.setF; rw [if_neg (oth_n hl)]
  rw [e] at c; exact c⟩ hb
theorem low_end {ks : List Str} {ss : List Stm} {lo hi F F1 : Str → Int} (wf : Wf ks ss) (g : Good ks ss lo hi F) {s : Stm} (hs : s ∈ ss) (hne : s.t ≠ s.h) {x : Int} (h0 : 0 ≤ x) (h1 : x ≤ F s.n - lo s.n) (p : Pushed (othN ss s.n) lo hi F s.t s.h x F1) {o : Option (List Str)} (L : LotR ks (othN ss s.n) lo hi F1 s.t s.h x (F s.n - lo s.n) o) :
    Good ks ss lo hi (MM.setF F1 s.n (F1 s.n - x)) ∧ EndL ss lo hi s (F1 s.n - x) o := by
  have nn : s.n ∉ (othN ss s.n).map (·.n) := fun z => by
    obtain ⟨l, hl, e⟩ := List.mem_map.mp z
    exact oth_n hl e
  have e1 : F1 s.n = F s.n := p.off _ nn
  have gw := g.1 (ln s) (List.mem_map.mpr ⟨s, hs, rfl⟩)
  have gw : lo s.n ≤ F s.n ∧ F s.n ≤ hi s.n := gw
  obtain ⟨tm, hm⟩ := wf_he wf (ln s) (List.mem_map.mpr ⟨s, hs, rfl⟩)
  have tm : s.t ∈ ks := tm
  have hm : s.h ∈ ks := hm
  have G := good_moved wf g hs (δ := - x) (F1 := F1) p.w p.off (fun v => by rw [p.net v]; split <;> split <;> omega) (by omega) (by omega)
  rw [show F s.n + -x = F1 s.n - x by omega] at G
  refine ⟨G, ?_⟩
  rcases L with ⟨rfl, hx⟩ | ⟨W, rfl, w1, w2, w3, w4⟩
  · exact .inl ⟨rfl, by omega⟩
  · refine .inr ⟨_, rfl, List.mem_filter.mpr ⟨hm, decide_eq_true w1⟩, fun z => w2 (of_decide_eq_true (List.mem_filter.mp z).2), ?_⟩
    have := end_lot wf G hs (clin_set w3)
    rw [if_neg (fun z => w2 z.1), if_pos ⟨w1, w2⟩] at this
    have e2 : MM.setF F1 s.n (F1 s.n - x) s.n = F1 s.n - x := by unfold MM.setF; rw [if_pos rfl]
    rw [e2] at this
    omega
theorem high_end {ks : List Str} {ss : List Stm} {lo hi F F1 : Str → Int} (wf : Wf ks ss) (g : Good ks ss lo hi F) {s : Stm} (hs : s ∈ ss) (hne : s.t ≠ s.h) {x : Int} (h0 : 0 ≤ x) (h1 : x ≤ hi s.n - F s.n) (p : Pushed (othN ss s.n) lo hi F s.h s.t x F1) {o : Option (List Str)} (L : LotR ks (othN ss s.n) lo hi F1 s.h s.t x (hi s.n - F s.n) o) :
    Good ks ss lo hi (MM.setF F1 s.n (F1 s.n + x)) ∧ EndH ss lo hi s (F1 s.n + x) o := by
  have nn : s.n ∉ (othN ss s.n).map (·.n) := fun z => by
    obtain ⟨l, hl, e⟩ := List.mem_map.mp z
    exact oth_n hl e
  have e1 : F1 s.n = F s.n := p.off _ nn
  have gw := g.1 (ln s) (List.mem_map.mpr ⟨s, hs, rfl⟩)
  have gw : lo s.n ≤ F s.n ∧ F s.n ≤ hi s.n := gw
  obtain ⟨tm, hm⟩ := wf_he wf (ln s) (List.mem_map.mpr ⟨s, hs, rfl⟩)
  have tm : s.t ∈ ks := tm
  have hm : s.h ∈ ks := hm
  have G := good_moved wf g hs (δ := x) (F1 := F1) p.w p.off (fun v => by rw [p.net v]) (by omega) (by omega)
  rw [show F s.n + x = F1 s.n + x by omega] at G
  refine ⟨G, ?_⟩
  rcases L with ⟨rfl, hx⟩ | ⟨W, rfl, w1, w2, w3, w4⟩
  · exact .inl ⟨rfl, by omega⟩
  · refine .inr ⟨_, rfl, List.mem_filter.mpr ⟨tm, decide_eq_true w1⟩, fun z => w2 (of_decide_eq_true (List.mem_filter.mp z).2), ?_⟩
    have := end_lot wf G hs (clin_set w3)
    rw [if_pos ⟨w1, w2⟩, if_neg (fun z => w2 z.1)] at this
    have e2 : MM.setF F1 s.n (F1 s.n + x) s.n = F1 s.n + x := by unfold MM.setF; rw [if_pos rfl]
    rw [e2] at this
    omega
end MS
set_option Elab.async false
set_option linter.all false
set_option maxRecDepth 100000
set_option maxHeartbeats 4000000
namespace MS
open PySem PySem.Spec PyProof.Rows L2 Evl
section
variable {P : Program} {w : World} {K : PySem.W.Frag} {mg : Str → Option Value} {base : Heap} {aP aM aR : Addr}
abbrev s_range_within : Stmt := top 49
abbrev N_range_within : List Str := ["plant", "limits", "name", "_", "tail", "head", "flows", "low", "high", "low_flows", "high_flows", "others", "line", "less", "low_lot", "more", "high_lot"]
theorem sc_range_within : FnScope N_range_within ["plant", "limits", "name"] (C8.fnScope s_range_within) := C8.fnScope_by (by decide +kernel)

def sp_range_within (aP aR : Addr) : Sp := fun vs H Q _ => ∃ (p d : Addr) (ks : List Str) (ss : List Stm) (ns : List Str) (lo hi : Str → Int) (s : Stm), vs = [V.ref p, V.ref d, V.str s.n] ∧ PL aP H p d ks ss ns lo hi ∧ s ∈ ss ∧ (∃ F, Good ks ss lo hi F) ∧
  ∀ (q : Addr) (H' : Hp) (x y : Int) (F G : Str → Int) (o1 o2 : Option (List Str)), Ex H H' → RangeAt aR H' q x y ns F G o1 o2 → RngR ks ss lo hi s x y F G o1 o2 → Q (.ref q) H'
theorem c_range_within_ (T : Txt K mg aP aM aR) (D : Dn K mg "range_within" s_range_within ["plant", "limits", "name"]) (c_stream_named : C8.Met P w K mg base 1 aP "stream_named" (sp_stream_named aP) []) (c_lines_of : C8.Cal P w K mg base 3 "lines_of" (sp_lines_of aP) []) (c_flows_within : C8.Cal P w K mg base 7 "flows_within" (sp_flows_within aP) [])
    (c_Range : C8.Mak P w K mg base 1 "Range" aR (sp_rinit aR) []) (c_pushed_to : C8.Cal P w K mg base 4 "pushed_to" (sp_pushed_to aP) []) : C8.Cal P w K mg base 8 "range_within" (sp_range_within aP aR) [] := by
  refine cal_of D sc_range_within (fun vs H Q E h => ?_) (fun f cdv A outer s H vs Q E hr h => ?_)
  · obtain ⟨p, d, ks, ss, ns, lo, hi, s, rfl, _⟩ := h
    rfl
  · obtain ⟨p, d, ks, ss, ns, lo, hi, x, rfl, a, hx, ⟨F0, g0⟩, q⟩ := h
    have wf := a.wf
    have ln := a.k.len wf.s1
    have xn : x.n ∈ ns := (a.k.2 _).mpr (List.mem_map.mpr ⟨x, hx, rfl⟩)
    refine ⟨_, (pss_cons (ps_asg (C8.pe_mt c_stream_named hr (by decide) (pv 0) (pa_cons (pv 2) pa_nil)) (pg_tup rfl (pgs_cons (pg_name (i := 3) sc_range_within.nd rfl (Or.inl rfl)) (pgs_cons (pg_name (i := 4) sc_range_within.nd rfl (Or.inl rfl)) (pgs_cons (pg_name (i := 5) sc_range_within.nd rfl (Or.inl rfl)) (pgs_cons (pg_name (i := 3) sc_range_within.nd rfl (Or.inl rfl)) (pgs_cons (pg_name (i := 3) sc_range_within.nd rfl (Or.inl rfl)) pgs_nil)))))))
      (pss_cons (ps_set (i := 6) sc_range_within.nd rfl (Or.inl rfl) (C8.pe_c c_flows_within hr (by decide) (by rfl) (pa_cons (pv 0) (pa_cons (pv 1) pa_nil))))
      (pss_cons (ps_if (pt_cmp (pc_isN (pv 6)) rfl) (pss_one (ps_ret pe_non)) pss_nil)
      (pss_cons (ps_asg (pe_dget (hu_of hr) (pv 1) (pv 2) (fun _ _ => rfl)) (pg_tup rfl (pgs_cons (pg_name (i := 7) sc_range_within.nd rfl (Or.inl rfl)) (pgs_cons (pg_name (i := 8) sc_range_within.nd rfl (Or.inl rfl)) pgs_nil))))
      (pss_cons (ps_set (i := 9) sc_range_within.nd rfl (Or.inl rfl) (pe_callTy call_dictD (by rfl) T.n_dict (by decide +kernel) (pa_cons (pv 6) pa_nil)))
      (pss_cons (ps_set (i := 10) sc_range_within.nd rfl (Or.inl rfl) (pe_callTy call_dictD (by rfl) T.n_dict (by decide +kernel) (pa_cons (pv 6) pa_nil)))
      (pss_cons (ps_if (pt_cmpR op_eq (pv 4) (pv 5) (nomark _)) (pss_cons (ps_dput (hu_of hr) (pv 9) (pv 2) (pv 7) rfl)
      (pss_cons (ps_dput (hu_of hr) (pv 10) (pv 2) (pv 8) rfl)
      (pss_one (ps_ret (C8.pe_mk c_Range hr (by decide) (by rfl) (pa_cons (pv 7) (pa_cons (pv 8) (pa_cons (pv 9) (pa_cons (pv 10) (pa_cons pe_non (pa_cons pe_non pa_nil))))))))))) pss_nil)
      (pss_cons (ps_setLc (i := 11) (own := [("line", 12)]) (g := (gName 12)) rfl sc_range_within.nd rfl rfl (sw_true rfl rfl rfl (by decide +kernel)) (pi_list (C8.pe_c c_lines_of hr (by decide) (by rfl) (pa_cons (pv 0) pa_nil))) (blkOk_by (own := [("line", 12)]) (N := N_range_within) (sc := C8.fnScope s_range_within) (by decide +kernel)) (fun _ _ _ _ _ => (pg_name (i := 12) sc_range_within.nd rfl (Or.inl rfl))) (fun _ _ _ _ _ => (pts_one (pt_cmpR op_ne (pe_ix (ix_tupK K) (pv 12) pe_int (fun _ _ => rfl)) (pv 2) (nomark _)))) (fun _ _ _ _ _ => (pv 12)))
      (pss_cons (ps_asg (C8.pe_c c_pushed_to hr (by decide) (by rfl) (pa_cons (pv 0) (pa_cons (pv 11) (pa_cons (pv 1) (pa_cons (pv 9) (pa_cons (pv 4) (pa_cons (pv 5) (pa_cons (pe_op op_sub (pe_dget (hu_of hr) (pv 6) (pv 2) (fun _ _ => rfl)) (pv 7)) pa_nil)))))))) (pg_tup rfl (pgs_cons (pg_name (i := 13) sc_range_within.nd rfl (Or.inl rfl)) (pgs_cons (pg_name (i := 14) sc_range_within.nd rfl (Or.inl rfl)) pgs_nil))))
      (pss_cons (ps_asg (C8.pe_c c_pushed_to hr (by decide) (by rfl) (pa_cons (pv 0) (pa_cons (pv 11) (pa_cons (pv 1) (pa_cons (pv 10) (pa_cons (pv 5) (pa_cons (pv 4) (pa_cons (pe_op op_sub (pv 8) (pe_dget (hu_of hr) (pv 6) (pv 2) (fun _ _ => rfl))) pa_nil)))))))) (pg_tup rfl (pgs_cons (pg_name (i := 15) sc_range_within.nd rfl (Or.inl rfl)) (pgs_cons (pg_name (i := 16) sc_range_within.nd rfl (Or.inl rfl)) pgs_nil))))
      (pss_cons (ps_daug (hu_of hr) (pv 9) (pv 2) (pv 13) in_sub (fun _ _ _ => rfl))
      (pss_cons (ps_daug (hu_of hr) (pv 10) (pv 2) (pv 15) in_add (fun _ _ _ => rfl))
      (pss_one (ps_ret (C8.pe_mk c_Range hr (by decide) (by rfl) (pa_cons (pe_dget (hu_of hr) (pv 9) (pv 2) (fun _ _ => rfl)) (pa_cons (pe_dget (hu_of hr) (pv 10) (pv 2) (fun _ _ => rfl)) (pa_cons (pv 9) (pa_cons (pv 10) (pa_cons (pv 14) (pa_cons (pv 16) pa_nil))))))))))))))))))))), ?_⟩
    rw [show start N_range_within [V.ref p, V.ref d, V.str x.n] = [some (.ref p), some (.ref d), some (.str x.n), none, none, none, none, none, none, none, none, none, none, none, none, none, none] from rfl]
    refine q_tgtP (ep_named (x := x) (ev_var rfl) (ev_var rfl) a.p wf.sn hx) fun v H1 e1 ⟨sa, hv, hsa⟩ => ?_
    subst hv
    refine g5 hsa ?_
    dsimp only [List.set_cons_zero, List.set_cons_succ]
    refine q_asgP (ep_flows (ea_cons (ev_var rfl) (ea_cons (ev_var rfl) ea_nil)) (a.mono e1)) fun v H2 e2 hv => ?_
    have e02 := e1.trans e2
    rcases hv with ⟨rfl, b⟩ | ⟨fl, F, rfl, hfl, g⟩
    · exact absurd g0 fun z => b.not wf z
    refine q_when (b := false) (et_is (et_B (ev_isN (x := .ref fl) (ev_var rfl))) (by simp)) (fun hb => nomatch hb) (fun _ H3 e3 => ?_)
    have e03 := e02.trans e3
    have hf3 := e3 _ _ hfl
    obtain ⟨o, B, hd, hB⟩ := id a.d
    refine q_tgt (ev_dget (ev_var rfl) (ev_var rfl) (.inr ⟨o, e03 _ _ hd⟩) xn) fun H4 e4 => g2 ((e03.trans e4) _ _ (hB _ xn)) ?_
    dsimp only [List.set_cons_zero, List.set_cons_succ]
    have hf4 := e4 _ _ hf3
    refine q_asgN (en_dictD (ev_var rfl) (.inl hf4)) fun lf H5 l0 e5 hlf => ?_
    refine q_asgN (en_dictD (ev_var rfl) (.inl (e5 _ _ hf4))) fun hf H6 h0 e6 hhf => ?_
    dsimp only [List.set_cons_zero, List.set_cons_succ]
    have e06 := ((e03.trans e4).trans e5).trans e6
    have L0 : H lf = none := fresh_back (e03.trans e4) l0
    have M0 : H hf = none := fresh_back ((e03.trans e4).trans e5) h0
    have nlh : lf ≠ hf := fun z => ne_none hlf h0 z.symm
    have hlf6 := e6 _ _ hlf
    have hfl6 := e6 _ _ (e5 _ _ hf4)
    have nfl : fl ≠ lf := fun z => ne_none hf4 l0 z.symm
    have nfh : fl ≠ hf := fun z => ne_none (e5 _ _ hf4) h0 z.symm
    refine q_when (b := decide (x.t = x.h)) (et_test (ev_eqS (ev_var rfl) (ev_var rfl))) (fun hb H7 e7 => ?_) (fun hb H7 e7 => ?_)
    · have hte := of_decide_eq_true hb
      have gw : lo x.n ≤ F x.n ∧ F x.n ≤ hi x.n := g.1 (MS.ln x) (List.mem_map.mpr ⟨x, hx, rfl⟩)
      refine q_dputS (e7 _ _ hlf6) (ev_var rfl) (ev_var rfl) (ev_var rfl) (by omega) fun H8 e8 => ?_
      have h8 : (upd H8 lf (.dK (putK (fd ns F) (Sum.inr x.n) (.int (lo x.n))))) hf = some (.dK (fd ns F)) := by rw [upd_ne nlh.symm]; exact e8 _ _ (e7 _ _ hhf)
      refine q_dputS h8 (ev_var rfl) (ev_var rfl) (ev_var rfl) (by omega) fun H9 e9 => ?_
      have E9 : Ex H (upd H9 hf (.dK (putK (fd ns F) (Sum.inr x.n) (.int (hi x.n))))) := Ex.mut ((Ex.mut ((e06.trans e7).trans e8) L0).trans e9) M0
      refine s_retN (en_mk (Pn := fun r H' => RangeAt aR H' r (lo x.n) (hi x.n) ns (MM.setF F x.n (lo x.n)) (MM.setF F x.n (hi x.n)) none none) (vs := [.int (lo x.n), .int (hi x.n), .ref lf, .ref hf, .non, .non]) (ea_cons (ev_var rfl) (ea_cons (ev_var rfl) (ea_cons (ev_var rfl) (ea_cons (ev_var rfl) (ea_cons ev_c (ea_cons ev_c ea_nil)))))) fun r dx H10 Q E e10 hr q => ?_) fun r H11 _ e11 hR => ?_
      · exact ⟨r, dx, lf, hf, _, _, ns, _, _, .non, .non, none, none, rfl, hr, .inl (e10 _ _ (by rw [upd_ne nlh, e9 _ _ upd_same]; exact congrArg (fun k => some (HO.dK k)) (putK_fd xn))), .inl (e10 _ _ (by rw [upd_same]; exact congrArg (fun k => some (HO.dK k)) (putK_fd xn))), rfl, rfl, q⟩
      · refine q r H11 _ _ _ _ none none (E9.trans e11) hR ⟨good_loop wf g hx hte (Int.le_refl _) (by omega), good_loop wf g hx hte (by omega) (Int.le_refl _), by unfold MM.setF; rw [if_pos rfl], by unfold MM.setF; rw [if_pos rfl], .inl ⟨rfl, rfl⟩, .inl ⟨rfl, rfl⟩⟩
    have hne := of_decide_eq_false hb
    have e07 := e06.trans e7
    have gw : lo x.n ≤ F x.n ∧ F x.n ≤ hi x.n := g.1 (MS.ln x) (List.mem_map.mpr ⟨x, hx, rfl⟩)
    have ll := lines_len wf.s1
    refine q_asgN (en_lcF (ys := linesOf ss) (row := row3) (ep_lines (ea_cons (ev_var rfl) ea_nil) (a.p.mono e07) wf.s1) (by omega) (fun l => decide (l.n ≠ x.n)) fun b y H' hy e hb => ⟨_, fun Q q => q, rfl, et_test (ev_neS (ev_ixT (i := 0) (ev_var rfl) ev_c hb rfl) (ev_var rfl)), fun _ => ev_var rfl⟩) fun ol H8 _ e8 hol => ?_
    have hol : TL H8 ol ((othN ss x.n).map row3) := hol
    have e08 := e07.trans e8
    have e68 := e7.trans e8
    have lO : (othN ss x.n).length ≤ 60 := by
      have := List.length_filter_le (fun l : Ln => decide (l.n ≠ x.n)) (linesOf ss)
      unfold othN; omega
    have iO : ∀ y ∈ othN ss x.n, y.n ∈ ns ∧ y.n ∈ ns := fun y hy => lines_in a.k y (List.mem_filter.mp hy).1
    have nO := othN_nd (wf_nd wf) x.n
    have wO : MM.Within (othN ss x.n) lo hi F := fun l hl => g.1 l (oth_in hl)
    have lf8 := e68 _ _ hlf6
    have hf8 := e68 _ _ hhf
    have fl8 := e68 _ _ hfl6
    have AL : AI H8 ol d lf (othN ss x.n) ns ns lo hi F := ⟨hol, a.d.mono e08, .inl lf8, iO, lO⟩
    -- less, low_lot
    dsimp only [List.set_cons_zero, List.set_cons_succ]
    refine mcall (vs := [.ref p, .ref ol, .ref d, .ref lf, .str x.t, .str x.h, .int (F x.n - lo x.n)]) (ea_cons (ev_var rfl) (ea_cons (ev_var rfl) (ea_cons (ev_var rfl) (ea_cons (ev_var rfl) (ea_cons (ev_var rfl) (ea_cons (ev_var rfl) (ea_cons (ev_sub (i := F x.n) (j := lo x.n) (ev_dget (ev_var rfl) (ev_var rfl) (.inl fl8) xn) (ev_var rfl)) ea_nil))))))) fun H9 e9 => ?_
    refine ⟨p, ol, d, lf, x.t, x.h, F x.n - lo x.n, ks, ss, othN ss x.n, ns, ns, lo, hi, F, rfl, a.p.mono (e08.trans e9), wf.k2, AL.mono e9, e9 _ _ lf8, nO, wO, hne, by omega, by omega, fun r1 H10 z1 F1 v1 o1 z10 z11 P1 L1 e10 f10 r10 lot1 => ?_⟩
    refine g2 r10 ?_
    dsimp only [List.set_cons_zero, List.set_cons_succ]
    have x10 : ExD lf H8 H10 := (ExD.of_ex e9).trans e10
    have hf10 := x10 _ _ nlh.symm hf8
    have fl10 := x10 _ _ nfl fl8
    have EH10 : Ex H H10 := ExD.ex e08 L0 x10
    have AH : AI H10 ol d hf (othN ss x.n) ns ns lo hi F := ⟨hol.butD lf8 x10, a.d.mono EH10, .inl hf10, iO, lO⟩
    -- more, high_lot
    refine mcall (vs := [.ref p, .ref ol, .ref d, .ref hf, .str x.h, .str x.t, .int (hi x.n - F x.n)]) (ea_cons (ev_var rfl) (ea_cons (ev_var rfl) (ea_cons (ev_var rfl) (ea_cons (ev_var rfl) (ea_cons (ev_var rfl) (ea_cons (ev_var rfl) (ea_cons (ev_sub (i := hi x.n) (j := F x.n) (ev_var rfl) (ev_dget (ev_var rfl) (ev_var rfl) (.inl fl10) xn)) ea_nil))))))) fun H11 e11 => ?_
    refine ⟨p, ol, d, hf, x.h, x.t, hi x.n - F x.n, ks, ss, othN ss x.n, ns, ns, lo, hi, F, rfl, a.p.mono (EH10.trans e11), wf.k2, AH.mono e11, e11 _ _ hf10, nO, wO, fun z => hne z.symm, by omega, by omega, fun r2 H12 z2 F2 v2 o2 z20 z21 P2 L2 e12 f12 r12 lot2 => ?_⟩
    refine g2 r12 ?_
    dsimp only [List.set_cons_zero, List.set_cons_succ]
    have x12 : ExD hf H10 H12 := (ExD.of_ex e11).trans e12
    have lf12 := x12 _ _ nlh f10
    have EH12 : Ex H H12 := ExD.ex EH10 M0 x12
    have lot1 := lot1.butD hf10 x12
    refine q_daug (ev_var rfl) (ev_var rfl) lf12 xn (by omega) (ev_var rfl) r_sub fun H13 e13 => ?_
    have h13 : (upd H13 lf (.dK (fd ns (MM.setF F1 x.n (F1 x.n - z1))))) hf = some (.dK (fd ns F2)) := by rw [upd_ne nlh.symm]; exact e13 _ _ f12
    refine q_daug (ev_var rfl) (ev_var rfl) h13 xn (by omega) (ev_var rfl) r_add fun H14 e14 => ?_
    have l14 : (upd H14 hf (.dK (fd ns (MM.setF F2 x.n (F2 x.n + z2))))) lf = some (.dK (fd ns (MM.setF F1 x.n (F1 x.n - z1)))) := by rw [upd_ne nlh]; exact e14 _ _ upd_same
    have h14 : (upd H14 hf (.dK (fd ns (MM.setF F2 x.n (F2 x.n + z2))))) hf = some (.dK (fd ns (MM.setF F2 x.n (F2 x.n + z2)))) := upd_same
    have E14 : Ex H (upd H14 hf (.dK (fd ns (MM.setF F2 x.n (F2 x.n + z2))))) := Ex.mut ((Ex.mut (EH12.trans e13) L0).trans e14) M0
    have lot1 := ((lot1.mono e13).butD (e13 _ _ lf12) (ExD.upd (o := .dK (fd ns (MM.setF F1 x.n (F1 x.n - z1)))))).mono e14
    have lot2 := ((lot2.mono e13).butD (e13 _ _ lf12) (ExD.upd (o := .dK (fd ns (MM.setF F1 x.n (F1 x.n - z1)))))).mono e14
    have lot1 := lot1.butD (e14 _ _ h13) (ExD.upd (o := .dK (fd ns (MM.setF F2 x.n (F2 x.n + z2)))))
    have lot2 := lot2.butD (e14 _ _ h13) (ExD.upd (o := .dK (fd ns (MM.setF F2 x.n (F2 x.n + z2)))))
    have eL : MM.setF F1 x.n (F1 x.n - z1) x.n = F1 x.n - z1 := by unfold MM.setF; rw [if_pos rfl]
    have eH : MM.setF F2 x.n (F2 x.n + z2) x.n = F2 x.n + z2 := by unfold MM.setF; rw [if_pos rfl]
    obtain ⟨GL, EL⟩ := low_end wf g hx hne z10 z11 P1 L1
    obtain ⟨GH, EH⟩ := high_end wf g hx hne z20 z21 P2 L2
    refine s_retN (en_mk (Pn := fun r H' => RangeAt aR H' r (F1 x.n - z1) (F2 x.n + z2) ns (MM.setF F1 x.n (F1 x.n - z1)) (MM.setF F2 x.n (F2 x.n + z2)) o1 o2) (vs := [.int (F1 x.n - z1), .int (F2 x.n + z2), .ref lf, .ref hf, v1, v2]) (ea_cons (ev_is (ev_dget (ev_var rfl) (ev_var rfl) (.inl l14) xn) (by rw [eL])) (ea_cons (ev_is (ev_dget (ev_var rfl) (ev_var rfl) (.inl h14) xn) (by rw [eH])) (ea_cons (ev_var rfl) (ea_cons (ev_var rfl) (ea_cons (ev_var rfl) (ea_cons (ev_var rfl) ea_nil)))))) fun r dx H15 Q E e15 hr q => ?_) fun r H16 _ e16 hR => ?_
    · exact ⟨r, dx, lf, hf, _, _, ns, _, _, v1, v2, o1, o2, rfl, hr, .inl (e15 _ _ l14), .inl (e15 _ _ h14), lot1.mono e15, lot2.mono e15, q⟩
    · exact q r H16 _ _ _ _ o1 o2 (E14.trans e16) hR ⟨GL, GH, eL, eH, EL, EH⟩
abbrev s_range_of : Stmt := top 50
abbrev N_range_of : List Str := ["plant", "readings", "name"]
theorem sc_range_of : FnScope N_range_of ["plant", "readings", "name"] (C8.fnScope s_range_of) := C8.fnScope_by (by decide +kernel)

def sp_range_of (aP aR : Addr) : Sp := fun vs H Q _ => ∃ (p r : Addr) (ks : List Str) (ss : List Stm) (rn : List Str) (nu to lo hi : Str → Int) (s : Stm), vs = [V.ref p, V.ref r, V.str s.n] ∧ PR aP H p r ks ss rn nu to lo hi ∧ s ∈ ss ∧ (∃ F, Good ks ss lo hi F) ∧
  ∀ (q : Addr) (H' : Hp) (x y : Int) (F G : Str → Int) (o1 o2 : Option (List Str)), Ex H H' → RangeAt aR H' q x y (ss.map (·.n)) F G o1 o2 → RngR ks ss lo hi s x y F G o1 o2 → Q (.ref q) H'
theorem c_range_of_ (T : Txt K mg aP aM aR) (D : Dn K mg "range_of" s_range_of ["plant", "readings", "name"]) (c_limits_of : C8.Cal P w K mg base 3 "limits_of" (sp_limits_of aP) []) (c_range_within : C8.Cal P w K mg base 8 "range_within" (sp_range_within aP aR) []) : C8.Cal P w K mg base 9 "range_of" (sp_range_of aP aR) [] := by
  refine cal_of D sc_range_of (fun vs H Q E h => ?_) (fun f cdv A outer s H vs Q E hr h => ?_)
  · obtain ⟨p, r, ks, ss, rn, nu, to, lo, hi, s, rfl, _⟩ := h
    rfl
  · obtain ⟨p, r, ks, ss, rn, nu, to, lo, hi, s, rfl, a, hs, hg, q⟩ := h
    refine ⟨_, (pss_one (ps_ret (C8.pe_c c_range_within hr (by decide) (by rfl) (pa_cons (pv 0) (pa_cons (C8.pe_c c_limits_of hr (by decide) (by rfl) (pa_cons (pv 0) (pa_cons (pv 1) pa_nil))) (pa_cons (pv 2) pa_nil)))))), ?_⟩
    refine s_retP (ep_lim3 (Pv := fun v H' => ∃ (q : Addr) (x y : Int) (F G : Str → Int) (o1 o2 : Option (List Str)), v = .ref q ∧ RangeAt aR H' q x y (ss.map (·.n)) F G o1 o2 ∧ RngR ks ss lo hi s x y F G o1 o2) (ev_var rfl) (en_limits (ea_cons (ev_var rfl) (ea_cons (ev_var rfl) ea_nil)) a) (ev_var rfl) fun d H1 e1 hd Q q E => ?_) ?_
    · exact ⟨p, d, ks, ss, ss.map (·.n), lo, hi, s, rfl, ⟨a.p.mono e1, a.wf, hd, keys_self a.wf⟩, hs, hg, fun q' H' x y F G o1 o2 e' h1 h2 => q _ H' e' ⟨q', x, y, F, G, o1, o2, rfl, h1, h2⟩⟩
    · rintro v H1 e1 ⟨q', x, y, F, G, o1, o2, rfl, h1, h2⟩
      exact q q' H1 x y F G o1 o2 e1 h1 h2
end
end MS
set_option Elab.async false
set_option linter.all false
set_option maxRecDepth 100000
set_option maxHeartbeats 4000000
namespace MS
open PySem PySem.Spec PyProof.Rows L2 Evl
open MM (sm sm_nil sm_cons sm_append sm_congr sm_le sm_add sm_sub sm_neg sm_zero sm_filter sm_map)
/-! ### the parted plant -/
abbrev eS : Str := ""
def inK (ss : List Stm) (F : Str → Int) (k : Str) : Int := sm (lns ss) fun l => if l.h = k then F l.n else 0
def outK (ss : List Stm) (F : Str → Int) (k : Str) : Int := sm (lns ss) fun l => if l.t = k then F l.n else 0
theorem nm_ne {z : Str} (h : Nm z) : z ≠ eS := fun e => by
  have := h.1
  rw [e] at this
  exact absurd this (by decide +kernel)
theorem net_io (ss : List Stm) (F : Str → Int) (k : Str) : MM.net (lns ss) F k = inK ss F k - outK ss F k := sm_sub _ _ _
theorem part_names (ss : List Stm) (k : Str) : (partOf ss k).map (·.n) = (lns ss).map (·.n) := by
  unfold partOf
  rw [List.map_map]; rfl
section
variable {ks : List Str} {ss : List Stm} {lo hi F F1 : Str → Int} {k : Str}
theorem part_nd (wf : Wf ks ss) : ((partOf ss k).map (·.n)).Nodup := by rw [part_names]; exact wf_nd wf
theorem ks_ne (wf : Wf ks ss) : ∀ v ∈ ks, v ≠ eS := fun v hv => nm_ne (wf.kN v hv)
theorem ksp_nd (wf : Wf ks ss) : (eS :: ks).Nodup := List.nodup_cons.mpr ⟨fun h => ks_ne wf _ h rfl, wf.kn⟩
theorem part_he (wf : Wf ks ss) : ∀ l ∈ partOf ss k, l.t ∈ eS :: ks ∧ l.h ∈ eS :: ks := fun l hl => by
  obtain ⟨y, hy, rfl⟩ := List.mem_map.mp hl
  obtain ⟨h1, h2⟩ := wf_he wf y hy
  refine ⟨?_, List.mem_cons_of_mem _ h2⟩
  show (if y.t = k then eS else y.t) ∈ _
  split
  · exact List.mem_cons_self
  · exact List.mem_cons_of_mem _ h1
theorem part_net (wf : Wf ks ss) {v : Str} (hv : v ∈ ks) (hk : v ≠ k) (F : Str → Int) : MM.net (partOf ss k) F v = MM.net (lns ss) F v := by
  unfold MM.net partOf
  rw [sm_map]
  refine sm_congr fun l hl => ?_
  show (if l.h = v then F l.n else 0) - (if (if l.t = k then eS else l.t) = v then F l.n else 0) = _
  congr 1
  by_cases c : l.t = k
  · have h1 : (eS : Str) ≠ v := fun z => ks_ne wf v hv z.symm
    have h2 : l.t ≠ v := fun z => hk (z ▸ c)
    rw [if_pos c, if_neg h1, if_neg h2]
  · rw [if_neg c]
theorem part_k (wf : Wf ks ss) (hk : k ∈ ks) (F : Str → Int) : MM.net (partOf ss k) F k = inK ss F k := by
  unfold MM.net partOf inK
  rw [sm_map]
  refine sm_congr fun l hl => ?_
  show (if l.h = k then F l.n else 0) - (if (if l.t = k then eS else l.t) = k then F l.n else 0) = _
  by_cases c : l.t = k
  · rw [if_pos c, if_neg (show ¬ (eS = k) from fun z => ks_ne wf k hk z.symm)]; omega
  · rw [if_neg c, if_neg c]; omega
theorem part_e (wf : Wf ks ss) (F : Str → Int) : MM.net (partOf ss k) F eS = - outK ss F k := by
  unfold MM.net partOf outK
  rw [sm_map, ← sm_neg]
  refine sm_congr fun l hl => ?_
  show (if l.h = eS then F l.n else 0) - (if (if l.t = k then eS else l.t) = eS then F l.n else 0) = _
  obtain ⟨h1, h2⟩ := wf_he wf l hl
  rw [if_neg (ks_ne wf _ h2)]
  by_cases c : l.t = k
  · rw [if_pos c, if_pos rfl, if_pos c]; omega
  · rw [if_neg c, if_neg (ks_ne wf _ h1), if_neg c]; omega
theorem part_within (w : MM.Within (lns ss) lo hi F) : MM.Within (partOf ss k) lo hi F := fun l hl => by
  obtain ⟨y, hy, rfl⟩ := List.mem_map.mp hl
  exact w y hy
theorem within_part (w : MM.Within (partOf ss k) lo hi F) : MM.Within (lns ss) lo hi F := fun l hl => w (part k l) (List.mem_map.mpr ⟨l, hl, rfl⟩)
/-- a push between a knot's two sides keeps what is good -/
theorem good_part (wf : Wf ks ss) (hk : k ∈ ks) (g : Good ks ss lo hi F) {s e : Str} {x : Int} (hse : (s = k ∧ e = eS) ∨ (s = eS ∧ e = k)) (p : Pushed (partOf ss k) lo hi F s e x F1) : Good ks ss lo hi F1 := by
  have kne := ks_ne wf k hk
  refine ⟨within_part p.w, fun v hv => ?_⟩
  have vne := ks_ne wf v hv
  by_cases c : v = k
  · subst c
    have h := g.2 v hv
    rw [net_io, ← part_k wf hv, show outK ss F v = - MM.net (partOf ss v) F eS by rw [part_e wf]; omega] at h
    rw [net_io, ← part_k wf hv, show outK ss F1 v = - MM.net (partOf ss v) F1 eS by rw [part_e wf]; omega, p.net, p.net]
    rcases hse with ⟨rfl, rfl⟩ | ⟨rfl, rfl⟩
    · rw [if_neg (fun z => vne z.symm), if_pos rfl, if_pos rfl, if_neg vne]; omega
    · rw [if_pos rfl, if_neg (fun z => vne z.symm), if_neg vne, if_pos rfl]; omega
  · rw [← part_net wf hv c, p.net, part_net wf hv c, g.2 v hv]
    rcases hse with ⟨rfl, rfl⟩ | ⟨rfl, rfl⟩
    · rw [if_neg (fun z => vne z.symm), if_neg (fun z => c z.symm)]; omega
    · rw [if_neg (fun z => c z.symm), if_neg (fun z => vne z.symm)]; omega
theorem part_bound (wf : Wf ks ss) (hk : k ∈ ks) (w : MM.Within (lns ss) lo hi F) {s e : Str} {x : Int} (hse : (s = k ∧ e = eS) ∨ (s = eS ∧ e = k)) (p : Pushed (partOf ss k) lo hi F s e x F1) : x ≤ sm (lns ss) fun l => hi l.n - lo l.n := by
  have kne := ks_ne wf k hk
  have w1 := within_part p.w
  have h := p.net eS
  rw [part_e wf, part_e wf] at h
  have b1 : outK ss F k - outK ss F1 k ≤ sm (lns ss) fun l => hi l.n - lo l.n := by
    unfold outK
    rw [← sm_sub]
    refine sm_le fun l hl => ?_
    have := w l hl
    have := w1 l hl
    split <;> omega
  have b2 : outK ss F1 k - outK ss F k ≤ sm (lns ss) fun l => hi l.n - lo l.n := by
    unfold outK
    rw [← sm_sub]
    refine sm_le fun l hl => ?_
    have := w l hl
    have := w1 l hl
    split <;> omega
  rcases hse with ⟨rfl, rfl⟩ | ⟨rfl, rfl⟩
  · rw [if_pos rfl, if_neg kne] at h; omega
  · rw [if_neg kne, if_pos rfl] at h; omega
theorem part_tight (wf : Wf ks ss) {W : List Str} {B : Str → Bool} (w : MM.Within (lns ss) lo hi F) (cl : MM.ClIn (partOf ss k) lo hi F (fun v => v ∈ W)) (hB : ∀ v ∈ eS :: ks, (B v = true ↔ v ∈ W)) : MM.lack (partOf ss k) lo hi B = MM.flux (partOf ss k) F B := by
  refine MM.tight_lack (MM.tight_in (part_within w) ?_)
  intro a b ⟨l, hl, c⟩ hb
  have hl := (List.mem_filter.mp hl).1
  obtain ⟨ht, hh⟩ := part_he wf l hl
  have ab : a ∈ eS :: ks ∧ b ∈ eS :: ks := by rcases c with ⟨rfl, rfl, _⟩ | ⟨rfl, rfl, _⟩ <;> exact ⟨by assumption, by assumption⟩
  exact (hB a ab.1).mpr (cl a b ⟨l, hl, c⟩ ((hB b ab.2).mp hb))
/-- the least that passes a knot, by the lot -/
theorem low_through (wf : Wf ks ss) (hk : k ∈ ks) (g : Good ks ss lo hi F) {W : List Str} (w1 : eS ∈ W) (w2 : k ∉ W) (cl : MM.ClIn (partOf ss k) lo hi F (fun v => v ∈ W)) :
    inK ss F k = MM.lack (partOf ss k) lo hi (fun v => decide (v = eS ∨ v ∈ ks.filter fun v => decide (v ∈ W))) := by
  rw [part_tight wf g.1 cl (B := fun v => decide (v = eS ∨ v ∈ ks.filter fun v => decide (v ∈ W))) (fun v hv => ?_), MM.flux_eq (ksp_nd wf) (part_he wf), sm_cons]
  · rw [if_pos (by simp), part_e wf]
    rw [sm_congr (g := fun _ => 0) (fun v hv => ?_), sm_zero]
    · have := g.2 k hk
      rw [net_io] at this
      omega
    · by_cases c : v = k
      · subst c
        rw [if_neg (by simp [ks_ne wf v hv, w2])]
      · rw [part_net wf hv c, g.2 v hv]; split <;> rfl
  · rcases List.mem_cons.mp hv with z | z
    · subst z; simp [w1]
    · simp [ks_ne wf v z, z]
theorem high_through (wf : Wf ks ss) (hk : k ∈ ks) (g : Good ks ss lo hi F) {W : List Str} (w1 : k ∈ W) (w2 : eS ∉ W) (cl : MM.ClIn (partOf ss k) lo hi F (fun v => v ∈ W)) :
    inK ss F k = - MM.lack (partOf ss k) lo hi (fun v => decide (v = k ∨ v ∈ (ks.filter fun v => decide (v ∈ W)).filter fun v => decide (v ≠ k))) := by
  have ek : (eS : Str) ≠ k := fun z => ks_ne wf k hk z.symm
  rw [part_tight wf g.1 cl (B := fun v => decide (v = k ∨ v ∈ (ks.filter fun v => decide (v ∈ W)).filter fun v => decide (v ≠ k))) (fun v hv => ?_), MM.flux_eq (ksp_nd wf) (part_he wf), sm_cons]
  · have ne : (eS : Str) ∉ ks := fun z => ks_ne wf _ z rfl
    rw [if_neg (by simp [ek, ne])]
    rw [sm_congr (g := fun v => if (fun _ => true) v = true then (if k = v then inK ss F k else 0) else 0) (fun v hv => ?_), MM.sm_single wf.kn hk]
    · simp
    · by_cases c : v = k
      · subst c
        rw [if_pos (by simp), part_k wf hv]; simp
      · have c' : k ≠ v := fun z => c z.symm
        rw [part_net wf hv c, g.2 v hv]; simp [c']
  · rcases List.mem_cons.mp hv with z | z
    · subst z
      have ne : (eS : Str) ∉ ks := fun z => ks_ne wf _ z rfl
      simp [ek, ne, w2]
    · by_cases c : v = k
      · subst c; simp [w1]
      · simp [c, z]
end
end MS
set_option Elab.async false
set_option linter.all false
set_option maxRecDepth 100000
set_option maxHeartbeats 4000000
namespace MS
open PySem PySem.Spec PyProof.Rows L2 Evl
section
variable {K : PySem.W.Frag} {σ : L2.St} {H : Hp} {ta tb tc te td ty tv : TE} {t : TT} {D : Ends} {g : TG} {tu tz : TS} {aP aM : Addr}
theorem el_into {E : XK} {p : Addr} {ks : List Str} {ss : List Stm} {k : Str} (h : Ev ta σ H (.ref p)) (h2 : Ev tb σ H (.str k)) (hp : PlantAt aP H p ks ss) (hk : k ∈ ks) (hz : ss.length ≤ 60) : EvL (tMeth aP "streams_into" (sp_streams_into aP) [] E ta (tCons tb tNil)) σ H (((ss.filter fun s => decide (s.h = k)).map (·.n)).map V.str) := fun H1 e Q q => h H1 e _ fun H2 e2 => by
  have hp2 := (hp.mono e).mono e2
  obtain ⟨dx, lk, ls, h1, _, _⟩ := id hp2
  refine ⟨p, dx, _, rfl, h1, lk_no (by decide +kernel) (by decide +kernel), h2 H2 (e.trans e2) _ fun H3 e3 => ?_⟩
  exact ⟨p, ks, ss, k, rfl, hp2.mono e3, hk, hz, fun r H4 hr e4 hl => q r H4 (fresh_back (e2.trans e3) hr) ((e2.trans e3).trans e4) hl⟩
theorem ep_parted {E : XK} {tA : TA} {p : Addr} {ks : List Str} {ss : List Stm} {k : Str} (h : EvA tA σ H [.ref p, .str k]) (hp : PlantAt aP H p ks ss) (hz : ss.length ≤ 60) : EvN (tCall (sp_parted_lines aP) [] E tA) σ H (fun q H' => TL H' q ((partOf ss k).map row3)) := fun H1 e Q q =>
  h H1 e _ fun H2 e2 => ⟨p, ks, ss, k, rfl, hp.mono (e.trans e2), hz, fun q' H' hq' e' h' => q q' H' (fresh_back e2 hq') (e2.trans e') h'⟩
end
theorem keys_sum {ss : List Stm} {ns : List Str} (hk : Keys ns ss) (hn : (ss.map (·.n)).Nodup) (f : Str → Int) : (ns.map f).sum = MM.sm (lns ss) fun l => f l.n := by
  have p : ns.Perm (ss.map (·.n)) := (List.perm_ext_iff_of_nodup hk.1 hn).mpr fun a => hk.2 a
  have h := MM.sm_perm p f
  unfold MM.sm at h ⊢
  rw [h]
  unfold lns
  rw [List.map_map, List.map_map]
  rfl
theorem into_sum (ss : List Stm) (F : Str → Int) (k : Str) : (((ss.filter fun s => decide (s.h = k)).map (·.n)).map F).sum = inK ss F k := by
  rw [List.map_map]
  have h := MM.sm_filter ss (fun s => decide (s.h = k)) (fun s => F s.n)
  unfold inK lns
  rw [MM.sm_map]
  refine Eq.trans h (MM.sm_congr fun s _ => ?_)
  by_cases c : s.h = k <;> simp [c, ln]
structure ThrR (ks : List Str) (ss : List Stm) (lo hi : Str → Int) (k : Str) (x y : Int) (F G : Str → Int) (L1 L2 : List Str) : Prop where
  f : Good ks ss lo hi F
  g : Good ks ss lo hi G
  ex : x = inK ss F k
  ey : y = inK ss G k
  l : x = MM.lack (partOf ss k) lo hi (fun v => decide (v = eS ∨ v ∈ L1))
  h : y = - MM.lack (partOf ss k) lo hi (fun v => decide (v = k ∨ v ∈ L2))
  n1 : k ∉ L1
  n2 : k ∉ L2
  s1 : ∀ v ∈ L1, v ∈ ks
  s2 : ∀ v ∈ L2, v ∈ ks
  z1 : L1.length ≤ 24
  z2 : L2.length ≤ 24
section
variable {P : Program} {w : World} {K : PySem.W.Frag} {mg : Str → Option Value} {base : Heap} {aP aM aR : Addr}
abbrev s_sum_through : Stmt := top 51
abbrev N_sum_through : List Str := ["plant", "flows", "knot", "name"]
theorem sc_sum_through : FnScope N_sum_through ["plant", "flows", "knot"] (C8.fnScope s_sum_through) := C8.fnScope_by (by decide +kernel)

def sp_sum_through (aP : Addr) : Sp := fun vs H Q _ => ∃ (p d : Addr) (ks : List Str) (ss : List Stm) (ns : List Str) (F : Str → Int) (k : Str), vs = [V.ref p, V.ref d, V.str k] ∧ PlantAt aP H p ks ss ∧ k ∈ ks ∧ ss.length ≤ 60 ∧ Rd H d (.dK (fd ns F)) ∧ (∀ s ∈ ss, s.n ∈ ns) ∧ ∀ H', Ex H H' → Q (.int (inK ss F k)) H'
theorem c_sum_through_ (T : Txt K mg aP aM aR) (D : Dn K mg "sum_through" s_sum_through ["plant", "flows", "knot"]) (c_streams_into : C8.Met P w K mg base 2 aP "streams_into" (sp_streams_into aP) []) : C8.Cal P w K mg base 3 "sum_through" (sp_sum_through aP) [] := by
  refine cal_of D sc_sum_through (fun vs H Q E h => ?_) (fun f cdv A outer s H vs Q E hr h => ?_)
  · obtain ⟨p, d, ks, ss, ns, F, k, rfl, _⟩ := h
    rfl
  · obtain ⟨p, d, ks, ss, ns, F, k, rfl, hp, hk, hz, hd, hn, q⟩ := h
    refine ⟨_, (pss_one (ps_ret (pe_callB (cr_sum rfl) (by rfl) T.n_sum (by decide +kernel) (pa_cons (pe_lc (own := [("name", 3)]) (g := (gName 3)) (tt := tYes) rfl sc_sum_through.nd (pi_list (C8.pe_mt c_streams_into hr (by decide) (pv 0) (pa_cons (pv 2) pa_nil))) (blkOk_by (own := [("name", 3)]) (N := N_sum_through) (sc := C8.fnScope s_sum_through) (by decide +kernel)) (fun _ _ _ _ _ => (pg_name (i := 3) sc_sum_through.nd rfl (Or.inl rfl))) (fun _ _ _ _ _ => pts_nil) (fun _ _ _ _ _ => (pe_dget (hu_of hr) (pv 1) (pv 3) (fun _ _ => rfl)))) pa_nil)))), ?_⟩
    have l1 := List.length_filter_le (fun s : Stm => decide (s.h = k)) ss
    refine s_ret (ev_is (ev_sumN (ns := ((ss.filter fun s => decide (s.h = k)).map (·.n)).map F) (ev_isL (el_lc (EvI.of_listN (el_into (ev_var rfl) (ev_var rfl) hp hk hz)) (ys := (ss.filter fun s => decide (s.h = k)).map (·.n)) (by rw [List.length_map]) (by rw [List.length_map, List.length_map]; omega) (fun _ => true) (fun n => .int (F n)) fun i x y H' hx hy e => ?_) (by rw [all_map, List.map_map (g := V.int)]; rfl))) (by rw [into_sum])) q
    rw [List.getElem?_map, hy] at hx
    have hx : V.str y = x := Option.some.inj hx
    subst hx
    obtain ⟨z, hz, rfl⟩ := List.mem_map.mp (List.mem_of_getElem? hy)
    exact ⟨_, fun Q q => q, rfl, et_yes, fun _ => ev_dget (ev_var rfl) (ev_var rfl) (ex_rd e hd) (hn z (List.mem_filter.mp hz).1)⟩
abbrev s_through_of : Stmt := top 52
abbrev N_through_of : List Str := ["plant", "limits", "knot", "flows", "lines", "whole", "low", "high", "low_flows", "high_flows", "_", "low_lot", "high_lot", "other"]
theorem sc_through_of : FnScope N_through_of ["plant", "limits", "knot"] (C8.fnScope s_through_of) := C8.fnScope_by (by decide +kernel)

def sp_through_of (aP aR : Addr) : Sp := fun vs H Q _ => ∃ (p d : Addr) (ks : List Str) (ss : List Stm) (ns : List Str) (lo hi : Str → Int) (k : Str), vs = [V.ref p, V.ref d, V.str k] ∧ PL aP H p d ks ss ns lo hi ∧ k ∈ ks ∧ (∃ F, Good ks ss lo hi F) ∧
  ∀ (q : Addr) (H' : Hp) (x y : Int) (F G : Str → Int) (L1 L2 : List Str), Ex H H' → RangeAt aR H' q x y ns F G (some L1) (some L2) → ThrR ks ss lo hi k x y F G L1 L2 → Q (.ref q) H'
theorem c_through_of_ (T : Txt K mg aP aM aR) (D : Dn K mg "through_of" s_through_of ["plant", "limits", "knot"]) (c_check_knot : C8.Met P w K mg base 1 aP "check_knot" (sp_check_knot aP) []) (c_parted_lines : C8.Cal P w K mg base 3 "parted_lines" (sp_parted_lines aP) []) (c_flows_within : C8.Cal P w K mg base 7 "flows_within" (sp_flows_within aP) [])
    (c_Range : C8.Mak P w K mg base 1 "Range" aR (sp_rinit aR) []) (c_pushed_to : C8.Cal P w K mg base 4 "pushed_to" (sp_pushed_to aP) []) (c_sum_through : C8.Cal P w K mg base 3 "sum_through" (sp_sum_through aP) []) : C8.Cal P w K mg base 8 "through_of" (sp_through_of aP aR) [] := by
  refine cal_of D sc_through_of (fun vs H Q E h => ?_) (fun f cdv A outer s H vs Q E hr h => ?_)
  · obtain ⟨p, d, ks, ss, ns, lo, hi, k, rfl, _⟩ := h
    rfl
  · obtain ⟨p, d, ks, ss, ns, lo, hi, k, rfl, a, hk, ⟨F0, g0⟩, q⟩ := h
    have wf := a.wf
    have s1 := wf.s1
    have ln := a.k.len wf.s1
    have sn : ∀ s ∈ ss, s.n ∈ ns := fun s hs => (a.k.2 _).mpr (List.mem_map.mpr ⟨s, hs, rfl⟩)
    have kne := ks_ne wf k hk
    refine ⟨_, (pss_cons (ps_expr (C8.pe_mt c_check_knot hr (by decide) (pv 0) (pa_cons (pv 2) pa_nil)))
      (pss_cons (ps_set (i := 3) sc_through_of.nd rfl (Or.inl rfl) (C8.pe_c c_flows_within hr (by decide) (by rfl) (pa_cons (pv 0) (pa_cons (pv 1) pa_nil))))
      (pss_cons (ps_if (pt_cmp (pc_isN (pv 3)) rfl) (pss_one (ps_ret pe_non)) pss_nil)
      (pss_cons (ps_set (i := 4) sc_through_of.nd rfl (Or.inl rfl) (C8.pe_c c_parted_lines hr (by decide) (by rfl) (pa_cons (pv 0) (pa_cons (pv 2) pa_nil))))
      (pss_cons (ps_set (i := 5) sc_through_of.nd rfl (Or.inl rfl) (pe_op op_add pe_int (pe_callB (cr_sum rfl) (by rfl) T.n_sum (by decide +kernel) (pa_cons (pe_lc (own := [("low", 6), ("high", 7)]) (g := (gTup K 2 (gCons (gName 6) (gCons (gName 7) gNil)))) (tt := tYes) rfl sc_through_of.nd (pi_values (pv 1)) (blkOk_by (own := [("low", 6), ("high", 7)]) (N := N_through_of) (sc := C8.fnScope s_through_of) (by decide +kernel)) (fun _ _ _ _ _ => (pg_tup rfl (pgs_cons (pg_name (i := 6) sc_through_of.nd rfl (Or.inl rfl)) (pgs_cons (pg_name (i := 7) sc_through_of.nd rfl (Or.inl rfl)) pgs_nil)))) (fun _ _ _ _ _ => pts_nil) (fun _ _ _ _ _ => (pe_op op_sub (pv 7) (pv 6)))) pa_nil))))
      (pss_cons (ps_set (i := 8) sc_through_of.nd rfl (Or.inl rfl) (pe_callTy call_dictD (by rfl) T.n_dict (by decide +kernel) (pa_cons (pv 3) pa_nil)))
      (pss_cons (ps_set (i := 9) sc_through_of.nd rfl (Or.inl rfl) (pe_callTy call_dictD (by rfl) T.n_dict (by decide +kernel) (pa_cons (pv 3) pa_nil)))
      (pss_cons (ps_asg (C8.pe_c c_pushed_to hr (by decide) (by rfl) (pa_cons (pv 0) (pa_cons (pv 4) (pa_cons (pv 1) (pa_cons (pv 8) (pa_cons (pv 2) (pa_cons (C8.pe_gc (by rfl) T.g_APART) (pa_cons (pv 5) pa_nil)))))))) (pg_tup rfl (pgs_cons (pg_name (i := 10) sc_through_of.nd rfl (Or.inl rfl)) (pgs_cons (pg_name (i := 11) sc_through_of.nd rfl (Or.inl rfl)) pgs_nil))))
      (pss_cons (ps_asg (C8.pe_c c_pushed_to hr (by decide) (by rfl) (pa_cons (pv 0) (pa_cons (pv 4) (pa_cons (pv 1) (pa_cons (pv 9) (pa_cons (C8.pe_gc (by rfl) T.g_APART) (pa_cons (pv 2) (pa_cons (pv 5) pa_nil)))))))) (pg_tup rfl (pgs_cons (pg_name (i := 10) sc_through_of.nd rfl (Or.inl rfl)) (pgs_cons (pg_name (i := 12) sc_through_of.nd rfl (Or.inl rfl)) pgs_nil))))
      (pss_cons (ps_set (i := 6) sc_through_of.nd rfl (Or.inl rfl) (C8.pe_c c_sum_through hr (by decide) (by rfl) (pa_cons (pv 0) (pa_cons (pv 8) (pa_cons (pv 2) pa_nil)))))
      (pss_cons (ps_set (i := 7) sc_through_of.nd rfl (Or.inl rfl) (C8.pe_c c_sum_through hr (by decide) (by rfl) (pa_cons (pv 0) (pa_cons (pv 9) (pa_cons (pv 2) pa_nil)))))
      (pss_cons (ps_setLc (i := 12) (own := [("other", 13)]) (g := (gName 13)) rfl sc_through_of.nd rfl rfl (sw_true rfl rfl rfl (by decide +kernel)) (pi_list (pv 12)) (blkOk_by (own := [("other", 13)]) (N := N_through_of) (sc := C8.fnScope s_through_of) (by decide +kernel)) (fun _ _ _ _ _ => (pg_name (i := 13) sc_through_of.nd rfl (Or.inl rfl))) (fun _ _ _ _ _ => (pts_one (pt_cmpR op_ne (pv 13) (pv 2) (nomark _)))) (fun _ _ _ _ _ => (pv 13)))
      (pss_one (ps_ret (C8.pe_mk c_Range hr (by decide) (by rfl) (pa_cons (pv 6) (pa_cons (pv 7) (pa_cons (pv 8) (pa_cons (pv 9) (pa_cons (pv 11) (pa_cons (pv 12) pa_nil))))))))))))))))))))), ?_⟩
    rw [show start N_through_of [V.ref p, V.ref d, V.str k] = [some (.ref p), some (.ref d), some (.str k), none, none, none, none, none, none, none, none, none, none, none] from rfl]
    obtain ⟨dx, lk, ls, h1, _, _⟩ := id a.p
    refine q_drop (v := .non) (fun H1 e Q q => ⟨_, rfl, p, dx, _, rfl, e _ _ h1, lk_no (by decide +kernel) (by decide +kernel), _, rfl, p, ks, ss, k, rfl, a.p.mono e, hk, q⟩) fun H1 e1 => ?_
    refine q_asgP (ep_flows (ea_cons (ev_var rfl) (ea_cons (ev_var rfl) ea_nil)) (a.mono e1)) fun v H2 e2 hv => ?_
    have e02 := e1.trans e2
    rcases hv with ⟨rfl, b⟩ | ⟨fl, F, rfl, hfl, g⟩
    · exact absurd g0 fun z => b.not wf z
    refine q_when (b := false) (et_is (et_B (ev_isN (x := .ref fl) (ev_var rfl))) (by simp)) (fun hb => nomatch hb) (fun _ H3 e3 => ?_)
    dsimp only [List.set_cons_zero, List.set_cons_succ]
    have e03 := e02.trans e3
    have hf3 := e3 _ _ hfl
    refine q_asgN (ep_parted (ea_cons (ev_var rfl) (ea_cons (ev_var rfl) ea_nil)) (a.p.mono e03) wf.s1) fun ol H4 _ e4 hol => ?_
    have e04 := e03.trans e4
    obtain ⟨o, B, hd, hB⟩ := id a.d
    generalize hwh : (MM.sm (lns ss) fun l => hi l.n - lo l.n) = whole
    refine q_asg (ev_add (i := 1) (j := whole) ev_c (ev_is (ev_sumN (ns := ns.map fun n => hi n - lo n) (ev_isL (el_lc (ei_vals (ev_var rfl) (e04 _ _ hd)) (ys := ns) (by rw [List.length_map]) (by rw [List.length_map]; omega) (fun _ => true) (fun n => .int (hi n - lo n)) fun i x y H' hx hy e => ?_) (by rw [all_map, List.map_map (g := V.int)]; rfl))) (by rw [keys_sum a.k wf.sn, hwh]))) fun H5 e5 => ?_
    · rw [List.getElem?_map, hy] at hx
      have hx : V.ref (B y) = x := Option.some.inj hx
      subst hx
      exact ⟨_, fun Q q => g2 (e _ _ (e04 _ _ (hB _ (List.mem_of_getElem? hy)))) q, rfl, et_yes, fun _ => ev_sub (ev_var rfl) (ev_var rfl)⟩
    have hf5 := e5 _ _ (e4 _ _ hf3)
    refine q_asgN (en_dictD (ev_var rfl) (.inl hf5)) fun lf H6 l0 e6 hlf => ?_
    refine q_asgN (en_dictD (ev_var rfl) (.inl (e6 _ _ hf5))) fun hf H7 h0 e7 hhf => ?_
    dsimp only [List.set_cons_zero, List.set_cons_succ]
    have e05 := e04.trans e5
    have e07 := (e05.trans e6).trans e7
    have L0 : H lf = none := fresh_back e05 l0
    have M0 : H hf = none := fresh_back (e05.trans e6) h0
    have nlh : lf ≠ hf := fun z => ne_none hlf h0 z.symm
    have lf7 := e7 _ _ hlf
    have ol7 := (hol.mono e5).mono (e6.trans e7)
    have lO : (partOf ss k).length ≤ 60 := by
      unfold partOf lns; rw [List.length_map, List.length_map]; exact wf.s1
    have iO : ∀ y ∈ partOf ss k, y.n ∈ ns ∧ y.n ∈ ns := fun y hy => by
      obtain ⟨z, hz, rfl⟩ := List.mem_map.mp hy
      obtain ⟨s, hs, rfl⟩ := List.mem_map.mp hz
      exact ⟨sn s hs, sn s hs⟩
    have nO := part_nd (k := k) wf
    have wO := part_within (k := k) g.1
    have w0 : 0 ≤ whole := by
      rw [← hwh]
      exact MM.sm_nonneg fun l hl => by have := g.1 l hl; omega
    have AL : AI H7 ol d lf (partOf ss k) ns ns lo hi F := ⟨ol7, a.d.mono e07, .inl lf7, iO, lO⟩
    -- _, low_lot
    refine mcall (vs := [.ref p, .ref ol, .ref d, .ref lf, .str k, .str eS, .int (1 + whole)]) (ea_cons (ev_var rfl) (ea_cons (ev_var rfl) (ea_cons (ev_var rfl) (ea_cons (ev_var rfl) (ea_cons (ev_var rfl) (ea_cons ev_c (ea_cons (ev_var rfl) ea_nil))))))) fun H9 e9 => ?_
    refine ⟨p, ol, d, lf, k, eS, 1 + whole, ks, ss, partOf ss k, ns, ns, lo, hi, F, rfl, a.p.mono (e07.trans e9), wf.k2, AL.mono e9, e9 _ _ lf7, nO, wO, kne, by omega, by omega, fun r1 H10 z1 F1 v1 o1 z10 z11 P1 L1 e10 f10 r10 lot1 => ?_⟩
    refine g2 r10 ?_
    dsimp only [List.set_cons_zero, List.set_cons_succ]
    have x10 : ExD lf H7 H10 := (ExD.of_ex e9).trans e10
    have hf10 := x10 _ _ nlh.symm hhf
    have EH10 : Ex H H10 := ExD.ex e07 L0 x10
    have AH : AI H10 ol d hf (partOf ss k) ns ns lo hi F := ⟨ol7.butD lf7 x10, a.d.mono EH10, .inl hf10, iO, lO⟩
    have b1 := part_bound wf hk g.1 (.inl ⟨rfl, rfl⟩) P1
    rw [hwh] at b1
    obtain ⟨W1, eo1, u1, u2, u3⟩ : ∃ W : List Str, o1 = some (ks.filter fun v => decide (v ∈ W)) ∧ eS ∈ W ∧ k ∉ W ∧ MM.ClIn (partOf ss k) lo hi F1 (fun v => v ∈ W) := by
      rcases L1 with ⟨_, z⟩ | ⟨W, y1, y2, y3, y4, _⟩
      · omega
      · exact ⟨W, y1, y2, y3, y4⟩
    subst eo1
    -- _, high_lot
    refine mcall (vs := [.ref p, .ref ol, .ref d, .ref hf, .str eS, .str k, .int (1 + whole)]) (ea_cons (ev_var rfl) (ea_cons (ev_var rfl) (ea_cons (ev_var rfl) (ea_cons (ev_var rfl) (ea_cons ev_c (ea_cons (ev_var rfl) (ea_cons (ev_var rfl) ea_nil))))))) fun H11 e11 => ?_
    refine ⟨p, ol, d, hf, eS, k, 1 + whole, ks, ss, partOf ss k, ns, ns, lo, hi, F, rfl, a.p.mono (EH10.trans e11), wf.k2, AH.mono e11, e11 _ _ hf10, nO, wO, fun z => kne z.symm, by omega, by omega, fun r2 H12 z2 F2 v2 o2 z20 z21 P2 L2 e12 f12 r12 lot2 => ?_⟩
    refine g2 r12 ?_
    dsimp only [List.set_cons_zero, List.set_cons_succ]
    have b2 := part_bound wf hk g.1 (.inr ⟨rfl, rfl⟩) P2
    rw [hwh] at b2
    obtain ⟨W2, eo2, t1, t2, t3⟩ : ∃ W : List Str, o2 = some (ks.filter fun v => decide (v ∈ W)) ∧ k ∈ W ∧ eS ∉ W ∧ MM.ClIn (partOf ss k) lo hi F2 (fun v => v ∈ W) := by
      rcases L2 with ⟨_, z⟩ | ⟨W, y1, y2, y3, y4, _⟩
      · omega
      · exact ⟨W, y1, y2, y3, y4⟩
    subst eo2
    have x12 : ExD hf H10 H12 := (ExD.of_ex e11).trans e12
    have lf12 := x12 _ _ nlh f10
    have EH12 : Ex H H12 := ExD.ex EH10 M0 x12
    have lot1 := lot1.butD hf10 x12
    have G1 := good_part wf hk g (.inl ⟨rfl, rfl⟩) P1
    have G2 := good_part wf hk g (.inr ⟨rfl, rfl⟩) P2
    obtain ⟨l2, rfl, hl2⟩ := lot2
    refine q_asg (v := .int (inK ss F1 k)) (ev_call (ea_cons (ev_var rfl) (ea_cons (ev_var rfl) (ea_cons (ev_var rfl) ea_nil))) fun H' e Q q E => ⟨p, lf, ks, ss, ns, F1, k, rfl, a.p.mono (EH12.trans e), hk, wf.s1, .inl (e _ _ lf12), sn, fun H2 e2 => q H2 e2⟩) fun H13 e13 => ?_
    refine q_asg (v := .int (inK ss F2 k)) (ev_call (ea_cons (ev_var rfl) (ea_cons (ev_var rfl) (ea_cons (ev_var rfl) ea_nil))) fun H' e Q q E => ⟨p, hf, ks, ss, ns, F2, k, rfl, a.p.mono ((EH12.trans e13).trans e), hk, wf.s1, .inl (e _ _ (e13 _ _ f12)), sn, fun H2 e2 => q H2 e2⟩) fun H14 e14 => ?_
    dsimp only [List.set_cons_zero, List.set_cons_succ]
    have lk2 := List.length_filter_le (fun v => decide (v ∈ W2)) ks
    have lk1 := List.length_filter_le (fun v => decide (v ∈ W1)) ks
    have k2 := wf.k2
    refine q_asgL (el_lc (ei_list (ev_var rfl) (sq_of (e14 _ _ (e13 _ _ hl2)))) (ys := ks.filter fun v => decide (v ∈ W2)) (by rw [List.length_map]) (by rw [List.length_map]; omega) (fun v => decide (v ≠ k)) V.str fun i x y H' hx hy e => ?_) fun l3 H15 _ e15 hl3 => ?_
    · rw [List.getElem?_map, hy] at hx
      have hx : V.str y = x := Option.some.inj hx
      subst hx
      exact ⟨_, fun Q q => q, rfl, et_test (ev_neS (ev_var rfl) (ev_var rfl)), fun _ => ev_var rfl⟩
    have e1215 := (e13.trans e14).trans e15
    have lot1 := lot1.mono e1215
    refine s_retN (en_mk (Pn := fun r H' => RangeAt aR H' r (inK ss F1 k) (inK ss F2 k) ns F1 F2 (some (ks.filter fun v => decide (v ∈ W1))) (some ((ks.filter fun v => decide (v ∈ W2)).filter fun v => decide (v ≠ k)))) (vs := [.int (inK ss F1 k), .int (inK ss F2 k), .ref lf, .ref hf, v1, .ref l3]) (ea_cons (ev_var rfl) (ea_cons (ev_var rfl) (ea_cons (ev_var rfl) (ea_cons (ev_var rfl) (ea_cons (ev_var rfl) (ea_cons (ev_var rfl) ea_nil)))))) fun r dx H16 Q E e16 hr q => ?_) fun r H17 _ e17 hR => ?_
    · exact ⟨r, dx, lf, hf, _, _, ns, F1, F2, v1, .ref l3, _, _, rfl, hr, .inl (e16 _ _ (e1215 _ _ lf12)), .inl (e16 _ _ (e1215 _ _ f12)), lot1.mono e16, (show LotAt H16 (.ref l3) (some ((ks.filter fun v => decide (v ∈ W2)).filter fun v => decide (v ≠ k))) from ⟨l3, rfl, e16 _ _ hl3⟩), q⟩
    · have lk3 := List.length_filter_le (fun v => decide (v ≠ k)) (ks.filter fun v => decide (v ∈ W2))
      refine q r H17 _ _ F1 F2 _ _ ((EH12.trans e1215).trans e17) hR ⟨G1, G2, rfl, rfl, low_through wf hk G1 u1 u2 u3, high_through wf hk G2 t1 t2 t3, fun z => u2 (of_decide_eq_true (List.mem_filter.mp z).2), fun z => (of_decide_eq_true (List.mem_filter.mp z).2) rfl, fun v hv => (List.mem_filter.mp hv).1, fun v hv => (List.mem_filter.mp (List.mem_filter.mp hv).1).1, by omega, by omega⟩
end
end MS
set_option Elab.async false
set_option linter.all false
set_option maxRecDepth 100000
set_option maxHeartbeats 4000000
namespace MS
open PySem PySem.Spec PyProof.Rows L2 Evl
section
variable {K : PySem.W.Frag} {σ : L2.St} {H : Hp} {ta tb tc te td ty tv : TE} {t : TT} {D : Ends} {g : TG} {tu tz : TS}
theorem ev_int {i : Int} (h : Ev te σ H (.int i)) : Ev (tCB (fun xs H Q => (∃ i, xs = [.int i] ∧ Q (.int i) H) ∨ ∃ k, xs = [.bl k] ∧ Q (.int (if k then 1 else 0)) H) (tCons te tNil)) σ H (.int i) := fun H1 e Q q => h H1 e _ fun H2 e2 => .inl ⟨i, rfl, q H2 e2⟩
theorem ev_intB {b : Bool} (h : Ev te σ H (.bl b)) : Ev (tCB (fun xs H Q => (∃ i, xs = [.int i] ∧ Q (.int i) H) ∨ ∃ k, xs = [.bl k] ∧ Q (.int (if k then 1 else 0)) H) (tCons te tNil)) σ H (.int (if b then 1 else 0)) := fun H1 e Q q => h H1 e _ fun H2 e2 => .inr ⟨b, rfl, q H2 e2⟩
theorem ev_abs {i : Int} (h : Ev te σ H (.int i)) : Ev (tCB (fun xs H Q => ∃ i, xs = [.int i] ∧ Q (.int (if i < 0 then -i else i)) H) (tCons te tNil)) σ H (.int (if i < 0 then -i else i)) := fun H1 e Q q => h H1 e _ fun H2 e2 => ⟨i, rfl, q H2 e2⟩
theorem ev_mod {i j : Int} (h1 : Ev ta σ H (.int i)) (h2 : Ev tb σ H (.int j)) (hj : 0 < j) : Ev (tOp (rI (fun _ j => 0 < j) fun i j => .int (i % j)) ta tb) σ H (.int (i % j)) := ev_op h1 h2 (rv_I hj)
theorem ev_fdiv {i j : Int} (h1 : Ev ta σ H (.int i)) (h2 : Ev tb σ H (.int j)) (hj : 0 < j) (hk : j < 1073741824) : Ev (tOp (rI CDiv fun i j => .int (i / j)) ta tb) σ H (.int (i / j)) := ev_op h1 h2 (rv_I ⟨hj, hk⟩)
theorem ev_pow {i j : Int} (h1 : Ev ta σ H (.int i)) (h2 : Ev tb σ H (.int j)) (hc : CPow i j) : Ev (tOp (rI CPow fun i j => .int (i ^ j.toNat)) ta tb) σ H (.int (i ^ j.toNat)) := ev_op h1 h2 (rv_I hc)
theorem cmulL {i j : Int} (h1 : -1000000 ≤ i) (h2 : i ≤ 1000000) : CMul i j := .inl ⟨by omega, by omega⟩
theorem cmulR {i j : Int} (h1 : -1000000 ≤ j) (h2 : j ≤ 1000000) : CMul i j := .inr ⟨by omega, by omega⟩
end
def Small (ns : List Int) : Prop := ∀ x ∈ ns, 0 ≤ x ∧ x < 1009
theorem Small.snoc {ns : List Int} {x : Int} (h : Small ns) (h1 : 0 ≤ x) (h2 : x < 1009) : Small (ns ++ [x]) := fun y hy => by
  rcases List.mem_append.mp hy with z | z
  · exact h y z
  · rw [List.mem_singleton.mp z]; exact ⟨h1, h2⟩
section
variable {P : Program} {w : World} {K : PySem.W.Frag} {mg : Str → Option Value} {base : Heap} {aP aM aR : Addr}
abbrev s_law_row : Stmt := top 54
abbrev N_law_row : List Str := ["_law_cell", "_law_many", "_law_row_here", "_law_rest", "_law_state", "_law_k"]
theorem sc_law_row : FnScope N_law_row ["_law_cell", "_law_many"] (C8.fnScope s_law_row) := C8.fnScope_by (by decide +kernel)

def sp_law_row : Sp := fun vs H Q _ => ∃ (c : Int) (m : Nat), vs = [V.int c, V.int m] ∧ m ≤ 1000 ∧ ∀ q H' (ns : List Int), H q = none → Ex H H' → H' q = some (.lst (ns.map V.int)) → ns.length = m → Small ns → Q (.ref q) H'
theorem c_law_row_ (T : Txt K mg aP aM aR) (D : Dn K mg "_law_row" s_law_row ["_law_cell", "_law_many"]) : C8.Cal P w K mg base 1 "_law_row" sp_law_row [] := by
  refine cal_of D sc_law_row (fun vs H Q E h => ?_) (fun f cdv A outer s H vs Q E hr h => ?_)
  · obtain ⟨c, m, rfl, _⟩ := h
    rfl
  · obtain ⟨c, m, rfl, hm, q⟩ := h
    refine ⟨_, (pss_cons (ps_set (i := 2) sc_law_row.nd rfl (Or.inl rfl) (pe_lst pa_nil))
      (pss_cons (ps_set (i := 3) sc_law_row.nd rfl (Or.inl rfl) pe_int)
      (pss_cons (ps_if (pt_cmpR op_ge (pe_callB call_abs (by rfl) T.n_abs (by decide +kernel) (pa_cons (pv 0) pa_nil)) (pe_op op_pow pe_int pe_int) (nomark _)) (pss_one (ps_set (i := 3) sc_law_row.nd rfl (Or.inl rfl) (pe_callB call_abs (by rfl) T.n_abs (by decide +kernel) (pa_cons (pv 0) pa_nil)))) pss_nil)
      (pss_cons (ps_set (i := 4) sc_law_row.nd rfl (Or.inl rfl) (pe_op op_mod (pe_callTy call_int1 (by rfl) T.n_int (by decide +kernel) (pa_cons (pe_callB call_abs (by rfl) T.n_abs (by decide +kernel) (pa_cons (pv 0) pa_nil)) pa_nil)) pe_int))
      (pss_cons (ps_for PassesOwn.never rfl (pi_range1 (by rfl) T.n_range (pa_cons (pv 1) pa_nil)) (pg_name (i := 5) sc_law_row.nd rfl (Or.inl rfl)) (pss_cons (ps_set (i := 4) sc_law_row.nd rfl (Or.inl rfl) (pe_op op_mod (pe_callTy call_int1 (by rfl) T.n_int (by decide +kernel) (pa_cons (pe_op op_add (pe_op op_mul (pe_op op_add (pv 4) pe_int) pe_int) (pe_op op_mul pe_int (pv 5))) pa_nil)) pe_int))
      (pss_one (ps_if (pt_cmpR op_gt (pv 3) pe_int (nomark _)) (pss_cons (ps_expr (pe_bm PySem.F.plainAttrs_list PySem.F.slot_list_append PySem.F.type_list_append mt_append (pv 2) (pa_cons (pe_op op_mod (pe_callTy call_int1 (by rfl) T.n_int (by decide +kernel) (pa_cons (pv 3) pa_nil)) pe_int) pa_nil)))
      (pss_one (ps_set (i := 3) sc_law_row.nd rfl (Or.inl rfl) (pe_op op_fdiv (pv 3) pe_int)))) (pss_one (ps_expr (pe_bm PySem.F.plainAttrs_list PySem.F.slot_list_append PySem.F.type_list_append mt_append (pv 2) (pa_cons (pe_op op_mod (pe_callTy call_int1 (by rfl) T.n_int (by decide +kernel) (pa_cons (pe_op op_fdiv (pv 4) pe_int) pa_nil)) pe_int) pa_nil))))))))
      (pss_one (ps_ret (pv 2)))))))), ?_⟩
    rw [show start N_law_row [V.int c, V.int m] = [some (.int c), some (.int m), none, none, none, none] from rfl]
    refine q_asgL (el_lst ea_nil (by decide)) fun r H1 hr0 e1 hr1 => ?_
    refine q_asg (ev_c (v := .int 0)) fun H2 e2 => ?_
    dsimp only [List.set_cons_zero, List.set_cons_succ]
    refine q_ifJ (J := fun σ' H' => ∃ rest : Int, σ' = [some (.int c), some (.int m), some (.ref r), some (.int rest), none, none] ∧ Ex H2 H') (b := decide ((if c < 0 then -c else c) ≥ 10 ^ (18 : Int).toNat)) (et_cmp (f := fun i j => decide (i ≥ j)) (ev_abs (ev_var rfl)) (ev_pow ev_c ev_c ⟨by decide, by decide, by decide⟩)) (fun hb H3 e3 D' k => ?_) (fun hb H3 e3 => ⟨0, rfl, e3⟩) (fun σ3 H3 h3 => ?_)
    · exact s_asg (ev_abs (i := c) (ev_var rfl)) fun H4 e4 => k _ _ ⟨_, rfl, e3.trans e4⟩
    obtain ⟨rest, rfl, e3⟩ := h3
    refine q_asg (ev_mod (i := if c < 0 then -c else c) (j := 2147483647) (ev_int (ev_abs (ev_var rfl))) ev_c (by decide)) fun H4 e4 => ?_
    have e04 : Ex H H4 := ((e1.trans e2).trans e3).trans e4
    refine q_forR1 (n := m) (ea_cons (ev_var rfl) ea_nil) (by omega) (fun i σ H' => ∃ (rest st : Int) (k : Option V) (ns : List Int), σ = [some (.int c), some (.int m), some (.ref r), some (.int rest), some (.int st), k] ∧ Ex H H' ∧ H' r = some (.lst (ns.map V.int)) ∧ ns.length = i ∧ Small ns) (fun H5 e5 => ⟨_, _, _, [], rfl, e04.trans e5, e5 _ _ (e4 _ _ (e3 _ _ (e2 _ _ hr1))), rfl, fun x hx => (nomatch hx)⟩) (fun i σ H' hi h => ?_) (fun σ H' h => ?_)
    · obtain ⟨rest, st, k, ns, rfl, e, hl, hn, hs⟩ := h
      dsimp only [List.set_cons_zero, List.set_cons_succ]
      refine q_asg (ev_mod (j := 2147483647) (ev_int (ev_add (i := (st + 1) * 48271) (j := 69621 * (i : Int)) (ev_mul (i := st + 1) (j := 48271) (ev_add (ev_var rfl) ev_c) ev_c (cmulR (by decide) (by decide))) (ev_mul (i := 69621) (j := (i : Int)) ev_c (ev_var rfl) (cmulL (by decide) (by decide))))) ev_c (by decide)) fun H5 e5 => ?_
      dsimp only [List.set_cons_zero, List.set_cons_succ]
      generalize (((st + 1) * 48271 + 69621 * (i : Int)) % 2147483647) = st'
      have hl5 := e5 _ _ hl
      refine s_if (b := decide (rest > 0)) (et_cmp (f := fun i j => decide (i > j)) (i := rest) (j := 0) (ev_var rfl) ev_c) (fun hb H6 e6 => ?_) (fun hb H6 e6 => ?_)
      · refine q_app (e6 _ _ hl5) (ev_var rfl) (ev_mod (i := rest) (j := 1009) (ev_int (ev_var rfl)) ev_c (by decide)) (by rw [List.length_map]; omega) fun H7 e7 => ?_
        refine s_asg (ev_fdiv (i := rest) (j := 1009) (ev_var rfl) ev_c (by decide) (by decide)) fun H8 e8 => ⟨_, _, _, ns ++ [rest % 1009], rfl, (Ex.mut ((e.trans e5).trans (e6.trans e7)) hr0).trans e8, e8 _ _ (by rw [upd_same, List.map_append]; rfl), by simp [hn], hs.snoc (by omega) (by omega)⟩
      · refine s_app (e6 _ _ hl5) (ev_var rfl) (ev_mod (i := st' / 2048) (j := 1009) (ev_int (ev_fdiv (i := st') (j := 2048) (ev_var rfl) ev_c (by decide) (by decide))) ev_c (by decide)) (by rw [List.length_map]; omega) fun H7 e7 => ⟨_, _, _, ns ++ [st' / 2048 % 1009], rfl, Ex.mut ((e.trans e5).trans (e6.trans e7)) hr0, by rw [upd_same, List.map_append]; rfl, by simp [hn], hs.snoc (by omega) (by omega)⟩
    · obtain ⟨rest, st, k, ns, rfl, e, hl, hn, hs⟩ := h
      exact s_ret (ev_var rfl) fun H5 e5 => q r H5 ns hr0 (e.trans e5) (e5 _ _ hl) (by rw [hn]; simp) hs
end
end MS
set_option Elab.async false
set_option linter.all false
set_option maxRecDepth 100000
set_option maxHeartbeats 4000000
namespace MS
open PySem PySem.Spec PyProof.Rows L2 Evl
section
variable {K : PySem.W.Frag} {σ : L2.St} {H : Hp} {ta tb tc te td ty tv : TE} {t : TT} {D : Ends} {g : TG} {tu tz : TS}
theorem en_row {E : XK} {tA : TA} {c : Int} {m : Nat} (h : EvA tA σ H [.int c, .int m]) (hm : m ≤ 1000) : EvN (tCall sp_law_row [] E tA) σ H (fun q H' => ∃ xs, H' q = some (.lst xs) ∧ ∃ ns : List Int, xs = ns.map V.int ∧ ns.length = m ∧ Small ns) := fun H1 e Q q =>
  h H1 e _ fun H2 e2 => ⟨c, m, rfl, hm, fun q' H' ns hq' e' h1 h2 h3 => q q' H' (fresh_back e2 hq') (e2.trans e') ⟨_, h1, ns, rfl, h2, h3⟩⟩
theorem cutV_to {ns : List Int} {k : Nat} : cutV (ns.map V.int) none (some (k : Int)) = (ns.take k).map V.int := by
  unfold cutV
  rw [HT.sIx_none, HT.sIx_nat, List.drop_zero, List.length_map, Nat.sub_zero, List.map_take, ← List.take_take]
  conv => lhs; rw [show ns.length = (ns.map V.int).length from (List.length_map _).symm, List.take_length]
end
section
variable {P : Program} {w : World} {K : PySem.W.Frag} {mg : Str → Option Value} {base : Heap} {aP aM aR : Addr}
abbrev s_law_numbers : Stmt := top 55
abbrev N_law_numbers : List Str := ["_law_script", "_law_many", "_law_cells", "_law_each", "_law_numbers_here", "_law_cell", "_law_number"]
theorem sc_law_numbers : FnScope N_law_numbers ["_law_script", "_law_many"] (C8.fnScope s_law_numbers) := C8.fnScope_by (by decide +kernel)

def sp_law_numbers (K : PySem.W.Frag) : Sp := fun vs H Q _ => ∃ (a : Addr) (ns : List Int), vs = [V.ref a, V.int 200] ∧ SqL K H a (ns.map V.int) ∧ ns.length ≤ 63 ∧ ∀ q H' (rs : List Int), H q = none → Ex H H' → H' q = some (.lst (rs.map V.int)) → rs.length = 200 → Small rs → Q (.ref q) H'
theorem c_law_numbers_ (T : Txt K mg aP aM aR) (D : Dn K mg "_law_numbers" s_law_numbers ["_law_script", "_law_many"]) (c_law_row : C8.Cal P w K mg base 1 "_law_row" sp_law_row []) : C8.Cal P w K mg base 2 "_law_numbers" (sp_law_numbers K) [] := by
  refine cal_of D sc_law_numbers (fun vs H Q E h => ?_) (fun f cdv A outer s H vs Q E hr h => ?_)
  · obtain ⟨a, ns, rfl, _⟩ := h
    rfl
  · obtain ⟨a, ns, rfl, ha, hz, q⟩ := h
    refine ⟨_, (pss_cons (ps_set (i := 2) sc_law_numbers.nd rfl (Or.inl rfl) (pe_slice sl_list (pv 0) po_none (po_some pe_int)))
      (pss_cons (ps_set (i := 3) sc_law_numbers.nd rfl (Or.inl rfl) (pe_op op_add pe_int (pe_op op_fdiv (pv 1) (pe_callB (call_max2 rfl) (by rfl) T.n_max (by decide +kernel) (pa_cons pe_int (pa_cons (pe_callB call_len_seq (by rfl) T.n_len PySem.boot_len (pa_cons (pv 2) pa_nil)) pa_nil))))))
      (pss_cons (ps_set (i := 4) sc_law_numbers.nd rfl (Or.inl rfl) (pe_lst pa_nil))
      (pss_cons (ps_for PassesOwn.never rfl (pi_list (pv 2)) (pg_name (i := 5) sc_law_numbers.nd rfl (Or.inl rfl)) (pss_one (ps_for PassesOwn.never rfl (pi_list (C8.pe_c c_law_row hr (by decide) (by rfl) (pa_cons (pv 5) (pa_cons (pv 3) pa_nil)))) (pg_name (i := 6) sc_law_numbers.nd rfl (Or.inl rfl)) (pss_one (ps_expr (pe_bm PySem.F.plainAttrs_list PySem.F.slot_list_append PySem.F.type_list_append mt_append (pv 4) (pa_cons (pv 6) pa_nil)))))))
      (pss_cons (ps_while PassesOwn.never (pt_cmpR op_lt (pe_callB call_len_seq (by rfl) T.n_len PySem.boot_len (pa_cons (pv 4) pa_nil)) (pv 1) (nomark _)) (pss_one (ps_expr (pe_bm PySem.F.plainAttrs_list PySem.F.slot_list_append PySem.F.type_list_append mt_append (pv 4) (pa_cons pe_int pa_nil)))))
      (pss_one (ps_ret (pe_slice sl_list (pv 4) po_none (po_some (pv 1)))))))))), ?_⟩
    rw [show start N_law_numbers [V.ref a, V.int 200] = [some (.ref a), some (.int 200), none, none, none, none, none] from rfl]
    refine q_asgL (ev_isL (el_sl (ev_var rfl) eo_none (eo_some (i := ((63 : Nat) : Int)) ev_c) ha) cutV_to) fun l H1 hl0 e1 hl => ?_
    have hc : (ns.take 63).length ≤ 63 := by rw [List.length_take]; omega
    generalize ns.take 63 = cs at hl hc
    have hmx : (0 : Int) < (if (((cs.map V.int).length : Nat) : Int) > 1 then (((cs.map V.int).length : Nat) : Int) else 1) := by split <;> omega
    refine q_asg (ev_add (i := 1) (j := 200 / (if (((cs.map V.int).length : Nat) : Int) > 1 then (((cs.map V.int).length : Nat) : Int) else 1)) ev_c (ev_fdiv (ev_var rfl) (ev_max2 (i := 1) ev_c (ev_len (ev_var rfl) (sq_of hl))) hmx (by rw [List.length_map]; split <;> omega))) fun H2 e2 => ?_
    obtain ⟨m, hm, hm1⟩ : ∃ m : Nat, 1 + 200 / (if (((cs.map V.int).length : Nat) : Int) > 1 then (((cs.map V.int).length : Nat) : Int) else 1) = (m : Int) ∧ m ≤ 201 := by
      generalize (if (((cs.map V.int).length : Nat) : Int) > 1 then (((cs.map V.int).length : Nat) : Int) else 1) = z at hmx
      have h1 : 0 ≤ 200 / z := Int.ediv_nonneg (by decide) (by omega)
      have h2 : 200 / z ≤ 200 := Int.ediv_le_self _ (by decide)
      exact ⟨(1 + 200 / z).toNat, by omega, by omega⟩
    rw [hm]
    refine q_asgL (el_lst ea_nil (by decide)) fun nl H3 hn0 e3 hn => ?_
    dsimp only [List.set_cons_zero, List.set_cons_succ]
    have e02 := e1.trans e2
    have n0 : H nl = none := fresh_back e02 hn0
    refine q_forL (ev_var rfl) (sq_of (e3 _ _ (e2 _ _ hl))) (fun i σ H' => ∃ (x y : Option V) (rs : List Int), σ = [some (.ref a), some (.int 200), some (.ref l), some (.int m), some (.ref nl), x, y] ∧ Ex H2 H' ∧ H' nl = some (.lst (rs.map V.int)) ∧ rs.length = i * m ∧ Small rs) (fun H4 e4 => ⟨_, _, [], rfl, e3.trans e4, e4 _ _ hn, by simp, fun x hx => (nomatch hx)⟩) (fun i σ H' _ ⟨_, _, _, _, e, _⟩ => sq_of (e _ _ (e2 _ _ hl))) (fun i v σ H' hv h => ?_) (fun σ H' h => ?_)
    · obtain ⟨x, y, rs, rfl, e, hrs, hlen, hs⟩ := h
      rw [List.getElem?_map] at hv
      cases hi : cs[i]? with
      | none => rw [hi] at hv; cases hv
      | some z =>
        rw [hi] at hv
        have hv : V.int z = v := Option.some.inj hv
        subst hv
        have hi63 : i < cs.length := (List.getElem?_eq_some_iff.mp hi).1
        have him : i * m ≤ 63 * 201 := Nat.mul_le_mul (by omega) hm1
        refine s_forN (R := fun xs _ => ∃ ns : List Int, xs = ns.map V.int ∧ ns.length = m ∧ Small ns) (en_row (c := z) (m := m) (ea_cons (ev_var rfl) (ea_cons (ev_var rfl) ea_nil)) (by omega)) fun p xs H4 hp0 e4 hp ⟨ns', exs, hl', hs'⟩ => ?_
        subst exs
        have npn : p ≠ nl := fun q => by rw [q, hrs] at hp0; cases hp0
        refine ⟨fun j σ H' => ∃ (x y : Option V) (rs' : List Int), σ = [some (.ref a), some (.int 200), some (.ref l), some (.int m), some (.ref nl), x, y] ∧ ExD nl H4 H' ∧ Ex H2 H' ∧ H' nl = some (.lst (rs'.map V.int)) ∧ rs'.length = i * m + j ∧ Small rs', ⟨_, _, rs, rfl, ExD.refl, e.trans e4, e4 _ _ hrs, by omega, hs⟩, fun j σ H' _ ⟨_, _, _, _, e, _⟩ => e _ _ npn hp, fun j v σ H' hv h => ?_, fun σ H' h => ?_⟩
        · obtain ⟨x, y, rs', rfl, e5, e25, hrs', hlen', hs5⟩ := h
          rw [List.getElem?_map] at hv
          cases hj : ns'[j]? with
          | none => rw [hj] at hv; cases hv
          | some u =>
            rw [hj] at hv
            have hv : V.int u = v := Option.some.inj hv
            subst hv
            have hjm : j < ns'.length := (List.getElem?_eq_some_iff.mp hj).1
            have hu := hs' u (List.mem_of_getElem? hj)
            refine s_app hrs' (ev_var rfl) (ev_var (v := .int u) rfl) (by rw [List.length_map]; omega) fun H6 e6 => ⟨_, _, rs' ++ [u], rfl, (e5.trans (ExD.of_ex e6)).trans ExD.upd, Ex.mut (e25.trans e6) hn0, by rw [upd_same, List.map_append]; rfl, by simp [hlen']; omega, hs5.snoc hu.1 hu.2⟩
        · obtain ⟨x, y, rs', rfl, e5, e25, hrs', hlen', hs5⟩ := h
          refine ⟨_, _, rs', rfl, e25, hrs', ?_, hs5⟩
          rw [hlen', List.length_map, hl', Nat.succ_mul]
    · obtain ⟨x, y, rs, rfl, e, hrs, hlen, hs⟩ := h
      rw [List.length_map] at hlen
      have hlm : cs.length * m ≤ 63 * 201 := Nat.mul_le_mul hc hm1
      refine q_while (fun mm σ H' => ∃ (rs : List Int), σ = [some (.ref a), some (.int 200), some (.ref l), some (.int m), some (.ref nl), x, y] ∧ Ex H2 H' ∧ H' nl = some (.lst (rs.map V.int)) ∧ rs.length ≤ 20000 ∧ Small rs ∧ mm = 200 - rs.length) _ ⟨rs, rfl, e, hrs, by omega, hs, rfl⟩ ?_
      rintro mm σ H5 ⟨rs, rfl, e, hrs, hlen, hs, rfl⟩
      refine ⟨_, et_cmp (f := fun i j => decide (i < j)) (j := 200) (ev_len (ev_var rfl) (sq_of hrs)) (ev_var rfl), fun hb H6 e6 => ?_, fun hb H6 e6 => ?_⟩
      · have hb := of_decide_eq_true hb
        rw [List.length_map] at hb
        refine ⟨fun σ H' => ∃ (rs' : List Int), σ = [some (.ref a), some (.int 200), some (.ref l), some (.int m), some (.ref nl), x, y] ∧ Ex H2 H' ∧ H' nl = some (.lst (rs'.map V.int)) ∧ rs'.length ≤ 20000 ∧ Small rs' ∧ 200 - rs'.length < 200 - rs.length, fun σ2 H7 ⟨rs', h1, h2, h3, h4, h5, h6⟩ => ⟨_, h6, rs', h1, h2, h3, h4, h5, rfl⟩, ?_⟩
        exact s_app (e6 _ _ hrs) (ev_var rfl) (ev_c (v := .int 0)) (by rw [List.length_map]; omega) fun H7 e7 => ⟨rs ++ [0], rfl, Ex.mut ((e.trans e6).trans e7) hn0, by rw [upd_same, List.map_append]; rfl, by simp; omega, hs.snoc (by decide) (by decide), by simp; omega⟩
      · have hb := of_decide_eq_false hb
        rw [List.length_map] at hb
        refine s_retL (ev_isL (el_sl (ev_var rfl) eo_none (eo_some (i := ((200 : Nat) : Int)) (ev_var rfl)) (sq_of (e6 _ _ hrs))) cutV_to) fun r H7 hr0 e7 hr7 => q r H7 (rs.take 200) (fresh_back ((e02.trans e).trans e6) hr0) (((e02.trans e).trans e6).trans e7) hr7 (by rw [List.length_take]; omega) fun x hx => hs x (List.mem_of_mem_take hx)
end
end MS
set_option Elab.async false
set_option linter.all false
set_option maxRecDepth 100000
set_option maxHeartbeats 4000000
namespace MS
open PySem PySem.Spec PyProof.Rows L2 Evl
/-! ### names of the law's -/
def Ls : List Nat := letters.cps.toList
theorem Ls_len : Ls.length = 36 := by decide +kernel
theorem Ls_nd : Ls.Nodup := by decide +kernel
abbrev S1 (l : List Nat) : Str := ⟨l.toArray⟩
def chN (i : Int) : Nat := Ls.getD (i % 36).toNat 0
theorem ch_lt (i : Int) : (i % 36).toNat < Ls.length := by
  rw [Ls_len]
  have := Int.emod_nonneg i (b := 36) (by decide)
  have := Int.emod_lt_of_pos i (b := 36) (by decide)
  omega
theorem ch_get (i : Int) : Ls[(i % 36).toNat]? = some (chN i) := by
  unfold chN
  rw [List.getD_eq_getElem?_getD, List.getElem?_eq_getElem (ch_lt i)]; rfl
theorem ch_mem (i : Int) : chN i ∈ Ls := List.mem_of_getElem? (ch_get i)
theorem ch_inj {i j : Int} (h : chN i = chN j) : i % 36 = j % 36 := by
  have h1 := ch_get i
  have h2 := ch_get j
  rw [h] at h1
  have e := (List.getElem?_inj (ch_lt i) Ls_nd).mp (h1.trans h2.symm)
  have := Int.emod_nonneg i (b := 36) (by decide)
  have := Int.emod_nonneg j (b := 36) (by decide)
  omega
def nmL (cs : List Nat) (i : Int) : Str := S1 (cs ++ [chN i])
theorem nmL_list (cs : List Nat) (i : Int) : (nmL cs i).cps.toList = cs ++ [chN i] := by simp [nmL]
theorem nmL_inj {cs : List Nat} {i j : Int} (h : nmL cs i = nmL cs j) : i % 36 = j % 36 := by
  have := congrArg (fun z : Str => z.cps.toList) h
  simp only [nmL_list] at this
  exact ch_inj (by simpa using this)
theorem nmL_nm {cs : List Nat} (h : ∀ c ∈ cs, c ∈ Ls) (hl : cs.length ≤ 3) (i : Int) : Nm (nmL cs i) ∧ (nmL cs i).length ≤ 4 := by
  have e : (nmL cs i).length = cs.length + 1 := by
    show (cs ++ [chN i]).toArray.size = _
    simp
  refine ⟨⟨by omega, by omega, fun c hc => ?_⟩, by omega⟩
  rw [nmL_list] at hc
  rcases List.mem_append.mp hc with z | z
  · exact h c z
  · rw [List.mem_singleton.mp z]; exact ch_mem i
theorem joinL_nil : ∀ css : List (List Nat), TL.joinL [] css = css.flatten
  | [] => rfl
  | [p] => by simp [TL.joinL]
  | p :: q :: r => by
    have ih := joinL_nil (q :: r)
    simp only [TL.joinL, ih, List.nil_append, List.flatten_cons]
def namesOf (cs : List Nat) (n : Int) (m : Nat) : List Str := (List.range m).map fun k : Nat => nmL cs (n + 5 * (k : Int))
theorem names_nd (cs : List Nat) (n : Int) {m : Nat} (hm : m ≤ 36) : (namesOf cs n m).Nodup := by
  unfold namesOf
  refine List.pairwise_map.mpr ?_
  refine List.Pairwise.imp_of_mem (fun {a b} ha hb hlt he => ?_) List.pairwise_lt_range
  have h1 := List.mem_range.mp ha
  have h2 := List.mem_range.mp hb
  have := nmL_inj he
  omega
section
variable {K : PySem.W.Frag} {σ : L2.St} {H : Hp} {ta tb tc te td ty tv : TE} {t : TT} {D : Ends} {g : TG} {tu tz : TS}
theorem ev_chr {i : Int} (h1 : Ev ta σ H (.str letters)) (h2 : Ev tb σ H (.int (i % 36))) : Ev (tOp rIxS ta tb) σ H (.str (S1 [chN i])) := by
  have e : i % 36 = (((i % 36).toNat : Nat) : Int) := by
    have := Int.emod_nonneg i (b := 36) (by decide)
    omega
  refine ev_op h1 h2 (rv_ixS (by decide +kernel) ?_)
  rw [e]
  exact atI_nat (ch_get i)
theorem ev_addS {a b : Str} (h1 : Ev ta σ H (.str a)) (h2 : Ev tb σ H (.str b)) (hl : a.length + b.length ≤ 100000) : Ev (tOp (fun x y H Q => ∃ i j, x = .str i ∧ y = .str j ∧ i.length + j.length ≤ sizeLine ∧ Q (.str (i ++ j)) H) ta tb) σ H (.str (a ++ b)) := fun H1 e Q q =>
  h1 H1 e _ fun H2 e2 => h2 H2 (e.trans e2) _ fun H3 e3 => ⟨a, b, rfl, rfl, sz_of hl, q H3 (e2.trans e3)⟩
theorem ev_join {a : Str} {ys : List Str} (h0 : Ev ta σ H (.str a)) (h : EvL te σ H (ys.map V.str)) (hb : (ys.map (·.length)).sum + ys.length * a.length ≤ 16777216) :
    Ev (tM1 (fun x xs H Q => ∃ a p, ∃ ys : List Str, x = .str a ∧ xs = [.ref p] ∧ (SqL K H p (ys.map V.str) ∨ SqT K H p (ys.map V.str)) ∧ (ys.map (·.length)).sum + ys.length * a.length ≤ 16777216 ∧ Q (.str (Txt.join a ys)) H) ta te) σ H (.str (Txt.join a ys)) := fun H1 e Q q =>
  h0 H1 e _ fun H2 e2 => ⟨⟨a, rfl⟩, h H2 (e.trans e2) _ fun p H3 _ e3 hp => ⟨a, p, ys, rfl, rfl, .inl (sq_of hp), hb, q H3 (e2.trans e3)⟩⟩
end
section
variable {P : Program} {w : World} {K : PySem.W.Frag} {mg : Str → Option Value} {base : Heap} {aP aM aR : Addr}
abbrev s_law_names : Stmt := top 56
abbrev N_law_names : List Str := ["_law_number", "_law_many", "_law_letters", "_law_ahead", "_law_k"]
theorem sc_law_names : FnScope N_law_names ["_law_number", "_law_many"] (C8.fnScope s_law_names) := C8.fnScope_by (by decide +kernel)

def sp_law_names : Sp := fun vs H Q _ => ∃ (n : Int) (m : Nat), vs = [V.int n, V.int m] ∧ m ≤ 36 ∧ ∀ q H' (zs : List Str), H q = none → Ex H H' → H' q = some (.lst (zs.map V.str)) → zs.length = m → zs.Nodup → (∀ z ∈ zs, Nm z ∧ z.length ≤ 4) → Q (.ref q) H'
theorem c_law_names_ (T : Txt K mg aP aM aR) (D : Dn K mg "_law_names" s_law_names ["_law_number", "_law_many"]) : C8.Cal P w K mg base 1 "_law_names" sp_law_names [] := by
  refine cal_of D sc_law_names (fun vs H Q E h => ?_) (fun f cdv A outer s H vs Q E hr h => ?_)
  · obtain ⟨n, m, rfl, _⟩ := h
    rfl
  · obtain ⟨n, m, rfl, hm, q⟩ := h
    refine ⟨_, (pss_cons (ps_set (i := 2) sc_law_names.nd rfl (Or.inr rfl) pe_str)
      (pss_cons (ps_set (i := 3) sc_law_names.nd rfl (Or.inr rfl) (pe_join pe_str (pe_lc (own := [("_law_k", 4)]) (g := (gName 4)) (tt := tYes) rfl sc_law_names.nd (pi_range1 (by rfl) T.n_range (pa_cons (pe_op op_mod (pe_callTy call_int1 (by rfl) T.n_int (by decide +kernel) (pa_cons (pe_op op_fdiv (pv 0) pe_int) pa_nil)) pe_int) pa_nil)) (blkOk_by (own := [("_law_k", 4)]) (N := N_law_names) (sc := C8.fnScope s_law_names) (by decide +kernel)) (fun _ _ _ _ _ => (pg_name (i := 4) sc_law_names.nd rfl (Or.inl rfl))) (fun _ _ _ _ _ => pts_nil) (fun _ _ _ _ _ => (pe_ix ix_str (pv 2) (pe_op op_mod (pe_callTy call_int1 (by rfl) T.n_int (by decide +kernel) (pa_cons (pe_op op_add (pv 0) (pe_op op_mul (pe_op op_mul pe_int (pv 4)) (pv 4))) pa_nil)) pe_int) (fun _ _ => rfl))))))
      (pss_one (ps_ret (pe_lc (own := [("_law_k", 4)]) (g := (gName 4)) (tt := tYes) rfl sc_law_names.nd (pi_range1 (by rfl) T.n_range (pa_cons (pv 1) pa_nil)) (blkOk_by (own := [("_law_k", 4)]) (N := N_law_names) (sc := C8.fnScope s_law_names) (by decide +kernel)) (fun _ _ _ _ _ => (pg_name (i := 4) sc_law_names.nd rfl (Or.inl rfl))) (fun _ _ _ _ _ => pts_nil) (fun _ _ _ _ _ => (pe_op op_add_str (pv 3) (pe_ix ix_str (pv 2) (pe_op op_mod (pe_callTy call_int1 (by rfl) T.n_int (by decide +kernel) (pa_cons (pe_op op_add (pv 0) (pe_op op_mul pe_int (pv 4))) pa_nil)) pe_int) (fun _ _ => rfl))))))))), ?_⟩
    rw [show start N_law_names [V.int n, V.int m] = [some (.int n), some (.int m), none, none, none] from rfl]
    refine q_asg (ev_c (v := .str letters)) fun H1 e1 => ?_
    dsimp only [List.set_cons_zero, List.set_cons_succ]
    have t0 := Int.emod_nonneg (n / 36) (b := 4) (by decide)
    have t1 := Int.emod_lt_of_pos (n / 36) (b := 4) (by decide)
    generalize ht : n / 36 % 4 = t at t0 t1
    refine q_asg (v := .str (S1 ((List.range t.toNat).map fun k : Nat => chN (n + 11 * (k : Int) * (k : Int))))) (ev_is (ev_join (a := S1 []) (ys := (((List.range t.toNat).map fun k : Nat => [chN (n + 11 * (k : Int) * (k : Int))]).map S1)) ev_c (ev_isL (el_lc (ei_range (n := t) (ea_cons (ev_is (ev_mod (i := n / 36) (j := 4) (ev_int (ev_fdiv (i := n) (j := 36) (ev_var rfl) ev_c (by decide) (by decide))) ev_c (by decide)) (by rw [ht])) ea_nil) t0 (by omega)) (ys := List.range t.toNat) (by rw [List.length_map]) (by rw [List.length_map, List.length_range]; omega) (fun _ => true) (fun k : Nat => .str (S1 [chN (n + 11 * (k : Int) * (k : Int))])) fun i x y H' hx hy e => ?_) (by rw [all_map, List.map_map, List.map_map]; rfl)) ?_) ?_) fun H2 e2 => ?_
    · rw [List.getElem?_map, hy] at hx
      have hx : V.int (y : Int) = x := Option.some.inj hx
      subst hx
      have y3 : (y : Int) < 4 := by
        have := List.mem_range.mp (List.mem_of_getElem? hy)
        omega
      exact ⟨_, fun Q q => q, rfl, et_yes, fun _ => ev_chr (i := n + 11 * (y : Int) * (y : Int)) (ev_var rfl) (ev_mod (ev_int (ev_add (i := n) (j := 11 * (y : Int) * (y : Int)) (ev_var rfl) (ev_mul (i := 11 * (y : Int)) (j := (y : Int)) (ev_mul (i := 11) (j := (y : Int)) ev_c (ev_var rfl) (cmulL (by decide) (by decide))) (ev_var rfl) (cmulR (by omega) (by omega))))) ev_c (by decide))⟩
    · have hs : ((((List.range t.toNat).map fun k : Nat => [chN (n + 11 * (k : Int) * (k : Int))]).map S1).map (·.length)).sum ≤ t.toNat := by
        have e1 : ((((List.range t.toNat).map fun k : Nat => [chN (n + 11 * (k : Int) * (k : Int))]).map S1).map (·.length)) = (List.range t.toNat).map fun _ => 1 := by
          rw [List.map_map, List.map_map]
          exact List.map_congr_left fun k _ => rfl
        rw [e1]
        generalize t.toNat = z
        rw [List.map_const', List.length_range, List.sum_replicate_nat, Nat.mul_one]
        exact Nat.le_refl _
      have : (S1 []).length = 0 := rfl
      rw [this, Nat.mul_zero]
      omega
    · congr 1
      refine (SX.join_S [] _).trans ?_
      rw [joinL_nil]
      congr 2
      generalize List.range t.toNat = l
      induction l with
      | nil => rfl
      | cons a r ih => simp only [List.map_cons, List.flatten_cons, ih]; rfl
    dsimp only [List.set_cons_zero, List.set_cons_succ]
    generalize hcs : ((List.range t.toNat).map fun k : Nat => chN (n + 11 * (k : Int) * (k : Int))) = cs
    have cl : cs.length ≤ 3 := by rw [← hcs, List.length_map, List.length_range]; omega
    have cm : ∀ c ∈ cs, c ∈ Ls := fun c hc => by
      rw [← hcs] at hc
      obtain ⟨k, _, rfl⟩ := List.mem_map.mp hc
      exact ch_mem _
    refine s_retL (ev_isL (el_lc (ei_range (n := (m : Int)) (ea_cons (ev_var rfl) ea_nil) (by omega) (by omega)) (ys := List.range m) (by rw [List.length_map]; rfl) (by rw [List.length_map, List.length_range]; omega) (fun _ => true) (fun k : Nat => .str (nmL cs (n + 5 * (k : Int)))) fun i x y H' hx hy e => ?_) (by rw [all_map]; unfold namesOf; rw [List.map_map]; rfl)) fun r H3 hr0 e3 hr3 => q r H3 (namesOf cs n m) (fresh_back (e1.trans e2) hr0) ((e1.trans e2).trans e3) hr3 (by unfold namesOf; simp) (names_nd cs n hm) fun z hz => ?_
    · rw [List.getElem?_map, Int.toNat_natCast, hy] at hx
      have hx : V.int (y : Int) = x := Option.some.inj hx
      subst hx
      refine ⟨_, fun Q q => q, rfl, et_yes, fun _ => ev_is (ev_addS (a := S1 cs) (b := S1 [chN (n + 5 * (y : Int))]) (ev_var rfl) (ev_chr (i := n + 5 * (y : Int)) (ev_var rfl) (ev_mod (ev_int (ev_add (i := n) (j := 5 * (y : Int)) (ev_var rfl) (ev_mul (i := 5) (j := (y : Int)) ev_c (ev_var rfl) (cmulL (by decide) (by decide))))) ev_c (by decide))) (by show cs.toArray.size + 1 ≤ _; simp; omega)) ?_⟩
      show V.str ⟨cs.toArray ++ #[chN (n + 5 * (y : Int))]⟩ = V.str ⟨(cs ++ [chN (n + 5 * (y : Int))]).toArray⟩
      simp
    · obtain ⟨k, _, rfl⟩ := List.mem_map.mp hz
      exact nmL_nm cm cl _
end
end MS
set_option Elab.async false
set_option linter.all false
set_option maxRecDepth 100000
set_option maxHeartbeats 4000000
namespace MS
open PySem PySem.Spec PyProof.Rows L2 Evl
theorem nd_take {xs : List Str} (h : xs.Nodup) {i : Nat} {x : Str} (hx : xs[i]? = some x) : x ∉ xs.take i := fun z => by
  obtain ⟨j, hj, et⟩ := List.mem_iff_getElem.mp z
  rw [List.length_take] at hj
  rw [List.getElem_take] at et
  obtain ⟨hi, es⟩ := List.getElem?_eq_some_iff.mp hx
  have := (List.getElem_inj (i := j) (j := i) (h₀ := by omega) (h₁ := hi) h).mp (by rw [et, es])
  omega
theorem first_idx : ∀ {xs : List Str} {x : Str}, x ∈ xs → ∃ j : Nat, xs[j]? = some x ∧ ∀ (m : Nat) (z : Str), m < j → xs[m]? = some z → z ≠ x
  | [], _, h => (nomatch h)
  | a :: r, x, h => by
    by_cases c : a = x
    · exact ⟨0, by rw [c]; rfl, fun m z hm => absurd hm (Nat.not_lt_zero _)⟩
    · rcases List.mem_cons.mp h with z | z
      · exact absurd z.symm c
      · obtain ⟨j, h1, h2⟩ := first_idx z
        refine ⟨j + 1, h1, fun m z hm hz => ?_⟩
        cases m with
        | zero => cases hz; exact c
        | succ m => exact h2 m z (by omega) hz
theorem way_nd {ls L : List Ln} (hn : (ls.map (·.n)).Nodup) (hL : ∀ l ∈ L, l ∈ ls) (ht : (L.map (·.t)).Nodup) : (L.map (·.n)).Nodup := by
  refine List.pairwise_map.mpr ?_
  refine List.Pairwise.imp_of_mem (fun {a b} ha hb hne he => ?_) (List.pairwise_map.mp ht)
  have := MM.same_line hn (hL a ha) (hL b hb) he
  exact hne (by rw [this])
section
variable {K : PySem.W.Frag} {σ : L2.St} {H : Hp} {ta tb tc te td ty tv tl : TE} {t : TT} {D : Ends} {g : TG} {tu tz : TS}
theorem cutV_from {xs : List Str} {k : Nat} : cutV (xs.map V.str) (some (k : Int)) none = (xs.drop (min k xs.length)).map V.str := by
  unfold cutV
  rw [HT.sIx_none, HT.sIx_nat, List.length_map, List.map_drop]
  exact List.take_of_length_le (by rw [List.length_drop, List.length_map]; exact Nat.le_refl _)
theorem q_parL {i j : Nat} {xs ys : List V} (h1 : EvL ta σ H xs) (h2 : EvL tb σ H ys) (k : ∀ p q H1, H p = none → H q = none → p ≠ q → Ex H H1 → H1 p = some (.lst xs) → H1 q = some (.lst ys) → tz D ((σ.set i (some (.ref p))).set j (some (.ref q))) H1) : tSeq (tPar i j (tCons ta (tCons tb tNil))) tz D σ H :=
  h1 H (Ex.refl _) _ fun p H1 hp e1 h1' => h2 H1 e1 _ fun q H2 hq e2 h2' => ⟨_, _, rfl, k p q H2 hp (fresh_back e1 hq) (fun z => ne_none h1' hq z.symm) (e1.trans e2) (e2 _ _ h1') h2'⟩
theorem ev_index {a : Addr} {xs : List Str} {x : Str} {j : Nat} (h1 : Ev ta σ H (.ref a)) (h2 : Ev tb σ H (.str x)) (ha : H a = some (.lst (xs.map V.str))) (hj : xs[j]? = some x) (hf : ∀ m z, m < j → xs[m]? = some z → z ≠ x) : Ev (tBM K "list" (rIndex K) ta (tCons tb tNil)) σ H (.int (j : Int)) := fun H1 e Q q =>
  h1 H1 e _ fun H2 e2 => ⟨Or.inl ⟨rfl, _, sq_of ((e.trans e2) _ _ ha)⟩, h2 H2 (e.trans e2) _ fun H3 e3 => ⟨a, xs.map V.str, .str x, j, .str x, rfl, rfl, sq_of (((e.trans e2).trans e3) _ _ ha), rfl, flat_strs' xs, by rw [List.getElem?_map, hj]; rfl, by simp [eqV], fun m z' hm hz => by
    rw [List.getElem?_map] at hz
    cases hc : xs[m]? with
    | none => rw [hc] at hz; cases hz
    | some u =>
      rw [hc] at hz
      have hz : V.str u = z' := Option.some.inj hz
      subst hz
      have := hf m u hm hc
      simp [eqV, this], q H3 (e2.trans e3)⟩⟩
theorem en_lcFO {β : Type} {tt' : TT} {vs : List Nat} {ys : List β} {row : β → List V} {l : Addr} (h0 : Ev tl σ H (.ref l)) (h0' : TL H l (ys.map row)) (hz : ys.length ≤ 40000) (f : β → Bool)
    (h : ∀ a y H', y ∈ ys → Ex H H' → H' a = some (.tup (row y)) → ∃ σ2, (∀ Q : L2.St → Hp → Prop, Q σ2 H' → g (.ref a) (wipe σ vs) H' Q) ∧ wipe σ2 vs = wipe σ vs ∧ EvT tt' σ2 H' (f y) ∧ (f y = true → Ev te σ2 H' (.ref a))) :
    EvN (tLc (iList K tl) g tt' te vs) σ H (fun p H' => TL H' p ((ys.filter f).map row)) := by
  obtain ⟨as, ha, ht⟩ := h0'
  have hl := ht.ln
  have hzs : ∀ y ∈ as.zip ys, y.2 ∈ ys ∧ H y.1 = some (.tup (row y.2)) := fun y hy => by
    obtain ⟨i, hi⟩ := List.mem_iff_getElem?.mp hy
    obtain ⟨h1, h2⟩ := List.getElem?_zip_eq_some.mp hi
    refine ⟨List.mem_of_getElem? h2, ht.2 i _ _ h1 ?_⟩
    rw [List.getElem?_map, h2]; rfl
  have lz : (as.zip ys).length = ys.length := by rw [List.length_zip]; omega
  have k := el_lc (H := H) (σ := σ) (tt := tt') (te := te) (g := g) (vs := vs) (ei_list (K := K) (tl := tl) h0 (sq_of ha)) (ys := as.zip ys) (by rw [List.length_map, lz]; exact hl) (by rw [List.length_map]; omega) (fun y => f y.2) (fun y => .ref y.1) (fun i x y H' hx hy e' => by
    obtain ⟨h1, h2⟩ := List.getElem?_zip_eq_some.mp hy
    rw [List.getElem?_map, h1] at hx
    have hx : V.ref y.1 = x := Option.some.inj hx
    subst hx
    obtain ⟨m1, m2⟩ := hzs y (List.mem_of_getElem? hy)
    exact h y.1 y.2 H' m1 e' (e' _ _ m2))
  intro H1 e Q q
  refine k H1 e Q fun p H3 hp e3 hl3 => q p H3 hp e3 ⟨((as.zip ys).filter fun y => f y.2).map (·.1), by rw [hl3, List.map_map]; rfl, ?_⟩
  have ey : ys.filter f = ((as.zip ys).filter fun y => f y.2).map (·.2) := by
    have : ys = (as.zip ys).map (·.2) := (List.map_snd_zip (by omega)).symm
    conv => lhs; rw [this]
    rw [List.filter_map]; rfl
  rw [ey, List.map_map]
  refine ⟨by simp, fun i a r' h1 h2 => ?_⟩
  rw [List.getElem?_map] at h1 h2
  cases hc : ((as.zip ys).filter fun y => f y.2)[i]? with
  | none => rw [hc] at h1; cases h1
  | some c =>
    rw [hc] at h1 h2
    have h1 : c.1 = a := Option.some.inj h1
    have h2 : row c.2 = r' := Option.some.inj h2
    rw [← h1, ← h2]
    exact (e.trans e3) _ _ (hzs c (List.mem_filter.mp (List.mem_of_getElem? hc)).1).2
/-- xs[e % len(xs)] of a list of tuples -/
theorem ev_pick {β : Type} {row : β → List V} {l : Addr} {as : List Addr} {ys : List β} {j : Int} (h1 : Ev ta σ H (.ref l)) (h2 : Ev tb σ H (.int (j % (as.length : Int)))) (hl : H l = some (.lst (as.map V.ref))) (ht : Tups H as (ys.map row)) (h0 : 0 < ys.length) :
    ∃ a y, Ev (tOp (rIxL K) ta tb) σ H (.ref a) ∧ y ∈ ys ∧ H a = some (.tup (row y)) := by
  have ln := ht.ln
  have e0 := Int.emod_nonneg j (b := (as.length : Int)) (by omega)
  have e1 := Int.emod_lt_of_pos j (b := (as.length : Int)) (by omega)
  have hi : (j % (as.length : Int)).toNat < ys.length := by omega
  obtain ⟨a, ha, hr⟩ := ht.at (i := (j % (as.length : Int)).toNat) (r := row ys[(j % (as.length : Int)).toNat]) (by rw [List.getElem?_map, List.getElem?_eq_getElem hi]; rfl)
  refine ⟨a, _, ev_ixL (i := (j % (as.length : Int)).toNat) h1 (ev_is h2 (by congr 1; omega)) hl (by rw [List.getElem?_map, ha]; rfl), List.getElem_mem hi, hr⟩
/-- numbers[i] -/
theorem ev_num {nl : Addr} {rs : List Int} {i : Nat} {j : Int} (h1 : Ev ta σ H (.ref nl)) (h2 : Ev tb σ H (.int j)) (hj : j = (i : Int)) (hl : H nl = some (.lst (rs.map V.int))) (hi : i < rs.length) : Ev (tOp (rIxL K) ta tb) σ H (.int rs[i]) :=
  ev_ixL (i := i) h1 (ev_is h2 (by rw [hj])) hl (by rw [List.getElem?_map, List.getElem?_eq_getElem hi]; rfl)
end
section
variable {P : Program} {w : World} {K : PySem.W.Frag} {mg : Str → Option Value} {base : Heap} {aP aM aR : Addr}
abbrev s_law_rounds : Stmt := top 57
abbrev N_law_rounds : List Str := ["_law_numbers_here", "_law_at", "_law_lines", "_law_flows", "_law_line", "_law_turn", "_law_place", "_law_seen", "_law_way", "_law_step", "_law_ways", "_law_name"]
theorem sc_law_rounds : FnScope N_law_rounds ["_law_numbers_here", "_law_at", "_law_lines"] (C8.fnScope s_law_rounds) := C8.fnScope_by (by decide +kernel)

def sp_law_rounds : Sp := fun vs H Q _ => ∃ (nl ll : Addr) (rs : List Int) (ls : List Ln), vs = [V.ref nl, V.int 70, V.ref ll] ∧ H nl = some (.lst (rs.map V.int)) ∧ rs.length = 200 ∧ Small rs ∧ TL H ll (ls.map row3) ∧ ls.length ≤ 60 ∧ (ls.map (·.n)).Nodup ∧
  ∀ q H' (F : Str → Int), H q = none → Ex H H' → H' q = some (.dK (fd (ls.map (·.n)) F)) → (∀ n ∈ ls.map (·.n), 0 ≤ F n ∧ F n ≤ 18) → Q (.ref q) H'
theorem c_law_rounds_ (T : Txt K mg aP aM aR) (D : Dn K mg "_law_rounds" s_law_rounds ["_law_numbers_here", "_law_at", "_law_lines"]) : C8.Cal P w K mg base 1 "_law_rounds" sp_law_rounds [] := by
  refine cal_of D sc_law_rounds (fun vs H Q E h => ?_) (fun f cdv A outer s H vs Q E hr h => ?_)
  · obtain ⟨nl, ll, rs, ls, rfl, _⟩ := h
    rfl
  · obtain ⟨nl, ll, rs, ls, rfl, hnl, hrl, hsm, ⟨as, hll, ht⟩, hz, hnd, q⟩ := h
    have la := ht.ln
    refine ⟨_, (pss_cons (ps_set (i := 3) sc_law_rounds.nd rfl (Or.inl rfl) pe_dnewK)
      (pss_cons (ps_for PassesOwn.never rfl (pi_list (pv 2)) (pg_name (i := 4) sc_law_rounds.nd rfl (Or.inl rfl)) (pss_one (ps_dput (hu_of hr) (pv 3) (pe_ix ix_tup (pv 4) pe_int (fun _ _ => rfl)) pe_int rfl)))
      (pss_cons (ps_for PassesOwn.never rfl (pi_range1 (by rfl) T.n_range (pa_cons (pe_callB (call_min2 rfl) (by rfl) T.n_min (by decide +kernel) (pa_cons pe_int (pa_cons (pe_callB call_len_seq (by rfl) T.n_len PySem.boot_len (pa_cons (pv 2) pa_nil)) pa_nil))) pa_nil)) (pg_name (i := 5) sc_law_rounds.nd rfl (Or.inl rfl)) (pss_cons (ps_set (i := 6) sc_law_rounds.nd rfl (Or.inr rfl) (pe_ix ix_tup (pe_ix ix_list (pv 2) (pe_op op_mod (pe_callTy call_int1 (by rfl) T.n_int (by decide +kernel) (pa_cons (pe_ix ix_list (pv 0) (pe_op op_add (pv 1) (pe_op op_mul pe_int (pv 5))) (fun _ _ => rfl)) pa_nil)) (pe_callB call_len_seq (by rfl) T.n_len PySem.boot_len (pa_cons (pv 2) pa_nil))) (fun _ _ => rfl)) pe_int (fun _ _ => rfl)))
      (pss_cons (ps_par (i := 7) (j := 8) (by rfl) sc_law_rounds.nd rfl rfl (by decide) rfl rfl (pa_cons (pe_lst (pa_cons (pv 6) pa_nil)) (pa_cons (pe_lst pa_nil) pa_nil)) (by rfl))
      (pss_one (ps_for PassesOwn.never rfl (pi_range1 (by rfl) T.n_range (pa_cons pe_int pa_nil)) (pg_name (i := 9) sc_law_rounds.nd rfl (Or.inl rfl)) (pss_cons (ps_setLc (i := 10) (own := [("_law_line", 4)]) (g := (gName 4)) rfl sc_law_rounds.nd rfl rfl (sw_true rfl rfl rfl (by decide +kernel)) (pi_list (pv 2)) (blkOk_by (own := [("_law_line", 4)]) (N := N_law_rounds) (sc := C8.fnScope s_law_rounds) (by decide +kernel)) (fun _ _ _ _ _ => (pg_name (i := 4) sc_law_rounds.nd rfl (Or.inl rfl))) (fun _ _ _ _ _ => (pts_one (pt_cmpR op_eq (pe_ix (ix_tupK K) (pv 4) pe_int (fun _ _ => rfl)) (pv 6) (nomark _)))) (fun _ _ _ _ _ => (pv 4)))
      (pss_cons (ps_if (pt_cmpR op_eq (pe_callB call_len_seq (by rfl) T.n_len PySem.boot_len (pa_cons (pv 10) pa_nil)) pe_int (nomark _)) (pss_one ps_break) pss_nil)
      (pss_cons (ps_set (i := 4) sc_law_rounds.nd rfl (Or.inl rfl) (pe_ix ix_list (pv 10) (pe_op op_mod (pe_callTy call_int1 (by rfl) T.n_int (by decide +kernel) (pa_cons (pe_ix ix_list (pv 0) (pe_op op_add (pe_op op_add (pe_op op_add (pv 1) (pe_op op_mul pe_int (pv 5))) pe_int) (pv 9)) (fun _ _ => rfl)) pa_nil)) (pe_callB call_len_seq (by rfl) T.n_len PySem.boot_len (pa_cons (pv 10) pa_nil))) (fun _ _ => rfl)))
      (pss_cons (ps_expr (pe_bm PySem.F.plainAttrs_list PySem.F.slot_list_append PySem.F.type_list_append mt_append (pv 8) (pa_cons (pe_ix ix_tup (pv 4) pe_int (fun _ _ => rfl)) pa_nil)))
      (pss_cons (ps_set (i := 6) sc_law_rounds.nd rfl (Or.inr rfl) (pe_ix ix_tup (pv 4) pe_int (fun _ _ => rfl)))
      (pss_cons (ps_if (pt_cmpR op_in_seq (pv 6) (pv 7) (by rfl)) (pss_cons (ps_for PassesOwn.never rfl (pi_list (pe_slice sl_list (pv 8) (po_some (pe_bm PySem.F.plainAttrs_list PySem.F.slot_list_index PySem.F.type_list_index mt_index (pv 7) (pa_cons (pv 6) pa_nil))) po_none)) (pg_name (i := 11) sc_law_rounds.nd rfl (Or.inl rfl)) (pss_one (ps_dput (hu_of hr) (pv 3) (pv 11) (pe_op op_add (pe_op op_add (pe_dget (hu_of hr) (pv 3) (pv 11) (fun _ _ => rfl)) pe_int) (pe_op op_mod (pe_op op_fdiv (pe_callTy call_int1 (by rfl) T.n_int (by decide +kernel) (pa_cons (pe_ix ix_list (pv 0) (pe_op op_add (pv 1) (pe_op op_mul pe_int (pv 5))) (fun _ _ => rfl)) pa_nil)) pe_int) pe_int)) rfl)))
      (pss_one ps_break)) pss_nil)
      (pss_one (ps_expr (pe_bm PySem.F.plainAttrs_list PySem.F.slot_list_append PySem.F.type_list_append mt_append (pv 7) (pa_cons (pv 6) pa_nil)))))))))))))))
      (pss_one (ps_ret (pv 3)))))), ?_⟩
    rw [show start N_law_rounds [V.ref nl, V.int 70, V.ref ll] = [some (.ref nl), some (.int 70), some (.ref ll), none, none, none, none, none, none, none, none, none] from rfl]
    refine q_asgN en_dnewK fun fo H1 hf0 e1 hf => ?_
    dsimp only [List.set_cons_zero, List.set_cons_succ]
    refine q_forL (ev_var rfl) (sq_of (e1 _ _ hll)) (fun i σ H' => ∃ a, σ = [some (.ref nl), some (.int 70), some (.ref ll), some (.ref fo), a, none, none, none, none, none, none, none] ∧ Ex H H' ∧ H' fo = some (.dK (fd ((ls.map (·.n)).take i) fun _ => 0))) (fun H2 e2 => ⟨none, rfl, e1.trans e2, e2 _ _ hf⟩) (fun i σ H' _ ⟨_, _, e, _⟩ => sq_of (e _ _ hll)) (fun i v σ H' hv h => ?_) (fun σ H' h => ?_)
    · obtain ⟨a, rfl, e, hf'⟩ := h
      obtain ⟨adr, l, rfl, _, hl, ha⟩ := ht.el hv
      have hln : (ls.map (·.n))[i]? = some l.n := by rw [List.getElem?_map, hl]; rfl
      have il : i < ls.length := (List.getElem?_eq_some_iff.mp hl).1
      refine s_dputS (m := l.n) hf' (ev_var rfl) (ev_ixT (i := 0) (ev_var rfl) ev_c (e _ _ ha) rfl) (ev_c (v := .int 0)) (by rw [List.length_take, List.length_map]; omega) fun H2 e2 => ⟨_, rfl, Ex.mut (e.trans e2) hf0, ?_⟩
      rw [upd_same, putK_dm_new (nd_take hnd hln), List.take_add_one, hln]
      congr 2
      exact dm_congr fun n _ => by split <;> rfl
    obtain ⟨a4, rfl, e, hf'⟩ := h
    rw [List.length_map, la, List.take_of_length_le (by rw [List.length_map]; exact Nat.le_refl _)] at hf'
    have hmin : (0 : Int) ≤ (if (((as.map V.ref).length : Nat) : Int) < 3 then (((as.map V.ref).length : Nat) : Int) else 3) ∧ (if (((as.map V.ref).length : Nat) : Int) < 3 then (((as.map V.ref).length : Nat) : Int) else 3) ≤ 3 ∧ (if (((as.map V.ref).length : Nat) : Int) < 3 then (((as.map V.ref).length : Nat) : Int) else 3) ≤ ls.length := by
      rw [List.length_map, la]; split <;> omega
    refine q_forR1 (n := (if (((as.map V.ref).length : Nat) : Int) < 3 then (((as.map V.ref).length : Nat) : Int) else 3)) (ea_cons (ev_min2 (i := 3) ev_c (ev_len (ev_var rfl) (sq_of (e _ _ hll)))) ea_nil) ⟨hmin.1, by omega⟩ (fun i σ H' => ∃ (F : Str → Int) (a b c d e f g h : Option V), σ = [some (.ref nl), some (.int 70), some (.ref ll), some (.ref fo), a, b, c, d, e, f, g, h] ∧ Ex H H' ∧ H' fo = some (.dK (fd (ls.map (·.n)) F)) ∧ ∀ n ∈ ls.map (·.n), 0 ≤ F n ∧ F n ≤ 6 * (i : Int)) (fun H2 e2 => ⟨fun _ => 0, _, _, _, _, _, _, _, _, rfl, e.trans e2, e2 _ _ hf', fun n _ => ⟨Int.le_refl _, by simp⟩⟩) (fun i σ H' hi h => ?_) (fun σ H' h => ?_)
    · obtain ⟨F, v4, v5, v6, v7, v8, v9, v10, v11, rfl, e, hF, hb⟩ := h
      obtain ⟨m1, m2, m3⟩ := hmin
      have hi3 : i < 3 := by omega
      have hl0 : 0 < ls.length := by omega
      dsimp only [List.set_cons_zero, List.set_cons_succ]
      have hi200 : 70 + 10 * i < rs.length := by omega
      have n0 := hsm _ (List.getElem_mem hi200)
      generalize hv0 : rs[70 + 10 * i] = r0 at n0
      have evn : ∀ {σ' : L2.St} {H'' : Hp}, σ'[0]? = some (some (.ref nl)) → σ'[1]? = some (some (.int 70)) → σ'[5]? = some (some (.int (i : Int))) → Ex H H'' → Ev (tOp (rIxL K) (tVar 0) (tOp (rI0 fun i j => .int (i + j)) (tVar 1) (tOp (rI CMul fun i j => .int (i * j)) (tC (.int 10)) (tVar 5)))) σ' H'' (.int r0) := fun {σ' H''} s0 s1 s5 e' => by
        rw [← hv0]
        exact ev_num (i := 70 + 10 * i) (j := 70 + 10 * (i : Int)) (ev_var s0) (ev_add (ev_var s1) (ev_mul ev_c (ev_var s5) (cmulL (by decide) (by decide)))) (by omega) (e' _ _ hnl) hi200
      obtain ⟨pa, pl0, pv, _, pt⟩ := ev_pick (K := K) (ta := tVar 2) (tb := tOp (rI (fun _ j => 0 < j) fun i j => .int (i % j)) (tCB (fun xs H Q => (∃ i, xs = [.int i] ∧ Q (.int i) H) ∨ ∃ k, xs = [.bl k] ∧ Q (.int (if k then 1 else 0)) H) (tCons (tOp (rIxL K) (tVar 0) (tOp (rI0 fun i j => .int (i + j)) (tVar 1) (tOp (rI CMul fun i j => .int (i * j)) (tC (.int 10)) (tVar 5)))) tNil)) (tCB (rLenS K) (tCons (tVar 2) tNil))) (σ := [some (.ref nl), some (.int 70), some (.ref ll), some (.ref fo), v4, some (.int (i : Int)), v6, v7, v8, v9, v10, v11]) (H := H') (l := ll) (as := as) (ys := ls) (row := row3) (j := r0) (ev_var rfl) (ev_is (ev_mod (ev_int (evn rfl rfl rfl e)) (ev_len (ev_var rfl) (sq_of (e _ _ hll))) (by rw [List.length_map]; omega)) (by rw [List.length_map])) (e _ _ hll) (ht.mono e) hl0
      refine q_asg (ev_ixT (i := 1) pv ev_c pt rfl) fun H2 e2 => ?_
      refine q_parL (el_lst (ea_cons (ev_var rfl) ea_nil) (by show 1 ≤ 100000; decide)) (el_lst ea_nil (by decide)) fun sl wl H3 s0 w0 nsw e3 hsl hwl => ?_
      dsimp only [List.set_cons_zero, List.set_cons_succ]
      have S0 := fresh_back e2 s0
      have W0 := fresh_back e2 w0
      have nfs : fo ≠ sl := fun z => ne_none hF S0 z.symm
      have nfw : fo ≠ wl := fun z => ne_none hF W0 z.symm
      refine s_forR1 (n := 9) (ea_cons ev_c ea_nil) (by decide) (fun j σ H' => ∃ (pl : Str) (L : List Ln) (a f g h : Option V), σ = [some (.ref nl), some (.int 70), some (.ref ll), some (.ref fo), a, some (.int (i : Int)), some (.str pl), some (.ref sl), some (.ref wl), f, g, h] ∧ Ex H H' ∧ H' fo = some (.dK (fd (ls.map (·.n)) F)) ∧ H' sl = some (.lst ((L.map (·.t) ++ [pl]).map V.str)) ∧ H' wl = some (.lst ((L.map (·.n)).map V.str)) ∧ (L.map (·.t) ++ [pl]).Nodup ∧ (∀ l ∈ L, l ∈ ls) ∧ L.length = j)
        (fun H4 e4 => ⟨pl0.t, [], _, _, _, _, rfl, ((e.trans e2).trans e3).trans e4, e4 _ _ (e3 _ _ (e2 _ _ hF)), e4 _ _ hsl, e4 _ _ hwl, by simp, fun l hl => (nomatch hl), rfl⟩) (fun j σ H4 hj h => ?_) (fun σ H4 h => ?_)
      · obtain ⟨pl, L, a, f, g, h, rfl, e4, f4, hs4, hw4, nd4, hL, hj'⟩ := h
        dsimp only [List.set_cons_zero, List.set_cons_succ]
        refine q_asgN (en_lcFO (ys := ls) (row := row3) (ev_var rfl) ⟨as, e4 _ _ hll, ht.mono e4⟩ (by omega) (fun l => decide (l.t = pl)) fun b y H' hy e hb => ⟨_, fun Q q => q, rfl, et_test (ev_eqS (ev_ixT (i := 1) (ev_var rfl) ev_c hb rfl) (ev_var rfl)), fun _ => ev_var rfl⟩) fun wy H5 _ e5 ⟨bs, hwy, htw⟩ => ?_
        dsimp only [List.set_cons_zero, List.set_cons_succ]
        have lw := htw.ln
        have e45 := e4.trans e5
        refine q_when (b := decide (((bs.map V.ref).length : Int) = 0)) (et_test (ev_eqI (ev_len (ev_var rfl) (sq_of hwy)) ev_c)) (fun hbk H6 e6 => ?_) (fun hbk H6 e6 => ?_)
        · exact ⟨F, _, _, _, _, _, _, _, _, rfl, e45.trans e6, e6 _ _ (e5 _ _ f4), fun n hn => by have := hb n hn; omega⟩
        have hw0 : 0 < (ls.filter fun l => decide (l.t = pl)).length := by
          have := of_decide_eq_false hbk
          rw [List.length_map] at this
          omega
        have hj200 : 70 + 10 * i + 1 + j < rs.length := by omega
        obtain ⟨la', l1, lv, lm, lt⟩ := ev_pick (K := K) (ta := tVar 10) (tb := tOp (rI (fun _ j => 0 < j) fun i j => .int (i % j)) (tCB (fun xs H Q => (∃ i, xs = [.int i] ∧ Q (.int i) H) ∨ ∃ k, xs = [.bl k] ∧ Q (.int (if k then 1 else 0)) H) (tCons (tOp (rIxL K) (tVar 0) (tOp (rI0 fun i j => .int (i + j)) (tOp (rI0 fun i j => .int (i + j)) (tOp (rI0 fun i j => .int (i + j)) (tVar 1) (tOp (rI CMul fun i j => .int (i * j)) (tC (.int 10)) (tVar 5))) (tC (.int 1))) (tVar 9))) tNil)) (tCB (rLenS K) (tCons (tVar 10) tNil))) (σ := [some (.ref nl), some (.int 70), some (.ref ll), some (.ref fo), a, some (.int (i : Int)), some (.str pl), some (.ref sl), some (.ref wl), some (.int (j : Int)), some (.ref wy), h]) (H := H6) (l := wy) (as := bs) (ys := ls.filter fun l => decide (l.t = pl)) (row := row3) (j := rs[70 + 10 * i + 1 + j]) (ev_var rfl) (ev_is (ev_mod (ev_int (ev_num (i := 70 + 10 * i + 1 + j) (j := 70 + 10 * (i : Int) + 1 + (j : Int)) (ev_var rfl) (ev_add (ev_add (ev_add (ev_var rfl) (ev_mul ev_c (ev_var rfl) (cmulL (by decide) (by decide)))) ev_c) (ev_var rfl)) (by omega) ((e45.trans e6) _ _ hnl) hj200)) (ev_len (ev_var rfl) (sq_of (e6 _ _ hwy))) (by rw [List.length_map]; omega)) (by rw [List.length_map])) (e6 _ _ hwy) (htw.mono e6) hw0
        have l1m := List.mem_filter.mp lm
        have l1t : l1.t = pl := of_decide_eq_true l1m.2
        refine q_asg lv fun H7 e7 => ?_
        dsimp only [List.set_cons_zero, List.set_cons_succ]
        have e67 := e6.trans e7
        have hw7 := e67 _ _ (e5 _ _ hw4)
        have hs7 := e67 _ _ (e5 _ _ hs4)
        have f7 := e67 _ _ (e5 _ _ f4)
        have lt7 := e7 _ _ lt
        refine q_app hw7 (ev_var rfl) (ev_ixT (i := 0) (ev_var rfl) ev_c lt7 rfl) (by rw [List.length_map, List.length_map]; omega) fun H8 e8 => ?_
        have E8 : Ex H (upd H8 wl (.lst ((L.map (·.n)).map V.str ++ [V.str l1.n]))) := Ex.mut ((e45.trans e67).trans e8) (fresh_back e W0)
        have nlw : la' ≠ wl := fun z => by rw [z, hw7] at lt7; cases lt7
        have lt8 : (upd H8 wl (.lst ((L.map (·.n)).map V.str ++ [V.str l1.n]))) la' = some (.tup (row3 l1)) := by rw [upd_ne nlw]; exact e8 _ _ lt7
        refine q_asg (ev_ixT (i := 2) (ev_var rfl) ev_c lt8 rfl) fun H9 e9 => ?_
        dsimp only [List.set_cons_zero, List.set_cons_succ]
        have E9 := E8.trans e9
        have hs9 : H9 sl = some (.lst ((L.map (·.t) ++ [pl]).map V.str)) := e9 _ _ (by rw [upd_ne nsw]; exact e8 _ _ hs7)
        have f9 : H9 fo = some (.dK (fd (ls.map (·.n)) F)) := e9 _ _ (by rw [upd_ne nfw]; exact e8 _ _ f7)
        have hw9 : H9 wl = some (.lst (((L ++ [l1]).map (·.n)).map V.str)) := e9 _ _ (by rw [upd_same, List.map_append, List.map_append]; rfl)
        have eT : (L ++ [l1]).map (·.t) = L.map (·.t) ++ [pl] := by rw [List.map_append, ← l1t]; rfl
        have hL1 : ∀ l ∈ L ++ [l1], l ∈ ls := fun l hl => by
          rcases List.mem_append.mp hl with z | z
          · exact hL l z
          · rw [List.mem_singleton.mp z]; exact l1m.1
        refine q_when (b := decide (l1.h ∈ L.map (·.t) ++ [pl])) (et_test (ev_inS (ev_var rfl) (ev_var rfl) (sq_of hs9))) (fun hbk H10 e10 => ?_) (fun hbk H10 e10 => ?_)
        · obtain ⟨ji, hji, hfi⟩ := first_idx (of_decide_eq_true hbk)
          have ndw : ((L ++ [l1]).map (·.n)).Nodup := way_nd hnd hL1 (by rw [eT]; exact nd4)
          have hsub : ∀ n ∈ ((L ++ [l1]).map (·.n)).drop (min ji ((L ++ [l1]).map (·.n)).length), n ∈ ls.map (·.n) := fun n hn => by
            obtain ⟨l, hl, rfl⟩ := List.mem_map.mp (List.mem_of_mem_drop hn)
            exact List.mem_map.mpr ⟨l, hL1 l hl, rfl⟩
          have ndd := (List.drop_sublist (min ji ((L ++ [l1]).map (·.n)).length) ((L ++ [l1]).map (·.n))).nodup ndw
          refine q_forNL (xs := (((L ++ [l1]).map (·.n)).drop (min ji ((L ++ [l1]).map (·.n)).length)).map V.str) (ev_isL (el_sl (ev_var rfl) (eo_some (ev_index (ev_var rfl) (ev_var rfl) (e10 _ _ hs9) hji hfi)) eo_none (sq_of (e10 _ _ hw9))) cutV_from) (fun p k σ H' => ∃ (F' : Str → Int) (h : Option V), σ = [some (.ref nl), some (.int 70), some (.ref ll), some (.ref fo), some (.ref la'), some (.int (i : Int)), some (.str l1.h), some (.ref sl), some (.ref wl), some (.int (j : Int)), some (.ref wy), h] ∧ Ex H H' ∧ H' fo = some (.dK (fd (ls.map (·.n)) F')) ∧ H' p = some (.lst ((((L ++ [l1]).map (·.n)).drop (min ji ((L ++ [l1]).map (·.n)).length)).map V.str)) ∧ ∀ n ∈ ls.map (·.n), (n ∉ (((L ++ [l1]).map (·.n)).drop (min ji ((L ++ [l1]).map (·.n)).length)).take k → F' n = F n) ∧ F n ≤ F' n ∧ F' n ≤ F n + 6)
            (fun p H11 _ e11 hp => ⟨F, _, rfl, (E9.trans e10).trans e11, e11 _ _ (e10 _ _ f9), hp, fun n _ => ⟨fun _ => rfl, by omega, by omega⟩⟩) (fun p k σ H' _ ⟨_, _, _, _, _, h, _⟩ => sq_of h) (fun p k x σ H' hx h => ?_) (fun p σ H' h => ?_)
          · obtain ⟨F', h, rfl, e11, f11, hp11, hF'⟩ := h
            rw [List.getElem?_map] at hx
            cases hu : (((L ++ [l1]).map (·.n)).drop (min ji ((L ++ [l1]).map (·.n)).length))[k]? with
            | none => rw [hu] at hx; cases hx
            | some u =>
              rw [hu] at hx
              have hx : V.str u = x := Option.some.inj hx
              subst hx
              dsimp only [List.set_cons_zero, List.set_cons_succ]
              have um := hsub u (List.mem_of_getElem? hu)
              have un := nd_take ndd hu
              obtain ⟨u1, u2, u3⟩ := hF' u um
              have c0 := Int.emod_nonneg (r0 / 16) (b := 6) (by decide)
              have c1 := Int.emod_lt_of_pos (r0 / 16) (b := 6) (by decide)
              have npf : p ≠ fo := fun z => by rw [z, f11] at hp11; cases hp11
              refine s_dputS (m := u) (v := .int (F' u + 1 + r0 / 16 % 6)) f11 (ev_var rfl) (ev_var rfl) (ev_add (ev_add (ev_dget (ev_var rfl) (ev_var rfl) (.inl f11) um) ev_c) (ev_mod (ev_fdiv (ev_int (evn rfl rfl rfl e11)) ev_c (by decide) (by decide)) ev_c (by decide))) (by rw [List.length_map]; omega) fun H12 e12 => ⟨MM.setF F' u (F' u + 1 + r0 / 16 % 6), _, rfl, Ex.mut (e11.trans e12) hf0, ?_, ?_, ?_⟩
              · rw [upd_same]
                exact congrArg (fun k => some (HO.dK k)) (putK_fd um)
              · rw [upd_ne npf]; exact e12 _ _ hp11
              · intro n hn
                obtain ⟨n1, n2, n3⟩ := hF' n hn
                have e1' := u1 un
                unfold MM.setF
                by_cases c : n = u
                · subst c
                  rw [if_pos rfl]
                  refine ⟨fun z => absurd ?_ z, by omega, by omega⟩
                  rw [List.take_add_one, hu]
                  exact List.mem_append_right _ (List.mem_singleton.mpr rfl)
                · rw [if_neg c]
                  refine ⟨fun z => n1 fun y => z ?_, n2, n3⟩
                  rw [List.take_add_one]
                  exact List.mem_append_left _ y
          · obtain ⟨F', h, rfl, e11, f11, hp11, hF'⟩ := h
            exact ⟨F', _, _, _, _, _, _, _, _, rfl, e11, f11, fun n hn => by
              have := hF' n hn
              have := hb n hn
              omega⟩
        · have hno := of_decide_eq_false hbk
          refine s_app (e10 _ _ hs9) (ev_var rfl) (ev_var (v := .str l1.h) rfl) (by rw [List.length_map, List.length_append, List.length_map]; simp; omega) fun H11 e11 => ⟨l1.h, L ++ [l1], _, _, _, _, rfl, Ex.mut ((E9.trans e10).trans e11) (fresh_back e S0), ?_, ?_, ?_, ?_, hL1, by rw [List.length_append, hj']; rfl⟩
          · rw [upd_ne nfs]; exact e11 _ _ (e10 _ _ f9)
          · rw [upd_same, eT, List.map_append (l₂ := [l1.h])]; rfl
          · rw [upd_ne nsw.symm]; exact e11 _ _ (e10 _ _ hw9)
          · rw [eT]
            exact List.nodup_append.mpr ⟨nd4, by simp, fun a ha b hb' z => hno (by rw [List.mem_singleton.mp hb'] at z; exact z ▸ ha)⟩
      · obtain ⟨pl, L, a, f, g, h, rfl, e4, f4, _⟩ := h
        exact ⟨F, _, _, _, _, _, _, _, _, rfl, e4, f4, fun n hn => by have := hb n hn; omega⟩
    · obtain ⟨F, v4, v5, v6, v7, v8, v9, v10, v11, rfl, e, hF, hb⟩ := h
      refine s_ret (ev_var rfl) fun H5 e5 => q fo H5 F hf0 (e.trans e5) (e5 _ _ hF) fun n hn => ?_
      have := hb n hn
      omega
end
end MS
set_option Elab.async false
set_option linter.all false
set_option maxRecDepth 100000
set_option maxHeartbeats 4000000
namespace MS
open PySem PySem.Spec PyProof.Rows L2 Evl
def longOf (k : Nat) : Str := ("long" : Str) ++ Str.ofString (toString (k : Int))
def longs : List Str := (List.range 24).map longOf
theorem longs_nd : longs.Nodup := by decide +kernel
theorem longs_ok : longs.all (fun z => decide (5 ≤ z.length) && decide (z.length ≤ 12) && z.cps.toList.all fun c => decide (c ∈ letters.cps.toList)) = true := by decide +kernel
theorem longs_nm {z : Str} (h : z ∈ longs) : Nm z ∧ 5 ≤ z.length := by
  have := List.all_eq_true.mp longs_ok z h
  rw [Bool.and_eq_true, Bool.and_eq_true] at this
  obtain ⟨⟨h1, h2⟩, h3⟩ := this
  have h1 := of_decide_eq_true h1
  exact ⟨⟨by omega, of_decide_eq_true h2, fun c hc => of_decide_eq_true (List.all_eq_true.mp h3 c hc)⟩, h1⟩
theorem longs_len : longs.length = 24 := by unfold longs; rw [List.length_map, List.length_range]
/-- the law's plant: knots and streams, as they were made -/
def LPl (H : Hp) (p : Addr) (ks : List Str) (ss : List Stm) : Prop := ∃ lk ls : Addr, H p = some (.tup [.ref lk, .ref ls]) ∧ H lk = some (.lst (ks.map V.str)) ∧ TL H ls (ss.map tupS)
theorem LPl.mono {H H' : Hp} {p : Addr} {ks : List Str} {ss : List Stm} (h : LPl H p ks ss) (e : Ex H H') : LPl H' p ks ss := by
  obtain ⟨lk, ls, h1, h2, h3⟩ := h
  exact ⟨lk, ls, e _ _ h1, e _ _ h2, h3.mono e⟩
structure Great (ks : List Str) (ss : List Stm) (F : Str → Int) : Prop where
  k1 : 2 ≤ ks.length
  k2 : ks.length ≤ 24
  kn : ks.Nodup
  kN : ∀ z ∈ ks, Nm z
  s1 : ss.length ≤ 60
  sn : (ss.map (·.n)).Nodup
  sS : ∀ s ∈ ss, Nm s.n ∧ Sok ks s
  f : ∀ s ∈ ss, 0 ≤ F s.n ∧ F s.n ≤ 180018
section
variable {K : PySem.W.Frag} {σ : L2.St} {H : Hp} {ta tb tc te td ty tv tl : TE} {t : TT} {D : Ends} {g : TG} {tu tz : TS}
theorem en_names {E : XK} {tA : TA} {n : Int} {m : Nat} (h : EvA tA σ H [.int n, .int m]) (hm : m ≤ 36) : EvN (tCall sp_law_names [] E tA) σ H (fun q H' => ∃ zs : List Str, H' q = some (.lst (zs.map V.str)) ∧ zs.length = m ∧ zs.Nodup ∧ ∀ z ∈ zs, Nm z ∧ z.length ≤ 4) := fun H1 e Q q =>
  h H1 e _ fun H2 e2 => ⟨n, m, rfl, hm, fun q' H' zs hq' e' h1 h2 h3 h4 => q q' H' (fresh_back e2 hq') (e2.trans e') ⟨zs, h1, h2, h3, h4⟩⟩
theorem en_catX {R : List Str → Prop} {ys : List V} (h1 : EvN ta σ H (fun p H' => ∃ zs : List Str, H' p = some (.lst (zs.map V.str)) ∧ R zs)) (h2 : EvL tb σ H ys) (hR : ∀ zs, R zs → zs.length + ys.length ≤ 100000) : EvN (tOp rCat ta tb) σ H (fun p H' => ∃ zs : List Str, H' p = some (.lst (zs.map V.str ++ ys)) ∧ R zs) := fun H1 e Q q =>
  h1 H1 e _ fun a H2 _ e2 ⟨zs, ha, hr⟩ => h2 H2 (e.trans e2) _ fun b H3 hb e3 h3 => ⟨a, b, _, ys, rfl, rfl, e3 _ _ ha, h3, by rw [List.length_map]; exact Nat.le_trans (hR zs hr) (by decide), fun p hp => q p _ (fresh_back (e2.trans e3) hp) ((e2.trans e3).trans (Ex.new hp)) ⟨zs, upd_same, hr⟩⟩
theorem ev_strI {i : Int} (h : Ev te σ H (.int i)) (hi : i.natAbs.log2 < 1920) : Ev (tCB (fun xs H Q => ∃ i : Int, xs = [.int i] ∧ i.natAbs.log2 < 1920 ∧ Q (.str (Str.ofString (toString i))) H) (tCons te tNil)) σ H (.str (Str.ofString (toString i))) := fun H1 e Q q => h H1 e _ fun H2 e2 => ⟨i, rfl, hi, q H2 e2⟩
theorem en_rounds {E : XK} {tA : TA} {nl ll : Addr} {rs : List Int} {ls : List Ln} (h : EvA tA σ H [.ref nl, .int 70, .ref ll]) (h1 : H nl = some (.lst (rs.map V.int))) (h2 : rs.length = 200) (h3 : Small rs) (h4 : TL H ll (ls.map row3)) (h5 : ls.length ≤ 60) (h6 : (ls.map (·.n)).Nodup) :
    EvN (tCall sp_law_rounds [] E tA) σ H (fun q H' => ∃ F : Str → Int, H' q = some (.dK (fd (ls.map (·.n)) F)) ∧ ∀ n ∈ ls.map (·.n), 0 ≤ F n ∧ F n ≤ 18) := fun H1 e Q q =>
  h H1 e _ fun H2 e2 => ⟨nl, ll, rs, ls, rfl, (e.trans e2) _ _ h1, h2, h3, h4.mono (e.trans e2), h5, h6, fun q' H' F hq' e' k1 k2 => q q' H' (fresh_back e2 hq') (e2.trans e') ⟨F, k1, k2⟩⟩
/-- a tuple and another one's items -/
theorem eu_cat {a : Addr} {xs ys : List V} (h1 : Ev ta σ H (.ref a)) (ha : H a = some (.tup xs)) (h2 : EvU tb σ H ys) (hx : xs ≠ []) (hy : ys ≠ []) (hz : xs.length + ys.length ≤ 100000) : EvU (tOp (rCatT K) ta tb) σ H (xs ++ ys) := fun H1 e Q q =>
  h1 H1 e _ fun H2 e2 => h2 H2 (e.trans e2) _ fun b H3 hb e3 h3 => ⟨a, b, xs, ys, rfl, rfl, st_of (((e.trans e2).trans e3) _ _ ha), st_of h3, hx, Nat.le_trans hz (by decide), fun z => absurd z hy, fun _ p hp => q p _ (fresh_back (e2.trans e3) hp) ((e2.trans e3).trans (Ex.new hp)) upd_same⟩
theorem en_tup2 {xs : List V} {v : V} (h1 : EvU ta σ H xs) (h2 : Ev tb σ H v) : EvN (tTup (tCons ta (tCons tb tNil))) σ H (fun q H' => ∃ p, H' q = some (.tup [.ref p, v]) ∧ H' p = some (.tup xs)) := fun H1 e Q q =>
  h1 H1 e _ fun p H2 _ e2 hp => h2 H2 (e.trans e2) _ fun H3 e3 => ⟨sz_of (by show 2 ≤ 100000; decide), fun r hr => q r _ (fresh_back (e2.trans e3) hr) ((e2.trans e3).trans (Ex.new hr)) ⟨p, upd_same, (Ex.new hr) _ _ (e3 _ _ hp)⟩⟩
/-- xs[e % len(xs)] of a list of texts -/
theorem ev_pickS {l : Addr} {xs : List Str} {j : Int} (h1 : Ev ta σ H (.ref l)) (h2 : Ev tb σ H (.int (j % (((xs.map V.str).length : Nat) : Int)))) (hl : H l = some (.lst (xs.map V.str))) (h0 : 0 < xs.length) : ∃ x, x ∈ xs ∧ Ev (tOp (rIxL K) ta tb) σ H (.str x) := by
  rw [List.length_map] at h2
  have e0 := Int.emod_nonneg j (b := (xs.length : Int)) (by omega)
  have e1 := Int.emod_lt_of_pos j (b := (xs.length : Int)) (by omega)
  have hi : (j % (xs.length : Int)).toNat < xs.length := by omega
  exact ⟨xs[(j % (xs.length : Int)).toNat], List.getElem_mem hi, ev_ixL (i := (j % (xs.length : Int)).toNat) h1 (ev_is h2 (by congr 1; omega)) hl (by rw [List.getElem?_map, List.getElem?_eq_getElem hi]; rfl)⟩
end
section
variable {P : Program} {w : World} {K : PySem.W.Frag} {mg : Str → Option Value} {base : Heap} {aP aM aR : Addr}
abbrev s_law_great : Stmt := top 68
abbrev N_law_great : List Str := ["_law_numbers_here", "_law_knots", "_law_many", "_law_names_here", "_law_k", "_law_lines", "_law_ends", "_law_flows", "_law_streams", "_law_by", "_law_bounds", "_law_low"]
theorem sc_law_great : FnScope N_law_great ["_law_numbers_here"] (C8.fnScope s_law_great) := C8.fnScope_by (by decide +kernel)

def sp_law_great : Sp := fun vs H Q _ => ∃ (nl : Addr) (rs : List Int), vs = [V.ref nl] ∧ H nl = some (.lst (rs.map V.int)) ∧ rs.length = 200 ∧ Small rs ∧
  ∀ (q pl fo : Addr) (H' : Hp) (ks : List Str) (ss : List Stm) (F : Str → Int), Ex H H' → H' q = some (.tup [.ref pl, .ref fo]) → LPl H' pl ks ss → H' fo = some (.dK (fd (ss.map (·.n)) F)) → Great ks ss F → Q (.ref q) H'
theorem c_law_great_ (T : Txt K mg aP aM aR) (D : Dn K mg "_law_great" s_law_great ["_law_numbers_here"]) (c_law_names : C8.Cal P w K mg base 1 "_law_names" sp_law_names []) (c_law_rounds : C8.Cal P w K mg base 1 "_law_rounds" sp_law_rounds []) : C8.Cal P w K mg base 2 "_law_great" sp_law_great [] := by
  refine cal_of D sc_law_great (fun vs H Q E h => ?_) (fun f cdv A outer s H vs Q E hr h => ?_)
  · obtain ⟨nl, rs, rfl, _⟩ := h
    rfl
  · obtain ⟨nl, rs, rfl, hnl, hrl, hsm, q⟩ := h
    refine ⟨_, (pss_cons (ps_set (i := 1) sc_law_great.nd rfl (Or.inl rfl) (C8.pe_c c_law_names hr (by decide) (by rfl) (pa_cons (pe_callTy call_int1 (by rfl) T.n_int (by decide +kernel) (pa_cons (pe_ix ix_list (pv 0) pe_int (fun _ _ => rfl)) pa_nil)) (pa_cons (pe_op op_add pe_int (pe_op op_mod (pe_callTy call_int1 (by rfl) T.n_int (by decide +kernel) (pa_cons (pe_ix ix_list (pv 0) pe_int (fun _ _ => rfl)) pa_nil)) pe_int)) pa_nil))))
      (pss_cons (ps_set (i := 2) sc_law_great.nd rfl (Or.inl rfl) (pe_op op_mod (pe_callTy call_int1 (by rfl) T.n_int (by decide +kernel) (pa_cons (pe_ix ix_list (pv 0) pe_int (fun _ _ => rfl)) pa_nil)) pe_int))
      (pss_cons (ps_set (i := 3) sc_law_great.nd rfl (Or.inl rfl) (pe_op op_cat (C8.pe_c c_law_names hr (by decide) (by rfl) (pa_cons (pe_callTy call_int1 (by rfl) T.n_int (by decide +kernel) (pa_cons (pe_ix ix_list (pv 0) pe_int (fun _ _ => rfl)) pa_nil)) (pa_cons pe_int pa_nil))) (pe_lc (own := [("_law_k", 4)]) (g := (gName 4)) (tt := tYes) rfl sc_law_great.nd (pi_range1 (by rfl) T.n_range (pa_cons pe_int pa_nil)) (blkOk_by (own := [("_law_k", 4)]) (N := N_law_great) (sc := C8.fnScope s_law_great) (by decide +kernel)) (fun _ _ _ _ _ => (pg_name (i := 4) sc_law_great.nd rfl (Or.inl rfl))) (fun _ _ _ _ _ => pts_nil) (fun _ _ _ _ _ => (pe_op op_add_str pe_str (pe_callTy call_str_int (by rfl) T.n_str (by decide +kernel) (pa_cons (pv 4) pa_nil)))))))
      (pss_cons (ps_set (i := 5) sc_law_great.nd rfl (Or.inl rfl) (pe_lst pa_nil))
      (pss_cons (ps_for PassesOwn.never rfl (pi_range1 (by rfl) T.n_range (pa_cons (pv 2) pa_nil)) (pg_name (i := 4) sc_law_great.nd rfl (Or.inl rfl)) (pss_cons (ps_set (i := 6) sc_law_great.nd rfl (Or.inl rfl) (pe_op op_add (pe_callTy call_int1 (by rfl) T.n_int (by decide +kernel) (pa_cons (pe_ix ix_list (pv 0) (pe_op op_add pe_int (pe_op op_mod (pe_callTy call_int1 (by rfl) T.n_int (by decide +kernel) (pa_cons (pv 4) pa_nil)) pe_int)) (fun _ _ => rfl)) pa_nil)) (pe_op op_mul pe_int (pv 4))))
      (pss_one (ps_expr (pe_bm PySem.F.plainAttrs_list PySem.F.slot_list_append PySem.F.type_list_append mt_append (pv 5) (pa_cons (pe_tup (pa_cons (pe_ix ix_list (pv 3) (pv 4) (fun _ _ => rfl)) (pa_cons (pe_ix ix_list (pv 1) (pe_op op_mod (pe_callTy call_int1 (by rfl) T.n_int (by decide +kernel) (pa_cons (pv 6) pa_nil)) (pe_callB call_len_seq (by rfl) T.n_len PySem.boot_len (pa_cons (pv 1) pa_nil))) (fun _ _ => rfl)) (pa_cons (pe_ix ix_list (pv 1) (pe_op op_mod (pe_callTy call_int1 (by rfl) T.n_int (by decide +kernel) (pa_cons (pe_op op_add (pe_op op_fdiv (pv 6) pe_int) (pv 4)) pa_nil)) (pe_callB call_len_seq (by rfl) T.n_len PySem.boot_len (pa_cons (pv 1) pa_nil))) (fun _ _ => rfl)) pa_nil)))) pa_nil))))))
      (pss_cons (ps_set (i := 7) sc_law_great.nd rfl (Or.inl rfl) (C8.pe_c c_law_rounds hr (by decide) (by rfl) (pa_cons (pv 0) (pa_cons pe_int (pa_cons (pv 5) pa_nil)))))
      (pss_cons (ps_set (i := 8) sc_law_great.nd rfl (Or.inl rfl) (pe_lst pa_nil))
      (pss_cons (ps_for PassesOwn.never rfl (pi_range1 (by rfl) T.n_range (pa_cons (pv 2) pa_nil)) (pg_name (i := 4) sc_law_great.nd rfl (Or.inl rfl)) (pss_cons (ps_set (i := 9) sc_law_great.nd rfl (Or.inl rfl) (pe_op op_add pe_int (pe_op op_mul (pe_op op_mod (pe_callTy call_int1 (by rfl) T.n_int (by decide +kernel) (pa_cons (pe_ix ix_list (pv 0) pe_int (fun _ _ => rfl)) pa_nil)) pe_int) pe_int)))
      (pss_cons (ps_dput (hu_of hr) (pv 7) (pe_ix ix_list (pv 3) (pv 4) (fun _ _ => rfl)) (pe_op op_mul (pe_dget (hu_of hr) (pv 7) (pe_ix ix_list (pv 3) (pv 4) (fun _ _ => rfl)) (fun _ _ => rfl)) (pv 9)) rfl)
      (pss_cons (ps_set (i := 10) sc_law_great.nd rfl (Or.inl rfl) (pe_callTy call_int1 (by rfl) T.n_int (by decide +kernel) (pa_cons (pe_ix ix_list (pv 0) (pe_op op_add pe_int (pe_op op_mod (pe_callTy call_int1 (by rfl) T.n_int (by decide +kernel) (pa_cons (pv 4) pa_nil)) pe_int)) (fun _ _ => rfl)) pa_nil)))
      (pss_cons (ps_set (i := 11) sc_law_great.nd rfl (Or.inl rfl) (pe_callB (call_max2 rfl) (by rfl) T.n_max (by decide +kernel) (pa_cons pe_int (pa_cons (pe_op op_sub (pe_dget (hu_of hr) (pv 7) (pe_ix ix_list (pv 3) (pv 4) (fun _ _ => rfl)) (fun _ _ => rfl)) (pe_op op_mul (pe_op op_mod (pe_callTy call_int1 (by rfl) T.n_int (by decide +kernel) (pa_cons (pv 10) pa_nil)) pe_int) pe_int)) pa_nil))))
      (pss_one (ps_expr (pe_bm PySem.F.plainAttrs_list PySem.F.slot_list_append PySem.F.type_list_append mt_append (pv 8) (pa_cons (pe_op op_catT (pe_ix ix_list (pv 5) (pv 4) (fun _ _ => rfl)) (pe_tup (pa_cons (pv 11) (pa_cons (pe_callB (call_min2 rfl) (by rfl) T.n_min (by decide +kernel) (pa_cons pe_int (pa_cons (pe_op op_add (pe_dget (hu_of hr) (pv 7) (pe_ix ix_list (pv 3) (pv 4) (fun _ _ => rfl)) (fun _ _ => rfl)) (pe_op op_mul (pe_op op_mod (pe_callTy call_int1 (by rfl) T.n_int (by decide +kernel) (pa_cons (pv 10) pa_nil)) pe_int) pe_int)) pa_nil))) pa_nil)))) pa_nil)))))))))
      (pss_one (ps_ret (pe_tup (pa_cons (pe_tup (pa_cons (pv 1) (pa_cons (pv 8) pa_nil))) (pa_cons (pv 7) pa_nil))))))))))))), ?_⟩
    rw [show start N_law_great [V.ref nl] = [some (.ref nl), none, none, none, none, none, none, none, none, none, none, none] from rfl]
    have gn : ∀ (i : Nat), i < 200 → ∃ v : Int, (0 ≤ v ∧ v < 1009) ∧ ∀ {σ' : L2.St} {H' : Hp} {tb' : TE} {j : Int}, σ'[0]? = some (some (.ref nl)) → Ex H H' → Ev tb' σ' H' (.int j) → j = (i : Int) → Ev (tOp (rIxL K) (tVar 0) tb') σ' H' (.int v) := fun i hi => by
      have hi' : i < rs.length := by omega
      exact ⟨rs[i], hsm _ (List.getElem_mem hi'), fun {σ' H' tb' j} s0 e h hj => ev_num (ev_var s0) h hj (e _ _ hnl) hi'⟩
    obtain ⟨r0, b0, g0⟩ := gn 0 (by decide)
    obtain ⟨r1, b1, g1⟩ := gn 1 (by decide)
    obtain ⟨r2, b2, g2'⟩ := gn 2 (by decide)
    obtain ⟨r3, b3, g3'⟩ := gn 3 (by decide)
    obtain ⟨r100, b100, g100⟩ := gn 100 (by decide)
    have m0 := Int.emod_nonneg r1 (b := 23) (by decide)
    have m1 := Int.emod_lt_of_pos r1 (b := 23) (by decide)
    obtain ⟨mk, hmk⟩ : ∃ mk : Nat, 2 + r1 % 23 = (mk : Int) := ⟨(2 + r1 % 23).toNat, by omega⟩
    refine q_asgN (en_names (n := r0) (m := mk) (ea_cons (ev_int (g0 rfl (Ex.refl _) ev_c rfl)) (ea_cons (ev_is (ev_add (i := 2) (j := r1 % 23) ev_c (ev_mod (ev_int (g1 rfl (Ex.refl _) ev_c rfl)) ev_c (by decide))) (by rw [hmk])) ea_nil)) (by omega)) fun kl H1 hk0 e1 ⟨ks, hkl, kl1, kl2, kl3⟩ => ?_
    dsimp only [List.set_cons_zero, List.set_cons_succ]
    have y0 := Int.emod_nonneg r2 (b := 61) (by decide)
    have y1 := Int.emod_lt_of_pos r2 (b := 61) (by decide)
    obtain ⟨my, hmy⟩ : ∃ my : Nat, r2 % 61 = (my : Int) := ⟨(r2 % 61).toNat, by omega⟩
    refine q_asg (v := .int my) (ev_is (ev_mod (i := r2) (j := 61) (ev_int (g2' rfl e1 ev_c rfl)) ev_c (by decide)) (by rw [hmy])) fun H2 e2 => ?_
    dsimp only [List.set_cons_zero, List.set_cons_succ]
    have e02 := e1.trans e2
    refine q_asgN (en_catX (R := fun zs => zs.length = 36 ∧ zs.Nodup ∧ ∀ z ∈ zs, Nm z ∧ z.length ≤ 4) (ys := longs.map V.str) (en_names (n := r3) (m := 36) (ea_cons (ev_int (g3' rfl e02 ev_c rfl)) (ea_cons ev_c ea_nil)) (by decide)) (ev_isL (el_lc (ei_range (n := 24) (ea_cons ev_c ea_nil) (by decide) (by decide)) (ys := List.range 24) (by rw [List.length_map]; rfl) (by decide) (fun _ => true) (fun k => .str (longOf k)) fun i x y H' hx hy e => ?_) (by rw [all_map]; unfold longs; rw [List.map_map]; rfl)) (fun zs hz => by rw [hz.1, List.length_map, longs_len]; decide)) fun nm H3 hn0 e3 ⟨zs, hnm, z1, z2, z3⟩ => ?_
    · rw [List.getElem?_map, show (24 : Int).toNat = 24 from rfl, hy] at hx
      have hx : V.int (y : Int) = x := Option.some.inj hx
      subst hx
      have yl := List.mem_range.mp (List.mem_of_getElem? hy)
      have ylog : ((y : Int).natAbs.log2) < 1920 := by
        rw [Int.natAbs_natCast]
        exact Nat.lt_of_le_of_lt (Nat.log2_le_self y) (by omega)
      refine ⟨_, fun Q q => q, rfl, et_yes, fun _ => ev_addS (a := "long") (b := Str.ofString (toString (y : Int))) ev_c (ev_strI (ev_var rfl) ylog) ?_⟩
      have hm : longOf y ∈ longs := List.mem_map.mpr ⟨y, List.mem_range.mpr yl, rfl⟩
      have hl := (longs_nm hm).1.2.1
      have hl' : (longOf y).length = ("long" : Str).length + (Str.ofString (toString (y : Int))).length := by
        show (_ ++ _ : Array Nat).size = _
        rw [Array.size_append]; rfl
      omega
    dsimp only [List.set_cons_zero, List.set_cons_succ]
    have e03 := e02.trans e3
    rw [← List.map_append] at hnm
    have hNl : (zs ++ longs).length = 60 := by rw [List.length_append, z1, longs_len]
    have hNd : (zs ++ longs).Nodup := List.nodup_append.mpr ⟨z2, longs_nd, fun a ha b hb z => by
      have h1 := (z3 a ha).2
      have h2 := (longs_nm hb).2
      rw [z] at h1
      omega⟩
    have hNm : ∀ z ∈ zs ++ longs, Nm z := fun z hz => by
      rcases List.mem_append.mp hz with y | y
      · exact (z3 z y).1
      · exact (longs_nm y).1
    generalize zs ++ longs = nms at hnm hNl hNd hNm
    have kpos : 0 < ks.length := by omega
    refine q_asgL (el_lst ea_nil (by decide)) fun lnl H4 ll0 e4 hln => ?_
    dsimp only [List.set_cons_zero, List.set_cons_succ]
    have L0 : H3 lnl = none := ll0
    have hkl3 := e3 _ _ (e2 _ _ hkl)
    refine q_forR1 (n := (my : Int)) (ea_cons (ev_var rfl) ea_nil) (by omega) (fun i σ H' => ∃ (a b : Option V) (ls : List Ln), σ = [some (.ref nl), some (.ref kl), some (.int my), some (.ref nm), a, some (.ref lnl), b, none, none, none, none, none] ∧ Ex H3 H' ∧ TL H' lnl (ls.map row3) ∧ ls.map (·.n) = nms.take i ∧ (∀ l ∈ ls, l.t ∈ ks ∧ l.h ∈ ks) ∧ ls.length = i)
      (fun H5 e5 => ⟨_, _, [], rfl, e4.trans e5, ⟨[], e5 _ _ hln, Tups.nil⟩, rfl, fun l hl => (nomatch hl), rfl⟩) (fun i σ H' hi h => ?_) (fun σ H' h => ?_)
    · obtain ⟨a, b, ls, rfl, e, ⟨as, hls, hts⟩, l1, l2, l3⟩ := h
      dsimp only [List.set_cons_zero, List.set_cons_succ]
      have hi60 : i < nms.length := by omega
      have him : (i : Int) % 60 = (i : Int) := by omega
      obtain ⟨ri, bi, gi⟩ := gn (4 + i) (by omega)
      have e0 := e03.trans e
      refine q_asg (ev_add (i := ri) (j := 7 * (i : Int)) (ev_int (gi rfl e0 (ev_add (i := 4) (j := (i : Int) % 60) ev_c (ev_mod (ev_int (ev_var rfl)) ev_c (by decide))) (by omega))) (ev_mul (i := 7) (j := (i : Int)) ev_c (ev_var rfl) (cmulL (by decide) (by decide)))) fun H5 e5 => ?_
      dsimp only [List.set_cons_zero, List.set_cons_succ]
      generalize ri + 7 * (i : Int) = en
      have hkl5 := e5 _ _ (e _ _ hkl3)
      obtain ⟨x1, x1m, x1v⟩ := ev_pickS (K := K) (ta := tVar 1) (tb := tOp (rI (fun _ j => 0 < j) fun i j => .int (i % j)) (tCB (fun xs H Q => (∃ i, xs = [.int i] ∧ Q (.int i) H) ∨ ∃ k, xs = [.bl k] ∧ Q (.int (if k then 1 else 0)) H) (tCons (tVar 6) tNil)) (tCB (rLenS K) (tCons (tVar 1) tNil))) (σ := [some (.ref nl), some (.ref kl), some (.int my), some (.ref nm), some (.int (i : Int)), some (.ref lnl), some (.int en), none, none, none, none, none]) (H := H5) (l := kl) (xs := ks) (j := en) (ev_var rfl) (ev_mod (ev_int (ev_var rfl)) (ev_len (ev_var rfl) (sq_of hkl5)) (by rw [List.length_map]; omega)) hkl5 kpos
      obtain ⟨x2, x2m, x2v⟩ := ev_pickS (K := K) (ta := tVar 1) (tb := tOp (rI (fun _ j => 0 < j) fun i j => .int (i % j)) (tCB (fun xs H Q => (∃ i, xs = [.int i] ∧ Q (.int i) H) ∨ ∃ k, xs = [.bl k] ∧ Q (.int (if k then 1 else 0)) H) (tCons (tOp (rI0 fun i j => .int (i + j)) (tOp (rI CDiv fun i j => .int (i / j)) (tVar 6) (tC (.int 16))) (tVar 4)) tNil)) (tCB (rLenS K) (tCons (tVar 1) tNil))) (σ := [some (.ref nl), some (.ref kl), some (.int my), some (.ref nm), some (.int (i : Int)), some (.ref lnl), some (.int en), none, none, none, none, none]) (H := H5) (l := kl) (xs := ks) (j := en / 16 + (i : Int)) (ev_var rfl) (ev_mod (ev_int (ev_add (ev_fdiv (ev_var rfl) ev_c (by decide) (by decide)) (ev_var rfl))) (ev_len (ev_var rfl) (sq_of hkl5)) (by rw [List.length_map]; omega)) hkl5 kpos
      have hnm5 := e5 _ _ (e _ _ hnm)
      have hlen := hts.ln
      refine s_appU (e5 _ _ hls) (ev_var rfl) (eu_3 (x := .str nms[i]) (ev_ixL (i := i) (ev_var rfl) (ev_var rfl) hnm5 (by rw [List.getElem?_map, List.getElem?_eq_getElem hi60]; rfl)) x1v x2v) (by rw [List.length_map]; omega) fun p H6 hp e6 h6 => ⟨_, _, ls ++ [⟨nms[i], x1, x2⟩], rfl, Ex.mut ((e.trans e5).trans e6) L0, ⟨as ++ [p], by rw [upd_same, List.map_append]; rfl, ?_⟩, ?_, ?_, by rw [List.length_append, l3]; rfl⟩
      · rw [List.map_append]
        exact ((hts.mono (e5.trans e6)).snoc h6).but (fun _ z => by rw [e6 _ _ (e5 _ _ hls)] at z; cases z) ExD.upd
      · rw [List.map_append, l1, List.take_add_one, List.getElem?_eq_getElem hi60]; rfl
      · intro l hl
        rcases List.mem_append.mp hl with z | z
        · exact l2 l z
        · rw [List.mem_singleton.mp z]; exact ⟨x1m, x2m⟩
    · obtain ⟨a, b, ls, rfl, e, hts, l1, l2, l3⟩ := h
      rw [Int.toNat_natCast] at l1 l3
      have nls : (ls.map (·.n)).Nodup := by rw [l1]; exact (List.take_sublist _ _).nodup hNd
      have e0 := e03.trans e
      refine q_asgN (en_rounds (ls := ls) (ea_cons (ev_var rfl) (ea_cons ev_c (ea_cons (ev_var rfl) ea_nil))) (e0 _ _ hnl) hrl hsm hts (by omega) nls) fun fo H5 f0 e5 ⟨F, hF, bF⟩ => ?_
      dsimp only [List.set_cons_zero, List.set_cons_succ]
      refine q_asgL (el_lst ea_nil (by decide)) fun stl H6 st0 e6 hst => ?_
      dsimp only [List.set_cons_zero, List.set_cons_succ]
      have S0 := fresh_back e5 st0
      have nfs : fo ≠ stl := fun z => ne_none hF st0 z.symm
      obtain ⟨as, hls, hts⟩ := hts
      have hlen := hts.ln
      have n60 : ∀ n ∈ ls.map (·.n), Nm n := fun n hn => by rw [l1] at hn; exact hNm n (List.mem_of_mem_take hn)
      refine q_forR1 (n := (my : Int)) (ea_cons (ev_var rfl) ea_nil) (by omega) (fun i σ H'' => ∃ (a b c d e : Option V) (F' : Str → Int) (ss : List Stm), σ = [some (.ref nl), some (.ref kl), some (.int my), some (.ref nm), a, some (.ref lnl), b, some (.ref fo), some (.ref stl), c, d, e] ∧ Ex H' H'' ∧ H'' fo = some (.dK (fd (ls.map (·.n)) F')) ∧ TL H'' stl (ss.map tupS) ∧ ss.map ln = ls.take i ∧ (∀ s ∈ ss, 0 ≤ s.lo ∧ s.lo ≤ s.hi ∧ s.hi ≤ 1000000) ∧ (∀ n ∈ ls.map (·.n), 0 ≤ F' n ∧ F' n ≤ 180018) ∧ ∀ n ∈ ls.map (·.n), n ∉ (ls.map (·.n)).take i → F' n ≤ 18)
        (fun H7 e7 => ⟨_, _, _, _, _, F, [], rfl, (e5.trans e6).trans e7, e7 _ _ (e6 _ _ hF), ⟨[], e7 _ _ hst, Tups.nil⟩, rfl, fun s hs => (nomatch hs), fun n hn => by have := bF n hn; omega, fun n hn _ => (bF n hn).2⟩) (fun i σ H7 hi h => ?_) (fun σ H7 h => ?_)
      · obtain ⟨a4, a6, a9, a10, a11, F', ss, rfl, e7, f7, ⟨bs, hbs, htb⟩, s1, s2, s3, s4⟩ := h
        dsimp only [List.set_cons_zero, List.set_cons_succ]
        have hil : i < ls.length := by omega
        have hin : i < nms.length := by omega
        have enm : (ls[i]).n = nms[i] := by
          have h1 : (ls.map (·.n))[i]? = some (ls[i]).n := by rw [List.getElem?_map, List.getElem?_eq_getElem hil]; rfl
          rw [l1, List.getElem?_take, if_pos (by omega), List.getElem?_eq_getElem hin] at h1
          exact (Option.some.inj h1).symm
        have e07 := e0.trans e7
        have lm : ls[i] ∈ ls := List.getElem_mem hil
        obtain ⟨tm, hm⟩ := l2 _ lm
        have hli : ls[i]? = some ls[i] := List.getElem?_eq_getElem hil
        generalize ls[i] = l at enm lm tm hm hli
        have xm : l.n ∈ ls.map (·.n) := List.mem_map.mpr ⟨l, lm, rfl⟩
        have hlni : (ls.map (·.n))[i]? = some l.n := by rw [List.getElem?_map, hli]; rfl
        have xnew := nd_take nls hlni
        have evname : ∀ {σ' : L2.St} {H'' : Hp}, σ'[3]? = some (some (.ref nm)) → σ'[4]? = some (some (.int (i : Int))) → Ex H' H'' → Ev (tOp (rIxL K) (tVar 3) (tVar 4)) σ' H'' (.str l.n) := fun {σ' H''} h3 h4 e' => by
          rw [enm]
          exact ev_ixL (i := i) (ev_var h3) (ev_var h4) ((e.trans e') _ _ hnm) (by rw [List.getElem?_map, List.getElem?_eq_getElem hin]; rfl)
        obtain ⟨p1, p2⟩ := s3 l.n xm
        have p3 := s4 l.n xm xnew
        have q0 := Int.emod_nonneg r100 (b := 3) (by decide)
        have q1 := Int.emod_lt_of_pos r100 (b := 3) (by decide)
        refine q_asg (ev_add (i := 1) (j := r100 % 3 * 5000) ev_c (ev_mul (ev_mod (ev_int (g100 rfl e07 ev_c rfl)) ev_c (by decide)) ev_c (cmulR (by decide) (by decide)))) fun H8 e8 => ?_
        dsimp only [List.set_cons_zero, List.set_cons_succ]
        generalize hby : 1 + r100 % 3 * 5000 = by_
        have by0 : 1 ≤ by_ ∧ by_ ≤ 10001 := by omega
        have e08 := e7.trans e8
        have fb0 : 0 ≤ F' l.n * by_ := Int.mul_nonneg p1 (by omega)
        have fb1 : F' l.n * by_ ≤ 180018 := by
          have h1 : F' l.n * by_ ≤ 18 * by_ := Int.mul_le_mul_of_nonneg_right p3 (by omega)
          omega
        refine q_dputS (m := l.n) (v := .int (F' l.n * by_)) (e8 _ _ f7) (ev_var rfl) (evname rfl rfl e08) (ev_mul (ev_dget (ev_var rfl) (evname rfl rfl e08) (.inl (e8 _ _ f7)) xm) (ev_var rfl) (cmulL (by omega) (by omega))) (by rw [List.length_map]; omega) fun H9 e9 => ?_
        generalize hfv : F' l.n * by_ = fv at fb0 fb1
        generalize hG9 : upd H9 fo _ = G9
        have f9 : G9 fo = some (.dK (fd (ls.map (·.n)) (MM.setF F' l.n fv))) := by
          rw [← hG9, upd_same]
          exact congrArg (fun k => some (HO.dK k)) (putK_fd xm)
        have x79 : ExD fo H7 G9 := by rw [← hG9]; exact (ExD.of_ex (e8.trans e9)).trans ExD.upd
        have E9 : Ex H' G9 := by rw [← hG9]; exact Ex.mut (e08.trans e9) f0
        have egt : MM.setF F' l.n fv l.n = fv := by unfold MM.setF; rw [if_pos rfl]
        have hbs9 := x79 _ _ nfs.symm hbs
        have htb9 := htb.but (fun _ z => by rw [f7] at z; cases z) x79
        obtain ⟨rb, bb, gb⟩ := gn (101 + i % 40) (by omega)
        refine q_asg (v := .int rb) (ev_int (gb rfl (e0.trans E9) (ev_add (i := 101) (j := (i : Int) % 40) ev_c (ev_mod (ev_int (ev_var rfl)) ev_c (by decide))) (by omega))) fun H10 e10 => ?_
        dsimp only [List.set_cons_zero, List.set_cons_succ]
        have f10 := e10 _ _ f9
        have E10 := E9.trans e10
        have w0 := Int.emod_nonneg rb (b := 7) (by decide)
        have w1 := Int.emod_nonneg rb (b := 11) (by decide)
        refine q_asg (ev_max2 (i := 0) (j := fv - rb % 7 * 50) ev_c (ev_sub (ev_is (ev_dget (ev_var rfl) (evname rfl rfl E10) (.inl f10) xm) (by rw [egt])) (ev_mul (ev_mod (ev_int (ev_var rfl)) ev_c (by decide)) ev_c (cmulR (by decide) (by decide))))) fun H11 e11 => ?_
        dsimp only [List.set_cons_zero, List.set_cons_succ]
        have f11 := e11 _ _ f10
        have E11 := E10.trans e11
        obtain ⟨adr, hadr, htl⟩ := hts.at (i := i) (r := row3 l) (by rw [List.getElem?_map, hli]; rfl)
        generalize hlw : (if fv - rb % 7 * 50 > 0 then fv - rb % 7 * 50 else 0) = lw
        have blw : 0 ≤ lw ∧ lw ≤ fv := by rw [← hlw]; split <;> omega
        refine s_appU (e11 _ _ (e10 _ _ hbs9)) (ev_var rfl) (eu_cat (xs := row3 l) (ys := [.int lw, .int (if fv + rb % 11 * 90 < 1000000 then fv + rb % 11 * 90 else 1000000)]) (ev_ixL (i := i) (ev_var rfl) (ev_var rfl) (E11 _ _ hls) (by rw [List.getElem?_map, hadr]; rfl)) (E11 _ _ htl) (eu_2 (ev_var rfl) (ev_min2 (i := 1000000) (j := fv + rb % 11 * 90) ev_c (ev_add (ev_is (ev_dget (ev_var rfl) (evname rfl rfl E11) (.inl f11) xm) (by rw [egt])) (ev_mul (ev_mod (ev_int (ev_var rfl)) ev_c (by decide)) ev_c (cmulR (by decide) (by decide)))))) (by simp [row3]) (by simp) (by show 5 ≤ 100000; decide)) (by rw [List.length_map, htb.ln]; have := congrArg List.length s1; rw [List.length_map, List.length_take] at this; omega) fun p H12 hp e12 h12 => ?_
        generalize hhv : (if fv + rb % 11 * 90 < 1000000 then fv + rb % 11 * 90 else 1000000) = hv at h12
        have bhv : fv ≤ hv ∧ hv ≤ 1000000 := by rw [← hhv]; split <;> omega
        refine ⟨_, _, _, _, _, MM.setF F' l.n fv, ss ++ [⟨l.n, l.t, l.h, lw, hv⟩], rfl, Ex.mut (E11.trans e12) S0, ?_, ⟨bs ++ [p], by rw [upd_same, List.map_append]; rfl, ?_⟩, ?_, ?_, ?_, ?_⟩
        · rw [upd_ne nfs]; exact e12 _ _ f11
        · rw [List.map_append]
          exact (((htb9.mono e10).mono (e11.trans e12)).snoc h12).but (fun _ z => by rw [e12 _ _ (e11 _ _ (e10 _ _ hbs9))] at z; cases z) ExD.upd
        · rw [List.map_append, s1, List.take_add_one, hli]; rfl
        · intro s hs
          rcases List.mem_append.mp hs with z | z
          · exact s2 s z
          · rw [List.mem_singleton.mp z]
            exact ⟨blw.1, by show lw ≤ hv; omega, bhv.2⟩
        · intro n hn
          unfold MM.setF
          split
          · exact ⟨fb0, fb1⟩
          · exact s3 n hn
        · intro n hn hno
          rw [List.take_add_one, hlni] at hno
          have n1 : n ≠ l.n := fun z => hno (List.mem_append_right _ (by rw [z]; exact List.mem_singleton.mpr rfl))
          unfold MM.setF
          rw [if_neg n1]
          exact s4 n hn fun z => hno (List.mem_append_left _ z)
      · obtain ⟨a4, a6, a9, a10, a11, F', ss, rfl, e7, f7, htb, s1, s2, s3, s4⟩ := h
        rw [Int.toNat_natCast, List.take_of_length_le (by omega)] at s1
        have enn : ss.map (·.n) = ls.map (·.n) := by
          rw [← s1, List.map_map]; rfl
        refine s_retN (en_tup2 (eu_2 (ev_var rfl) (ev_var rfl)) (ev_var rfl)) fun r H8 _ e8 ⟨p, h1, h2⟩ => ?_
        refine q r p fo H8 ks ss F' ((e0.trans e7).trans e8) h1 ⟨kl, stl, h2, (e.trans (e7.trans e8)) _ _ hkl3, htb.mono e8⟩ (by rw [enn]; exact e8 _ _ f7) ⟨by omega, by omega, kl2, fun z hz => (kl3 z hz).1, ?_, by rw [enn]; exact nls, fun s hs => ?_, fun s hs => s3 _ (by rw [← enn]; exact List.mem_map.mpr ⟨s, hs, rfl⟩)⟩
        · have := congrArg List.length s1
          rw [List.length_map] at this
          omega
        · have hm : ln s ∈ ls := by rw [← s1]; exact List.mem_map.mpr ⟨s, hs, rfl⟩
          obtain ⟨t1, t2⟩ := l2 _ hm
          obtain ⟨u1, u2, u3⟩ := s2 s hs
          exact ⟨n60 s.n (List.mem_map.mpr ⟨ln s, hm, rfl⟩), t1, t2, u1, u2, u3⟩
end
end MS
set_option Elab.async false
set_option linter.all false
set_option maxRecDepth 100000
set_option maxHeartbeats 4000000
namespace MS
open PySem PySem.Spec PyProof.Rows L2 Evl
/-- what a plant can be made of -/
structure Pok (ks : List Str) (ss : List Stm) : Prop where
  k1 : 1 ≤ ks.length
  k2 : ks.length ≤ 24
  kn : ks.Nodup
  kN : ∀ z ∈ ks, Nm z
  s1 : ss.length ≤ 60
  sn : (ss.map (·.n)).Nodup
  sS : ∀ s ∈ ss, Nm s.n ∧ Sok ks s
theorem Great.pok {ks : List Str} {ss : List Stm} {F : Str → Int} (g : Great ks ss F) : Pok ks ss := ⟨by have := g.k1; omega, g.k2, g.kn, g.kN, g.s1, g.sn, g.sS⟩
theorem Pok.wf {ks ks' : List Str} {ss ss' : List Stm} (g : Pok ks ss) (pk : ks'.Perm ks) (ps : ss'.Perm ss) (srt : sortedS ks' = true) : Wf ks' ss' :=
  ⟨by rw [pk.length_eq]; exact g.k1, by rw [pk.length_eq]; exact g.k2, pk.nodup_iff.mpr g.kn, fun z hz => g.kN z (pk.mem_iff.mp hz), by rw [ps.length_eq]; exact g.s1, (ps.map _).nodup_iff.mpr g.sn, fun s hs => by
    obtain ⟨h1, h2, h3⟩ := (g.sS s (ps.mem_iff.mp hs)).2
    exact ⟨pk.mem_iff.mpr h1, pk.mem_iff.mpr h2, h3⟩, srt⟩
def turnS (s : Stm) : Stm := ⟨s.n, s.h, s.t, s.lo, s.hi⟩
theorem Pok.turn {ks : List Str} {ss : List Stm} (g : Pok ks ss) : Pok ks (ss.map turnS) :=
  ⟨g.k1, g.k2, g.kn, g.kN, by rw [List.length_map]; exact g.s1, by rw [List.map_map]; exact g.sn, fun s hs => by
    obtain ⟨x, hx, rfl⟩ := List.mem_map.mp hs
    obtain ⟨h0, h1, h2, h3⟩ := g.sS x hx
    exact ⟨h0, h2, h1, h3⟩⟩
section
variable {K : PySem.W.Frag} {σ : L2.St} {H : Hp} {ta tb tc te td ty tv tl : TE} {t : TT} {D : Ends} {g : TG} {tu tz : TS} {aP : Addr}
theorem en_mkPlant {E : XK} {ks : List Str} {ss : List Stm} (h1 : EvL ta σ H (ks.map V.str)) (h2 : EvN tb σ H (fun l H' => TL H' l (ss.map tupS))) (g : Pok ks ss) : EvN (tMake aP (sp_init aP) [] E (tCons ta (tCons tb tNil))) σ H (fun x H' => ∃ ks' ss', PlantAt aP H' x ks' ss' ∧ ks'.Perm ks ∧ ss'.Perm ss ∧ Wf ks' ss') := fun H1 e Q q =>
  h1 H1 e _ fun l1 H2 _ e2 hl1 => h2 H2 (e.trans e2) _ fun l2 H3 _ e3 hl2 x dx hx hdx ne => by
    have e4 : Ex H3 (upd (upd H3 dx (.own x)) x (.ins aP dx [])) := (Ex.new hdx).trans (Ex.new (by rw [upd_ne (fun z => ne z.symm)]; exact hx))
    refine ⟨x, dx, l1, l2, ks, ss, rfl, upd_same, e4 _ _ (e3 _ _ hl1), hl2.mono e4, g.k1, g.k2, g.kn, g.kN, g.s1, g.sn, g.sS, fun H' ks' ss' p1 srt p2 e5 hp => ⟨rfl, ?_⟩⟩
    exact q x H' (fresh_back (e2.trans e3) hx) ((e2.trans e3).trans (fun a o ha => e5 _ _ (ne_of_none ha hx) (e4 _ _ ha))) ⟨ks', ss', hp, p1, p2, g.wf p1 p2 srt⟩
theorem s_par {i j : Nat} {tA : TA} {v w : V} (h : EvA tA σ H [v, w]) (k : ∀ H1, Ex H H1 → D.nx ((σ.set i (some v)).set j (some w)) H1) : tPar i j tA D σ H := h H (Ex.refl _) _ fun H1 e => ⟨v, w, rfl, k H1 e⟩
theorem q_par {i j : Nat} {tA : TA} {v w : V} (h : EvA tA σ H [v, w]) (k : ∀ H1, Ex H H1 → tz D ((σ.set i (some v)).set j (some w)) H1) : tSeq (tPar i j tA) tz D σ H := s_par (D := { D with nx := tz D }) h k
end
section
variable {P : Program} {w : World} {K : PySem.W.Frag} {mg : Str → Option Value} {base : Heap} {aP aM aR : Addr}
abbrev s_law_made : Stmt := top 58
abbrev N_law_made : List Str := ["_law_plant"]
theorem sc_law_made : FnScope N_law_made ["_law_plant"] (C8.fnScope s_law_made) := C8.fnScope_by (by decide +kernel)

def sp_law_made (aP : Addr) : Sp := fun vs H Q _ => ∃ (p : Addr) (ks : List Str) (ss : List Stm), vs = [V.ref p] ∧ LPl H p ks ss ∧ Pok ks ss ∧ ∀ (q : Addr) (H' : Hp) (ks' : List Str) (ss' : List Stm), Ex H H' → PlantAt aP H' q ks' ss' → ks'.Perm ks → ss'.Perm ss → Wf ks' ss' → Q (.ref q) H'
theorem c_law_made_ (T : Txt K mg aP aM aR) (D : Dn K mg "_law_made" s_law_made ["_law_plant"]) (c_Plant : C8.Mak P w K mg base 3 "Plant" aP (sp_init aP) []) : C8.Cal P w K mg base 5 "_law_made" (sp_law_made aP) [] := by
  refine cal_of D sc_law_made (fun vs H Q E h => ?_) (fun f cdv A outer s H vs Q E hr h => ?_)
  · obtain ⟨p, ks, ss, rfl, _⟩ := h
    rfl
  · obtain ⟨p, ks, ss, rfl, ⟨lk, ls, h1, h2, as, h3, h4⟩, g, q⟩ := h
    refine ⟨_, (pss_one (ps_ret (C8.pe_mk c_Plant hr (by decide) (by rfl) (pa_cons (pe_callTy call_list_of (by rfl) T.n_list (by decide +kernel) (pa_cons (pe_ix ix_tup (pv 0) pe_int (fun _ _ => rfl)) pa_nil)) (pa_cons (pe_callTy call_list_of (by rfl) T.n_list (by decide +kernel) (pa_cons (pe_ix ix_tup (pv 0) pe_int (fun _ _ => rfl)) pa_nil)) pa_nil))))), ?_⟩
    exact s_retN (en_mkPlant (ks := ks) (ss := ss) (el_list (ev_ixT (i := 0) (ev_var rfl) ev_c h1 rfl) (sq_of h2)) (fun H1 e Q q => (el_list (ev_ixT (i := 1) (ev_var rfl) ev_c h1 rfl) (sq_of h3)) H1 e _ fun l H2 hl e2 hl2 => q l H2 hl e2 ⟨as, hl2, h4.mono (e.trans e2)⟩) g) fun x H1 _ e1 ⟨ks', ss', p1, p2, p3, p4⟩ => q x H1 ks' ss' e1 p1 p2 p3 p4
abbrev s_law_limits_of : Stmt := top 59
abbrev N_law_limits_of : List Str := ["_law_plant", "_law_readings", "_law_limits", "_law_name", "_law_tail", "_law_head", "_law_low", "_law_high", "_law_number", "_law_tolerance"]
theorem sc_law_limits_of : FnScope N_law_limits_of ["_law_plant", "_law_readings"] (C8.fnScope s_law_limits_of) := C8.fnScope_by (by decide +kernel)

def sp_law_limits_of : Sp := fun vs H Q _ => ∃ (p r : Addr) (ks : List Str) (ss : List Stm) (rn : List Str) (nu to lo hi : Str → Int), vs = [V.ref p, V.ref r] ∧ LPl H p ks ss ∧ (ss.map (·.n)).Nodup ∧ ss.length ≤ 60 ∧ ReadAt H r rn nu to ∧ LimR ss rn nu to lo hi ∧
  ∀ q H', H q = none → Ex H H' → LimAt H' q (ss.map (·.n)) lo hi → Q (.ref q) H'
theorem c_law_limits_of_ (T : Txt K mg aP aM aR) (D : Dn K mg "_law_limits_of" s_law_limits_of ["_law_plant", "_law_readings"]) : C8.Cal P w K mg base 1 "_law_limits_of" sp_law_limits_of [] := by
  refine cal_of D sc_law_limits_of (fun vs H Q E h => ?_) (fun f cdv A outer s H vs Q E hr h => ?_)
  · obtain ⟨p, r, ks, ss, rn, nu, to, lo, hi, rfl, _⟩ := h
    rfl
  · obtain ⟨p, r, ks, ss, rn, nu, to, lo, hi, rfl, ⟨lk, ls, h1, h2, as, h3, ht⟩, sn, s1, hd, hl, q⟩ := h
    refine ⟨_, (pss_cons (ps_set (i := 2) sc_law_limits_of.nd rfl (Or.inl rfl) pe_dnewK)
      (pss_cons (ps_for PassesOwn.never rfl (pi_list (pe_ix ix_tup (pv 0) pe_int (fun _ _ => rfl))) (pg_tup rfl (pgs_cons (pg_name (i := 3) sc_law_limits_of.nd rfl (Or.inl rfl)) (pgs_cons (pg_name (i := 4) sc_law_limits_of.nd rfl (Or.inl rfl)) (pgs_cons (pg_name (i := 5) sc_law_limits_of.nd rfl (Or.inl rfl)) (pgs_cons (pg_name (i := 6) sc_law_limits_of.nd rfl (Or.inl rfl)) (pgs_cons (pg_name (i := 7) sc_law_limits_of.nd rfl (Or.inl rfl)) pgs_nil)))))) (pss_cons (ps_if (pt_cmp (pc_din (hu_of hr) (pv 3) (pv 1))) (pss_cons (ps_asg (pe_dget (hu_of hr) (pv 1) (pv 3) (fun _ _ => rfl)) (pg_tup rfl (pgs_cons (pg_name (i := 8) sc_law_limits_of.nd rfl (Or.inl rfl)) (pgs_cons (pg_name (i := 9) sc_law_limits_of.nd rfl (Or.inl rfl)) pgs_nil))))
      (pss_one (ps_par (i := 6) (j := 7) (by rfl) sc_law_limits_of.nd rfl rfl (by decide) rfl rfl (pa_cons (pe_callB (call_max2 rfl) (by rfl) T.n_max (by decide +kernel) (pa_cons (pv 6) (pa_cons (pe_op op_sub (pv 8) (pv 9)) pa_nil))) (pa_cons (pe_callB (call_min2 rfl) (by rfl) T.n_min (by decide +kernel) (pa_cons (pv 7) (pa_cons (pe_op op_add (pv 8) (pv 9)) pa_nil))) pa_nil)) (by rfl)))) pss_nil)
      (pss_one (ps_dput (hu_of hr) (pv 2) (pv 3) (pe_tup (pa_cons (pv 6) (pa_cons (pv 7) pa_nil))) rfl))))
      (pss_one (ps_ret (pe_froz (pv 2)))))), ?_⟩
    rw [show start N_law_limits_of [V.ref p, V.ref r] = [some (.ref p), some (.ref r), none, none, none, none, none, none, none, none] from rfl]
    refine q_asgN en_dnewK fun fo H2 f0 e02 hf => ?_
    dsimp only [List.set_cons_zero, List.set_cons_succ]
    refine q_forL (ev_ixT (i := 1) (ev_var rfl) ev_c (e02 _ _ h1) rfl) (sq_of (e02 _ _ h3)) (fun i σ H' => ∃ a b c x y u v, σ = [some (.ref p), some (.ref r), some (.ref fo), a, b, c, x, y, u, v] ∧ Ex H H' ∧ LimsTo H' fo (ss.take i) lo hi) (fun H3 e3 => ⟨_, _, _, _, _, _, _, rfl, e02.trans e3, fun _ => fo, e3 _ _ hf, fun s hs => (nomatch hs)⟩) (fun i σ H' _ ⟨_, _, _, _, _, _, _, _, e, _⟩ => sq_of (e _ _ h3)) (fun i x σ H' hx h => ?_) (fun σ H' h => ?_)
    · obtain ⟨a, b, c, x', y, u', v', rfl, eH, L⟩ := h
      obtain ⟨adr, s, rfl, _, hs, ha⟩ := ht.el hx
      have sm := List.mem_of_getElem? hs
      obtain ⟨l1, l2⟩ := hl s sm
      refine g5 (eH _ _ ha) ?_
      dsimp only [List.set_cons_zero, List.set_cons_succ]
      obtain ⟨B, hB, hB'⟩ := hd.mono eH
      refine q_ifJ (J := fun σ' H1 => ∃ u v, σ' = [some (.ref p), some (.ref r), some (.ref fo), some (.str s.n), some (.str s.t), some (.str s.h), some (.int (lo s.n)), some (.int (hi s.n)), u, v] ∧ Ex H' H1) (b := decide (s.n ∈ rn)) (et_B (ev_din (ev_var rfl) (ev_var rfl) hB)) (fun hb H4 e4 D' k => ?_) (fun hb H4 e4 => ?_) (fun σ4 H4 h4 => ?_)
      · have sr := of_decide_eq_true hb
        have hb4 := e4 _ _ (hB' _ sr)
        refine q_tgt (ev_dget (ev_var rfl) (ev_var rfl) (ex_rd e4 hB) sr) fun H5 e5 => g2 (e5 _ _ hb4) ?_
        dsimp only [List.set_cons_zero, List.set_cons_succ]
        refine s_par (ea_cons (ev_max2 (i := s.lo) (j := nu s.n - to s.n) (ev_var rfl) (ev_sub (ev_var rfl) (ev_var rfl))) (ea_cons (ev_min2 (i := s.hi) (j := nu s.n + to s.n) (ev_var rfl) (ev_add (ev_var rfl) (ev_var rfl))) ea_nil)) fun H7 e7 => k _ _ ⟨some (.int (nu s.n)), some (.int (to s.n)), ?_, (e4.trans e5).trans e7⟩
        rw [l1, l2]
        unfold loR hiR
        rw [if_pos sr, if_pos sr]
        have m1 : (if nu s.n - to s.n > s.lo then nu s.n - to s.n else s.lo) = max s.lo (nu s.n - to s.n) := by split <;> omega
        have m2 : (if nu s.n + to s.n < s.hi then nu s.n + to s.n else s.hi) = min s.hi (nu s.n + to s.n) := by split <;> omega
        rw [← m1, ← m2]
        rfl
      · have sr := of_decide_eq_false hb
        refine ⟨u', v', ?_, e4⟩
        rw [l1, l2]
        unfold loR hiR
        rw [if_neg sr, if_neg sr]
      · obtain ⟨u, v, rfl, e4⟩ := h4
        obtain ⟨A, hA, hA'⟩ := id L
        refine s_dputU (e4 _ _ hA) (ev_var rfl) (ev_var rfl) (eu_2 (ev_var rfl) (ev_var rfl)) (by rw [List.length_map, List.length_take]; omega) fun pn H5 hp5 e5 h5 => ⟨_, _, _, _, _, _, _, rfl, Ex.mut ((eH.trans e4).trans e5) f0, ?_⟩
        have et : ss.take (i + 1) = ss.take i ++ [s] := by rw [List.take_add_one, hs]; rfl
        rw [et]
        exact L.put (e4.trans e5) (fresh_back e4 hp5) h5 (take_new sn hs) A hA
    · obtain ⟨a, b, c, x', y, u', v', rfl, eH, L⟩ := h
      rw [List.length_map, ht.ln, List.take_length] at L
      obtain ⟨A, hA, hA'⟩ := L
      refine s_retFroz rfl hA fun o => q fo _ f0 (eH.mut f0) ⟨o, A, upd_same, fun n hn => ?_⟩
      obtain ⟨s, hs, rfl⟩ := List.mem_map.mp hn
      rw [upd_ne (fun q => by have := hA' s hs; rw [q, hA] at this; cases this)]
      exact hA' s hs
/-- sums over streams, one by one -/
theorem sm_take {ss : List Stm} {i : Nat} {s : Stm} (hs : ss[i]? = some s) (φ : Ln → Int) : MM.sm (lns (ss.take (i + 1))) φ = MM.sm (lns (ss.take i)) φ + φ (ln s) := by
  rw [List.take_add_one, hs]
  unfold lns
  rw [List.map_append, MM.sm_append]
  congr 1
  show MM.sm [ln s] _ = _
  rw [MM.sm_cons, MM.sm_nil]; omega
abbrev s_law_lack : Stmt := top 60
abbrev N_law_lack : List Str := ["_law_plant", "_law_limits", "_law_lot", "_law_lack_here", "_law_name", "_law_tail", "_law_head", "_law_low", "_law_high"]
theorem sc_law_lack : FnScope N_law_lack ["_law_plant", "_law_limits", "_law_lot"] (C8.fnScope s_law_lack) := C8.fnScope_by (by decide +kernel)

def sp_law_lack (K : PySem.W.Frag) : Sp := fun vs H Q _ => ∃ (p d l : Addr) (ks : List Str) (ss : List Stm) (ns B : List Str) (lo hi : Str → Int), vs = [V.ref p, V.ref d, V.ref l] ∧ LPl H p ks ss ∧ LimAt H d ns lo hi ∧ (∀ s ∈ ss, s.n ∈ ns) ∧ SqL K H l (B.map V.str) ∧ ∀ H', Ex H H' → Q (.int (MM.lack (lns ss) lo hi (fun v => decide (v ∈ B)))) H'
theorem c_law_lack_ (T : Txt K mg aP aM aR) (D : Dn K mg "_law_lack" s_law_lack ["_law_plant", "_law_limits", "_law_lot"]) : C8.Cal P w K mg base 1 "_law_lack" (sp_law_lack K) [] := by
  refine cal_of D sc_law_lack (fun vs H Q E h => ?_) (fun f cdv A outer s H vs Q E hr h => ?_)
  · obtain ⟨p, d, l, ks, ss, ns, B, lo, hi, rfl, _⟩ := h
    rfl
  · obtain ⟨p, d, l, ks, ss, ns, B, lo, hi, rfl, ⟨lk, ls, h1, h2, as, h3, ht⟩, ⟨o, C, hd, hC⟩, hn, hl, q⟩ := h
    refine ⟨_, (pss_cons (ps_set (i := 3) sc_law_lack.nd rfl (Or.inl rfl) pe_int)
      (pss_cons (ps_for PassesOwn.never rfl (pi_list (pe_ix ix_tup (pv 0) pe_int (fun _ _ => rfl))) (pg_tup rfl (pgs_cons (pg_name (i := 4) sc_law_lack.nd rfl (Or.inl rfl)) (pgs_cons (pg_name (i := 5) sc_law_lack.nd rfl (Or.inl rfl)) (pgs_cons (pg_name (i := 6) sc_law_lack.nd rfl (Or.inl rfl)) (pgs_cons (pg_name (i := 7) sc_law_lack.nd rfl (Or.inl rfl)) (pgs_cons (pg_name (i := 8) sc_law_lack.nd rfl (Or.inl rfl)) pgs_nil)))))) (pss_cons (ps_if (PW.pt (pw_and (pt_cmpR op_in_seq (pv 5) (pv 2) (by rfl)) (pw_and1 (pt_cmpR op_notIn_seq (pv 6) (pv 2) (by rfl))))) (pss_one (ps_set (i := 3) sc_law_lack.nd rfl (Or.inl rfl) (pe_op op_add (pv 3) (pe_ix ix_tup (pe_dget (hu_of hr) (pv 1) (pv 4) (fun _ _ => rfl)) pe_int (fun _ _ => rfl))))) pss_nil)
      (pss_one (ps_if (PW.pt (pw_and (pt_cmpR op_in_seq (pv 6) (pv 2) (by rfl)) (pw_and1 (pt_cmpR op_notIn_seq (pv 5) (pv 2) (by rfl))))) (pss_one (ps_set (i := 3) sc_law_lack.nd rfl (Or.inl rfl) (pe_op op_sub (pv 3) (pe_ix ix_tup (pe_dget (hu_of hr) (pv 1) (pv 4) (fun _ _ => rfl)) pe_int (fun _ _ => rfl))))) pss_nil))))
      (pss_one (ps_ret (pv 3))))), ?_⟩
    rw [show start N_law_lack [V.ref p, V.ref d, V.ref l] = [some (.ref p), some (.ref d), some (.ref l), none, none, none, none, none, none] from rfl]
    refine q_asg (ev_c (v := .int 0)) fun H1 e1 => ?_
    dsimp only [List.set_cons_zero, List.set_cons_succ]
    refine q_forL (ev_ixT (i := 1) (ev_var rfl) ev_c (e1 _ _ h1) rfl) (sq_of (e1 _ _ h3)) (fun i σ H' => ∃ a b c x y, σ = [some (.ref p), some (.ref d), some (.ref l), some (.int (MM.lack (lns (ss.take i)) lo hi (fun v => decide (v ∈ B)))), a, b, c, x, y] ∧ Ex H H') (fun H2 e2 => ⟨_, _, _, _, _, rfl, e1.trans e2⟩) (fun i σ H' _ ⟨_, _, _, _, _, _, e⟩ => sq_of (e _ _ h3)) (fun i v σ H' hv h => ?_) (fun σ H' h => ?_)
    · obtain ⟨a, b, c, x, y, rfl, e⟩ := h
      obtain ⟨adr, s, rfl, _, hs, ha⟩ := ht.el hv
      have sn := hn s (List.mem_of_getElem? hs)
      refine g5 (e _ _ ha) ?_
      dsimp only [List.set_cons_zero, List.set_cons_succ]
      generalize hacc : MM.lack (lns (ss.take i)) lo hi (fun v => decide (v ∈ B)) = acc
      have dd : ∀ {H''}, Ex H' H'' → Rd H'' d (.dK (dm ns fun n => .ref (C n))) := fun e' => .inr ⟨o, (e.trans e') _ _ hd⟩
      have cc : ∀ {H''}, Ex H' H'' → H'' (C s.n) = some (.tup [.int (lo s.n), .int (hi s.n)]) := fun e' => (e.trans e') _ _ (hC _ sn)
      have hl' := ex_l e hl
      refine q_ifJ (J := fun σ' H1 => σ' = [some (.ref p), some (.ref d), some (.ref l), some (.int (acc + if s.t ∈ B ∧ s.h ∉ B then lo s.n else 0)), some (.str s.n), some (.str s.t), some (.str s.h), some (.int s.lo), some (.int s.hi)] ∧ Ex H' H1) (b := decide (s.t ∈ B) && decide (s.h ∉ B)) (et_and (et_test (ev_inS (ev_var rfl) (ev_var rfl) hl')) fun _ => et_test (ev_ninS (ev_var rfl) (ev_var rfl) hl')) (fun hb H4 e4 D' k => ?_) (fun hb H4 e4 => ?_) (fun σ4 H4 h4 => ?_)
      · refine s_asg (ev_add (i := acc) (j := lo s.n) (ev_var rfl) (ev_ixT (i := 0) (ev_dget (ev_var rfl) (ev_var rfl) (dd e4) sn) ev_c (cc e4) rfl)) fun H5 e5 => k _ _ ⟨?_, e4.trans e5⟩
        rw [if_pos (by simpa using hb)]
        rfl
      · refine ⟨?_, e4⟩
        rw [if_neg (by simpa using hb), Int.add_zero]
      · obtain ⟨rfl, e4⟩ := h4
        generalize hac2 : acc + (if s.t ∈ B ∧ s.h ∉ B then lo s.n else 0) = ac2
        refine s_ifJ (J := fun σ' H1 => σ' = [some (.ref p), some (.ref d), some (.ref l), some (.int (ac2 - if s.h ∈ B ∧ s.t ∉ B then hi s.n else 0)), some (.str s.n), some (.str s.t), some (.str s.h), some (.int s.lo), some (.int s.hi)] ∧ Ex H' H1) (b := decide (s.h ∈ B) && decide (s.t ∉ B)) (et_and (et_test (ev_inS (ev_var rfl) (ev_var rfl) (ex_l e4 hl'))) fun _ => et_test (ev_ninS (ev_var rfl) (ev_var rfl) (ex_l e4 hl'))) (fun hb H5 e5 D' k => ?_) (fun hb H5 e5 => ?_) (fun σ5 H5 h5 => ?_)
        · refine s_asg (ev_sub (i := ac2) (j := hi s.n) (ev_var rfl) (ev_ixT (i := 1) (ev_dget (ev_var rfl) (ev_var rfl) (dd (e4.trans e5)) sn) ev_c (cc (e4.trans e5)) rfl)) fun H6 e6 => k _ _ ⟨?_, (e4.trans e5).trans e6⟩
          rw [if_pos (by simpa using hb)]
          rfl
        · refine ⟨?_, e4.trans e5⟩
          rw [if_neg (by simpa using hb), Int.sub_zero]
        · obtain ⟨rfl, e5⟩ := h5
          refine ⟨some (.str s.n), some (.str s.t), some (.str s.h), some (.int s.lo), some (.int s.hi), ?_, e.trans e5⟩
          have : MM.lack (lns (ss.take (i + 1))) lo hi (fun v => decide (v ∈ B)) = ac2 - (if s.h ∈ B ∧ s.t ∉ B then hi s.n else 0) := by
            unfold MM.lack at hacc ⊢
            rw [sm_take hs, hacc, ← hac2]
            show acc + ((if decide (s.t ∈ B) = true ∧ decide (s.h ∈ B) = false then lo s.n else 0) - (if decide (s.h ∈ B) = true ∧ decide (s.t ∈ B) = false then hi s.n else 0)) = _
            simp only [decide_eq_true_eq, decide_eq_false_iff_not]
            omega
          rw [this]
    · obtain ⟨a, b, c, x, y, rfl, e⟩ := h
      rw [List.length_map, ht.ln, List.take_length]
      exact s_ret (ev_var rfl) fun H2 e2 => q H2 (e.trans e2)
end
end MS
set_option Elab.async false
set_option linter.all false
set_option maxRecDepth 100000
set_option maxHeartbeats 4000000
namespace MS
open PySem PySem.Spec PyProof.Rows L2 Evl
/-! ### data of texts: == -/
theorem L_ok : (letters.cps.toList.all fun c => decide (c < 0x110000)) = true := by decide +kernel
theorem nm_strOk {z : Str} (h : Nm z) : PyData.strOk z = true := by
  unfold PyData.strOk
  rw [← Array.all_toList]
  refine List.all_eq_true.mpr fun c hc => ?_
  exact List.all_eq_true.mp L_ok c (h.2.2 c hc)
theorem lay_strs : ∀ {xs : List Str}, (∀ z ∈ xs, Nm z) → PyData.canLayAll0 (xs.map PyData.str) = true
  | [], _ => by simp [PyData.canLayAll0]
  | x :: r, h => by
    have ih := lay_strs (xs := r) fun z hz => h z (List.mem_cons_of_mem _ hz)
    simp only [List.map_cons, PyData.canLayAll0, PyData.canLay0, ih, Bool.and_true]
    exact nm_strOk (h x List.mem_cons_self)
theorem depth_strs : ∀ xs : List Str, PyData.depthAll (xs.map PyData.str) = 0
  | [] => by simp [PyData.depthAll]
  | x :: r => by
    have ih := depth_strs r
    simp only [List.map_cons, PyData.depthAll, PyData.depth, ih]
    rfl
theorem shaped_strs {xs : List Str} (h : ∀ z ∈ xs, Nm z) : SeqAt.shaped (PyData.list (xs.map PyData.str)) = true := by
  unfold SeqAt.shaped
  rw [Bool.and_eq_true]
  refine ⟨by simp only [PyData.canLay0]; exact lay_strs h, decide_eq_true ?_⟩
  simp only [PyData.depth, depth_strs]
  decide
theorem eqv_strs : ∀ xs : List Str, PyData.eqvAll (xs.map PyData.str) (xs.map PyData.str) = true
  | [] => by simp [PyData.eqvAll]
  | x :: r => by
    have ih := eqv_strs r
    simp only [List.map_cons, PyData.eqvAll, PyData.eqv, ih]
    simp
theorem eqv_list (xs : List Str) : PyData.eqv (.list (xs.map PyData.str)) (.list (xs.map PyData.str)) = true := by
  simp only [PyData.eqv]
  exact eqv_strs xs
theorem dp_strs {K : PySem.W.Frag} {H : Hp} : ∀ xs : List Str, DpAll K H (xs.map V.str) (xs.map PyData.str)
  | [] => .nil
  | x :: r => .cons (.str x) (dp_strs r)
section
variable {K : PySem.W.Frag} {σ : L2.St} {H : Hp} {ta tb tc te td ty tv tl : TE} {t : TT} {D : Ends} {g : TG} {tu tz : TS} {aP : Addr}
/-- lists of texts that are the same: == and != -/
theorem ev_neL {R1 R2 : List Str → Prop} (h1 : EvN ta σ H (fun p H' => ∃ ys : List Str, H' p = some (.lst (ys.map V.str)) ∧ R1 ys)) (h2 : EvN tb σ H (fun p H' => ∃ ys : List Str, H' p = some (.lst (ys.map V.str)) ∧ R2 ys)) (he : ∀ y z, R1 y → R2 z → y = z ∧ ∀ x ∈ y, Nm x) : Ev (tOp (rNeD K) ta tb) σ H (.bl false) := fun H1 e Q q =>
  h1 H1 e _ fun a H2 _ e2 ⟨ys, ha, ra⟩ => h2 H2 (e.trans e2) _ fun b H3 _ e3 ⟨zs, hb, rb⟩ => by
    obtain ⟨he, hn⟩ := he ys zs ra rb
    subst he
    refine ⟨.list (ys.map PyData.str), .list (ys.map PyData.str), .lst (sq_of (e3 _ _ ha)) (dp_strs ys), .lst (sq_of hb) (dp_strs ys), shaped_strs hn, shaped_strs hn, ?_⟩
    rw [eqv_list]
    exact q H3 (e2.trans e3)
theorem ev_eqL {a : Addr} {xs : List Str} {R2 : List Str → Prop} (h1 : Ev ta σ H (.ref a)) (ha : SqL K H a (xs.map V.str)) (h2 : EvN tb σ H (fun p H' => ∃ ys : List Str, H' p = some (.lst (ys.map V.str)) ∧ R2 ys)) (he : ∀ z, R2 z → xs = z) (hn : ∀ x ∈ xs, Nm x) : Ev (tOp (rEqD K) ta tb) σ H (.bl true) := fun H1 e Q q =>
  h1 H1 e _ fun H2 e2 => h2 H2 (e.trans e2) _ fun b H3 _ e3 ⟨zs, hb, rb⟩ => by
    have := he zs rb
    subst this
    refine ⟨.list (xs.map PyData.str), .list (xs.map PyData.str), .lst (ex_l ((e.trans e2).trans e3) ha) (dp_strs xs), .lst (sq_of hb) (dp_strs xs), shaped_strs hn, shaped_strs hn, ?_⟩
    rw [eqv_list]
    exact q H3 (e2.trans e3)
theorem ev_neLv {a : Addr} {xs : List Str} {R2 : List Str → Prop} (h1 : Ev ta σ H (.ref a)) (ha : SqL K H a (xs.map V.str)) (h2 : EvN tb σ H (fun p H' => ∃ ys : List Str, H' p = some (.lst (ys.map V.str)) ∧ R2 ys)) (he : ∀ z, R2 z → xs = z) (hn : ∀ x ∈ xs, Nm x) : Ev (tOp (rNeD K) ta tb) σ H (.bl false) := fun H1 e Q q =>
  h1 H1 e _ fun H2 e2 => h2 H2 (e.trans e2) _ fun b H3 _ e3 ⟨zs, hb, rb⟩ => by
    have := he zs rb
    subst this
    refine ⟨.list (xs.map PyData.str), .list (xs.map PyData.str), .lst (ex_l ((e.trans e2).trans e3) ha) (dp_strs xs), .lst (sq_of hb) (dp_strs xs), shaped_strs hn, shaped_strs hn, ?_⟩
    rw [eqv_list]
    exact q H3 (e2.trans e3)
theorem ev_isiD {a : Addr} {kvs : List (Key × V)} (h1 : Ev ta σ H (.ref a)) (ha : H a = some (.dK kvs)) : Ev (tCB (rIsi K) (tCons ta (tCons (tC (.ty "dict")) tNil))) σ H (.bl true) := fun H1 e Q q =>
  h1 H1 e _ fun H2 e2 => ⟨.ref a, .ty "dict", .type "dict", .type "dict", true, rfl, .ty "dict", .base (.dK ((e.trans e2) _ _ ha)), kit_ty (by decide +kernel), q H2 e2⟩
end
section
variable {P : Program} {w : World} {K : PySem.W.Frag} {mg : Str → Option Value} {base : Heap} {aP aM aR : Addr}
abbrev s_law_left : Stmt := top 61
abbrev N_law_left : List Str := ["_law_plant", "_law_flows", "_law_left_here", "_law_knot", "_law_name", "_law_tail", "_law_head", "_law_low", "_law_high"]
theorem sc_law_left : FnScope N_law_left ["_law_plant", "_law_flows"] (C8.fnScope s_law_left) := C8.fnScope_by (by decide +kernel)

def sp_law_left : Sp := fun vs H Q _ => ∃ (p d : Addr) (ks : List Str) (ss : List Stm) (nf : List Str) (F : Str → Int), vs = [V.ref p, V.ref d] ∧ LPl H p ks ss ∧ Pok ks ss ∧ Rd H d (.dK (fd nf F)) ∧ (∀ s ∈ ss, s.n ∈ nf) ∧
  ∀ q H', H q = none → Ex H H' → H' q = some (.dK (fd ks (MM.net (lns ss) F))) → Q (.ref q) H'
theorem c_law_left_ (T : Txt K mg aP aM aR) (D : Dn K mg "_law_left" s_law_left ["_law_plant", "_law_flows"]) : C8.Cal P w K mg base 1 "_law_left" sp_law_left [] := by
  refine cal_of D sc_law_left (fun vs H Q E h => ?_) (fun f cdv A outer s H vs Q E hr h => ?_)
  · obtain ⟨p, d, ks, ss, nf, F, rfl, _⟩ := h
    rfl
  · obtain ⟨p, d, ks, ss, nf, F, rfl, ⟨lk, ls, h1, h2, as, h3, ht⟩, g, hd, hn, q⟩ := h
    have k2 := g.k2
    refine ⟨_, (pss_cons (ps_set (i := 2) sc_law_left.nd rfl (Or.inl rfl) pe_dnewK)
      (pss_cons (ps_for PassesOwn.never rfl (pi_list (pe_ix ix_tup (pv 0) pe_int (fun _ _ => rfl))) (pg_name (i := 3) sc_law_left.nd rfl (Or.inl rfl)) (pss_one (ps_dput (hu_of hr) (pv 2) (pv 3) pe_int rfl)))
      (pss_cons (ps_for PassesOwn.never rfl (pi_list (pe_ix ix_tup (pv 0) pe_int (fun _ _ => rfl))) (pg_tup rfl (pgs_cons (pg_name (i := 4) sc_law_left.nd rfl (Or.inl rfl)) (pgs_cons (pg_name (i := 5) sc_law_left.nd rfl (Or.inl rfl)) (pgs_cons (pg_name (i := 6) sc_law_left.nd rfl (Or.inl rfl)) (pgs_cons (pg_name (i := 7) sc_law_left.nd rfl (Or.inl rfl)) (pgs_cons (pg_name (i := 8) sc_law_left.nd rfl (Or.inl rfl)) pgs_nil)))))) (pss_cons (ps_dput (hu_of hr) (pv 2) (pv 5) (pe_op op_sub (pe_dget (hu_of hr) (pv 2) (pv 5) (fun _ _ => rfl)) (pe_dget (hu_of hr) (pv 1) (pv 4) (fun _ _ => rfl))) rfl)
      (pss_one (ps_dput (hu_of hr) (pv 2) (pv 6) (pe_op op_add (pe_dget (hu_of hr) (pv 2) (pv 6) (fun _ _ => rfl)) (pe_dget (hu_of hr) (pv 1) (pv 4) (fun _ _ => rfl))) rfl))))
      (pss_one (ps_ret (pv 2)))))), ?_⟩
    rw [show start N_law_left [V.ref p, V.ref d] = [some (.ref p), some (.ref d), none, none, none, none, none, none, none] from rfl]
    refine q_asgN en_dnewK fun fo H1 f0 e1 hf => ?_
    dsimp only [List.set_cons_zero, List.set_cons_succ]
    refine q_forL (ev_ixT (i := 0) (ev_var rfl) ev_c (e1 _ _ h1) rfl) (sq_of (e1 _ _ h2)) (fun i σ H' => ∃ a, σ = [some (.ref p), some (.ref d), some (.ref fo), a, none, none, none, none, none] ∧ Ex H H' ∧ H' fo = some (.dK (fd (ks.take i) fun _ => 0))) (fun H2 e2 => ⟨none, rfl, e1.trans e2, e2 _ _ hf⟩) (fun i σ H' _ ⟨_, _, e, _⟩ => sq_of (e _ _ h2)) (fun i v σ H' hv h => ?_) (fun σ H' h => ?_)
    · obtain ⟨a, rfl, e, hf'⟩ := h
      rw [List.getElem?_map] at hv
      cases hi : ks[i]? with
      | none => rw [hi] at hv; cases hv
      | some k =>
        rw [hi] at hv
        have hv : V.str k = v := Option.some.inj hv
        subst hv
        refine s_dputS (m := k) hf' (ev_var rfl) (ev_var rfl) (ev_c (v := .int 0)) (by rw [List.length_take]; omega) fun H2 e2 => ⟨_, rfl, Ex.mut (e.trans e2) f0, ?_⟩
        rw [upd_same, putK_dm_new (nd_take g.kn hi), List.take_add_one, hi]
        congr 2
        exact dm_congr fun n _ => by split <;> rfl
    · obtain ⟨a3, rfl, e, hf'⟩ := h
      rw [List.length_map, List.take_length] at hf'
      refine q_forL (ev_ixT (i := 1) (ev_var rfl) ev_c (e _ _ h1) rfl) (sq_of (e _ _ h3)) (fun i σ H' => ∃ a b c x y, σ = [some (.ref p), some (.ref d), some (.ref fo), a3, a, b, c, x, y] ∧ Ex H H' ∧ H' fo = some (.dK (fd ks (MM.net (lns (ss.take i)) F)))) (fun H2 e2 => ⟨_, _, _, _, _, rfl, e.trans e2, e2 _ _ hf'⟩) (fun i σ H' _ ⟨_, _, _, _, _, _, e, _⟩ => sq_of (e _ _ h3)) (fun i v σ H' hv h => ?_) (fun σ H' h => ?_)
      · obtain ⟨a, b, c, x, y, rfl, e, hf'⟩ := h
        obtain ⟨adr, s, rfl, _, hs, ha⟩ := ht.el hv
        have sm := List.mem_of_getElem? hs
        have sn := hn s sm
        obtain ⟨_, st, sh, _⟩ := g.sS s sm
        refine g5 (e _ _ ha) ?_
        dsimp only [List.set_cons_zero, List.set_cons_succ]
        generalize hG : MM.net (lns (ss.take i)) F = G at hf'
        refine q_dputS (m := s.t) (v := .int (G s.t - F s.n)) hf' (ev_var rfl) (ev_var rfl) (ev_sub (ev_dget (ev_var rfl) (ev_var rfl) (.inl hf') st) (ev_dget (ev_var rfl) (ev_var rfl) (ex_rd e hd) sn)) (by omega) fun H2 e2 => ?_
        generalize hU : upd H2 fo _ = U
        have fU : U fo = some (.dK (fd ks (MM.setF G s.t (G s.t - F s.n)))) := by
          rw [← hU, upd_same]
          exact congrArg (fun k => some (HO.dK k)) (putK_fd st)
        have eU : Ex H U := by rw [← hU]; exact Ex.mut (e.trans e2) f0
        refine s_dputS (m := s.h) (v := .int (MM.setF G s.t (G s.t - F s.n) s.h + F s.n)) fU (ev_var rfl) (ev_var rfl) (ev_add (ev_dget (ev_var rfl) (ev_var rfl) (.inl fU) sh) (ev_dget (ev_var rfl) (ev_var rfl) (ex_rd eU hd) sn)) (by omega) fun H3 e3 => ⟨_, _, _, _, _, rfl, Ex.mut (eU.trans e3) f0, ?_⟩
        rw [upd_same]
        refine congrArg (fun k => some (HO.dK k)) ((putK_fd sh).trans (fd_congr fun v _ => ?_))
        have et : ss.take (i + 1) = ss.take i ++ [s] := by rw [List.take_add_one, hs]; rfl
        rw [et, net_snoc, hG]
        grind [MM.setF]
      · obtain ⟨a, b, c, x, y, rfl, e, hf'⟩ := h
        rw [List.length_map, ht.ln, List.take_length] at hf'
        exact s_ret (ev_var rfl) fun H2 e2 => q fo H2 f0 (e.trans e2) (e2 _ _ hf')
abbrev s_law_balanced : Stmt := top 62
abbrev N_law_balanced : List Str := ["_law_plant", "_law_flows", "_law_number"]
theorem sc_law_balanced : FnScope N_law_balanced ["_law_plant", "_law_flows"] (C8.fnScope s_law_balanced) := C8.fnScope_by (by decide +kernel)

def sp_law_balanced : Sp := fun vs H Q _ => ∃ (p d : Addr) (ks : List Str) (ss : List Stm) (nf : List Str) (F : Str → Int), vs = [V.ref p, V.ref d] ∧ LPl H p ks ss ∧ Pok ks ss ∧ Rd H d (.dK (fd nf F)) ∧ (∀ s ∈ ss, s.n ∈ nf) ∧ (∀ v ∈ ks, MM.net (lns ss) F v = 0) ∧ ∀ H', Ex H H' → Q (.bl true) H'
theorem c_law_balanced_ (T : Txt K mg aP aM aR) (D : Dn K mg "_law_balanced" s_law_balanced ["_law_plant", "_law_flows"]) (c_law_left : C8.Cal P w K mg base 1 "_law_left" sp_law_left []) : C8.Cal P w K mg base 2 "_law_balanced" sp_law_balanced [] := by
  refine cal_of D sc_law_balanced (fun vs H Q E h => ?_) (fun f cdv A outer s H vs Q E hr h => ?_)
  · obtain ⟨p, d, ks, ss, nf, F, rfl, _⟩ := h
    rfl
  · obtain ⟨p, d, ks, ss, nf, F, rfl, hp, g, hd, hn, hz, q⟩ := h
    have k2 := g.k2
    refine ⟨_, (pss_one (ps_ret (pe_callB (cr_all rfl) (by rfl) T.n_all (by decide +kernel) (pa_cons (pe_lc (own := [("_law_number", 2)]) (g := (gName 2)) (tt := tYes) rfl sc_law_balanced.nd (pi_values (pe_froz (C8.pe_c c_law_left hr (by decide) (by rfl) (pa_cons (pv 0) (pa_cons (pv 1) pa_nil))))) (blkOk_by (own := [("_law_number", 2)]) (N := N_law_balanced) (sc := C8.fnScope s_law_balanced) (by decide +kernel)) (fun _ _ _ _ _ => (pg_name (i := 2) sc_law_balanced.nd rfl (Or.inl rfl))) (fun _ _ _ _ _ => pts_nil) (fun _ _ _ _ _ => (pe_cmpR op_eq (pv 2) pe_int (nomark _)))) pa_nil)))), ?_⟩
    refine s_ret (ev_is (ev_allN (bs := ks.map fun v => decide (MM.net (lns ss) F v = 0)) (ev_isL (el_lc (ei_valsF (ns := ks) (gv := fun n => .int (MM.net (lns ss) F n)) (fun H1 e Q q => ?_)) (ys := ks) (by rw [List.length_map]) (by rw [List.length_map]; omega) (fun _ => true) (fun v => .bl (decide (MM.net (lns ss) F v = 0))) fun i x y H' hx hy e => ?_) (by rw [all_map, List.map_map]; rfl))) ?_) q
    · have hA : EvA (tCons (tVar 0) (tCons (tVar 1) tNil)) (start N_law_balanced [V.ref p, V.ref d]) H [.ref p, .ref d] := ea_cons (ev_var rfl) (ea_cons (ev_var rfl) ea_nil)
      exact hA H1 e _ fun H2 e2 => ⟨p, d, ks, ss, nf, F, rfl, hp.mono (e.trans e2), g, ex_rd (e.trans e2) hd, hn, fun r H3 hr e3 h3 => q r H3 (fresh_back e2 hr) (e2.trans e3) h3⟩
    · rw [List.getElem?_map, hy] at hx
      have hx : V.int (MM.net (lns ss) F y) = x := Option.some.inj hx
      subst hx
      exact ⟨_, fun Q q => q, rfl, et_yes, fun _ => ev_eqI (ev_var rfl) ev_c⟩
    · congr 1
      refine List.all_eq_true.mpr fun b hb => ?_
      obtain ⟨v, hv, rfl⟩ := List.mem_map.mp hb
      exact decide_eq_true (hz v hv)
abbrev s_law_inside : Stmt := top 63
abbrev N_law_inside : List Str := ["_law_limits", "_law_flows", "_law_name"]
theorem sc_law_inside : FnScope N_law_inside ["_law_limits", "_law_flows"] (C8.fnScope s_law_inside) := C8.fnScope_by (by decide +kernel)

def sp_law_inside : Sp := fun vs H Q _ => ∃ (d fl : Addr) (ns nf : List Str) (lo hi F : Str → Int), vs = [V.ref d, V.ref fl] ∧ LimAt H d ns lo hi ∧ Rd H fl (.dK (fd nf F)) ∧ nf.Perm ns ∧ ns.length ≤ 60 ∧ (∀ n ∈ ns, Nm n) ∧ (∀ n ∈ ns, lo n ≤ F n ∧ F n ≤ hi n) ∧ ∀ H', Ex H H' → Q (.bl true) H'
theorem c_law_inside_ (T : Txt K mg aP aM aR) (D : Dn K mg "_law_inside" s_law_inside ["_law_limits", "_law_flows"]) : C8.Cal P w K mg base 1 "_law_inside" sp_law_inside [] := by
  refine cal_of D sc_law_inside (fun vs H Q E h => ?_) (fun f cdv A outer s H vs Q E hr h => ?_)
  · obtain ⟨d, fl, ns, nf, lo, hi, F, rfl, _⟩ := h
    rfl
  · obtain ⟨d, fl, ns, nf, lo, hi, F, rfl, ⟨o, C, hd, hC⟩, hf, hp, hz, hN, hw, q⟩ := h
    have hl := hp.length_eq
    refine ⟨_, (pss_cons (ps_if (pt_cmpR (op_neD hr.units) (pe_callB (call_sortedD rfl) (by rfl) T.n_sorted (by decide +kernel) (pa_cons (pv 1) pa_nil)) (pe_callB (call_sortedD rfl) (by rfl) T.n_sorted (by decide +kernel) (pa_cons (pv 0) pa_nil)) (nomark _)) (pss_one (ps_ret pe_bl)) pss_nil)
      (pss_one (ps_ret (pe_callB (cr_all rfl) (by rfl) T.n_all (by decide +kernel) (pa_cons (pe_lc (own := [("_law_name", 2)]) (g := (gName 2)) (tt := tYes) rfl sc_law_inside.nd (pi_keys (pv 0)) (blkOk_by (own := [("_law_name", 2)]) (N := N_law_inside) (sc := C8.fnScope s_law_inside) (by decide +kernel)) (fun _ _ _ _ _ => (pg_name (i := 2) sc_law_inside.nd rfl (Or.inl rfl))) (fun _ _ _ _ _ => pts_nil) (fun _ _ _ _ _ => (pe_chain op_le op_le (pe_ix (ix_tupK K) (pe_dget (hu_of hr) (pv 0) (pv 2) (fun _ _ => rfl)) pe_int (fun _ _ => rfl)) (pe_dget (hu_of hr) (pv 1) (pv 2) (fun _ _ => rfl)) (pe_ix (ix_tupK K) (pe_dget (hu_of hr) (pv 0) (pv 2) (fun _ _ => rfl)) pe_int (fun _ _ => rfl))))) pa_nil))))), ?_⟩
    refine q_when (b := false) (et_test (ev_neL (en_sortD (ev_var rfl) hf (by omega)) (en_sortD (ev_var rfl) (.inr ⟨o, hd⟩) (by omega)) fun y z hy hz => ⟨sorted_eq (hy.1.trans (hp.trans hz.1.symm)) hy.2 hz.2, fun x hx => hN x ((hy.1.trans hp).mem_iff.mp hx)⟩)) (fun hb => nomatch hb) fun _ H1 e1 => ?_
    refine s_ret (ev_is (ev_allN (bs := ns.map fun n => decide (lo n ≤ F n) && decide (F n ≤ hi n)) (ev_isL (el_lc (ei_keys (ev_var rfl) (e1 _ _ hd)) (ys := ns) (by rw [List.length_map]) (by rw [List.length_map]; omega) (fun _ => true) (fun n => .bl (decide (lo n ≤ F n) && decide (F n ≤ hi n))) fun i x y H' hx hy e => ?_) (by rw [all_map, List.map_map]; rfl))) ?_) fun H2 e2 => q H2 (e1.trans e2)
    · rw [List.getElem?_map, hy] at hx
      have hx : V.str y = x := Option.some.inj hx
      subst hx
      have yn := List.mem_of_getElem? hy
      have dd : Rd H' d (.dK (dm ns fun n => .ref (C n))) := .inr ⟨o, (e1.trans e) _ _ hd⟩
      have cc := (e1.trans e) _ _ (hC _ yn)
      exact ⟨_, fun Q q => q, rfl, et_yes, fun _ => ev_chain (i := lo y) (j := F y) (k := hi y) (ev_ixT (i := 0) (ev_dget (ev_var rfl) (ev_var rfl) dd yn) ev_c cc rfl) (ev_dget (ev_var rfl) (ev_var rfl) (ex_rd (e1.trans e) hf) (hp.mem_iff.mpr yn)) (ev_ixT (i := 1) (ev_dget (ev_var rfl) (ev_var rfl) dd yn) ev_c cc rfl)⟩
    · congr 1
      refine List.all_eq_true.mpr fun b hb => ?_
      obtain ⟨n, hn, rfl⟩ := List.mem_map.mp hb
      have := hw n hn
      simp [this.1, this.2]
/-- flows that the law finds good -/
structure GoodL (H : Hp) (p d fl : Addr) (ks : List Str) (ss : List Stm) (ns nf : List Str) (lo hi F : Str → Int) : Prop where
  p : LPl H p ks ss
  g : Pok ks ss
  d : LimAt H d ns lo hi
  f : H fl = some (.dK (fd nf F))
  pm : nf.Perm ns
  k : Keys ns ss
  w : ∀ s ∈ ss, lo s.n ≤ F s.n ∧ F s.n ≤ hi s.n
  b : ∀ v ∈ ks, MM.net (lns ss) F v = 0
theorem GoodL.mono {H H' : Hp} {p d fl : Addr} {ks : List Str} {ss : List Stm} {ns nf : List Str} {lo hi F : Str → Int} (h : GoodL H p d fl ks ss ns nf lo hi F) (e : Ex H H') : GoodL H' p d fl ks ss ns nf lo hi F := ⟨h.p.mono e, h.g, h.d.mono e, e _ _ h.f, h.pm, h.k, h.w, h.b⟩
abbrev s_law_are_good : Stmt := top 64
abbrev N_law_are_good : List Str := ["_law_plant", "_law_limits", "_law_flows"]
theorem sc_law_are_good : FnScope N_law_are_good ["_law_plant", "_law_limits", "_law_flows"] (C8.fnScope s_law_are_good) := C8.fnScope_by (by decide +kernel)

def sp_law_are_good : Sp := fun vs H Q _ => ∃ (p d fl : Addr) (ks : List Str) (ss : List Stm) (ns nf : List Str) (lo hi F : Str → Int), vs = [V.ref p, V.ref d, V.ref fl] ∧ GoodL H p d fl ks ss ns nf lo hi F ∧ ∀ H', Ex H H' → Q (.bl true) H'
theorem c_law_are_good_ (T : Txt K mg aP aM aR) (D : Dn K mg "_law_are_good" s_law_are_good ["_law_plant", "_law_limits", "_law_flows"]) (c_law_inside : C8.Cal P w K mg base 1 "_law_inside" sp_law_inside []) (c_law_balanced : C8.Cal P w K mg base 2 "_law_balanced" sp_law_balanced []) : C8.Cal P w K mg base 3 "_law_are_good" sp_law_are_good [] := by
  refine cal_of D sc_law_are_good (fun vs H Q E h => ?_) (fun f cdv A outer s H vs Q E hr h => ?_)
  · obtain ⟨p, d, fl, ks, ss, ns, nf, lo, hi, F, rfl, _⟩ := h
    rfl
  · obtain ⟨p, d, fl, ks, ss, ns, nf, lo, hi, F, rfl, a, q⟩ := h
    have nS : ∀ n ∈ ns, ∃ s ∈ ss, s.n = n := fun n hn => by
      obtain ⟨s, hs, e⟩ := List.mem_map.mp ((a.k.2 n).mp hn)
      exact ⟨s, hs, e⟩
    refine ⟨_, (pss_one (ps_ret (pe_and (pe_callB call_isi (by rfl) T.n_isinstance (by decide +kernel) (pa_cons (pv 2) (pa_cons (pe_bltn (v := .ty "dict") (by rfl) T.n_dict (by decide +kernel) rfl) pa_nil))) (pe_and (C8.pe_c c_law_inside hr (by decide) (by rfl) (pa_cons (pv 1) (pa_cons (pv 2) pa_nil))) (pe_one (C8.pe_c c_law_balanced hr (by decide) (by rfl) (pa_cons (pv 0) (pa_cons (pv 2) pa_nil)))))))), ?_⟩
    refine s_ret (v := .bl true) (ev_andV (a := true) (b := true) (ev_isiD (ev_var rfl) a.f) fun _ => ev_andV (a := true) (b := true) (ev_call (ea_cons (ev_var rfl) (ea_cons (ev_var rfl) ea_nil)) fun H1 e Q q E => ?_) fun _ => ev_call (ea_cons (ev_var rfl) (ea_cons (ev_var rfl) ea_nil)) fun H1 e Q q E => ?_) q
    · refine ⟨d, fl, ns, nf, lo, hi, F, rfl, a.d.mono e, .inl (e _ _ a.f), a.pm, a.k.len a.g.s1, fun n hn => ?_, fun n hn => ?_, q⟩
      · obtain ⟨s, hs, rfl⟩ := nS n hn
        exact (a.g.sS s hs).1
      · obtain ⟨s, hs, rfl⟩ := nS n hn
        exact a.w s hs
    · exact ⟨p, fl, ks, ss, nf, F, rfl, a.p.mono e, a.g, .inl (e _ _ a.f), fun s hs => a.pm.mem_iff.mpr ((a.k.2 _).mpr (List.mem_map.mpr ⟨s, hs, rfl⟩)), a.b, q⟩
end
end MS
set_option Elab.async false
set_option linter.all false
set_option maxRecDepth 100000
set_option maxHeartbeats 4000000
namespace MS
open PySem PySem.Spec PyProof.Rows L2 Evl
def fiM (k : Str) (B : List Str) (lo hi : Str → Int) (l : Ln) : Int := (if l.t ∉ B ∧ (l.h = k ∨ l.h ∈ B) then hi l.n else 0) - (if l.t ∈ B ∧ l.h ∉ B ∧ l.h ≠ k then lo l.n else 0)
def fiL (k : Str) (B : List Str) (lo hi : Str → Int) (l : Ln) : Int := (if l.h ∉ B ∧ (l.t = k ∨ l.t ∈ B) then lo l.n else 0) - (if l.h ∈ B ∧ l.t ∉ B ∧ l.t ≠ k then hi l.n else 0)
theorem oth_lack (ss : List Stm) (n : Str) (B : List Str) (lo hi : Str → Int) : MM.lack (oth ss n) lo hi (fun v => decide (v ∈ B)) = MM.sm (lns ss) fun l => if l.n ≠ n then ((if l.t ∈ B ∧ l.h ∉ B then lo l.n else 0) - (if l.h ∈ B ∧ l.t ∉ B then hi l.n else 0)) else 0 := by
  unfold MM.lack oth
  rw [MM.sm_filter]
  refine MM.sm_congr fun l _ => ?_
  by_cases c : l.n = n
  · simp [c]
  · simp [c]
section
variable {K : PySem.W.Frag} {σ : L2.St} {H : Hp} {ta tb tc te td ty tv tl : TE} {t : TT} {D : Ends} {g : TG} {tu tz : TS} {aP : Addr}
theorem el_cat2 {a b : Addr} {xs ys : List V} (h1 : Ev ta σ H (.ref a)) (ha : H a = some (.lst xs)) (h2 : Ev tb σ H (.ref b)) (hb : H b = some (.lst ys)) (hz : xs.length + ys.length ≤ 100000) : EvL (tOp rCat ta tb) σ H (xs ++ ys) := fun H1 e Q q =>
  h1 H1 e _ fun H2 e2 => h2 H2 (e.trans e2) _ fun H3 e3 => ⟨a, b, xs, ys, rfl, rfl, ((e.trans e2).trans e3) _ _ ha, ((e.trans e2).trans e3) _ _ hb, Nat.le_trans hz (by decide), fun p hp => q p _ (fresh_back (e2.trans e3) hp) ((e2.trans e3).trans (Ex.new hp)) upd_same⟩
theorem ev_inN {xs : List Str} {m : Str} (h1 : Ev ta σ H (.str m)) (h2 : EvL tb σ H (xs.map V.str)) : Ev (tOp (rIn K false) ta tb) σ H (.bl (decide (m ∈ xs))) := fun H1 e Q q =>
  h1 H1 e _ fun H2 e2 => h2 H2 (e.trans e2) _ fun b H3 _ e3 hb => ⟨b, _, rfl, .inl (sq_of hb), rfl, flat_strs' xs, by
    have z := q H3 (e2.trans e3)
    rw [← inV_strs] at z
    exact z⟩
theorem ep_ixN {rows : List (List V)} {r : List V} (h : EvN ta σ H (fun l H' => TL H' l rows)) (hr : rows[0]? = some r) : EvP (tOp (rIxL K) ta (tC (.int 0))) σ H (fun v H' => ∃ a, v = .ref a ∧ H' a = some (.tup r)) := fun H1 e Q q =>
  h H1 e _ fun l H2 _ e2 ⟨as, hl, ht⟩ => by
    obtain ⟨a, ha, hr'⟩ := ht.at hr
    exact ⟨l, _, 0, _, rfl, rfl, sq_of hl, atI_nat (j := 0) (by rw [List.getElem?_map, ha]; rfl), q _ H2 e2 ⟨a, rfl, hr'⟩⟩
theorem eu_if {b : Bool} {xs : List V} (h : EvT t σ H b) (h1 : b = true → EvU ta σ H xs) (h2 : b = false → EvU tb σ H xs) : EvU (tIf t ta tb) σ H xs := fun H1 e Q q => h H1 e _ fun H2 e2 => by
  cases b with
  | true =>
    show ta σ H2 Q
    exact h1 rfl H2 (e.trans e2) Q fun p H3 hp e3 hx => q p H3 (fresh_back e2 hp) (e2.trans e3) hx
  | false =>
    show tb σ H2 Q
    exact h2 rfl H2 (e.trans e2) Q fun p H3 hp e3 hx => q p H3 (fresh_back e2 hp) (e2.trans e3) hx
theorem en_sortS {a : Addr} {xs : List Str} (h : Ev te σ H (.ref a)) (ha : SqL K H a (xs.map V.str)) (hz : xs.length < 64) : EvN (tCB (rSortedS K) (tCons te tNil)) σ H (fun p H' => ∃ ys : List Str, H' p = some (.lst (ys.map V.str)) ∧ ys.Perm xs ∧ sortedS ys = true) := fun H1 e Q q =>
  h H1 e _ fun H2 e2 => ⟨a, xs, rfl, ex_l (e.trans e2) ha, hz, fun ys p h1 h2 hp => q p _ (fresh_back e2 hp) (e2.trans (Ex.new hp)) ⟨ys, upd_same, h1, h2⟩⟩
theorem EvN.xs {R : List Str → Prop} (h : EvN te σ H (fun p H' => ∃ ys : List Str, H' p = some (.lst (ys.map V.str)) ∧ R ys)) : EvP te σ H (fun v H' => ∃ p, v = .ref p ∧ ∃ ys : List Str, H' p = some (.lst (ys.map V.str)) ∧ R ys) := h.p
end
section
variable {P : Program} {w : World} {K : PySem.W.Frag} {mg : Str → Option Value} {base : Heap} {aP aM aR : Addr}
abbrev s_law_beside : Stmt := top 65
abbrev N_law_beside : List Str := ["_law_plant", "_law_limits", "_law_name", "_law_lot", "_law_into", "_law_out", "_law_other", "_law_tail", "_law_head", "_law_low", "_law_high"]
theorem sc_law_beside : FnScope N_law_beside ["_law_plant", "_law_limits", "_law_name", "_law_lot"] (C8.fnScope s_law_beside) := C8.fnScope_by (by decide +kernel)

def sp_law_beside (K : PySem.W.Frag) : Sp := fun vs H Q _ => ∃ (p d l : Addr) (nm : Str) (ks : List Str) (ss : List Stm) (ns B : List Str) (lo hi : Str → Int), vs = [V.ref p, V.ref d, V.str nm, V.ref l] ∧ LPl H p ks ss ∧ LimAt H d ns lo hi ∧ (∀ s ∈ ss, s.n ∈ ns) ∧ SqL K H l (B.map V.str) ∧ ∀ H', Ex H H' → Q (.int (- MM.lack (oth ss nm) lo hi (fun v => decide (v ∈ B)))) H'
theorem c_law_beside_ (T : Txt K mg aP aM aR) (D : Dn K mg "_law_beside" s_law_beside ["_law_plant", "_law_limits", "_law_name", "_law_lot"]) : C8.Cal P w K mg base 1 "_law_beside" (sp_law_beside K) [] := by
  refine cal_of D sc_law_beside (fun vs H Q E h => ?_) (fun f cdv A outer s H vs Q E hr h => ?_)
  · obtain ⟨p, d, l, nm, ks, ss, ns, B, lo, hi, rfl, _⟩ := h
    rfl
  · obtain ⟨p, d, l, nm, ks, ss, ns, B, lo, hi, rfl, ⟨lk, ls, h1, h2, as, h3, ht⟩, ⟨o, C, hd, hC⟩, hn, hl, q⟩ := h
    refine ⟨_, (pss_cons (ps_set (i := 4) sc_law_beside.nd rfl (Or.inl rfl) pe_int)
      (pss_cons (ps_set (i := 5) sc_law_beside.nd rfl (Or.inl rfl) pe_int)
      (pss_cons (ps_for PassesOwn.never rfl (pi_list (pe_ix ix_tup (pv 0) pe_int (fun _ _ => rfl))) (pg_tup rfl (pgs_cons (pg_name (i := 6) sc_law_beside.nd rfl (Or.inl rfl)) (pgs_cons (pg_name (i := 7) sc_law_beside.nd rfl (Or.inl rfl)) (pgs_cons (pg_name (i := 8) sc_law_beside.nd rfl (Or.inl rfl)) (pgs_cons (pg_name (i := 9) sc_law_beside.nd rfl (Or.inl rfl)) (pgs_cons (pg_name (i := 10) sc_law_beside.nd rfl (Or.inl rfl)) pgs_nil)))))) (pss_cons (ps_if (PW.pt (pw_and (pt_cmpR op_ne (pv 6) (pv 2) (nomark _)) (pw_and (pt_cmpR op_in_seq (pv 7) (pv 3) (by rfl)) (pw_and1 (pt_cmpR op_notIn_seq (pv 8) (pv 3) (by rfl)))))) (pss_one (ps_set (i := 5) sc_law_beside.nd rfl (Or.inl rfl) (pe_op op_add (pv 5) (pe_ix ix_tup (pe_dget (hu_of hr) (pv 1) (pv 6) (fun _ _ => rfl)) pe_int (fun _ _ => rfl))))) pss_nil)
      (pss_one (ps_if (PW.pt (pw_and (pt_cmpR op_ne (pv 6) (pv 2) (nomark _)) (pw_and (pt_cmpR op_in_seq (pv 8) (pv 3) (by rfl)) (pw_and1 (pt_cmpR op_notIn_seq (pv 7) (pv 3) (by rfl)))))) (pss_one (ps_set (i := 4) sc_law_beside.nd rfl (Or.inl rfl) (pe_op op_add (pv 4) (pe_ix ix_tup (pe_dget (hu_of hr) (pv 1) (pv 6) (fun _ _ => rfl)) pe_int (fun _ _ => rfl))))) pss_nil))))
      (pss_one (ps_ret (pe_op op_sub (pv 4) (pv 5))))))), ?_⟩
    rw [show start N_law_beside [V.ref p, V.ref d, V.str nm, V.ref l] = [some (.ref p), some (.ref d), some (.str nm), some (.ref l), none, none, none, none, none, none, none] from rfl]
    refine q_asg (ev_c (v := .int 0)) fun H1 e1 => ?_
    refine q_asg (ev_c (v := .int 0)) fun H1' e1' => ?_
    dsimp only [List.set_cons_zero, List.set_cons_succ]
    have e1 := e1.trans e1'
    refine q_forL (ev_ixT (i := 1) (ev_var rfl) ev_c (e1 _ _ h1) rfl) (sq_of (e1 _ _ h3)) (fun i σ H' => ∃ (u v : Int) (a b c x y : Option V), σ = [some (.ref p), some (.ref d), some (.str nm), some (.ref l), some (.int u), some (.int v), a, b, c, x, y] ∧ Ex H H' ∧ u - v = - MM.sm (lns (ss.take i)) fun l => if l.n ≠ nm then ((if l.t ∈ B ∧ l.h ∉ B then lo l.n else 0) - (if l.h ∈ B ∧ l.t ∉ B then hi l.n else 0)) else 0) (fun H2 e2 => ⟨0, 0, _, _, _, _, _, rfl, e1.trans e2, rfl⟩) (fun i σ H' _ ⟨_, _, _, _, _, _, _, _, e, _⟩ => sq_of (e _ _ h3)) (fun i v σ H' hv h => ?_) (fun σ H' h => ?_)
    · obtain ⟨u, v, a, b, c, x, y, rfl, e, huv⟩ := h
      obtain ⟨adr, s, rfl, _, hs, ha⟩ := ht.el hv
      have sn := hn s (List.mem_of_getElem? hs)
      refine g5 (e _ _ ha) ?_
      dsimp only [List.set_cons_zero, List.set_cons_succ]
      have dd : ∀ {H''}, Ex H' H'' → Rd H'' d (.dK (dm ns fun n => .ref (C n))) := fun e' => .inr ⟨o, (e.trans e') _ _ hd⟩
      have cc : ∀ {H''}, Ex H' H'' → H'' (C s.n) = some (.tup [.int (lo s.n), .int (hi s.n)]) := fun e' => (e.trans e') _ _ (hC _ sn)
      have hl' := ex_l e hl
      refine q_ifJ (J := fun σ' H1 => σ' = [some (.ref p), some (.ref d), some (.str nm), some (.ref l), some (.int u), some (.int (v + if s.n ≠ nm ∧ s.t ∈ B ∧ s.h ∉ B then lo s.n else 0)), some (.str s.n), some (.str s.t), some (.str s.h), some (.int s.lo), some (.int s.hi)] ∧ Ex H' H1) (b := decide (s.n ≠ nm) && (decide (s.t ∈ B) && decide (s.h ∉ B))) (et_and (et_test (ev_neS (ev_var rfl) (ev_var rfl))) fun _ => et_and (et_test (ev_inS (ev_var rfl) (ev_var rfl) hl')) fun _ => et_test (ev_ninS (ev_var rfl) (ev_var rfl) hl')) (fun hb H4 e4 D' k => ?_) (fun hb H4 e4 => ?_) (fun σ4 H4 h4 => ?_)
      · refine s_asg (ev_add (i := v) (j := lo s.n) (ev_var rfl) (ev_ixT (i := 0) (ev_dget (ev_var rfl) (ev_var rfl) (dd e4) sn) ev_c (cc e4) rfl)) fun H5 e5 => k _ _ ⟨?_, e4.trans e5⟩
        rw [if_pos (by simpa using hb)]
        rfl
      · refine ⟨?_, e4⟩
        rw [if_neg (by simpa using hb), Int.add_zero]
      · obtain ⟨rfl, e4⟩ := h4
        generalize hv2 : v + (if s.n ≠ nm ∧ s.t ∈ B ∧ s.h ∉ B then lo s.n else 0) = v2
        refine s_ifJ (J := fun σ' H1 => σ' = [some (.ref p), some (.ref d), some (.str nm), some (.ref l), some (.int (u + if s.n ≠ nm ∧ s.h ∈ B ∧ s.t ∉ B then hi s.n else 0)), some (.int v2), some (.str s.n), some (.str s.t), some (.str s.h), some (.int s.lo), some (.int s.hi)] ∧ Ex H' H1) (b := decide (s.n ≠ nm) && (decide (s.h ∈ B) && decide (s.t ∉ B))) (et_and (et_test (ev_neS (ev_var rfl) (ev_var rfl))) fun _ => et_and (et_test (ev_inS (ev_var rfl) (ev_var rfl) (ex_l e4 hl'))) fun _ => et_test (ev_ninS (ev_var rfl) (ev_var rfl) (ex_l e4 hl'))) (fun hb H5 e5 D' k => ?_) (fun hb H5 e5 => ?_) (fun σ5 H5 h5 => ?_)
        · refine s_asg (ev_add (i := u) (j := hi s.n) (ev_var rfl) (ev_ixT (i := 1) (ev_dget (ev_var rfl) (ev_var rfl) (dd (e4.trans e5)) sn) ev_c (cc (e4.trans e5)) rfl)) fun H6 e6 => k _ _ ⟨?_, (e4.trans e5).trans e6⟩
          rw [if_pos (by simpa using hb)]
          rfl
        · refine ⟨?_, e4.trans e5⟩
          rw [if_neg (by simpa using hb), Int.add_zero]
        · obtain ⟨rfl, e5⟩ := h5
          refine ⟨_, v2, some (.str s.n), some (.str s.t), some (.str s.h), some (.int s.lo), some (.int s.hi), rfl, e.trans e5, ?_⟩
          rw [sm_take hs, ← hv2]
          generalize (MM.sm (lns (ss.take i)) fun l => if l.n ≠ nm then ((if l.t ∈ B ∧ l.h ∉ B then lo l.n else 0) - (if l.h ∈ B ∧ l.t ∉ B then hi l.n else 0)) else 0) = S at huv
          show _ = -(S + (if s.n ≠ nm then ((if s.t ∈ B ∧ s.h ∉ B then lo s.n else 0) - (if s.h ∈ B ∧ s.t ∉ B then hi s.n else 0)) else 0))
          by_cases c : s.n = nm
          · simp only [c, ne_eq, not_true_eq_false, false_and, if_false]; omega
          · simp only [c, ne_eq, not_false_eq_true, true_and, if_true]
            omega
    · obtain ⟨u, v, a, b, c, x, y, rfl, e, huv⟩ := h
      rw [List.length_map, ht.ln, List.take_length] at huv
      refine s_ret (ev_is (ev_sub (i := u) (j := v) (ev_var rfl) (ev_var rfl)) ?_) fun H2 e2 => q H2 (e.trans e2)
      rw [huv, oth_lack]
abbrev s_law_around : Stmt := top 66
abbrev N_law_around : List Str := ["_law_plant", "_law_limits", "_law_knot", "_law_lot", "_law_most", "_law_least", "_law_name", "_law_tail", "_law_head", "_law_low", "_law_high", "_law_comes", "_law_goes"]
theorem sc_law_around : FnScope N_law_around ["_law_plant", "_law_limits", "_law_knot", "_law_lot"] (C8.fnScope s_law_around) := C8.fnScope_by (by decide +kernel)

def sp_law_around (K : PySem.W.Frag) : Sp := fun vs H Q _ => ∃ (p d l : Addr) (k : Str) (ks : List Str) (ss : List Stm) (ns B : List Str) (lo hi : Str → Int), vs = [V.ref p, V.ref d, V.str k, V.ref l] ∧ LPl H p ks ss ∧ LimAt H d ns lo hi ∧ (∀ s ∈ ss, s.n ∈ ns) ∧ SqL K H l (B.map V.str) ∧
  ∀ q H', H q = none → Ex H H' → H' q = some (.tup [.int (MM.sm (lns ss) (fiM k B lo hi)), .int (MM.sm (lns ss) (fiL k B lo hi))]) → Q (.ref q) H'
theorem c_law_around_ (T : Txt K mg aP aM aR) (D : Dn K mg "_law_around" s_law_around ["_law_plant", "_law_limits", "_law_knot", "_law_lot"]) : C8.Cal P w K mg base 1 "_law_around" (sp_law_around K) [] := by
  refine cal_of D sc_law_around (fun vs H Q E h => ?_) (fun f cdv A outer s H vs Q E hr h => ?_)
  · obtain ⟨p, d, l, k, ks, ss, ns, B, lo, hi, rfl, _⟩ := h
    rfl
  · obtain ⟨p, d, l, k, ks, ss, ns, B, lo, hi, rfl, ⟨lk, ls, h1, h2, as, h3, ht⟩, ⟨o, C, hd, hC⟩, hn, hl, q⟩ := h
    refine ⟨_, (pss_cons (ps_set (i := 4) sc_law_around.nd rfl (Or.inl rfl) pe_int)
      (pss_cons (ps_set (i := 5) sc_law_around.nd rfl (Or.inl rfl) pe_int)
      (pss_cons (ps_for PassesOwn.never rfl (pi_list (pe_ix ix_tup (pv 0) pe_int (fun _ _ => rfl))) (pg_tup rfl (pgs_cons (pg_name (i := 6) sc_law_around.nd rfl (Or.inl rfl)) (pgs_cons (pg_name (i := 7) sc_law_around.nd rfl (Or.inl rfl)) (pgs_cons (pg_name (i := 8) sc_law_around.nd rfl (Or.inl rfl)) (pgs_cons (pg_name (i := 9) sc_law_around.nd rfl (Or.inl rfl)) (pgs_cons (pg_name (i := 10) sc_law_around.nd rfl (Or.inl rfl)) pgs_nil)))))) (pss_cons (ps_par (i := 11) (j := 12) (by rfl) sc_law_around.nd rfl rfl (by decide) rfl rfl (pa_cons (pe_ix ix_tup (pe_dget (hu_of hr) (pv 1) (pv 6) (fun _ _ => rfl)) pe_int (fun _ _ => rfl)) (pa_cons (pe_ix ix_tup (pe_dget (hu_of hr) (pv 1) (pv 6) (fun _ _ => rfl)) pe_int (fun _ _ => rfl)) pa_nil)) (by rfl))
      (pss_cons (ps_if (PW.pt (pw_and (pt_cmpR op_notIn_seq (pv 7) (pv 3) (by rfl)) (pw_and1 (PW.pt (pw_or (pt_cmpR op_eq (pv 8) (pv 2) (nomark _)) (pw_or1 (pt_cmpR op_in_seq (pv 8) (pv 3) (by rfl)))))))) (pss_one (ps_set (i := 4) sc_law_around.nd rfl (Or.inl rfl) (pe_op op_add (pv 4) (pv 11)))) pss_nil)
      (pss_cons (ps_if (PW.pt (pw_and (pt_cmpR op_in_seq (pv 7) (pv 3) (by rfl)) (pw_and (pt_cmpR op_notIn_seq (pv 8) (pv 3) (by rfl)) (pw_and1 (pt_cmpR op_ne (pv 8) (pv 2) (nomark _)))))) (pss_one (ps_set (i := 4) sc_law_around.nd rfl (Or.inl rfl) (pe_op op_sub (pv 4) (pv 12)))) pss_nil)
      (pss_cons (ps_if (PW.pt (pw_and (pt_cmpR op_notIn_seq (pv 8) (pv 3) (by rfl)) (pw_and1 (PW.pt (pw_or (pt_cmpR op_eq (pv 7) (pv 2) (nomark _)) (pw_or1 (pt_cmpR op_in_seq (pv 7) (pv 3) (by rfl)))))))) (pss_one (ps_set (i := 5) sc_law_around.nd rfl (Or.inl rfl) (pe_op op_add (pv 5) (pv 12)))) pss_nil)
      (pss_one (ps_if (PW.pt (pw_and (pt_cmpR op_in_seq (pv 8) (pv 3) (by rfl)) (pw_and (pt_cmpR op_notIn_seq (pv 7) (pv 3) (by rfl)) (pw_and1 (pt_cmpR op_ne (pv 7) (pv 2) (nomark _)))))) (pss_one (ps_set (i := 5) sc_law_around.nd rfl (Or.inl rfl) (pe_op op_sub (pv 5) (pv 11)))) pss_nil)))))))
      (pss_one (ps_ret (pe_tup (pa_cons (pv 4) (pa_cons (pv 5) pa_nil)))))))), ?_⟩
    rw [show start N_law_around [V.ref p, V.ref d, V.str k, V.ref l] = [some (.ref p), some (.ref d), some (.str k), some (.ref l), none, none, none, none, none, none, none, none, none] from rfl]
    refine q_asg (ev_c (v := .int 0)) fun H1 e1 => ?_
    refine q_asg (ev_c (v := .int 0)) fun H1' e1' => ?_
    dsimp only [List.set_cons_zero, List.set_cons_succ]
    have e1 := e1.trans e1'
    refine q_forL (ev_ixT (i := 1) (ev_var rfl) ev_c (e1 _ _ h1) rfl) (sq_of (e1 _ _ h3)) (fun i σ H' => ∃ (a b c x y z w : Option V), σ = [some (.ref p), some (.ref d), some (.str k), some (.ref l), some (.int (MM.sm (lns (ss.take i)) (fiM k B lo hi))), some (.int (MM.sm (lns (ss.take i)) (fiL k B lo hi))), a, b, c, x, y, z, w] ∧ Ex H H') (fun H2 e2 => ⟨_, _, _, _, _, _, _, rfl, e1.trans e2⟩) (fun i σ H' _ ⟨_, _, _, _, _, _, _, _, e⟩ => sq_of (e _ _ h3)) (fun i v σ H' hv h => ?_) (fun σ H' h => ?_)
    · obtain ⟨a, b, c, x, y, z, w, rfl, e⟩ := h
      obtain ⟨adr, s, rfl, _, hs, ha⟩ := ht.el hv
      have sn := hn s (List.mem_of_getElem? hs)
      refine g5 (e _ _ ha) ?_
      dsimp only [List.set_cons_zero, List.set_cons_succ]
      have em := sm_take hs (fiM k B lo hi)
      have el := sm_take hs (fiL k B lo hi)
      generalize MM.sm (lns (ss.take i)) (fiM k B lo hi) = u at em
      generalize MM.sm (lns (ss.take i)) (fiL k B lo hi) = v at el
      have dd : Rd H' d (.dK (dm ns fun n => .ref (C n))) := .inr ⟨o, e _ _ hd⟩
      have cc : H' (C s.n) = some (.tup [.int (lo s.n), .int (hi s.n)]) := e _ _ (hC _ sn)
      have hl' := ex_l e hl
      refine q_par (ea_cons (ev_ixT (i := 1) (ev_dget (ev_var rfl) (ev_var rfl) dd sn) ev_c cc rfl) (ea_cons (ev_ixT (i := 0) (ev_dget (ev_var rfl) (ev_var rfl) dd sn) ev_c cc rfl) ea_nil)) fun H3 e3 => ?_
      dsimp only [List.set_cons_zero, List.set_cons_succ]
      have hl3 := ex_l e3 hl'
      refine q_ifJ (J := fun σ' H1 => σ' = [some (.ref p), some (.ref d), some (.str k), some (.ref l), some (.int (u + if s.t ∉ B ∧ (s.h = k ∨ s.h ∈ B) then hi s.n else 0)), some (.int v), some (.str s.n), some (.str s.t), some (.str s.h), some (.int s.lo), some (.int s.hi), some (.int (hi s.n)), some (.int (lo s.n))] ∧ Ex H3 H1) (b := decide (s.t ∉ B) && (decide (s.h = k) || decide (s.h ∈ B))) (et_and (et_test (ev_ninS (ev_var rfl) (ev_var rfl) hl3)) fun _ => et_or (et_test (ev_eqS (ev_var rfl) (ev_var rfl))) fun _ => et_test (ev_inS (ev_var rfl) (ev_var rfl) hl3)) (fun hb H4 e4 D' k' => ?_) (fun hb H4 e4 => ?_) (fun σ4 H4 h4 => ?_)
      · refine s_asg (ev_add (i := u) (j := hi s.n) (ev_var rfl) (ev_var rfl)) fun H5 e5 => k' _ _ ⟨?_, e4.trans e5⟩
        rw [if_pos (by simpa using hb)]
        rfl
      · refine ⟨?_, e4⟩
        rw [if_neg (by simpa using hb), Int.add_zero]
      obtain ⟨rfl, e4⟩ := h4
      generalize hu2 : u + (if s.t ∉ B ∧ (s.h = k ∨ s.h ∈ B) then hi s.n else 0) = u2
      have hl4 := ex_l e4 hl3
      refine q_ifJ (J := fun σ' H1 => σ' = [some (.ref p), some (.ref d), some (.str k), some (.ref l), some (.int (u2 - if s.t ∈ B ∧ s.h ∉ B ∧ s.h ≠ k then lo s.n else 0)), some (.int v), some (.str s.n), some (.str s.t), some (.str s.h), some (.int s.lo), some (.int s.hi), some (.int (hi s.n)), some (.int (lo s.n))] ∧ Ex H3 H1) (b := decide (s.t ∈ B) && (decide (s.h ∉ B) && decide (s.h ≠ k))) (et_and (et_test (ev_inS (ev_var rfl) (ev_var rfl) hl4)) fun _ => et_and (et_test (ev_ninS (ev_var rfl) (ev_var rfl) hl4)) fun _ => et_test (ev_neS (ev_var rfl) (ev_var rfl))) (fun hb H5 e5 D' k' => ?_) (fun hb H5 e5 => ?_) (fun σ5 H5 h5 => ?_)
      · refine s_asg (ev_sub (i := u2) (j := lo s.n) (ev_var rfl) (ev_var rfl)) fun H6 e6 => k' _ _ ⟨?_, (e4.trans e5).trans e6⟩
        rw [if_pos (by simpa using hb)]
        rfl
      · refine ⟨?_, e4.trans e5⟩
        rw [if_neg (by simpa using hb), Int.sub_zero]
      obtain ⟨rfl, e5⟩ := h5
      generalize hu3 : u2 - (if s.t ∈ B ∧ s.h ∉ B ∧ s.h ≠ k then lo s.n else 0) = u3
      have hl5 := ex_l e5 hl3
      refine q_ifJ (J := fun σ' H1 => σ' = [some (.ref p), some (.ref d), some (.str k), some (.ref l), some (.int u3), some (.int (v + if s.h ∉ B ∧ (s.t = k ∨ s.t ∈ B) then lo s.n else 0)), some (.str s.n), some (.str s.t), some (.str s.h), some (.int s.lo), some (.int s.hi), some (.int (hi s.n)), some (.int (lo s.n))] ∧ Ex H3 H1) (b := decide (s.h ∉ B) && (decide (s.t = k) || decide (s.t ∈ B))) (et_and (et_test (ev_ninS (ev_var rfl) (ev_var rfl) hl5)) fun _ => et_or (et_test (ev_eqS (ev_var rfl) (ev_var rfl))) fun _ => et_test (ev_inS (ev_var rfl) (ev_var rfl) hl5)) (fun hb H6 e6 D' k' => ?_) (fun hb H6 e6 => ?_) (fun σ6 H6 h6 => ?_)
      · refine s_asg (ev_add (i := v) (j := lo s.n) (ev_var rfl) (ev_var rfl)) fun H7 e7 => k' _ _ ⟨?_, (e5.trans e6).trans e7⟩
        rw [if_pos (by simpa using hb)]
        rfl
      · refine ⟨?_, e5.trans e6⟩
        rw [if_neg (by simpa using hb), Int.add_zero]
      obtain ⟨rfl, e6⟩ := h6
      generalize hv2 : v + (if s.h ∉ B ∧ (s.t = k ∨ s.t ∈ B) then lo s.n else 0) = v2
      have hl6 := ex_l e6 hl3
      refine s_ifJ (J := fun σ' H1 => σ' = [some (.ref p), some (.ref d), some (.str k), some (.ref l), some (.int u3), some (.int (v2 - if s.h ∈ B ∧ s.t ∉ B ∧ s.t ≠ k then hi s.n else 0)), some (.str s.n), some (.str s.t), some (.str s.h), some (.int s.lo), some (.int s.hi), some (.int (hi s.n)), some (.int (lo s.n))] ∧ Ex H3 H1) (b := decide (s.h ∈ B) && (decide (s.t ∉ B) && decide (s.t ≠ k))) (et_and (et_test (ev_inS (ev_var rfl) (ev_var rfl) hl6)) fun _ => et_and (et_test (ev_ninS (ev_var rfl) (ev_var rfl) hl6)) fun _ => et_test (ev_neS (ev_var rfl) (ev_var rfl))) (fun hb H7 e7 D' k' => ?_) (fun hb H7 e7 => ?_) (fun σ7 H7 h7 => ?_)
      · refine s_asg (ev_sub (i := v2) (j := hi s.n) (ev_var rfl) (ev_var rfl)) fun H8 e8 => k' _ _ ⟨?_, (e6.trans e7).trans e8⟩
        rw [if_pos (by simpa using hb)]
        rfl
      · refine ⟨?_, e6.trans e7⟩
        rw [if_neg (by simpa using hb), Int.sub_zero]
      obtain ⟨rfl, e7⟩ := h7
      refine ⟨some (.str s.n), some (.str s.t), some (.str s.h), some (.int s.lo), some (.int s.hi), some (.int (hi s.n)), some (.int (lo s.n)), ?_, (e.trans e3).trans e7⟩
      have f1 : u + fiM k B lo hi (ln s) = u3 := by
        rw [← hu3, ← hu2]
        show u + ((if s.t ∉ B ∧ (s.h = k ∨ s.h ∈ B) then hi s.n else 0) - (if s.t ∈ B ∧ s.h ∉ B ∧ s.h ≠ k then lo s.n else 0)) = _
        omega
      have f2 : v + fiL k B lo hi (ln s) = v2 - (if s.h ∈ B ∧ s.t ∉ B ∧ s.t ≠ k then hi s.n else 0) := by
        rw [← hv2]
        show v + ((if s.h ∉ B ∧ (s.t = k ∨ s.t ∈ B) then lo s.n else 0) - (if s.h ∈ B ∧ s.t ∉ B ∧ s.t ≠ k then hi s.n else 0)) = _
        omega
      rw [em, el, f1, f2]
    · obtain ⟨a, b, c, x, y, z, w, rfl, e⟩ := h
      rw [List.length_map, ht.ln, List.take_length]
      exact s_retU (eu_2 (ev_var rfl) (ev_var rfl)) fun r H2 hr e2 h2 => q r H2 (fresh_back e hr) (e.trans e2) h2
end
end MS
set_option Elab.async false
set_option linter.all false
set_option maxRecDepth 100000
set_option maxHeartbeats 4000000
namespace MS
open PySem PySem.Spec PyProof.Rows L2 Evl
/-! ### the parted plant's lack, as the law tells it -/
theorem part_fiM {ks : List Str} {ss : List Stm} {k : Str} {B : List Str} {lo hi : Str → Int} (hk : k ∈ ks) (hne : ∀ v ∈ ks, v ≠ eS) (hB : ∀ v ∈ B, v ∈ ks) (hkB : k ∉ B) (he : ∀ l ∈ lns ss, l.t ∈ ks ∧ l.h ∈ ks) :
    MM.sm (lns ss) (fiM k B lo hi) = - MM.lack (partOf ss k) lo hi (fun v => decide (v = k ∨ v ∈ B)) := by
  unfold MM.lack partOf
  rw [MM.sm_map, ← MM.sm_neg]
  refine MM.sm_congr fun l hl => ?_
  have eB : eS ∉ B := fun z => hne _ (hB _ z) rfl
  have ek : eS ≠ k := fun z => hne k hk z.symm
  unfold fiM
  show _ = - ((if decide ((if l.t = k then eS else l.t) = k ∨ (if l.t = k then eS else l.t) ∈ B) = true ∧ decide (l.h = k ∨ l.h ∈ B) = false then lo l.n else 0) - (if decide (l.h = k ∨ l.h ∈ B) = true ∧ decide ((if l.t = k then eS else l.t) = k ∨ (if l.t = k then eS else l.t) ∈ B) = false then hi l.n else 0))
  simp only [decide_eq_true_eq, decide_eq_false_iff_not]
  by_cases c : l.t = k
  · rw [if_pos c]
    have htB : l.t ∉ B := fun z => hkB (c ▸ z)
    simp only [eB, ek, htB, or_self, false_and, if_false, not_false_eq_true, true_and, and_true]
    omega
  · rw [if_neg c]
    simp only [c, false_or]
    by_cases h1 : l.t ∈ B <;> by_cases h2 : l.h = k <;> by_cases h3 : l.h ∈ B <;> simp [h1, h2, h3] <;> omega
theorem part_fiL {ks : List Str} {ss : List Stm} {k : Str} {B : List Str} {lo hi : Str → Int} (hk : k ∈ ks) (hne : ∀ v ∈ ks, v ≠ eS) (hB : ∀ v ∈ B, v ∈ ks) (hkB : k ∉ B) (he : ∀ l ∈ lns ss, l.t ∈ ks ∧ l.h ∈ ks) :
    MM.sm (lns ss) (fiL k B lo hi) = MM.lack (partOf ss k) lo hi (fun v => decide (v = eS ∨ v ∈ B)) := by
  unfold MM.lack partOf
  rw [MM.sm_map]
  refine MM.sm_congr fun l hl => ?_
  obtain ⟨h1, h2⟩ := he l hl
  have hh := hne _ h2
  have ht := hne _ h1
  unfold fiL
  show _ = ((if decide ((if l.t = k then eS else l.t) = eS ∨ (if l.t = k then eS else l.t) ∈ B) = true ∧ decide (l.h = eS ∨ l.h ∈ B) = false then lo l.n else 0) - (if decide (l.h = eS ∨ l.h ∈ B) = true ∧ decide ((if l.t = k then eS else l.t) = eS ∨ (if l.t = k then eS else l.t) ∈ B) = false then hi l.n else 0))
  simp only [decide_eq_true_eq, decide_eq_false_iff_not, hh, false_or]
  by_cases c : l.t = k
  · rw [if_pos c]
    simp [c]
  · rw [if_neg c]
    simp only [c, ht, false_or]
    by_cases h1 : l.t ∈ B <;> by_cases h3 : l.h ∈ B <;> simp [h1, h3, c]
theorem el_lcX {K : PySem.W.Frag} {σ : L2.St} {H : Hp} {tl te : TE} {g : TG} {tt' : TT} {vs : List Nat} {R : List Str → Prop} (h0 : EvN tl σ H (fun p H' => ∃ ys : List Str, H' p = some (.lst (ys.map V.str)) ∧ R ys)) (hz : ∀ ys, R ys → ys.length ≤ 40000) (f : Str → Bool)
    (h : ∀ n H', Ex H H' → ∃ σ2, (∀ Q : L2.St → Hp → Prop, Q σ2 H' → g (.str n) (wipe σ vs) H' Q) ∧ wipe σ2 vs = wipe σ vs ∧ EvT tt' σ2 H' (f n) ∧ (f n = true → Ev te σ2 H' (.str n))) :
    EvN (tLc (iList K tl) g tt' te vs) σ H (fun p H' => ∃ ys : List Str, H' p = some (.lst ((ys.filter f).map V.str)) ∧ R ys) := fun H1 e Q q => h0 H1 e _ fun a H2 ha0 e2 ⟨ys, ha, hR⟩ => by
  have k := el_lc (H := H2) (σ := σ) (tt := tt') (te := te) (g := g) (vs := vs) (ei_list (K := K) (tl := tC (.ref a)) (ev_c) (sq_of ha)) (ys := ys) (by rw [List.length_map]) (by rw [List.length_map]; exact hz ys hR) f V.str (fun i x y H' hx hy e' => by
    rw [List.getElem?_map, hy] at hx
    have hx : V.str y = x := Option.some.inj hx
    subst hx
    exact h y H' ((e.trans e2).trans e'))
  exact k H2 (Ex.refl _) Q fun p H3 hp e3 hl3 => q p H3 (fresh_back e2 hp) (e2.trans e3) ⟨ys, hl3, hR⟩
section
variable {P : Program} {w : World} {K : PySem.W.Frag} {mg : Str → Option Value} {base : Heap} {aP aM aR : Addr}
abbrev s_law_passing : Stmt := top 67
abbrev N_law_passing : List Str := ["_law_plant", "_law_flows", "_law_knot", "_law_name", "_law_tail", "_law_head", "_law_low", "_law_high"]
theorem sc_law_passing : FnScope N_law_passing ["_law_plant", "_law_flows", "_law_knot"] (C8.fnScope s_law_passing) := C8.fnScope_by (by decide +kernel)

def sp_law_passing : Sp := fun vs H Q _ => ∃ (p d : Addr) (k : Str) (ks : List Str) (ss : List Stm) (nf : List Str) (F : Str → Int), vs = [V.ref p, V.ref d, V.str k] ∧ LPl H p ks ss ∧ ss.length ≤ 60 ∧ Rd H d (.dK (fd nf F)) ∧ (∀ s ∈ ss, s.n ∈ nf) ∧ ∀ H', Ex H H' → Q (.int (inK ss F k)) H'
theorem c_law_passing_ (T : Txt K mg aP aM aR) (D : Dn K mg "_law_passing" s_law_passing ["_law_plant", "_law_flows", "_law_knot"]) : C8.Cal P w K mg base 1 "_law_passing" sp_law_passing [] := by
  refine cal_of D sc_law_passing (fun vs H Q E h => ?_) (fun f cdv A outer s H vs Q E hr h => ?_)
  · obtain ⟨p, d, k, ks, ss, nf, F, rfl, _⟩ := h
    rfl
  · obtain ⟨p, d, k, ks, ss, nf, F, rfl, ⟨lk, ls, h1, h2, as, h3, ht⟩, hz, hd, hn, q⟩ := h
    refine ⟨_, (pss_one (ps_ret (pe_callB (cr_sum rfl) (by rfl) T.n_sum (by decide +kernel) (pa_cons (pe_lc (own := [("_law_name", 3), ("_law_tail", 4), ("_law_head", 5), ("_law_low", 6), ("_law_high", 7)]) (g := (gTup K 5 (gCons (gName 3) (gCons (gName 4) (gCons (gName 5) (gCons (gName 6) (gCons (gName 7) gNil))))))) rfl sc_law_passing.nd (pi_list (pe_ix ix_tup (pv 0) pe_int (fun _ _ => rfl))) (blkOk_by (own := [("_law_name", 3), ("_law_tail", 4), ("_law_head", 5), ("_law_low", 6), ("_law_high", 7)]) (N := N_law_passing) (sc := C8.fnScope s_law_passing) (by decide +kernel)) (fun _ _ _ _ _ => (pg_tup rfl (pgs_cons (pg_name (i := 3) sc_law_passing.nd rfl (Or.inl rfl)) (pgs_cons (pg_name (i := 4) sc_law_passing.nd rfl (Or.inl rfl)) (pgs_cons (pg_name (i := 5) sc_law_passing.nd rfl (Or.inl rfl)) (pgs_cons (pg_name (i := 6) sc_law_passing.nd rfl (Or.inl rfl)) (pgs_cons (pg_name (i := 7) sc_law_passing.nd rfl (Or.inl rfl)) pgs_nil))))))) (fun _ _ _ _ _ => (pts_one (pt_cmpR op_eq (pv 5) (pv 2) (nomark _)))) (fun _ _ _ _ _ => (pe_dget (hu_of hr) (pv 1) (pv 3) (fun _ _ => rfl)))) pa_nil)))), ?_⟩
    refine s_ret (ev_is (ev_sumN (ns := ((ss.filter fun s => decide (s.h = k)).map (·.n)).map F) (ev_isL (el_lcO (ys := ss) (row := tupS) (ev_ixT (i := 1) (ev_var rfl) ev_c h1 rfl) ⟨as, h3, ht⟩ (by omega) (fun s => decide (s.h = k)) (fun s => .int (F s.n)) fun a y H' hy e ha => ?_) (by rw [List.map_map, List.map_map]; rfl))) (by rw [into_sum])) q
    exact ⟨[some (.ref p), some (.ref d), some (.str k), some (.str y.n), some (.str y.t), some (.str y.h), some (.int y.lo), some (.int y.hi)], fun Q q => g5 ha q, rfl, et_test (ev_eqS (ev_var rfl) (ev_var rfl)), fun _ => ev_dget (ev_var rfl) (ev_var rfl) (ex_rd e hd) (hn y hy)⟩
/-- a paper as the law holds it -/
def PapL (H : Hp) (q : Addr) (ss : List Stm) (lo hi : Str → Int) : Prop := (∃ n : Str, H q = some (.tup [.str "stream", .str n]) ∧ n ∈ ss.map (·.n) ∧ hi n < lo n) ∨ ∃ (l : Addr) (lst : List Str), H q = some (.tup [.str "lot", .ref l]) ∧ H l = some (.lst (lst.map V.str)) ∧ sortedS lst = true ∧ lst.Nodup ∧ lst.length ≤ 24 ∧ (∀ z ∈ lst, Nm z) ∧ 0 < MM.lack (lns ss) lo hi (fun v => decide (v ∈ lst))
abbrev s_law_is_none : Stmt := top 69
abbrev N_law_is_none : List Str := ["_law_plant", "_law_limits", "_law_paper"]
theorem sc_law_is_none : FnScope N_law_is_none ["_law_plant", "_law_limits", "_law_paper"] (C8.fnScope s_law_is_none) := C8.fnScope_by (by decide +kernel)

def sp_law_is_none : Sp := fun vs H Q _ => ∃ (p d r : Addr) (ks : List Str) (ss : List Stm) (ns : List Str) (lo hi : Str → Int), vs = [V.ref p, V.ref d, V.ref r] ∧ LPl H p ks ss ∧ LimAt H d ns lo hi ∧ (∀ s ∈ ss, s.n ∈ ns) ∧ PapL H r ss lo hi ∧ ∀ H', Ex H H' → Q (.bl true) H'
theorem c_law_is_none_ (T : Txt K mg aP aM aR) (D : Dn K mg "_law_is_none" s_law_is_none ["_law_plant", "_law_limits", "_law_paper"]) (c_law_lack : C8.Cal P w K mg base 1 "_law_lack" (sp_law_lack K) []) : C8.Cal P w K mg base 2 "_law_is_none" sp_law_is_none [] := by
  refine cal_of D sc_law_is_none (fun vs H Q E h => ?_) (fun f cdv A outer s H vs Q E hr h => ?_)
  · obtain ⟨p, d, r, ks, ss, ns, lo, hi, rfl, _⟩ := h
    rfl
  · obtain ⟨p, d, r, ks, ss, ns, lo, hi, rfl, hp, hd, hn, hpap, q⟩ := h
    refine ⟨_, (pss_cons (ps_if (pt_cmpR op_eq (pe_ix ix_tup (pv 2) pe_int (fun _ _ => rfl)) pe_str (nomark _)) (pss_one (ps_ret (pe_cmpR op_gt (pe_ix ix_tup (pe_dget (hu_of hr) (pv 1) (pe_ix ix_tup (pv 2) pe_int (fun _ _ => rfl)) (fun _ _ => rfl)) pe_int (fun _ _ => rfl)) (pe_ix ix_tup (pe_dget (hu_of hr) (pv 1) (pe_ix ix_tup (pv 2) pe_int (fun _ _ => rfl)) (fun _ _ => rfl)) pe_int (fun _ _ => rfl)) (nomark _)))) pss_nil)
      (pss_one (ps_ret (pe_and (pe_cmpR (op_eqD hr.units) (pe_ix ix_tup (pv 2) pe_int (fun _ _ => rfl)) (pe_callB (cr_sortSS rfl) (by rfl) T.n_sorted (by decide +kernel) (pa_cons (pe_callTy (cr_setS rfl) (by rfl) T.n_set (by decide +kernel) (pa_cons (pe_ix ix_tup (pv 2) pe_int (fun _ _ => rfl)) pa_nil)) pa_nil)) (nomark _)) (pe_one (pe_cmpR op_gt (C8.pe_c c_law_lack hr (by decide) (by rfl) (pa_cons (pv 0) (pa_cons (pv 1) (pa_cons (pe_ix ix_tup (pv 2) pe_int (fun _ _ => rfl)) pa_nil)))) pe_int (nomark _))))))), ?_⟩
    rcases hpap with ⟨n, hr', hm, hlt⟩ | ⟨l, lst, hr', hl, srt, nd, hz, hN, hpos⟩
    · obtain ⟨o, C, hd', hC⟩ := hd
      obtain ⟨s, hs, rfl⟩ := List.mem_map.mp hm
      have sn := hn s hs
      refine q_when (b := true) (et_is (et_test (ev_eqS (b := "stream") (ev_ixT (i := 0) (ev_var rfl) ev_c hr' rfl) ev_c)) (by decide +kernel)) (fun _ H1 e1 => ?_) (fun hb => nomatch hb)
      have dd : Rd H1 d (.dK (dm ns fun n => .ref (C n))) := .inr ⟨o, e1 _ _ hd'⟩
      have cc := e1 _ _ (hC _ sn)
      have r1 := e1 _ _ hr'
      refine s_ret (ev_is (ev_cmp (f := fun i j => decide (j < i)) (i := lo s.n) (j := hi s.n) (ev_ixT (i := 0) (ev_dget (m := s.n) (ev_var rfl) (ev_ixT (i := 1) (ev_var rfl) ev_c r1 rfl) dd sn) ev_c cc rfl) (ev_ixT (i := 1) (ev_dget (m := s.n) (ev_var rfl) (ev_ixT (i := 1) (ev_var rfl) ev_c r1 rfl) dd sn) ev_c cc rfl)) ?_) fun H2 e2 => q H2 (e1.trans e2)
      simp [hlt]
    · refine q_when (b := false) (et_is (et_test (ev_eqS (b := "stream") (ev_ixT (i := 0) (ev_var rfl) ev_c hr' rfl) ev_c)) (by decide +kernel)) (fun hb => nomatch hb) (fun _ H1 e1 => ?_)
      have r1 := e1 _ _ hr'
      have l1 := e1 _ _ hl
      have el : Ev (tOp (rIxT K) (tVar 2) (tC (.int 1))) (start N_law_is_none [V.ref p, V.ref d, V.ref r]) H1 (.ref l) := ev_ixT (i := 1) (ev_var rfl) ev_c r1 rfl
      refine s_ret (v := .bl true) (ev_andV (a := true) (b := true) (ev_eqL (xs := lst) (R2 := fun ys => ys.Perm lst ∧ sortedS ys = true) el (sq_of l1) ((en_sortSet (xs := lst) (U := lst) (Ev.sp el (sq_of l1)) (by omega) (by omega) fun x hx => hx).imp fun p' H' _ ⟨ys, y1, y2, y3, y4⟩ => ⟨ys, y1, (List.perm_ext_iff_of_nodup y3 nd).mpr y2, y4⟩) (fun z hz => sorted_eq hz.1.symm srt hz.2) hN) fun _ => ?_) fun H2 e2 => q H2 (e1.trans e2)
      refine ev_is (ev_cmp (f := fun i j => decide (j < i)) (i := MM.lack (lns ss) lo hi (fun v => decide (v ∈ lst))) (j := 0) (ev_call (ea_cons (ev_var rfl) (ea_cons (ev_var rfl) (ea_cons el ea_nil))) fun H2 e2 Q q E => ⟨p, d, l, ks, ss, ns, lst, lo, hi, rfl, hp.mono (e1.trans e2), hd.mono (e1.trans e2), hn, sq_of (e2 _ _ l1), q⟩) ev_c) ?_
      simp [hpos]
abbrev s_law_others : Stmt := top 70
abbrev N_law_others : List Str := ["_law_plant", "_law_lot", "_law_knot"]
theorem sc_law_others : FnScope N_law_others ["_law_plant", "_law_lot"] (C8.fnScope s_law_others) := C8.fnScope_by (by decide +kernel)

def sp_law_others (K : PySem.W.Frag) : Sp := fun vs H Q _ => ∃ (p l : Addr) (ks : List Str) (ss : List Stm) (B : List Str), vs = [V.ref p, V.ref l] ∧ LPl H p ks ss ∧ ks.length ≤ 24 ∧ SqL K H l (B.map V.str) ∧ ∀ q H' (ys : List Str), H q = none → Ex H H' → H' q = some (.lst ((ys.filter fun v => decide (v ∉ B)).map V.str)) → ys.Perm ks → sortedS ys = true → Q (.ref q) H'
theorem c_law_others_ (T : Txt K mg aP aM aR) (D : Dn K mg "_law_others" s_law_others ["_law_plant", "_law_lot"]) : C8.Cal P w K mg base 1 "_law_others" (sp_law_others K) [] := by
  refine cal_of D sc_law_others (fun vs H Q E h => ?_) (fun f cdv A outer s H vs Q E hr h => ?_)
  · obtain ⟨p, l, ks, ss, B, rfl, _⟩ := h
    rfl
  · obtain ⟨p, l, ks, ss, B, rfl, ⟨lk, ls, h1, h2, h3⟩, hz, hl, q⟩ := h
    refine ⟨_, (pss_one (ps_ret (pe_lc (own := [("_law_knot", 2)]) (g := (gName 2)) rfl sc_law_others.nd (pi_list (pe_callB cr_sortedS (by rfl) T.n_sorted (by decide +kernel) (pa_cons (pe_ix ix_tup (pv 0) pe_int (fun _ _ => rfl)) pa_nil))) (blkOk_by (own := [("_law_knot", 2)]) (N := N_law_others) (sc := C8.fnScope s_law_others) (by decide +kernel)) (fun _ _ _ _ _ => (pg_name (i := 2) sc_law_others.nd rfl (Or.inl rfl))) (fun _ _ _ _ _ => (pts_one (pt_cmpR (op_ninK K) (pv 2) (pv 1) (by rfl)))) (fun _ _ _ _ _ => (pv 2))))), ?_⟩
    exact s_retN (el_lcX (R := fun ys => ys.Perm ks ∧ sortedS ys = true) (en_sortS (ev_ixT (i := 0) (ev_var rfl) ev_c h1 rfl) (sq_of h2) (by omega)) (fun ys hy => by rw [hy.1.length_eq]; omega) (fun v => decide (v ∉ B)) fun y H' e => ⟨_, fun Q q => q, rfl, et_test (ev_ninS (ev_var rfl) (ev_var rfl) (ex_l e hl)), fun _ => ev_var rfl⟩) fun r H2 hr0 e2 ⟨ys, h2', pm, srt⟩ => q r H2 ys hr0 e2 h2' pm srt
end
end MS
set_option Elab.async false
set_option linter.all false
set_option maxRecDepth 100000
set_option maxHeartbeats 4000000
namespace MS
open PySem PySem.Spec PyProof.Rows L2 Evl
section
variable {x y : Int} {f g : Addr} {u v : V}
theorem rf_l : List.lookup ("low" : Str) (rFs x y f g u v) = some (.int x) := by unfold rFs; rw [List.lookup_cons_self]
theorem rf_h : List.lookup ("high" : Str) (rFs x y f g u v) = some (.int y) := by
  unfold rFs
  rw [List.lookup_cons, show (("high" : Str) == "low") = false by decide +kernel, List.lookup_cons_self]
theorem rf_lf : List.lookup ("low_flows" : Str) (rFs x y f g u v) = some (.ref f) := by
  unfold rFs
  rw [List.lookup_cons, show (("low_flows" : Str) == "low") = false by decide +kernel, List.lookup_cons, show (("low_flows" : Str) == "high") = false by decide +kernel, List.lookup_cons_self]
theorem rf_hf : List.lookup ("high_flows" : Str) (rFs x y f g u v) = some (.ref g) := by
  unfold rFs
  rw [List.lookup_cons, show (("high_flows" : Str) == "low") = false by decide +kernel, List.lookup_cons, show (("high_flows" : Str) == "high") = false by decide +kernel, List.lookup_cons, show (("high_flows" : Str) == "low_flows") = false by decide +kernel, List.lookup_cons_self]
theorem rf_ll : List.lookup ("low_lot" : Str) (rFs x y f g u v) = some u := by
  unfold rFs
  rw [List.lookup_cons, show (("low_lot" : Str) == "low") = false by decide +kernel, List.lookup_cons, show (("low_lot" : Str) == "high") = false by decide +kernel, List.lookup_cons, show (("low_lot" : Str) == "low_flows") = false by decide +kernel, List.lookup_cons, show (("low_lot" : Str) == "high_flows") = false by decide +kernel, List.lookup_cons_self]
theorem rf_hl : List.lookup ("high_lot" : Str) (rFs x y f g u v) = some v := by
  unfold rFs
  rw [List.lookup_cons, show (("high_lot" : Str) == "low") = false by decide +kernel, List.lookup_cons, show (("high_lot" : Str) == "high") = false by decide +kernel, List.lookup_cons, show (("high_lot" : Str) == "low_flows") = false by decide +kernel, List.lookup_cons, show (("high_lot" : Str) == "high_flows") = false by decide +kernel, List.lookup_cons, show (("high_lot" : Str) == "low_lot") = false by decide +kernel, List.lookup_cons_self]
end
section
variable {K : PySem.W.Frag} {σ : L2.St} {H : Hp} {ta tb tc te td ty tv tl : TE} {t : TT} {D : Ends} {g : TG} {tu tz : TS} {aP : Addr}
theorem ev_ixTN {xs : List V} {i : Nat} {v : V} (h : EvN ta σ H (fun q H' => H' q = some (.tup xs))) (hv : xs[i]? = some v) : Ev (tOp (rIxT K) ta (tC (.int (i : Int)))) σ H v := fun H1 e Q q =>
  h H1 e _ fun a H2 _ e2 ha => ⟨a, xs, (i : Int), v, rfl, rfl, st_of ha, atI_nat hv, q H2 e2⟩
end
/-- the law's plant with limits and flows' names -/
structure LL (H : Hp) (p d : Addr) (ks : List Str) (ss : List Stm) (ns : List Str) (lo hi : Str → Int) : Prop where
  p : LPl H p ks ss
  g : Pok ks ss
  d : LimAt H d ns lo hi
  k : Keys ns ss
theorem LL.mono {H H' : Hp} {p d : Addr} {ks : List Str} {ss : List Stm} {ns : List Str} {lo hi : Str → Int} (h : LL H p d ks ss ns lo hi) (e : Ex H H') : LL H' p d ks ss ns lo hi := ⟨h.p.mono e, h.g, h.d.mono e, h.k⟩
theorem LL.n {H : Hp} {p d : Addr} {ks : List Str} {ss : List Stm} {ns : List Str} {lo hi : Str → Int} (h : LL H p d ks ss ns lo hi) : ∀ s ∈ ss, s.n ∈ ns := fun s hs => (h.k.2 _).mpr (List.mem_map.mpr ⟨s, hs, rfl⟩)
theorem LL.good {H : Hp} {p d fl : Addr} {ks : List Str} {ss : List Stm} {ns nf : List Str} {lo hi F : Str → Int} (h : LL H p d ks ss ns lo hi) (hf : H fl = some (.dK (fd nf F))) (pm : nf.Perm ns) (g : Good ks ss lo hi F) : GoodL H p d fl ks ss ns nf lo hi F := ⟨h.p, h.g, h.d, hf, pm, h.k, fun s hs => g.1 (ln s) (List.mem_map.mpr ⟨s, hs, rfl⟩), g.2⟩
section
variable {P : Program} {w : World} {K : PySem.W.Frag} {mg : Str → Option Value} {base : Heap} {aP aM aR : Addr}
abbrev s_law_is_through : Stmt := top 71
abbrev N_law_is_through : List Str := ["_law_plant", "_law_limits", "_law_knot", "_law_told"]
theorem sc_law_is_through : FnScope N_law_is_through ["_law_plant", "_law_limits", "_law_knot", "_law_told"] (C8.fnScope s_law_is_through) := C8.fnScope_by (by decide +kernel)

def sp_law_is_through (aR : Addr) : Sp := fun vs H Q _ => ∃ (p d t : Addr) (k : Str) (ks : List Str) (ss : List Stm) (ns nf : List Str) (lo hi F G : Str → Int) (x y : Int) (L1 L2 : List Str), vs = [V.ref p, V.ref d, V.str k, V.ref t] ∧ LL H p d ks ss ns lo hi ∧ nf.Perm ns ∧ k ∈ ks ∧ RangeAt aR H t x y nf F G (some L1) (some L2) ∧ ThrR ks ss lo hi k x y F G L1 L2 ∧ ∀ H', Ex H H' → Q (.bl true) H'
theorem c_law_is_through_ (T : Txt K mg aP aM aR) (D : Dn K mg "_law_is_through" s_law_is_through ["_law_plant", "_law_limits", "_law_knot", "_law_told"]) (c_law_are_good : C8.Cal P w K mg base 3 "_law_are_good" sp_law_are_good []) (c_law_around : C8.Cal P w K mg base 1 "_law_around" (sp_law_around K) []) (c_law_passing : C8.Cal P w K mg base 1 "_law_passing" sp_law_passing []) :
    C8.Cal P w K mg base 4 "_law_is_through" (sp_law_is_through aR) [] := by
  refine cal_of D sc_law_is_through (fun vs H Q E h => ?_) (fun f cdv A outer s H vs Q E hr h => ?_)
  · obtain ⟨p, d, t, k, ks, ss, ns, nf, lo, hi, F, G, x, y, L1, L2, rfl, _⟩ := h
    rfl
  · obtain ⟨p, d, t, k, ks, ss, ns, nf, lo, hi, F, G, x, y, L1, L2, rfl, a, pm, hk, hR, th, q⟩ := h
    have sn := a.n
    have snf : ∀ s ∈ ss, s.n ∈ nf := fun s hs => pm.mem_iff.mpr (sn s hs)
    have he : ∀ l ∈ lns ss, l.t ∈ ks ∧ l.h ∈ ks := fun l hl => by
      obtain ⟨s, hs, rfl⟩ := List.mem_map.mp hl
      obtain ⟨_, h1, h2, _⟩ := a.g.sS s hs
      exact ⟨h1, h2⟩
    have hne : ∀ v ∈ ks, v ≠ eS := fun v hv => nm_ne (a.g.kN v hv)
    obtain ⟨dx, f1, f2, u, v, hx, hf1, hf2, ⟨b1, rfl, hl1⟩, ⟨b2, rfl, hl2⟩⟩ := hR
    refine ⟨_, (pss_cons (ps_if (PW.pt (pw_or (pt_not (pt_val (C8.pe_c c_law_are_good hr (by decide) (by rfl) (pa_cons (pv 0) (pa_cons (pv 1) (pa_cons (pe_fld (pv 3) rfl) pa_nil)))))) (pw_or1 (pt_not (pt_val (C8.pe_c c_law_are_good hr (by decide) (by rfl) (pa_cons (pv 0) (pa_cons (pv 1) (pa_cons (pe_fld (pv 3) rfl) pa_nil))))))))) (pss_one (ps_ret pe_bl)) pss_nil)
      (pss_cons (ps_if (PW.pt (pw_or (pt_cmpR op_ne (C8.pe_c c_law_passing hr (by decide) (by rfl) (pa_cons (pv 0) (pa_cons (pe_fld (pv 3) rfl) (pa_cons (pv 2) pa_nil)))) (pe_fld (pv 3) rfl) (nomark _)) (pw_or1 (pt_cmpR op_ne (C8.pe_c c_law_passing hr (by decide) (by rfl) (pa_cons (pv 0) (pa_cons (pe_fld (pv 3) rfl) (pa_cons (pv 2) pa_nil)))) (pe_fld (pv 3) rfl) (nomark _))))) (pss_one (ps_ret pe_bl)) pss_nil)
      (pss_cons (ps_if (pt_cmpR op_in_seq (pv 2) (pe_op op_cat (pe_fld (pv 3) rfl) (pe_fld (pv 3) rfl)) (by rfl)) (pss_one (ps_ret pe_bl)) pss_nil)
      (pss_one (ps_ret (pe_and (pe_cmpR op_eq (pe_ix ix_tup (C8.pe_c c_law_around hr (by decide) (by rfl) (pa_cons (pv 0) (pa_cons (pv 1) (pa_cons (pv 2) (pa_cons (pe_fld (pv 3) rfl) pa_nil))))) pe_int (fun _ _ => rfl)) (pe_fld (pv 3) rfl) (nomark _)) (pe_one (pe_cmpR op_eq (pe_ix ix_tup (C8.pe_c c_law_around hr (by decide) (by rfl) (pa_cons (pv 0) (pa_cons (pv 1) (pa_cons (pv 2) (pa_cons (pe_fld (pv 3) rfl) pa_nil))))) pe_int (fun _ _ => rfl)) (pe_fld (pv 3) rfl) (nomark _))))))))), ?_⟩
    rw [show start N_law_is_through [V.ref p, V.ref d, V.str k, V.ref t] = [some (.ref p), some (.ref d), some (.str k), some (.ref t)] from rfl]
    refine q_when (b := false) (et_is (et_or (a := !true) (b := !true) (et_not (et_B (ev_call (ea_cons (ev_var rfl) (ea_cons (ev_var rfl) (ea_cons (ev_fldX (ev_var rfl) hx T.cR T.r_lf rf_lf) ea_nil))) fun H1 e Q q E => ⟨p, d, f1, ks, ss, ns, nf, lo, hi, F, rfl, (a.mono e).good (e _ _ hf1) pm th.f, q⟩))) fun _ => et_not (et_B (ev_call (ea_cons (ev_var rfl) (ea_cons (ev_var rfl) (ea_cons (ev_fldX (ev_var rfl) hx T.cR T.r_hf rf_hf) ea_nil))) fun H1 e Q q E => ⟨p, d, f2, ks, ss, ns, nf, lo, hi, G, rfl, (a.mono e).good (e _ _ hf2) pm th.g, q⟩))) rfl) (fun hb => nomatch hb) fun _ H1 e1 => ?_
    have hx1 := e1 _ _ hx
    refine q_when (b := false) (et_is (et_or (a := false) (b := false) (et_is (et_test (ev_neI (a := inK ss F k) (b := x) (ev_call (ea_cons (ev_var rfl) (ea_cons (ev_fldX (ev_var rfl) hx1 T.cR T.r_lf rf_lf) (ea_cons (ev_var rfl) ea_nil))) fun H2 e Q q E => ⟨p, f1, k, ks, ss, nf, F, rfl, a.p.mono (e1.trans e), a.g.s1, .inl ((e1.trans e) _ _ hf1), snf, q⟩) (ev_fldX (ev_var rfl) hx1 T.cR T.r_l rf_l))) (by simp [th.ex])) fun _ => et_is (et_test (ev_neI (a := inK ss G k) (b := y) (ev_call (ea_cons (ev_var rfl) (ea_cons (ev_fldX (ev_var rfl) hx1 T.cR T.r_hf rf_hf) (ea_cons (ev_var rfl) ea_nil))) fun H2 e Q q E => ⟨p, f2, k, ks, ss, nf, G, rfl, a.p.mono (e1.trans e), a.g.s1, .inl ((e1.trans e) _ _ hf2), snf, q⟩) (ev_fldX (ev_var rfl) hx1 T.cR T.r_h rf_h))) (by simp [th.ey])) rfl) (fun hb => nomatch hb) fun _ H2 e2 => ?_
    have e02 := e1.trans e2
    have hx2 := e02 _ _ hx
    refine q_when (b := false) (et_is (et_test (ev_inN (xs := L1 ++ L2) (ev_var rfl) (ev_isL (el_cat2 (ev_fldX (ev_var rfl) hx2 T.cR T.r_ll rf_ll) (e02 _ _ hl1) (ev_fldX (ev_var rfl) hx2 T.cR T.r_hl rf_hl) (e02 _ _ hl2) (by rw [List.length_map, List.length_map]; have := th.z1; have := th.z2; omega)) (by rw [List.map_append])))) (by simp [th.n1, th.n2])) (fun hb => nomatch hb) fun _ H3 e3 => ?_
    have e03 := e02.trans e3
    have hx3 := e03 _ _ hx
    refine s_ret (v := .bl true) (ev_andV (a := true) (b := true) (ev_is (ev_eqI (a := MM.sm (lns ss) (fiM k L2 lo hi)) (b := y) (ev_ixTN (i := 0) (xs := [.int (MM.sm (lns ss) (fiM k L2 lo hi)), .int (MM.sm (lns ss) (fiL k L2 lo hi))]) (fun H4 e4 Q q => ?_) rfl) (ev_fldX (ev_var rfl) hx3 T.cR T.r_h rf_h)) ?_) fun _ => ev_is (ev_eqI (a := MM.sm (lns ss) (fiL k L1 lo hi)) (b := x) (ev_ixTN (i := 1) (xs := [.int (MM.sm (lns ss) (fiM k L1 lo hi)), .int (MM.sm (lns ss) (fiL k L1 lo hi))]) (fun H4 e4 Q q => ?_) rfl) (ev_fldX (ev_var rfl) hx3 T.cR T.r_l rf_l)) ?_) fun H4 e4 => q H4 (e03.trans e4)
    · have hA : EvA (tCons (tVar 0) (tCons (tVar 1) (tCons (tVar 2) (tCons (tFld K (tVar 3) "high_lot") tNil)))) [some (.ref p), some (.ref d), some (.str k), some (.ref t)] H3 [.ref p, .ref d, .str k, .ref b2] := ea_cons (ev_var rfl) (ea_cons (ev_var rfl) (ea_cons (ev_var rfl) (ea_cons (ev_fldX (ev_var rfl) hx3 T.cR T.r_hl rf_hl) ea_nil)))
      exact hA H4 e4 _ fun H5 e5 => ⟨p, d, b2, k, ks, ss, ns, L2, lo, hi, rfl, a.p.mono ((e03.trans e4).trans e5), a.d.mono ((e03.trans e4).trans e5), sn, sq_of (((e03.trans e4).trans e5) _ _ hl2), fun r H6 hr e6 h6 => q r H6 (fresh_back e5 hr) (e5.trans e6) h6⟩
    · rw [part_fiM hk hne th.s2 th.n2 he, ← th.h]; simp
    · have hA : EvA (tCons (tVar 0) (tCons (tVar 1) (tCons (tVar 2) (tCons (tFld K (tVar 3) "low_lot") tNil)))) [some (.ref p), some (.ref d), some (.str k), some (.ref t)] H3 [.ref p, .ref d, .str k, .ref b1] := ea_cons (ev_var rfl) (ea_cons (ev_var rfl) (ea_cons (ev_var rfl) (ea_cons (ev_fldX (ev_var rfl) hx3 T.cR T.r_ll rf_ll) ea_nil)))
      exact hA H4 e4 _ fun H5 e5 => ⟨p, d, b1, k, ks, ss, ns, L1, lo, hi, rfl, a.p.mono ((e03.trans e4).trans e5), a.d.mono ((e03.trans e4).trans e5), sn, sq_of (((e03.trans e4).trans e5) _ _ hl1), fun r H6 hr e6 h6 => q r H6 (fresh_back e5 hr) (e5.trans e6) h6⟩
    · rw [part_fiL hk hne th.s1 th.n1 he, ← th.l]; simp
abbrev s_law_is_end : Stmt := top 72
abbrev N_law_is_end : List Str := ["_law_plant", "_law_limits", "_law_name", "_law_number", "_law_lot", "_law_is_high", "_law_stream", "_law_one", "_law_inside_here", "_law_outside", "_law_beside_here"]
theorem sc_law_is_end : FnScope N_law_is_end ["_law_plant", "_law_limits", "_law_name", "_law_number", "_law_lot", "_law_is_high"] (C8.fnScope s_law_is_end) := C8.fnScope_by (by decide +kernel)

def sp_law_is_end : Sp := fun vs H Q _ => ∃ (p d : Addr) (s : Stm) (z : Int) (v : V) (b : Bool) (ks : List Str) (ss : List Stm) (ns : List Str) (lo hi : Str → Int) (o : Option (List Str)), vs = [V.ref p, V.ref d, V.str s.n, V.int z, v, V.bl b] ∧ LL H p d ks ss ns lo hi ∧ s ∈ ss ∧ LotAt H v o ∧ (b = false → EndL ss lo hi s z o) ∧ (b = true → EndH ss lo hi s z o) ∧ ∀ H', Ex H H' → Q (.bl true) H'
theorem c_law_is_end_ (T : Txt K mg aP aM aR) (D : Dn K mg "_law_is_end" s_law_is_end ["_law_plant", "_law_limits", "_law_name", "_law_number", "_law_lot", "_law_is_high"]) (c_law_beside : C8.Cal P w K mg base 1 "_law_beside" (sp_law_beside K) []) : C8.Cal P w K mg base 2 "_law_is_end" sp_law_is_end [] := by
  refine cal_of D sc_law_is_end (fun vs H Q E h => ?_) (fun f cdv A outer s H vs Q E hr h => ?_)
  · obtain ⟨p, d, s, z, v, b, ks, ss, ns, lo, hi, o, rfl, _⟩ := h
    rfl
  · obtain ⟨p, d, x, z, v, b, ks, ss, ns, lo, hi, o, rfl, a, hx, hlot, hL, hH, q⟩ := h
    have sn := a.n x hx
    refine ⟨_, (pss_cons (ps_if (pt_cmp (pc_isN (pv 4)) rfl) (pss_one (ps_ret (pe_cmpR op_eq (pv 3) (pe_ix ix_tup (pe_dget (hu_of hr) (pv 1) (pv 2) (fun _ _ => rfl)) (pe_callTy call_int1 (by rfl) T.n_int (by decide +kernel) (pa_cons (pv 5) pa_nil)) (fun _ _ => rfl)) (nomark _)))) pss_nil)
      (pss_cons (ps_set (i := 6) sc_law_is_end.nd rfl (Or.inl rfl) (pe_ix ix_list (pe_lc (own := [("_law_one", 7)]) (g := (gName 7)) rfl sc_law_is_end.nd (pi_list (pe_ix ix_tup (pv 0) pe_int (fun _ _ => rfl))) (blkOk_by (own := [("_law_one", 7)]) (N := N_law_is_end) (sc := C8.fnScope s_law_is_end) (by decide +kernel)) (fun _ _ _ _ _ => (pg_name (i := 7) sc_law_is_end.nd rfl (Or.inl rfl))) (fun _ _ _ _ _ => (pts_one (pt_cmpR op_eq (pe_ix (ix_tupK K) (pv 7) pe_int (fun _ _ => rfl)) (pv 2) (nomark _)))) (fun _ _ _ _ _ => (pv 7))) pe_int (fun _ _ => rfl)))
      (pss_cons (ps_asg (pe_ifExp (pt_val (pv 5)) (pe_tup (pa_cons (pe_ix ix_tup (pv 6) pe_int (fun _ _ => rfl)) (pa_cons (pe_ix ix_tup (pv 6) pe_int (fun _ _ => rfl)) pa_nil))) (pe_tup (pa_cons (pe_ix ix_tup (pv 6) pe_int (fun _ _ => rfl)) (pa_cons (pe_ix ix_tup (pv 6) pe_int (fun _ _ => rfl)) pa_nil)))) (pg_tup rfl (pgs_cons (pg_name (i := 8) sc_law_is_end.nd rfl (Or.inl rfl)) (pgs_cons (pg_name (i := 9) sc_law_is_end.nd rfl (Or.inl rfl)) pgs_nil))))
      (pss_cons (ps_set (i := 10) sc_law_is_end.nd rfl (Or.inl rfl) (C8.pe_c c_law_beside hr (by decide) (by rfl) (pa_cons (pv 0) (pa_cons (pv 1) (pa_cons (pv 2) (pa_cons (pv 4) pa_nil))))))
      (pss_one (ps_ret (pe_and (pe_cmpR op_in_seq (pv 8) (pv 4) (by rfl)) (pe_and (pe_cmpR op_notIn_seq (pv 9) (pv 4) (by rfl)) (pe_one (pe_cmpR op_eq (pv 3) (pe_ifExp (pt_val (pv 5)) (pv 10) (pe_op op_sub pe_int (pv 10))) (nomark _))))))))))), ?_⟩
    rw [show start N_law_is_end [V.ref p, V.ref d, V.str x.n, V.int z, v, V.bl b] = [some (.ref p), some (.ref d), some (.str x.n), some (.int z), some v, some (.bl b), none, none, none, none, none] from rfl]
    cases o with
    | none =>
      have hlot : v = .non := hlot
      subst hlot
      obtain ⟨oo, C, hd, hC⟩ := a.d
      refine q_when (b := true) (et_is (et_B (ev_isN (x := .non) (ev_var rfl))) (by simp)) (fun _ H1 e1 => ?_) (fun hb => nomatch hb)
      have dd : Rd H1 d (.dK (dm ns fun n => .ref (C n))) := .inr ⟨oo, e1 _ _ hd⟩
      have cc := e1 _ _ (hC _ sn)
      cases b with
      | false =>
        have hz : z = lo x.n := by
          rcases hL rfl with ⟨_, h⟩ | ⟨_, h, _⟩
          · exact h
          · cases h
        exact s_ret (ev_is (ev_eqI (a := z) (b := lo x.n) (ev_var rfl) (ev_ixT (i := 0) (ev_dget (ev_var rfl) (ev_var rfl) dd sn) (ev_is (ev_intB (b := false) (ev_var rfl)) rfl) cc rfl)) (by simp [hz])) fun H2 e2 => q H2 (e1.trans e2)
      | true =>
        have hz : z = hi x.n := by
          rcases hH rfl with ⟨_, h⟩ | ⟨_, h, _⟩
          · exact h
          · cases h
        exact s_ret (ev_is (ev_eqI (a := z) (b := hi x.n) (ev_var rfl) (ev_ixT (i := 1) (ev_dget (ev_var rfl) (ev_var rfl) dd sn) (ev_is (ev_intB (b := true) (ev_var rfl)) rfl) cc rfl)) (by simp [hz])) fun H2 e2 => q H2 (e1.trans e2)
    | some lot =>
      obtain ⟨l, rfl, hl⟩ := hlot
      refine q_when (b := false) (et_is (et_B (ev_isN (x := .ref l) (ev_var rfl))) (by simp)) (fun hb => nomatch hb) (fun _ H1 e1 => ?_)
      obtain ⟨lk, ls, h1, h2, h3⟩ := id a.p
      have s1 := a.g.s1
      have ef : ss.filter (fun s => decide (s.n = x.n)) = [x] := by
        have hlen : (ss.filter (fun s => decide (s.n = x.n))).length = 1 := by
          have := MM.key_one (ls := lns ss) (by unfold lns; rw [List.map_map]; exact a.g.sn) (l := ln x) (List.mem_map.mpr ⟨x, hx, rfl⟩)
          unfold lns at this
          rw [List.filter_map, List.length_map] at this
          exact this
        have hm : x ∈ ss.filter (fun s => decide (s.n = x.n)) := List.mem_filter.mpr ⟨hx, by simp⟩
        obtain ⟨u, hu⟩ := List.length_eq_one_iff.mp hlen
        rw [hu] at hm
        rw [hu, List.mem_singleton.mp hm]
      refine q_asgP (ep_ixN (rows := (ss.filter (fun s => decide (s.n = x.n))).map tupS) (r := tupS x) (en_lcFO (ys := ss) (row := tupS) (ev_ixT (i := 1) (ev_var rfl) ev_c (e1 _ _ h1) rfl) (h3.mono e1) (by omega) (fun s => decide (s.n = x.n)) fun b' y H' hy e hb => ⟨[some (.ref p), some (.ref d), some (.str x.n), some (.int z), some (.ref l), some (.bl b), none, some (.ref b'), none, none, none], fun Q q => q, rfl, et_test (ev_eqS (ev_ixT (i := 0) (ev_var rfl) ev_c hb rfl) (ev_var rfl)), fun _ => ev_var rfl⟩) (by rw [ef]; rfl)) fun w' H2 e2 ⟨st, hw', hst⟩ => ?_
      subst hw'
      dsimp only [List.set_cons_zero, List.set_cons_succ]
      have e02 := e1.trans e2
      have in_not : ∃ i o' : Str, i ∈ lot ∧ o' ∉ lot ∧ (if b = true then (i = x.t ∧ o' = x.h) else (i = x.h ∧ o' = x.t)) ∧ (if b = true then z = - MM.lack (oth ss x.n) lo hi (fun v => decide (v ∈ lot)) else z = MM.lack (oth ss x.n) lo hi (fun v => decide (v ∈ lot))) := by
        cases b with
        | false =>
          rcases hL rfl with ⟨h, _⟩ | ⟨l', h, k1, k2, k3⟩
          · cases h
          · cases h; exact ⟨x.h, x.t, k1, k2, ⟨rfl, rfl⟩, k3⟩
        | true =>
          rcases hH rfl with ⟨h, _⟩ | ⟨l', h, k1, k2, k3⟩
          · cases h
          · cases h; exact ⟨x.t, x.h, k1, k2, ⟨rfl, rfl⟩, k3⟩
      obtain ⟨ii, oo, i1, i2, i3, i4⟩ := in_not
      refine q_tgtU (xs := [.str ii, .str oo]) (eu_if (b := b) (et_B (ev_var rfl)) (fun hb => ?_) (fun hb => ?_)) fun tp H3 _ e3 htp => g2 htp ?_
      · subst hb
        obtain ⟨rfl, rfl⟩ := i3
        exact eu_2 (ev_ixT (i := 1) (ev_var rfl) ev_c hst rfl) (ev_ixT (i := 2) (ev_var rfl) ev_c hst rfl)
      · subst hb
        obtain ⟨rfl, rfl⟩ := i3
        exact eu_2 (ev_ixT (i := 2) (ev_var rfl) ev_c hst rfl) (ev_ixT (i := 1) (ev_var rfl) ev_c hst rfl)
      dsimp only [List.set_cons_zero, List.set_cons_succ]
      have e03 := e02.trans e3
      refine q_asg (v := .int (- MM.lack (oth ss x.n) lo hi (fun v => decide (v ∈ lot)))) (ev_call (ea_cons (ev_var rfl) (ea_cons (ev_var rfl) (ea_cons (ev_var rfl) (ea_cons (ev_var rfl) ea_nil)))) fun H4 e4 Q q E => ⟨p, d, l, x.n, ks, ss, ns, lot, lo, hi, rfl, a.p.mono (e03.trans e4), a.d.mono (e03.trans e4), a.n, sq_of ((e03.trans e4) _ _ hl), q⟩) fun H4 e4 => ?_
      dsimp only [List.set_cons_zero, List.set_cons_succ]
      generalize MM.lack (oth ss x.n) lo hi (fun v => decide (v ∈ lot)) = L at i4
      have hl4 : SqL K H4 l (lot.map V.str) := sq_of ((e03.trans e4) _ _ hl)
      refine s_ret (v := .bl true) (ev_andV (a := true) (b := true) (ev_is (ev_inS (ev_var rfl) (ev_var rfl) hl4) (by simp [i1])) fun _ => ev_andV (a := true) (b := true) (ev_is (ev_ninS (ev_var rfl) (ev_var rfl) hl4) (by simp [i2])) fun _ => ev_is (ev_eqI (a := z) (b := z) (ev_var rfl) (ev_if (b := b) (et_B (ev_var rfl)) (fun hb => ?_) (fun hb => ?_))) (by simp)) fun H5 e5 => q H5 ((e03.trans e4).trans e5)
      · subst hb
        have i4 : z = -L := i4
        exact ev_is (ev_var rfl) (by rw [i4])
      · subst hb
        have i4 : z = L := i4
        exact ev_is (ev_sub (i := 0) (j := -L) ev_c (ev_var rfl)) (by rw [i4]; congr 1; omega)
end
end MS
set_option Elab.async false
set_option linter.all false
set_option maxRecDepth 100000
set_option maxHeartbeats 4000000
namespace MS
open PySem PySem.Spec PyProof.Rows L2 Evl
/-! ### the same, the streams in another order -/
theorem lns_perm {ss ss' : List Stm} (p : ss'.Perm ss) : (lns ss').Perm (lns ss) := p.map _
theorem net_perm {ls ls' : List Ln} (p : ls'.Perm ls) (F : Str → Int) (v : Str) : MM.net ls' F v = MM.net ls F v := MM.sm_perm p _
theorem lack_perm {ls ls' : List Ln} (p : ls'.Perm ls) (lo hi : Str → Int) (B : Str → Bool) : MM.lack ls' lo hi B = MM.lack ls lo hi B := MM.sm_perm p _
theorem within_perm {ls ls' : List Ln} (p : ls'.Perm ls) {lo hi F : Str → Int} (w : MM.Within ls' lo hi F) : MM.Within ls lo hi F := fun l hl => w l (p.mem_iff.mpr hl)
theorem missing_perm {ls ls' : List Ln} (p : ls'.Perm ls) (ks : List Str) (F : Str → Int) : MM.missing ks ls' F = MM.missing ks ls F := MM.sm_congr fun v _ => by rw [net_perm p]
theorem lm_perm {ks : List Str} {ls ls' : List Ln} (p : ls'.Perm ls) {lo hi : Str → Int} {m : Int} {F : Str → Int} {l g : List Str} (h : MM.LM ks ls' lo hi m F l g) : MM.LM ks ls lo hi m F l g :=
  ⟨within_perm p h.w, by rw [h.ms, missing_perm p], by rw [← lack_perm p]; exact h.l1, by rw [← lack_perm p]; exact h.g1, fun B => by rw [← lack_perm p]; exact h.mx B, fun B hB => h.mn B (by rw [lack_perm p]; exact hB), h.fl, h.fg⟩
theorem good_perm {ks ks' : List Str} {ss ss' : List Stm} (pk : ks'.Perm ks) (p : ss'.Perm ss) {lo hi F : Str → Int} (g : Good ks' ss' lo hi F) : Good ks ss lo hi F := ⟨within_perm (lns_perm p) g.1, fun v hv => by rw [← net_perm (lns_perm p)]; exact g.2 v (pk.mem_iff.mpr hv)⟩
theorem inK_perm {ss ss' : List Stm} (p : ss'.Perm ss) (F : Str → Int) (k : Str) : inK ss' F k = inK ss F k := MM.sm_perm (lns_perm p) _
theorem part_perm {ss ss' : List Stm} (p : ss'.Perm ss) (k : Str) : (partOf ss' k).Perm (partOf ss k) := (lns_perm p).map _
theorem oth_perm {ss ss' : List Stm} (p : ss'.Perm ss) (n : Str) : (oth ss' n).Perm (oth ss n) := (lns_perm p).filter _
theorem thr_perm {ks ks' : List Str} {ss ss' : List Stm} (pk : ks'.Perm ks) (p : ss'.Perm ss) {lo hi F G : Str → Int} {k : Str} {x y : Int} {L1 L2 : List Str} (h : ThrR ks' ss' lo hi k x y F G L1 L2) : ThrR ks ss lo hi k x y F G L1 L2 :=
  ⟨good_perm pk p h.f, good_perm pk p h.g, by rw [← inK_perm p]; exact h.ex, by rw [← inK_perm p]; exact h.ey, by rw [← lack_perm (part_perm p k)]; exact h.l, by rw [← lack_perm (part_perm p k)]; exact h.h, h.n1, h.n2, fun v hv => pk.mem_iff.mp (h.s1 v hv), fun v hv => pk.mem_iff.mp (h.s2 v hv), h.z1, h.z2⟩
theorem endL_perm {ss ss' : List Stm} (p : ss'.Perm ss) {lo hi : Str → Int} {s : Stm} {x : Int} {o : Option (List Str)} (h : EndL ss' lo hi s x o) : EndL ss lo hi s x o := by
  rcases h with h | ⟨lot, h1, h2, h3, h4⟩
  · exact .inl h
  · exact .inr ⟨lot, h1, h2, h3, by rw [h4, lack_perm (oth_perm p _)]⟩
theorem endH_perm {ss ss' : List Stm} (p : ss'.Perm ss) {lo hi : Str → Int} {s : Stm} {x : Int} {o : Option (List Str)} (h : EndH ss' lo hi s x o) : EndH ss lo hi s x o := by
  rcases h with h | ⟨lot, h1, h2, h3, h4⟩
  · exact .inl h
  · exact .inr ⟨lot, h1, h2, h3, by rw [h4, lack_perm (oth_perm p _)]⟩
theorem keys_perm {ss ss' : List Stm} (p : ss'.Perm ss) (hn : (ss.map (·.n)).Nodup) : Keys (ss.map (·.n)) ss' := ⟨hn, fun n => ((p.map (·.n)).mem_iff).symm⟩
theorem keys_perm' {ss ss' : List Stm} (p : ss'.Perm ss) (hn : (ss.map (·.n)).Nodup) : Keys (ss.map (·.n)) (ss'.map turnS) := ⟨hn, fun n => by
  rw [List.map_map]
  exact ((p.map (·.n)).mem_iff).symm⟩
theorem lns_turn (ss : List Stm) : lns (ss.map turnS) = (lns ss).map MM.rev := by
  unfold lns
  rw [List.map_map, List.map_map]; rfl
theorem exists_fn : ∀ {ss : List Stm}, (ss.map (·.n)).Nodup → ∀ φ : Stm → Int, ∃ f : Str → Int, ∀ s ∈ ss, f s.n = φ s
  | [], _, _ => ⟨fun _ => 0, fun s hs => (nomatch hs)⟩
  | x :: r, h, φ => by
    obtain ⟨h1, h2⟩ := List.nodup_cons.mp (show (x.n :: r.map (·.n)).Nodup from h)
    obtain ⟨f, hf⟩ := exists_fn h2 φ
    refine ⟨fun n => if n = x.n then φ x else f n, fun s hs => ?_⟩
    rcases List.mem_cons.mp hs with z | z
    · subst z; simp
    · have : s.n ≠ x.n := fun q => h1 (q ▸ List.mem_map.mpr ⟨s, z, rfl⟩)
      simp [this, hf s z]
theorem exists_lim {ss : List Stm} (h : (ss.map (·.n)).Nodup) (rn : List Str) (nu to : Str → Int) : ∃ lo hi : Str → Int, LimR ss rn nu to lo hi := by
  obtain ⟨lo, h1⟩ := exists_fn h (loR rn nu to)
  obtain ⟨hi, h2⟩ := exists_fn h (hiR rn nu to)
  exact ⟨lo, hi, fun s hs => ⟨h1 s hs, h2 s hs⟩⟩
end MS
set_option Elab.async false
set_option linter.all false
set_option maxRecDepth 100000
set_option maxHeartbeats 4000000
namespace MS
open PySem PySem.Spec PyProof.Rows L2 Evl
section
variable {K : PySem.W.Frag} {σ : L2.St} {H : Hp} {ta tb tc te td ty tv tl : TE} {t : TT} {D : Ends} {g : TG} {tu tz : TS} {aP aM aR : Addr}
theorem en_numbers {E : XK} {tA : TA} {a : Addr} {ns : List Int} (h : EvA tA σ H [.ref a, .int 200]) (ha : SqL K H a (ns.map V.int)) (hz : ns.length ≤ 63) : EvN (tCall (sp_law_numbers K) [] E tA) σ H (fun q H' => ∃ rs : List Int, H' q = some (.lst (rs.map V.int)) ∧ rs.length = 200 ∧ Small rs) := fun H1 e Q q =>
  h H1 e _ fun H2 e2 => ⟨a, ns, rfl, ex_l (e.trans e2) ha, hz, fun q' H' rs hq' e' h1 h2 h3 => q q' H' (fresh_back e2 hq') (e2.trans e') ⟨rs, h1, h2, h3⟩⟩
theorem ep_great {E : XK} {tA : TA} {nl : Addr} {rs : List Int} (h : EvA tA σ H [.ref nl]) (h1 : H nl = some (.lst (rs.map V.int))) (h2 : rs.length = 200) (h3 : Small rs) : EvP (tCall sp_law_great [] E tA) σ H (fun v H' => ∃ (q pl fo : Addr) (ks : List Str) (ss : List Stm) (F : Str → Int), v = .ref q ∧ H' q = some (.tup [.ref pl, .ref fo]) ∧ LPl H' pl ks ss ∧ H' fo = some (.dK (fd (ss.map (·.n)) F)) ∧ Great ks ss F) :=
  ev_callX h fun H1 e Q q E => ⟨nl, rs, rfl, e _ _ h1, h2, h3, fun q' pl fo H' ks ss F e' k1 k2 k3 k4 => q _ H' e' ⟨q', pl, fo, ks, ss, F, rfl, k1, k2, k3, k4⟩⟩
theorem en_lawlim {E : XK} {tA : TA} {p r : Addr} {ks : List Str} {ss : List Stm} {rn : List Str} {nu to lo hi : Str → Int} (h : EvA tA σ H [.ref p, .ref r]) (hp : LPl H p ks ss) (hn : (ss.map (·.n)).Nodup) (hz : ss.length ≤ 60) (hr : ReadAt H r rn nu to) (hl : LimR ss rn nu to lo hi) : EvN (tCall sp_law_limits_of [] E tA) σ H (fun q H' => LimAt H' q (ss.map (·.n)) lo hi) := fun H1 e Q q =>
  h H1 e _ fun H2 e2 => ⟨p, r, ks, ss, rn, nu, to, lo, hi, rfl, hp.mono (e.trans e2), hn, hz, hr.mono (e.trans e2), hl, fun q' H' hq' e' h' => q q' H' (fresh_back e2 hq') (e2.trans e') h'⟩
theorem ep_made {E : XK} {tA : TA} {p : Addr} {ks : List Str} {ss : List Stm} (h : EvA tA σ H [.ref p]) (hp : LPl H p ks ss) (g : Pok ks ss) : EvP (tCall (sp_law_made aP) [] E tA) σ H (fun v H' => ∃ (q : Addr) (ks' : List Str) (ss' : List Stm), v = .ref q ∧ PlantAt aP H' q ks' ss' ∧ ks'.Perm ks ∧ ss'.Perm ss ∧ Wf ks' ss') :=
  ev_callX h fun H1 e Q q E => ⟨p, ks, ss, rfl, hp.mono e, g, fun q' H' ks' ss' e' k1 k2 k3 k4 => q _ H' e' ⟨q', ks', ss', rfl, k1, k2, k3, k4⟩⟩
theorem ep_told {E : XK} {tA : TA} {p r : Addr} {ks : List Str} {ss : List Stm} {rn : List Str} {nu to lo hi : Str → Int} (h : EvA tA σ H [.ref p, .ref r]) (a : PR aP H p r ks ss rn nu to lo hi) : EvP (tCall (sp_flows_of aP) [] E tA) σ H (FlowsR ks ss lo hi (ss.map (·.n))) :=
  ev_callX h fun H1 e Q q E => ⟨p, r, ks, ss, rn, nu, to, lo, hi, rfl, a.mono e, q⟩
theorem ep_paper {E : XK} {tA : TA} {p r : Addr} {ks : List Str} {ss : List Stm} {rn : List Str} {nu to lo hi : Str → Int} (h : EvA tA σ H [.ref p, .ref r]) (a : PR aP H p r ks ss rn nu to lo hi) : EvP (tCall (sp_paper_of aP) [] E tA) σ H (PaperR ks ss lo hi) :=
  ev_callX h fun H1 e Q q E => ⟨p, r, ks, ss, rn, nu, to, lo, hi, rfl, a.mono e, q⟩
theorem ep_range {E : XK} {tA : TA} {p r : Addr} {ks : List Str} {ss : List Stm} {rn : List Str} {nu to lo hi : Str → Int} {s : Stm} (h : EvA tA σ H [.ref p, .ref r, .str s.n]) (a : PR aP H p r ks ss rn nu to lo hi) (hs : s ∈ ss) (hg : ∃ F, Good ks ss lo hi F) :
    EvP (tCall (sp_range_of aP aR) [] E tA) σ H (fun v H' => ∃ (q : Addr) (x y : Int) (F G : Str → Int) (o1 o2 : Option (List Str)), v = .ref q ∧ RangeAt aR H' q x y (ss.map (·.n)) F G o1 o2 ∧ RngR ks ss lo hi s x y F G o1 o2) :=
  ev_callX h fun H1 e Q q E => ⟨p, r, ks, ss, rn, nu, to, lo, hi, s, rfl, a.mono e, hs, hg, fun q' H' x y F G o1 o2 e' k1 k2 => q _ H' e' ⟨q', x, y, F, G, o1, o2, rfl, k1, k2⟩⟩
theorem ep_thr {E : XK} {tA : TA} {p d : Addr} {ks : List Str} {ss : List Stm} {ns : List Str} {lo hi : Str → Int} {k : Str} (h : EvA tA σ H [.ref p, .ref d, .str k]) (a : PL aP H p d ks ss ns lo hi) (hk : k ∈ ks) (hg : ∃ F, Good ks ss lo hi F) :
    EvP (tCall (sp_through_of aP aR) [] E tA) σ H (fun v H' => ∃ (q : Addr) (x y : Int) (F G : Str → Int) (L1 L2 : List Str), v = .ref q ∧ RangeAt aR H' q x y ns F G (some L1) (some L2) ∧ ThrR ks ss lo hi k x y F G L1 L2) :=
  ev_callX h fun H1 e Q q E => ⟨p, d, ks, ss, ns, lo, hi, k, rfl, a.mono e, hk, hg, fun q' H' x y F G L1 L2 e' k1 k2 => q _ H' e' ⟨q', x, y, F, G, L1, L2, rfl, k1, k2⟩⟩
theorem q_parP {i j : Nat} {P1 P2 : V → Hp → Prop} (h1 : EvP ta σ H P1) (h2 : EvP tb σ H P2) (m : ∀ v H H', Ex H H' → P1 v H → P1 v H') (k : ∀ v w H1, Ex H H1 → P1 v H1 → P2 w H1 → tz D ((σ.set i (some v)).set j (some w)) H1) : tSeq (tPar i j (tCons ta (tCons tb tNil))) tz D σ H :=
  h1 H (Ex.refl _) _ fun v H1 e1 hv => h2 H1 e1 _ fun w H2 e2 hw => ⟨v, w, rfl, k v w H2 (e1.trans e2) (m v _ _ e2 hv) hw⟩
theorem et_neB {x y : V} {b1 b2 : Bool} (h1 : decide (x = .non) = b1) (h2 : decide (y = .non) = b2) (hne : b1 ≠ b2) (hx : Ev ta σ H x) (hy : Ev tb σ H y) : EvT (tTest (tOp rEq (tIsN ta) (tIsN tb))) σ H false :=
  et_is (et_test (ev_eq (ev_isN hx) (ev_isN hy) rfl)) (by rw [h1, h2]; cases b1 <;> cases b2 <;> simp_all)
/-- least_missing of a plant made on the way -/
theorem ep_least2 {E : XK} {d : Addr} {ks : List Str} {ss : List Stm} {ns : List Str} {lo hi : Str → Int} (h1 : EvN ta σ H (fun x H' => ∃ ks' ss', PlantAt aP H' x ks' ss' ∧ ks'.Perm ks ∧ ss'.Perm ss ∧ Wf ks' ss')) (h2 : Ev tb σ H (.ref d)) (hd : LimAt H d ns lo hi) (hn : ns.Nodup) (hk : ∀ n, n ∈ ns ↔ n ∈ ss.map (·.n)) :
    EvP (tCall (sp_least_missing aP aM) [] E (tCons ta (tCons tb tNil))) σ H (fun v H' => ∃ ks' ss', ks'.Perm ks ∧ ss'.Perm ss ∧ Wf ks' ss' ∧ LeastR aM ks' ss' lo hi ns v H') := fun H1 e Q q =>
  h1 H1 e _ fun x H2 _ e2 ⟨ks', ss', hp, p1, p2, wf⟩ => h2 H2 (e.trans e2) _ fun H3 e3 =>
    have e13 := e2.trans e3
    ⟨x, d, ks', ss', ns, lo, hi, rfl, hp.mono e3, wf, hd.mono (e.trans e13), ⟨hn, fun n => (hk n).trans ((p2.map (·.n)).mem_iff).symm⟩, fun n hn' hl H4 e4 => q _ H4 (e13.trans e4) ⟨ks', ss', p1, p2, wf, .inl ⟨rfl, n, hn', hl⟩⟩, fun q' H4 m F lst grt _ e4 hm hl => q _ H4 (e13.trans e4) ⟨ks', ss', p1, p2, wf, .inr ⟨q', m, F, lst, grt, rfl, hm, hl⟩⟩⟩
theorem en_others {E : XK} {tA : TA} {p l : Addr} {ks : List Str} {ss : List Stm} {B : List Str} (h : EvA tA σ H [.ref p, .ref l]) (hp : LPl H p ks ss) (hz : ks.length ≤ 24) (hl : SqL K H l (B.map V.str)) : EvN (tCall (sp_law_others K) [] E tA) σ H (fun q H' => ∃ zs : List Str, H' q = some (.lst (zs.map V.str)) ∧ ∃ ys : List Str, zs = ys.filter (fun v => decide (v ∉ B)) ∧ ys.Perm ks ∧ sortedS ys = true) := fun H1 e Q q =>
  h H1 e _ fun H2 e2 => ⟨p, l, ks, ss, B, rfl, hp.mono (e.trans e2), hz, ex_l (e.trans e2) hl, fun r H3 ys hr e3 h1 h2 h3 => q r H3 (fresh_back e2 hr) (e2.trans e3) ⟨_, h1, ys, rfl, h2, h3⟩⟩
theorem ev_lack {E : XK} {tA : TA} {p d l : Addr} {ks : List Str} {ss : List Stm} {ns B : List Str} {lo hi : Str → Int} (h : EvA tA σ H [.ref p, .ref d, .ref l]) (a : LL H p d ks ss ns lo hi) (hl : H l = some (.lst (B.map V.str))) : Ev (tCall (sp_law_lack K) [] E tA) σ H (.int (MM.lack (lns ss) lo hi (fun v => decide (v ∈ B)))) :=
  ev_call h fun H1 e Q q E => ⟨p, d, l, ks, ss, ns, B, lo, hi, rfl, a.p.mono e, a.d.mono e, a.n, sq_of (e _ _ hl), q⟩
theorem ev_good {E : XK} {tA : TA} {p d fl : Addr} {ks : List Str} {ss : List Stm} {ns nf : List Str} {lo hi F : Str → Int} (h : EvA tA σ H [.ref p, .ref d, .ref fl]) (a : LL H p d ks ss ns lo hi) (hf : H fl = some (.dK (fd nf F))) (pm : nf.Perm ns) (g : Good ks ss lo hi F) : Ev (tCall sp_law_are_good [] E tA) σ H (.bl true) :=
  ev_call h fun H1 e Q q E => ⟨p, d, fl, ks, ss, ns, nf, lo, hi, F, rfl, (a.mono e).good (e _ _ hf) pm g, q⟩
theorem ev_end {E : XK} {tA : TA} {p d : Addr} {s : Stm} {z : Int} {v : V} {b : Bool} {ks : List Str} {ss : List Stm} {ns : List Str} {lo hi : Str → Int} {o : Option (List Str)} (h : EvA tA σ H [.ref p, .ref d, .str s.n, .int z, v, .bl b]) (a : LL H p d ks ss ns lo hi) (hs : s ∈ ss) (hl : LotAt H v o) (h1 : b = false → EndL ss lo hi s z o) (h2 : b = true → EndH ss lo hi s z o) : Ev (tCall sp_law_is_end [] E tA) σ H (.bl true) :=
  ev_call h fun H1 e Q q E => ⟨p, d, s, z, v, b, ks, ss, ns, lo, hi, o, rfl, a.mono e, hs, hl.mono e, h1, h2, q⟩
/-- tuples of two ints that are the same -/
theorem ev_neU {x y : Int} (h1 : EvU ta σ H [.int x, .int y]) (h2 : EvU tb σ H [.int x, .int y]) : Ev (tOp (rNeD K) ta tb) σ H (.bl false) := fun H1 e Q q =>
  h1 H1 e _ fun a H2 _ e2 ha => h2 H2 (e.trans e2) _ fun b H3 _ e3 hb => by
    refine ⟨.tuple [.int x, .int y], .tuple [.int x, .int y], .tup (st_of (e3 _ _ ha)) (.cons (.int x) (.cons (.int y) .nil)), .tup (st_of hb) (.cons (.int x) (.cons (.int y) .nil)), ?_, ?_, ?_⟩
    · simp [SeqAt.shaped, PyData.canLay0, PyData.canLayAll0, PyData.depth, PyData.depthAll]
    · simp [SeqAt.shaped, PyData.canLay0, PyData.canLayAll0, PyData.depth, PyData.depthAll]
    · have : PyData.eqv (.tuple [.int x, .int y]) (.tuple [.int x, .int y]) = true := by simp [PyData.eqv, PyData.eqvAll]
      rw [this]
      exact q H3 (e2.trans e3)
theorem ev_call4 {sp : Sp} {E : XK} {t1 t2 t3 t4 : TE} {x1 x2 x3 z : V} {Pv : V → Hp → Prop} (h1 : Ev t1 σ H x1) (h2 : Ev t2 σ H x2) (h3 : Ev t3 σ H x3) (h4 : EvP t4 σ H Pv) (hs : ∀ v H1, Ex H H1 → Pv v H1 → ∀ Q : VK, (∀ H2, Ex H1 H2 → Q z H2) → ∀ E : XK, sp [x1, x2, x3, v] H1 Q E) : Ev (tCall sp [] E (tCons t1 (tCons t2 (tCons t3 (tCons t4 tNil))))) σ H z := fun H1 e Q q =>
  h1 H1 e _ fun H2 e2 => h2 H2 (e.trans e2) _ fun H3 e3 => h3 H3 ((e.trans e2).trans e3) _ fun H4 e4 => h4 H4 (((e.trans e2).trans e3).trans e4) _ fun v H5 e5 hv => hs v H5 ((((e.trans e2).trans e3).trans e4).trans e5) hv Q (fun H6 e6 => q H6 ((((e2.trans e3).trans e4).trans e5).trans e6)) E
theorem PapL.mono {H H' : Hp} {q : Addr} {ss : List Stm} {lo hi : Str → Int} (h : PapL H q ss lo hi) (e : Ex H H') : PapL H' q ss lo hi := by
  rcases h with ⟨n, h1, h2⟩ | ⟨l, lst, h1, h2, h3⟩
  · exact .inl ⟨n, e _ _ h1, h2⟩
  · exact .inr ⟨l, lst, e _ _ h1, e _ _ h2, h3⟩
end
end MS
set_option Elab.async false
set_option linter.all false
set_option maxRecDepth 100000
set_option maxHeartbeats 4000000
namespace MS
open PySem PySem.Spec PyProof.Rows L2 Evl
section
variable {P : Program} {w : World} {K : PySem.W.Frag} {mg : Str → Option Value} {base : Heap} {aP aM aR : Addr}
abbrev s_law : Stmt := top 73
abbrev N_law : List Str := ["_law_script", "_law_numbers_here", "_law_plant", "_law_flows", "_law_readings", "_law_k", "_law_first", "_law_moved", "_law_limits", "_law_made_here", "_law_told", "_law_paper", "_law_missing", "_law_other", "_law_name", "_law_tail", "_law_head", "_law_low", "_law_high", "_law_one", "_law_knot"]
theorem sc_law : FnScope N_law ["_law_script"] (C8.fnScope s_law) := C8.fnScope_by (by decide +kernel)

def spLaw (K : PySem.W.Frag) : Sp := fun vs H Q _ => ∃ (a : Addr) (ns : List Int), vs = [.ref a] ∧ SqL K H a (ns.map V.int) ∧ ns.length ≤ 63 ∧ ∀ H', Q (.bl true) H'
theorem fnd_of {x : Str} {st : Stmt} {ps N : List Str} {k : Nat} {sp : Sp} {f : Addr} {fd : FuncData} (D : C8.Def K mg x st f fd) (S : FnScope N ps (C8.fnScope st)) (len : ∀ vs H Q E, sp vs H Q E → vs.length = ps.length) (hb : Body P w K mg base k x st N sp) : FnOk P w K mg base C8.CX0 (k + 1) f fd ps sp := C8.fn0 D.fn S len (hb f)
theorem c_law_ {f0 : Addr} {fd0 : FuncData} (T : Txt K mg aP aM aR) (D : C8.Def K mg "law" s_law f0 fd0) (c_law_numbers : C8.Cal P w K mg base 2 "_law_numbers" (sp_law_numbers K) []) (c_law_great : C8.Cal P w K mg base 2 "_law_great" sp_law_great []) (c_law_limits_of : C8.Cal P w K mg base 1 "_law_limits_of" sp_law_limits_of []) (c_law_made : C8.Cal P w K mg base 5 "_law_made" (sp_law_made aP) [])
    (c_flows_of : C8.Cal P w K mg base 8 "flows_of" (sp_flows_of aP) []) (c_paper_of : C8.Cal P w K mg base 8 "paper_of" (sp_paper_of aP) []) (c_least_missing : C8.Cal P w K mg base 6 "least_missing" (sp_least_missing aP aM) []) (c_law_lack : C8.Cal P w K mg base 1 "_law_lack" (sp_law_lack K) []) (c_Plant : C8.Mak P w K mg base 3 "Plant" aP (sp_init aP) [])
    (c_law_others : C8.Cal P w K mg base 1 "_law_others" (sp_law_others K) []) (c_law_is_none : C8.Cal P w K mg base 2 "_law_is_none" sp_law_is_none []) (c_law_are_good : C8.Cal P w K mg base 3 "_law_are_good" sp_law_are_good []) (c_range_of : C8.Cal P w K mg base 9 "range_of" (sp_range_of aP aR) []) (c_law_is_end : C8.Cal P w K mg base 2 "_law_is_end" sp_law_is_end [])
    (c_law_is_through : C8.Cal P w K mg base 4 "_law_is_through" (sp_law_is_through aR) []) (c_through_of : C8.Cal P w K mg base 8 "through_of" (sp_through_of aP aR) []) : FnOk P w K mg base C8.CX0 10 f0 fd0 ["_law_script"] (spLaw K) := by
  refine fnd_of D sc_law (fun vs H Q E h => ?_) (fun f cdv A outer s H vs Q E hr h => ?_)
  · obtain ⟨a, ns, rfl, _⟩ := h
    rfl
  · obtain ⟨a, ns, rfl, ha, hz, q⟩ := h
    refine ⟨_, (pss_cons (ps_set (i := 1) sc_law.nd rfl (Or.inr rfl) (C8.pe_c c_law_numbers hr (by decide) (by rfl) (pa_cons (pv 0) (pa_cons pe_int pa_nil))))
      (pss_cons (ps_asg (C8.pe_c c_law_great hr (by decide) (by rfl) (pa_cons (pv 1) pa_nil)) (pg_tup rfl (pgs_cons (pg_name (i := 2) sc_law.nd rfl (Or.inr rfl)) (pgs_cons (pg_name (i := 3) sc_law.nd rfl (Or.inl rfl)) pgs_nil))))
      (pss_cons (ps_set (i := 4) sc_law.nd rfl (Or.inl rfl) pe_dnewK)
      (pss_cons (ps_for PassesOwn.never rfl (pi_range1 (by rfl) T.n_range (pa_cons (pe_callB call_len_seq (by rfl) T.n_len PySem.boot_len (pa_cons (pe_ix ix_tup (pv 2) pe_int (fun _ _ => rfl)) pa_nil)) pa_nil)) (pg_name (i := 5) sc_law.nd rfl (Or.inl rfl)) (pss_cons (ps_set (i := 6) sc_law.nd rfl (Or.inl rfl) (pe_callTy call_int1 (by rfl) T.n_int (by decide +kernel) (pa_cons (pe_ix ix_list (pv 1) (pe_op op_add pe_int (pe_op op_mod (pe_callTy call_int1 (by rfl) T.n_int (by decide +kernel) (pa_cons (pv 5) pa_nil)) pe_int)) (fun _ _ => rfl)) pa_nil)))
      (pss_one (ps_if (pt_cmpR op_eq (pe_op op_mod (pe_callTy call_int1 (by rfl) T.n_int (by decide +kernel) (pa_cons (pv 6) pa_nil)) pe_int) pe_int (nomark _)) (pss_cons (ps_set (i := 7) sc_law.nd rfl (Or.inl rfl) (pe_op op_mul pe_int (pe_callTy call_int1 (by rfl) T.n_int (by decide +kernel) (pa_cons (pe_cmpR op_eq (pe_op op_mod (pe_callTy call_int1 (by rfl) T.n_int (by decide +kernel) (pa_cons (pv 6) pa_nil)) pe_int) pe_int (nomark _)) pa_nil))))
      (pss_one (ps_dput (hu_of hr) (pv 4) (pe_ix ix_tup (pe_ix ix_list (pe_ix ix_tup (pv 2) pe_int (fun _ _ => rfl)) (pv 5) (fun _ _ => rfl)) pe_int (fun _ _ => rfl)) (pe_tup (pa_cons (pe_op op_add (pe_dget (hu_of hr) (pv 3) (pe_ix ix_tup (pe_ix ix_list (pe_ix ix_tup (pv 2) pe_int (fun _ _ => rfl)) (pv 5) (fun _ _ => rfl)) pe_int (fun _ _ => rfl)) (fun _ _ => rfl)) (pv 7)) (pa_cons (pe_op op_mod (pe_callTy call_int1 (by rfl) T.n_int (by decide +kernel) (pa_cons (pv 6) pa_nil)) pe_int) pa_nil))) rfl))) pss_nil))))
      (pss_cons (ps_set (i := 8) sc_law.nd rfl (Or.inl rfl) (C8.pe_c c_law_limits_of hr (by decide) (by rfl) (pa_cons (pv 2) (pa_cons (pv 4) pa_nil))))
      (pss_cons (ps_set (i := 9) sc_law.nd rfl (Or.inl rfl) (C8.pe_c c_law_made hr (by decide) (by rfl) (pa_cons (pv 2) pa_nil)))
      (pss_cons (ps_par (i := 10) (j := 11) (by rfl) sc_law.nd rfl rfl (by decide) rfl rfl (pa_cons (C8.pe_c c_flows_of hr (by decide) (by rfl) (pa_cons (pv 9) (pa_cons (pv 4) pa_nil))) (pa_cons (C8.pe_c c_paper_of hr (by decide) (by rfl) (pa_cons (pv 9) (pa_cons (pv 4) pa_nil))) pa_nil)) (by rfl))
      (pss_cons (ps_if (pt_cmpR op_eq (pe_cmp (pc_isN (pv 10)) rfl) (pe_cmp (pc_isN (pv 11)) rfl) (nomark _)) (pss_one (ps_ret pe_bl)) pss_nil)
      (pss_cons (ps_set (i := 12) sc_law.nd rfl (Or.inl rfl) (C8.pe_c c_least_missing hr (by decide) (by rfl) (pa_cons (pv 9) (pa_cons (pv 8) pa_nil))))
      (pss_cons (ps_if (pt_cmp (pc_notN (pv 12)) rfl) (pss_cons (ps_if (PW.pt (pw_or (pt_cmpR op_ne (C8.pe_c c_law_lack hr (by decide) (by rfl) (pa_cons (pv 2) (pa_cons (pv 8) (pa_cons (pe_fld (pv 12) rfl) pa_nil)))) (pe_fld (pv 12) rfl) (nomark _)) (pw_or1 (pt_cmpR op_ne (C8.pe_c c_law_lack hr (by decide) (by rfl) (pa_cons (pv 2) (pa_cons (pv 8) (pa_cons (pe_fld (pv 12) rfl) pa_nil)))) (pe_fld (pv 12) rfl) (nomark _))))) (pss_one (ps_ret pe_bl)) pss_nil)
      (pss_cons (ps_set (i := 13) sc_law.nd rfl (Or.inl rfl) (C8.pe_c c_least_missing hr (by decide) (by rfl) (pa_cons (C8.pe_mk c_Plant hr (by decide) (by rfl) (pa_cons (pe_callTy call_list_of (by rfl) T.n_list (by decide +kernel) (pa_cons (pe_ix ix_tup (pv 2) pe_int (fun _ _ => rfl)) pa_nil)) (pa_cons (pe_lc (own := [("_law_name", 14), ("_law_tail", 15), ("_law_head", 16), ("_law_low", 17), ("_law_high", 18)]) (g := (gTup K 5 (gCons (gName 14) (gCons (gName 15) (gCons (gName 16) (gCons (gName 17) (gCons (gName 18) gNil))))))) (tt := tYes) rfl sc_law.nd (pi_list (pe_ix ix_tup (pv 2) pe_int (fun _ _ => rfl))) (blkOk_by (own := [("_law_name", 14), ("_law_tail", 15), ("_law_head", 16), ("_law_low", 17), ("_law_high", 18)]) (N := N_law) (sc := C8.fnScope s_law) (by decide +kernel)) (fun _ _ _ _ _ => (pg_tup rfl (pgs_cons (pg_name (i := 14) sc_law.nd rfl (Or.inl rfl)) (pgs_cons (pg_name (i := 15) sc_law.nd rfl (Or.inl rfl)) (pgs_cons (pg_name (i := 16) sc_law.nd rfl (Or.inl rfl)) (pgs_cons (pg_name (i := 17) sc_law.nd rfl (Or.inl rfl)) (pgs_cons (pg_name (i := 18) sc_law.nd rfl (Or.inl rfl)) pgs_nil))))))) (fun _ _ _ _ _ => pts_nil) (fun _ _ _ _ _ => (pe_tup (pa_cons (pv 14) (pa_cons (pv 16) (pa_cons (pv 15) (pa_cons (pv 17) (pa_cons (pv 18) pa_nil)))))))) pa_nil))) (pa_cons (pv 8) pa_nil))))
      (pss_one (ps_if (PW.pt (pw_or (pt_cmpR (op_neD hr.units) (pe_fld (pv 13) rfl) (C8.pe_c c_law_others hr (by decide) (by rfl) (pa_cons (pv 2) (pa_cons (pe_fld (pv 12) rfl) pa_nil))) (nomark _)) (pw_or1 (pt_cmpR (op_neD hr.units) (pe_fld (pv 13) rfl) (C8.pe_c c_law_others hr (by decide) (by rfl) (pa_cons (pv 2) (pa_cons (pe_fld (pv 12) rfl) pa_nil))) (nomark _))))) (pss_one (ps_ret pe_bl)) pss_nil)))) pss_nil)
      (pss_cons (ps_if (pt_cmp (pc_isN (pv 10)) rfl) (pss_one (ps_ret (C8.pe_c c_law_is_none hr (by decide) (by rfl) (pa_cons (pv 2) (pa_cons (pv 8) (pa_cons (pv 11) pa_nil)))))) pss_nil)
      (pss_cons (ps_if (pt_not (pt_val (C8.pe_c c_law_are_good hr (by decide) (by rfl) (pa_cons (pv 2) (pa_cons (pv 8) (pa_cons (pv 10) pa_nil)))))) (pss_one (ps_ret pe_bl)) pss_nil)
      (pss_cons (ps_for PassesOwn.never rfl (pi_list (pe_lc (own := [("_law_k", 5)]) (g := (gName 5)) (tt := tYes) rfl sc_law.nd (pi_range1 (by rfl) T.n_range (pa_cons (pe_op op_mul pe_int (pe_callTy call_int1 (by rfl) T.n_int (by decide +kernel) (pa_cons (pe_cmpR op_gt (pe_callB call_len_seq (by rfl) T.n_len PySem.boot_len (pa_cons (pe_ix ix_tup (pv 2) pe_int (fun _ _ => rfl)) pa_nil)) pe_int (nomark _)) pa_nil))) pa_nil)) (blkOk_by (own := [("_law_k", 5)]) (N := N_law) (sc := C8.fnScope s_law) (by decide +kernel)) (fun _ _ _ _ _ => (pg_name (i := 5) sc_law.nd rfl (Or.inl rfl))) (fun _ _ _ _ _ => pts_nil) (fun _ _ _ _ _ => (pe_ix (ix_tupK K) (pe_ix (ix_listK K) (pe_ix (ix_tupK K) (pv 2) pe_int (fun _ _ => rfl)) (pe_op op_mod (pe_callTy call_int1 (by rfl) T.n_int (by decide +kernel) (pa_cons (pe_ix (ix_listK K) (pv 1) (pe_op op_add pe_int (pv 5)) (fun _ _ => rfl)) pa_nil)) (pe_callB (call_lenK K) (by rfl) T.n_len PySem.boot_len (pa_cons (pe_ix (ix_tupK K) (pv 2) pe_int (fun _ _ => rfl)) pa_nil))) (fun _ _ => rfl)) pe_int (fun _ _ => rfl))))) (pg_name (i := 14) sc_law.nd rfl (Or.inl rfl)) (pss_cons (ps_set (i := 19) sc_law.nd rfl (Or.inl rfl) (C8.pe_c c_range_of hr (by decide) (by rfl) (pa_cons (pv 9) (pa_cons (pv 4) (pa_cons (pv 14) pa_nil)))))
      (pss_cons (ps_if (PW.pt (pw_or (pt_not (pt_val (C8.pe_c c_law_are_good hr (by decide) (by rfl) (pa_cons (pv 2) (pa_cons (pv 8) (pa_cons (pe_fld (pv 19) rfl) pa_nil)))))) (pw_or1 (pt_not (pt_val (C8.pe_c c_law_are_good hr (by decide) (by rfl) (pa_cons (pv 2) (pa_cons (pv 8) (pa_cons (pe_fld (pv 19) rfl) pa_nil))))))))) (pss_one (ps_ret pe_bl)) pss_nil)
      (pss_cons (ps_if (pt_cmpR (op_neD hr.units) (pe_tup (pa_cons (pe_dget (hu_of hr) (pe_fld (pv 19) rfl) (pv 14) (fun _ _ => rfl)) (pa_cons (pe_dget (hu_of hr) (pe_fld (pv 19) rfl) (pv 14) (fun _ _ => rfl)) pa_nil))) (pe_tup (pa_cons (pe_fld (pv 19) rfl) (pa_cons (pe_fld (pv 19) rfl) pa_nil))) (nomark _)) (pss_one (ps_ret pe_bl)) pss_nil)
      (pss_one (ps_if (PW.pt (pw_or (pt_not (pt_val (C8.pe_c c_law_is_end hr (by decide) (by rfl) (pa_cons (pv 2) (pa_cons (pv 8) (pa_cons (pv 14) (pa_cons (pe_fld (pv 19) rfl) (pa_cons (pe_fld (pv 19) rfl) (pa_cons pe_bl pa_nil))))))))) (pw_or1 (pt_not (pt_val (C8.pe_c c_law_is_end hr (by decide) (by rfl) (pa_cons (pv 2) (pa_cons (pv 8) (pa_cons (pv 14) (pa_cons (pe_fld (pv 19) rfl) (pa_cons (pe_fld (pv 19) rfl) (pa_cons pe_bl pa_nil)))))))))))) (pss_one (ps_ret pe_bl)) pss_nil))))))
      (pss_cons (ps_set (i := 20) sc_law.nd rfl (Or.inl rfl) (pe_ix ix_list (pe_ix ix_tup (pv 2) pe_int (fun _ _ => rfl)) (pe_op op_mod (pe_callTy call_int1 (by rfl) T.n_int (by decide +kernel) (pa_cons (pe_ix ix_list (pv 1) pe_int (fun _ _ => rfl)) pa_nil)) (pe_callB call_len_seq (by rfl) T.n_len PySem.boot_len (pa_cons (pe_ix ix_tup (pv 2) pe_int (fun _ _ => rfl)) pa_nil))) (fun _ _ => rfl)))
      (pss_one (ps_ret (C8.pe_c c_law_is_through hr (by decide) (by rfl) (pa_cons (pv 2) (pa_cons (pv 8) (pa_cons (pv 20) (pa_cons (C8.pe_c c_through_of hr (by decide) (by rfl) (pa_cons (pv 9) (pa_cons (pv 8) (pa_cons (pv 20) pa_nil)))) pa_nil))))))))))))))))))))), ?_⟩
    rw [show start N_law [V.ref a] = [some (.ref a), none, none, none, none, none, none, none, none, none, none, none, none, none, none, none, none, none, none, none, none] from rfl]
    refine q_asgN (en_numbers (ea_cons (ev_var rfl) (ea_cons ev_c ea_nil)) ha hz) fun nl H1 _ e1 ⟨rs, hnl, hrl, hsm⟩ => ?_
    dsimp only [List.set_cons_zero, List.set_cons_succ]
    refine q_tgtP (ep_great (ea_cons (ev_var rfl) ea_nil) hnl hrl hsm) fun v H2 e2 ⟨gq, pl, fo, ks, ss, F0, hv, hgq, hpl, hfo, gr⟩ => ?_
    subst hv
    refine g2 hgq ?_
    dsimp only [List.set_cons_zero, List.set_cons_succ]
    have pk := gr.pok
    have s1 := gr.s1
    have sn := gr.sn
    have k1 := gr.k1
    have k2 := gr.k2
    refine q_asgN en_dnewK fun ro H3 r0 e3 hro => ?_
    dsimp only [List.set_cons_zero, List.set_cons_succ]
    have hpl3 := hpl.mono e3
    obtain ⟨lk, ls, p1, p2, as, p3, p4⟩ := id hpl3
    have lss := p4.ln
    have hnl3 := e3 _ _ (e2 _ _ hnl)
    have hfo3 := e3 _ _ hfo
    refine q_forR1 (n := (((as.map V.ref).length : Nat) : Int)) (ea_cons (ev_len (ev_ixT (i := 1) (ev_var rfl) ev_c p1 rfl) (sq_of p3)) ea_nil) (by rw [List.length_map]; omega) (fun i σ H' => ∃ (x y z : Option V) (rn : List Str) (B : Str → Addr) (nu to : Str → Int), σ = [some (.ref a), some (.ref nl), some (.ref pl), some (.ref fo), some (.ref ro), x, y, z, none, none, none, none, none, none, none, none, none, none, none, none, none] ∧ Ex H2 H' ∧ H' ro = some (.dK (dm rn fun n => .ref (B n))) ∧ (∀ n ∈ rn, H' (B n) = some (.tup [.int (nu n), .int (to n)])) ∧ rn.Nodup ∧ (∀ n ∈ rn, n ∈ (ss.take i).map (·.n)) ∧ ∀ n ∈ rn, (0 ≤ nu n ∧ nu n ≤ 1000000) ∧ 0 ≤ to n ∧ to n ≤ 1000000)
      (fun H4 e4 => ⟨_, _, _, [], fun _ => ro, fun _ => 0, fun _ => 0, rfl, e3.trans e4, e4 _ _ hro, fun n hn => (nomatch hn), .nil, fun n hn => (nomatch hn), fun n hn => (nomatch hn)⟩) (fun i σ H' hi h => ?_) (fun σ H' h => ?_)
    · obtain ⟨x, y, z, rn, B, nu, to, rfl, e, hrd, hB, nd, sub, ok⟩ := h
      rw [List.length_map] at hi
      dsimp only [List.set_cons_zero, List.set_cons_succ]
      have hil : i < ss.length := by omega
      have him : ((i : Nat) : Int) % 40 = ((i % 40 : Nat) : Int) := by omega
      have h200 : 142 + i % 40 < rs.length := by omega
      have hb0 := hsm _ (List.getElem_mem h200)
      refine q_asg (v := .int rs[142 + i % 40]) (ev_int (ev_num (i := 142 + i % 40) (j := 142 + (i : Int) % 40) (ev_var rfl) (ev_add (i := 142) (j := (i : Int) % 40) ev_c (ev_mod (ev_int (ev_var rfl)) ev_c (by decide))) (by omega) (e _ _ (e2 _ _ hnl)) h200)) fun H5 e5 => ?_
      dsimp only [List.set_cons_zero, List.set_cons_succ]
      generalize rs[142 + i % 40] = fr at hb0
      have e05 := e.trans e5
      obtain ⟨lk', ls', p1', p2', as', p3', p4'⟩ := hpl.mono e05
      have hsi : ss[i]? = some ss[i] := List.getElem?_eq_getElem hil
      have hsm' : ss[i] ∈ ss := List.getElem_mem hil
      generalize ss[i] = si at hsi hsm'
      obtain ⟨adr, hadr, htup⟩ := p4'.at (i := i) (r := tupS si) (by rw [List.getElem?_map, hsi]; rfl)
      have inm : si.n ∈ ss.map (·.n) := List.mem_map.mpr ⟨si, hsm', rfl⟩
      have new : si.n ∉ rn := fun z => take_new sn hsi (sub _ z)
      have et : ss.take (i + 1) = ss.take i ++ [si] := by rw [List.take_add_one, hsi]; rfl
      have evn : ∀ {σ' : L2.St} {H'' : Hp}, σ'[2]? = some (some (.ref pl)) → σ'[5]? = some (some (.int (i : Int))) → Ex H5 H'' → Ev (tOp (rIxT K) (tOp (rIxL K) (tOp (rIxT K) (tVar 2) (tC (.int 1))) (tVar 5)) (tC (.int 0))) σ' H'' (.str si.n) := fun {σ' H''} h2 h5 e' =>
        ev_ixT (i := 0) (ev_ixL (i := i) (ev_ixT (i := 1) (ev_var h2) ev_c (e' _ _ p1') rfl) (ev_var h5) (e' _ _ p3') (by rw [List.getElem?_map, hadr]; rfl)) ev_c (e' _ _ htup) rfl
      refine s_when (b := decide (fr % 3 = 0)) (et_test (ev_eqI (ev_mod (i := fr) (j := 3) (ev_int (ev_var rfl)) ev_c (by decide)) ev_c)) (fun hb H6 e6 => ?_) (fun hb H6 e6 => ?_)
      · refine q_asg (ev_mul (i := 700) (j := if decide (fr % 37 = 6) then 1 else 0) ev_c (ev_intB (ev_eqI (ev_mod (i := fr) (j := 37) (ev_int (ev_var rfl)) ev_c (by decide)) ev_c)) (cmulL (by decide) (by decide))) fun H7 e7 => ?_
        dsimp only [List.set_cons_zero, List.set_cons_succ]
        have hmv : 0 ≤ 700 * (if decide (fr % 37 = 6) then (1 : Int) else 0) ∧ 700 * (if decide (fr % 37 = 6) then (1 : Int) else 0) ≤ 700 := by split <;> omega
        generalize 700 * (if decide (fr % 37 = 6) then (1 : Int) else 0) = mv at hmv
        have e67 := e6.trans e7
        have t0 := Int.emod_nonneg fr (b := 50) (by decide)
        have t1 := Int.emod_lt_of_pos fr (b := 50) (by decide)
        have f0 := gr.f si hsm'
        have hrd7 := e67 _ _ (e5 _ _ hrd)
        refine s_dputU hrd7 (ev_var rfl) (evn rfl rfl e67) (eu_2 (ev_add (i := F0 si.n) (j := mv) (ev_dget (ev_var rfl) (evn rfl rfl e67) (.inl ((e05.trans e67) _ _ hfo)) inm) (ev_var rfl)) (ev_mod (i := fr) (j := 50) (ev_int (ev_var rfl)) ev_c (by decide))) (by
          have := MM.nodup_len nd sub
          rw [List.length_map, List.length_take] at this
          omega) fun p H8 hp8 e8 h8 => ⟨_, _, _, rn ++ [si.n], fun n => if n = si.n then p else B n, fun n => if n = si.n then F0 si.n + mv else nu n, fun n => if n = si.n then fr % 50 else to n, rfl, Ex.mut ((e05.trans e67).trans e8) r0, ?_, ?_, ?_, ?_, ?_⟩
        · rw [upd_same, putK_dm_new new]
          congr 2
          exact dm_congr fun n _ => by by_cases c : n = si.n <;> simp [c]
        · intro n hn
          by_cases c : n = si.n
          · simp only [c, if_true]
            rw [upd_ne (fun q => by rw [q, e8 _ _ hrd7] at h8; cases h8)]
            exact h8
          · have hn' : n ∈ rn := by rcases List.mem_append.mp hn with y | y; exact y; exact absurd (List.mem_singleton.mp y) c
            simp only [if_neg c]
            have := hB n hn'
            rw [upd_ne (fun q => by rw [q, hrd] at this; cases this)]
            exact e8 _ _ (e67 _ _ (e5 _ _ this))
        · exact List.nodup_append.mpr ⟨nd, by simp, fun a ha b hb' z => new (by rw [List.mem_singleton.mp hb'] at z; exact z ▸ ha)⟩
        · intro n hn
          rw [et, List.map_append]
          rcases List.mem_append.mp hn with y | y
          · exact List.mem_append_left _ (sub n y)
          · exact List.mem_append_right _ (by rw [List.mem_singleton.mp y]; exact List.mem_singleton.mpr rfl)
        · intro n hn
          by_cases c : n = si.n
          · simp only [c, if_true]
            omega
          · have hn' : n ∈ rn := by rcases List.mem_append.mp hn with y | y; exact y; exact absurd (List.mem_singleton.mp y) c
            simp only [if_neg c]
            exact ok n hn'
      · refine ⟨_, _, _, rn, B, nu, to, rfl, e05.trans e6, e6 _ _ (e5 _ _ hrd), fun n hn => e6 _ _ (e5 _ _ (hB n hn)), nd, fun n hn => ?_, ok⟩
        rw [et, List.map_append]
        exact List.mem_append_left _ (sub n hn)
    obtain ⟨x5, x6, x7, rn, B, nu, to, rfl, e, hrd, hB, nd, sub, ok⟩ := h
    rw [List.length_map, Int.toNat_natCast, lss, List.take_length] at sub
    have hRd : ReadAt H' ro rn nu to := ⟨B, .inl hrd, hB⟩
    obtain ⟨lo, hi, hlim⟩ := exists_lim sn rn nu to
    have hpl' := hpl.mono e
    refine q_asgN (en_lawlim (ea_cons (ev_var rfl) (ea_cons (ev_var rfl) ea_nil)) hpl' sn s1 hRd hlim) fun lm H4 _ e4 hlm => ?_
    dsimp only [List.set_cons_zero, List.set_cons_succ]
    refine q_asgP (ep_made (aP := aP) (ea_cons (ev_var rfl) ea_nil) (hpl'.mono e4) pk) fun v H5 e5 ⟨md, ks', ss', hv, hmd, pk', ps', wf⟩ => ?_
    subst hv
    dsimp only [List.set_cons_zero, List.set_cons_succ]
    have e45 := e4.trans e5
    have hPR : PR aP H5 md ro ks' ss' rn nu to lo hi := ⟨hmd, wf, hRd.mono e45, ⟨fun n hn => (ps'.map (·.n)).mem_iff.mpr (sub n hn), nd, ok⟩, fun s hs => hlim s (ps'.mem_iff.mp hs)⟩
    have hPL : PL aP H5 md lm ks' ss' (ss.map (·.n)) lo hi := ⟨hmd, wf, hlm.mono e5, keys_perm ps' sn⟩
    have hLL : LL H5 pl lm ks ss (ss.map (·.n)) lo hi := ⟨hpl'.mono e45, pk, hlm.mono e5, ⟨sn, fun n => Iff.rfl⟩⟩
    have hnl5 : H5 nl = some (.lst (rs.map V.int)) := (e.trans e45) _ _ (e2 _ _ hnl)
    clear hmd hRd hrd hB hlm
    refine q_parP (ep_told (ea_cons (ev_var rfl) (ea_cons (ev_var rfl) ea_nil)) hPR) (ep_paper (ea_cons (ev_var rfl) (ea_cons (ev_var rfl) ea_nil)) hPR) (fun v H H' e h => h.mono e) fun told pap H6 e6 hT hP => ?_
    dsimp only [List.set_cons_zero, List.set_cons_succ]
    have nmS : ∀ z ∈ ks', Nm z := fun z hz => wf.kN z hz
    have both : (told = .non ∧ ∃ q, pap = .ref q ∧ PapL H6 q ss lo hi) ∨ (pap = .non ∧ ∃ fl F, told = .ref fl ∧ H6 fl = some (.dK (fd (ss'.map (·.n)) F)) ∧ Good ks' ss' lo hi F) := by
      rcases hT with ⟨h1, hb⟩ | ⟨fl, F, h1, h2, h3⟩
      · rcases hP with ⟨_, F, g⟩ | ⟨q, n, h4, h5, h6, h7⟩ | ⟨q, l, lst, h4, h5, h6, h7, h8, h9, h10, h11, _⟩
        · exact absurd g fun g => hb.not wf g
        · exact .inl ⟨h1, q, h4, .inl ⟨n, h5, (ps'.map (·.n)).mem_iff.mp h6, h7⟩⟩
        · exact .inl ⟨h1, q, h4, .inr ⟨l, lst, h5, h6, h7, h8, h9, fun z hz => nmS z (h10 z hz), by rw [← lack_perm (lns_perm ps')]; exact h11⟩⟩
      · rcases hP with ⟨h4, _⟩ | ⟨q, n, h4, h5, h6, h7⟩ | ⟨q, l, lst, h4, h5, h6, h7, h8, h9, h10, h11, hb⟩
        · exact .inr ⟨h4, fl, F, h1, h2, h3⟩
        · exact absurd h3 fun g => (show Bad ks' ss' lo hi from .inl ⟨n, h6, h7⟩).not wf g
        · exact absurd h3 fun g => hb.not wf g
    -- if (told is None) == (paper is None)
    refine q_when (b := false) ?_ (fun hb => nomatch hb) fun _ H7 e7 => ?_
    · rcases both with ⟨rfl, q', rfl, _⟩ | ⟨rfl, fl, F, rfl, _⟩
      · exact et_neB (b1 := true) (b2 := false) (by simp) (by simp) (by decide) (ev_var rfl) (ev_var rfl)
      · exact et_neB (b1 := false) (b2 := true) (by simp) (by simp) (by decide) (ev_var rfl) (ev_var rfl)
    clear hT hP
    have e57 := e6.trans e7
    refine q_asgP (ep_least (aM := aM) (ea_cons (ev_var rfl) (ea_cons (ev_var rfl) ea_nil)) (hPL.mono e57)) fun mi H8 e8 hM => ?_
    dsimp only [List.set_cons_zero, List.set_cons_succ]
    have e58 := e57.trans e8
    refine q_ifJ (J := fun σ' H'' => ∃ v13, σ' = [some (.ref a), some (.ref nl), some (.ref pl), some (.ref fo), some (.ref ro), x5, x6, x7, some (.ref lm), some (.ref md), some told, some pap, some mi, v13, none, none, none, none, none, none, none] ∧ Ex H8 H'') (b := !decide (mi = .non)) (et_B (ev_notN (ev_var rfl))) (fun hb H9 e9 D' kk => ?_) (fun hb H9 e9 => ⟨_, rfl, e9⟩) fun σ9 H9 h9 => ?_
    · rcases hM with ⟨rfl, _⟩ | ⟨mx, m, Fm, lst, grt, rfl, ⟨dx, ff, la, lb, hx, hf, h1, h2⟩, LMA⟩
      · simp at hb
      have hx9 := e9 _ _ hx
      have hLL9 := (hLL.mono e58).mono e9
      refine q_when (b := false) (et_is (et_or (a := false) (b := false) (et_is (et_test (ev_neI (a := MM.lack (lns ss) lo hi (fun v => decide (v ∈ lst))) (b := m) (ev_lack (ea_cons (ev_var rfl) (ea_cons (ev_var rfl) (ea_cons (ev_fldX (ev_var rfl) hx9 T.cM T.m_l mf_l) ea_nil))) hLL9 (e9 _ _ h1)) (ev_fldX (ev_var rfl) hx9 T.cM T.m_n mf_n))) (by rw [← lack_perm (lns_perm ps'), LMA.l1]; simp)) fun _ => et_is (et_test (ev_neI (a := MM.lack (lns ss) lo hi (fun v => decide (v ∈ grt))) (b := m) (ev_lack (ea_cons (ev_var rfl) (ea_cons (ev_var rfl) (ea_cons (ev_fldX (ev_var rfl) hx9 T.cM T.m_g mf_g) ea_nil))) hLL9 (e9 _ _ h2)) (ev_fldX (ev_var rfl) hx9 T.cM T.m_n mf_n))) (by rw [← lack_perm (lns_perm ps'), LMA.g1]; simp)) rfl) (fun hb => nomatch hb) fun _ H10 e10 => ?_
      have e810 := e9.trans e10
      have hLL10 := hLL9.mono e10
      obtain ⟨lk2, ls2, q1, q2, q3⟩ := hLL10.p
      refine q_asgP (ep_least2 (aP := aP) (aM := aM) (ks := ks) (ss := ss.map turnS) (ns := ss.map (·.n)) (en_mkPlant (el_list (ev_ixT (i := 0) (ev_var rfl) ev_c q1 rfl) (sq_of q2)) (EvN.imp (en_lcTO (ys := ss) (row := tupS) (ev_ixT (i := 1) (ev_var rfl) ev_c q1 rfl) q3 (by omega) (fun _ => true) (fun s => tupS (turnS s)) ?_) fun l H' _ h => ?_) pk.turn) (ev_var rfl) hLL10.d sn (fun n => by rw [List.map_map]; exact Iff.rfl)) fun ot H11 e11 ⟨ks2, ss2, pk2, ps2, wf2, hO⟩ => ?_
      · exact fun b y H' hy e hb => ⟨[some (.ref a), some (.ref nl), some (.ref pl), some (.ref fo), some (.ref ro), x5, x6, x7, some (.ref lm), some (.ref md), some told, some pap, some (.ref mx), none, some (.str y.n), some (.str y.t), some (.str y.h), some (.int y.lo), some (.int y.hi), none, none], fun Q q => g5 hb q, rfl, et_yes, fun _ => eu_tup (ea_cons (ev_var rfl) (ea_cons (ev_var rfl) (ea_cons (ev_var rfl) (ea_cons (ev_var rfl) (ea_cons (ev_var rfl) ea_nil))))) (by show 5 ≤ 100000; decide)⟩
      · rw [all_map] at h
        rw [List.map_map]
        exact h
      dsimp only [List.set_cons_zero, List.set_cons_succ]
      have ek2 : ks2 = ks' := sorted_eq (pk2.trans pk'.symm) wf2.srt wf.srt
      subst ek2
      have pT : (lns ss2).Perm ((lns ss').map MM.rev) := (lns_perm ps2).trans (by rw [lns_turn]; exact ((lns_perm ps').map MM.rev).symm)
      rcases hO with ⟨rfl, n, hn, hlt⟩ | ⟨y, m2, F2, l2, g2l, rfl, ⟨dy, ff2, la2, lb2, hy, hf2, h12, h22⟩, LMB⟩
      · exfalso
        have : n ∈ ss'.map (·.n) := by
          have h1 := (ps2.map (·.n)).mem_iff.mp hn
          rw [List.map_map] at h1
          exact (ps'.map (·.n)).mem_iff.mpr h1
        obtain ⟨s, hs, rfl⟩ := List.mem_map.mp this
        have hw := LMA.w (ln s) (List.mem_map.mpr ⟨s, hs, rfl⟩)
        have hw : lo s.n ≤ Fm s.n ∧ Fm s.n ≤ hi s.n := hw
        omega
      obtain ⟨t1, t2⟩ := MM.turned (wf_he wf) LMA (lm_perm pT LMB)
      have e811 := e810.trans e11
      have hx11 := e811 _ _ hx
      have hp11 := hLL10.p.mono e11
      refine s_when (b := false) (et_is (et_or (a := false) (b := false) (et_test (ev_neLv (xs := l2) (R2 := fun zs => ∃ ys : List Str, zs = ys.filter (fun v => decide (v ∉ grt)) ∧ ys.Perm ks ∧ sortedS ys = true) (ev_fldX (ev_var rfl) hy T.cM T.m_l mf_l) (sq_of h12) (en_others (ea_cons (ev_var rfl) (ea_cons (ev_fldX (ev_var rfl) hx11 T.cM T.m_g mf_g) ea_nil)) hp11 k2 (sq_of (e811 _ _ h2))) (fun z ⟨ys, hz, pm, srt⟩ => ?_) (fun z hz => ?_))) fun _ => et_test (ev_neLv (xs := g2l) (R2 := fun zs => ∃ ys : List Str, zs = ys.filter (fun v => decide (v ∉ lst)) ∧ ys.Perm ks ∧ sortedS ys = true) (ev_fldX (ev_var rfl) hy T.cM T.m_g mf_g) (sq_of h22) (en_others (ea_cons (ev_var rfl) (ea_cons (ev_fldX (ev_var rfl) hx11 T.cM T.m_l mf_l) ea_nil)) hp11 k2 (sq_of (e811 _ _ h1))) (fun z ⟨ys, hz, pm, srt⟩ => ?_) (fun z hz => ?_))) rfl) (fun hb => nomatch hb) fun _ H12 e12 => kk _ _ ⟨_, rfl, e811.trans e12⟩
      · rw [hz, t1, sorted_eq (pm.trans pk'.symm) srt wf.srt]
      · rw [t1] at hz; exact nmS z (List.mem_filter.mp hz).1
      · rw [hz, t2, sorted_eq (pm.trans pk'.symm) srt wf.srt]
      · rw [t2] at hz; exact nmS z (List.mem_filter.mp hz).1
    obtain ⟨v13, rfl, e9⟩ := h9
    have e59 := e58.trans e9
    have hLL9 := hLL.mono e59
    rcases both with ⟨rfl, pq, rfl, hpap⟩ | ⟨rfl, fl, F, rfl, hfl, g⟩
    · refine q_when (b := true) (et_is (et_B (ev_isN (x := .non) (ev_var rfl))) (by simp)) (fun _ H10 e10 => ?_) (fun hb => nomatch hb)
      exact s_ret (ev_call (ea_cons (ev_var rfl) (ea_cons (ev_var rfl) (ea_cons (ev_var rfl) ea_nil))) fun H11 e11 Q q E => ⟨pl, lm, pq, ks, ss, ss.map (·.n), lo, hi, rfl, hLL9.p.mono (e10.trans e11), hLL9.d.mono (e10.trans e11), hLL9.n, hpap.mono ((((e7.trans e8).trans e9).trans e10).trans e11), q⟩) fun H11 _ => q H11
    refine q_when (b := false) (et_is (et_B (ev_isN (x := .ref fl) (ev_var rfl))) (by simp)) (fun hb => nomatch hb) fun _ H10 e10 => ?_
    have hLL10 := hLL9.mono e10
    have e510 := e59.trans e10
    have pmn : (ss'.map (·.n)).Perm (ss.map (·.n)) := ps'.map _
    refine q_when (b := false) (et_is (et_not (a := true) (et_B (ev_good (ea_cons (ev_var rfl) (ea_cons (ev_var rfl) (ea_cons (ev_var rfl) ea_nil))) hLL10 (((e7.trans e8).trans (e9.trans e10)) _ _ hfl) pmn (good_perm pk' ps' g)))) rfl) (fun hb => nomatch hb) fun _ H11 e11 => ?_
    have hLL11 := hLL10.mono e11
    have e511 := e510.trans e11
    obtain ⟨lk3, ls3, w1, w2, as3, w3, w4⟩ := id hLL11.p
    have l3 := w4.ln
    have hnl11 : H11 nl = some (.lst (rs.map V.int)) := e511 _ _ hnl5
    have hgex : ∃ F, Good ks' ss' lo hi F := ⟨F, g⟩
    have hmul : (4 : Int) * (if decide (0 < ((as3.map V.ref).length : Int)) then 1 else 0) = if 0 < ss.length then 4 else 0 := by
      rw [List.length_map, l3]
      by_cases c : 0 < ss.length
      · have : (0 : Int) < ((ss.length : Nat) : Int) := by omega
        simp [c, this]
      · have : ss.length = 0 := by omega
        simp [this]
    refine q_forNL (xs := (List.range (if 0 < ss.length then (4 : Int) else 0).toNat).map fun k : Nat => V.str ((ss.map (·.n)).getD (rs.getD (185 + k) 0 % ((ss.length : Nat) : Int)).toNat eS)) (ev_isL (el_lc (ei_range (n := if 0 < ss.length then (4 : Int) else 0) (ea_cons (ev_is (ev_mul (i := 4) (j := if decide (0 < ((as3.map V.ref).length : Int)) then 1 else 0) ev_c (ev_intB (b := decide (0 < ((as3.map V.ref).length : Int))) (ev_cmp (f := fun i j => decide (j < i)) (ev_len (ev_ixT (i := 1) (ev_var rfl) ev_c w1 rfl) (sq_of w3)) ev_c)) (cmulL (by decide) (by decide))) (by rw [hmul])) ea_nil) (by split <;> omega) (by split <;> omega)) (ys := List.range (if 0 < ss.length then (4 : Int) else 0).toNat) (by rw [List.length_map]) (by rw [List.length_map, List.length_range]; split <;> decide) (fun _ => true) (fun k : Nat => V.str ((ss.map (·.n)).getD (rs.getD (185 + k) 0 % ((ss.length : Nat) : Int)).toNat eS)) ?_) (by rw [all_map])) (fun p i σ H' => ∃ v14 v19, σ = [some (.ref a), some (.ref nl), some (.ref pl), some (.ref fo), some (.ref ro), x5, x6, x7, some (.ref lm), some (.ref md), some (.ref fl), some .non, some mi, v13, v14, none, none, none, none, v19, none] ∧ Ex H11 H' ∧ H' p = some (.lst ((List.range (if 0 < ss.length then (4 : Int) else 0).toNat).map fun k : Nat => V.str ((ss.map (·.n)).getD (rs.getD (185 + k) 0 % ((ss.length : Nat) : Int)).toNat eS)))) (fun p H12 _ e12 hp => ⟨_, _, rfl, e12, hp⟩) (fun p i σ H' _ ⟨_, _, _, _, h⟩ => sq_of h) (fun p i v σ H12 hv h => ?_) (fun p σ H12 h => ?_)
    · intro i x y H' hx hy e'
      rw [List.getElem?_map, hy] at hx
      have hx : V.int (y : Int) = x := Option.some.inj hx
      subst hx
      have hyr := List.mem_range.mp (List.mem_of_getElem? hy)
      have hpos : 0 < ss.length := by
        by_cases c : 0 < ss.length
        · exact c
        · rw [if_neg c] at hyr; exact absurd hyr (by simp)
      rw [if_pos hpos] at hyr
      have y4 : y < 4 := by have : (4 : Int).toNat = 4 := rfl; omega
      have h200 : 185 + y < rs.length := by omega
      have em : rs.getD (185 + y) 0 = rs[185 + y] := by rw [List.getD_eq_getElem?_getD, List.getElem?_eq_getElem h200]; rfl
      rw [em]
      generalize hrv : rs[185 + y] = rv
      have f0 := Int.emod_nonneg rv (b := ((ss.length : Nat) : Int)) (by omega)
      have f1 := Int.emod_lt_of_pos rv (b := ((ss.length : Nat) : Int)) (by omega)
      have hidx : (rv % ((ss.length : Nat) : Int)).toNat < ss.length := by omega
      obtain ⟨adr, hadr, htup⟩ := w4.at (i := (rv % ((ss.length : Nat) : Int)).toNat) (r := tupS ss[(rv % ((ss.length : Nat) : Int)).toNat]) (by rw [List.getElem?_map, List.getElem?_eq_getElem hidx]; rfl)
      have en : (ss.map (·.n)).getD (rv % ((ss.length : Nat) : Int)).toNat eS = (ss[(rv % ((ss.length : Nat) : Int)).toNat]).n := by
        rw [List.getD_eq_getElem?_getD, List.getElem?_map, List.getElem?_eq_getElem hidx]; rfl
      rw [en]
      refine ⟨[some (.ref a), some (.ref nl), some (.ref pl), some (.ref fo), some (.ref ro), some (.int (y : Int)), x6, x7, some (.ref lm), some (.ref md), some (.ref fl), some .non, some mi, v13, none, none, none, none, none, none, none], fun Q q => q, rfl, et_yes, fun _ => ?_⟩
      refine ev_ixT (i := 0) (ev_ixL (i := (rv % ((ss.length : Nat) : Int)).toNat) (ev_ixT (i := 1) (ev_var rfl) ev_c (e' _ _ w1) rfl) (ev_is (ev_mod (i := rv) (j := (((as3.map V.ref).length : Nat) : Int)) (ev_int (ev_is (ev_num (i := 185 + y) (j := 185 + (y : Int)) (ev_var rfl) (ev_add (i := 185) (j := (y : Int)) ev_c (ev_var rfl)) (by omega) (e' _ _ hnl11) h200) (by rw [hrv]))) (ev_len (ev_ixT (i := 1) (ev_var rfl) ev_c (e' _ _ w1) rfl) (sq_of (e' _ _ w3))) (by rw [List.length_map]; omega)) ?_) (e' _ _ w3) (by rw [List.getElem?_map, hadr]; rfl)) ev_c (e' _ _ htup) rfl
      rw [List.length_map, l3]
      congr 1
      omega
    · obtain ⟨v14, v19, rfl, e12, hp⟩ := h
      rw [List.getElem?_map] at hv
      cases hk : (List.range (if 0 < ss.length then (4 : Int) else 0).toNat)[i]? with
      | none => rw [hk] at hv; cases hv
      | some k =>
        rw [hk] at hv
        have hv : V.str ((ss.map (·.n)).getD (rs.getD (185 + k) 0 % ((ss.length : Nat) : Int)).toNat eS) = v := Option.some.inj hv
        have hkr := List.mem_range.mp (List.mem_of_getElem? hk)
        have hpos : 0 < ss.length := by
          by_cases c : 0 < ss.length
          · exact c
          · rw [if_neg c] at hkr; exact absurd hkr (by simp)
        generalize rs.getD (185 + k) 0 = rv at hv
        have f0 := Int.emod_nonneg rv (b := ((ss.length : Nat) : Int)) (by omega)
        have f1 := Int.emod_lt_of_pos rv (b := ((ss.length : Nat) : Int)) (by omega)
        have hidx : (rv % ((ss.length : Nat) : Int)).toNat < ss.length := by omega
        have en : (ss.map (·.n)).getD (rv % ((ss.length : Nat) : Int)).toNat eS = (ss[(rv % ((ss.length : Nat) : Int)).toNat]).n := by
          rw [List.getD_eq_getElem?_getD, List.getElem?_map, List.getElem?_eq_getElem hidx]; rfl
        rw [en] at hv
        have sm := List.getElem_mem hidx
        generalize ss[(rv % ((ss.length : Nat) : Int)).toNat] = s at hv sm
        subst hv
        dsimp only [List.set_cons_zero, List.set_cons_succ]
        have e512 := e511.trans e12
        refine q_asgP (ep_range (aR := aR) (s := s) (ea_cons (ev_var rfl) (ea_cons (ev_var rfl) (ea_cons (ev_var rfl) ea_nil))) (hPR.mono e512) (ps'.mem_iff.mpr sm) hgex) fun on H13 e13 ⟨x, lwv, hgv, FL, FH, o1, o2, hon, hR, RR⟩ => ?_
        subst hon
        dsimp only [List.set_cons_zero, List.set_cons_succ]
        obtain ⟨dx, f1a, f2a, u, v, hx, hf1, hf2, hl1, hl2⟩ := hR
        have hLL13 := (hLL11.mono e12).mono e13
        have snn : s.n ∈ ss'.map (·.n) := pmn.mem_iff.mpr (List.mem_map.mpr ⟨s, sm, rfl⟩)
        refine q_when (b := false) (et_is (et_or (a := !true) (b := !true) (et_not (et_B (ev_good (ea_cons (ev_var rfl) (ea_cons (ev_var rfl) (ea_cons (ev_fldX (ev_var rfl) hx T.cR T.r_lf rf_lf) ea_nil))) hLL13 hf1 pmn (good_perm pk' ps' RR.f)))) fun _ => et_not (et_B (ev_good (ea_cons (ev_var rfl) (ea_cons (ev_var rfl) (ea_cons (ev_fldX (ev_var rfl) hx T.cR T.r_hf rf_hf) ea_nil))) hLL13 hf2 pmn (good_perm pk' ps' RR.g)))) rfl) (fun hb => nomatch hb) fun _ H14 e14 => ?_
        have hx14 := e14 _ _ hx
        refine q_when (b := false) (et_test (ev_neU (x := lwv) (y := hgv) (eu_2 (ev_is (ev_dget (ev_fldX (ev_var rfl) hx14 T.cR T.r_lf rf_lf) (ev_var rfl) (.inl (e14 _ _ hf1)) snn) (by rw [RR.fx])) (ev_is (ev_dget (ev_fldX (ev_var rfl) hx14 T.cR T.r_hf rf_hf) (ev_var rfl) (.inl (e14 _ _ hf2)) snn) (by rw [RR.gy]))) (eu_2 (ev_fldX (ev_var rfl) hx14 T.cR T.r_l rf_l) (ev_fldX (ev_var rfl) hx14 T.cR T.r_h rf_h)))) (fun hb => nomatch hb) fun _ H15 e15 => ?_
        have hx15 := e15 _ _ hx14
        have hLL15 := (hLL13.mono e14).mono e15
        refine s_when (b := false) (et_is (et_or (a := !true) (b := !true) (et_not (et_B (ev_end (s := s) (z := lwv) (v := u) (b := false) (o := o1) (ea_cons (ev_var rfl) (ea_cons (ev_var rfl) (ea_cons (ev_var rfl) (ea_cons (ev_fldX (ev_var rfl) hx15 T.cR T.r_l rf_l) (ea_cons (ev_fldX (ev_var rfl) hx15 T.cR T.r_ll rf_ll) (ea_cons ev_c ea_nil)))))) hLL15 sm (hl1.mono (e14.trans e15)) (fun _ => endL_perm ps' RR.l) (fun hb => nomatch hb)))) fun _ => et_not (et_B (ev_end (s := s) (z := hgv) (v := v) (b := true) (o := o2) (ea_cons (ev_var rfl) (ea_cons (ev_var rfl) (ea_cons (ev_var rfl) (ea_cons (ev_fldX (ev_var rfl) hx15 T.cR T.r_h rf_h) (ea_cons (ev_fldX (ev_var rfl) hx15 T.cR T.r_hl rf_hl) (ea_cons ev_c ea_nil)))))) hLL15 sm (hl2.mono (e14.trans e15)) (fun hb => nomatch hb) (fun _ => endH_perm ps' RR.h)))) rfl) (fun hb => nomatch hb) fun _ H16 e16 => ⟨_, _, rfl, ((e12.trans e13).trans (e14.trans e15)).trans e16, (((e13.trans e14).trans e15).trans e16) _ _ hp⟩
    · obtain ⟨v14, v19, rfl, e12, hp⟩ := h
      have e512 := e511.trans e12
      have hLL12 := hLL11.mono e12
      obtain ⟨lk4, ls4, z1, z2, z3⟩ := id hLL12.p
      have h190 : 190 < rs.length := by omega
      obtain ⟨kn, knm, hkn⟩ := ev_pickS (K := K) (ta := tOp (rIxT K) (tVar 2) (tC (.int 0))) (tb := tOp (rI (fun _ j => 0 < j) fun i j => .int (i % j)) (tCB (fun xs H Q => (∃ i, xs = [.int i] ∧ Q (.int i) H) ∨ ∃ k, xs = [.bl k] ∧ Q (.int (if k then 1 else 0)) H) (tCons (tOp (rIxL K) (tVar 1) (tC (.int 190))) tNil)) (tCB (rLenS K) (tCons (tOp (rIxT K) (tVar 2) (tC (.int 0))) tNil))) (σ := [some (.ref a), some (.ref nl), some (.ref pl), some (.ref fo), some (.ref ro), x5, x6, x7, some (.ref lm), some (.ref md), some (.ref fl), some .non, some mi, v13, v14, none, none, none, none, v19, none]) (H := H12) (l := lk4) (xs := ks) (j := rs[190]) (ev_ixT (i := 0) (ev_var rfl) ev_c z1 rfl) (ev_mod (ev_int (ev_num (i := 190) (j := 190) (ev_var rfl) ev_c rfl (e512 _ _ hnl5) h190)) (ev_len (ev_ixT (i := 0) (ev_var rfl) ev_c z1 rfl) (sq_of z2)) (by rw [List.length_map]; omega)) z2 (by omega)
      refine q_asg hkn fun H13 e13 => ?_
      dsimp only [List.set_cons_zero, List.set_cons_succ]
      have knk : kn ∈ ks' := pk'.mem_iff.mpr knm
      refine s_ret (v := .bl true) (ev_call4 (x1 := .ref pl) (x2 := .ref lm) (x3 := .str kn) (ev_var rfl) (ev_var rfl) (ev_var rfl) (ep_thr (aR := aR) (k := kn) (ea_cons (ev_var rfl) (ea_cons (ev_var rfl) (ea_cons (ev_var rfl) ea_nil))) (hPL.mono (e512.trans e13)) knk hgex) fun v H14 e14 ⟨q', x, y, FL, FH, L1, L2, hv, hR, th⟩ Q q E => ?_) fun H14 _ => q H14
      subst hv
      exact ⟨pl, lm, q', kn, ks, ss, ss.map (·.n), ss.map (·.n), lo, hi, FL, FH, x, y, L1, L2, rfl, (hLL12.mono e13).mono e14, .refl _, knm, hR, thr_perm pk' ps' th, q⟩
end
end MS
set_option Elab.async false
set_option linter.all false
set_option maxRecDepth 100000
set_option maxHeartbeats 4000000
namespace MS
open PySem PySem.Spec PyProof.Rows L2 Evl
/-! ### what the top has left, and the law over it -/
def BindOk (x qual : Str) (st : Stmt) (ps : List Str) : Prop := ∀ (kV doc pm : Value) (an : Option Addr) (cdv ct : Value) (us : List Value), us.length = ps.length → bindArgs (PySem.W.fnOf x qual (C8.fnArgs st) (C8.fnBody st) (C8.fnScope st) .none kV doc pm an cdv ct) ⟨us, []⟩ = pure (ps.zip us)
section
variable {K : PySem.W.Frag} {h : Heap} {mg : Str → Option Value} {x qual m : Str} {st : Stmt} {ps : List Str} {C f p g : Addr} {oc kV dc pm cd ct : Value} {od an : Option Addr} {sl : Array (Option Value)} {rest : List Value} {z : Str} {i : Int} {t : Tok}
theorem fn_of' (l : K.lookup f = some ⟨oc, od, .func (PySem.W.fnOf x qual (C8.fnArgs st) (C8.fnBody st) (C8.fnScope st) .none kV dc pm an cd ct), sl⟩) (c : PySem.W.codeIn K cd qual = true) : C8.Fun K x qual st f (PySem.W.fnOf x qual (C8.fnArgs st) (C8.fnBody st) (C8.fnScope st) .none kV dc pm an cd ct) := ⟨_, _, _, _, _, _, _, _, _, _, rfl, l, c⟩
theorem def_of (X : K.In h) (G : h.Ns mainGlobals mg) (a : PySem.W.nsIn K mainGlobals x = some (some (.ref f))) (l : K.lookup f = some ⟨oc, od, .func (PySem.W.fnOf x x (C8.fnArgs st) (C8.fnBody st) (C8.fnScope st) .none kV dc pm an cd ct), sl⟩) (c : PySem.W.codeIn K cd x = true) (k : PySem.W.keepIn K (.ref f) = true) :
    C8.Def K mg x st f (PySem.W.fnOf x x (C8.fnArgs st) (C8.fnBody st) (C8.fnScope st) .none kV dc pm an cd ct) := ⟨fn_of' l c, PySem.W.mg_of X G a, k⟩
theorem dn_of (b : BindOk x x st ps) (X : K.In h) (G : h.Ns mainGlobals mg) (a : PySem.W.nsIn K mainGlobals x = some (some (.ref f))) (l : K.lookup f = some ⟨oc, od, .func (PySem.W.fnOf x x (C8.fnArgs st) (C8.fnBody st) (C8.fnScope st) .none kV dc pm an cd ct), sl⟩) (c : PySem.W.codeIn K cd x = true) (k : PySem.W.keepIn K (.ref f) = true) : Dn K mg x st ps :=
  ⟨f, _, def_of X G a l c k, (fn_of' l c).binds rfl b⟩
theorem mn_of (b : BindOk m qual st ps) (a : PySem.W.findIn K (.ref C) m = some (some (.ref f))) (i : PySem.W.isFn K (.ref f) = true) (l : K.lookup f = some ⟨oc, od, .func (PySem.W.fnOf m qual (C8.fnArgs st) (C8.fnBody st) (C8.fnScope st) .none kV dc pm an cd ct), sl⟩) (c : PySem.W.codeIn K cd qual = true) (k : PySem.W.keepIn K (.ref f) = true) : Mn K C m qual st ps :=
  ⟨f, _, ⟨a, i, k⟩, fn_of' l c, (fn_of' l c).binds rfl b⟩
theorem pn_of (b : BindOk m qual st ["self"]) (a : PySem.W.findIn K (.ref C) m = some (some (.ref p))) (gt : PySem.W.specialIn K (.ref p) "__get__" = some (some (.builtin "property.__get__"))) (tk : PySem.W.takesIn K (.ref p) = some true) (rc : PySem.W.recIn K p "property" = some (.ref g :: rest))
    (l : K.lookup g = some ⟨oc, od, .func (PySem.W.fnOf m qual (C8.fnArgs st) (C8.fnBody st) (C8.fnScope st) .none kV dc pm an cd ct), sl⟩) (c : PySem.W.codeIn K cd qual = true) : Pn K C m qual st :=
  ⟨p, g, _, ⟨a, gt, tk, rest, rc⟩, fn_of' l c, (fn_of' l c).binds rfl b⟩
theorem in_of (b : BindOk "__init__" qual st ps) (X : K.In h) (G : h.Ns mainGlobals mg) (aC : PySem.W.nsIn K mainGlobals x = some (some (.ref C))) (a : PySem.W.findIn K (.ref C) "__init__" = some (some (.ref f))) (i : PySem.W.isFn K (.ref f) = true)
    (l : K.lookup f = some ⟨oc, od, .func (PySem.W.fnOf "__init__" qual (C8.fnArgs st) (C8.fnBody st) (C8.fnScope st) .none kV dc pm an cd ct), sl⟩) (c : PySem.W.codeIn K cd qual = true) (mk : PySem.W.makesIn K C = true) (kc : PySem.W.keepIn K (.ref C) = true) : In K mg x qual C st ps :=
  ⟨f, _, ⟨mk, a, i, kc⟩, PySem.W.mg_of X G aC, fn_of' l c, (fn_of' l c).binds rfl b⟩
theorem na_of (a : PySem.W.findIn K (.ref C) x = some none) : NoAttr K C x := a
theorem gs_of (X : K.In h) (G : h.Ns mainGlobals mg) (a : PySem.W.nsIn K mainGlobals x = some (some (.str z t))) : ∃ u, mg x = some u ∧ RelV (.str z) u := ⟨_, PySem.W.mg_of X G a, t, rfl⟩
theorem gi_of (X : K.In h) (G : h.Ns mainGlobals mg) (a : PySem.W.nsIn K mainGlobals x = some (some (.int i t))) : ∃ u, mg x = some u ∧ RelV (.int i) u := ⟨_, PySem.W.mg_of X G a, t, rfl⟩
end
theorem b_is_name : BindOk "is_name" "is_name" s_is_name ["text"] := fun _ _ _ _ _ _ us hl => match us, hl with | [_], _ => rfl
theorem b_are_names : BindOk "are_names" "are_names" s_are_names ["texts"] := fun _ _ _ _ _ _ us hl => match us, hl with | [_], _ => rfl
theorem b_is_stream : BindOk "is_stream" "is_stream" s_is_stream ["stream", "knots"] := fun _ _ _ _ _ _ us hl => match us, hl with | [_, _], _ => rfl
theorem b_Plant : BindOk "__init__" "Plant.__init__" s_Plant___init__ ["self", "knots", "streams"] := fun _ _ _ _ _ _ us hl => match us, hl with | [_, _, _], _ => rfl
theorem b_knots : BindOk "knots" "Plant.knots" s_Plant_knots ["self"] := fun _ _ _ _ _ _ us hl => match us, hl with | [_], _ => rfl
theorem b_streams : BindOk "streams" "Plant.streams" s_Plant_streams ["self"] := fun _ _ _ _ _ _ us hl => match us, hl with | [_], _ => rfl
theorem b_stream_names : BindOk "stream_names" "Plant.stream_names" s_Plant_stream_names ["self"] := fun _ _ _ _ _ _ us hl => match us, hl with | [_], _ => rfl
theorem b_check_knot : BindOk "check_knot" "Plant.check_knot" s_Plant_check_knot ["self", "knot"] := fun _ _ _ _ _ _ us hl => match us, hl with | [_, _], _ => rfl
theorem b_stream_named : BindOk "stream_named" "Plant.stream_named" s_Plant_stream_named ["self", "name"] := fun _ _ _ _ _ _ us hl => match us, hl with | [_, _], _ => rfl
theorem b_streams_into : BindOk "streams_into" "Plant.streams_into" s_Plant_streams_into ["self", "knot"] := fun _ _ _ _ _ _ us hl => match us, hl with | [_, _], _ => rfl
theorem b_check_flows : BindOk "check_flows" "check_flows" s_check_flows ["plant", "flows"] := fun _ _ _ _ _ _ us hl => match us, hl with | [_, _], _ => rfl
theorem b_lacks : BindOk "lacks" "lacks" s_lacks ["plant", "flows"] := fun _ _ _ _ _ _ us hl => match us, hl with | [_, _], _ => rfl
theorem b_lines_of : BindOk "lines_of" "lines_of" s_lines_of ["plant"] := fun _ _ _ _ _ _ us hl => match us, hl with | [_], _ => rfl
theorem b_parted_lines : BindOk "parted_lines" "parted_lines" s_parted_lines ["plant", "knot"] := fun _ _ _ _ _ _ us hl => match us, hl with | [_, _], _ => rfl
theorem b_arcs_of : BindOk "arcs_of" "arcs_of" s_arcs_of ["lines", "limits", "flows"] := fun _ _ _ _ _ _ us hl => match us, hl with | [_, _, _], _ => rfl
theorem b_come_to : BindOk "come_to" "come_to" s_come_to ["pairs", "starts"] := fun _ _ _ _ _ _ us hl => match us, hl with | [_, _], _ => rfl
theorem b_leading_to : BindOk "leading_to" "leading_to" s_leading_to ["lines", "limits", "flows", "ends"] := fun _ _ _ _ _ _ us hl => match us, hl with | [_, _, _, _], _ => rfl
theorem b_led_from : BindOk "led_from" "led_from" s_led_from ["lines", "limits", "flows", "starts"] := fun _ _ _ _ _ _ us hl => match us, hl with | [_, _, _, _], _ => rfl
theorem b_way_back : BindOk "way_back" "way_back" s_way_back ["before", "place"] := fun _ _ _ _ _ _ us hl => match us, hl with | [_, _], _ => rfl
theorem b_way_between : BindOk "way_between" "way_between" s_way_between ["arcs", "starts", "ends"] := fun _ _ _ _ _ _ us hl => match us, hl with | [_, _, _], _ => rfl
theorem b_push : BindOk "push" "push" s_push ["flows", "way", "most"] := fun _ _ _ _ _ _ us hl => match us, hl with | [_, _, _], _ => rfl
theorem b_push_all : BindOk "push_all" "push_all" s_push_all ["lines", "limits", "flows", "start", "end", "most"] := fun _ _ _ _ _ _ us hl => match us, hl with | [_, _, _, _, _, _], _ => rfl
theorem b_Missing : BindOk "__init__" "Missing.__init__" s_Missing___init__ ["self", "number", "flows", "least", "greatest"] := fun _ _ _ _ _ _ us hl => match us, hl with | [_, _, _, _, _], _ => rfl
theorem b_check_limits : BindOk "check_limits" "check_limits" s_check_limits ["plant", "limits"] := fun _ _ _ _ _ _ us hl => match us, hl with | [_, _], _ => rfl
theorem b_crossed : BindOk "crossed" "crossed" s_crossed ["plant", "limits"] := fun _ _ _ _ _ _ us hl => match us, hl with | [_, _], _ => rfl
theorem b_missing_of : BindOk "missing_of" "missing_of" s_missing_of ["plant", "flows"] := fun _ _ _ _ _ _ us hl => match us, hl with | [_, _], _ => rfl
theorem b_least_missing : BindOk "least_missing" "least_missing" s_least_missing ["plant", "limits"] := fun _ _ _ _ _ _ us hl => match us, hl with | [_, _], _ => rfl
theorem b_check_readings : BindOk "check_readings" "check_readings" s_check_readings ["plant", "readings"] := fun _ _ _ _ _ _ us hl => match us, hl with | [_, _], _ => rfl
theorem b_limits_of : BindOk "limits_of" "limits_of" s_limits_of ["plant", "readings"] := fun _ _ _ _ _ _ us hl => match us, hl with | [_, _], _ => rfl
theorem b_flows_within : BindOk "flows_within" "flows_within" s_flows_within ["plant", "limits"] := fun _ _ _ _ _ _ us hl => match us, hl with | [_, _], _ => rfl
theorem b_paper_within : BindOk "paper_within" "paper_within" s_paper_within ["plant", "limits"] := fun _ _ _ _ _ _ us hl => match us, hl with | [_, _], _ => rfl
theorem b_flows_of : BindOk "flows_of" "flows_of" s_flows_of ["plant", "readings"] := fun _ _ _ _ _ _ us hl => match us, hl with | [_, _], _ => rfl
theorem b_paper_of : BindOk "paper_of" "paper_of" s_paper_of ["plant", "readings"] := fun _ _ _ _ _ _ us hl => match us, hl with | [_, _], _ => rfl
theorem b_Range : BindOk "__init__" "Range.__init__" s_Range___init__ ["self", "low", "high", "low_flows", "high_flows", "low_lot", "high_lot"] := fun _ _ _ _ _ _ us hl => match us, hl with | [_, _, _, _, _, _, _], _ => rfl
theorem b_pushed_to : BindOk "pushed_to" "pushed_to" s_pushed_to ["plant", "lines", "limits", "flows", "start", "end", "most"] := fun _ _ _ _ _ _ us hl => match us, hl with | [_, _, _, _, _, _, _], _ => rfl
theorem b_range_within : BindOk "range_within" "range_within" s_range_within ["plant", "limits", "name"] := fun _ _ _ _ _ _ us hl => match us, hl with | [_, _, _], _ => rfl
theorem b_range_of : BindOk "range_of" "range_of" s_range_of ["plant", "readings", "name"] := fun _ _ _ _ _ _ us hl => match us, hl with | [_, _, _], _ => rfl
theorem b_sum_through : BindOk "sum_through" "sum_through" s_sum_through ["plant", "flows", "knot"] := fun _ _ _ _ _ _ us hl => match us, hl with | [_, _, _], _ => rfl
theorem b_through_of : BindOk "through_of" "through_of" s_through_of ["plant", "limits", "knot"] := fun _ _ _ _ _ _ us hl => match us, hl with | [_, _, _], _ => rfl
theorem b_law_row : BindOk "_law_row" "_law_row" s_law_row ["_law_cell", "_law_many"] := fun _ _ _ _ _ _ us hl => match us, hl with | [_, _], _ => rfl
theorem b_law_numbers : BindOk "_law_numbers" "_law_numbers" s_law_numbers ["_law_script", "_law_many"] := fun _ _ _ _ _ _ us hl => match us, hl with | [_, _], _ => rfl
theorem b_law_names : BindOk "_law_names" "_law_names" s_law_names ["_law_number", "_law_many"] := fun _ _ _ _ _ _ us hl => match us, hl with | [_, _], _ => rfl
theorem b_law_rounds : BindOk "_law_rounds" "_law_rounds" s_law_rounds ["_law_numbers_here", "_law_at", "_law_lines"] := fun _ _ _ _ _ _ us hl => match us, hl with | [_, _, _], _ => rfl
theorem b_law_great : BindOk "_law_great" "_law_great" s_law_great ["_law_numbers_here"] := fun _ _ _ _ _ _ us hl => match us, hl with | [_], _ => rfl
theorem b_law_made : BindOk "_law_made" "_law_made" s_law_made ["_law_plant"] := fun _ _ _ _ _ _ us hl => match us, hl with | [_], _ => rfl
theorem b_law_limits_of : BindOk "_law_limits_of" "_law_limits_of" s_law_limits_of ["_law_plant", "_law_readings"] := fun _ _ _ _ _ _ us hl => match us, hl with | [_, _], _ => rfl
theorem b_law_lack : BindOk "_law_lack" "_law_lack" s_law_lack ["_law_plant", "_law_limits", "_law_lot"] := fun _ _ _ _ _ _ us hl => match us, hl with | [_, _, _], _ => rfl
theorem b_law_left : BindOk "_law_left" "_law_left" s_law_left ["_law_plant", "_law_flows"] := fun _ _ _ _ _ _ us hl => match us, hl with | [_, _], _ => rfl
theorem b_law_balanced : BindOk "_law_balanced" "_law_balanced" s_law_balanced ["_law_plant", "_law_flows"] := fun _ _ _ _ _ _ us hl => match us, hl with | [_, _], _ => rfl
theorem b_law_inside : BindOk "_law_inside" "_law_inside" s_law_inside ["_law_limits", "_law_flows"] := fun _ _ _ _ _ _ us hl => match us, hl with | [_, _], _ => rfl
theorem b_law_are_good : BindOk "_law_are_good" "_law_are_good" s_law_are_good ["_law_plant", "_law_limits", "_law_flows"] := fun _ _ _ _ _ _ us hl => match us, hl with | [_, _, _], _ => rfl
theorem b_law_beside : BindOk "_law_beside" "_law_beside" s_law_beside ["_law_plant", "_law_limits", "_law_name", "_law_lot"] := fun _ _ _ _ _ _ us hl => match us, hl with | [_, _, _, _], _ => rfl
theorem b_law_around : BindOk "_law_around" "_law_around" s_law_around ["_law_plant", "_law_limits", "_law_knot", "_law_lot"] := fun _ _ _ _ _ _ us hl => match us, hl with | [_, _, _, _], _ => rfl
theorem b_law_passing : BindOk "_law_passing" "_law_passing" s_law_passing ["_law_plant", "_law_flows", "_law_knot"] := fun _ _ _ _ _ _ us hl => match us, hl with | [_, _, _], _ => rfl
theorem b_law_is_none : BindOk "_law_is_none" "_law_is_none" s_law_is_none ["_law_plant", "_law_limits", "_law_paper"] := fun _ _ _ _ _ _ us hl => match us, hl with | [_, _, _], _ => rfl
theorem b_law_others : BindOk "_law_others" "_law_others" s_law_others ["_law_plant", "_law_lot"] := fun _ _ _ _ _ _ us hl => match us, hl with | [_, _], _ => rfl
theorem b_law_is_through : BindOk "_law_is_through" "_law_is_through" s_law_is_through ["_law_plant", "_law_limits", "_law_knot", "_law_told"] := fun _ _ _ _ _ _ us hl => match us, hl with | [_, _, _, _], _ => rfl
theorem b_law_is_end : BindOk "_law_is_end" "_law_is_end" s_law_is_end ["_law_plant", "_law_limits", "_law_name", "_law_number", "_law_lot", "_law_is_high"] := fun _ _ _ _ _ _ us hl => match us, hl with | [_, _, _, _, _, _], _ => rfl
theorem b_law : BindOk "law" "law" s_law ["_law_script"] := fun _ _ _ _ _ _ us hl => match us, hl with | [_], _ => rfl
structure Top (K : PySem.W.Frag) (mg : Str → Option Value) (aP aM aR : Addr) : Prop where
  T : Txt K mg aP aM aR
  d_is_name : Dn K mg "is_name" s_is_name ["text"]
  d_are_names : Dn K mg "are_names" s_are_names ["texts"]
  d_is_stream : Dn K mg "is_stream" s_is_stream ["stream", "knots"]
  d_Plant : In K mg "Plant" "Plant.__init__" aP s_Plant___init__ ["self", "knots", "streams"]
  d_knots : Pn K aP "knots" "Plant.knots" s_Plant_knots
  d_streams : Pn K aP "streams" "Plant.streams" s_Plant_streams
  d_stream_names : Mn K aP "stream_names" "Plant.stream_names" s_Plant_stream_names ["self"]
  d_check_knot : Mn K aP "check_knot" "Plant.check_knot" s_Plant_check_knot ["self", "knot"]
  d_stream_named : Mn K aP "stream_named" "Plant.stream_named" s_Plant_stream_named ["self", "name"]
  d_streams_into : Mn K aP "streams_into" "Plant.streams_into" s_Plant_streams_into ["self", "knot"]
  d_check_flows : Dn K mg "check_flows" s_check_flows ["plant", "flows"]
  d_lacks : Dn K mg "lacks" s_lacks ["plant", "flows"]
  d_lines_of : Dn K mg "lines_of" s_lines_of ["plant"]
  d_parted_lines : Dn K mg "parted_lines" s_parted_lines ["plant", "knot"]
  d_arcs_of : Dn K mg "arcs_of" s_arcs_of ["lines", "limits", "flows"]
  d_come_to : Dn K mg "come_to" s_come_to ["pairs", "starts"]
  d_leading_to : Dn K mg "leading_to" s_leading_to ["lines", "limits", "flows", "ends"]
  d_led_from : Dn K mg "led_from" s_led_from ["lines", "limits", "flows", "starts"]
  d_way_back : Dn K mg "way_back" s_way_back ["before", "place"]
  d_way_between : Dn K mg "way_between" s_way_between ["arcs", "starts", "ends"]
  d_push : Dn K mg "push" s_push ["flows", "way", "most"]
  d_push_all : Dn K mg "push_all" s_push_all ["lines", "limits", "flows", "start", "end", "most"]
  d_Missing : In K mg "Missing" "Missing.__init__" aM s_Missing___init__ ["self", "number", "flows", "least", "greatest"]
  d_check_limits : Dn K mg "check_limits" s_check_limits ["plant", "limits"]
  d_crossed : Dn K mg "crossed" s_crossed ["plant", "limits"]
  d_missing_of : Dn K mg "missing_of" s_missing_of ["plant", "flows"]
  d_least_missing : Dn K mg "least_missing" s_least_missing ["plant", "limits"]
  d_check_readings : Dn K mg "check_readings" s_check_readings ["plant", "readings"]
  d_limits_of : Dn K mg "limits_of" s_limits_of ["plant", "readings"]
  d_flows_within : Dn K mg "flows_within" s_flows_within ["plant", "limits"]
  d_paper_within : Dn K mg "paper_within" s_paper_within ["plant", "limits"]
  d_flows_of : Dn K mg "flows_of" s_flows_of ["plant", "readings"]
  d_paper_of : Dn K mg "paper_of" s_paper_of ["plant", "readings"]
  d_Range : In K mg "Range" "Range.__init__" aR s_Range___init__ ["self", "low", "high", "low_flows", "high_flows", "low_lot", "high_lot"]
  d_pushed_to : Dn K mg "pushed_to" s_pushed_to ["plant", "lines", "limits", "flows", "start", "end", "most"]
  d_range_within : Dn K mg "range_within" s_range_within ["plant", "limits", "name"]
  d_range_of : Dn K mg "range_of" s_range_of ["plant", "readings", "name"]
  d_sum_through : Dn K mg "sum_through" s_sum_through ["plant", "flows", "knot"]
  d_through_of : Dn K mg "through_of" s_through_of ["plant", "limits", "knot"]
  d_law_row : Dn K mg "_law_row" s_law_row ["_law_cell", "_law_many"]
  d_law_numbers : Dn K mg "_law_numbers" s_law_numbers ["_law_script", "_law_many"]
  d_law_names : Dn K mg "_law_names" s_law_names ["_law_number", "_law_many"]
  d_law_rounds : Dn K mg "_law_rounds" s_law_rounds ["_law_numbers_here", "_law_at", "_law_lines"]
  d_law_great : Dn K mg "_law_great" s_law_great ["_law_numbers_here"]
  d_law_made : Dn K mg "_law_made" s_law_made ["_law_plant"]
  d_law_limits_of : Dn K mg "_law_limits_of" s_law_limits_of ["_law_plant", "_law_readings"]
  d_law_lack : Dn K mg "_law_lack" s_law_lack ["_law_plant", "_law_limits", "_law_lot"]
  d_law_left : Dn K mg "_law_left" s_law_left ["_law_plant", "_law_flows"]
  d_law_balanced : Dn K mg "_law_balanced" s_law_balanced ["_law_plant", "_law_flows"]
  d_law_inside : Dn K mg "_law_inside" s_law_inside ["_law_limits", "_law_flows"]
  d_law_are_good : Dn K mg "_law_are_good" s_law_are_good ["_law_plant", "_law_limits", "_law_flows"]
  d_law_beside : Dn K mg "_law_beside" s_law_beside ["_law_plant", "_law_limits", "_law_name", "_law_lot"]
  d_law_around : Dn K mg "_law_around" s_law_around ["_law_plant", "_law_limits", "_law_knot", "_law_lot"]
  d_law_passing : Dn K mg "_law_passing" s_law_passing ["_law_plant", "_law_flows", "_law_knot"]
  d_law_is_none : Dn K mg "_law_is_none" s_law_is_none ["_law_plant", "_law_limits", "_law_paper"]
  d_law_others : Dn K mg "_law_others" s_law_others ["_law_plant", "_law_lot"]
  d_law_is_through : Dn K mg "_law_is_through" s_law_is_through ["_law_plant", "_law_limits", "_law_knot", "_law_told"]
  d_law_is_end : Dn K mg "_law_is_end" s_law_is_end ["_law_plant", "_law_limits", "_law_name", "_law_number", "_law_lot", "_law_is_high"]
theorem Top.law {P : Program} {w : World} {K : PySem.W.Frag} {mg : Str → Option Value} {base : Heap} {aP aM aR : Addr} {f : Addr} {fd : FuncData} (t : Top K mg aP aM aR) (D : C8.Def K mg "law" s_law f fd) : FnOk P w K mg base C8.CX0 10 f fd ["_law_script"] (spLaw K) := by
  have c_is_name := c_is_name_ (P := P) (w := w) (base := base) t.T t.d_is_name 
  have c_are_names := c_are_names_ (P := P) (w := w) (base := base) t.T t.d_are_names c_is_name
  have c_is_stream := c_is_stream_ (P := P) (w := w) (base := base) t.T t.d_is_stream 
  have c_Plant := c_Plant_ (P := P) (w := w) (base := base) t.T t.d_Plant c_are_names c_is_stream
  have c_knots := c_knots_ (P := P) (w := w) (base := base) t.T t.d_knots 
  have c_streams := c_streams_ (P := P) (w := w) (base := base) t.T t.d_streams 
  have c_stream_names := c_stream_names_ (P := P) (w := w) (base := base) t.T t.d_stream_names 
  have c_check_knot := c_check_knot_ (P := P) (w := w) (base := base) t.T t.d_check_knot 
  have c_stream_named := c_stream_named_ (P := P) (w := w) (base := base) t.T t.d_stream_named 
  have c_streams_into := c_streams_into_ (P := P) (w := w) (base := base) t.T t.d_streams_into c_check_knot
  have c_check_flows := c_check_flows_ (P := P) (w := w) (base := base) t.T t.d_check_flows c_stream_names
  have c_lacks := c_lacks_ (P := P) (w := w) (base := base) t.T t.d_lacks c_knots c_streams c_check_flows
  have c_lines_of := c_lines_of_ (P := P) (w := w) (base := base) t.T t.d_lines_of c_streams
  have c_parted_lines := c_parted_lines_ (P := P) (w := w) (base := base) t.T t.d_parted_lines c_streams
  have c_arcs_of := c_arcs_of_ (P := P) (w := w) (base := base) t.T t.d_arcs_of 
  have c_come_to := c_come_to_ (P := P) (w := w) (base := base) t.T t.d_come_to 
  have c_leading_to := c_leading_to_ (P := P) (w := w) (base := base) t.T t.d_leading_to c_arcs_of c_come_to
  have c_led_from := c_led_from_ (P := P) (w := w) (base := base) t.T t.d_led_from c_arcs_of c_come_to
  have c_way_back := c_way_back_ (P := P) (w := w) (base := base) t.T t.d_way_back 
  have c_way_between := c_way_between_ (P := P) (w := w) (base := base) t.T t.d_way_between c_way_back
  have c_push := c_push_ (P := P) (w := w) (base := base) t.T t.d_push 
  have c_push_all := c_push_all_ (P := P) (w := w) (base := base) t.T t.d_push_all c_arcs_of c_way_between c_push
  have c_Missing := c_Missing_ (P := P) (w := w) (base := base) t.T t.d_Missing 
  have c_check_limits := c_check_limits_ (P := P) (w := w) (base := base) t.T t.d_check_limits c_lacks
  have c_crossed := c_crossed_ (P := P) (w := w) (base := base) t.T t.d_crossed c_check_limits c_stream_names
  have c_missing_of := c_missing_of_ (P := P) (w := w) (base := base) t.T t.d_missing_of c_lacks
  have c_least_missing := c_least_missing_ (P := P) (w := w) (base := base) t.T t.d_least_missing c_knots c_lacks c_lines_of c_arcs_of c_way_between c_push c_leading_to c_led_from c_Missing c_crossed c_missing_of
  have c_check_readings := c_check_readings_ (P := P) (w := w) (base := base) t.T t.d_check_readings c_stream_names
  have c_limits_of := c_limits_of_ (P := P) (w := w) (base := base) t.T t.d_limits_of c_streams c_check_readings
  have c_flows_within := c_flows_within_ (P := P) (w := w) (base := base) t.T t.d_flows_within c_least_missing
  have c_paper_within := c_paper_within_ (P := P) (w := w) (base := base) t.T t.d_paper_within c_crossed c_least_missing
  have c_flows_of := c_flows_of_ (P := P) (w := w) (base := base) t.T t.d_flows_of c_limits_of c_flows_within
  have c_paper_of := c_paper_of_ (P := P) (w := w) (base := base) t.T t.d_paper_of c_limits_of c_paper_within
  have c_Range := c_Range_ (P := P) (w := w) (base := base) t.T t.d_Range 
  have c_pushed_to := c_pushed_to_ (P := P) (w := w) (base := base) t.T t.d_pushed_to c_knots c_push_all c_leading_to
  have c_range_within := c_range_within_ (P := P) (w := w) (base := base) t.T t.d_range_within c_stream_named c_lines_of c_flows_within c_Range c_pushed_to
  have c_range_of := c_range_of_ (P := P) (w := w) (base := base) t.T t.d_range_of c_limits_of c_range_within
  have c_sum_through := c_sum_through_ (P := P) (w := w) (base := base) t.T t.d_sum_through c_streams_into
  have c_through_of := c_through_of_ (P := P) (w := w) (base := base) t.T t.d_through_of c_check_knot c_parted_lines c_flows_within c_Range c_pushed_to c_sum_through
  have c_law_row := c_law_row_ (P := P) (w := w) (base := base) t.T t.d_law_row 
  have c_law_numbers := c_law_numbers_ (P := P) (w := w) (base := base) t.T t.d_law_numbers c_law_row
  have c_law_names := c_law_names_ (P := P) (w := w) (base := base) t.T t.d_law_names 
  have c_law_rounds := c_law_rounds_ (P := P) (w := w) (base := base) t.T t.d_law_rounds 
  have c_law_great := c_law_great_ (P := P) (w := w) (base := base) t.T t.d_law_great c_law_names c_law_rounds
  have c_law_made := c_law_made_ (P := P) (w := w) (base := base) t.T t.d_law_made c_Plant
  have c_law_limits_of := c_law_limits_of_ (P := P) (w := w) (base := base) t.T t.d_law_limits_of 
  have c_law_lack := c_law_lack_ (P := P) (w := w) (base := base) t.T t.d_law_lack 
  have c_law_left := c_law_left_ (P := P) (w := w) (base := base) t.T t.d_law_left 
  have c_law_balanced := c_law_balanced_ (P := P) (w := w) (base := base) t.T t.d_law_balanced c_law_left
  have c_law_inside := c_law_inside_ (P := P) (w := w) (base := base) t.T t.d_law_inside 
  have c_law_are_good := c_law_are_good_ (P := P) (w := w) (base := base) t.T t.d_law_are_good c_law_inside c_law_balanced
  have c_law_beside := c_law_beside_ (P := P) (w := w) (base := base) t.T t.d_law_beside 
  have c_law_around := c_law_around_ (P := P) (w := w) (base := base) t.T t.d_law_around 
  have c_law_passing := c_law_passing_ (P := P) (w := w) (base := base) t.T t.d_law_passing 
  have c_law_is_none := c_law_is_none_ (P := P) (w := w) (base := base) t.T t.d_law_is_none c_law_lack
  have c_law_others := c_law_others_ (P := P) (w := w) (base := base) t.T t.d_law_others 
  have c_law_is_through := c_law_is_through_ (P := P) (w := w) (base := base) t.T t.d_law_is_through c_law_are_good c_law_around c_law_passing
  have c_law_is_end := c_law_is_end_ (P := P) (w := w) (base := base) t.T t.d_law_is_end c_law_beside
  exact c_law_ t.T D c_law_numbers c_law_great c_law_limits_of c_law_made c_flows_of c_paper_of c_least_missing c_law_lack c_Plant c_law_others c_law_is_none c_law_are_good c_range_of c_law_is_end c_law_is_through c_through_of
theorem fin {P : Program} {w : World} {K : PySem.W.Frag} {h : Heap} {mg : Str → Option Value} {aP aM aR fa f : Addr} {oc kV dc pm cd ct : Value} {od an : Option Addr} {sl : Array (Option Value)} (X : K.In h) (G : h.Ns mainGlobals mg) (hfa : mg "law" = some (.ref fa)) (t : Top K mg aP aM aR)
    (a : PySem.W.nsIn K mainGlobals "law" = some (some (.ref f))) (l : K.lookup f = some ⟨oc, od, .func (PySem.W.fnOf "law" "law" (C8.fnArgs s_law) (C8.fnBody s_law) (C8.fnScope s_law) .none kV dc pm an cd ct), sl⟩) (c : PySem.W.codeIn K cd "law" = true) (k : PySem.W.keepIn K (.ref f) = true) :
    ∃ fd : FuncData, (∀ (s : Shared) (u : Value), BindsTo s fd ⟨[u], []⟩ [("_law_script", u)]) ∧ ∀ base : Heap, K.In base → base.Ns mainGlobals mg → FnOk P w K mg base C8.CX0 10 fa fd ["_law_script"] (spLaw K) := by
  have e := hfa.symm.trans (PySem.W.mg_of X G a)
  cases e
  exact ⟨_, fun s u => .of_eq (b_law kV dc pm an cd ct [u] rfl), fun base _ _ => t.law (def_of X G a l c k)⟩
end MS
open PySem PySem.W PyProof.Rows
set_option maxHeartbeats 0 in
set_option maxRecDepth 100000 in
open_top hd for PySem.Challenge.rw_metersure_k79_whole_great_plants_and_pap
set_option maxHeartbeats 0 in
theorem PySem.Challenge.cw_metersure_k79_whole_great_plants_and_pap_holds : PySem.Challenge.rw_metersure_k79_whole_great_plants_and_pap.Holds :=
  hd (by
  k_fill
  refine L2.walk_of (l := PySem.Challenge.rw_metersure_k79_whole_great_plants_and_pap) (n := 63) (k := 10) (x := "_law_script") (CX := fun _ => C8.CX0) (sp := fun w => MS.spLaw _) rfl (by decide) rfl ⟨rfl, by decide, by decide⟩ (fun w h Y => PySem.W.kIn_of Y) ?F (fun _ _ a ns hl _ hS => ⟨a, ns, rfl, hS, hl, fun _ => rfl⟩) (fun _ _ _ _ _ h => h)
  case F =>
    intro w mg fa h KX G hmg
    refine' MS.fin KX G hmg { d_Plant := MS.in_of MS.b_Plant KX G ?g1 ?g2 ?g3 ?g4 ?g5 ?g6 ?g7, d_Missing := MS.in_of MS.b_Missing KX G ?g8 ?g9 ?g10 ?g11 ?g12 ?g13 ?g14, d_Range := MS.in_of MS.b_Range KX G ?g15 ?g16 ?g17 ?g18 ?g19 ?g20 ?g21, d_is_name := MS.dn_of MS.b_is_name KX G ?g22 ?g23 ?g24 ?g25, d_are_names := MS.dn_of MS.b_are_names KX G ?g26 ?g27 ?g28 ?g29, d_is_stream := MS.dn_of MS.b_is_stream KX G ?g30 ?g31 ?g32 ?g33, d_knots := MS.pn_of MS.b_knots ?g34 ?g35 ?g36 ?g37 ?g38 ?g39, d_streams := MS.pn_of MS.b_streams ?g40 ?g41 ?g42 ?g43 ?g44 ?g45, d_stream_names := MS.mn_of MS.b_stream_names ?g46 ?g47 ?g48 ?g49 ?g50, d_check_knot := MS.mn_of MS.b_check_knot ?g51 ?g52 ?g53 ?g54 ?g55, d_stream_named := MS.mn_of MS.b_stream_named ?g56 ?g57 ?g58 ?g59 ?g60, d_streams_into := MS.mn_of MS.b_streams_into ?g61 ?g62 ?g63 ?g64 ?g65, d_check_flows := MS.dn_of MS.b_check_flows KX G ?g66 ?g67 ?g68 ?g69, d_lacks := MS.dn_of MS.b_lacks KX G ?g70 ?g71 ?g72 ?g73, d_lines_of := MS.dn_of MS.b_lines_of KX G ?g74 ?g75 ?g76 ?g77, d_parted_lines := MS.dn_of MS.b_parted_lines KX G ?g78 ?g79 ?g80 ?g81, d_arcs_of := MS.dn_of MS.b_arcs_of KX G ?g82 ?g83 ?g84 ?g85, d_come_to := MS.dn_of MS.b_come_to KX G ?g86 ?g87 ?g88 ?g89, d_leading_to := MS.dn_of MS.b_leading_to KX G ?g90 ?g91 ?g92 ?g93, d_led_from := MS.dn_of MS.b_led_from KX G ?g94 ?g95 ?g96 ?g97, d_way_back := MS.dn_of MS.b_way_back KX G ?g98 ?g99 ?g100 ?g101, d_way_between := MS.dn_of MS.b_way_between KX G ?g102 ?g103 ?g104 ?g105, d_push := MS.dn_of MS.b_push KX G ?g106 ?g107 ?g108 ?g109, d_push_all := MS.dn_of MS.b_push_all KX G ?g110 ?g111 ?g112 ?g113, d_check_limits := MS.dn_of MS.b_check_limits KX G ?g114 ?g115 ?g116 ?g117, d_crossed := MS.dn_of MS.b_crossed KX G ?g118 ?g119 ?g120 ?g121, d_missing_of := MS.dn_of MS.b_missing_of KX G ?g122 ?g123 ?g124 ?g125, d_least_missing := MS.dn_of MS.b_least_missing KX G ?g126 ?g127 ?g128 ?g129, d_check_readings := MS.dn_of MS.b_check_readings KX G ?g130 ?g131 ?g132 ?g133, d_limits_of := MS.dn_of MS.b_limits_of KX G ?g134 ?g135 ?g136 ?g137, d_flows_within := MS.dn_of MS.b_flows_within KX G ?g138 ?g139 ?g140 ?g141, d_paper_within := MS.dn_of MS.b_paper_within KX G ?g142 ?g143 ?g144 ?g145, d_flows_of := MS.dn_of MS.b_flows_of KX G ?g146 ?g147 ?g148 ?g149, d_paper_of := MS.dn_of MS.b_paper_of KX G ?g150 ?g151 ?g152 ?g153, d_pushed_to := MS.dn_of MS.b_pushed_to KX G ?g154 ?g155 ?g156 ?g157, d_range_within := MS.dn_of MS.b_range_within KX G ?g158 ?g159 ?g160 ?g161, d_range_of := MS.dn_of MS.b_range_of KX G ?g162 ?g163 ?g164 ?g165, d_sum_through := MS.dn_of MS.b_sum_through KX G ?g166 ?g167 ?g168 ?g169, d_through_of := MS.dn_of MS.b_through_of KX G ?g170 ?g171 ?g172 ?g173, d_law_row := MS.dn_of MS.b_law_row KX G ?g174 ?g175 ?g176 ?g177, d_law_numbers := MS.dn_of MS.b_law_numbers KX G ?g178 ?g179 ?g180 ?g181, d_law_names := MS.dn_of MS.b_law_names KX G ?g182 ?g183 ?g184 ?g185, d_law_rounds := MS.dn_of MS.b_law_rounds KX G ?g186 ?g187 ?g188 ?g189, d_law_great := MS.dn_of MS.b_law_great KX G ?g190 ?g191 ?g192 ?g193, d_law_made := MS.dn_of MS.b_law_made KX G ?g194 ?g195 ?g196 ?g197, d_law_limits_of := MS.dn_of MS.b_law_limits_of KX G ?g198 ?g199 ?g200 ?g201, d_law_lack := MS.dn_of MS.b_law_lack KX G ?g202 ?g203 ?g204 ?g205, d_law_left := MS.dn_of MS.b_law_left KX G ?g206 ?g207 ?g208 ?g209, d_law_balanced := MS.dn_of MS.b_law_balanced KX G ?g210 ?g211 ?g212 ?g213, d_law_inside := MS.dn_of MS.b_law_inside KX G ?g214 ?g215 ?g216 ?g217, d_law_are_good := MS.dn_of MS.b_law_are_good KX G ?g218 ?g219 ?g220 ?g221, d_law_beside := MS.dn_of MS.b_law_beside KX G ?g222 ?g223 ?g224 ?g225, d_law_around := MS.dn_of MS.b_law_around KX G ?g226 ?g227 ?g228 ?g229, d_law_passing := MS.dn_of MS.b_law_passing KX G ?g230 ?g231 ?g232 ?g233, d_law_is_none := MS.dn_of MS.b_law_is_none KX G ?g234 ?g235 ?g236 ?g237, d_law_others := MS.dn_of MS.b_law_others KX G ?g238 ?g239 ?g240 ?g241, d_law_is_through := MS.dn_of MS.b_law_is_through KX G ?g242 ?g243 ?g244 ?g245, d_law_is_end := MS.dn_of MS.b_law_is_end KX G ?g246 ?g247 ?g248 ?g249, T := { n_len := PySem.W.mg_none_of KX G ?g250, n_all := PySem.W.mg_none_of KX G ?g251, n_sum := PySem.W.mg_none_of KX G ?g252, n_max := PySem.W.mg_none_of KX G ?g253, n_min := PySem.W.mg_none_of KX G ?g254, n_sorted := PySem.W.mg_none_of KX G ?g255, n_set := PySem.W.mg_none_of KX G ?g256, n_list := PySem.W.mg_none_of KX G ?g257, n_dict := PySem.W.mg_none_of KX G ?g258, n_range := PySem.W.mg_none_of KX G ?g259, n_isinstance := PySem.W.mg_none_of KX G ?g260, n_abs := PySem.W.mg_none_of KX G ?g261, n_int := PySem.W.mg_none_of KX G ?g262, n_str := PySem.W.mg_none_of KX G ?g263, g_LETTERS := MS.gs_of KX G ?g264, g_MOST_FLOW := MS.gi_of KX G ?g265, g_MOST_KNOTS := MS.gi_of KX G ?g266, g_MOST_STREAMS := MS.gi_of KX G ?g267, g_LOT := MS.gs_of KX G ?g268, g_STREAM := MS.gs_of KX G ?g269, g_APART := MS.gs_of KX G ?g270, cP := ⟨?g271, ?g272, ?g273, ?g274⟩, cM := ⟨?g275, ?g276, ?g277, ?g278⟩, cR := ⟨?g279, ?g280, ?g281, ?g282⟩, p_k := MS.na_of ?g283, p_s := MS.na_of ?g284, m_n := MS.na_of ?g285, m_f := MS.na_of ?g286, m_l := MS.na_of ?g287, m_g := MS.na_of ?g288, r_l := MS.na_of ?g289, r_h := MS.na_of ?g290, r_lf := MS.na_of ?g291, r_hf := MS.na_of ?g292, r_ll := MS.na_of ?g293, r_hl := MS.na_of ?g294 } } ?g295 ?g296 ?g297 ?g298
    (case g1 => k_is)
    (case g2 => k_is)
    (case g3 => k_is)
    (case g4 => k_is)
    (case g5 => k_is)
    (case g6 => k_is)
    (case g7 => k_is)
    (case g8 => k_is)
    (case g9 => k_is)
    (case g10 => k_is)
    (case g11 => k_is)
    (case g12 => k_is)
    (case g13 => k_is)
    (case g14 => k_is)
    (case g15 => k_is)
    (case g16 => k_is)
    (case g17 => k_is)
    (case g18 => k_is)
    (case g19 => k_is)
    (case g20 => k_is)
    (case g21 => k_is)
    (case g22 => k_is)
    (case g23 => k_is)
    (case g24 => k_is)
    (case g25 => k_is)
    (case g26 => k_is)
    (case g27 => k_is)
    (case g28 => k_is)
    (case g29 => k_is)
    (case g30 => k_is)
    (case g31 => k_is)
    (case g32 => k_is)
    (case g33 => k_is)
    (case g34 => k_is)
    (case g35 => k_is)
    (case g36 => k_is)
    (case g37 => k_is)
    (case g38 => k_is)
    (case g39 => k_is)
    (case g40 => k_is)
    (case g41 => k_is)
    (case g42 => k_is)
    (case g43 => k_is)
    (case g44 => k_is)
    (case g45 => k_is)
    (case g46 => k_is)
    (case g47 => k_is)
    (case g48 => k_is)
    (case g49 => k_is)
    (case g50 => k_is)
    (case g51 => k_is)
    (case g52 => k_is)
    (case g53 => k_is)
    (case g54 => k_is)
    (case g55 => k_is)
    (case g56 => k_is)
    (case g57 => k_is)
    (case g58 => k_is)
    (case g59 => k_is)
    (case g60 => k_is)
    (case g61 => k_is)
    (case g62 => k_is)
    (case g63 => k_is)
    (case g64 => k_is)
    (case g65 => k_is)
    (case g66 => k_is)
    (case g67 => k_is)
    (case g68 => k_is)
    (case g69 => k_is)
    (case g70 => k_is)
    (case g71 => k_is)
    (case g72 => k_is)
    (case g73 => k_is)
    (case g74 => k_is)
    (case g75 => k_is)
    (case g76 => k_is)
    (case g77 => k_is)
    (case g78 => k_is)
    (case g79 => k_is)
    (case g80 => k_is)
    (case g81 => k_is)
    (case g82 => k_is)
    (case g83 => k_is)
    (case g84 => k_is)
    (case g85 => k_is)
    (case g86 => k_is)
    (case g87 => k_is)
    (case g88 => k_is)
    (case g89 => k_is)
    (case g90 => k_is)
    (case g91 => k_is)
    (case g92 => k_is)
    (case g93 => k_is)
    (case g94 => k_is)
    (case g95 => k_is)
    (case g96 => k_is)
    (case g97 => k_is)
    (case g98 => k_is)
    (case g99 => k_is)
    (case g100 => k_is)
    (case g101 => k_is)
    (case g102 => k_is)
    (case g103 => k_is)
    (case g104 => k_is)
    (case g105 => k_is)
    (case g106 => k_is)
    (case g107 => k_is)
    (case g108 => k_is)
    (case g109 => k_is)
    (case g110 => k_is)
    (case g111 => k_is)
    (case g112 => k_is)
    (case g113 => k_is)
    (case g114 => k_is)
    (case g115 => k_is)
    (case g116 => k_is)
    (case g117 => k_is)
    (case g118 => k_is)
    (case g119 => k_is)
    (case g120 => k_is)
    (case g121 => k_is)
    (case g122 => k_is)
    (case g123 => k_is)
    (case g124 => k_is)
    (case g125 => k_is)
    (case g126 => k_is)
    (case g127 => k_is)
    (case g128 => k_is)
    (case g129 => k_is)
    (case g130 => k_is)
    (case g131 => k_is)
    (case g132 => k_is)
    (case g133 => k_is)
    (case g134 => k_is)
    (case g135 => k_is)
    (case g136 => k_is)
    (case g137 => k_is)
    (case g138 => k_is)
    (case g139 => k_is)
    (case g140 => k_is)
    (case g141 => k_is)
    (case g142 => k_is)
    (case g143 => k_is)
    (case g144 => k_is)
    (case g145 => k_is)
    (case g146 => k_is)
    (case g147 => k_is)
    (case g148 => k_is)
    (case g149 => k_is)
    (case g150 => k_is)
    (case g151 => k_is)
    (case g152 => k_is)
    (case g153 => k_is)
    (case g154 => k_is)
    (case g155 => k_is)
    (case g156 => k_is)
    (case g157 => k_is)
    (case g158 => k_is)
    (case g159 => k_is)
    (case g160 => k_is)
    (case g161 => k_is)
    (case g162 => k_is)
    (case g163 => k_is)
    (case g164 => k_is)
    (case g165 => k_is)
    (case g166 => k_is)
    (case g167 => k_is)
    (case g168 => k_is)
    (case g169 => k_is)
    (case g170 => k_is)
    (case g171 => k_is)
    (case g172 => k_is)
    (case g173 => k_is)
    (case g174 => k_is)
    (case g175 => k_is)
    (case g176 => k_is)
    (case g177 => k_is)
    (case g178 => k_is)
    (case g179 => k_is)
    (case g180 => k_is)
    (case g181 => k_is)
    (case g182 => k_is)
    (case g183 => k_is)
    (case g184 => k_is)
    (case g185 => k_is)
    (case g186 => k_is)
    (case g187 => k_is)
    (case g188 => k_is)
    (case g189 => k_is)
    (case g190 => k_is)
    (case g191 => k_is)
    (case g192 => k_is)
    (case g193 => k_is)
    (case g194 => k_is)
    (case g195 => k_is)
    (case g196 => k_is)
    (case g197 => k_is)
    (case g198 => k_is)
    (case g199 => k_is)
    (case g200 => k_is)
    (case g201 => k_is)
    (case g202 => k_is)
    (case g203 => k_is)
    (case g204 => k_is)
    (case g205 => k_is)
    (case g206 => k_is)
    (case g207 => k_is)
    (case g208 => k_is)
    (case g209 => k_is)
    (case g210 => k_is)
    (case g211 => k_is)
    (case g212 => k_is)
    (case g213 => k_is)
    (case g214 => k_is)
    (case g215 => k_is)
    (case g216 => k_is)
    (case g217 => k_is)
    (case g218 => k_is)
    (case g219 => k_is)
    (case g220 => k_is)
    (case g221 => k_is)
    (case g222 => k_is)
    (case g223 => k_is)
    (case g224 => k_is)
    (case g225 => k_is)
    (case g226 => k_is)
    (case g227 => k_is)
    (case g228 => k_is)
    (case g229 => k_is)
    (case g230 => k_is)
    (case g231 => k_is)
    (case g232 => k_is)
    (case g233 => k_is)
    (case g234 => k_is)
    (case g235 => k_is)
    (case g236 => k_is)
    (case g237 => k_is)
    (case g238 => k_is)
    (case g239 => k_is)
    (case g240 => k_is)
    (case g241 => k_is)
    (case g242 => k_is)
    (case g243 => k_is)
    (case g244 => k_is)
    (case g245 => k_is)
    (case g246 => k_is)
    (case g247 => k_is)
    (case g248 => k_is)
    (case g249 => k_is)
    (case g250 => k_is)
    (case g251 => k_is)
    (case g252 => k_is)
    (case g253 => k_is)
    (case g254 => k_is)
    (case g255 => k_is)
    (case g256 => k_is)
    (case g257 => k_is)
    (case g258 => k_is)
    (case g259 => k_is)
    (case g260 => k_is)
    (case g261 => k_is)
    (case g262 => k_is)
    (case g263 => k_is)
    (case g264 => k_is)
    (case g265 => k_is)
    (case g266 => k_is)
    (case g267 => k_is)
    (case g268 => k_is)
    (case g269 => k_is)
    (case g270 => k_is)
    (case g271 => k_is)
    (case g272 => k_is)
    (case g273 => k_is)
    (case g274 => k_is)
    (case g275 => k_is)
    (case g276 => k_is)
    (case g277 => k_is)
    (case g278 => k_is)
    (case g279 => k_is)
    (case g280 => k_is)
    (case g281 => k_is)
    (case g282 => k_is)
    (case g283 => k_is)
    (case g284 => k_is)
    (case g285 => k_is)
    (case g286 => k_is)
    (case g287 => k_is)
    (case g288 => k_is)
    (case g289 => k_is)
    (case g290 => k_is)
    (case g291 => k_is)
    (case g292 => k_is)
    (case g293 => k_is)
    (case g294 => k_is)
    (case g295 => k_is)
    (case g296 => k_is)
    (case g297 => k_is)
    (case g298 => k_is))
