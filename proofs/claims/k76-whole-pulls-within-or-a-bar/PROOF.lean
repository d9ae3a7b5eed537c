import PyProof.Rows.All
import Wide.All
import OpenK.AllK
import Wide.FinOn
import HandS.ForMost
import HandS.Style
import HandS.IsInst
import HandS.Zip
import HandS.Wide
import HandS.TupAny
import HandS.TupMul
import HandS.SortInts
import HandS.More
import HandS.Steps
import KE.GoesEnum
import HandS.SetFor
import HandS.Exc
import KE.KExcSuper
import HandS.ExcOwn
import HandS.WordsExc
import KE.KExcIs
import KE.IntBitsLaws
import HandS.Set
import HandS.Strs
import HandS.EndBits
import PyProof.ReprRoads
import PyProof.Rows.RegStrFacts
import PySem.Challenge.RW_everyflow_k76_whole_pulls_within_or_a_ba
set_option Elab.async false
set_option linter.all false
set_option maxRecDepth 100000
set_option maxHeartbeats 2000000
namespace EW
/-! ## relaxing steps; ghost: the round and the tick of a place's last lowering -/
/-- from, to, weight, arrow, sign -/
abbrev Stp := Nat × Nat × Int × Nat × Int
def fset {α : Type} (f : Nat → α) (v : Nat) (x : α) : Nat → α := fun u => if u = v then x else f u
theorem fset_same {α : Type} {f : Nat → α} {v : Nat} {x : α} : fset f v x v = x := by unfold fset; rw [if_pos rfl]
theorem fset_ne {α : Type} {f : Nat → α} {v u : Nat} {x : α} (h : u ≠ v) : fset f v x u = f u := by unfold fset; rw [if_neg h]
def violB (h : Nat → Option Int) (e : Stp) : Bool := match h e.1 with
  | none => false
  | some a => match h e.2.1 with
    | none => true
    | some b => decide (a + e.2.2.1 < b)
def newH (h : Nat → Option Int) (e : Stp) : Int := (h e.1).getD 0 + e.2.2.1
structure BS where
  h : Nat → Option Int
  l : Nat → Option Stp
  r : Nat → Nat
  t : Nat → Nat
  now : Nat
def rel (k : Nat) (s : BS) (e : Stp) : BS :=
  if violB s.h e = true then ⟨fset s.h e.2.1 (some (newH s.h e)), fset s.l e.2.1 (some e), fset s.r e.2.1 k, fset s.t e.2.1 (s.now + 1), s.now + 1⟩ else s
theorem viol_some {h : Nat → Option Int} {e : Stp} (q : violB h e = true) : ∃ a, h e.1 = some a ∧ newH h e = a + e.2.2.1 ∧ ∀ b, h e.2.1 = some b → a + e.2.2.1 < b := by
  unfold violB at q
  cases ha : h e.1 with
  | none => rw [ha] at q; simp at q
  | some a =>
    rw [ha] at q
    refine ⟨a, rfl, by unfold newH; rw [ha]; rfl, fun b hb => ?_⟩
    rw [hb] at q
    exact of_decide_eq_true q
theorem viol_not {h : Nat → Option Int} {e : Stp} {a : Int} (q : violB h e = false) (ha : h e.1 = some a) : ∃ b, h e.2.1 = some b ∧ b ≤ a + e.2.2.1 := by
  unfold violB at q
  rw [ha] at q
  cases hb : h e.2.1 with
  | none => rw [hb] at q; simp at q
  | some b =>
    rw [hb] at q
    have := of_decide_eq_false q
    exact ⟨b, rfl, by omega⟩
theorem viol_of {h : Nat → Option Int} {e : Stp} {a : Int} (ha : h e.1 = some a) (hb : ∀ b, h e.2.1 = some b → a + e.2.2.1 < b) : violB h e = true := by
  unfold violB
  rw [ha]
  cases q : h e.2.1 with
  | none => rfl
  | some b => exact decide_eq_true (hb b q)

structure Iv (steps : List Stp) (k : Nat) (s : BS) : Prop where
  tle : ∀ v, s.t v ≤ s.now
  rk : ∀ v, s.r v ≤ k
  l1 : ∀ v e, s.l v = some e → e ∈ steps ∧ e.2.1 = v ∧ ∃ a b, s.h e.1 = some a ∧ s.h v = some b ∧ a + e.2.2.1 ≤ b ∧ (s.t v ≤ s.t e.1 → a + e.2.2.1 < b)
  l2 : ∀ v e, s.l v = some e → s.r v ≤ s.r e.1 + 1
  l3 : ∀ v, 0 < s.r v → s.l v ≠ none

theorem rel_iv {steps : List Stp} {k : Nat} {s : BS} {e : Stp} (I : Iv steps k s) (he : e ∈ steps) (hk : violB s.h e = true → k ≤ s.r e.1 + 1) : Iv steps k (rel k s e) := by
  unfold rel
  by_cases q : violB s.h e = true
  · rw [if_pos q]
    obtain ⟨a, ha, hn, hb⟩ := viol_some q
    have hk' := hk q
    constructor
    · intro v
      by_cases hv : v = e.2.1
      · subst hv
        show fset s.t e.2.1 (s.now + 1) e.2.1 ≤ s.now + 1
        rw [fset_same]
        exact Nat.le_refl _
      · show fset s.t e.2.1 (s.now + 1) v ≤ s.now + 1
        rw [fset_ne hv]
        exact Nat.le_succ_of_le (I.tle v)
    · intro v
      by_cases hv : v = e.2.1
      · subst hv
        show fset s.r e.2.1 k e.2.1 ≤ k
        rw [fset_same]
        exact Nat.le_refl _
      · show fset s.r e.2.1 k v ≤ k
        rw [fset_ne hv]
        exact I.rk v
    · intro v e' hl
      have hl : fset s.l e.2.1 (some e) v = some e' := hl
      show e' ∈ steps ∧ e'.2.1 = v ∧ ∃ a b, fset s.h e.2.1 (some (newH s.h e)) e'.1 = some a ∧ fset s.h e.2.1 (some (newH s.h e)) v = some b ∧ a + e'.2.2.1 ≤ b ∧ (fset s.t e.2.1 (s.now + 1) v ≤ fset s.t e.2.1 (s.now + 1) e'.1 → a + e'.2.2.1 < b)
      by_cases hv : v = e.2.1
      · rw [hv, fset_same] at hl
        cases hl
        refine ⟨he, hv.symm, ?_⟩
        rw [hv, fset_same, fset_same, hn]
        by_cases hs : e.1 = e.2.1
        · rw [hs, fset_same, fset_same]
          have h1 := hb a (by rw [← hs]; exact ha)
          exact ⟨_, _, rfl, rfl, by omega, fun _ => by omega⟩
        · rw [fset_ne hs, fset_ne hs]
          refine ⟨a, _, ha, rfl, Int.le_refl _, fun z => ?_⟩
          have := I.tle e.1
          omega
      · rw [fset_ne hv] at hl
        obtain ⟨m, ev, a', b', ha', hb', hle, hlt⟩ := I.l1 v e' hl
        refine ⟨m, ev, ?_⟩
        rw [fset_ne hv, fset_ne hv]
        by_cases hs : e'.1 = e.2.1
        · rw [hs, fset_same, fset_same, hn]
          have h1 := hb a' (by rw [← hs]; exact ha')
          exact ⟨_, b', rfl, hb', by omega, fun _ => by omega⟩
        · rw [fset_ne hs, fset_ne hs]
          exact ⟨a', b', ha', hb', hle, hlt⟩
    · intro v e' hl
      have hl : fset s.l e.2.1 (some e) v = some e' := hl
      show fset s.r e.2.1 k v ≤ fset s.r e.2.1 k e'.1 + 1
      by_cases hv : v = e.2.1
      · rw [hv, fset_same] at hl
        cases hl
        rw [hv, fset_same]
        by_cases hs : e.1 = e.2.1
        · rw [hs, fset_same]
          omega
        · rw [fset_ne hs]
          exact hk'
      · rw [fset_ne hv] at hl
        rw [fset_ne hv]
        have h1 := I.l2 v e' hl
        have h2 := I.rk v
        by_cases hs : e'.1 = e.2.1
        · rw [hs, fset_same]
          omega
        · rw [fset_ne hs]
          exact h1
    · intro v hr
      have hr : 0 < fset s.r e.2.1 k v := hr
      show fset s.l e.2.1 (some e) v ≠ none
      by_cases hv : v = e.2.1
      · rw [hv, fset_same]
        exact fun z => nomatch z
      · rw [fset_ne hv] at hr
        rw [fset_ne hv]
        exact I.l3 v hr
  · rw [if_neg q]
    exact I
/-- of another step: violated behind, then ahead, or its source was lowered in this round -/
theorem rel_viol {k : Nat} {s : BS} {e e' : Stp} (hr : ∀ v, s.r v ≤ k) (q' : violB (rel k s e).h e' = true) : (violB s.h e' = true ∧ (rel k s e).r e'.1 = s.r e'.1) ∨ (rel k s e).r e'.1 = k := by
  unfold rel at q' ⊢
  by_cases q : violB s.h e = true
  · rw [if_pos q] at q' ⊢
    by_cases hs : e'.1 = e.2.1
    · right
      show fset s.r e.2.1 k e'.1 = k
      rw [hs, fset_same]
    · left
      obtain ⟨a, ha, hn, hb⟩ := viol_some q
      obtain ⟨a', ha', _, hb'⟩ := viol_some q'
      have ha' : fset s.h e.2.1 (some (newH s.h e)) e'.1 = some a' := ha'
      rw [fset_ne hs] at ha'
      refine ⟨viol_of ha' fun b hbb => ?_, ?_⟩
      · by_cases hd : e'.2.1 = e.2.1
        · have h1 := hb' (newH s.h e) (by
            show fset s.h e.2.1 (some (newH s.h e)) e'.2.1 = _
            rw [hd, fset_same])
          have h2 := hb b (by rw [← hd]; exact hbb)
          omega
        · exact hb' b (by
            show fset s.h e.2.1 (some (newH s.h e)) e'.2.1 = _
            rw [fset_ne hd]
            exact hbb)
      · show fset s.r e.2.1 k e'.1 = s.r e'.1
        rw [fset_ne hs]
  · rw [if_neg q] at q' ⊢
    exact .inl ⟨q', rfl⟩
theorem rel_self {k : Nat} {s : BS} {e : Stp} (q' : violB (rel k s e).h e = true) : (rel k s e).r e.1 = k := by
  unfold rel at q' ⊢
  by_cases q : violB s.h e = true
  · rw [if_pos q] at q' ⊢
    show fset s.r e.2.1 k e.1 = k
    by_cases hs : e.1 = e.2.1
    · rw [hs, fset_same]
    · exfalso
      obtain ⟨a, ha, hn, hb⟩ := viol_some q
      obtain ⟨a', ha', _, hb'⟩ := viol_some q'
      have ha' : fset s.h e.2.1 (some (newH s.h e)) e.1 = some a' := ha'
      rw [fset_ne hs, ha] at ha'
      cases ha'
      have h1 := hb' (newH s.h e) (by
        show fset s.h e.2.1 (some (newH s.h e)) e.2.1 = _
        rw [fset_same])
      omega
  · rw [if_neg q] at q'
    exact absurd q' q
theorem rel_r_mono {k : Nat} {s : BS} {e : Stp} (hr : ∀ v, s.r v ≤ k) (v : Nat) : s.r v ≤ (rel k s e).r v := by
  unfold rel
  by_cases q : violB s.h e = true
  · rw [if_pos q]
    show s.r v ≤ fset s.r e.2.1 k v
    by_cases hv : v = e.2.1
    · rw [hv, fset_same]
      exact hr _
    · rw [fset_ne hv]
      exact Nat.le_refl _
  · rw [if_neg q]
    exact Nat.le_refl _
theorem round_iv {steps : List Stp} {k : Nat} : ∀ (post pre : List Stp) (s : BS), (∀ e ∈ post, e ∈ steps) → Iv steps k s → (∀ e ∈ post, violB s.h e = true → k ≤ s.r e.1 + 1) → (∀ e ∈ pre, violB s.h e = true → k ≤ s.r e.1) →
    Iv steps k (post.foldl (rel k) s) ∧ ∀ e, e ∈ pre ∨ e ∈ post → violB (post.foldl (rel k) s).h e = true → k ≤ (post.foldl (rel k) s).r e.1
  | [], pre, s, _, I, _, h2 => ⟨I, fun e he q => h2 e (by simpa using he) q⟩
  | e :: post, pre, s, hm, I, h1, h2 => by
    have I' := rel_iv I (hm e List.mem_cons_self) (h1 e List.mem_cons_self)
    have r := round_iv post (pre ++ [e]) (rel k s e) (fun x hx => hm x (List.mem_cons_of_mem _ hx)) I' (fun x hx q => ?_) (fun x hx q => ?_)
    · refine ⟨r.1, fun x hx q => r.2 x ?_ q⟩
      rcases hx with hx | hx
      · exact .inl (List.mem_append_left _ hx)
      · rcases List.mem_cons.mp hx with rfl | hx
        · exact .inl (List.mem_append_right _ (by simp))
        · exact .inr hx
    · rcases rel_viol I.rk q with ⟨q1, q2⟩ | q2
      · rw [q2]
        exact h1 x (List.mem_cons_of_mem _ hx) q1
      · rw [q2]
        omega
    · rcases List.mem_append.mp hx with hx | hx
      · rcases rel_viol I.rk q with ⟨q1, q2⟩ | q2
        · rw [q2]
          exact h2 x hx q1
        · rw [q2]
          exact Nat.le_refl _
      · have ex : x = e := by simpa using hx
        subst ex
        rw [rel_self q]
        exact Nat.le_refl _
theorem Iv.up {steps : List Stp} {k : Nat} {s : BS} (I : Iv steps k s) : Iv steps (k + 1) s := ⟨I.tle, fun v => Nat.le_succ_of_le (I.rk v), I.l1, I.l2, I.l3⟩
def s0 (h : Nat → Option Int) : BS := ⟨h, fun _ => none, fun _ => 0, fun _ => 0, 0⟩
theorem s0_iv (steps : List Stp) (h : Nat → Option Int) : Iv steps 0 (s0 h) :=
  ⟨fun _ => Nat.le_refl _, fun _ => Nat.le_refl _, fun _ _ z => (nomatch z), fun _ _ z => (nomatch z), fun _ z => absurd z (Nat.lt_irrefl _)⟩
/-- k rounds, numbered from 1 -/
def rounds (steps : List Stp) : Nat → BS → BS
  | 0, s => s
  | k + 1, s => steps.foldl (rel (k + 1)) (rounds steps k s)
theorem rounds_iv (steps : List Stp) (h : Nat → Option Int) : ∀ k, Iv steps k (rounds steps k (s0 h)) ∧ ∀ e ∈ steps, violB (rounds steps k (s0 h)).h e = true → k ≤ (rounds steps k (s0 h)).r e.1
  | 0 => ⟨s0_iv steps h, fun _ _ _ => Nat.zero_le _⟩
  | k + 1 => by
    obtain ⟨I, hv⟩ := rounds_iv steps h k
    have r := round_iv (steps := steps) steps [] (rounds steps k (s0 h)) (fun e he => he) I.up (fun e he q => Nat.succ_le_succ (hv e he q)) (fun e he => by simp at he)
    exact ⟨r.1, fun e he q => r.2 e (.inr he) q⟩
/-- a round lowers some place, or it finds all well and leaves all -/
theorem fold_or {k : Nat} : ∀ (es : List Stp) (s : BS), (∀ v, s.r v ≤ k) → (∃ e ∈ es, (es.foldl (rel k) s).r e.2.1 = k) ∨ (es.foldl (rel k) s = s ∧ ∀ e ∈ es, violB s.h e = false)
  | [], s, _ => .inr ⟨rfl, fun _ h => by simp at h⟩
  | e :: es, s, hr => by
    have keep : ∀ (l : List Stp) (s : BS) (v : Nat), (∀ v, s.r v ≤ k) → s.r v = k → (l.foldl (rel k) s).r v = k := by
      intro l
      induction l with
      | nil => intro s v _ h; exact h
      | cons x l ih =>
        intro s v hr h
        have hr' : ∀ v, (rel k s x).r v ≤ k := fun v => by
          unfold rel
          by_cases q : violB s.h x = true
          · rw [if_pos q]
            show fset s.r x.2.1 k v ≤ k
            by_cases hv : v = x.2.1
            · rw [hv, fset_same]; exact Nat.le_refl _
            · rw [fset_ne hv]; exact hr v
          · rw [if_neg q]; exact hr v
        exact ih (rel k s x) v hr' (Nat.le_antisymm (hr' v) (Nat.le_trans (Nat.le_of_eq h.symm) (rel_r_mono hr v)))
    by_cases q : violB s.h e = true
    · left
      refine ⟨e, List.mem_cons_self, ?_⟩
      have e1 : (rel k s e).r e.2.1 = k := by
        unfold rel
        rw [if_pos q]
        exact fset_same
      have hr' : ∀ v, (rel k s e).r v ≤ k := fun v => by
        unfold rel
        rw [if_pos q]
        show fset s.r e.2.1 k v ≤ k
        by_cases hv : v = e.2.1
        · rw [hv, fset_same]; exact Nat.le_refl _
        · rw [fset_ne hv]; exact hr v
      exact keep es _ _ hr' e1
    · have e1 : rel k s e = s := by
        unfold rel
        rw [if_neg q]
      rcases fold_or es s hr with ⟨x, hx, h⟩ | ⟨h1, h2⟩
      · left
        refine ⟨x, List.mem_cons_of_mem _ hx, ?_⟩
        show (es.foldl (rel k) (rel k s e)).r x.2.1 = k
        rw [e1]
        exact h
      · right
        refine ⟨?_, fun x hx => ?_⟩
        · show es.foldl (rel k) (rel k s e) = s
          rw [e1]
          exact h1
        · rcases List.mem_cons.mp hx with rfl | hx
          · exact Bool.eq_false_iff.mpr q
          · exact h2 x hx

/-! ## going back along the last steps -/
def nx (l : Nat → Option Stp) (v : Nat) : Nat := match l v with
  | some e => e.1
  | none => v
def it (l : Nat → Option Stp) : Nat → Nat → Nat
  | 0, v => v
  | j + 1, v => nx l (it l j v)
theorem it_add (l : Nat → Option Stp) (i v : Nat) : ∀ m, it l (m + i) v = it l m (it l i v)
  | 0 => by rw [Nat.zero_add]; rfl
  | m + 1 => by
    rw [Nat.succ_add]
    show nx l (it l (m + i) v) = nx l (it l m (it l i v))
    rw [it_add l i v m]
theorem pig : ∀ (n : Nat) (f : Nat → Nat), (∀ j, j ≤ n → f j < n) → ∃ i j, i < j ∧ j ≤ n ∧ f i = f j
  | 0, f, h => absurd (h 0 (Nat.le_refl _)) (Nat.not_lt_zero _)
  | n + 1, f, h => by
    by_cases q : ∃ j, j ≤ n ∧ f j = f (n + 1)
    · obtain ⟨j, hj, e⟩ := q
      exact ⟨j, n + 1, by omega, Nat.le_refl _, e⟩
    · have hne : ∀ j, j ≤ n → f j ≠ f (n + 1) := fun j hj e => q ⟨j, hj, e⟩
      have hc := h (n + 1) (Nat.le_refl _)
      obtain ⟨i, j, hij, hjn, e⟩ := pig n (fun j => if f (n + 1) < f j then f j - 1 else f j) (fun j hj => by
        have h1 := h j (by omega)
        have h2 := hne j hj
        show (if f (n + 1) < f j then f j - 1 else f j) < n
        split <;> omega)
      refine ⟨i, j, hij, by omega, ?_⟩
      have h1 := hne i (by omega)
      have h2 := hne j hjn
      have e : (if f (n + 1) < f i then f i - 1 else f i) = (if f (n + 1) < f j then f j - 1 else f j) := e
      split at e <;> split at e <;> omega
theorem least {P : Nat → Prop} (h : ∃ n, P n) : ∃ n, P n ∧ ∀ m, m < n → ¬ P m := by
  obtain ⟨n, hn⟩ := h
  induction n using Nat.strongRecOn with
  | ind n ih =>
    by_cases q : ∃ m, m < n ∧ P m
    · obtain ⟨m, h1, h2⟩ := q
      exact ih m h1 h2
    · exact ⟨n, hn, fun m h1 h2 => q ⟨m, h1, h2⟩⟩
/-- the weights of the first m last steps back from z -/
def back (l : Nat → Option Stp) (z : Nat) : Nat → Int
  | 0 => 0
  | m + 1 => back l z m + (match l (it l m z) with | some e => e.2.2.1 | none => 0)
structure Cyc (steps : List Stp) (l : Nat → Option Stp) (z p : Nat) : Prop where
  pos : 0 < p
  home : it l p z = z
  all : ∀ m, ∃ e, l (it l m z) = some e ∧ e ∈ steps ∧ e.2.1 = it l m z ∧ e.1 = it l (m + 1) z
  inj : ∀ a b, a < b → b < p → it l a z ≠ it l b z
  neg : back l z p < 0
theorem r_back {steps : List Stp} {k : Nat} {s : BS} (I : Iv steps k s) (v : Nat) : ∀ j, s.r v ≤ s.r (it s.l j v) + j
  | 0 => Nat.le_refl _
  | j + 1 => by
    have h := r_back I v j
    have h2 : s.r (it s.l j v) ≤ s.r (it s.l (j + 1) v) + 1 := by
      show s.r (it s.l j v) ≤ s.r (nx s.l (it s.l j v)) + 1
      unfold nx
      cases q : s.l (it s.l j v) with
      | none => exact Nat.le_succ _
      | some e => exact I.l2 _ e q
    omega
theorem cyc_of {steps : List Stp} {k n : Nat} {s : BS} (I : Iv steps k s) (hn : ∀ e ∈ steps, e.1 < n ∧ e.2.1 < n) {v : Nat} (hv : v < n) (hr : n + 1 ≤ s.r v) : ∃ p, Cyc steps s.l (it s.l n v) p := by
  have hl : ∀ j, j ≤ n → s.l (it s.l j v) ≠ none := fun j hj => I.l3 _ (by have := r_back I v j; omega)
  have hlt : ∀ j, j ≤ n → it s.l j v < n := fun j hj => by
    cases q : s.l (it s.l j v) with
    | none => exact absurd q (hl j hj)
    | some e =>
      obtain ⟨m, e1, _⟩ := I.l1 _ e q
      rw [← e1]
      exact (hn e m).2
  obtain ⟨i, j, hij, hjn, e⟩ := pig n (fun j => it s.l j v) hlt
  have e : it s.l i v = it s.l j v := e
  have shift : ∀ m, it s.l (m + i) v = it s.l (m + j) v := fun m => by rw [it_add, it_add, e]
  -- every place behind is one of the first n + 1
  have orb : ∀ m, ∃ a, a ≤ n ∧ it s.l m (it s.l n v) = it s.l a v := by
    intro m
    induction m with
    | zero => exact ⟨n, Nat.le_refl _, rfl⟩
    | succ m ih =>
      obtain ⟨a, ha, ea⟩ := ih
      have e1 : it s.l (m + 1) (it s.l n v) = it s.l (a + 1) v := by
        show nx s.l (it s.l m (it s.l n v)) = nx s.l (it s.l a v)
        rw [ea]
      by_cases h : a + 1 ≤ n
      · exact ⟨a + 1, h, e1⟩
      · have h2 := shift (a + 1 - j)
        rw [show a + 1 - j + j = a + 1 by omega] at h2
        exact ⟨a + 1 - j + i, by omega, e1.trans h2.symm⟩
  have hsome : ∀ m, ∃ e, s.l (it s.l m (it s.l n v)) = some e := fun m => by
    obtain ⟨a, ha, ea⟩ := orb m
    rw [ea]
    cases q : s.l (it s.l a v) with
    | none => exact absurd q (hl a ha)
    | some e => exact ⟨e, rfl⟩
  have hper : it s.l (j - i) (it s.l n v) = it s.l n v := by
    have h2 := shift (n - i)
    rw [show n - i + i = n by omega, show n - i + j = (j - i) + n by omega] at h2
    rw [← it_add]
    exact h2.symm
  obtain ⟨p, ⟨hp, hhome⟩, hmin⟩ := least (P := fun p => 0 < p ∧ it s.l p (it s.l n v) = it s.l n v) ⟨j - i, by omega, hper⟩
  generalize it s.l n v = z at *
  have hall : ∀ m, ∃ e, s.l (it s.l m z) = some e ∧ e ∈ steps ∧ e.2.1 = it s.l m z ∧ e.1 = it s.l (m + 1) z := fun m => by
    obtain ⟨e, he⟩ := hsome m
    obtain ⟨h1, h2, _⟩ := I.l1 _ e he
    refine ⟨e, he, h1, h2, ?_⟩
    show e.1 = nx s.l (it s.l m z)
    unfold nx
    rw [he]
  refine ⟨p, hp, hhome, hall, fun a b hab hbp eab => ?_, ?_⟩
  · have h1 : it s.l ((p - b) + a) z = it s.l ((p - b) + b) z := by rw [it_add, it_add, eab]
    rw [show p - b + b = p by omega, hhome] at h1
    exact hmin (p - b + a) (by omega) ⟨by omega, h1⟩
  · have key : ∀ m, ∃ a b, s.h z = some b ∧ s.h (it s.l m z) = some a ∧ a + back s.l z m ≤ b ∧ (a + back s.l z m = b → s.t (it s.l m z) + m ≤ s.t z) := by
      intro m
      induction m with
      | zero =>
        obtain ⟨e, he, _⟩ := hall 0
        obtain ⟨_, _, _, b, _, hb, _⟩ := I.l1 _ e he
        exact ⟨b, b, hb, hb, by show b + 0 ≤ b; omega, fun _ => Nat.le_refl _⟩
      | succ m ih =>
        obtain ⟨a, b, hb, ha, hle, hlt⟩ := ih
        obtain ⟨e, he, _, _, e1⟩ := hall m
        obtain ⟨_, _, a2, b2, ha2, hb2, hle2, hlt2⟩ := I.l1 _ e he
        rw [ha] at hb2
        cases hb2
        have eb : back s.l z (m + 1) = back s.l z m + e.2.2.1 := by
          show back s.l z m + (match s.l (it s.l m z) with | some e => e.2.2.1 | none => 0) = _
          rw [he]
        rw [e1] at ha2 hlt2
        refine ⟨a2, b, hb, ha2, by rw [eb]; omega, fun q => ?_⟩
        rw [eb] at q
        have h3 : a + back s.l z m = b := by omega
        have h4 := hlt h3
        have h5 : ¬ s.t (it s.l m z) ≤ s.t (it s.l (m + 1) z) := fun z' => by
          have := hlt2 z'
          omega
        omega
    obtain ⟨a, b, hb, ha, hle, hlt⟩ := key p
    rw [hhome, hb] at ha
    cases ha
    rw [hhome] at hlt
    by_cases q : back s.l z p < 0
    · exact q
    · exfalso
      have h2 := hlt (by omega)
      omega
/-- heights that ask nothing more -/
def Feas (steps : List Stp) (P : Nat → Int) : Prop := ∀ e ∈ steps, P e.2.1 ≤ P e.1 + e.2.2.1
theorem Cyc.nofeas {steps : List Stp} {l : Nat → Option Stp} {z p : Nat} (C : Cyc steps l z p) {P : Nat → Int} (F : Feas steps P) : False := by
  have key : ∀ m, P z ≤ P (it l m z) + back l z m := by
    intro m
    induction m with
    | zero => show P z ≤ P z + 0; omega
    | succ m ih =>
      obtain ⟨e, he, hm, h1, h2⟩ := C.all m
      have h3 := F e hm
      have eb : back l z (m + 1) = back l z m + e.2.2.1 := by
        show back l z m + (match l (it l m z) with | some e => e.2.2.1 | none => 0) = _
        rw [he]
      rw [eb, ← h2]
      rw [h1] at h3
      omega
  have h := key p
  rw [C.home] at h
  have := C.neg
  omega
/-- with heights that ask nothing more all is well behind n rounds -/
theorem rounds_still {steps : List Stp} {n : Nat} (hn : ∀ e ∈ steps, e.1 < n ∧ e.2.1 < n) {P : Nat → Int} (F : Feas steps P) (h : Nat → Option Int) : ∀ e ∈ steps, violB (rounds steps n (s0 h)).h e = false := by
  obtain ⟨I, _⟩ := rounds_iv steps h n
  obtain ⟨I', _⟩ := rounds_iv steps h (n + 1)
  rcases fold_or (k := n + 1) steps (rounds steps n (s0 h)) (fun v => Nat.le_succ_of_le (I.rk v)) with ⟨e, he, hr⟩ | ⟨_, h2⟩
  · exfalso
    obtain ⟨p, C⟩ := cyc_of I' hn (hn e he).2 (Nat.le_of_eq hr.symm)
    exact C.nofeas F
  · exact h2
end EW
namespace EW
/-! ## the least sums of ways, place by place -/
abbrev Tab := Nat → Nat → Option Int
def fset2 (T : Tab) (x y : Nat) (v : Option Int) : Tab := fun a b => if a = x ∧ b = y then v else T a b
def low (T : Tab) (x y : Nat) (w : Int) : Tab := match T x y with
  | none => fset2 T x y (some w)
  | some t => if w < t then fset2 T x y (some w) else T
def step1 (T : Tab) (e : Stp) : Tab := low T e.1 e.2.1 e.2.2.1
def fw1 (z x : Nat) (T : Tab) (y : Nat) : Tab := match T x z with
  | none => T
  | some a => match T z y with
    | none => T
    | some b => low T x y (a + b)
def fwX (n z : Nat) (T : Tab) (x : Nat) : Tab := (List.range n).foldl (fw1 z x) T
def fwZ (n : Nat) (T : Tab) (z : Nat) : Tab := (List.range n).foldl (fwX n z) T
def tab0 : Tab := fun x y => if x = y then some 0 else none
def tab1 (steps : List Stp) : Tab := steps.foldl step1 tab0
def tab (n : Nat) (steps : List Stp) : Tab := (List.range n).foldl (fwZ n) (tab1 steps)
def Le (U T : Tab) : Prop := ∀ x y t, T x y = some t → ∃ u, U x y = some u ∧ u ≤ t
theorem Le.refl (T : Tab) : Le T T := fun _ _ t h => ⟨t, h, Int.le_refl _⟩
theorem Le.trans {A B C : Tab} (h : Le A B) (k : Le B C) : Le A C := fun x y t e => by
  obtain ⟨u, e1, l1⟩ := k x y t e
  obtain ⟨v, e2, l2⟩ := h x y u e1
  exact ⟨v, e2, by omega⟩
theorem low_ne {T : Tab} {x y a b : Nat} {w : Int} (h : ¬ (a = x ∧ b = y)) : low T x y w a b = T a b := by
  unfold low
  cases T x y with
  | none => exact if_neg h
  | some t =>
    show (if w < t then fset2 T x y (some w) else T) a b = T a b
    split
    · exact if_neg h
    · rfl
theorem low_at (T : Tab) (x y : Nat) (w : Int) : ∃ u, low T x y w x y = some u ∧ u ≤ w ∧ (u = w ∨ T x y = some u) ∧ ∀ t, T x y = some t → u ≤ t := by
  unfold low
  cases q : T x y with
  | none => exact ⟨w, if_pos ⟨rfl, rfl⟩, Int.le_refl _, .inl rfl, fun t h => nomatch h⟩
  | some t =>
    by_cases h : w < t
    · refine ⟨w, ?_, Int.le_refl _, .inl rfl, fun u e => ?_⟩
      · show (if w < t then fset2 T x y (some w) else T) x y = some w
        rw [if_pos h]
        exact if_pos ⟨rfl, rfl⟩
      · cases e
        omega
    · refine ⟨t, ?_, by omega, .inr rfl, fun u e => ?_⟩
      · show (if w < t then fset2 T x y (some w) else T) x y = some t
        rw [if_neg h]
        exact q
      · cases e
        exact Int.le_refl _
theorem low_le (T : Tab) (x y : Nat) (w : Int) : Le (low T x y w) T := fun a b t h => by
  by_cases e : a = x ∧ b = y
  · obtain ⟨rfl, rfl⟩ := e
    obtain ⟨u, h1, _, _, h4⟩ := low_at T a b w
    exact ⟨u, h1, h4 t h⟩
  · rw [low_ne e]
    exact ⟨t, h, Int.le_refl _⟩
theorem fw1_le (z x : Nat) (T : Tab) (y : Nat) : Le (fw1 z x T y) T := by
  unfold fw1
  split
  · exact Le.refl T
  · split
    · exact Le.refl T
    · exact low_le _ _ _ _
theorem fold_le {α : Type} {f : Tab → α → Tab} (h : ∀ T a, Le (f T a) T) : ∀ (l : List α) (T : Tab), Le (l.foldl f T) T
  | [], T => Le.refl T
  | a :: l, T => (fold_le h l (f T a)).trans (h T a)
theorem fwX_le (n z : Nat) (T : Tab) (x : Nat) : Le (fwX n z T x) T := fold_le (fw1_le z x) _ _
theorem fwZ_le (n : Nat) (T : Tab) (z : Nat) : Le (fwZ n T z) T := fold_le (fwX_le n z) _ _
/-- what no heights can break -/
def Real (P : Nat → Int) (T : Tab) : Prop := ∀ x y t, T x y = some t → P y ≤ P x + t
theorem low_real {P : Nat → Int} {T : Tab} {x y : Nat} {w : Int} (r : Real P T) (h : P y ≤ P x + w) : Real P (low T x y w) := fun a b t e => by
  by_cases q : a = x ∧ b = y
  · obtain ⟨rfl, rfl⟩ := q
    obtain ⟨u, h1, _, h3, _⟩ := low_at T a b w
    rw [h1] at e
    cases e
    rcases h3 with h3 | h3
    · rw [h3]
      exact h
    · exact r _ _ _ h3
  · rw [low_ne q] at e
    exact r _ _ _ e
theorem fw1_real {P : Nat → Int} {T : Tab} (z x y : Nat) (r : Real P T) : Real P (fw1 z x T y) := by
  unfold fw1
  split
  · exact r
  · rename_i a ha
    split
    · exact r
    · rename_i b hb
      have h1 := r _ _ _ ha
      have h2 := r _ _ _ hb
      exact low_real r (by omega)
theorem fold_keep {α β : Type} {f : β → α → β} {I : β → Prop} : ∀ (l : List α) (T : β), (∀ T a, a ∈ l → I T → I (f T a)) → I T → I (l.foldl f T)
  | [], _, _, h => h
  | a :: l, T, k, h => fold_keep l (f T a) (fun T b hb => k T b (List.mem_cons_of_mem _ hb)) (k T a List.mem_cons_self h)
theorem tab_real {n : Nat} {steps : List Stp} {P : Nat → Int} (F : Feas steps P) : Real P (tab n steps) := by
  refine fold_keep _ _ (fun T z _ r => ?_) ?_
  · exact fold_keep (I := Real P) _ _ (fun T x _ r => fold_keep (I := Real P) _ _ (fun T y _ r => fw1_real z x y r) r) r
  · refine fold_keep (I := Real P) _ _ (fun T e he r => low_real r (F e he)) ?_
    intro x y t h
    unfold tab0 at h
    split at h
    · rename_i e
      cases h
      rw [e]
      omega
    · cases h
theorem tab_le1 (n : Nat) (steps : List Stp) : Le (tab n steps) (tab1 steps) := fold_le (fwZ_le n) _ _
theorem tab_diag (n : Nat) (steps : List Stp) (x : Nat) : ∃ t, tab n steps x x = some t ∧ t ≤ 0 :=
  ((tab_le1 n steps).trans (fold_le (fun T e => low_le T _ _ _) steps tab0)) x x 0 (if_pos rfl)
theorem tab_step (n : Nat) {steps : List Stp} {e : Stp} (he : e ∈ steps) : ∃ t, tab n steps e.1 e.2.1 = some t ∧ t ≤ e.2.2.1 := by
  have key : ∀ (l : List Stp) (T : Tab), e ∈ l → ∃ t, l.foldl step1 T e.1 e.2.1 = some t ∧ t ≤ e.2.2.1 := by
    intro l
    induction l with
    | nil => intro T h; simp at h
    | cons x l ih =>
      intro T h
      rcases List.mem_cons.mp h with rfl | h
      · obtain ⟨u, h1, h2, _⟩ := low_at T e.1 e.2.1 e.2.2.1
        obtain ⟨v, h3, h4⟩ := fold_le (fun T e => low_le T _ _ _) l (step1 T e) e.1 e.2.1 u h1
        exact ⟨v, h3, by omega⟩
      · exact ih _ h
  obtain ⟨t, h1, h2⟩ := key steps tab0 he
  obtain ⟨u, h3, h4⟩ := tab_le1 n steps _ _ _ h1
  exact ⟨u, h3, by omega⟩
/-- within a turn for z: T ahead of it, U now, D the pairs that are done -/
structure InZ (n z : Nat) (T : Tab) (D : Nat → Nat → Prop) (U : Tab) : Prop where
  le : Le U T
  col : ∀ x, U x z = T x z
  row : ∀ y, U z y = T z y
  made : ∀ x y u, U x y = some u → T x y = some u ∨ ∃ a b, T x z = some a ∧ T z y = some b ∧ u = a + b
  done : ∀ x y, D x y → ∀ a b, T x z = some a → T z y = some b → ∃ u, U x y = some u ∧ u ≤ a + b
theorem inZ_one {n z : Nat} {T U : Tab} {D : Nat → Nat → Prop} (hz : T z z = some 0) (I : InZ n z T D U) (x y : Nat) : InZ n z T (fun a b => D a b ∨ (a = x ∧ b = y)) (fw1 z x U y) := by
  unfold fw1
  cases ha : U x z with
  | none =>
    refine ⟨I.le, I.col, I.row, I.made, fun a b hD p q hp hq => ?_⟩
    rcases hD with hD | ⟨rfl, rfl⟩
    · exact I.done a b hD p q hp hq
    · rw [← I.col, ha] at hp
      cases hp
  | some a =>
    cases hb : U z y with
    | none =>
      refine ⟨I.le, I.col, I.row, I.made, fun c d hD p q hp hq => ?_⟩
      rcases hD with hD | ⟨rfl, rfl⟩
      · exact I.done c d hD p q hp hq
      · rw [← I.row, hb] at hq
        cases hq
    | some b =>
      show InZ n z T _ (low U x y (a + b))
      have ha' : T x z = some a := by rw [← I.col]; exact ha
      have hb' : T z y = some b := by rw [← I.row]; exact hb
      obtain ⟨u, h1, h2, h3, h4⟩ := low_at U x y (a + b)
      refine ⟨(low_le U x y _).trans I.le, fun c => ?_, fun d => ?_, fun c d v hv => ?_, fun c d hD p q hp hq => ?_⟩
      · by_cases e : c = x ∧ z = y
        · obtain ⟨rfl, rfl⟩ := e
          rw [hz] at hb'
          cases hb'
          have h5 := h4 a ha
          rw [h1, ha']
          rcases h3 with h3 | h3
          · rw [h3]
            congr 1
            omega
          · rw [ha] at h3
            exact h3.symm
        · rw [low_ne e]
          exact I.col c
      · by_cases e : z = x ∧ d = y
        · obtain ⟨rfl, rfl⟩ := e
          rw [hz] at ha'
          cases ha'
          rw [h1, hb']
          rcases h3 with h3 | h3
          · rw [h3]
            congr 1
            omega
          · rw [hb] at h3
            exact h3.symm
        · rw [low_ne e]
          exact I.row d
      · by_cases e : c = x ∧ d = y
        · obtain ⟨rfl, rfl⟩ := e
          rw [h1] at hv
          cases hv
          rcases h3 with h3 | h3
          · exact .inr ⟨a, b, ha', hb', h3⟩
          · exact I.made _ _ _ h3
        · rw [low_ne e] at hv
          exact I.made _ _ _ hv
      · by_cases e : c = x ∧ d = y
        · obtain ⟨rfl, rfl⟩ := e
          rw [ha'] at hp
          rw [hb'] at hq
          cases hp
          cases hq
          exact ⟨u, h1, h2⟩
        · rcases hD with hD | hD
          · rw [low_ne e]
            exact I.done c d hD p q hp hq
          · exact absurd hD e
theorem InZ.mono {n z : Nat} {T U : Tab} {D D' : Nat → Nat → Prop} (I : InZ n z T D U) (h : ∀ a b, D' a b → D a b) : InZ n z T D' U := ⟨I.le, I.col, I.row, I.made, fun a b q => I.done a b (h a b q)⟩
theorem inZ_x {n z : Nat} {T : Tab} (hz : T z z = some 0) (x : Nat) : ∀ (ys : List Nat) {U : Tab} {D : Nat → Nat → Prop}, InZ n z T D U → InZ n z T (fun a b => D a b ∨ (a = x ∧ b ∈ ys)) (ys.foldl (fw1 z x) U)
  | [], U, D, I => I.mono fun a b h => by
    rcases h with h | ⟨_, h⟩
    · exact h
    · simp at h
  | y :: ys, U, D, I => (inZ_x hz x ys (inZ_one hz I x y)).mono fun a b h => by
    rcases h with h | ⟨h1, h2⟩
    · exact .inl (.inl h)
    · rcases List.mem_cons.mp h2 with h2 | h2
      · exact .inl (.inr ⟨h1, h2⟩)
      · exact .inr ⟨h1, h2⟩
theorem inZ_z {n z : Nat} {T : Tab} (hz : T z z = some 0) : ∀ (xs : List Nat) {U : Tab} {D : Nat → Nat → Prop}, InZ n z T D U → InZ n z T (fun a b => D a b ∨ (a ∈ xs ∧ b < n)) (xs.foldl (fwX n z) U)
  | [], U, D, I => I.mono fun a b h => by
    rcases h with h | ⟨h, _⟩
    · exact h
    · simp at h
  | x :: xs, U, D, I => (inZ_z hz xs (inZ_x hz x (List.range n) I)).mono fun a b h => by
    rcases h with h | ⟨h1, h2⟩
    · exact .inl (.inl h)
    · rcases List.mem_cons.mp h1 with h1 | h1
      · exact .inl (.inr ⟨h1, List.mem_range.mpr h2⟩)
      · exact .inr ⟨h1, h2⟩
theorem fwZ_in {n z : Nat} {T : Tab} (hz : T z z = some 0) : InZ n z T (fun a b => a < n ∧ b < n) (fwZ n T z) :=
  (inZ_z (n := n) hz (List.range n) (D := fun _ _ => False) ⟨Le.refl T, fun _ => rfl, fun _ => rfl, fun _ _ _ h => .inl h, fun _ _ h => h.elim⟩).mono fun a b h => .inr ⟨List.mem_range.mpr h.1, h.2⟩
def Clos (n m : Nat) (T : Tab) : Prop := ∀ k, k < m → ∀ x y, x < n → y < n → ∀ a b, T x k = some a → T k y = some b → ∃ u, T x y = some u ∧ u ≤ a + b
theorem fwZ_clos {n z : Nat} {T : Tab} (hz : T z z = some 0) (hzn : z < n) (C : Clos n z T) : Clos n (z + 1) (fwZ n T z) := by
  have I := fwZ_in (n := n) hz
  generalize fwZ n T z = U at I
  intro k hk x y hx hy p q hp hq
  by_cases hkz : k = z
  · subst hkz
    rw [I.col] at hp
    rw [I.row] at hq
    exact I.done x y ⟨hx, hy⟩ p q hp hq
  · have hk' : k < z := by omega
    have hkn : k < n := by omega
    rcases I.made _ _ _ hp with hp | ⟨a1, b1, h1, h2, h3⟩
    · rcases I.made _ _ _ hq with hq | ⟨a2, b2, h4, h5, h6⟩
      · obtain ⟨u, e1, l1⟩ := C k hk' x y hx hy p q hp hq
        obtain ⟨v, e2, l2⟩ := I.le _ _ _ e1
        exact ⟨v, e2, by omega⟩
      · obtain ⟨u, e1, l1⟩ := C k hk' x z hx hzn p a2 hp h4
        obtain ⟨v, e2, l2⟩ := I.done x y ⟨hx, hy⟩ u b2 e1 h5
        exact ⟨v, e2, by omega⟩
    · rcases I.made _ _ _ hq with hq | ⟨a2, b2, h4, h5, h6⟩
      · obtain ⟨u, e1, l1⟩ := C k hk' z y hzn hy b1 q h2 hq
        obtain ⟨v, e2, l2⟩ := I.done x y ⟨hx, hy⟩ a1 u h1 e1
        exact ⟨v, e2, by omega⟩
      · obtain ⟨u, e1, l1⟩ := C k hk' z z hzn hzn b1 a2 h2 h4
        rw [hz] at e1
        cases e1
        obtain ⟨v, e2, l2⟩ := I.done x y ⟨hx, hy⟩ a1 b2 h1 h5
        exact ⟨v, e2, by omega⟩
/-- no place comes back below 0 -/
def NoNeg (n : Nat) (T : Tab) : Prop := ∀ x, x < n → ∀ t, T x x = some t → 0 ≤ t
theorem tab_clos {n : Nat} {steps : List Stp} (N : NoNeg n (tab n steps)) : Clos n n (tab n steps) := by
  have key : ∀ (m : Nat), m ≤ n → ∀ R : Tab, (List.range m).foldl (fwZ n) (tab1 steps) = R → Le (tab n steps) R ∧ Clos n m R := by
    intro m
    induction m with
    | zero => exact fun _ R e => ⟨by rw [← e]; exact tab_le1 n steps, fun k hk => absurd hk (Nat.not_lt_zero _)⟩
    | succ m ih =>
      intro hm R e
      obtain ⟨_, hC⟩ := ih (by omega) _ rfl
      rw [List.range_succ, List.foldl_append] at e
      have e : fwZ n ((List.range m).foldl (fwZ n) (tab1 steps)) m = R := e
      have hle : Le (tab n steps) ((List.range m).foldl (fwZ n) (tab1 steps)) := (ih (by omega) _ rfl).1
      have hz : (List.range m).foldl (fwZ n) (tab1 steps) m m = some 0 := by
        obtain ⟨t, h1, h2⟩ := ((fold_le (fwZ_le n) (List.range m) (tab1 steps)).trans (fold_le (fun T e => low_le T _ _ _) steps tab0)) m m 0 (if_pos rfl)
        obtain ⟨u, h3, h4⟩ := hle _ _ _ h1
        have h5 := N m (by omega) u h3
        rw [h1]
        congr 1
        omega
      rw [← e]
      refine ⟨?_, fwZ_clos hz (by omega) hC⟩
      have split : ∀ (a b : Nat), (List.range (a + b)).foldl (fwZ n) (tab1 steps) = ((List.range b).map (a + ·)).foldl (fwZ n) ((List.range a).foldl (fwZ n) (tab1 steps)) := fun a b => by
        rw [List.range_add, List.foldl_append]
      have e2 : tab n steps = ((List.range (n - (m + 1))).map ((m + 1) + ·)).foldl (fwZ n) ((List.range (m + 1)).foldl (fwZ n) (tab1 steps)) := by
        rw [← split]
        show (List.range n).foldl (fwZ n) (tab1 steps) = _
        rw [show m + 1 + (n - (m + 1)) = n by omega]
      rw [e2, List.range_succ, List.foldl_append]
      exact fold_le (fwZ_le n) _ _
  exact (key n (Nat.le_refl _) _ rfl).2
theorem min_of (n : Nat) (f : Nat → Option Int) (h : ∃ x, x < n ∧ ∃ t, f x = some t) : ∃ m, (∃ x, x < n ∧ f x = some m) ∧ ∀ x, x < n → ∀ t, f x = some t → m ≤ t := by
  induction n with
  | zero =>
    obtain ⟨x, hx, _⟩ := h
    exact absurd hx (Nat.not_lt_zero _)
  | succ n ih =>
    by_cases q : ∃ x, x < n ∧ ∃ t, f x = some t
    · obtain ⟨m, ⟨x, hx, hm⟩, hall⟩ := ih q
      cases e : f n with
      | none =>
        refine ⟨m, ⟨x, by omega, hm⟩, fun y hy t ht => ?_⟩
        by_cases hyn : y = n
        · rw [hyn, e] at ht
          cases ht
        · exact hall y (by omega) t ht
      | some c =>
        by_cases hc : c < m
        · refine ⟨c, ⟨n, by omega, e⟩, fun y hy t ht => ?_⟩
          by_cases hyn : y = n
          · rw [hyn, e] at ht
            cases ht
            exact Int.le_refl _
          · have := hall y (by omega) t ht
            omega
        · refine ⟨m, ⟨x, by omega, hm⟩, fun y hy t ht => ?_⟩
          by_cases hyn : y = n
          · rw [hyn, e] at ht
            cases ht
            omega
          · exact hall y (by omega) t ht
    · obtain ⟨x, hx, t, ht⟩ := h
      have hxn : x = n := by
        by_cases e : x = n
        · exact e
        · exact absurd ⟨x, by omega, t, ht⟩ q
      subst hxn
      refine ⟨t, ⟨x, by omega, ht⟩, fun y hy s hs => ?_⟩
      by_cases hyn : y = x
      · rw [hyn, ht] at hs
        cases hs
        exact Int.le_refl _
      · exact absurd ⟨y, by omega, s, hs⟩ q
theorem feas_of {n : Nat} {steps : List Stp} (hn : ∀ e ∈ steps, e.1 < n ∧ e.2.1 < n) (N : NoNeg n (tab n steps)) : ∃ P, Feas steps P := by
  have C := tab_clos N
  have ex : ∀ v, ∃ m, v < n → (∃ x, x < n ∧ tab n steps x v = some m) ∧ ∀ x, x < n → ∀ t, tab n steps x v = some t → m ≤ t := fun v => by
    by_cases h : v < n
    · obtain ⟨t, ht, _⟩ := tab_diag n steps v
      obtain ⟨m, hm⟩ := min_of n (fun x => tab n steps x v) ⟨v, h, t, ht⟩
      exact ⟨m, fun _ => hm⟩
    · exact ⟨0, fun z => absurd z h⟩
  refine ⟨fun v => Classical.choose (ex v), fun e he => ?_⟩
  obtain ⟨h1, h2⟩ := hn e he
  obtain ⟨⟨x, hx, hu⟩, _⟩ := Classical.choose_spec (ex e.1) h1
  obtain ⟨_, hv⟩ := Classical.choose_spec (ex e.2.1) h2
  obtain ⟨s, hs, hsw⟩ := tab_step n he
  obtain ⟨r, hr, hrl⟩ := C e.1 h1 x e.2.1 hx h2 _ _ hu hs
  have h9 := hv x hx r hr
  show Classical.choose (ex e.2.1) ≤ Classical.choose (ex e.1) + e.2.2.1
  omega
theorem noneg_of {n : Nat} {steps : List Stp} {P : Nat → Int} (F : Feas steps P) : NoNeg n (tab n steps) := fun x _ t h => by
  have := tab_real F x x t h
  omega
/-! ## the bounds of differences -/
def Sym (steps : List Stp) : Prop := ∀ e ∈ steps, ∃ e' ∈ steps, e'.1 = e.2.1 ∧ e'.2.1 = e.1
/-- sums from one place, elsewhere some heights -/
theorem feas_from {steps : List Stp} {P : Nat → Int} (S : Sym steps) (F : Feas steps P) {d : Nat → Option Int} (hd : ∀ e ∈ steps, ∀ a, d e.1 = some a → ∃ b, d e.2.1 = some b ∧ b ≤ a + e.2.2.1) :
    Feas steps (fun v => match d v with | some t => t | none => P v) := fun e he => by
  show (match d e.2.1 with | some t => t | none => P e.2.1) ≤ (match d e.1 with | some t => t | none => P e.1) + e.2.2.1
  cases h1 : d e.1 with
  | some a =>
    obtain ⟨b, hb, hle⟩ := hd e he a h1
    rw [hb]
    exact hle
  | none =>
    cases h2 : d e.2.1 with
    | none => exact F e he
    | some b =>
      obtain ⟨e', he', q1, q2⟩ := S e he
      rw [← q1] at h2
      obtain ⟨c, hc, _⟩ := hd e' he' b h2
      rw [q2, h1] at hc
      cases hc
theorem tab_from {n : Nat} {steps : List Stp} (hn : ∀ e ∈ steps, e.1 < n ∧ e.2.1 < n) (N : NoNeg n (tab n steps)) {x : Nat} (hx : x < n) : ∀ e ∈ steps, ∀ a, tab n steps x e.1 = some a → ∃ b, tab n steps x e.2.1 = some b ∧ b ≤ a + e.2.2.1 := fun e he a ha => by
  obtain ⟨h1, h2⟩ := hn e he
  obtain ⟨s, hs, hsw⟩ := tab_step n he
  obtain ⟨r, hr, hrl⟩ := tab_clos N e.1 h1 x e.2.1 hx h2 _ _ ha hs
  exact ⟨r, hr, by omega⟩
theorem tab_zero {n : Nat} {steps : List Stp} (N : NoNeg n (tab n steps)) {x : Nat} (hx : x < n) : tab n steps x x = some 0 := by
  obtain ⟨t, h1, h2⟩ := tab_diag n steps x
  have := N x hx t h1
  rw [h1]
  congr 1
  omega
/-- heights that take an entry of the table -/
theorem feas_take {n : Nat} {steps : List Stp} (hn : ∀ e ∈ steps, e.1 < n ∧ e.2.1 < n) (S : Sym steps) (N : NoNeg n (tab n steps)) {x : Nat} (hx : x < n) : ∃ P, Feas steps P ∧ P x = 0 ∧ ∀ y t, tab n steps x y = some t → P y = t := by
  obtain ⟨P, F⟩ := feas_of hn N
  refine ⟨_, feas_from S F (tab_from hn N hx), ?_, fun y t h => ?_⟩
  · show (match tab n steps x x with | some t => t | none => P x) = 0
    rw [tab_zero N hx]
  · show (match tab n steps x y with | some t => t | none => P y) = t
    rw [h]
def from0 (x : Nat) : Nat → Option Int := fset (fun _ => none) x (some 0)
theorem rounds_real {steps : List Stp} {P : Nat → Int} (F : Feas steps P) {h : Nat → Option Int} {c : Int} (h0 : ∀ v t, h v = some t → P v ≤ c + t) : ∀ k v t, (rounds steps k (s0 h)).h v = some t → P v ≤ c + t := by
  intro k
  induction k with
  | zero => exact h0
  | succ k ih =>
    refine fold_keep (I := fun s : BS => ∀ v t, s.h v = some t → P v ≤ c + t) steps (rounds steps k (s0 h)) (fun s e he I v t hv => ?_) ih
    unfold rel at hv
    by_cases q : violB s.h e = true
    · rw [if_pos q] at hv
      have hv : fset s.h e.2.1 (some (newH s.h e)) v = some t := hv
      by_cases hve : v = e.2.1
      · rw [hve, fset_same] at hv
        cases hv
        obtain ⟨a, ha, hna, _⟩ := viol_some q
        have h1 := I _ _ ha
        have h2 := F e he
        rw [hna, hve]
        omega
      · rw [fset_ne hve] at hv
        exact I v t hv
    · rw [if_neg q] at hv
      exact I v t hv
theorem rounds_some {steps : List Stp} {h : Nat → Option Int} {v : Nat} {t : Int} (h0 : h v = some t) : ∀ k, ∃ u, (rounds steps k (s0 h)).h v = some u ∧ u ≤ t := by
  intro k
  induction k with
  | zero => exact ⟨t, h0, Int.le_refl _⟩
  | succ k ih =>
    refine fold_keep (I := fun s : BS => ∃ u, s.h v = some u ∧ u ≤ t) steps (rounds steps k (s0 h)) (fun s e he I => ?_) ih
    obtain ⟨u, h1, h2⟩ := I
    unfold rel
    by_cases q : violB s.h e = true
    · rw [if_pos q]
      by_cases hve : v = e.2.1
      · obtain ⟨a, ha, hna, hb⟩ := viol_some q
        have h3 := hb u (by rw [← hve]; exact h1)
        exact ⟨newH s.h e, by
          show fset s.h e.2.1 (some (newH s.h e)) v = _
          rw [hve, fset_same], by omega⟩
      · exact ⟨u, by
          show fset s.h e.2.1 (some (newH s.h e)) v = _
          rw [fset_ne hve]
          exact h1, h2⟩
    · rw [if_neg q]
      exact ⟨u, h1, h2⟩
/-- the least weight from x to y is the table's entry -/
theorem lw_tab {n : Nat} {steps : List Stp} (hn : ∀ e ∈ steps, e.1 < n ∧ e.2.1 < n) (S : Sym steps) (N : NoNeg n (tab n steps)) {e : Stp} (he : e ∈ steps) : (rounds steps n (s0 (from0 e.1))).h e.2.1 = tab n steps e.1 e.2.1 := by
  obtain ⟨hx, hy⟩ := hn e he
  obtain ⟨P, F, P0, PT⟩ := feas_take hn S N hx
  obtain ⟨P1, F1⟩ := feas_of hn N
  have still := rounds_still hn F1 (from0 e.1)
  obtain ⟨t, ht, _⟩ := tab_step n he
  obtain ⟨u, hu, hu0⟩ := rounds_some (steps := steps) (h := from0 e.1) (v := e.1) (t := 0) fset_same n
  obtain ⟨s, hs, _⟩ := viol_not (still e he) hu
  rw [hs, ht]
  have real : ∀ {Q : Nat → Int}, Feas steps Q → ∀ v w, (rounds steps n (s0 (from0 e.1))).h v = some w → Q v ≤ Q e.1 + w := fun {Q} FQ => rounds_real FQ (fun v w hv => by
    unfold from0 at hv
    by_cases q : v = e.1
    · rw [q, fset_same] at hv
      cases hv
      rw [q]
      omega
    · rw [fset_ne q] at hv
      cases hv) n
  have h1 := real F _ _ hs
  rw [PT _ _ ht, P0] at h1
  have h2 := real F _ _ hu
  have F3 := feas_from (d := (rounds steps n (s0 (from0 e.1))).h) S F1 (fun e' he' a ha => viol_not (still e' he') ha)
  have h3 := tab_real (n := n) F3 _ _ _ ht
  rw [hs, hu] at h3
  have h3 : s ≤ u + t := h3
  congr 1
  omega
end EW
namespace EW
/-! ## the web's steps -/
abbrev Arr := Nat × Nat
abbrev Bnd := Int × Int
def stepsFrom : Nat → List Arr → List Bnd → List Stp
  | k, a :: as, b :: bs => (a.1, a.2, b.2, k, 1) :: (a.2, a.1, -b.1, k, -1) :: stepsFrom (k + 1) as bs
  | _, _, _ => []
def stepsOf (as : List Arr) (bs : List Bnd) : List Stp := stepsFrom 0 as bs
theorem stepsFrom_mem : ∀ (k : Nat) (as : List Arr) (bs : List Bnd) (e : Stp), e ∈ stepsFrom k as bs ↔ ∃ (j : Nat) (a : Arr) (b : Bnd), as[j]? = some a ∧ bs[j]? = some b ∧ (e = (a.1, a.2, b.2, k + j, 1) ∨ e = (a.2, a.1, -b.1, k + j, -1))
  | k, [], bs, e => by simp [stepsFrom]
  | k, a :: as, [], e => by simp [stepsFrom]
  | k, a :: as, b :: bs, e => by
    unfold stepsFrom
    rw [List.mem_cons, List.mem_cons, stepsFrom_mem (k + 1) as bs e]
    constructor
    · rintro (h | h | ⟨j, a', b', h1, h2, h3⟩)
      · exact ⟨0, a, b, rfl, rfl, .inl h⟩
      · exact ⟨0, a, b, rfl, rfl, .inr h⟩
      · refine ⟨j + 1, a', b', h1, h2, ?_⟩
        rw [show k + 1 + j = k + (j + 1) by omega] at h3
        exact h3
    · rintro ⟨j, a', b', h1, h2, h3⟩
      cases j with
      | zero =>
        cases h1
        cases h2
        rcases h3 with h3 | h3
        · exact .inl h3
        · exact .inr (.inl h3)
      | succ j =>
        refine .inr (.inr ⟨j, a', b', h1, h2, ?_⟩)
        rw [show k + 1 + j = k + (j + 1) by omega]
        exact h3
theorem stepsOf_mem {as : List Arr} {bs : List Bnd} {e : Stp} : e ∈ stepsOf as bs ↔ ∃ (j : Nat) (a : Arr) (b : Bnd), as[j]? = some a ∧ bs[j]? = some b ∧ (e = (a.1, a.2, b.2, j, 1) ∨ e = (a.2, a.1, -b.1, j, -1)) := by
  have h := stepsFrom_mem 0 as bs e
  simp only [Nat.zero_add] at h
  exact h
theorem stepsFrom_more : ∀ (i k : Nat) (as : List Arr) (bs : List Bnd) (a : Arr) (b : Bnd), as[i]? = some a → bs[i]? = some b → stepsFrom k (as.take (i + 1)) (bs.take (i + 1)) = stepsFrom k (as.take i) (bs.take i) ++ [(a.1, a.2, b.2, k + i, 1), (a.2, a.1, -b.1, k + i, -1)]
  | _, k, [], bs, a, b, h1, _ => by simp at h1
  | _, k, _ :: _, [], a, b, _, h2 => by simp at h2
  | 0, k, x :: as, y :: bs, a, b, h1, h2 => by
    cases h1
    cases h2
    simp [stepsFrom]
  | i + 1, k, x :: as, y :: bs, a, b, h1, h2 => by
    have h := stepsFrom_more i (k + 1) as bs a b h1 h2
    show (x.1, x.2, y.2, k, 1) :: (x.2, x.1, -y.1, k, -1) :: stepsFrom (k + 1) (as.take (i + 1)) (bs.take (i + 1)) = ((x.1, x.2, y.2, k, 1) :: (x.2, x.1, -y.1, k, -1) :: stepsFrom (k + 1) (as.take i) (bs.take i)) ++ _
    rw [h, show k + 1 + i = k + (i + 1) by omega]
    rfl
theorem stepsFrom_len : ∀ (k : Nat) (as : List Arr) (bs : List Bnd), (stepsFrom k as bs).length ≤ 2 * as.length
  | k, [], bs => by simp [stepsFrom]
  | k, a :: as, [] => by simp [stepsFrom]
  | k, a :: as, b :: bs => by
    have h := stepsFrom_len (k + 1) as bs
    show (stepsFrom (k + 1) as bs).length + 1 + 1 ≤ 2 * (as.length + 1)
    omega
structure Web (n : Nat) (as : List Arr) (bs : List Bnd) : Prop where
  ends : ∀ a ∈ as, a.1 < n ∧ a.2 < n
  len : as.length = bs.length
  ord : ∀ b ∈ bs, b.1 ≤ b.2
theorem Web.steps {n : Nat} {as : List Arr} {bs : List Bnd} (W : Web n as bs) : ∀ e ∈ stepsOf as bs, e.1 < n ∧ e.2.1 < n := fun e he => by
  obtain ⟨j, a, b, h1, h2, h3⟩ := stepsOf_mem.mp he
  obtain ⟨q1, q2⟩ := W.ends a (List.mem_of_getElem? h1)
  rcases h3 with rfl | rfl
  · exact ⟨q1, q2⟩
  · exact ⟨q2, q1⟩
theorem sym_steps (as : List Arr) (bs : List Bnd) : Sym (stepsOf as bs) := fun e he => by
  obtain ⟨j, a, b, h1, h2, h3⟩ := stepsOf_mem.mp he
  rcases h3 with rfl | rfl
  · exact ⟨_, stepsOf_mem.mpr ⟨j, a, b, h1, h2, .inr rfl⟩, rfl, rfl⟩
  · exact ⟨_, stepsOf_mem.mpr ⟨j, a, b, h1, h2, .inl rfl⟩, rfl, rfl⟩
/-! ## lowered, heights_or_bar: lists -/
abbrev LS := List Int × List (Option Stp) × Option Nat
def lowOne (s : LS) (e : Stp) : LS := if s.1.getD e.1 0 + e.2.2.1 < s.1.getD e.2.1 0 then (s.1.set e.2.1 (s.1.getD e.1 0 + e.2.2.1), s.2.1.set e.2.1 (some e), some e.2.1) else s
def lowered (steps : List Stp) (hs : List Int) (ls : List (Option Stp)) : LS := steps.foldl lowOne (hs, ls, none)
def lf (ls : List (Option Stp)) : Nat → Option Stp := fun v => (ls[v]?).getD none
def hf (hs : List Int) : Nat → Option Int := fun v => hs[v]?
theorem hf_set {hs : List Int} {v : Nat} {a : Int} (h : v < hs.length) : hf (hs.set v a) = fset (hf hs) v (some a) := by
  funext u
  unfold hf fset
  by_cases e : u = v
  · subst e
    rw [if_pos rfl, List.getElem?_set_self h]
  · rw [if_neg e, List.getElem?_set_ne (fun z => e z.symm)]
theorem lf_set {ls : List (Option Stp)} {v : Nat} {a : Option Stp} (h : v < ls.length) : lf (ls.set v a) = fset (lf ls) v a := by
  funext u
  unfold lf fset
  by_cases e : u = v
  · subst e
    rw [if_pos rfl, List.getElem?_set_self h]
    rfl
  · rw [if_neg e, List.getElem?_set_ne (fun z => e z.symm)]
theorem hf_get {hs : List Int} {v : Nat} (h : v < hs.length) : hf hs v = some (hs.getD v 0) := by
  unfold hf
  rw [List.getD_eq_getElem?_getD, List.getElem?_eq_getElem h]
  rfl
theorem viol_list {hs : List Int} {e : Stp} (h1 : e.1 < hs.length) (h2 : e.2.1 < hs.length) : violB (hf hs) e = decide (hs.getD e.1 0 + e.2.2.1 < hs.getD e.2.1 0) := by
  unfold violB
  rw [hf_get h1, hf_get h2]
theorem lowOne_len (s : LS) (e : Stp) : (lowOne s e).1.length = s.1.length ∧ (lowOne s e).2.1.length = s.2.1.length := by
  unfold lowOne
  split
  · exact ⟨List.length_set .., List.length_set ..⟩
  · exact ⟨rfl, rfl⟩
theorem lowered_len (steps : List Stp) (s : LS) : (steps.foldl lowOne s).1.length = s.1.length ∧ (steps.foldl lowOne s).2.1.length = s.2.1.length :=
  fold_keep (I := fun r : LS => r.1.length = s.1.length ∧ r.2.1.length = s.2.1.length) steps s (fun r e _ h => ⟨(lowOne_len r e).1.trans h.1, (lowOne_len r e).2.trans h.2⟩) ⟨rfl, rfl⟩
theorem low_sim {n k : Nat} : ∀ (es : List Stp) (s : BS) (r : LS), (∀ e ∈ es, e.1 < n ∧ e.2.1 < n) → r.1.length = n → r.2.1.length = n → s.h = hf r.1 → s.l = lf r.2.1 → (∀ q, r.2.2 = some q → s.r q = k ∧ q < n) → (∀ v, s.r v ≤ k) →
    (es.foldl (rel k) s).h = hf (es.foldl lowOne r).1 ∧ (es.foldl (rel k) s).l = lf (es.foldl lowOne r).2.1 ∧ (∀ q, (es.foldl lowOne r).2.2 = some q → (es.foldl (rel k) s).r q = k ∧ q < n) ∧
      ((es.foldl lowOne r).2.2 = none → r.2.2 = none ∧ es.foldl lowOne r = r ∧ ∀ e ∈ es, r.1.getD e.2.1 0 ≤ r.1.getD e.1 0 + e.2.2.1)
  | [], s, r, _, _, _, h1, h2, h3, _ => ⟨h1, h2, h3, fun q => ⟨q, rfl, fun _ h => by simp at h⟩⟩
  | e :: es, s, r, hn, hl1, hl2, h1, h2, h3, hr => by
    obtain ⟨e1, e2⟩ := hn e List.mem_cons_self
    have hv := viol_list (hs := r.1) (e := e) (by omega) (by omega)
    have hn' : ∀ e ∈ es, e.1 < n ∧ e.2.1 < n := fun x hx => hn x (List.mem_cons_of_mem _ hx)
    obtain ⟨n1, n2⟩ := lowOne_len r e
    show ((es.foldl (rel k) (rel k s e)).h = hf (es.foldl lowOne (lowOne r e)).1) ∧ (es.foldl (rel k) (rel k s e)).l = lf (es.foldl lowOne (lowOne r e)).2.1 ∧ (∀ q, (es.foldl lowOne (lowOne r e)).2.2 = some q → (es.foldl (rel k) (rel k s e)).r q = k ∧ q < n) ∧
      ((es.foldl lowOne (lowOne r e)).2.2 = none → r.2.2 = none ∧ es.foldl lowOne (lowOne r e) = r ∧ ∀ x ∈ e :: es, r.1.getD x.2.1 0 ≤ r.1.getD x.1 0 + x.2.2.1)
    by_cases c : r.1.getD e.1 0 + e.2.2.1 < r.1.getD e.2.1 0
    · have hvt : violB s.h e = true := by
        rw [h1, hv]
        exact decide_eq_true c
      have er : lowOne r e = (r.1.set e.2.1 (r.1.getD e.1 0 + e.2.2.1), r.2.1.set e.2.1 (some e), some e.2.1) := if_pos c
      have es' : rel k s e = ⟨fset s.h e.2.1 (some (newH s.h e)), fset s.l e.2.1 (some e), fset s.r e.2.1 k, fset s.t e.2.1 (s.now + 1), s.now + 1⟩ := if_pos hvt
      have g := low_sim es (rel k s e) (lowOne r e) hn' (n1.trans hl1) (n2.trans hl2) (by
          rw [es', er]
          show fset s.h e.2.1 (some (newH s.h e)) = hf (r.1.set _ _)
          rw [hf_set (by omega), h1]
          unfold newH
          rw [hf_get (by omega)]
          rfl) (by
          rw [es', er]
          show fset s.l e.2.1 (some e) = lf (r.2.1.set _ _)
          rw [lf_set (by omega), h2]) (fun q hq => by
          rw [er] at hq
          cases hq
          rw [es']
          exact ⟨fset_same, e2⟩) (fun v => by
          rw [es']
          show fset s.r e.2.1 k v ≤ k
          by_cases hve : v = e.2.1
          · rw [hve, fset_same]
            exact Nat.le_refl _
          · rw [fset_ne hve]
            exact hr v)
      refine ⟨g.1, g.2.1, g.2.2.1, fun z => ?_⟩
      have z2 := (g.2.2.2 z).1
      rw [er] at z2
      cases z2
    · have hvt : ¬ violB s.h e = true := by
        rw [h1, hv]
        exact fun z => c (of_decide_eq_true z)
      have er : lowOne r e = r := if_neg c
      have es' : rel k s e = s := if_neg hvt
      rw [er, es']
      have g := low_sim es s r hn' hl1 hl2 h1 h2 h3 hr
      refine ⟨g.1, g.2.1, g.2.2.1, fun z => ?_⟩
      obtain ⟨z1, z2, z3⟩ := g.2.2.2 z
      refine ⟨z1, z2, fun x hx => ?_⟩
      rcases List.mem_cons.mp hx with rfl | hx
      · omega
      · exact z3 x hx
/-- turn by turn: heights at which nothing is lowered, or the last steps and the place that was lowered last -/
def turns (steps : List Stp) : Nat → List Int → List (Option Stp) → Option Nat → Sum (List Int) (List (Option Stp) × Option Nat)
  | 0, _, ls, p => .inr (ls, p)
  | k + 1, hs, ls, _ => match (lowered steps hs ls).2.2 with
    | none => .inl (lowered steps hs ls).1
    | some q => turns steps k (lowered steps hs ls).1 (lowered steps hs ls).2.1 (some q)
theorem turns_ok {n : Nat} {steps : List Stp} (hn : ∀ e ∈ steps, e.1 < n ∧ e.2.1 < n) {h : Nat → Option Int} : ∀ (k j : Nat) (hs : List Int) (ls : List (Option Stp)) (p : Option Nat), hs.length = n → ls.length = n → (rounds steps j (s0 h)).h = hf hs → (rounds steps j (s0 h)).l = lf ls →
      (∀ q, p = some q → (rounds steps j (s0 h)).r q = j ∧ q < n) → (0 < j → p ≠ none) →
    (∀ x, turns steps k hs ls p = .inl x → x.length = n ∧ ∀ e ∈ steps, x.getD e.2.1 0 ≤ x.getD e.1 0 + e.2.2.1) ∧
    (∀ ls' p', turns steps k hs ls p = .inr (ls', p') → ls'.length = n ∧ (rounds steps (j + k) (s0 h)).l = lf ls' ∧ (∀ q, p' = some q → (rounds steps (j + k) (s0 h)).r q = j + k ∧ q < n) ∧ (0 < j + k → p' ≠ none))
  | 0, j, hs, ls, p, h1, h2, h3, h4, h5, h6 => ⟨fun x e => (by cases e), fun ls' p' e => (by
      cases e
      exact ⟨h2, h4, h5, h6⟩)⟩
  | k + 1, j, hs, ls, p, h1, h2, h3, h4, h5, h6 => by
    obtain ⟨I, _⟩ := rounds_iv steps h j
    have g := low_sim (n := n) (k := j + 1) steps (rounds steps j (s0 h)) (hs, ls, none) hn h1 h2 h3 h4 (fun q z => nomatch z) (fun v => Nat.le_succ_of_le (I.rk v))
    have gl := lowered_len steps (hs, ls, none)
    obtain ⟨g1, g2, g3, g4⟩ := g
    have e0 : lowered steps hs ls = steps.foldl lowOne (hs, ls, none) := rfl
    rw [← e0] at g1 g2 g3 g4 gl
    unfold turns
    cases q : (lowered steps hs ls).2.2 with
    | none =>
      obtain ⟨_, z2, z3⟩ := g4 q
      refine ⟨fun x e => ?_, fun ls' p' e => by cases e⟩
      cases e
      rw [z2]
      exact ⟨h1, z3⟩
    | some v =>
      have r := turns_ok hn (h := h) k (j + 1) (lowered steps hs ls).1 (lowered steps hs ls).2.1 (some v) (gl.1.trans h1) (gl.2.trans h2) g1 g2 (fun u hu => g3 u (q.trans hu)) (fun _ z => nomatch z)
      rw [show j + 1 + k = j + (k + 1) by omega] at r
      exact r
def turns0 (n : Nat) (steps : List Stp) : Sum (List Int) (List (Option Stp) × Option Nat) := turns steps (n + 1) (List.replicate n 0) (List.replicate n none) none
theorem turns0_l {n : Nat} {steps : List Stp} (hn : ∀ e ∈ steps, e.1 < n ∧ e.2.1 < n) {hs : List Int} (e : turns0 n steps = .inl hs) : hs.length = n ∧ Feas steps (fun v => hs.getD v 0) := by
  have h := (turns_ok (n := n) hn (h := hf (List.replicate n 0)) (n + 1) 0 (List.replicate n 0) (List.replicate n none) none List.length_replicate List.length_replicate rfl (by
    funext v
    show none = lf (List.replicate n none) v
    unfold lf
    rw [List.getElem?_replicate]
    split <;> rfl) (fun q z => nomatch z) (fun z => absurd z (Nat.lt_irrefl _))).1 hs e
  exact h
theorem turns0_r {n : Nat} {steps : List Stp} (hn : ∀ e ∈ steps, e.1 < n ∧ e.2.1 < n) {ls : List (Option Stp)} {p : Option Nat} (e : turns0 n steps = .inr (ls, p)) :
    ls.length = n ∧ ∃ q, p = some q ∧ q < n ∧ (∀ j, j ≤ n → it (lf ls) j q < n ∧ lf ls (it (lf ls) j q) ≠ none) ∧ ∃ c, Cyc steps (lf ls) (it (lf ls) n q) c := by
  have h := (turns_ok (n := n) hn (h := hf (List.replicate n 0)) (n + 1) 0 (List.replicate n 0) (List.replicate n none) none List.length_replicate List.length_replicate rfl (by
    funext v
    show none = lf (List.replicate n none) v
    unfold lf
    rw [List.getElem?_replicate]
    split <;> rfl) (fun q z => nomatch z) (fun z => absurd z (Nat.lt_irrefl _))).2 ls p e
  rw [Nat.zero_add] at h
  obtain ⟨h1, h2, h3, h4⟩ := h
  obtain ⟨I, _⟩ := rounds_iv steps (hf (List.replicate n 0)) (n + 1)
  cases p with
  | none => exact absurd rfl (h4 (Nat.succ_pos _))
  | some q =>
    obtain ⟨hr, hq⟩ := h3 q rfl
    obtain ⟨c, C⟩ := cyc_of I hn hq (Nat.le_of_eq hr.symm)
    rw [h2] at C
    refine ⟨h1, q, rfl, hq, fun j hj => ?_, c, C⟩
    have hl : (rounds steps (n + 1) (s0 (hf (List.replicate n 0)))).l (it (rounds steps (n + 1) (s0 (hf (List.replicate n 0)))).l j q) ≠ none := I.l3 _ (by have := r_back I q j; omega)
    have hl2 := hl
    rw [h2] at hl2
    refine ⟨?_, hl2⟩
    cases z : (rounds steps (n + 1) (s0 (hf (List.replicate n 0)))).l (it (rounds steps (n + 1) (s0 (hf (List.replicate n 0)))).l j q) with
    | none => exact absurd z hl
    | some x =>
      obtain ⟨m, e1, _⟩ := I.l1 _ x z
      rw [h2] at e1
      rw [← e1]
      exact (hn x m).2
/-! ## the bar -/
def barL (m : Nat) (l : Nat → Option Stp) (z : Nat) : Nat → List Int
  | 0 => List.replicate m 0
  | j + 1 => match l (it l j z) with
    | some e => (barL m l z j).set e.2.2.2.1 e.2.2.2.2
    | none => barL m l z j
theorem barL_len (m : Nat) (l : Nat → Option Stp) (z : Nat) : ∀ j, (barL m l z j).length = m
  | 0 => List.length_replicate
  | j + 1 => by
    unfold barL
    split
    · rw [List.length_set]
      exact barL_len m l z j
    · exact barL_len m l z j
def zsum {α : Type} (G : α → Int → Int) : List α → List Int → Int
  | a :: as, c :: cs => G a c + zsum G as cs
  | _, _ => 0
theorem zsum_set {α : Type} {G : α → Int → Int} : ∀ {as : List α} {cs : List Int} {k : Nat} {a : α} {c d : Int}, as[k]? = some a → cs[k]? = some c → zsum G as (cs.set k d) = zsum G as cs - G a c + G a d
  | [], _, _, _, _, _, h, _ => by simp at h
  | _ :: _, [], _, _, _, _, _, h => by simp at h
  | x :: as, y :: cs, 0, a, c, d, h1, h2 => by
    cases h1
    cases h2
    show G x d + zsum G as cs = G x y + zsum G as cs - G x y + G x d
    omega
  | x :: as, y :: cs, k + 1, a, c, d, h1, h2 => by
    have h := zsum_set (G := G) (d := d) (as := as) (cs := cs) (k := k) h1 h2
    show G x y + zsum G as (cs.set k d) = G x y + zsum G as cs - G a c + G a d
    rw [h]
    omega
theorem zsum_zero {α : Type} {G : α → Int → Int} (h : ∀ a, G a 0 = 0) : ∀ (as : List α) (m : Nat), zsum G as (List.replicate m 0) = 0
  | [], m => by cases m <;> rfl
  | a :: as, 0 => rfl
  | a :: as, m + 1 => by
    show G a 0 + zsum G as (List.replicate m 0) = 0
    rw [h, zsum_zero h as m]
    rfl
section
variable {n m : Nat} {as : List Arr} {bs : List Bnd} {l : Nat → Option Stp} {z p : Nat}
/-- the arrows of the cycle's steps are unlike -/
theorem cyc_unlike (W : Web n as bs) (C : Cyc (stepsOf as bs) l z p) {i j : Nat} {e f : Stp} (hij : i < j) (hj : j < p) (he : l (it l i z) = some e) (hf : l (it l j z) = some f) : e.2.2.2.1 ≠ f.2.2.2.1 := by
  intro q
  obtain ⟨e', he', hm, h1, h2⟩ := C.all i
  rw [he] at he'
  cases he'
  obtain ⟨f', hf', hm', h3, h4⟩ := C.all j
  rw [hf] at hf'
  cases hf'
  obtain ⟨k, a, b, ha, hb, hc⟩ := stepsOf_mem.mp hm
  obtain ⟨k', a', b', ha', hb', hc'⟩ := stepsOf_mem.mp hm'
  have hne := C.inj i j hij hj
  have two : ∀ x y : Nat, i + 1 = j ∧ j + 1 = p ∧ i = 0 ∨ ¬ (it l (i + 1) z = it l j z ∧ it l (j + 1) z = it l i z) := fun _ _ => by
    by_cases hh : it l (i + 1) z = it l j z ∧ it l (j + 1) z = it l i z
    · left
      obtain ⟨q1, q2⟩ := hh
      have e1 : i + 1 = j := by
        by_cases e1 : i + 1 = j
        · exact e1
        · exact absurd q1 (C.inj (i + 1) j (by omega) hj)
      by_cases e2 : j + 1 = p
      · refine ⟨e1, e2, ?_⟩
        rw [e2, C.home] at q2
        by_cases e3 : i = 0
        · exact e3
        · exact absurd q2 (C.inj 0 i (by omega) (by omega))
      · exact absurd q2.symm (C.inj i (j + 1) (by omega) (by omega))
    · exact .inr hh
  have key : k = k' → False := fun ek => by
    subst ek
    rw [ha] at ha'
    cases ha'
    rw [hb] at hb'
    cases hb'
    have opp : it l (i + 1) z = it l j z ∧ it l (j + 1) z = it l i z → e.2.2.1 + f.2.2.1 = b.2 - b.1 → False := fun hh hw => by
      rcases two 0 0 with ⟨e1, e2, e3⟩ | h5
      · have hp : p = 2 := by omega
        have hb1 : back l z 2 = 0 + e.2.2.1 + f.2.2.1 := by
          have hi0 : i = 0 := e3
          have hj1 : j = 1 := by omega
          subst hi0 hj1
          show 0 + (match l (it l 0 z) with | some e => e.2.2.1 | none => 0) + (match l (it l 1 z) with | some e => e.2.2.1 | none => 0) = _
          rw [he, hf]
        have h6 := C.neg
        rw [hp, hb1] at h6
        have h7 := W.ord b (List.mem_of_getElem? hb)
        omega
      · exact h5 hh
    rcases hc with rfl | rfl
    · rcases hc' with rfl | rfl
      · exact hne (h1.symm.trans h3)
      · exact opp ⟨h2.symm.trans h3, h4.symm.trans h1⟩ (by show b.2 + -b.1 = _; omega)
    · rcases hc' with rfl | rfl
      · exact opp ⟨h2.symm.trans h3, h4.symm.trans h1⟩ (by show -b.1 + b.2 = _; omega)
      · exact hne (h1.symm.trans h3)
  refine key ?_
  rcases hc with rfl | rfl <;> rcases hc' with rfl | rfl <;> exact q
theorem step_arrow (W : Web n as bs) {e : Stp} (h : e ∈ stepsOf as bs) : e.2.2.2.1 < as.length ∧ (e.2.2.2.2 = 1 ∨ e.2.2.2.2 = -1) := by
  obtain ⟨j, a, b, h1, h2, h3⟩ := stepsOf_mem.mp h
  have := (List.getElem?_eq_some_iff.mp h1).1
  rcases h3 with rfl | rfl
  · exact ⟨this, .inl rfl⟩
  · exact ⟨this, .inr rfl⟩
/-- behind j steps: 0 at the arrows that come later -/
theorem barL_later (W : Web n as bs) (C : Cyc (stepsOf as bs) l z p) : ∀ (j : Nat), j ≤ p → ∀ (i : Nat) (e : Stp), j ≤ i → i < p → l (it l i z) = some e → (barL as.length l z j)[e.2.2.2.1]? = some 0
  | 0, _, i, e, _, hi, he => by
    obtain ⟨e', he', hm, _⟩ := C.all i
    rw [he] at he'
    cases he'
    show (List.replicate as.length (0 : Int))[e.2.2.2.1]? = some 0
    rw [List.getElem?_replicate, if_pos (step_arrow W hm).1]
  | j + 1, hj, i, e, hji, hi, he => by
    have ih := barL_later W C j (by omega) i e (by omega) hi he
    obtain ⟨f, hf, hm, _⟩ := C.all j
    have hne := cyc_unlike W C (show j < i by omega) hi hf he
    unfold barL
    rw [hf]
    show ((barL as.length l z j).set f.2.2.2.1 f.2.2.2.2)[e.2.2.2.1]? = some 0
    rw [List.getElem?_set_ne hne]
    exact ih
/-- behind j steps: the signs of those that came -/
theorem barL_came (W : Web n as bs) (C : Cyc (stepsOf as bs) l z p) : ∀ (j : Nat), j ≤ p → ∀ (i : Nat) (e : Stp), i < j → l (it l i z) = some e → (barL as.length l z j)[e.2.2.2.1]? = some e.2.2.2.2
  | 0, _, i, e, hi, _ => absurd hi (Nat.not_lt_zero _)
  | j + 1, hj, i, e, hi, he => by
    obtain ⟨f, hf, hm, _⟩ := C.all j
    unfold barL
    rw [hf]
    show ((barL as.length l z j).set f.2.2.2.1 f.2.2.2.2)[e.2.2.2.1]? = some e.2.2.2.2
    by_cases hij : i = j
    · subst hij
      rw [hf] at he
      cases he
      exact List.getElem?_set_self (by rw [barL_len]; exact (step_arrow W hm).1)
    · have hne := cyc_unlike W C (show i < j by omega) (by omega) he hf
      rw [List.getElem?_set_ne (Ne.symm hne)]
      exact barL_came W C j (by omega) i e (by omega) he
/-- the test of the while: 0 ahead of the cycle's end, not 0 there -/
theorem bar_test (W : Web n as bs) (C : Cyc (stepsOf as bs) l z p) {j : Nat} (hj : j ≤ p) {e : Stp} (he : l (it l j z) = some e) : ∃ c, (barL as.length l z j)[e.2.2.2.1]? = some c ∧ (c = 0 ↔ j < p) := by
  by_cases h : j < p
  · exact ⟨0, barL_later W C j hj j e (Nat.le_refl _) h he, by simp [h]⟩
  · have ej : j = p := by omega
    subst ej
    rw [C.home] at he
    obtain ⟨f, hf, hm, _⟩ := C.all 0
    have hf : l z = some f := hf
    rw [he] at hf
    cases hf
    refine ⟨_, barL_came W C j (Nat.le_refl _) 0 e C.pos he, ?_⟩
    have := (step_arrow W hm).2
    constructor
    · intro q
      omega
    · intro q
      exact absurd q (Nat.lt_irrefl _)
theorem bar_sum {α : Type} {G : α → Int → Int} (hG : ∀ a, G a 0 = 0) {xs : List α} {g : Nat → Int} (W : Web n as bs) (C : Cyc (stepsOf as bs) l z p) (hx : xs.length = as.length)
    (h : ∀ i e, i < p → l (it l i z) = some e → ∀ a, xs[e.2.2.2.1]? = some a → G a e.2.2.2.2 = g i) : ∀ j, j ≤ p → zsum G xs (barL as.length l z j) = ((List.range j).map g).sum
  | 0, _ => by
    show zsum G xs (List.replicate as.length 0) = 0
    exact zsum_zero hG xs _
  | j + 1, hj => by
    obtain ⟨e, he, hm, _⟩ := C.all j
    have ih := bar_sum hG W C hx h j (by omega)
    have h0 := barL_later W C j (by omega) j e (Nat.le_refl _) (by omega) he
    have hlt : e.2.2.2.1 < xs.length := by rw [hx]; exact (step_arrow W hm).1
    have ha : xs[e.2.2.2.1]? = some xs[e.2.2.2.1] := List.getElem?_eq_getElem hlt
    unfold barL
    rw [he]
    show zsum G xs ((barL as.length l z j).set e.2.2.2.1 e.2.2.2.2) = _
    rw [zsum_set ha h0, ih, hG, h j e (by omega) he _ ha, List.range_succ, List.map_append, List.sum_append]
    simp
end
end EW
namespace EW
/-! ## flows, rings, bars: what is meant -/
def exG (v : Nat) (a : Arr) (c : Int) : Int := (if a.1 = v then c else 0) - (if a.2 = v then c else 0)
def exc (as : List Arr) (ms : List Int) (v : Nat) : Int := zsum (exG v) as ms
def IsFlow (n : Nat) (as : List Arr) (ms : List Int) : Prop := ∀ v, v < n → exc as ms v = 0
def someOf : List Arr → List Int → List Arr
  | a :: as, c :: cs => if c = 0 then someOf as cs else a :: someOf as cs
  | _, _ => []
def endsOf : List Arr → List Nat
  | [] => []
  | a :: l => a.1 :: a.2 :: endsOf l
def Closed (l : List Arr) (S : Nat → Prop) : Prop := ∀ a ∈ l, S a.1 ↔ S a.2
def Conn (l : List Arr) : Prop := ∀ S : Nat → Prop, Closed l S → ∀ a, l.head? = some a → S a.1 → ∀ v ∈ endsOf l, S v
def Single (l : List Arr) : Prop := l ≠ [] ∧ (∀ v ∈ endsOf l, (endsOf l).count v = 2) ∧ Conn l
def Small (ms : List Int) : Prop := ∀ c ∈ ms, -1 ≤ c ∧ c ≤ 1
def wG (b : Bnd) (c : Int) : Int := if c = 1 then b.2 else if c = 0 then 0 else -b.1
def weigh (bs : List Bnd) (ms : List Int) : Int := zsum wG bs ms
def Bars (n : Nat) (as : List Arr) (bs : List Bnd) (ms : List Int) : Prop := IsFlow n as ms ∧ Small ms ∧ Single (someOf as ms) ∧ weigh bs ms < 0
theorem someOf_mem {a : Arr} : ∀ {as : List Arr} {ms : List Int}, a ∈ someOf as ms ↔ ∃ (k : Nat) (c : Int), as[k]? = some a ∧ ms[k]? = some c ∧ c ≠ 0
  | [], ms => by simp [someOf]
  | x :: as, [] => by simp [someOf]
  | x :: as, y :: ms => by
    unfold someOf
    have ih := someOf_mem (a := a) (as := as) (ms := ms)
    split
    · rename_i h
      rw [ih]
      constructor
      · rintro ⟨k, c, h1, h2, h3⟩
        exact ⟨k + 1, c, h1, h2, h3⟩
      · rintro ⟨k, c, h1, h2, h3⟩
        cases k with
        | zero =>
          cases h2
          exact absurd h h3
        | succ k => exact ⟨k, c, h1, h2, h3⟩
    · rename_i h
      rw [List.mem_cons, ih]
      constructor
      · rintro (rfl | ⟨k, c, h1, h2, h3⟩)
        · exact ⟨0, y, rfl, rfl, h⟩
        · exact ⟨k + 1, c, h1, h2, h3⟩
      · rintro ⟨k, c, h1, h2, h3⟩
        cases k with
        | zero =>
          cases h1
          exact .inl rfl
        | succ k => exact .inr ⟨k, c, h1, h2, h3⟩
theorem endsOf_mem {v : Nat} : ∀ {l : List Arr}, v ∈ endsOf l ↔ ∃ a ∈ l, a.1 = v ∨ a.2 = v
  | [] => by simp [endsOf]
  | a :: l => by
    unfold endsOf
    rw [List.mem_cons, List.mem_cons, endsOf_mem (l := l)]
    constructor
    · rintro (h | h | ⟨b, hb, h⟩)
      · exact ⟨a, List.mem_cons_self, .inl h.symm⟩
      · exact ⟨a, List.mem_cons_self, .inr h.symm⟩
      · exact ⟨b, List.mem_cons_of_mem _ hb, h⟩
    · rintro ⟨b, hb, h⟩
      rcases List.mem_cons.mp hb with rfl | hb
      · rcases h with h | h
        · exact .inl h.symm
        · exact .inr (.inl h.symm)
      · exact .inr (.inr ⟨b, hb, h⟩)
theorem endsOf_len : ∀ l : List Arr, (endsOf l).length = 2 * l.length
  | [] => rfl
  | a :: l => by
    show (endsOf l).length + 1 + 1 = 2 * (l.length + 1)
    rw [endsOf_len l]
    omega
def ind (b : Prop) [Decidable b] : Int := if b then 1 else 0
def cG (v : Nat) (a : Arr) (c : Int) : Int := if c = 0 then 0 else ind (a.1 = v) + ind (a.2 = v)
theorem ends_count (v : Nat) : ∀ (as : List Arr) (ms : List Int), (((endsOf (someOf as ms)).count v : Nat) : Int) = zsum (cG v) as ms
  | [], ms => by simp [someOf, endsOf, zsum]
  | a :: as, [] => by simp [someOf, endsOf, zsum]
  | a :: as, c :: ms => by
    have ih := ends_count v as ms
    show _ = cG v a c + zsum (cG v) as ms
    unfold someOf
    split
    · rename_i hz
      rw [ih]
      unfold cG
      rw [if_pos hz]
      omega
    · rename_i hz
      show (((a.1 :: a.2 :: endsOf (someOf as ms)).count v : Nat) : Int) = _
      rw [List.count_cons, List.count_cons]
      have e1 : cG v a c = ind (a.1 = v) + ind (a.2 = v) := if_neg hz
      rw [e1, ← ih]
      unfold ind
      by_cases h1 : a.1 = v <;> by_cases h2 : a.2 = v <;> simp [h1, h2] <;> omega
section
variable {n : Nat} {as : List Arr} {bs : List Bnd} {l : Nat → Option Stp} {z p : Nat}
theorem tele (f : Nat → Int) : ∀ j, ((List.range j).map fun i => f (i + 1) - f i).sum = f j - f 0
  | 0 => by simp
  | j + 1 => by
    rw [List.range_succ, List.map_append, List.sum_append, tele f j]
    simp
    omega
theorem sum_add (f g : Nat → Int) : ∀ j, ((List.range j).map fun i => f i + g i).sum = ((List.range j).map f).sum + ((List.range j).map g).sum
  | 0 => by simp
  | j + 1 => by
    rw [List.range_succ, List.map_append, List.sum_append, sum_add f g j, List.map_append, List.sum_append, List.map_append, List.sum_append]
    simp
    omega
theorem step_at {e : Stp} {a : Arr} (h : e ∈ stepsOf as bs) (ha : as[e.2.2.2.1]? = some a) : ∃ b, bs[e.2.2.2.1]? = some b ∧ ((e.1 = a.1 ∧ e.2.1 = a.2 ∧ e.2.2.1 = b.2 ∧ e.2.2.2.2 = 1) ∨ (e.1 = a.2 ∧ e.2.1 = a.1 ∧ e.2.2.1 = -b.1 ∧ e.2.2.2.2 = -1)) := by
  obtain ⟨j, a', b', h1, h2, h3⟩ := stepsOf_mem.mp h
  rcases h3 with rfl | rfl
  · rw [h1] at ha
    cases ha
    exact ⟨b', h2, .inl ⟨rfl, rfl, rfl, rfl⟩⟩
  · rw [h1] at ha
    cases ha
    exact ⟨b', h2, .inr ⟨rfl, rfl, rfl, rfl⟩⟩
theorem bar_flow (W : Web n as bs) (C : Cyc (stepsOf as bs) l z p) (v : Nat) : exc as (barL as.length l z p) v = 0 := by
  have h := bar_sum (G := exG v) (xs := as) (g := fun i => ind (it l (i + 1) z = v) - ind (it l i z = v)) (fun a => by unfold exG; split <;> split <;> rfl) W C rfl (fun i e hi he a ha => ?_) p (Nat.le_refl _)
  · unfold exc
    rw [h, tele (fun i => ind (it l i z = v)), C.home]
    show ind (z = v) - ind (z = v) = 0
    omega
  · obtain ⟨e', he', hm, h1, h2⟩ := C.all i
    rw [he] at he'
    cases he'
    obtain ⟨b, _, h3⟩ := step_at hm ha
    show exG v a e.2.2.2.2 = ind (it l (i + 1) z = v) - ind (it l i z = v)
    rw [← h1, ← h2]
    unfold exG ind
    rcases h3 with ⟨q1, q2, _, q4⟩ | ⟨q1, q2, _, q4⟩ <;> rw [q1, q2, q4] <;> by_cases c1 : a.1 = v <;> by_cases c2 : a.2 = v <;> simp [c1, c2]
theorem bar_weigh (W : Web n as bs) (C : Cyc (stepsOf as bs) l z p) : weigh bs (barL as.length l z p) < 0 := by
  have h := bar_sum (G := wG) (xs := bs) (g := fun i => match l (it l i z) with | some e => e.2.2.1 | none => 0) (fun b => by unfold wG; simp) W C W.len.symm (fun i e hi he b hb => ?_) p (Nat.le_refl _)
  · have hb : ∀ j, ((List.range j).map fun i => match l (it l i z) with | some e => e.2.2.1 | none => 0).sum = back l z j := by
      intro j
      induction j with
      | zero => rfl
      | succ j ih =>
        rw [List.range_succ, List.map_append, List.sum_append, ih]
        show back l z j + ((match l (it l j z) with | some e => e.2.2.1 | none => 0) + 0) = back l z j + _
        rw [Int.add_zero]
        try rfl
    unfold weigh
    rw [h, hb]
    exact C.neg
  · obtain ⟨e', he', hm, _⟩ := C.all i
    rw [he] at he'
    cases he'
    have hlt := (step_arrow W hm).1
    obtain ⟨b', hb', h3⟩ := step_at hm (List.getElem?_eq_getElem hlt)
    rw [hb] at hb'
    cases hb'
    show wG b e.2.2.2.2 = (match l (it l i z) with | some e => e.2.2.1 | none => 0)
    rw [he]
    unfold wG
    rcases h3 with ⟨_, _, q3, q4⟩ | ⟨_, _, q3, q4⟩
    · rw [q4]
      simp [q3]
    · rw [q4]
      simp [q3]
theorem bar_small (W : Web n as bs) (C : Cyc (stepsOf as bs) l z p) : ∀ j, Small (barL as.length l z j)
  | 0 => fun c hc => by
    have := List.eq_of_mem_replicate (show c ∈ List.replicate as.length (0 : Int) from hc)
    omega
  | j + 1 => fun c hc => by
    obtain ⟨e, he, hm, _⟩ := C.all j
    unfold barL at hc
    rw [he] at hc
    rcases List.mem_or_eq_of_mem_set hc with h | h
    · exact bar_small W C j c h
    · have := (step_arrow W hm).2
      omega
theorem bar_some (W : Web n as bs) (C : Cyc (stepsOf as bs) l z p) : ∀ (j k : Nat) (c : Int), (barL as.length l z j)[k]? = some c → c ≠ 0 → ∃ i e, i < j ∧ l (it l i z) = some e ∧ e ∈ stepsOf as bs ∧ e.2.2.2.1 = k
  | 0, k, c, h, hc => by
    have h : (List.replicate as.length (0 : Int))[k]? = some c := h
    rw [List.getElem?_replicate] at h
    split at h
    · cases h
      exact absurd rfl hc
    · cases h
  | j + 1, k, c, h, hc => by
    obtain ⟨e, he, hm, _⟩ := C.all j
    unfold barL at h
    rw [he] at h
    have h : ((barL as.length l z j).set e.2.2.2.1 e.2.2.2.2)[k]? = some c := h
    by_cases q : e.2.2.2.1 = k
    · exact ⟨j, e, Nat.lt_succ_self j, he, hm, q⟩
    · rw [List.getElem?_set_ne q] at h
      obtain ⟨i, f, h1, h2⟩ := bar_some W C j k c h hc
      exact ⟨i, f, by omega, h2⟩
theorem bar_arrow (W : Web n as bs) (C : Cyc (stepsOf as bs) l z p) {a : Arr} (h : a ∈ someOf as (barL as.length l z p)) : ∃ i, i < p ∧ ((it l i z = a.1 ∧ it l (i + 1) z = a.2) ∨ (it l i z = a.2 ∧ it l (i + 1) z = a.1)) := by
  obtain ⟨k, c, h1, h2, h3⟩ := someOf_mem.mp h
  obtain ⟨i, e, hi, he, hm, hk⟩ := bar_some W C p k c h2 h3
  obtain ⟨e', he', _, h4, h5⟩ := C.all i
  rw [he] at he'
  cases he'
  subst hk
  obtain ⟨b, _, h6⟩ := step_at hm h1
  refine ⟨i, hi, ?_⟩
  rw [← h4, ← h5]
  rcases h6 with ⟨q1, q2, _⟩ | ⟨q1, q2, _⟩
  · exact .inr ⟨q2, q1⟩
  · exact .inl ⟨q2, q1⟩
theorem bar_join (W : Web n as bs) (C : Cyc (stepsOf as bs) l z p) {i : Nat} (hi : i < p) : ∃ a ∈ someOf as (barL as.length l z p), ((it l i z = a.1 ∧ it l (i + 1) z = a.2) ∨ (it l i z = a.2 ∧ it l (i + 1) z = a.1)) := by
  obtain ⟨e, he, hm, h4, h5⟩ := C.all i
  have hlt := (step_arrow W hm).1
  have hc := barL_came W C p (Nat.le_refl _) i e hi he
  have ha := List.getElem?_eq_getElem hlt
  obtain ⟨b, _, h6⟩ := step_at hm ha
  refine ⟨as[e.2.2.2.1], someOf_mem.mpr ⟨_, _, ha, hc, by have := (step_arrow W hm).2; omega⟩, ?_⟩
  rw [← h4, ← h5]
  rcases h6 with ⟨q1, q2, _⟩ | ⟨q1, q2, _⟩
  · exact .inr ⟨q2, q1⟩
  · exact .inl ⟨q2, q1⟩
theorem one_ind (f : Nat → Nat) (v : Nat) : ∀ (j i0 : Nat), i0 < j → f i0 = v → (∀ i, i < j → i ≠ i0 → f i ≠ v) → ((List.range j).map fun i => ind (f i = v)).sum = 1 := by
  have zero : ∀ j, (∀ i, i < j → f i ≠ v) → ((List.range j).map fun i => ind (f i = v)).sum = 0 := by
    intro j
    induction j with
    | zero => intro _; rfl
    | succ j ih =>
      intro h
      rw [List.range_succ, List.map_append, List.sum_append, ih fun i hi => h i (by omega)]
      have := h j (Nat.lt_succ_self j)
      unfold ind
      simp [this]
  intro j
  induction j with
  | zero => intro i0 h; exact absurd h (Nat.not_lt_zero _)
  | succ j ih =>
    intro i0 hi e h
    rw [List.range_succ, List.map_append, List.sum_append]
    by_cases q : i0 = j
    · subst q
      rw [zero i0 fun i hi => h i (by omega) (by omega)]
      unfold ind
      simp [e]
    · rw [ih i0 (by omega) e fun i hi hn => h i (by omega) hn]
      have := h j (Nat.lt_succ_self j) (fun z => q z.symm)
      unfold ind
      simp [this]
theorem bar_count (W : Web n as bs) (C : Cyc (stepsOf as bs) l z p) {v : Nat} (hv : v ∈ endsOf (someOf as (barL as.length l z p))) : (endsOf (someOf as (barL as.length l z p))).count v = 2 := by
  have h := bar_sum (G := cG v) (xs := as) (g := fun i => ind (it l (i + 1) z = v) + ind (it l i z = v)) (fun a => by unfold cG; simp) W C rfl (fun i e hi he a ha => ?_) p (Nat.le_refl _)
  · have hc := ends_count v as (barL as.length l z p)
    rw [h, sum_add (fun i => ind (it l (i + 1) z = v)) (fun i => ind (it l i z = v))] at hc
    have ht := tele (fun i => ind (it l i z = v)) p
    have ht2 : ((List.range p).map fun i => ind (it l (i + 1) z = v) - ind (it l i z = v)).sum = 0 := by
      rw [ht, C.home]
      show ind (z = v) - ind (z = v) = 0
      omega
    have ht3 := sum_add (fun i => ind (it l (i + 1) z = v) - ind (it l i z = v)) (fun i => ind (it l i z = v)) p
    rw [ht2] at ht3
    have e3 : (fun i => ind (it l (i + 1) z = v) - ind (it l i z = v) + ind (it l i z = v)) = fun i => ind (it l (i + 1) z = v) := by
      funext i
      omega
    rw [e3] at ht3
    obtain ⟨a, ha, hav⟩ := endsOf_mem.mp hv
    obtain ⟨i, hi, hia⟩ := bar_arrow W C ha
    have ex : ∃ i0, i0 < p ∧ it l i0 z = v := by
      have at_ : ∀ j, j ≤ p → it l j z = v → ∃ i0, i0 < p ∧ it l i0 z = v := fun j hj e => by
        by_cases q : j < p
        · exact ⟨j, q, e⟩
        · have : j = p := by omega
          subst this
          rw [C.home] at e
          exact ⟨0, C.pos, e⟩
      rcases hia with ⟨q1, q2⟩ | ⟨q1, q2⟩ <;> rcases hav with q | q
      · exact at_ i (by omega) (q1.trans q)
      · exact at_ (i + 1) (by omega) (q2.trans q)
      · exact at_ (i + 1) (by omega) (q2.trans q)
      · exact at_ i (by omega) (q1.trans q)
    obtain ⟨i0, hi0, e0⟩ := ex
    have one := one_ind (fun i => it l i z) v p i0 hi0 e0 (fun i hi hne e => by
      have e : it l i z = v := e
      rcases Nat.lt_or_gt_of_ne hne with q | q
      · exact C.inj i i0 q hi0 (e.trans e0.symm)
      · exact C.inj i0 i q hi (e0.trans e.symm))
    omega
  · obtain ⟨e', he', hm, h1, h2⟩ := C.all i
    rw [he] at he'
    cases he'
    obtain ⟨b, _, h3⟩ := step_at hm ha
    show cG v a e.2.2.2.2 = ind (it l (i + 1) z = v) + ind (it l i z = v)
    rw [← h1, ← h2]
    unfold cG
    rcases h3 with ⟨q1, q2, _, q4⟩ | ⟨q1, q2, _, q4⟩ <;> rw [q1, q2, q4] <;> simp <;> omega
theorem bar_bars (W : Web n as bs) (C : Cyc (stepsOf as bs) l z p) : Bars n as bs (barL as.length l z p) := by
  refine ⟨fun v _ => bar_flow W C v, bar_small W C p, ⟨fun h => ?_, fun v hv => bar_count W C hv, fun S hS a ha hSa v hv => ?_⟩, bar_weigh W C⟩
  · obtain ⟨a, ha, _⟩ := bar_join W C C.pos
    rw [h] at ha
    simp at ha
  · have nxt : ∀ i, i < p → (S (it l i z) ↔ S (it l (i + 1) z)) := fun i hi => by
      obtain ⟨b, hb, q⟩ := bar_join W C hi
      have := hS b hb
      rcases q with ⟨q1, q2⟩ | ⟨q1, q2⟩
      · rw [q1, q2]
        exact this
      · rw [q1, q2]
        exact this.symm
    have all : ∀ i, i ≤ p → (S z ↔ S (it l i z)) := by
      intro i
      induction i with
      | zero => exact fun _ => Iff.rfl
      | succ i ih => exact fun hi => (ih (by omega)).trans (nxt i (by omega))
    have at_ : ∀ b ∈ someOf as (barL as.length l z p), ∀ u, b.1 = u ∨ b.2 = u → (S z ↔ S u) := fun b hb u hu => by
      obtain ⟨i, hi, q⟩ := bar_arrow W C hb
      rcases q with ⟨q1, q2⟩ | ⟨q1, q2⟩ <;> rcases hu with hu | hu
      · rw [← hu, ← q1]; exact all i (by omega)
      · rw [← hu, ← q2]; exact all (i + 1) (by omega)
      · rw [← hu, ← q2]; exact all (i + 1) (by omega)
      · rw [← hu, ← q1]; exact all i (by omega)
    have ham : a ∈ someOf as (barL as.length l z p) := List.mem_of_mem_head? ha
    obtain ⟨b, hb, hu⟩ := endsOf_mem.mp hv
    exact (at_ b hb v hu).mp ((at_ a ham a.1 (.inl rfl)).mpr hSa)
end
/-! ## the program's joining -/
def jn1 (l : List Arr) (J : List Nat) : List Nat := J ++ (l.filter fun a => decide (a.1 ∈ J) && !decide (a.2 ∈ J)).map (·.2)
def jn2 (l : List Arr) (J : List Nat) : List Nat := J ++ (l.filter fun a => decide (a.2 ∈ J) && !decide (a.1 ∈ J)).map (·.1)
def jn (l : List Arr) (J : List Nat) : List Nat := jn2 l (jn1 l J)
def jns (l : List Arr) : Nat → List Nat → List Nat
  | 0, J => J
  | k + 1, J => jn l (jns l k J)
theorem jn1_mem {l : List Arr} {J : List Nat} {v : Nat} : v ∈ jn1 l J ↔ v ∈ J ∨ ∃ a ∈ l, a.1 ∈ J ∧ a.2 ∉ J ∧ a.2 = v := by
  unfold jn1
  rw [List.mem_append, List.mem_map]
  simp only [List.mem_filter, Bool.and_eq_true, decide_eq_true_eq, Bool.not_eq_true', decide_eq_false_iff_not]
  constructor
  · rintro (h | ⟨a, ⟨h1, h2, h3⟩, h4⟩)
    · exact .inl h
    · exact .inr ⟨a, h1, h2, h3, h4⟩
  · rintro (h | ⟨a, h1, h2, h3, h4⟩)
    · exact .inl h
    · exact .inr ⟨a, ⟨h1, h2, h3⟩, h4⟩
theorem jn2_mem {l : List Arr} {J : List Nat} {v : Nat} : v ∈ jn2 l J ↔ v ∈ J ∨ ∃ a ∈ l, a.2 ∈ J ∧ a.1 ∉ J ∧ a.1 = v := by
  unfold jn2
  rw [List.mem_append, List.mem_map]
  simp only [List.mem_filter, Bool.and_eq_true, decide_eq_true_eq, Bool.not_eq_true', decide_eq_false_iff_not]
  constructor
  · rintro (h | ⟨a, ⟨h1, h2, h3⟩, h4⟩)
    · exact .inl h
    · exact .inr ⟨a, h1, h2, h3, h4⟩
  · rintro (h | ⟨a, h1, h2, h3, h4⟩)
    · exact .inl h
    · exact .inr ⟨a, ⟨h1, h2, h3⟩, h4⟩
theorem jn_sub {l : List Arr} {J : List Nat} {v : Nat} (h : v ∈ J) : v ∈ jn l J := jn2_mem.mpr (.inl (jn1_mem.mpr (.inl h)))
theorem jn_in {l : List Arr} {J : List Nat} {S : Nat → Prop} (hS : Closed l S) (h : ∀ v ∈ J, S v) : ∀ v ∈ jn l J, S v := fun v hv => by
  have h1 : ∀ v ∈ jn1 l J, S v := fun v hv => by
    rcases jn1_mem.mp hv with q | ⟨a, h1, h2, _, h4⟩
    · exact h v q
    · rw [← h4]
      exact (hS a h1).mp (h _ h2)
  rcases jn2_mem.mp hv with q | ⟨a, h2, h3, _, h4⟩
  · exact h1 v q
  · rw [← h4]
    exact (hS a h2).mpr (h1 _ h3)
theorem jns_in {l : List Arr} {J : List Nat} {S : Nat → Prop} (hS : Closed l S) (h : ∀ v ∈ J, S v) : ∀ k, ∀ v ∈ jns l k J, S v
  | 0 => h
  | k + 1 => jn_in hS (jns_in hS h k)
theorem jns_sub {l : List Arr} {J : List Nat} {v : Nat} (h : v ∈ J) : ∀ k, v ∈ jns l k J
  | 0 => h
  | k + 1 => jn_sub (jns_sub h k)
theorem jn_closed {l : List Arr} {J : List Nat} (h : Closed l (· ∈ J)) : Closed l (· ∈ jn l J) := by
  have e : ∀ v, v ∈ jn l J ↔ v ∈ J := fun v => ⟨fun q => jn_in h (fun _ x => x) v q, jn_sub⟩
  intro a ha
  show a.1 ∈ jn l J ↔ a.2 ∈ jn l J
  rw [e, e]
  exact h a ha
theorem filter_more {α : Type} [BEq α] [LawfulBEq α] {p q : α → Bool} {v : α} (hpq : ∀ x, p x = true → q x = true) (hq : q v = true) (hp : p v = false) : ∀ L : List α, (L.filter p).length + L.count v ≤ (L.filter q).length
  | [] => Nat.le_refl _
  | x :: L => by
    have ih := filter_more hpq hq hp L
    rw [List.count_cons]
    by_cases e : x = v
    · subst e
      rw [List.filter_cons_of_neg (by rw [hp]; simp), List.filter_cons_of_pos hq]
      simp
      omega
    · have e2 : (x == v) = false := by simpa using e
      rw [e2]
      by_cases h1 : p x = true
      · rw [List.filter_cons_of_pos h1, List.filter_cons_of_pos (hpq x h1)]
        simp
        omega
      · rw [List.filter_cons_of_neg h1]
        by_cases h2 : q x = true
        · rw [List.filter_cons_of_pos h2]
          simp
          omega
        · rw [List.filter_cons_of_neg h2]
          simp
          omega
def inJ (l : List Arr) (J : List Nat) : Nat := ((endsOf l).filter fun v => decide (v ∈ J)).length
theorem jn_grow {l : List Arr} {J : List Nat} (hc : ∀ v ∈ endsOf l, (endsOf l).count v = 2) (h : ¬ Closed l (· ∈ J)) : inJ l J + 2 ≤ inJ l (jn l J) := by
  have ex : ∃ v, v ∈ endsOf l ∧ v ∉ J ∧ v ∈ jn l J := by
    by_cases q : ∃ a ∈ l, a.1 ∈ J ∧ a.2 ∉ J
    · obtain ⟨a, ha, h1, h2⟩ := q
      exact ⟨a.2, endsOf_mem.mpr ⟨a, ha, .inr rfl⟩, h2, jn2_mem.mpr (.inl (jn1_mem.mpr (.inr ⟨a, ha, h1, h2, rfl⟩)))⟩
    · by_cases q2 : ∃ a ∈ l, a.2 ∈ J ∧ a.1 ∉ J
      · obtain ⟨a, ha, h1, h2⟩ := q2
        refine ⟨a.1, endsOf_mem.mpr ⟨a, ha, .inl rfl⟩, h2, ?_⟩
        by_cases q3 : a.1 ∈ jn1 l J
        · exact jn2_mem.mpr (.inl q3)
        · exact jn2_mem.mpr (.inr ⟨a, ha, jn1_mem.mpr (.inl h1), q3, rfl⟩)
      · refine absurd (fun a ha => ⟨fun x => ?_, fun x => ?_⟩) h
        · by_cases y : a.2 ∈ J
          · exact y
          · exact absurd ⟨a, ha, x, y⟩ q
        · by_cases y : a.1 ∈ J
          · exact y
          · exact absurd ⟨a, ha, x, y⟩ q2
  obtain ⟨v, h1, h2, h3⟩ := ex
  have := filter_more (p := fun v => decide (v ∈ J)) (q := fun v => decide (v ∈ jn l J)) (v := v) (fun x hx => decide_eq_true (jn_sub (of_decide_eq_true hx))) (decide_eq_true h3) (decide_eq_false h2) (endsOf l)
  rw [hc v h1] at this
  exact this
theorem jns_closed {l : List Arr} {J : List Nat} (hc : ∀ v ∈ endsOf l, (endsOf l).count v = 2) (h0 : 2 ≤ inJ l J) : Closed l (· ∈ jns l l.length J) := by
  have key : ∀ k, Closed l (· ∈ jns l k J) ∨ 2 + 2 * k ≤ inJ l (jns l k J) := by
    intro k
    induction k with
    | zero => exact .inr h0
    | succ k ih =>
      by_cases q : Closed l (· ∈ jns l k J)
      · exact .inl (jn_closed q)
      · rcases ih with ih | ih
        · exact absurd ih q
        · have := jn_grow hc q
          right
          show 2 + 2 * (k + 1) ≤ inJ l (jn l (jns l k J))
          omega
  rcases key l.length with h | h
  · exact h
  · exfalso
    have h2 : inJ l (jns l l.length J) ≤ (endsOf l).length := List.length_filter_le ..
    rw [endsOf_len] at h2
    omega
theorem jns_conn {l : List Arr} {a : Arr} (ha : l.head? = some a) (hc : ∀ v ∈ endsOf l, (endsOf l).count v = 2) : (∀ v ∈ endsOf l, v ∈ jns l l.length [a.1]) ↔ Conn l := by
  have ham : a ∈ l := List.mem_of_mem_head? ha
  have hv : a.1 ∈ endsOf l := endsOf_mem.mpr ⟨a, ham, .inl rfl⟩
  constructor
  · intro h S hS b hb hSb v hv
    rw [ha] at hb
    cases hb
    exact jns_in hS (J := [a.1]) (fun v h => by
      have : v = a.1 := by simpa using h
      rw [this]
      exact hSb) _ v (h v hv)
  · intro h v hv'
    refine h (· ∈ jns l l.length [a.1]) (jns_closed hc ?_) a ha (jns_sub (by simp) _) v hv'
    have := filter_more (p := fun _ => false) (q := fun v => decide (v ∈ [a.1])) (v := a.1) (fun x hx => nomatch hx) (by simp) rfl (endsOf l)
    rw [hc _ hv] at this
    unfold inJ
    omega
end EW
namespace EW
/-! ## the law's own coming along -/
def swap (a : Arr) : Arr := (a.2, a.1)
def both (l : List Arr) : List Arr := l ++ l.map swap
theorem both_mem {l : List Arr} {b : Arr} : b ∈ both l ↔ b ∈ l ∨ swap b ∈ l := by
  unfold both
  rw [List.mem_append, List.mem_map]
  constructor
  · rintro (h | ⟨a, h, rfl⟩)
    · exact .inl h
    · exact .inr h
  · rintro (h | h)
    · exact .inl h
    · exact .inr ⟨swap b, h, rfl⟩
def comeOne (w : Nat) (here : List Nat) (b : Arr) : List Nat := if b.1 = w ∧ b.2 ∉ here then here ++ [b.2] else here
structure Come (l : List Arr) (s : Nat) (here : List Nat) : Prop where
  nodup : here.Nodup
  sub : ∀ v ∈ here, v ∈ endsOf l
  start : s ∈ here
  inn : ∀ S : Nat → Prop, Closed l S → S s → ∀ v ∈ here, S v
def Nbr (l : List Arr) (here : List Nat) (v : Nat) : Prop := ∀ b ∈ both l, b.1 = v → b.2 ∈ here
theorem comeOne_pre (w : Nat) (here : List Nat) (b : Arr) : ∃ r, comeOne w here b = here ++ r := by
  unfold comeOne
  split
  · exact ⟨_, rfl⟩
  · exact ⟨[], (List.append_nil _).symm⟩
theorem comeOne_ok {l : List Arr} {s w : Nat} {here : List Nat} {b : Arr} (C : Come l s here) (hw : w ∈ here) (hb : b ∈ both l) : Come l s (comeOne w here b) ∧ (b.1 = w → b.2 ∈ comeOne w here b) := by
  unfold comeOne
  by_cases h : b.1 = w ∧ b.2 ∉ here
  · rw [if_pos h]
    refine ⟨⟨?_, fun v hv => ?_, List.mem_append_left _ C.start, fun S hS h0 v hv => ?_⟩, fun _ => by simp⟩
    · rw [List.nodup_append]
      refine ⟨C.nodup, by simp, fun a ha c hc => ?_⟩
      have : c = b.2 := by simpa using hc
      subst this
      exact fun e => h.2 (e ▸ ha)
    · rcases List.mem_append.mp hv with hv | hv
      · exact C.sub v hv
      · have : v = b.2 := by simpa using hv
        subst this
        rcases both_mem.mp hb with q | q
        · exact endsOf_mem.mpr ⟨b, q, .inr rfl⟩
        · exact endsOf_mem.mpr ⟨_, q, .inl rfl⟩
    · rcases List.mem_append.mp hv with hv | hv
      · exact C.inn S hS h0 v hv
      · have : v = b.2 := by simpa using hv
        subst this
        have hw' := C.inn S hS h0 w hw
        rw [← h.1] at hw'
        rcases both_mem.mp hb with q | q
        · exact (hS b q).mp hw'
        · exact (hS _ q).mpr hw'
  · rw [if_neg h]
    refine ⟨C, fun e => ?_⟩
    by_cases q : b.2 ∈ here
    · exact q
    · exact absurd ⟨e, q⟩ h
theorem come_fold {l : List Arr} {s w : Nat} : ∀ (bs : List Arr) (here : List Nat), (∀ b ∈ bs, b ∈ both l) → Come l s here → w ∈ here → Come l s (bs.foldl (comeOne w) here) ∧ (∃ r, bs.foldl (comeOne w) here = here ++ r) ∧ ∀ b ∈ bs, b.1 = w → b.2 ∈ bs.foldl (comeOne w) here
  | [], here, _, C, _ => ⟨C, ⟨[], (List.append_nil _).symm⟩, fun b h => by simp at h⟩
  | b :: bs, here, hb, C, hw => by
    obtain ⟨C1, h1⟩ := comeOne_ok C hw (hb b List.mem_cons_self)
    obtain ⟨r1, e1⟩ := comeOne_pre w here b
    obtain ⟨C2, ⟨r2, e2⟩, h2⟩ := come_fold bs (comeOne w here b) (fun x hx => hb x (List.mem_cons_of_mem _ hx)) C1 (by rw [e1]; exact List.mem_append_left _ hw)
    refine ⟨C2, ⟨r1 ++ r2, by show bs.foldl (comeOne w) (comeOne w here b) = _; rw [e2, e1, List.append_assoc]⟩, fun x hx q => ?_⟩
    rcases List.mem_cons.mp hx with rfl | hx
    · show x.2 ∈ bs.foldl (comeOne w) (comeOne w here x)
      rw [e2]
      exact List.mem_append_left _ (h1 q)
    · exact h2 x hx q
theorem come_end {l : List Arr} {a : Arr} {here : List Nat} (ha : l.head? = some a) (C : Come l a.1 here) (hd : ∀ v ∈ here, Nbr l here v) : (∀ v ∈ endsOf l, v ∈ here) ↔ Conn l := by
  have hcl : Closed l (· ∈ here) := fun b hb => ⟨fun q => hd _ q b (both_mem.mpr (.inl hb)) rfl, fun q => hd _ q (swap b) (both_mem.mpr (.inr hb)) rfl⟩
  constructor
  · intro h S hS b hb hSb v hv
    rw [ha] at hb
    cases hb
    exact C.inn S hS hSb v (h v hv)
  · intro h v hv
    exact h (· ∈ here) hcl a ha C.start v hv
theorem nodup_len {α : Type} [DecidableEq α] : ∀ {l m : List α}, l.Nodup → (∀ v ∈ l, v ∈ m) → l.length ≤ m.length
  | [], m, _, _ => Nat.zero_le _
  | a :: l, m, hn, hs => by
    obtain ⟨h1, h2⟩ := List.nodup_cons.mp hn
    have ha := hs a List.mem_cons_self
    have ih := nodup_len (l := l) (m := m.erase a) h2 (fun v hv => (List.mem_erase_of_ne (fun (e : v = a) => h1 (e ▸ hv))).mpr (hs v (List.mem_cons_of_mem _ hv)))
    rw [List.length_erase_of_mem ha] at ih
    have := List.length_pos_of_mem ha
    show l.length + 1 ≤ m.length
    omega
/-- two rising lists of the same members are one -/
theorem rise_eq : ∀ {xs ys : List Int}, xs.Pairwise (· < ·) → ys.Pairwise (· < ·) → (∀ v, v ∈ xs ↔ v ∈ ys) → xs = ys
  | [], [], _, _, _ => rfl
  | [], y :: ys, _, _, h => absurd ((h y).mpr List.mem_cons_self) (by simp)
  | x :: xs, [], _, _, h => absurd ((h x).mp List.mem_cons_self) (by simp)
  | x :: xs, y :: ys, hx, hy, h => by
    obtain ⟨hx1, hx2⟩ := List.pairwise_cons.mp hx
    obtain ⟨hy1, hy2⟩ := List.pairwise_cons.mp hy
    have e : x = y := by
      rcases List.mem_cons.mp ((h x).mp List.mem_cons_self) with q | q
      · exact q
      · rcases List.mem_cons.mp ((h y).mpr List.mem_cons_self) with q2 | q2
        · exact q2.symm
        · have := hx1 y q2
          have := hy1 x q
          omega
    subst e
    congr 1
    refine rise_eq hx2 hy2 fun v => ⟨fun q => ?_, fun q => ?_⟩
    · rcases List.mem_cons.mp ((h v).mp (List.mem_cons_of_mem _ q)) with q2 | q2
      · have := hx1 v q
        omega
      · exact q2
    · rcases List.mem_cons.mp ((h v).mpr (List.mem_cons_of_mem _ q)) with q2 | q2
      · have := hy1 v q
        omega
      · exact q2
theorem le_lt_of_nodup {xs : List Int} (h : xs.Pairwise (· ≤ ·)) (hn : xs.Nodup) : xs.Pairwise (· < ·) := by
  have := List.pairwise_and_iff.mpr ⟨h, hn⟩
  exact this.imp fun {a b} q => by
    have h1 := q.1
    have h2 : a ≠ b := q.2
    omega

/-! ## pulls -/
def IsPull (as : List Arr) (ms : List Int) : Prop := ∃ h : Nat → Int, ∀ (k : Nat) (a : Arr) (c : Int), as[k]? = some a → ms[k]? = some c → c = h a.2 - h a.1
def og (O : List (Option Int)) (v : Nat) : Option Int := (O[v]?).getD none
theorem og_set {O : List (Option Int)} {v : Nat} {a : Option Int} (h : v < O.length) (u : Nat) : og (O.set v a) u = if u = v then a else og O u := by
  unfold og
  by_cases e : u = v
  · subst e
    rw [if_pos rfl, List.getElem?_set_self h]
    rfl
  · rw [if_neg e, List.getElem?_set_ne (fun z => e z.symm)]
theorem og_some {O : List (Option Int)} {v : Nat} {p : Int} (h : og O v = some p) : v < O.length := by
  unfold og at h
  cases q : O[v]? with
  | none => rw [q] at h; cases h
  | some x => exact (List.getElem?_eq_some_iff.mp q).1
section
variable {as : List Arr} {ms : List Int} {hp : Prop} {h : Nat → Int}
def Pot (as : List Arr) (ms : List Int) (h : Nat → Int) : Prop := ∀ (k : Nat) (a : Arr) (c : Int), as[k]? = some a → ms[k]? = some c → c = h a.2 - h a.1
/-- O0 ahead of a start at s, O now -/
structure Exl (hp : Prop) (h : Nat → Int) (O0 O : List (Option Int)) (s : Nat) : Prop where
  len : O.length = O0.length
  keep : ∀ v p, og O0 v = some p → og O v = some p
  made : hp → ∀ v p, og O v = some p → og O0 v = some p ∨ p = h v - h s
theorem Exl.start {O0 : List (Option Int)} {s : Nat} (hs : s < O0.length) (h0 : og O0 s = none) : Exl hp h O0 (O0.set s (some 0)) s := by
  refine ⟨List.length_set .., fun v p q => ?_, fun _ v p q => ?_⟩
  · rw [og_set hs]
    by_cases e : v = s
    · rw [e, h0] at q
      cases q
    · rw [if_neg e]
      exact q
  · rw [og_set hs] at q
    by_cases e : v = s
    · rw [if_pos e] at q
      cases q
      right
      rw [e]
      omega
    · rw [if_neg e] at q
      exact .inl q
/-- a further place: the rise from low to other -/
theorem Exl.step {O0 O : List (Option Int)} {s low other : Nat} {p rise : Int} (E : Exl hp h O0 O s) (ho : other < O.length) (hn : og O other = none) (hl : og O low = some p) (h0 : og O0 low = none) (hr : hp → rise = h other - h low) :
    Exl hp h O0 (O.set other (some (p + rise))) s := by
  refine ⟨(List.length_set ..).trans E.len, fun v q e => ?_, fun hh v q e => ?_⟩
  · rw [og_set ho]
    by_cases c : v = other
    · have := E.keep v q e
      rw [c, hn] at this
      cases this
    · rw [if_neg c]
      exact E.keep v q e
  · rw [og_set ho] at e
    by_cases c : v = other
    · rw [if_pos c] at e
      cases e
      right
      rcases E.made hh low p hl with q | q
      · rw [h0] at q
        cases q
      · have := hr hh
        rw [c]
        omega
    · rw [if_neg c] at e
      exact E.made hh v q e
structure Tree (as : List Arr) (ms : List Int) (hp : Prop) (O : List (Option Int)) : Prop where
  clo : ∀ a ∈ as, og O a.1 = none ↔ og O a.2 = none
  con : hp → ∀ (k : Nat) (a : Arr) (c : Int), as[k]? = some a → ms[k]? = some c → ∀ p q, og O a.1 = some p → og O a.2 = some q → c = q - p
theorem Tree.empty {n : Nat} : Tree as ms hp (List.replicate n none) := by
  have e : ∀ v, og (List.replicate n none) v = none := fun v => by
    unfold og
    rw [List.getElem?_replicate]
    split <;> rfl
  exact ⟨fun a _ => by rw [e, e], fun _ k a c _ _ p q h1 _ => by rw [e] at h1; cases h1⟩
theorem Tree.next {O0 O : List (Option Int)} {s : Nat} (T : Tree as ms hp O0) (E : Exl hp h O0 O s) (P : hp → Pot as ms h) (hc : ∀ a ∈ as, og O a.1 = none ↔ og O a.2 = none) : Tree as ms hp O := by
  refine ⟨hc, fun hh k a c ha hm p q h1 h2 => ?_⟩
  have ham := List.mem_of_getElem? ha
  have hpot := P hh k a c ha hm
  rcases E.made hh _ _ h1 with e1 | e1
  · cases e2 : og O0 a.2 with
    | none =>
      rw [(T.clo a ham).mpr e2] at e1
      cases e1
    | some q' =>
      have := E.keep _ _ e2
      rw [h2] at this
      cases this
      exact T.con hh k a c ha hm p q e1 e2
  · rcases E.made hh _ _ h2 with e2 | e2
    · cases e3 : og O0 a.1 with
      | none =>
        rw [(T.clo a ham).mp e3] at e2
        cases e2
      | some p' =>
        have := E.keep _ _ e3
        rw [h1] at this
        cases this
        exact T.con hh k a c ha hm p q e3 e2
    · omega
/-! ### the program's way: a stack -/
abbrev DS := List (Option Int) × List Nat
def dfs1 (low : Nat) (s : DS) (d : Nat × Nat × Int) : DS := if d.1 = low ∧ og s.1 d.2.1 = none then (s.1.set d.2.1 (some ((og s.1 low).getD 0 + d.2.2)), s.2 ++ [d.2.1]) else s
def Nb (as : List Arr) (O : List (Option Int)) (v : Nat) : Prop := ∀ a ∈ as, (a.1 = v → og O a.2 ≠ none) ∧ (a.2 = v → og O a.1 ≠ none)
/-- low is being left; dn: the arrows that are done -/
structure Dfs (as : List Arr) (hp : Prop) (h : Nat → Int) (O0 : List (Option Int)) (s low : Nat) (dn : List (Nat × Nat × Int)) (S : DS) : Prop where
  ex : Exl hp h O0 S.1 s
  stk : ∀ v ∈ S.2, og S.1 v ≠ none
  lowi : og S.1 low ≠ none ∧ og O0 low = none
  stn : ∀ v ∈ S.2, og O0 v = none
  done : ∀ v, og S.1 v ≠ none → og O0 v ≠ none ∨ v ∈ S.2 ∨ v = low ∨ Nb as S.1 v
  part : ∀ d ∈ dn, d.1 = low → og S.1 d.2.1 ≠ none
theorem dfs1_ok {O0 : List (Option Int)} {s low : Nat} {dn : List (Nat × Nat × Int)} {S : DS} (D : Dfs as hp h O0 s low dn S) (d : Nat × Nat × Int) (hd : d.2.1 < O0.length) (hr : hp → d.2.2 = h d.2.1 - h d.1) :
    Dfs as hp h O0 s low (dn ++ [d]) (dfs1 low S d) ∧ (dfs1 low S d).1.count none + (dfs1 low S d).2.length = S.1.count none + S.2.length := by
  unfold dfs1
  by_cases c : d.1 = low ∧ og S.1 d.2.1 = none
  · rw [if_pos c]
    have hlt : d.2.1 < S.1.length := by rw [D.ex.len]; exact hd
    have mono : ∀ v, og S.1 v ≠ none → og (S.1.set d.2.1 (some ((og S.1 low).getD 0 + d.2.2))) v ≠ none := fun v q => by
      rw [og_set hlt]
      split
      · exact fun z => nomatch z
      · exact q
    have new : og (S.1.set d.2.1 (some ((og S.1 low).getD 0 + d.2.2))) d.2.1 ≠ none := by
      rw [og_set hlt, if_pos rfl]
      exact fun z => nomatch z
    have n0 : og O0 d.2.1 = none := by
      cases e : og O0 d.2.1 with
      | none => rfl
      | some p =>
        have := D.ex.keep _ _ e
        rw [c.2] at this
        cases this
    obtain ⟨p, hp1⟩ : ∃ p, og S.1 low = some p := by
      cases e : og S.1 low with
      | none => exact absurd e D.lowi.1
      | some p => exact ⟨p, rfl⟩
    refine ⟨⟨?_, fun v hv => ?_, ⟨mono _ D.lowi.1, D.lowi.2⟩, fun v hv => ?_, fun v hv => ?_, fun x hx hxl => ?_⟩, ?_⟩
    · rw [hp1]
      exact D.ex.step hlt c.2 hp1 D.lowi.2 (fun hh => by rw [← c.1]; exact hr hh)
    · rcases List.mem_append.mp hv with hv | hv
      · exact mono v (D.stk v hv)
      · have : v = d.2.1 := by simpa using hv
        rw [this]
        exact new
    · rcases List.mem_append.mp hv with hv | hv
      · exact D.stn v hv
      · have : v = d.2.1 := by simpa using hv
        rw [this]
        exact n0
    · have hv : og (S.1.set d.2.1 (some ((og S.1 low).getD 0 + d.2.2))) v ≠ none := hv
      by_cases e : v = d.2.1
      · exact .inr (.inl (List.mem_append_right _ (by simp [e])))
      · rw [og_set hlt, if_neg e] at hv
        rcases D.done v hv with q | q | q | q
        · exact .inl q
        · exact .inr (.inl (List.mem_append_left _ q))
        · exact .inr (.inr (.inl q))
        · exact .inr (.inr (.inr fun a ha => ⟨fun e => mono _ ((q a ha).1 e), fun e => mono _ ((q a ha).2 e)⟩))
    · rcases List.mem_append.mp hx with hx | hx
      · exact mono _ (D.part x hx hxl)
      · have : x = d := by simpa using hx
        rw [this]
        exact new
    · have hget : S.1[d.2.1]? = some none := by
        have := c.2
        unfold og at this
        rw [List.getElem?_eq_getElem hlt] at this ⊢
        have this : S.1[d.2.1] = none := this
        rw [this]
      have hc := List.count_set (a := (some ((og S.1 low).getD 0 + d.2.2))) (b := (none : Option Int)) (l := S.1) (i := d.2.1) hlt
      have e1 : S.1[d.2.1] = none := by
        rw [List.getElem?_eq_getElem hlt] at hget
        exact Option.some.inj hget
      have hpos : 0 < S.1.count none := List.count_pos_iff.mpr (e1 ▸ List.getElem_mem hlt)
      show (S.1.set d.2.1 (some ((og S.1 low).getD 0 + d.2.2))).count none + (S.2 ++ [d.2.1]).length = _
      rw [hc, e1, List.length_append]
      simp
      omega
  · rw [if_neg c]
    refine ⟨⟨D.ex, D.stk, D.lowi, D.stn, D.done, fun x hx hxl => ?_⟩, rfl⟩
    rcases List.mem_append.mp hx with hx | hx
    · exact D.part x hx hxl
    · have : x = d := by simpa using hx
      subst this
      exact fun z => c ⟨hxl, z⟩
/-- the ways of the arrows, there and back -/
def ways : List Arr → List Int → List (Nat × Nat × Int)
  | a :: as, c :: ms => (a.1, a.2, c) :: (a.2, a.1, -c) :: ways as ms
  | _, _ => []
theorem ways_more : ∀ (i : Nat) (as : List Arr) (ms : List Int) (a : Arr) (c : Int), as[i]? = some a → ms[i]? = some c → ways (as.take (i + 1)) (ms.take (i + 1)) = ways (as.take i) (ms.take i) ++ [(a.1, a.2, c)] ++ [(a.2, a.1, -c)]
  | _, [], _, a, c, h1, _ => by simp at h1
  | _, _ :: _, [], a, c, _, h2 => by simp at h2
  | 0, x :: as, y :: ms, a, c, h1, h2 => by
    cases h1
    cases h2
    simp [ways]
  | i + 1, x :: as, y :: ms, a, c, h1, h2 => by
    have h := ways_more i as ms a c h1 h2
    show (x.1, x.2, y) :: (x.2, x.1, -y) :: ways (as.take (i + 1)) (ms.take (i + 1)) = ((x.1, x.2, y) :: (x.2, x.1, -y) :: ways (as.take i) (ms.take i)) ++ _ ++ _
    rw [h]
    rfl
theorem ways_mem : ∀ {as : List Arr} {ms : List Int}, as.length = ms.length → ∀ a ∈ as, ∃ c, (a.1, a.2, c) ∈ ways as ms ∧ (a.2, a.1, -c) ∈ ways as ms
  | [], _, _, a, h => by simp at h
  | _ :: _, [], hl, _, _ => by simp at hl
  | x :: as, y :: ms, hl, a, h => by
    unfold ways
    rcases List.mem_cons.mp h with rfl | h
    · exact ⟨y, by simp, by simp⟩
    · obtain ⟨c, h1, h2⟩ := ways_mem (as := as) (ms := ms) (by simpa using hl) a h
      exact ⟨c, List.mem_cons_of_mem _ (List.mem_cons_of_mem _ h1), List.mem_cons_of_mem _ (List.mem_cons_of_mem _ h2)⟩
/-- between two pops -/
structure DfsO (as : List Arr) (hp : Prop) (h : Nat → Int) (O0 : List (Option Int)) (s : Nat) (S : DS) : Prop where
  ex : Exl hp h O0 S.1 s
  stk : ∀ v ∈ S.2, og S.1 v ≠ none
  stn : ∀ v ∈ S.2, og O0 v = none
  done : ∀ v, og S.1 v ≠ none → og O0 v ≠ none ∨ v ∈ S.2 ∨ Nb as S.1 v
theorem dfsO_start {O0 : List (Option Int)} {s : Nat} (hs : s < O0.length) (h0 : og O0 s = none) : DfsO as hp h O0 s (O0.set s (some 0), [s]) := by
  refine ⟨Exl.start hs h0, fun v hv => ?_, fun v hv => ?_, fun v hv => ?_⟩
  · have : v = s := by simpa using hv
    subst this
    show og (O0.set v (some 0)) v ≠ none
    rw [og_set hs, if_pos rfl]
    exact fun z => nomatch z
  · have : v = s := by simpa using hv
    rw [this]
    exact h0
  · have hv : og (O0.set s (some 0)) v ≠ none := hv
    by_cases e : v = s
    · exact .inr (.inl (by simp [e]))
    · rw [og_set hs, if_neg e] at hv
      exact .inl hv
theorem dfsO_pop {O0 : List (Option Int)} {s low : Nat} {O : List (Option Int)} {st : List Nat} (D : DfsO as hp h O0 s (O, st ++ [low])) : Dfs as hp h O0 s low [] (O, st) := by
  refine ⟨D.ex, fun v hv => D.stk v (List.mem_append_left _ hv), ⟨D.stk low (List.mem_append_right _ (by simp)), D.stn low (List.mem_append_right _ (by simp))⟩, fun v hv => D.stn v (List.mem_append_left _ hv), fun v hv => ?_, fun d hd => by simp at hd⟩
  rcases D.done v hv with q | q | q
  · exact .inl q
  · rcases List.mem_append.mp q with q | q
    · exact .inr (.inl q)
    · exact .inr (.inr (.inl (by simpa using q)))
  · exact .inr (.inr (.inr q))
theorem dfs_out {O0 : List (Option Int)} {s low : Nat} {S : DS} (hl : as.length = ms.length) (D : Dfs as hp h O0 s low (ways as ms) S) : DfsO as hp h O0 s S := by
  refine ⟨D.ex, D.stk, D.stn, fun v hv => ?_⟩
  rcases D.done v hv with q | q | q | q
  · exact .inl q
  · exact .inr (.inl q)
  · subst q
    refine .inr (.inr fun a ha => ?_)
    obtain ⟨c, h1, h2⟩ := ways_mem hl a ha
    exact ⟨fun e => D.part _ h1 e, fun e => D.part _ h2 e⟩
  · exact .inr (.inr q)
theorem dfsO_end {O0 O : List (Option Int)} {s : Nat} (T : Tree as ms hp O0) (P : hp → Pot as ms h) (D : DfsO as hp h O0 s (O, [])) : Tree as ms hp O := by
  refine T.next D.ex P fun a ha => ?_
  have key : ∀ v, og O v ≠ none → og O0 v ≠ none ∨ Nb as O v := fun v hv => by
    rcases D.done v hv with q | q | q
    · exact .inl q
    · simp at q
    · exact .inr q
  have old : ∀ v, og O0 v ≠ none → og O v ≠ none := fun v hv => by
    cases e : og O0 v with
    | none => exact absurd e hv
    | some p =>
      rw [D.ex.keep _ _ e]
      exact fun z => nomatch z
  constructor
  · intro e
    by_cases c : og O a.2 = none
    · exact c
    · exfalso
      rcases key a.2 c with q | q
      · exact old a.1 (fun z => q ((T.clo a ha).mp z)) e
      · exact (q a ha).2 rfl e
  · intro e
    by_cases c : og O a.1 = none
    · exact c
    · exfalso
      rcases key a.1 c with q | q
      · exact old a.2 (fun z => q ((T.clo a ha).mpr z)) e
      · exact (q a ha).1 rfl e
/-! ### the law's way: turns over all arrows -/
def sw1 (O : List (Option Int)) (a : Arr) (c : Int) : List (Option Int) := match og O a.1, og O a.2 with
  | some p, none => O.set a.2 (some (p + c))
  | none, some q => O.set a.1 (some (q - c))
  | _, _ => O
def Even (O : List (Option Int)) (a : Arr) : Prop := og O a.1 = none ↔ og O a.2 = none
theorem count_fill {O : List (Option Int)} {v : Nat} {p : Int} (hv : v < O.length) (h0 : og O v = none) : (O.set v (some p)).count none + 1 = O.count none := by
  have e1 : O[v] = none := by
    unfold og at h0
    rw [List.getElem?_eq_getElem hv] at h0
    exact h0
  have hc := List.count_set (a := some p) (b := (none : Option Int)) (l := O) (i := v) hv
  have hpos : 0 < O.count none := List.count_pos_iff.mpr (e1 ▸ List.getElem_mem hv)
  rw [hc, e1]
  simp
  omega
theorem sw1_ok {O0 O : List (Option Int)} {s k : Nat} {a : Arr} {c : Int} (E : Exl hp h O0 O s) (P : hp → Pot as ms h) (ha : as[k]? = some a) (hm : ms[k]? = some c) (h1 : a.1 < O0.length) (h2 : a.2 < O0.length) (T : Even O0 a) :
    Exl hp h O0 (sw1 O a c) s ∧ (Even O a → sw1 O a c = O) ∧ (¬ Even O a → (sw1 O a c).count none + 1 = O.count none) ∧ (∀ v, og O v ≠ none → og (sw1 O a c) v ≠ none) := by
  have old : ∀ v, og O v = none → og O0 v = none := fun v q => by
    cases e : og O0 v with
    | none => rfl
    | some p =>
      rw [E.keep _ _ e] at q
      cases q
  unfold sw1 Even
  cases e1 : og O a.1 with
  | none =>
    cases e2 : og O a.2 with
    | none => exact ⟨E, fun _ => rfl, fun z => absurd ⟨fun _ => rfl, fun _ => rfl⟩ z, fun _ q => q⟩
    | some q =>
      have n1 := old _ e1
      have n2 : og O0 a.2 = none := T.mp n1
      have hlt : a.1 < O.length := by rw [E.len]; exact h1
      refine ⟨?_, fun z => absurd (z.mp rfl) (fun z => nomatch z), fun _ => count_fill hlt e1, fun v hv => ?_⟩
      · have := E.step (rise := -c) hlt e1 e2 n2 (fun hh => by have := P hh k a c ha hm; omega)
        rw [show q + -c = q - c by omega] at this
        exact this
      · show og (O.set a.1 (some (q - c))) v ≠ none
        rw [og_set hlt]
        split
        · exact fun z => nomatch z
        · exact hv
  | some p =>
    cases e2 : og O a.2 with
    | none =>
      have n2 := old _ e2
      have n1 : og O0 a.1 = none := T.mpr n2
      have hlt : a.2 < O.length := by rw [E.len]; exact h2
      refine ⟨E.step hlt e2 e1 n1 (fun hh => P hh k a c ha hm), fun z => absurd (z.mpr rfl) (fun z => nomatch z), fun _ => count_fill hlt e2, fun v hv => ?_⟩
      show og (O.set a.2 (some (p + c))) v ≠ none
      rw [og_set hlt]
      split
      · exact fun z => nomatch z
      · exact hv
    | some q => exact ⟨E, fun _ => rfl, fun z => absurd ⟨fun z => (nomatch z), fun z => (nomatch z)⟩ z, fun _ q => q⟩
/-- behind i arrows of turn t (n places) -/
def Swp (as : List Arr) (n t i : Nat) (O : List (Option Int)) : Prop := (∀ a ∈ as, Even O a) ∨ (O.count none + t + 1 ≤ n ∧ ∀ a ∈ as.take i, Even O a) ∨ O.count none + t + 2 ≤ n
theorem swp_step {n t i : Nat} {O0 O : List (Option Int)} {s : Nat} {a : Arr} {c : Int} (E : Exl hp h O0 O s) (P : hp → Pot as ms h) (ha : as[i]? = some a) (hm : ms[i]? = some c) (h1 : a.1 < O0.length) (h2 : a.2 < O0.length) (T : Even O0 a) (S : Swp as n t i O) : Swp as n t (i + 1) (sw1 O a c) := by
  obtain ⟨_, q1, q2, _⟩ := sw1_ok E P ha hm h1 h2 T
  by_cases e : Even O a
  · rw [q1 e]
    rcases S with S | ⟨S1, S2⟩ | S
    · exact .inl S
    · refine .inr (.inl ⟨S1, fun b hb => ?_⟩)
      rw [List.take_add_one, ha] at hb
      rcases List.mem_append.mp hb with hb | hb
      · exact S2 b hb
      · have : b = a := by simpa using hb
        rw [this]
        exact e
    · exact .inr (.inr S)
  · have q := q2 e
    rcases S with S | ⟨S1, S2⟩ | S
    · exact absurd (S a (List.mem_of_getElem? ha)) e
    · exact .inr (.inr (by omega))
    · exact .inr (.inr (by omega))
theorem swp_turn {n t : Nat} {O : List (Option Int)} (S : Swp as n t as.length O) : Swp as n (t + 1) 0 O := by
  rcases S with S | ⟨_, S⟩ | S
  · exact .inl S
  · rw [List.take_length] at S
    exact .inl S
  · exact .inr (.inl ⟨by omega, fun a h => by simp at h⟩)
theorem swp_end {n : Nat} {O : List (Option Int)} (S : Swp as n n 0 O) : ∀ a ∈ as, Even O a := by
  rcases S with S | ⟨S, _⟩ | S
  · exact S
  · omega
  · omega
end
/-- behind all starts: if it is a pull, these are its heights -/
theorem pull_end {as : List Arr} {ms : List Int} {O : List (Option Int)} (T : Tree as ms (IsPull as ms) O) (ho : ∀ a ∈ as, og O a.1 ≠ none ∧ og O a.2 ≠ none) (hl : as.length = ms.length) : as.map (fun a => (og O a.2).getD 0 - (og O a.1).getD 0) = ms ↔ IsPull as ms := by
  constructor
  · intro e
    refine ⟨fun v => (og O v).getD 0, fun k a c ha hm => ?_⟩
    rw [← e, List.getElem?_map, ha] at hm
    exact (Option.some.inj hm).symm
  · intro hp
    refine List.ext_getElem? fun k => ?_
    rw [List.getElem?_map]
    cases ha : as[k]? with
    | none =>
      have h1 := List.getElem?_eq_none_iff.mp ha
      rw [List.getElem?_eq_none (by omega)]
      rfl
    | some a =>
      have hlt := (List.getElem?_eq_some_iff.mp ha).1
      have hm : ms[k]? = some ms[k] := List.getElem?_eq_getElem (by omega)
      obtain ⟨h1, h2⟩ := ho a (List.mem_of_getElem? ha)
      cases e1 : og O a.1 with
      | none => exact absurd e1 h1
      | some p =>
        cases e2 : og O a.2 with
        | none => exact absurd e2 h2
        | some q =>
          rw [hm]
          show some ((og O a.2).getD 0 - (og O a.1).getD 0) = _
          rw [e1, e2, T.con hp k a _ ha hm p q e1 e2]
          rfl
end EW
/-! The layer: what stands for plain data, read by data. -/
namespace EW
open PySem L2
/-! ### values that stand for data -/
mutual
def Rp (H : Hp) : V → PyData → Prop
  | v, .none => v = .non
  | v, .bool b => v = .bl b
  | v, .int i => v = .int i
  | v, .str x => v = .str x
  | v, .list ds => ∃ a xs, v = .ref a ∧ H a = some (.lst xs) ∧ RpL H xs ds
  | v, .tuple ds => ∃ a xs, v = .ref a ∧ H a = some (.tup xs) ∧ RpL H xs ds
  | _, .dict _ => False
def RpL (H : Hp) : List V → List PyData → Prop
  | [], [] => True
  | v :: vs, d :: ds => Rp H v d ∧ RpL H vs ds
  | _, _ => False
end
section
variable {H H' : Hp}
theorem rp_none : Rp H .non .none := by unfold Rp; rfl
theorem rp_bool (b : Bool) : Rp H (.bl b) (.bool b) := by unfold Rp; rfl
theorem rp_int (i : Int) : Rp H (.int i) (.int i) := by unfold Rp; rfl
theorem rp_str (x : Str) : Rp H (.str x) (.str x) := by unfold Rp; rfl
theorem Rp.none_of {v : V} (h : Rp H v .none) : v = .non := by unfold Rp at h; exact h
theorem Rp.bool_of {v : V} {b : Bool} (h : Rp H v (.bool b)) : v = .bl b := by unfold Rp at h; exact h
theorem Rp.int_of {v : V} {i : Int} (h : Rp H v (.int i)) : v = .int i := by unfold Rp at h; exact h
theorem Rp.str_of {v : V} {x : Str} (h : Rp H v (.str x)) : v = .str x := by unfold Rp at h; exact h
theorem Rp.list_of {v : V} {ds : List PyData} (h : Rp H v (.list ds)) : ∃ a xs, v = .ref a ∧ H a = some (.lst xs) ∧ RpL H xs ds := by unfold Rp at h; exact h
theorem Rp.tuple_of {v : V} {ds : List PyData} (h : Rp H v (.tuple ds)) : ∃ a xs, v = .ref a ∧ H a = some (.tup xs) ∧ RpL H xs ds := by unfold Rp at h; exact h
theorem Rp.dict_of {v : V} {ks : List (PyData × PyData)} (h : Rp H v (.dict ks)) : False := by unfold Rp at h; exact h
theorem rp_list {a : Addr} {xs : List V} {ds : List PyData} (h : H a = some (.lst xs)) (r : RpL H xs ds) : Rp H (.ref a) (.list ds) := by unfold Rp; exact ⟨a, xs, rfl, h, r⟩
theorem rp_tuple {a : Addr} {xs : List V} {ds : List PyData} (h : H a = some (.tup xs)) (r : RpL H xs ds) : Rp H (.ref a) (.tuple ds) := by unfold Rp; exact ⟨a, xs, rfl, h, r⟩
theorem rpl_nil : RpL H [] [] := by unfold RpL; trivial
theorem rpl_cons {v : V} {vs : List V} {d : PyData} {ds : List PyData} (h : Rp H v d) (r : RpL H vs ds) : RpL H (v :: vs) (d :: ds) := by unfold RpL; exact ⟨h, r⟩
theorem RpL.nil_of {vs : List V} (h : RpL H vs []) : vs = [] := by
  cases vs with
  | nil => rfl
  | cons v vs => unfold RpL at h; exact h.elim
theorem RpL.cons_of {vs : List V} {d : PyData} {ds : List PyData} (h : RpL H vs (d :: ds)) : ∃ v ws, vs = v :: ws ∧ Rp H v d ∧ RpL H ws ds := by
  cases vs with
  | nil => unfold RpL at h; exact h.elim
  | cons v vs => unfold RpL at h; exact ⟨v, vs, rfl, h.1, h.2⟩
theorem RpL.length : ∀ {ds : List PyData} {vs : List V}, RpL H vs ds → vs.length = ds.length
  | [], vs, h => by rw [h.nil_of]; rfl
  | d :: ds, vs, h => by
    obtain ⟨v, ws, rfl, _, r⟩ := h.cons_of
    show ws.length + 1 = ds.length + 1
    rw [RpL.length r]
theorem RpL.get : ∀ {ds : List PyData} {vs : List V}, RpL H vs ds → ∀ {i : Nat} {d : PyData}, ds[i]? = some d → ∃ v, vs[i]? = some v ∧ Rp H v d
  | [], vs, h, i, d, e => by simp at e
  | d0 :: ds, vs, h, i, d, e => by
    obtain ⟨v, ws, rfl, r0, r⟩ := h.cons_of
    cases i with
    | zero =>
      cases e
      exact ⟨v, rfl, r0⟩
    | succ i => exact RpL.get r (i := i) e
theorem RpL.getV : ∀ {ds : List PyData} {vs : List V}, RpL H vs ds → ∀ {i : Nat} {v : V}, vs[i]? = some v → ∃ d, ds[i]? = some d ∧ Rp H v d
  | [], vs, h, i, v, e => by
    rw [h.nil_of] at e
    simp at e
  | d0 :: ds, vs, h, i, v, e => by
    obtain ⟨v0, ws, rfl, r0, r⟩ := h.cons_of
    cases i with
    | zero =>
      cases e
      exact ⟨d0, rfl, r0⟩
    | succ i => exact RpL.getV r (i := i) e
theorem RpL.append : ∀ {ds es : List PyData} {vs ws : List V}, RpL H vs ds → RpL H ws es → RpL H (vs ++ ws) (ds ++ es)
  | [], es, vs, ws, h, k => by
    rw [h.nil_of]
    exact k
  | d :: ds, es, vs, ws, h, k => by
    obtain ⟨v, us, rfl, r0, r⟩ := h.cons_of
    exact rpl_cons r0 (RpL.append r k)
theorem RpL.set : ∀ {ds : List PyData} {vs : List V}, RpL H vs ds → ∀ {v : V} {d : PyData} (i : Nat), Rp H v d → RpL H (vs.set i v) (ds.set i d)
  | [], vs, h, v, d, i, k => by
    rw [h.nil_of]
    exact rpl_nil
  | d0 :: ds, vs, h, v, d, i, k => by
    obtain ⟨v0, us, rfl, r0, r⟩ := h.cons_of
    cases i with
    | zero => exact rpl_cons k r
    | succ i => exact rpl_cons r0 (RpL.set r i k)
theorem RpL.take : ∀ {ds : List PyData} {vs : List V}, RpL H vs ds → ∀ (i : Nat), RpL H (vs.take i) (ds.take i)
  | [], vs, h, i => by
    rw [h.nil_of]
    simp
    exact rpl_nil
  | d0 :: ds, vs, h, i => by
    obtain ⟨v0, us, rfl, r0, r⟩ := h.cons_of
    cases i with
    | zero => exact rpl_nil
    | succ i => exact rpl_cons r0 (RpL.take r i)
theorem RpL.drop : ∀ {ds : List PyData} {vs : List V}, RpL H vs ds → ∀ (i : Nat), RpL H (vs.drop i) (ds.drop i)
  | [], vs, h, i => by
    rw [h.nil_of]
    simp
    exact rpl_nil
  | d0 :: ds, vs, h, i => by
    obtain ⟨v0, us, rfl, r0, r⟩ := h.cons_of
    cases i with
    | zero => exact rpl_cons r0 r
    | succ i => exact RpL.drop r i
theorem rpl_ints (ns : List Int) : RpL H (ns.map V.int) (ns.map PyData.int) := by
  induction ns with
  | nil => exact rpl_nil
  | cons n ns ih => exact rpl_cons (rp_int n) ih
theorem RpL.ints_of : ∀ {ns : List Int} {vs : List V}, RpL H vs (ns.map PyData.int) → vs = ns.map V.int
  | [], vs, h => h.nil_of
  | n :: ns, vs, h => by
    obtain ⟨v, ws, rfl, r0, r⟩ := RpL.cons_of h
    rw [r0.int_of, RpL.ints_of r]
    rfl
theorem RpL.bools_of : ∀ {bs : List Bool} {vs : List V}, RpL H vs (bs.map PyData.bool) → vs = bs.map V.bl
  | [], vs, h => h.nil_of
  | n :: ns, vs, h => by
    obtain ⟨v, ws, rfl, r0, r⟩ := RpL.cons_of h
    rw [r0.bool_of, RpL.bools_of r]
    rfl
theorem rpl_bools (ns : List Bool) : RpL H (ns.map V.bl) (ns.map PyData.bool) := by
  induction ns with
  | nil => exact rpl_nil
  | cons n ns ih => exact rpl_cons (rp_bool n) ih
mutual
theorem Rp.ex (e : Same H H') : ∀ {d : PyData} {v : V}, Rp H v d → Rp H' v d
  | .none, v, h => by rw [h.none_of]; exact rp_none
  | .bool b, v, h => by rw [h.bool_of]; exact rp_bool b
  | .int i, v, h => by rw [h.int_of]; exact rp_int i
  | .str x, v, h => by rw [h.str_of]; exact rp_str x
  | .list ds, v, h => by
    obtain ⟨a, xs, rfl, ha, r⟩ := h.list_of
    exact rp_list (e _ _ ha) (RpL.ex e r)
  | .tuple ds, v, h => by
    obtain ⟨a, xs, rfl, ha, r⟩ := h.tuple_of
    exact rp_tuple (e _ _ ha) (RpL.ex e r)
  | .dict ks, v, h => h.dict_of.elim
theorem RpL.ex (e : Same H H') : ∀ {ds : List PyData} {vs : List V}, RpL H vs ds → RpL H' vs ds
  | [], vs, h => by rw [h.nil_of]; exact rpl_nil
  | d :: ds, vs, h => by
    obtain ⟨v, ws, rfl, r0, r⟩ := h.cons_of
    exact rpl_cons (Rp.ex e r0) (RpL.ex e r)
end
mutual
def noL : PyData → Bool
  | .list _ => false
  | .tuple ds => noLs ds
  | .dict _ => false
  | _ => true
def noLs : List PyData → Bool
  | [] => true
  | d :: ds => noL d && noLs ds
end
/-- the tuples stand -/
def Tups (H H' : Hp) : Prop := ∀ a xs, H a = some (.tup xs) → H' a = some (.tup xs)
theorem Tups.refl (H : Hp) : Tups H H := fun _ _ h => h
theorem Tups.trans {A B C : Hp} (h : Tups A B) (k : Tups B C) : Tups A C := fun a xs e => k a xs (h a xs e)
theorem tups_of (e : Same H H') : Tups H H' := fun a xs h => e a _ h
theorem tups_upd {l : Addr} {o u : HO} (h : H l = some o) (ho : ∀ xs, o ≠ .tup xs) : Tups H (upd H l u) := fun a xs e => by
  rw [upd_ne (ne_of e h fun z => ho xs z.symm)]
  exact e
theorem tups_lst {l : Addr} {xs ys : List V} (h : H l = some (.lst xs)) : Tups H (upd H l (.lst ys)) := tups_upd h fun zs q => nomatch q
mutual
theorem Rp.tups (e : Tups H H') : ∀ {d : PyData} {v : V}, noL d = true → Rp H v d → Rp H' v d
  | .none, v, _, h => by rw [h.none_of]; exact rp_none
  | .bool b, v, _, h => by rw [h.bool_of]; exact rp_bool b
  | .int i, v, _, h => by rw [h.int_of]; exact rp_int i
  | .str x, v, _, h => by rw [h.str_of]; exact rp_str x
  | .list ds, v, n, h => by unfold noL at n; cases n
  | .tuple ds, v, n, h => by
    obtain ⟨a, xs, rfl, ha, r⟩ := h.tuple_of
    exact rp_tuple (e _ _ ha) (RpL.tups e (by unfold noL at n; exact n) r)
  | .dict ks, v, _, h => h.dict_of.elim
theorem RpL.tups (e : Tups H H') : ∀ {ds : List PyData} {vs : List V}, noLs ds = true → RpL H vs ds → RpL H' vs ds
  | [], vs, _, h => by rw [h.nil_of]; exact rpl_nil
  | d :: ds, vs, n, h => by
    obtain ⟨v, ws, rfl, r0, r⟩ := h.cons_of
    unfold noLs at n
    rw [Bool.and_eq_true] at n
    exact rpl_cons (Rp.tups e n.1 r0) (RpL.tups e n.2 r)
end
mutual
theorem Rp.dp {K : PySem.W.Frag} : ∀ {d : PyData} {v : V}, Rp H v d → Dp K H v d
  | .none, v, h => by rw [h.none_of]; exact .non
  | .bool b, v, h => by rw [h.bool_of]; exact .bl b
  | .int i, v, h => by rw [h.int_of]; exact .int i
  | .str x, v, h => by rw [h.str_of]; exact .str x
  | .list ds, v, h => by
    obtain ⟨a, xs, rfl, ha, r⟩ := h.list_of
    exact .lst (SqL.of ha) (RpL.dp r)
  | .tuple ds, v, h => by
    obtain ⟨a, xs, rfl, ha, r⟩ := h.tuple_of
    exact .tup (SqT.of ha) (RpL.dp r)
  | .dict ks, v, h => h.dict_of.elim
theorem RpL.dp {K : PySem.W.Frag} : ∀ {ds : List PyData} {vs : List V}, RpL H vs ds → DpAll K H vs ds
  | [], vs, h => by rw [h.nil_of]; exact .nil
  | d :: ds, vs, h => by
    obtain ⟨v, ws, rfl, r0, r⟩ := h.cons_of
    exact .cons (Rp.dp r0) (RpL.dp r)
end
end
end EW
/-! The layer: heaps with owned objects, slots, expressions. -/
namespace EW
open PySem L2
/-! ### views -/
def off (H : Hp) (X : List Addr) : Hp := fun a => if a ∈ X then none else H a
section
variable {H H' H'' : Hp} {A X Y : List Addr}
theorem off_of {a : Addr} {o : HO} (h : off H X a = some o) : a ∉ X ∧ H a = some o := by
  unfold off at h
  split at h
  · cases h
  · exact ⟨by assumption, h⟩
theorem off_in {a : Addr} {o : HO} (h : H a = some o) (k : a ∉ X) : off H X a = some o := by
  unfold off
  rw [if_neg k]
  exact h
theorem off_le : Same (off H X) H := fun a o e => (off_of e).2
theorem off_less (h : ∀ a ∈ Y, a ∈ X) : Same (off H X) (off H Y) := fun a o e => off_in (off_of e).2 fun z => (off_of e).1 (h a z)
def Fr (A : List Addr) (H H' : Hp) : Prop := ∀ a o, a ∉ A → H a = some o → H' a = some o
theorem Fr.refl (A : List Addr) (H : Hp) : Fr A H H := fun _ _ _ h => h
theorem Fr.trans (f : Fr A H H') (g : Fr A H' H'') : Fr A H H'' := fun a o n e => g a o n (f a o n e)
theorem fr_of (e : Same H H') : Fr A H H' := fun a o _ h => e a o h
theorem Fr.same (f : Fr A H H') (h : ∀ a ∈ A, a ∈ X) : Same (off H X) (off H' X) := fun a o e => off_in (f a o (fun z => (off_of e).1 (h a z)) (off_of e).2) (off_of e).1
theorem fr_upd {a : Addr} {u : HO} (h : a ∈ A) : Fr A H (upd H a u) := fun b o n e => by
  rw [upd_ne fun (z : b = a) => n (z ▸ h)]
  exact e
theorem same_new {p : Addr} {o : HO} (h : H p = none) : Same H (upd H p o) := fun b x e => by
  rw [upd_ne (ne_of_none e h)]
  exact e
end
theorem nodup_inj {α : Type} : ∀ {l : List α} {i j : Nat} {a : α}, l.Nodup → l[i]? = some a → l[j]? = some a → i = j
  | [], _, _, _, _, h, _ => by simp at h
  | x :: l, i, j, a, n, h, k => by
    obtain ⟨n1, n2⟩ := List.nodup_cons.mp n
    cases i with
    | zero =>
      cases h
      cases j with
      | zero => rfl
      | succ j => exact absurd (List.mem_of_getElem? (i := j) k) n1
    | succ i =>
      cases j with
      | zero =>
        cases k
        exact absurd (List.mem_of_getElem? (i := i) h) n1
      | succ j => rw [nodup_inj (i := i) (j := j) n2 h k]
/-! ### owned objects -/
inductive Ob where
  | lst (ds : List PyData)
  | raw (o : HO)
  | refs (ks : List Nat)
  | mill
def MillAt (H : Hp) (a : Addr) : Prop := ∃ g x : Int, H a = some (.lst [.int g, .int x]) ∧ 0 ≤ g ∧ 0 ≤ x ∧ x < 2 ^ 61
def ObR (U H : Hp) (A : List Addr) (a : Addr) : Ob → Prop
  | .lst ds => ∃ xs, H a = some (.lst xs) ∧ RpL U xs ds
  | .raw o => H a = some o
  | .refs ks => ∃ bs : List Addr, H a = some (.lst (bs.map V.ref)) ∧ bs.length = ks.length ∧ ∀ (i : Nat) k, ks[i]? = some k → ∃ b, bs[i]? = some b ∧ A[k]? = some b
  | .mill => MillAt H a
theorem ObR.some {U H : Hp} {A : List Addr} {a : Addr} : ∀ {o : Ob}, ObR U H A a o → ∃ x, H a = Option.some x
  | .lst ds, ⟨xs, h, _⟩ => ⟨_, h⟩
  | .raw o, h => ⟨_, h⟩
  | .refs ks, ⟨bs, h, _⟩ => ⟨_, h⟩
  | .mill, ⟨g, x, h, _⟩ => ⟨_, h⟩
/-- the object itself stands, the view of data too -/
theorem ObR.to {U U' H H' : Hp} {A A' : List Addr} {a : Addr} (e : Same U U') (h : H' a = H a) (hA : ∀ (k : Nat) b, A[k]? = Option.some b → A'[k]? = Option.some b) : ∀ {o : Ob}, ObR U H A a o → ObR U' H' A' a o
  | .lst ds, ⟨xs, q, r⟩ => ⟨xs, h.trans q, r.ex e⟩
  | .raw o, q => h.trans q
  | .refs ks, ⟨bs, q, l, f⟩ => ⟨bs, h.trans q, l, fun i k z => by
      obtain ⟨b, h1, h2⟩ := f i k z
      exact ⟨b, h1, hA k b h2⟩⟩
  | .mill, ⟨g, x, q, r⟩ => ⟨g, x, h.trans q, r⟩
inductive Sl where
  | no
  | dat (d : PyData)
  | own (k : Nat)
  | prd (p : Hp → V → Prop) (mono : ∀ U U' v, Same U U' → p U v → p U' v)
abbrev Ctx := List Sl
def SlR (U : Hp) (A : List Addr) (o : Option V) : Sl → Prop
  | .no => True
  | .dat d => ∃ v, o = some v ∧ Rp U v d
  | .own k => ∃ a, A[k]? = some a ∧ o = some (.ref a)
  | .prd p _ => ∃ v, o = some v ∧ p U v
theorem SlR.to {U U' : Hp} {A A' : List Addr} {o : Option V} (e : Same U U') (hA : ∀ (k : Nat) b, A[k]? = some b → A'[k]? = some b) : ∀ {s : Sl}, SlR U A o s → SlR U' A' o s
  | .no, _ => trivial
  | .dat d, ⟨v, h, r⟩ => ⟨v, h, r.ex e⟩
  | .own k, ⟨a, h, q⟩ => ⟨a, hA k a h, q⟩
  | .prd p m, ⟨v, h, r⟩ => ⟨v, h, m _ _ v e r⟩
structure SR (U : Hp) (A : List Addr) (σ : St) (Γ : Ctx) : Prop where
  len : σ.length = Γ.length
  el : ∀ (i : Nat) s, Γ[i]? = some s → ∃ o, σ[i]? = some o ∧ SlR U A o s
theorem SR.to {U U' : Hp} {A A' : List Addr} {σ : St} {Γ : Ctx} (e : Same U U') (hA : ∀ (k : Nat) b, A[k]? = some b → A'[k]? = some b) (h : SR U A σ Γ) : SR U' A' σ Γ := ⟨h.len, fun i s q => by
  obtain ⟨o, h1, h2⟩ := h.el i s q
  exact ⟨o, h1, h2.to e hA⟩⟩
theorem SR.set {U : Hp} {A : List Addr} {σ : St} {Γ : Ctx} (h : SR U A σ Γ) (i : Nat) {o : Option V} {s : Sl} (r : SlR U A o s) : SR U A (σ.set i o) (Γ.set i s) := ⟨by rw [List.length_set, List.length_set]; exact h.len, fun j t q => by
  by_cases e : i = j
  · subst e
    by_cases hl : i < Γ.length
    · rw [List.getElem?_set_self hl] at q
      cases q
      exact ⟨o, List.getElem?_set_self (by rw [h.len]; exact hl), r⟩
    · rw [List.getElem?_eq_none (by rw [List.length_set]; omega)] at q
      cases q
  · rw [List.getElem?_set_ne e] at q ⊢
    exact h.el j t q⟩
/-- the world of a body: O stands, A is owned (Ω tells what lies there), Γ tells the slots -/
structure Wd (O A : List Addr) (Ω : List Ob) (Γ : Ctx) (σ : St) (H : Hp) : Prop where
  tk : ∀ a ∈ O, ∃ x, H a = some x
  nd : A.Nodup
  dj : ∀ a ∈ A, a ∉ O
  len : A.length = Ω.length
  ob : ∀ (k : Nat) a o, A[k]? = some a → Ω[k]? = some o → ObR (off H (O ++ A)) H A a o
  sl : SR (off H (O ++ A)) A σ Γ
section
variable {O A : List Addr} {Ω : List Ob} {Γ : Ctx} {σ : St} {H H' : Hp}
theorem Wd.has (w : Wd O A Ω Γ σ H) {a : Addr} (h : a ∈ A) : ∃ x, H a = some x := by
  obtain ⟨k, hk⟩ := List.mem_iff_getElem?.mp h
  have hlt := (List.getElem?_eq_some_iff.mp hk).1
  rw [w.len] at hlt
  exact (w.ob k a _ hk (List.getElem?_eq_getElem hlt)).some
theorem Wd.new (w : Wd O A Ω Γ σ H) {p : Addr} (h : H p = none) : p ∉ O ++ A := fun z => by
  rcases List.mem_append.mp z with z | z
  · obtain ⟨x, q⟩ := w.tk p z
    rw [q] at h
    cases h
  · obtain ⟨x, q⟩ := w.has z
    rw [q] at h
    cases h
theorem Wd.same (w : Wd O A Ω Γ σ H) (e : Same H H') : Wd O A Ω Γ σ H' := by
  have v : Same (off H (O ++ A)) (off H' (O ++ A)) := (fr_of (A := []) e).same fun a h => nomatch h
  refine ⟨fun a h => ?_, w.nd, w.dj, w.len, fun k a o h1 h2 => ?_, w.sl.to v fun _ _ h => h⟩
  · obtain ⟨x, q⟩ := w.tk a h
    exact ⟨x, e _ _ q⟩
  · have r := w.ob k a o h1 h2
    obtain ⟨x, q⟩ := r.some
    exact r.to v ((e _ _ q).trans q.symm) fun _ _ h => h
theorem Wd.put (w : Wd O A Ω Γ σ H) (i : Nat) {o : Option V} {s : Sl} (r : SlR (off H (O ++ A)) A o s) : Wd O A Ω (Γ.set i s) (σ.set i o) H := { w with sl := w.sl.set i r }
theorem Wd.slots (w : Wd O A Ω Γ σ H) {σ' : St} {Γ' : Ctx} (r : SR (off H (O ++ A)) A σ' Γ') : Wd O A Ω Γ' σ' H := { w with sl := r }
def wipeC (Γ : Ctx) : List Nat → Ctx
  | [] => Γ
  | i :: is => (wipeC Γ is).set i .no
theorem Wd.wipe (w : Wd O A Ω Γ σ H) : ∀ (is : List Nat), Wd O A Ω (wipeC Γ is) (L2.wipe σ is) H
  | [] => w
  | i :: is => (Wd.wipe w is).put i (s := .no) trivial
/-- a new object that nobody reads -/
theorem Wd.shade (w : Wd O A Ω Γ σ H) {p : Addr} {o : HO} (h : H p = none) : Wd (p :: O) A Ω Γ σ (upd H p o) := by
  have n := w.new h
  have v : Same (off H (O ++ A)) (off (upd H p o) ((p :: O) ++ A)) := fun a x e => by
    obtain ⟨h1, h2⟩ := off_of e
    have ne : a ≠ p := ne_of_none h2 h
    refine off_in (by rw [upd_ne ne]; exact h2) fun z => ?_
    rcases List.mem_cons.mp z with z | z
    · exact ne z
    · exact h1 z
  refine ⟨fun a z => ?_, w.nd, fun a ha z => ?_, w.len, fun k a x h1 h2 => ?_, w.sl.to v fun _ _ h => h⟩
  · rcases List.mem_cons.mp z with z | z
    · subst z
      exact ⟨o, upd_same⟩
    · obtain ⟨x, q⟩ := w.tk a z
      exact ⟨x, same_new h _ _ q⟩
  · rcases List.mem_cons.mp z with z | z
    · subst z
      exact n (List.mem_append_right _ ha)
    · exact w.dj a ha z
  · have r := w.ob k a x h1 h2
    obtain ⟨y, q⟩ := r.some
    exact r.to v ((same_new h _ _ q).trans q.symm) fun _ _ h => h
/-- .. and back: the shaded object is read as data -/
theorem Wd.unshade {p : Addr} (w : Wd (p :: O) A Ω Γ σ H) : Wd O A Ω Γ σ H := by
  have v : Same (off H ((p :: O) ++ A)) (off H (O ++ A)) := off_less fun a h => List.mem_cons_of_mem _ h
  exact ⟨fun a z => w.tk a (List.mem_cons_of_mem _ z), w.nd, fun a ha z => w.dj a ha (List.mem_cons_of_mem _ z), w.len, fun k a x h1 h2 => (w.ob k a x h1 h2).to v rfl fun _ _ h => h, w.sl.to v fun _ _ h => h⟩
theorem off_upd {X : List Addr} {a : Addr} {u : HO} (h : a ∈ X) : off (upd H a u) X = off H X := by
  funext b
  unfold off
  by_cases hb : b ∈ X
  · rw [if_pos hb, if_pos hb]
  · rw [if_neg hb, if_neg hb, upd_ne fun (z : b = a) => hb (z ▸ h)]
/-- the shaded one changes -/
theorem Wd.shadeUpd {p : Addr} {u : HO} (w : Wd (p :: O) A Ω Γ σ H) : Wd (p :: O) A Ω Γ σ (upd H p u) := by
  have e : off (upd H p u) ((p :: O) ++ A) = off H ((p :: O) ++ A) := off_upd List.mem_cons_self
  refine ⟨fun a z => ?_, w.nd, w.dj, w.len, fun k a x h1 h2 => ?_, by rw [e]; exact w.sl⟩
  · by_cases q : a = p
    · subst q
      exact ⟨u, upd_same⟩
    · obtain ⟨x, h⟩ := w.tk a z
      exact ⟨x, by rw [upd_ne q]; exact h⟩
  · rw [e]
    refine (w.ob k a x h1 h2).to (fun _ _ h => h) (upd_ne fun z => ?_) fun _ _ h => h
    subst z
    exact w.dj a (List.mem_of_getElem? h1) List.mem_cons_self
/-- an owned one changes -/
theorem Wd.mut (w : Wd O A Ω Γ σ H) {k : Nat} {a : Addr} (hk : A[k]? = some a) {u : HO} {o : Ob} (r : ObR (off H (O ++ A)) (upd H a u) A a o) : Wd O A (Ω.set k o) Γ σ (upd H a u) := by
  have ha : a ∈ A := List.mem_of_getElem? hk
  have e : off (upd H a u) (O ++ A) = off H (O ++ A) := off_upd (List.mem_append_right _ ha)
  have hlt : k < Ω.length := by rw [← w.len]; exact (List.getElem?_eq_some_iff.mp hk).1
  refine ⟨fun b z => ?_, w.nd, w.dj, by rw [List.length_set]; exact w.len, fun j b x h1 h2 => ?_, by rw [e]; exact w.sl⟩
  · obtain ⟨x, h⟩ := w.tk b z
    exact ⟨x, by rw [upd_ne fun (q : b = a) => w.dj a ha (q ▸ z)]; exact h⟩
  · rw [e]
    by_cases q : k = j
    · subst q
      rw [List.getElem?_set_self hlt] at h2
      cases h2
      rw [hk] at h1
      cases h1
      exact r
    · rw [List.getElem?_set_ne q] at h2
      refine (w.ob j b x h1 h2).to (fun _ _ h => h) (upd_ne fun z => q ?_) fun _ _ h => h
      subst z
      exact nodup_inj w.nd hk h1
/-- a new one is owned -/
theorem Wd.grow (w : Wd O A Ω Γ σ H) {l : Addr} {u : HO} {o : Ob} (h : H l = none) (r : ObR (off H (O ++ A)) (upd H l u) A l o) : Wd O (A ++ [l]) (Ω ++ [o]) Γ σ (upd H l u) := by
  have n := w.new h
  have v : Same (off H (O ++ A)) (off (upd H l u) (O ++ (A ++ [l]))) := fun a x e => by
    obtain ⟨h1, h2⟩ := off_of e
    have ne : a ≠ l := ne_of_none h2 h
    refine off_in (by rw [upd_ne ne]; exact h2) fun z => ?_
    rw [← List.append_assoc] at z
    rcases List.mem_append.mp z with z | z
    · exact h1 z
    · exact ne (List.mem_singleton.mp z)
  have hA : ∀ (k : Nat) b, A[k]? = some b → (A ++ [l])[k]? = some b := fun k b q => by
    rw [List.getElem?_append_left (List.getElem?_eq_some_iff.mp q).1]
    exact q
  refine ⟨fun b z => ?_, ?_, fun a ha z => ?_, by rw [List.length_append, List.length_append, w.len]; rfl, fun k a x h1 h2 => ?_, w.sl.to v hA⟩
  · obtain ⟨x, q⟩ := w.tk b z
    exact ⟨x, same_new h _ _ q⟩
  · rw [List.nodup_append]
    refine ⟨w.nd, by simp, fun a ha b hb q => ?_⟩
    subst q
    rw [List.mem_singleton.mp hb] at ha
    exact n (List.mem_append_right _ ha)
  · rcases List.mem_append.mp ha with q | q
    · exact w.dj a q z
    · rw [List.mem_singleton.mp q] at z
      exact n (List.mem_append_left _ z)
  · by_cases hk : k < A.length
    · rw [List.getElem?_append_left hk] at h1
      rw [List.getElem?_append_left (by rw [← w.len]; exact hk)] at h2
      have r := w.ob k a x h1 h2
      obtain ⟨y, q⟩ := r.some
      exact r.to v ((same_new h _ _ q).trans q.symm) hA
    · rw [List.getElem?_append_right (by omega)] at h1
      rw [List.getElem?_append_right (by rw [← w.len]; omega)] at h2
      rw [← w.len] at h2
      cases q : k - A.length with
      | zero =>
        rw [q] at h1 h2
        cases h1
        cases h2
        exact r.to v rfl hA
      | succ j =>
        rw [q] at h1
        simp at h1
end
/-! ### what evaluates to what -/
abbrev VK2 := V → Hp → PyData → Prop
/-- a value of data, P of it -/
def DEp (te : TE) (Γ : Ctx) (Ω : List Ob) (P : PyData → Prop) : Prop := ∀ O A σ H, Wd O A Ω Γ σ H → ∀ Q : VK, (∀ v H' d, Fr A H H' → Wd O A Ω Γ σ H' → Rp (off H' (O ++ A)) v d → P d → Q v H') → te σ H Q
abbrev DE (te : TE) (Γ : Ctx) (Ω : List Ob) (d : PyData) : Prop := DEp te Γ Ω (· = d)
/-- the owned object k -/
def DOwn (te : TE) (Γ : Ctx) (Ω : List Ob) (k : Nat) : Prop := ∀ O A σ H, Wd O A Ω Γ σ H → ∀ Q : VK, (∀ a, A[k]? = some a → Q (.ref a) H) → te σ H Q
/-- a new list, not read by any other -/
def DNp (te : TE) (Γ : Ctx) (Ω : List Ob) (P : List PyData → Prop) : Prop := ∀ O A σ H, Wd O A Ω Γ σ H → ∀ Q : VK, (∀ l xs H' ds, Fr A H H' → H l = none → l ∉ O → H' l = some (.lst xs) → Wd (l :: O) A Ω Γ σ H' → RpL (off H' (l :: O ++ A)) xs ds → P ds → Q (.ref l) H') → te σ H Q
abbrev DN (te : TE) (Γ : Ctx) (Ω : List Ob) (ds : List PyData) : Prop := DNp te Γ Ω (· = ds)
def DT (tt : TT) (Γ : Ctx) (Ω : List Ob) (b : Bool) : Prop := ∀ O A σ H, Wd O A Ω Γ σ H → ∀ Q : Bool → Hp → Prop, (∀ H', Fr A H H' → Wd O A Ω Γ σ H' → Q b H') → tt σ H Q
def DTp (tt : TT) (Γ : Ctx) (Ω : List Ob) (P : Bool → Prop) : Prop := ∀ O A σ H, Wd O A Ω Γ σ H → ∀ Q : Bool → Hp → Prop, (∀ b H', Fr A H H' → Wd O A Ω Γ σ H' → P b → Q b H') → tt σ H Q
def DA (ta : TA) (Γ : Ctx) (Ω : List Ob) (ds : List PyData) : Prop := ∀ O A σ H, Wd O A Ω Γ σ H → ∀ Q : List V → Hp → Prop, (∀ vs H', Fr A H H' → Wd O A Ω Γ σ H' → RpL (off H' (O ++ A)) vs ds → Q vs H') → ta σ H Q
def DAp (ta : TA) (Γ : Ctx) (Ω : List Ob) (P : List PyData → Prop) : Prop := ∀ O A σ H, Wd O A Ω Γ σ H → ∀ Q : List V → Hp → Prop, (∀ vs H' ds, Fr A H H' → Wd O A Ω Γ σ H' → RpL (off H' (O ++ A)) vs ds → P ds → Q vs H') → ta σ H Q
section
variable {K : PySem.W.Frag} {Γ : Ctx} {Ω : List Ob} {ta tb tc te tx : TE} {t u : TT} {d d1 d2 : PyData} {ds : List PyData} {r : R2} {O A : List Addr} {σ : St} {H H' : Hp}
theorem vw (f : Fr A H H') : Same (off H (O ++ A)) (off H' (O ++ A)) := f.same fun a h => List.mem_append_right _ h
theorem de_is (h : DE te Γ Ω d) (e : d = d1) : DE te Γ Ω d1 := e ▸ h
theorem dep_mono {P Q : PyData → Prop} (h : DEp te Γ Ω P) (k : ∀ d, P d → Q d) : DEp te Γ Ω Q := fun O A σ H s R q => h O A σ H s R fun v H' d f w r p => q v H' d f w r (k d p)
theorem DE.run (h : DE te Γ Ω d) (s : Wd O A Ω Γ σ H) {Q : VK} (q : ∀ v H', Fr A H H' → Wd O A Ω Γ σ H' → Rp (off H' (O ++ A)) v d → Q v H') : te σ H Q := h O A σ H s Q fun v H' d' e w r ed => by
  subst ed
  exact q v H' e w r
theorem de_of (h : ∀ O A σ H, Wd O A Ω Γ σ H → ∀ Q : VK, (∀ v H', Fr A H H' → Wd O A Ω Γ σ H' → Rp (off H' (O ++ A)) v d → Q v H') → te σ H Q) : DE te Γ Ω d := fun O A σ H s Q q => h O A σ H s Q fun v H' e w r => q v H' d e w r rfl
theorem de_var {i : Nat} (h : Γ[i]? = some (.dat d)) : DE (tVar i) Γ Ω d := de_of fun O A σ H s Q q => by
  obtain ⟨o, ho, v, rfl, r⟩ := s.sl.el i _ h
  exact ⟨v, ho, q v H (Fr.refl A H) s r⟩
theorem do_var {i k : Nat} (h : Γ[i]? = some (.own k)) : DOwn (tVar i) Γ Ω k := fun O A σ H s Q q => by
  obtain ⟨o, ho, a, ha, rfl⟩ := s.sl.el i _ h
  exact ⟨.ref a, ho, q a ha⟩
theorem de_int (i : Int) : DE (tC (.int i)) Γ Ω (.int i) := de_of fun O A σ H s Q q => q _ H (Fr.refl A H) s (rp_int i)
theorem de_bl (b : Bool) : DE (tC (.bl b)) Γ Ω (.bool b) := de_of fun O A σ H s Q q => q _ H (Fr.refl A H) s (rp_bool b)
theorem de_non : DE (tC .non) Γ Ω .none := de_of fun O A σ H s Q q => q _ H (Fr.refl A H) s rp_none
theorem de_str (x : Str) : DE (tC (.str x)) Γ Ω (.str x) := de_of fun O A σ H s Q q => q _ H (Fr.refl A H) s (rp_str x)
def dV : V → Option PyData
  | .non => some .none
  | .bl b => some (.bool b)
  | .int i => some (.int i)
  | .str x => some (.str x)
  | _ => none
theorem rp_dV {V : Hp} {v : L2.V} {d : PyData} (h : dV v = some d) : Rp V v d := by
  cases v <;> simp [dV] at h <;> subst h
  · exact rp_none
  · exact rp_bool _
  · exact rp_int _
  · exact rp_str _
theorem dV_eq {V : Hp} {v w : L2.V} {d : PyData} (hv : dV v = some d) (r : Rp V w d) : w = v := by
  cases v <;> simp [dV] at hv <;> subst hv
  · exact r.none_of
  · exact r.bool_of
  · exact r.int_of
  · exact r.str_of
theorem two (ha : DE ta Γ Ω d1) (hb : DE tb Γ Ω d2) (s : Wd O A Ω Γ σ H) {R : V → V → Hp → Prop} (q : ∀ x y H', Fr A H H' → Wd O A Ω Γ σ H' → Rp (off H' (O ++ A)) x d1 → Rp (off H' (O ++ A)) y d2 → R x y H') : ta σ H fun x H1 => tb σ H1 fun y H2 => R x y H2 :=
  ha.run s fun x H1 e1 s1 r1 => hb.run s1 fun y H2 e2 s2 r2 => q x y H2 (e1.trans e2) s2 (r1.ex (vw e2)) r2
theorem de_I0 {g : Int → Int → V} {i j : Int} (ha : DE ta Γ Ω (.int i)) (hb : DE tb Γ Ω (.int j)) (hg : dV (g i j) = some d := by rfl) : DE (tOp (rI0 g) ta tb) Γ Ω d := de_of fun O A σ H s Q q =>
  two ha hb s fun x y H' e s r1 r2 => ⟨i, j, r1.int_of, r2.int_of, q _ H' e s (rp_dV hg)⟩
theorem de_I {C : Int → Int → Prop} {g : Int → Int → V} {i j : Int} (ha : DE ta Γ Ω (.int i)) (hb : DE tb Γ Ω (.int j)) (hc : C i j) (hg : dV (g i j) = some d := by rfl) : DE (tOp (rI C g) ta tb) Γ Ω d := de_of fun O A σ H s Q q =>
  two ha hb s fun x y H' e s r1 r2 => ⟨i, j, r1.int_of, r2.int_of, hc, q _ H' e s (rp_dV hg)⟩
/-- integers of a kind -/
theorem dep_I0 {g : Int → Int → Int} {P1 P2 P : Int → Prop} (ha : DEp ta Γ Ω fun d => ∃ i, d = .int i ∧ P1 i) (hb : DEp tb Γ Ω fun d => ∃ i, d = .int i ∧ P2 i) (hg : ∀ i j, P1 i → P2 j → P (g i j)) : DEp (tOp (rI0 fun i j => .int (g i j)) ta tb) Γ Ω fun d => ∃ i, d = .int i ∧ P i := fun O A σ H s Q q =>
  ha O A σ H s _ fun x H1 d e1 s1 r1 ⟨i, ed, p1⟩ => hb O A σ H1 s1 _ fun y H2 d2 e2 s2 r2 ⟨j, ed2, p2⟩ => by
    subst ed
    subst ed2
    exact ⟨i, j, r1.int_of, r2.int_of, q _ H2 _ (e1.trans e2) s2 (rp_int _) ⟨_, rfl, hg i j p1 p2⟩⟩
theorem dep_I {C : Int → Int → Prop} {g : Int → Int → Int} {P1 P2 P : Int → Prop} (ha : DEp ta Γ Ω fun d => ∃ i, d = .int i ∧ P1 i) (hb : DEp tb Γ Ω fun d => ∃ i, d = .int i ∧ P2 i) (hc : ∀ i j, P1 i → P2 j → C i j) (hg : ∀ i j, P1 i → P2 j → P (g i j)) : DEp (tOp (rI C fun i j => .int (g i j)) ta tb) Γ Ω fun d => ∃ i, d = .int i ∧ P i := fun O A σ H s Q q =>
  ha O A σ H s _ fun x H1 d e1 s1 r1 ⟨i, ed, p1⟩ => hb O A σ H1 s1 _ fun y H2 d2 e2 s2 r2 ⟨j, ed2, p2⟩ => by
    subst ed
    subst ed2
    exact ⟨i, j, r1.int_of, r2.int_of, hc i j p1 p2, q _ H2 _ (e1.trans e2) s2 (rp_int _) ⟨_, rfl, hg i j p1 p2⟩⟩
theorem dep_int {i : Int} (h : DE te Γ Ω (.int i)) : DEp te Γ Ω fun d => ∃ k, d = .int k ∧ k = i := dep_mono h fun d e => ⟨i, e, rfl⟩
theorem de_cmp {p : Int → Int → Bool} {i j : Int} (ha : DE ta Γ Ω (.int i)) (hb : DE tb Γ Ω (.int j)) : DE (tCmp p ta tb) Γ Ω (.bool (p i j)) := de_of fun O A σ H s Q q =>
  two ha hb s fun x y H' e s r1 r2 => ⟨i, j, r1.int_of, r2.int_of, q _ H' e s (rp_bool _)⟩
theorem de_neg {i : Int} (ha : DE ta Γ Ω (.int i)) : DE (tUn (rU fun i => .int (-i)) ta) Γ Ω (.int (-i)) := de_of fun O A σ H s Q q => ha.run s fun x H' e s r => ⟨i, r.int_of, q _ H' e s (rp_int _)⟩
/-- == of scalars -/
theorem de_eqS {x y : V} (ha : DE ta Γ Ω d1) (hb : DE tb Γ Ω d2) (hx : dV x = some d1) (hy : dV y = some d2) (hs : scal x y = true) : DE (tOp rEq ta tb) Γ Ω (.bool (decide (x = y))) := de_of fun O A σ H s Q q =>
  two ha hb s fun x' y' H' e s r1 r2 => by
    rw [dV_eq hx r1, dV_eq hy r2]
    exact ⟨hs, q _ H' e s (rp_bool _)⟩
theorem de_neS {x y : V} (ha : DE ta Γ Ω d1) (hb : DE tb Γ Ω d2) (hx : dV x = some d1) (hy : dV y = some d2) (hs : scal x y = true) : DE (tOp rNe ta tb) Γ Ω (.bool (!decide (x = y))) := de_of fun O A σ H s Q q =>
  two ha hb s fun x' y' H' e s r1 r2 => by
    rw [dV_eq hx r1, dV_eq hy r2]
    exact ⟨hs, q _ H' e s (rp_bool _)⟩
theorem de_eqI {i j : Int} (ha : DE ta Γ Ω (.int i)) (hb : DE tb Γ Ω (.int j)) : DE (tOp rEq ta tb) Γ Ω (.bool (decide (i = j))) := by
  have h := de_eqS (x := .int i) (y := .int j) ha hb rfl rfl rfl
  rw [show decide (V.int i = V.int j) = decide (i = j) by rw [dec_int]; rfl] at h
  exact h
theorem de_neI {i j : Int} (ha : DE ta Γ Ω (.int i)) (hb : DE tb Γ Ω (.int j)) : DE (tOp rNe ta tb) Γ Ω (.bool (!decide (i = j))) := by
  have h := de_neS (x := .int i) (y := .int j) ha hb rfl rfl rfl
  rw [show decide (V.int i = V.int j) = decide (i = j) by rw [dec_int]; rfl] at h
  exact h
theorem de_neB {a b : Bool} (ha : DE ta Γ Ω (.bool a)) (hb : DE tb Γ Ω (.bool b)) : DE (tOp rNe ta tb) Γ Ω (.bool (!decide (a = b))) := by
  have h := de_neS (x := .bl a) (y := .bl b) ha hb rfl rfl rfl
  rw [show decide (V.bl a = V.bl b) = decide (a = b) by cases a <;> cases b <;> rfl] at h
  exact h
theorem de_neStr {a b : Str} (ha : DE ta Γ Ω (.str a)) (hb : DE tb Γ Ω (.str b)) : DE (tOp rNe ta tb) Γ Ω (.bool (!decide (a = b))) := by
  have h := de_neS (x := .str a) (y := .str b) ha hb rfl rfl rfl
  rw [show decide (V.str a = V.str b) = decide (a = b) by
    by_cases e : a = b
    · subst e; simp
    · rw [decide_eq_false e, decide_eq_false fun z => e (V.str.inj z)]] at h
  exact h
/-- == of any data -/
theorem de_eqD (ha : DE ta Γ Ω d1) (hb : DE tb Γ Ω d2) (h1 : SeqAt.shaped d1 = true) (h2 : SeqAt.shaped d2 = true) : DE (tOp (rEqD K) ta tb) Γ Ω (.bool (PyData.eqv d1 d2)) := de_of fun O A σ H s Q q =>
  two ha hb s fun x y H' e s r1 r2 => ⟨d1, d2, (r1.ex off_le).dp, (r2.ex off_le).dp, h1, h2, q _ H' e s (rp_bool _)⟩
theorem de_neD (ha : DE ta Γ Ω d1) (hb : DE tb Γ Ω d2) (h1 : SeqAt.shaped d1 = true) (h2 : SeqAt.shaped d2 = true) : DE (tOp (rNeD K) ta tb) Γ Ω (.bool (!PyData.eqv d1 d2)) := de_of fun O A σ H s Q q =>
  two ha hb s fun x y H' e s r1 r2 => ⟨d1, d2, (r1.ex off_le).dp, (r2.ex off_le).dp, h1, h2, q _ H' e s (rp_bool _)⟩
/-- items -/
theorem atI_of {vs : List V} {ds : List PyData} {H : Hp} (r : RpL H vs ds) {k : Int} (h : atI ds k = some d) : ∃ v, atI vs k = some v ∧ Rp H v d := by
  unfold atI at h ⊢
  rw [r.length]
  cases q : ixN ds.length k with
  | none => rw [q] at h; cases h
  | some j =>
    rw [q] at h
    exact r.get h
theorem de_ixT {k : Int} (ha : DE ta Γ Ω (.tuple ds)) (hb : DE tb Γ Ω (.int k)) (hk : atI ds k = some d) : DE (tOp (rIx K) ta tb) Γ Ω d := de_of fun O A σ H s Q q =>
  two ha hb s fun x y H' e s r1 r2 => by
    obtain ⟨a, xs, rfl, hx, r⟩ := r1.tuple_of
    obtain ⟨v, hv, rv⟩ := atI_of r hk
    exact .inr (.inl ⟨a, xs, k, v, rfl, r2.int_of, SqT.of (off_of hx).2, hv, q _ H' e s rv⟩)
theorem de_ixL {k : Int} (ha : DE ta Γ Ω (.list ds)) (hb : DE tb Γ Ω (.int k)) (hk : atI ds k = some d) : DE (tOp (rIx K) ta tb) Γ Ω d := de_of fun O A σ H s Q q =>
  two ha hb s fun x y H' e s r1 r2 => by
    obtain ⟨a, xs, rfl, hx, r⟩ := r1.list_of
    obtain ⟨v, hv, rv⟩ := atI_of r hk
    exact .inl ⟨a, xs, k, v, rfl, r2.int_of, SqL.of (off_of hx).2, hv, q _ H' e s rv⟩
theorem Wd.lst (s : Wd O A Ω Γ σ H) {k : Nat} {a : Addr} (ha : A[k]? = some a) (h : Ω[k]? = some (.lst ds)) : ∃ xs, H a = some (.lst xs) ∧ RpL (off H (O ++ A)) xs ds := s.ob k a _ ha h
theorem de_ixO {k : Nat} {j : Int} (ha : DOwn ta Γ Ω k) (hb : DE tb Γ Ω (.int j)) (hk : Ω[k]? = some (.lst ds)) (hj : atI ds j = some d) : DE (tOp (rIx K) ta tb) Γ Ω d := de_of fun O A σ H s Q q =>
  ha O A σ H s _ fun a hA => hb.run s fun y H' e s r2 => by
    obtain ⟨xs, hx, r⟩ := s.lst hA hk
    obtain ⟨v, hv, rv⟩ := atI_of r hj
    exact .inl ⟨a, xs, j, v, rfl, r2.int_of, SqL.of hx, hv, q _ H' e s rv⟩
/-- a row of a table of owned rows -/
theorem do_ixR {k m : Nat} {ks : List Nat} {j : Nat} (ha : DOwn ta Γ Ω k) {i : Nat} (hb : Γ[i]? = some (.dat (.int j))) (hk : Ω[k]? = some (.refs ks)) (hj : ks[j]? = some m) : DOwn (tOp (rIx K) ta (tVar i)) Γ Ω m := fun O A σ H s Q q =>
  ha O A σ H s _ fun a hA => by
    obtain ⟨o, ho, v, rfl, r⟩ := s.sl.el i _ hb
    obtain ⟨bs, h1, h2, h3⟩ : ObR _ H A a (.refs ks) := s.ob k a _ hA hk
    obtain ⟨b, hb1, hb2⟩ := h3 j m hj
    refine ⟨v, ho, .inl ⟨a, _, (j : Int), .ref b, rfl, r.int_of, SqL.of h1, ?_, q b hb2⟩⟩
    have hlt := (List.getElem?_eq_some_iff.mp hb1).1
    unfold atI ixN
    rw [List.length_map, if_pos (by omega), if_pos (by omega)]
    show (bs.map V.ref)[(j : Int).toNat]? = _
    rw [Int.toNat_natCast, List.getElem?_map, hb1]
    rfl
theorem da_nil : DA tNil Γ Ω [] := fun O A σ H s Q q => q [] H (Fr.refl A H) s rpl_nil
theorem da_cons {tr : TA} (h : DE ta Γ Ω d) (hr : DA tr Γ Ω ds) : DA (tCons ta tr) Γ Ω (d :: ds) := fun O A σ H s Q q =>
  h.run s fun x H1 e1 s1 r1 => hr O A σ H1 s1 _ fun xs H2 e2 s2 r2 => q _ H2 (e1.trans e2) s2 (rpl_cons (r1.ex (vw e2)) r2)
theorem dap_cons {tr : TA} {P : PyData → Prop} {R : List PyData → Prop} (h : DEp ta Γ Ω P) (hr : DAp tr Γ Ω R) : DAp (tCons ta tr) Γ Ω fun l => ∃ d ds, l = d :: ds ∧ P d ∧ R ds := fun O A σ H s Q q =>
  h O A σ H s _ fun x H1 d e1 s1 r1 p1 => hr O A σ H1 s1 _ fun xs H2 ds e2 s2 r2 p2 => q _ H2 _ (e1.trans e2) s2 (rpl_cons (r1.ex (vw e2)) r2) ⟨d, ds, rfl, p1, p2⟩
theorem dap_nil : DAp tNil Γ Ω (· = []) := fun O A σ H s Q q => q [] H [] (Fr.refl A H) s rpl_nil rfl
theorem sz100 {n : Nat} (h : n ≤ 100000) : n ≤ sizeLine := Nat.le_trans h (by decide)
theorem sl100 {n : Nat} (h : n < 100000) : n < sizeLine := Nat.lt_of_lt_of_le h (by decide)
/-- what was read stands behind an allocation -/
theorem Wd.alloc (s : Wd O A Ω Γ σ H) {p : Addr} {o : HO} (hp : H p = none) : Wd O A Ω Γ σ (upd H p o) ∧ Fr A H (upd H p o) ∧ Same (off H (O ++ A)) (off (upd H p o) (O ++ A)) ∧ off (upd H p o) (O ++ A) p = some o :=
  ⟨s.same (same_new hp), fr_of (same_new hp), vw (fr_of (same_new hp)), off_in upd_same (s.new hp)⟩
theorem de_tup {ta : TA} (h : DA ta Γ Ω ds) (hl : ds.length ≤ 100000 := by exact Nat.le_of_ble_eq_true rfl) : DE (tTup ta) Γ Ω (.tuple ds) := de_of fun O A σ H s Q q =>
  h O A σ H s _ fun vs H' e s r => ⟨by rw [r.length]; exact sz100 hl, fun p hp => by
    obtain ⟨a1, a2, a3, a4⟩ := s.alloc (o := .tup vs) hp
    exact q _ _ (e.trans a2) a1 (rp_tuple a4 (r.ex a3))⟩
theorem dep_tup {ta : TA} {P : List PyData → Prop} (h : DAp ta Γ Ω P) (hl : ∀ ds, P ds → ds.length ≤ 100000) : DEp (tTup ta) Γ Ω fun d => ∃ ds, d = .tuple ds ∧ P ds := fun O A σ H s Q q =>
  h O A σ H s _ fun vs H' ds e s r p0 => ⟨by rw [r.length]; exact sz100 (hl ds p0), fun p hp => by
    obtain ⟨a1, a2, a3, a4⟩ := s.alloc (o := .tup vs) hp
    exact q _ _ _ (e.trans a2) a1 (rp_tuple a4 (r.ex a3)) ⟨ds, rfl, p0⟩⟩
/-- what was free stays free for us -/
theorem free_of (s : Wd O A Ω Γ σ H') (f : Fr A H H') {p : Addr} (hp : H' p = none) : H p = none := by
  cases z : H p with
  | none => rfl
  | some x =>
    by_cases hA : p ∈ A
    · exact absurd (List.mem_append_right O hA) (s.new hp)
    · rw [f p x hA z] at hp
      cases hp
theorem shade_see {p : Addr} {o : HO} (s : Wd O A Ω Γ σ H) (hp : H p = none) : Same (off H (O ++ A)) (off (upd H p o) (p :: O ++ A)) := fun a x e => by
  obtain ⟨h1, h2⟩ := off_of e
  have ne : a ≠ p := ne_of_none h2 hp
  refine off_in (by rw [upd_ne ne]; exact h2) fun z => ?_
  rcases List.mem_cons.mp z with z | z
  · exact ne z
  · exact h1 z
theorem dn_lst {ta : TA} (h : DA ta Γ Ω ds) (hl : ds.length ≤ 100000 := by exact Nat.le_of_ble_eq_true rfl) : DN (tLst ta) Γ Ω ds := fun O A σ H s Q q =>
  h O A σ H s _ fun vs H' e s r => ⟨by rw [r.length]; exact sz100 hl, fun p hp => q p vs _ ds (e.trans (fr_of (same_new hp))) (free_of s e hp) (fun z => s.new hp (List.mem_append_left _ z)) upd_same (s.shade hp) (r.ex (shade_see s hp)) rfl⟩
theorem DNp.de {P : List PyData → Prop} (h : DNp te Γ Ω P) : DEp te Γ Ω fun d => ∃ ds, d = .list ds ∧ P ds := fun O A σ H s Q q =>
  h O A σ H s Q fun l xs H' ds e hl nO hx s r p => by
    have n : l ∉ O ++ A := fun z => by
      rcases List.mem_append.mp z with z | z
      · exact nO z
      · exact s.dj l z List.mem_cons_self
    exact q _ _ _ e s.unshade (rp_list (off_in hx n) (r.ex (off_less fun a z => List.mem_cons_of_mem _ z))) ⟨ds, rfl, p⟩
theorem DN.de (h : DN te Γ Ω ds) : DE te Γ Ω (.list ds) := dep_mono (DNp.de h) fun d ⟨es, e1, e2⟩ => by rw [e1, e2]
theorem dn_is {es : List PyData} (h : DN te Γ Ω ds) (e : ds = es) : DN te Γ Ω es := e ▸ h
theorem de_lst {ta : TA} (h : DA ta Γ Ω ds) (hl : ds.length ≤ 100000 := by exact Nat.le_of_ble_eq_true rfl) : DE (tLst ta) Γ Ω (.list ds) := (dn_lst h hl).de
abbrev rLenQ (K : PySem.W.Frag) : List V → Hp → VK → Prop := fun xs H Q => ∃ p ys, xs = [.ref p] ∧ (SqL K H p ys ∨ SqT K H p ys) ∧ Q (.int ys.length) H
theorem de_lenT (ha : DE ta Γ Ω (.tuple ds)) : DE (tCB (rLenQ K) (tCons ta tNil)) Γ Ω (.int ds.length) := de_of fun O A σ H s Q q =>
  ha.run s fun x H' e s r => by
    obtain ⟨a, xs, rfl, hx, r⟩ := r.tuple_of
    exact ⟨a, xs, rfl, .inr (SqT.of (off_of hx).2), q _ H' e s (by rw [r.length]; exact rp_int _)⟩
theorem de_lenL (ha : DE ta Γ Ω (.list ds)) : DE (tCB (rLenQ K) (tCons ta tNil)) Γ Ω (.int ds.length) := de_of fun O A σ H s Q q =>
  ha.run s fun x H' e s r => by
    obtain ⟨a, xs, rfl, hx, r⟩ := r.list_of
    exact ⟨a, xs, rfl, .inl (SqL.of (off_of hx).2), q _ H' e s (by rw [r.length]; exact rp_int _)⟩
theorem de_lenO {k : Nat} (ha : DOwn ta Γ Ω k) (hk : Ω[k]? = some (.lst ds)) : DE (tCB (rLenQ K) (tCons ta tNil)) Γ Ω (.int ds.length) := de_of fun O A σ H s Q q =>
  ha O A σ H s _ fun a hA => by
    obtain ⟨xs, hx, r⟩ := s.lst hA hk
    exact ⟨a, xs, rfl, .inl (SqL.of hx), q _ H (Fr.refl A H) s (by rw [r.length]; exact rp_int _)⟩
abbrev rTupQ (K : PySem.W.Frag) : List V → Hp → VK → Prop := fun xs H Q => ∃ p ys, xs = [.ref p] ∧ ((SqL K H p ys ∧ ∀ l, H l = none → Q (.ref l) (upd H l (.tup ys))) ∨ (SqT K H p ys ∧ Q (.ref p) H))
theorem dep_tupleOf {P : List PyData → Prop} (ha : DEp ta Γ Ω fun d => ∃ ds, d = .list ds ∧ P ds) : DEp (tCB (rTupQ K) (tCons ta tNil)) Γ Ω fun d => ∃ ds, d = .tuple ds ∧ P ds := fun O A σ H s Q q =>
  ha O A σ H s _ fun x H' d e s r ⟨ds, ed, p⟩ => by
    subst ed
    obtain ⟨a, xs, rfl, hx, r⟩ := r.list_of
    refine ⟨a, xs, rfl, .inl ⟨SqL.of (off_of hx).2, fun l hl => ?_⟩⟩
    obtain ⟨a1, a2, a3, a4⟩ := s.alloc (o := .tup xs) hl
    exact q _ _ _ (e.trans a2) a1 (rp_tuple a4 (r.ex a3)) ⟨ds, rfl, p⟩
theorem de_tupleOf (ha : DE ta Γ Ω (.list ds)) : DE (tCB (rTupQ K) (tCons ta tNil)) Γ Ω (.tuple ds) := by
  refine dep_mono (dep_tupleOf (P := (· = ds)) (dep_mono ha fun d e => ⟨ds, e, rfl⟩)) ?_
  rintro d ⟨_, rfl, rfl⟩
  rfl
theorem de_tupleOfO {k : Nat} (ha : DOwn ta Γ Ω k) (hk : Ω[k]? = some (.lst ds)) : DE (tCB (rTupQ K) (tCons ta tNil)) Γ Ω (.tuple ds) := de_of fun O A σ H s Q q =>
  ha O A σ H s _ fun a hA => by
    obtain ⟨xs, hx, r⟩ := s.lst hA hk
    refine ⟨a, xs, rfl, .inl ⟨SqL.of hx, fun l hl => ?_⟩⟩
    obtain ⟨a1, a2, a3, a4⟩ := s.alloc (o := .tup xs) hl
    exact q _ _ a2 a1 (rp_tuple a4 (r.ex a3))
theorem de_all {bs : List Bool} (ha : DE ta Γ Ω (.list (bs.map .bool))) : DE (tCB (rAll K) (tCons ta tNil)) Γ Ω (.bool (bs.all id)) := de_of fun O A σ H s Q q =>
  ha.run s fun x H' e s r => by
    obtain ⟨a, xs, rfl, hx, r⟩ := r.list_of
    rw [r.bools_of] at hx
    exact ⟨a, bs, rfl, SqL.of (off_of hx).2, q _ H' e s (rp_bool _)⟩
theorem de_sum {ns : List Int} (ha : DE ta Γ Ω (.list (ns.map .int))) : DE (tCB (rSum K) (tCons ta tNil)) Γ Ω (.int ns.sum) := de_of fun O A σ H s Q q =>
  ha.run s fun x H' e s r => by
    obtain ⟨a, xs, rfl, hx, r⟩ := r.list_of
    rw [r.ints_of] at hx
    exact ⟨a, ns, rfl, SqL.of (off_of hx).2, q _ H' e s (rp_int _)⟩
/-! tests -/
theorem dt_test {b : Bool} (h : DE te Γ Ω (.bool b)) : DT (tTest te) Γ Ω b := fun O A σ H s Q q => h.run s fun x H' e s r => ⟨b, r.bool_of, q H' e s⟩
theorem dt_B {b : Bool} (h : DE te Γ Ω (.bool b)) : DT (tB te) Γ Ω b := fun O A σ H s Q q => h.run s fun x H' e s r => ⟨b, r.bool_of, q H' e s⟩
theorem dtp_test (h : DEp te Γ Ω fun d => ∃ b, d = .bool b) : DTp (tTest te) Γ Ω fun _ => True := fun O A σ H s Q q => h O A σ H s _ fun x H' d e s r ⟨b, ed⟩ => by
  subst ed
  exact ⟨b, r.bool_of, q b H' e s trivial⟩
theorem DT.p {b : Bool} (h : DT t Γ Ω b) : DTp t Γ Ω (· = b) := fun O A σ H s Q q => h O A σ H s Q fun H' e s => q b H' e s rfl
theorem dt_is {a b : Bool} (h : DT t Γ Ω a) (e : a = b) : DT t Γ Ω b := e ▸ h
theorem dt_and {a b : Bool} (h1 : DT t Γ Ω a) (h2 : a = true → DT u Γ Ω b) : DT (tAnd t u) Γ Ω (a && b) := fun O A σ H s Q q => h1 O A σ H s _ fun H1 e1 s1 => by
  cases a with
  | true =>
    show u σ H1 Q
    exact h2 rfl O A σ H1 s1 Q fun H2 e2 s2 => q H2 (e1.trans e2) s2
  | false =>
    show Q false H1
    exact q H1 e1 s1
theorem dtp_and {a : Bool} (h1 : DT t Γ Ω a) (h2 : a = true → DTp u Γ Ω fun _ => True) : DTp (tAnd t u) Γ Ω (fun c => c = true → a = true) := fun O A σ H s Q q => h1 O A σ H s _ fun H1 e1 s1 => by
  cases a with
  | true =>
    show u σ H1 Q
    exact h2 rfl O A σ H1 s1 Q fun b H2 e2 s2 _ => q b H2 (e1.trans e2) s2 fun _ => rfl
  | false =>
    show Q false H1
    exact q false H1 e1 s1 fun z => z
theorem dt_or {a b : Bool} (h1 : DT t Γ Ω a) (h2 : a = false → DT u Γ Ω b) : DT (tOr t u) Γ Ω (a || b) := fun O A σ H s Q q => h1 O A σ H s _ fun H1 e1 s1 => by
  cases a with
  | true =>
    show Q true H1
    exact q H1 e1 s1
  | false =>
    show u σ H1 Q
    exact h2 rfl O A σ H1 s1 Q fun H2 e2 s2 => q H2 (e1.trans e2) s2
theorem dt_not {a : Bool} (h1 : DT t Γ Ω a) : DT (tNot t) Γ Ω (!a) := fun O A σ H s Q q => h1 O A σ H s _ fun H1 e1 s1 => q H1 e1 s1
theorem de_andV {a b : Bool} (h1 : DE ta Γ Ω (.bool a)) (h2 : a = true → DE tb Γ Ω (.bool b)) : DE (tAndV ta tb) Γ Ω (.bool (a && b)) := de_of fun O A σ H s Q q => h1.run s fun x H1 e1 s1 r1 => ⟨a, r1.bool_of, by
  cases a with
  | true =>
    show tb σ H1 Q
    exact (h2 rfl).run s1 fun v H2 e2 s2 r2 => q v H2 (e1.trans e2) s2 r2
  | false =>
    show Q (.bl false) H1
    exact q _ H1 e1 s1 (rp_bool _)⟩
theorem de_orV {a b : Bool} (h1 : DE ta Γ Ω (.bool a)) (h2 : a = false → DE tb Γ Ω (.bool b)) : DE (tOrV ta tb) Γ Ω (.bool (a || b)) := de_of fun O A σ H s Q q => h1.run s fun x H1 e1 s1 r1 => ⟨a, r1.bool_of, by
  cases a with
  | true =>
    show Q (.bl true) H1
    exact q _ H1 e1 s1 (rp_bool _)
  | false =>
    show tb σ H1 Q
    exact (h2 rfl).run s1 fun v H2 e2 s2 r2 => q v H2 (e1.trans e2) s2 r2⟩
theorem de_notV {a : Bool} (h1 : DE ta Γ Ω (.bool a)) : DE (tNotV ta) Γ Ω (.bool (!a)) := de_of fun O A σ H s Q q => h1.run s fun x H1 e1 s1 r1 => ⟨a, r1.bool_of, q _ H1 e1 s1 (rp_bool _)⟩
theorem de_if {b : Bool} (h : DT t Γ Ω b) (h1 : b = true → DE ta Γ Ω d) (h2 : b = false → DE tb Γ Ω d) : DE (tIf t ta tb) Γ Ω d := de_of fun O A σ H s Q q => h O A σ H s _ fun H1 e1 s1 => by
  cases b with
  | true =>
    show ta σ H1 Q
    exact (h1 rfl).run s1 fun v H2 e2 s2 r2 => q v H2 (e1.trans e2) s2 r2
  | false =>
    show tb σ H1 Q
    exact (h2 rfl).run s1 fun v H2 e2 s2 r2 => q v H2 (e1.trans e2) s2 r2
theorem dep_if {b : Bool} {P : PyData → Prop} (h : DT t Γ Ω b) (h1 : b = true → DEp ta Γ Ω P) (h2 : b = false → DEp tb Γ Ω P) : DEp (tIf t ta tb) Γ Ω P := fun O A σ H s Q q => h O A σ H s _ fun H1 e1 s1 => by
  cases b with
  | true =>
    show ta σ H1 Q
    exact h1 rfl O A σ H1 s1 _ fun v H2 d e2 s2 r2 p => q v H2 d (e1.trans e2) s2 r2 p
  | false =>
    show tb σ H1 Q
    exact h2 rfl O A σ H1 s1 _ fun v H2 d e2 s2 r2 p => q v H2 d (e1.trans e2) s2 r2 p
def isNone : PyData → Bool
  | .none => true
  | _ => false
theorem non_iff {V : Hp} {v : L2.V} {d : PyData} (r : Rp V v d) : decide (v = .non) = isNone d := by
  cases d with
  | none => rw [r.none_of]; rfl
  | bool c => rw [r.bool_of]; rfl
  | int i => rw [r.int_of]; rfl
  | str x => rw [r.str_of]; rfl
  | list ds => obtain ⟨a, xs, rfl, _⟩ := r.list_of; rfl
  | tuple ds => obtain ⟨a, xs, rfl, _⟩ := r.tuple_of; rfl
  | dict ks => exact r.dict_of.elim
theorem de_isN (ha : DE ta Γ Ω d) : DE (tIsN ta) Γ Ω (.bool (isNone d)) := de_of fun O A σ H s Q q => ha.run s fun v H' e s r => by
  show Q (.bl (decide (v = .non))) H'
  rw [non_iff r]
  exact q _ H' e s (rp_bool _)
theorem de_notN (ha : DE ta Γ Ω d) : DE (tNotN ta) Γ Ω (.bool (!isNone d)) := de_of fun O A σ H s Q q => ha.run s fun v H' e s r => by
  show Q (.bl (!decide (v = .non))) H'
  rw [non_iff r]
  exact q _ H' e s (rp_bool _)
theorem de_isN2 (ha : DE ta Γ Ω d) : DE (tOp (fun x y H Q => y = .non ∧ Q (.bl (decide (x = .non))) H) ta (tC .non)) Γ Ω (.bool (isNone d)) := de_of fun O A σ H s Q q => ha.run s fun v H' e s r => ⟨rfl, by
  rw [non_iff r]
  exact q _ H' e s (rp_bool _)⟩
theorem de_notN2 (ha : DE ta Γ Ω d) : DE (tOp (fun x y H Q => y = .non ∧ Q (.bl (!decide (x = .non))) H) ta (tC .non)) Γ Ω (.bool (!isNone d)) := de_of fun O A σ H s Q q => ha.run s fun v H' e s r => ⟨rfl, by
  rw [non_iff r]
  exact q _ H' e s (rp_bool _)⟩
/-- a <= b <= c -/
theorem de_chain {g h : Int → Int → Bool} {i j k : Int} (ha : DE ta Γ Ω (.int i)) (hb : DE tb Γ Ω (.int j)) (hc : DE tc Γ Ω (.int k)) : DE (tChain (rI0 fun i j => .bl (g i j)) (rI0 fun i j => .bl (h i j)) ta tb tc) Γ Ω (.bool (g i j && h j k)) := de_of fun O A σ H s Q q =>
  ha.run s fun x H1 e1 s1 r1 => hb.run s1 fun y H2 e2 s2 r2 => ⟨i, j, (r1.ex (vw e2)).int_of, r2.int_of, g i j, rfl, by
    cases z : g i j with
    | true =>
      show tc σ H2 _
      refine hc.run s2 fun w H3 e3 s3 r3 => ⟨j, k, (r2.ex (vw e3)).int_of, r3.int_of, ?_⟩
      have := q (.bl (h j k)) H3 ((e1.trans e2).trans e3) s3
      rw [z] at this
      exact this (rp_bool _)
    | false =>
      have := q (.bl false) H2 (e1.trans e2) s2
      rw [z] at this
      exact this (rp_bool _)⟩
end
/-! ### promises -/
/-- pre of the data read; post of them and of what is given -/
def SpP (pre : List PyData → Prop) (post : List PyData → PyData → Prop) : Sp := fun vs H Q _ => ∃ O ds, (∀ a ∈ O, ∃ x, H a = some x) ∧ RpL (off H O) vs ds ∧ pre ds ∧ ∀ v H' d, Same H H' → Rp (off H' O) v d → post ds d → Q v H'
abbrev SpR (R : List PyData → PyData → Prop) : Sp := fun vs H Q _ => ∃ O ds d, (∀ a ∈ O, ∃ x, H a = some x) ∧ RpL (off H O) vs ds ∧ R ds d ∧ ∀ v H', Same H H' → Rp (off H' O) v d → Q v H'
/-- the same with a mill ahead -/
def SpM (pre : List PyData → Prop) (post : List PyData → PyData → Prop) : Sp := fun vs H Q _ => ∃ O a us ds, vs = .ref a :: us ∧ a ∉ O ∧ (∀ a ∈ O, ∃ x, H a = some x) ∧ MillAt H a ∧ RpL (off H (O ++ [a])) us ds ∧ pre ds ∧ ∀ v H' d, Fr [a] H H' → MillAt H' a → Rp (off H' (O ++ [a])) v d → post ds d → Q v H'
section
variable {Γ : Ctx} {Ω : List Ob} {ta : TA} {ds : List PyData} {d : PyData} {E : XK}
theorem tk_all {O A : List Addr} {σ : St} {H : Hp} (s : Wd O A Ω Γ σ H) : ∀ a ∈ O ++ A, ∃ x, H a = some x := fun a h => by
  rcases List.mem_append.mp h with h | h
  · exact s.tk a h
  · exact s.has h
theorem de_call {R : List PyData → PyData → Prop} (h : DA ta Γ Ω ds) (hR : R ds d) : DE (tCall (SpR R) [] E ta) Γ Ω d := de_of fun O A σ H s Q q =>
  h O A σ H s _ fun vs H' e s r => by
    show SpR R (vs ++ []) H' Q E
    rw [List.append_nil]
    exact ⟨O ++ A, ds, d, tk_all s, r, hR, fun v H2 e2 r2 => q v H2 (e.trans (fr_of e2)) (s.same e2) r2⟩
theorem dep_call {pre : List PyData → Prop} {post : List PyData → PyData → Prop} (h : DA ta Γ Ω ds) (hR : pre ds) : DEp (tCall (SpP pre post) [] E ta) Γ Ω (post ds) := fun O A σ H s Q q =>
  h O A σ H s _ fun vs H' e s r => by
    show SpP pre post (vs ++ []) H' Q E
    rw [List.append_nil]
    exact ⟨O ++ A, ds, tk_all s, r, hR, fun v H2 d e2 r2 hp => q v H2 d (e.trans (fr_of e2)) (s.same e2) r2 hp⟩
/-- the mill turns: what else is owned stands -/
theorem Wd.turn {O A : List Addr} {σ : St} {H H' : Hp} (s : Wd O A Ω Γ σ H) {k : Nat} {a : Addr} (ha : A[k]? = some a) (hk : Ω[k]? = some .mill) (f : Fr [a] H H') (m : MillAt H' a) : Wd O A Ω Γ σ H' := by
  have hA := List.mem_of_getElem? ha
  have v : Same (off H (O ++ A)) (off H' (O ++ A)) := f.same fun b h => by rw [List.mem_singleton.mp h]; exact List.mem_append_right _ hA
  refine ⟨fun b z => ?_, s.nd, s.dj, s.len, fun j b x h1 h2 => ?_, s.sl.to v fun _ _ h => h⟩
  · obtain ⟨x, h⟩ := s.tk b z
    exact ⟨x, f b x (fun q => s.dj a hA (show a ∈ O from List.mem_singleton.mp q ▸ z)) h⟩
  · by_cases q : b = a
    · subst q
      have e : j = k := nodup_inj s.nd h1 ha
      subst e
      rw [hk] at h2
      cases h2
      exact m
    · have r := s.ob j b x h1 h2
      obtain ⟨y, z⟩ := r.some
      exact r.to v ((f _ _ (fun w => q (List.mem_singleton.mp w)) z).trans z.symm) fun _ _ h => h
theorem dep_callM {pre : List PyData → Prop} {post : List PyData → PyData → Prop} {tm : TE} {P : List PyData → Prop} {k : Nat} (hm : DOwn tm Γ Ω k) (hk : Ω[k]? = some .mill) (h : DAp ta Γ Ω P) (hR : ∀ ds, P ds → pre ds) : DEp (tCall (SpM pre post) [] E (tCons tm ta)) Γ Ω (fun d => ∃ ds, P ds ∧ post ds d) := fun O A σ H s Q q =>
  hm O A σ H s _ fun a ha => h O A σ H s _ fun vs H' ds e s r p => by
    show SpM pre post (.ref a :: vs ++ []) H' Q E
    rw [List.append_nil]
    have hA := List.mem_of_getElem? ha
    have e1 : ∀ b, b ∈ (O ++ A.filter (· ≠ a)) ++ [a] ↔ b ∈ O ++ A := fun b => by
      simp only [List.mem_append, List.mem_filter, List.mem_singleton, decide_not, Bool.not_eq_eq_eq_not, Bool.not_true, decide_eq_false_iff_not]
      constructor
      · rintro ((h | h) | h)
        · exact .inl h
        · exact .inr h.1
        · subst h; exact .inr hA
      · rintro (h | h)
        · exact .inl (.inl h)
        · by_cases z : b = a
          · exact .inr z
          · exact .inl (.inr ⟨h, z⟩)
    refine ⟨O ++ A.filter (· ≠ a), a, vs, ds, rfl, fun z => ?_, fun b z => ?_, s.ob k a _ ha hk, r.ex (off_less fun b z => (e1 b).mp z), hR ds p, fun v H2 d f m r2 hp => ?_⟩
    · rcases List.mem_append.mp z with z | z
      · exact s.dj a hA z
      · simp at z
    · exact tk_all s b ((e1 b).mp (List.mem_append_left _ z))
    · have s2 := s.turn ha hk f m
      refine q v H2 d (e.trans fun b o n z => f b o (fun w => n (List.mem_singleton.mp w ▸ hA)) z) s2 (r2.ex (off_less fun b z => (e1 b).mpr z)) ⟨ds, p, hp⟩
end
end EW
/-! Rules that the hand layer lacks. -/
namespace EW
open PySem PySem.Spec PyProof.Rows
/-! ### enumerate of a tuple -/
theorem meets_enumT (t : Addr) (items : Array Value) :
    Meets (Builtin.«enumerate.__new__» ⟨[.type "enumerate", .ref t], []⟩) (fun _ R s => s.heap.IsTuple t items ∧
      R (.ok (.ret (.ref (s.heap.push { cls := .type "tuple_iterator", data := .fields #[.ref t, .int 0 0] }).objs.size)))
        { s with heap := (s.heap.push { cls := .type "tuple_iterator", data := .fields #[.ref t, .int 0 0] }).push { cls := .type "enumerate", data := .fields #[.none, .bool false, .ref s.heap.objs.size, rawInt 0, .none, .none] } }) :=
  .of_wp fun prog w A R s h => by
    obtain ⟨hp, g, dr, tk, os⟩ := s
    obtain ⟨hT, h⟩ := h
    have hsubE := sub_enumerate
    have q1 : ∀ {A' : Around} {E : Value → Shared → Prop} {Q : Value → Shared → Prop}, Q (.ref hp.objs.size) ⟨hp.push { cls := .type "tuple_iterator", data := .fields #[.ref t, .int 0 0] }, g, dr, tk, os⟩ → wpAny (model prog w) A' (pyIter (.ref t)) Q E ⟨hp, g, dr, tk, os⟩ :=
      fun q => wpAny_pyIter_tuple hT q
    wp_walk using q1
    refine wpAny_stack_any fun st => wpAny_pure ?_
    split
    · rename_i cc _ _ _ _ _
      cases (cc == Value.type "enumerate") <;> (wp_walk using q1; exact ⟨_, rfl, h⟩)
    · wp_walk using q1
      exact ⟨_, rfl, h⟩
theorem call_enumT {prog : Program} {w : World} {A : Around} {E : Value → Shared → Prop} {s : Shared} {t : Addr} {items : Array Value} {Q : Value → Shared → Prop} (hT : s.heap.IsTuple t items)
    (h : ∀ h', IsEnum h' (s.heap.objs.size + 1) s.heap.objs.size 0 .none → h'.IsTupleIter s.heap.objs.size t 0 → (∀ b o, s.heap.get? b = some o → h'.get? b = some o) → Q (.ref (s.heap.objs.size + 1)) { s with heap := h' }) :
    wpAny (model prog w) A (call (.type "enumerate") [.ref t]) Q E s := by
  refine callType_new F.called_enumerate (by decide) (F.typeCall_enumerate_1 _) (F.newCall_enumerate_1 _) (fun obj => F.args_object_init_2 obj _) F.entry_enumerate_new (meets_enumT t items) ⟨hT, ?_⟩
  have hz : (s.heap.push { cls := .type "tuple_iterator", data := .fields #[.ref t, .int 0 0] }).objs.size = s.heap.objs.size + 1 := Heap.size_push ..
  show _ ∧ _
  rw [hz]
  have en : IsEnum ((s.heap.push { cls := .type "tuple_iterator", data := .fields #[.ref t, .int 0 0] }).push { cls := .type "enumerate", data := .fields #[.none, .bool false, .ref s.heap.objs.size, rawInt 0, .none, .none] }) (s.heap.objs.size + 1) s.heap.objs.size 0 .none := by
    have z := Heap.get?_push_size (s.heap.push { cls := .type "tuple_iterator", data := .fields #[.ref t, .int 0 0] }) (o := { cls := .type "enumerate", data := .fields #[.none, .bool false, .ref s.heap.objs.size, rawInt 0, .none, .none] }) rfl
    rw [hz] at z
    exact z
  exact ⟨⟨_, en, rfl⟩, h _ en ⟨_, Heap.get?_push_of_some _ (Heap.get?_push_size _ rfl), rfl, rfl⟩ fun b o x => Heap.get?_push_of_some _ (Heap.get?_push_of_some _ x)⟩
end EW
namespace EW
open PySem PySem.Spec L2
/-- a tuple's items with their places -/
def ItE (K : PySem.W.Frag) (a : Addr) : It :=
  ⟨fun i H => ∃ (xs : List V) (x : V), SqT K H a xs ∧ xs[i]? = some x, fun i H v H' => ∃ T x, v = .ref T ∧ H T = none ∧ H' = upd H T (.tup [.int (i : Nat), x]) ∧ ∀ xs, SqT K H a xs → xs[i]? = some x, fun i H => ∃ xs : List V, SqT K H a xs ∧ xs.length ≤ i⟩
theorem turn_enumT {P : Program} {w : World} {K : PySem.W.Frag} {elts : List Expr} {kk : Nat} {tpos : Pos} (a e it : Addr) (hae : a ≠ it) (hae2 : a ≠ e) :
    Turn P w K (.Tuple elts kk tpos) (ItE K a) [e, it] e (fun i h => (∃ old, IsEnum h e it ((i : Nat) : Int) old) ∧ h.IsTupleIter it a i ∧ e ≠ it) where
  mem := by simp
  obj := fun i h st b hb => by
    obtain ⟨⟨old, he⟩, ⟨o, ho, hc, hd⟩, _⟩ := st
    have e' : b = e ∨ b = it := by simpa using hb
    rcases e' with rfl | rfl
    · exact ⟨_, he, fun v q => nomatch q⟩
    · exact ⟨o, ho, fun v q => by rw [hd] at q; cases q⟩
  keep := fun i h h' st k => by
    obtain ⟨⟨old, he⟩, hi, hne⟩ := st
    exact ⟨⟨old, k e (by simp) _ he⟩, hi.at fun o q => k it (by simp) o q, hne⟩
  item := by
    intro X hP hw hK hc i pins s σ H E I hf st hg
    subst hP hw hK
    obtain ⟨⟨old, he⟩, hit, hne⟩ := st
    obtain ⟨xs, x, hq, hx⟩ := hg
    obtain ⟨its, rv, p, hz⟩ := I.tuple hq
    obtain ⟨u, hu, ru⟩ := rv.get hx
    have hlt : i < its.toArray.size := by
      have := (List.getElem?_eq_some_iff.mp hu).1
      simpa using this
    have hel : e < s.heap.objs.size := Heap.lt_size he
    have hil : it < s.heap.objs.size := by obtain ⟨_, q, _⟩ := hit; exact Heap.lt_size q
    have D := Draws.tuple (prog := X.prog) (w := X.w) (A := X.A.in1) (I.ok.hd hc) it a hae its.toArray
    refine wpAny_pyNext_enum_itemD D he ⟨hit, p⟩ hlt hne (by simp only [List.mem_cons, List.not_mem_nil, or_false, not_or]; exact ⟨hne, Ne.symm hae2⟩) fun x' h' tk hP' ho hS hT hsz hk => ?_
    have ex : x' = u := by
      have z : its.toArray[i]? = some x' := hP'
      rw [List.getElem?_toArray, hu] at z
      exact (Option.some.inj z).symm
    subst ex
    refine ⟨_, rfl, wpAny_letOwnedTupleGo_enum (s := { s with heap := h', toks := tk + 1 }) ho fun h'' he' sb => ?_⟩
    have hT2 : h''.get? s.heap.objs.size = some { cls := .type "tuple", data := .seq #[.int i tk, x'] } := (sb.2 _ (Nat.ne_of_gt hel)).trans hT
    have new : ObjOk X.prog X.w (upd H s.heap.objs.size (.tup [.int (i : Nat), x])) h'' s.heap.objs.size (.tup [.int (i : Nat), x]) :=
      ⟨by show 2 ≤ sizeLine; decide, [.int i tk, x'], .cons ⟨_, rfl⟩ (.cons ru .nil), ⟨_, hT2, rfl, _, rfl⟩⟩
    have I1 : Inv X pins σ (upd H s.heap.objs.size (.tup [.int (i : Nat), x])) { s with heap := h'', toks := tk + 1 } :=
      I.turnedNew (ch := [e, it]) (fun b ob hb q => (sb.2 b (fun z => hb (by simp [z]))).trans (hk b ob (fun z => hb (by simp [z])) (fun z => hb (by simp [z])) q)) hf (Nat.le_refl _) new
    refine ⟨.ref s.heap.objs.size, _, I1, rfl, ⟨_, x, rfl, I.hok.fresh (Nat.le_refl _), rfl, fun ys hy => ?_⟩, ⟨⟨x', ?_⟩, hS.1.at fun o q => (sb.2 it (Ne.symm hne)).trans q, hne⟩, fun b hb => ?_⟩
    · rw [I.tuple_inj hy hq]
      exact hx
    · have e1 : ((i + 1 : Nat) : Int) = (i : Int) + 1 := by omega
      rw [e1]
      exact he'
    · have hb' : b < s.heap.objs.size := by
        have e' : b = e ∨ b = it := by simpa using hb
        rcases e' with rfl | rfl
        · exact hel
        · exact hil
      rw [upd_ne (Nat.ne_of_lt hb')]
      exact (hf b hb).1
  done := by
    intro X hP hw hK hc i pins s σ H E I hf st hg
    subst hP hw hK
    obtain ⟨⟨old, he⟩, hit, hne⟩ := st
    obtain ⟨xs, hq, hx⟩ := hg
    obtain ⟨its, rv, p, hz⟩ := I.tuple hq
    obtain ⟨f0, f1, f2, f3, f4, f5⟩ := hf it (by simp)
    have hl := rv.length
    have hT : s.TypeIs (.ref e) "enumerate" := ⟨_, he, rfl⟩
    unfold pyNext
    refine wpAny_bind (wpAny_attempt (wpAny_callSpecial?_slot (name := Str.ofString "__next__") hT F.slot_enumerate_next (wpAny_call_entry F.slot_enumerate_next hT F.entry_enumerate_next ?_ (F.args_enumerate_next_1 _))))
    show wpAny _ _ (field (.ref e) 2 >>= _) _ _ _
    refine wpAny_bind (wpAny_field he rfl (x := .ref it) rfl ?_)
    refine wpAny_bind (wpAny_nextOf_tuple_end (show X.A.in1.in1.handled = none from I.ok.hd hc) hit p (by simp; omega) fun h' y hk ho => ?_)
    obtain ⟨o, ho, hcl⟩ := ho
    refine wpAny_bind (wpAny_isInstance (T := "StopIteration") (b := true) ⟨o, ho, hcl⟩ isSubtype_stop ?_)
    exact wpAny_pure ⟨rfl, I.turned (t' := s.toks) (fun b o hb q => hk b o hb q) f0 f1 f3 f4 f5⟩
  self := fun A i s Q E st h => by
    obtain ⟨⟨_, he⟩, _⟩ := st
    exact wpAny_pyIter_enum he h
def iEnumT (K : PySem.W.Frag) (te : TE) : TI := fun σ H R => te σ H fun v H1 => ∃ a xs, v = .ref a ∧ SqT K H1 a xs ∧ R (ItE K a) H1
theorem pi_enumT {X : Cx} {e : Expr} {te : TE} {p pos tpos : Pos} {elts : List Expr} {kk : Nat} (hg : Gl X "enumerate") (hm : X.mg "enumerate" = none) (he : PE X e te) (hs : starEach [e] X.env = [(false, eval e X.env)] := by rfl) :
    PI X (.Tuple elts kk tpos) (.Call (.Name "enumerate" p) [e] [] pos) (iEnumT X.K te) := by
  have ha : PA X [e] (tCons te tNil) := pa_cons he pa_nil hs
  refine ⟨fun pins s σ H R I h => ?_⟩
  have h2 : tCons te tNil σ H fun vs H1 => ∃ a xs, vs = [.ref a] ∧ SqT X.K H1 a xs ∧ R (ItE X.K a) H1 := by
    have mono := h
    show te σ H fun x H1 => ∃ a xs, [x] = [V.ref a] ∧ SqT X.K H1 a xs ∧ R (ItE X.K a) H1
    have e3 : (fun (x : V) (H1 : Hp) => ∃ a xs, [x] = [V.ref a] ∧ SqT X.K H1 a xs ∧ R (ItE X.K a) H1) = fun (v : V) (H1 : Hp) => ∃ a xs, v = .ref a ∧ SqT X.K H1 a xs ∧ R (ItE X.K a) H1 := by
      funext x H1
      refine propext ⟨fun ⟨a, xs, q1, q2⟩ => ⟨a, xs, by simpa using q1, q2⟩, fun ⟨a, xs, q1, q2⟩ => ⟨a, xs, by rw [q1], q2⟩⟩
    rw [e3]
    exact mono
  refine PyProof.Rows.Call_ (ld_blt I hg hm PyProof.Rows.boot_enumerate (PyProof.Rows.callWith_type1 (thn (ha.run pos pins s σ H _ I h2) fun us s1 ⟨vs, H1, I1, r1, q1⟩ => ?_) hs rfl))
  obtain ⟨a, xs, ex, hq, q⟩ := q1
  subst ex
  cases r1 with
  | cons r rr =>
    cases rr
    cases r
    obtain ⟨its, rv, p', hz⟩ := I1.tuple hq
    have hal := p'.lt
    refine call_enumT p' fun h' he' hit hk => wpAny_pyIter_enum he' ?_
    have I2 : Inv X pins σ H1 { s1 with heap := h' } := I1.kept (t' := s1.toks) hk
    refine ⟨s1.heap.objs.size + 1, [s1.heap.objs.size + 1, s1.heap.objs.size], _, _, H1, rfl, I2, turn_enumT a (s1.heap.objs.size + 1) s1.heap.objs.size (Nat.ne_of_lt hal) (Nat.ne_of_lt (Nat.lt_succ_of_lt hal)), ⟨⟨.none, he'⟩, hit, Nat.succ_ne_self _⟩, fun b hb => ?_, q⟩
    have e' : b = s1.heap.objs.size + 1 ∨ b = s1.heap.objs.size := by simpa using hb
    have hle : s1.heap.objs.size ≤ b := by
      rcases e' with z | z <;> rw [z]
      · exact Nat.le_succ _
      · exact Nat.le_refl _
    exact I1.fpOk hle (I1.hok.fresh hle)
theorem for_enumT {K : PySem.W.Frag} {a : Addr} {xs : List V} {g : TG} {tb : TS} {D : Ends} {σ : L2.St} {H : Hp} (Pv : Nat → L2.St → Hp → Prop) (h0 : Pv 0 σ H) (hq : ∀ i σ H, Pv i σ H → SqT K H a xs)
    (hs : ∀ (i : Nat) (x : V) (T : Addr) (σ : L2.St) (H : Hp), xs[i]? = some x → Pv i σ H → H T = none → g (.ref T) σ (upd H T (.tup [.int (i : Nat), x])) fun σ2 H2 => tb { D with nx := Pv (i + 1), ct := Pv (i + 1), bk := D.nx } σ2 H2) (hd : ∀ σ H, Pv xs.length σ H → D.nx σ H) :
    ∃ W : Nat → Nat → L2.St → Hp → Prop, (∃ m, W 0 m σ H) ∧ ∀ i m σ H, W i m σ H →
      ((ItE K a).stop i H ∧ D.nx σ H) ∨ ((ItE K a).go i H ∧ ∃ N : L2.St → Hp → Prop, (∀ σ' H', N σ' H' → ∃ m', m' < m ∧ W (i + 1) m' σ' H') ∧ ∀ v H', (ItE K a).yld i H v H' → g v σ H' fun σ2 H2 => tb { D with nx := N, ct := N, bk := D.nx } σ2 H2) := by
  refine ⟨fun i m σ H => m = xs.length - i ∧ i ≤ xs.length ∧ Pv i σ H, ⟨xs.length, rfl, Nat.zero_le _, h0⟩, ?_⟩
  rintro i m σ H ⟨rfl, hi, p⟩
  have qx := hq i σ H p
  by_cases hlt : i < xs.length
  · have hx : xs[i]? = some xs[i] := List.getElem?_eq_getElem hlt
    refine .inr ⟨⟨xs, _, qx, hx⟩, Pv (i + 1), fun σ' H' p' => ⟨xs.length - (i + 1), by omega, rfl, hlt, p'⟩, fun v H' y => ?_⟩
    obtain ⟨T, x', rfl, hT, rfl, f1⟩ := y
    exact hs i x' T σ H (f1 xs qx) p hT
  · have e : i = xs.length := by omega
    subst e
    exact .inl ⟨⟨xs, qx, Nat.le_refl _⟩, hd σ H p⟩
/-! ### xs[i] op= e -/
def rGetL (K : PySem.W.Frag) : V → V → Hp → VK → Prop := fun o i H Q => ∃ (p : Addr) (xs : List V) (k : Nat) (v : V), o = .ref p ∧ i = .int (k : Int) ∧ SqL K H p xs ∧ xs[k]? = some v ∧ Q v H
theorem get_list {X : Cx} : PGet X (rGetL X.K) := by
  intro pins s σ H o i ov iv Q I r1 r2 h
  obtain ⟨p, xs, k, v, rfl, rfl, hq, hk, q⟩ := h
  cases r1
  obtain ⟨t, rfl⟩ := r2
  obtain ⟨its, rv, pl, hz⟩ := I.list hq
  obtain ⟨u, hu, ru⟩ := rv.get hk
  have hlt := (List.getElem?_eq_some_iff.mp hk).1
  rw [sizeLine_eq] at hz
  exact wpAny_getItem_list pl.isList (by omega) (by omega) (by simpa using hu) (show EP X pins σ Q u s from ⟨v, H, I, ru, q⟩)
/-! ### any of whole numbers -/
def rAnyI (K : PySem.W.Frag) : List V → Hp → VK → Prop := fun vs H Q => ∃ (a : Addr) (ns : List Int), vs = [V.ref a] ∧ SqL K H a (ns.map V.int) ∧ Q (.bl (ns.any (· != 0))) H
theorem truth_intsV {prog : Program} {w : World} {A : Around} {ns : List Int} {its : List Value} (e : Vals (ns.map V.int) its) :
    TruthOf prog w A (fun i v => its.toArray[i]? = some v) (fun i => (ns.getD i 0) != 0) := fun i v s Q E hv hq => by
  have hv' : its[i]? = some v := by simpa using hv
  have hlen := e.length
  rw [List.length_map] at hlen
  have hlt := (List.getElem?_eq_some_iff.mp hv').1
  have hn : (ns.map V.int)[i]? = some (V.int ns[i]) := by rw [List.getElem?_map, List.getElem?_eq_getElem (by omega)]; rfl
  obtain ⟨u, hu, ru⟩ := e.get hn
  rw [hv'] at hu
  cases hu
  obtain ⟨t, rfl⟩ := ru
  have hg : ns.getD i 0 = ns[i] := by rw [List.getD_eq_getElem?_getD, List.getElem?_eq_getElem (by omega)]; rfl
  have hq' : Q ((ns.getD i 0) != 0) s := hq
  rw [hg] at hq'
  exact PyProof.Rows.truthy_int hq'
theorem any_rangeI : ∀ ns : List Int, (List.range ns.length).any (fun i => (ns.getD i 0) != 0) = ns.any (· != 0)
  | [] => rfl
  | b :: bs => by
    rw [List.length_cons, List.range_succ_eq_map, List.any_cons, List.any_map, List.any_cons, ← any_rangeI bs]
    rfl
theorem cr_anyI {X : Cx} (hc : X.calm = true) : CallR X (.builtin "any") (rAnyI X.K) := by
  intro pins s σ H vs us Q I r h
  obtain ⟨a, ns, rfl, hs, q⟩ := h
  obtain ⟨its, rv, hl, _⟩ := I.list hs
  rw [Vals.ref1 r]
  have hlen := rv.length
  rw [List.length_map] at hlen
  refine call_any_walk (iter_any hl.isList fun s2 e2 st hne => ?_)
  subst e2
  refine ⟨_, _, _, _, _, _, _, rfl, Walks.list (A := X.A.in1) (I.ok.hd hc) _ a hne its.toArray, st, truth_intsV rv, fun h' tk hk => ⟨.bl _, H, I.kept fun b o eo => hk b o (fun hmem => ?_) (Heap.get?_push_of_some _ eo), ?_, q⟩⟩
  · have : b = s.heap.objs.size := by simpa using hmem
    exact absurd (this ▸ Heap.lt_size eo) (Nat.lt_irrefl _)
  · show Value.bool _ = Value.bool _
    rw [← any_rangeI, List.size_toArray, hlen]
/-! ### products: one side small -/
def CMulB (i j : Int) : Prop := (-(2 ^ 64) < i ∧ i < 2 ^ 64) ∨ (-(2 ^ 64) < j ∧ j < 2 ^ 64) ∨ Builtin.Int.intBits i + Builtin.Int.intBits j ≤ 134217728
theorem CMulB.ok {i j : Int} (h : CMulB i j) : IntMulOk i j := by
  rcases h with h | h | h
  · exact IntMulOk.of_left (PySem.intBits_le_64 h.1 h.2)
  · exact IntMulOk.of_right (PySem.intBits_le_64 h.1 h.2)
  · unfold IntMulOk
    intro z
    rw [Bool.and_eq_true] at z
    have z2 := z.2
    unfold Builtin.Int.intTooBig at z2
    have z3 := of_decide_eq_true z2
    have e : bitsLine = 134217728 := by decide
    rw [e] at z3
    omega
theorem op_mulB {X : Cx} : OpR X (binaryOp .Mult) (rI CMulB fun i j => .int (i * j)) := opI fun _ _ _ _ _ _ _ hc q => PyProof.Rows.mul_int q hc.ok
end EW
/-! Targets, walks, comprehensions, by data. -/
namespace EW
open PySem L2
/-! ### targets -/
theorem wipe_at (σ : St) (j : Nat) : ∀ vs : List Nat, (wipe σ vs)[j]? = if j ∈ vs then (if j < σ.length then some none else none) else σ[j]?
  | [] => by simp [wipe]
  | v :: vs => by
    unfold wipe
    have ih := wipe_at σ j vs
    by_cases e : v = j
    · subst e
      rw [if_pos List.mem_cons_self]
      by_cases h : v < σ.length
      · rw [if_pos h, List.getElem?_set_self (by rw [wipe_length]; exact h)]
      · rw [if_neg h]
        exact List.getElem?_eq_none (by rw [List.length_set, wipe_length]; omega)
    · rw [List.getElem?_set_ne e, ih]
      have : (j ∈ v :: vs) = (j ∈ vs) := by
        refine propext ⟨fun h => ?_, List.mem_cons_of_mem _⟩
        rcases List.mem_cons.mp h with h | h
        · exact absurd h.symm e
        · exact h
      simp only [this]
theorem wipe_eq {σ σ' : St} {vs : List Nat} (hl : σ'.length = σ.length) (h : ∀ j, j ∉ vs → σ'[j]? = σ[j]?) : wipe σ' vs = wipe σ vs := by
  refine List.ext_getElem? fun j => ?_
  rw [wipe_at, wipe_at, hl]
  split
  · rfl
  · exact h j (by assumption)
theorem wipe_wipe (σ : St) (vs : List Nat) : wipe (wipe σ vs) vs = wipe σ vs := wipe_eq (wipe_length σ vs) fun j hj => by rw [wipe_at, if_neg hj]
/-- what a target leaves: only the slots vs change -/
structure Only' (vs : List Nat) (σ σ' : St) : Prop where
  len : σ'.length = σ.length
  oth : ∀ j, j ∉ vs → σ'[j]? = σ[j]?
theorem Only'.refl (vs : List Nat) (σ : St) : Only' vs σ σ := ⟨rfl, fun _ _ => rfl⟩
theorem Only'.trans {vs : List Nat} {a b c : St} (h : Only' vs a b) (k : Only' vs b c) : Only' vs a c := ⟨k.len.trans h.len, fun j hj => (k.oth j hj).trans (h.oth j hj)⟩
theorem Only'.set {vs : List Nat} {σ : St} {i : Nat} {o : Option V} (h : i ∈ vs) : Only' vs σ (σ.set i o) := ⟨List.length_set .., fun j hj => List.getElem?_set_ne fun (e : i = j) => hj (e ▸ h)⟩
def DG (g : TG) (vs : List Nat) (Γ : Ctx) (Ω : List Ob) (d : PyData) (Γ' : Ctx) : Prop := ∀ O A v σ H, Wd O A Ω Γ σ H → Rp (off H (O ++ A)) v d → ∀ k : St → Hp → Prop, (∀ σ', Wd O A Ω Γ' σ' H → Only' vs σ σ' → k σ' H) → g v σ H k
def DGs (g : TGs) (vs : List Nat) (Γ : Ctx) (Ω : List Ob) (ds : List PyData) (Γ' : Ctx) : Prop := ∀ O A ws σ H, Wd O A Ω Γ σ H → RpL (off H (O ++ A)) ws ds → ∀ k : St → Hp → Prop, (∀ σ', Wd O A Ω Γ' σ' H → Only' vs σ σ' → k σ' H) → g ws σ H k
section
variable {K : PySem.W.Frag} {Γ Γ' Γ'' : Ctx} {Ω : List Ob} {vs : List Nat} {d : PyData} {ds : List PyData}
theorem dg_name {i : Nat} (h : i ∈ vs := by simp) : DG (gName i) vs Γ Ω d (Γ.set i (.dat d)) := fun O A v σ H s r k q => q _ (s.put i ⟨v, rfl, r⟩) (Only'.set h)
theorem dgs_nil : DGs gNil vs Γ Ω [] Γ := fun O A ws σ H s r k q => ⟨r.nil_of, q σ s (Only'.refl vs σ)⟩
theorem dgs_cons {t : TG} {u : TGs} (h : DG t vs Γ Ω d Γ') (hr : DGs u vs Γ' Ω ds Γ'') : DGs (gCons t u) vs Γ Ω (d :: ds) Γ'' := fun O A ws σ H s r k q => by
  obtain ⟨v, us, rfl, r0, r1⟩ := r.cons_of
  exact ⟨v, us, rfl, h O A v σ H s r0 _ fun σ1 s1 o1 => hr O A us σ1 H s1 r1 _ fun σ2 s2 o2 => q σ2 s2 (o1.trans o2)⟩
theorem dg_tup {n : Nat} {t : TGs} (h : DGs t vs Γ Ω ds Γ') (hn : ds.length = n := by rfl) : DG (gTup K n t) vs Γ Ω (.tuple ds) Γ' := fun O A v σ H s r k q => by
  obtain ⟨a, xs, rfl, hx, r1⟩ := r.tuple_of
  exact ⟨a, xs, rfl, SqT.of (off_of hx).2, by rw [r1.length, hn], h O A xs σ H s r1 k q⟩
end
/-! ### walks -/
/-- at every heap of G the items ds are drawn, one after the other -/
structure Draw (X : List Addr) (J : It) (G : Hp → Prop) (ds : List PyData) : Prop where
  go : ∀ i H, G H → i < ds.length → J.go i H
  stop : ∀ H, G H → J.stop ds.length H
  yld : ∀ i H v H', G H → (∀ a ∈ X, ∃ x, H a = some x) → J.yld i H v H' → ∀ d, ds[i]? = some d → Same H H' ∧ Rp (off H' X) v d
def DIp (wi : TI) (Γ : Ctx) (Ω : List Ob) (P : List PyData → Prop) : Prop := ∀ O A σ H, Wd O A Ω Γ σ H → ∀ R : It → Hp → Prop, (∀ J H' ds, Fr A H H' → Wd O A Ω Γ σ H' → P ds → (∀ X, (∀ a ∈ O ++ A, a ∈ X) → (∀ a ∈ X, a ∈ O ++ A ∨ H' a = none) → Draw X J (Fr X H') ds) → R J H') → wi σ H R
abbrev DI (wi : TI) (Γ : Ctx) (Ω : List Ob) (ds : List PyData) : Prop := DIp wi Γ Ω (· = ds)
section
variable {K : PySem.W.Frag} {Γ : Ctx} {Ω : List Ob} {te tl : TE} {ds es : List PyData}
theorem off_two {H : Hp} {Y X : List Addr} (h : ∀ a ∈ X, a ∈ Y ∨ H a = none) : Same (off H Y) (off H X) := fun a o e => by
  obtain ⟨h1, h2⟩ := off_of e
  refine off_in h2 fun z => ?_
  rcases h a z with z | z
  · exact h1 z
  · rw [z] at h2
    cases h2
theorem not_in {H : Hp} {Y X : List Addr} {a : Addr} {o : HO} (h : ∀ a ∈ X, a ∈ Y ∨ H a = none) (k : a ∉ Y ∧ H a = some o) : a ∉ X := fun z => by
  rcases h a z with q | q
  · exact k.1 q
  · rw [q] at k
    cases k.2
theorem wide {O A : List Addr} {D : Addr} {H H' : Hp} (f : Fr A H H') : Fr (D :: O ++ A) H H' := fun a o n e => f a o (fun z => n (List.mem_append_right _ z)) e
theorem dip_tup {P : List PyData → Prop} (h : DEp tl Γ Ω fun d => ∃ ds, d = .tuple ds ∧ P ds) : DIp (iTup K tl) Γ Ω P := fun O A σ H s R q => h O A σ H s _ fun v H1 d e s1 r ⟨ds, ed, p⟩ => by
  subst ed
  obtain ⟨a, xs, rfl, hx, r1⟩ := r.tuple_of
  have ha := off_of hx
  have dw : ∀ X, (∀ a ∈ O ++ A, a ∈ X) → (∀ a ∈ X, a ∈ O ++ A ∨ H1 a = none) → Draw X (Itt K a) (Fr X H1) (ds) := fun X hX hY => by
    have nA : a ∉ X := not_in hY ha
    refine ⟨fun i H2 g hi => ?_, fun H2 g => ⟨xs, SqT.of (g _ _ nA ha.2), by rw [r1.length]; exact Nat.le_refl _⟩, fun i H2 v H' g _ y d hd => ?_⟩
    · have hlt : i < xs.length := by rw [r1.length]; exact hi
      exact ⟨xs, xs[i], SqT.of (g _ _ nA ha.2), List.getElem?_eq_getElem hlt⟩
    · obtain ⟨rfl, hy⟩ := y
      obtain ⟨v', hv', rv⟩ := r1.get hd
      have := hy xs (SqT.of (g _ _ nA ha.2))
      rw [hv'] at this
      cases this
      exact ⟨fun _ _ h => h, (rv.ex (off_two hY)).ex (g.same fun a z => z)⟩
  exact ⟨a, rfl, ⟨xs, SqT.of ha.2⟩, q _ H1 ds e s1 p dw⟩
theorem di_tup (h : DE tl Γ Ω (.tuple ds)) : DI (iTup K tl) Γ Ω ds := dip_tup (dep_mono h fun d e => ⟨ds, e, rfl⟩)
theorem di_list (h : DE tl Γ Ω (.list ds)) : DI (iList K tl) Γ Ω ds := fun O A σ H s R q => h.run s fun v H1 e s1 r => by
  obtain ⟨a, xs, rfl, hx, r1⟩ := r.list_of
  have ha := off_of hx
  have dw : ∀ X, (∀ a ∈ O ++ A, a ∈ X) → (∀ a ∈ X, a ∈ O ++ A ∨ H1 a = none) → Draw X (Itl K a) (Fr X H1) (ds) := fun X hX hY => by
    have nA : a ∉ X := not_in hY ha
    refine ⟨fun i H2 g hi => ?_, fun H2 g => ⟨xs, SqL.of (g _ _ nA ha.2), by rw [r1.length]; exact Nat.le_refl _⟩, fun i H2 v H' g _ y d hd => ?_⟩
    · have hlt : i < xs.length := by rw [r1.length]; exact hi
      exact ⟨xs, xs[i], SqL.of (g _ _ nA ha.2), List.getElem?_eq_getElem hlt⟩
    · obtain ⟨rfl, hy⟩ := y
      obtain ⟨v', hv', rv⟩ := r1.get hd
      have := hy xs (SqL.of (g _ _ nA ha.2))
      rw [hv'] at this
      cases this
      exact ⟨fun _ _ h => h, (rv.ex (off_two hY)).ex (g.same fun a z => z)⟩
  exact ⟨a, rfl, ⟨xs, SqL.of ha.2⟩, q _ H1 ds e s1 rfl dw⟩
def upTo (n : Nat) : List PyData := (List.range n).map fun (i : Nat) => PyData.int (i : Int)
theorem upTo_len (n : Nat) : (upTo n).length = n := by unfold upTo; rw [List.length_map, List.length_range]
theorem upTo_at {n i : Nat} {d : PyData} (h : (upTo n)[i]? = some d) : i < n ∧ d = .int (i : Int) := by
  unfold upTo at h
  rw [List.getElem?_map] at h
  cases q : (List.range n)[i]? with
  | none => rw [q] at h; cases h
  | some j =>
    rw [q] at h
    obtain ⟨hlt, e⟩ := List.getElem?_eq_some_iff.mp q
    rw [List.getElem_range] at e
    rw [List.length_range] at hlt
    subst e
    exact ⟨hlt, (Option.some.inj h).symm⟩
theorem dip_range {P : Int → Prop} (h : DEp te Γ Ω fun d => ∃ i, d = .int i ∧ P i) (hn : ∀ i, P i → 0 ≤ i ∧ i ≤ 100000) : DIp (iRng1 (tCons te tNil)) Γ Ω fun ds => ∃ n : Nat, ds = upTo n ∧ P n := fun O A σ H s R q => h O A σ H s _ fun v H1 d e s1 r ⟨i, ed, p⟩ => by
  subst ed
  obtain ⟨n, rfl⟩ := Int.eq_ofNat_of_zero_le (hn i p).1
  have hb := (hn _ p).2
  have dw : ∀ X, (∀ a ∈ O ++ A, a ∈ X) → (∀ a ∈ X, a ∈ O ++ A ∨ H1 a = none) → Draw X (Itr 0 (n : Int).toNat) (Fr X H1) (upTo n) := fun X hX hY => by
    refine ⟨fun i H2 _ hi => ?_, fun H2 _ => ?_, fun i H2 v H' _ _ y d hd => ?_⟩
    · rw [upTo_len] at hi
      exact hi
    · show (n : Int).toNat ≤ (upTo n).length
      rw [upTo_len]
      omega
    · obtain ⟨rfl, rfl⟩ := y
      obtain ⟨_, rfl⟩ := upTo_at hd
      refine ⟨fun _ _ h => h, ?_⟩
      rw [show (0 : Int) + (i : Int) = (i : Int) by omega]
      exact rp_int _
  exact ⟨n, by rw [r.int_of], by omega, by omega, q _ H1 _ e s1 ⟨n, rfl, p⟩ dw⟩
theorem di_range {n : Nat} (h : DE te Γ Ω (.int n)) (hn : n ≤ 100000) : DI (iRng1 (tCons te tNil)) Γ Ω (upTo n) := fun O A σ H s R q =>
  dip_range (dep_int h) (fun i e => by omega) O A σ H s R fun J H' ds e s1 ⟨m, e1, e2⟩ dw => by
    have : m = n := by omega
    subst this
    exact q J H' ds e s1 e1 dw
def pairs (ds es : List PyData) : List PyData := (ds.zip es).map fun p => .tuple [p.1, p.2]
theorem pairs_len {ds es : List PyData} (h : ds.length = es.length) : (pairs ds es).length = ds.length := by unfold pairs; rw [List.length_map, List.length_zip, h, Nat.min_self]
theorem pairs_at {ds es : List PyData} {i : Nat} {d : PyData} (h : (pairs ds es)[i]? = some d) : ∃ x y, ds[i]? = some x ∧ es[i]? = some y ∧ d = .tuple [x, y] := by
  unfold pairs at h
  rw [List.getElem?_map] at h
  cases q : (ds.zip es)[i]? with
  | none => rw [q] at h; cases h
  | some p =>
    rw [q] at h
    obtain ⟨h1, h2⟩ := List.getElem?_zip_eq_some.mp q
    exact ⟨p.1, p.2, h1, h2, (Option.some.inj h).symm⟩
theorem di_zip {ta tb : TE} (h1 : DE ta Γ Ω (.tuple ds)) (h2 : DE tb Γ Ω (.tuple es)) (hl : ds.length = es.length) : DI (RZ.iZipA K (tCons ta (tCons tb tNil))) Γ Ω (pairs ds es) := fun O A σ H s R q =>
  two h1 h2 s (R := fun x y H' => RZ.iZipA K (fun σ H Q => Q [x, y] H) σ H' R) fun x y H1 e s1 r1 r2 => by
    obtain ⟨a, xs, rfl, hx, ra⟩ := r1.tuple_of
    obtain ⟨b, ys, rfl, hy, rb⟩ := r2.tuple_of
    have ha := off_of hx
    have hb := off_of hy
    have dw : ∀ X, (∀ a ∈ O ++ A, a ∈ X) → (∀ a ∈ X, a ∈ O ++ A ∨ H1 a = none) → Draw X (RZ.ItzT K a b) (Fr X H1) (pairs ds es) := fun X hX hY => by
      have nA : a ∉ X := not_in hY ha
      have nB : b ∉ X := not_in hY hb
      refine ⟨fun i H2 g hi => ?_, fun H2 g => ?_, fun i H2 v H' g tk yy d hd => ?_⟩
      · rw [pairs_len hl] at hi
        have hlt : i < xs.length := by rw [ra.length]; exact hi
        have hlt2 : i < ys.length := by rw [rb.length]; omega
        exact ⟨xs, ys, xs[i], ys[i], SqT.of (g _ _ nA ha.2), SqT.of (g _ _ nB hb.2), List.getElem?_eq_getElem hlt, List.getElem?_eq_getElem hlt2⟩
      · refine ⟨xs, ys, SqT.of (g _ _ nA ha.2), SqT.of (g _ _ nB hb.2), .inl ?_⟩
        rw [pairs_len hl, ra.length]
        exact Nat.le_refl _
      · obtain ⟨T, x, y, rfl, hT, rfl, f1, f2⟩ := yy
        obtain ⟨d1, d2, e1, e2, rfl⟩ := pairs_at hd
        obtain ⟨v1, hv1, rv1⟩ := ra.get e1
        obtain ⟨v2, hv2, rv2⟩ := rb.get e2
        have q1 := f1 xs (SqT.of (g _ _ nA ha.2))
        have q2 := f2 ys (SqT.of (g _ _ nB hb.2))
        rw [hv1] at q1
        rw [hv2] at q2
        cases q1
        cases q2
        have nT : T ∉ X := fun z => by
          obtain ⟨x, h⟩ := tk T z
          rw [h] at hT
          cases hT
        have see : Same (off H1 (O ++ A)) (off (upd H2 T (.tup [x, y])) X) := fun a o e => ((fr_of (A := X) (same_new hT)).same fun a z => z) a o ((g.same fun a z => z) a o (off_two hY a o e))
        exact ⟨same_new hT, rp_tuple (off_in upd_same nT) (rpl_cons (rv1.ex see) (rpl_cons (rv2.ex see) rpl_nil))⟩
    exact ⟨a, b, xs, ys, rfl, .inr ⟨SqT.of ha.2, SqT.of hb.2, q _ H1 _ e s1 rfl dw⟩⟩
def enumD (ds : List PyData) : List PyData := ds.mapIdx fun (i : Nat) d => PyData.tuple [.int (i : Int), d]
theorem enumD_len (ds : List PyData) : (enumD ds).length = ds.length := by unfold enumD; rw [List.length_mapIdx]
theorem enumD_at {ds : List PyData} {i : Nat} {d : PyData} (h : (enumD ds)[i]? = some d) : ∃ x, ds[i]? = some x ∧ d = .tuple [.int (i : Int), x] := by
  unfold enumD at h
  rw [List.getElem?_mapIdx] at h
  cases q : ds[i]? with
  | none => rw [q] at h; cases h
  | some x =>
    rw [q] at h
    exact ⟨x, rfl, (Option.some.inj h).symm⟩
theorem di_enum (h : DE te Γ Ω (.tuple ds)) : DI (iEnumT K te) Γ Ω (enumD ds) := fun O A σ H s R q => h.run s fun v H1 e s1 r => by
  obtain ⟨a, xs, rfl, hx, r1⟩ := r.tuple_of
  have ha := off_of hx
  have dw : ∀ X, (∀ a ∈ O ++ A, a ∈ X) → (∀ a ∈ X, a ∈ O ++ A ∨ H1 a = none) → Draw X (ItE K a) (Fr X H1) (enumD ds) := fun X hX hY => by
    have nA : a ∉ X := not_in hY ha
    refine ⟨fun i H2 g hi => ?_, fun H2 g => ⟨xs, SqT.of (g _ _ nA ha.2), by rw [enumD_len, r1.length]; exact Nat.le_refl _⟩, fun i H2 v H' g tk y d hd => ?_⟩
    · rw [enumD_len] at hi
      have hlt : i < xs.length := by rw [r1.length]; exact hi
      exact ⟨xs, xs[i], SqT.of (g _ _ nA ha.2), List.getElem?_eq_getElem hlt⟩
    · obtain ⟨T, x, rfl, hT, rfl, f1⟩ := y
      obtain ⟨x', e1, rfl⟩ := enumD_at hd
      obtain ⟨v1, hv1, rv1⟩ := r1.get e1
      have q1 := f1 xs (SqT.of (g _ _ nA ha.2))
      rw [hv1] at q1
      cases q1
      have nT : T ∉ X := fun z => by
        obtain ⟨x, h⟩ := tk T z
        rw [h] at hT
        cases hT
      have see : Same (off H1 (O ++ A)) (off (upd H2 T (.tup [.int (i : Nat), x])) X) := fun a o e => ((fr_of (A := X) (same_new hT)).same fun a z => z) a o ((g.same fun a z => z) a o (off_two hY a o e))
      exact ⟨same_new hT, rp_tuple (off_in upd_same nT) (rpl_cons (rp_int _) (rpl_cons (rv1.ex see) rpl_nil))⟩
  exact ⟨a, xs, rfl, SqT.of ha.2, q _ H1 _ e s1 rfl dw⟩
end
/-! ### comprehensions -/
theorem filterMap_take {α β : Type} (f : α → Option β) : ∀ (l : List α) (i : Nat) (a : α), l[i]? = some a → (l.take (i + 1)).filterMap f = (l.take i).filterMap f ++ (f a).toList
  | [], _, _, h => by simp at h
  | x :: l, 0, a, h => by
    cases h
    cases q : f x <;> simp [q]
  | x :: l, i + 1, a, h => by
    have ih := filterMap_take f l i a h
    show ((x :: l.take (i + 1))).filterMap f = (x :: l.take i).filterMap f ++ _
    rw [List.filterMap_cons, List.filterMap_cons, ih]
    cases f x <;> rfl
theorem filterMap_len {α β : Type} (f : α → Option β) (l : List α) (i : Nat) : ((l.take i).filterMap f).length ≤ l.length := by
  refine Nat.le_trans (List.length_filterMap_le ..) ?_
  rw [List.length_take]
  omega
section
variable {K : PySem.W.Frag} {Γ : Ctx} {Ω : List Ob} {ds : List PyData} {wi : TI} {g : TG} {tt : TT} {te : TE} {vs : List Nat}
/-- the rule: Jt ds i acc tells what lies in the new list behind i items -/
theorem dnp_lc {P : List PyData → Prop} (Jt : List PyData → Nat → List PyData → Prop) (h : DIp wi Γ Ω P)
    (hi : ∀ ds, P ds → ds.length ≤ 90000 ∧ Jt ds 0 [] ∧ ∀ (i : Nat) d acc, ds[i]? = some d → Jt ds i acc → ∃ Γ' b R, DG g vs (wipeC Γ vs) Ω d Γ' ∧ DT tt Γ' Ω b ∧ (b = true → DEp te Γ' Ω R ∧ ∀ e, R e → Jt ds (i + 1) (acc ++ [e])) ∧ (b = false → Jt ds (i + 1) acc)) :
    DNp (tLc wi g tt te vs) Γ Ω fun es => ∃ ds, P ds ∧ Jt ds ds.length es := fun O A σ H s Q q => h O A σ H s _ fun J H1 ds e1 s1 p dr2 D hD => by
  obtain ⟨hl, j0, hi⟩ := hi ds p
  have dr := (dr2 (D :: O ++ A) (fun a z => List.mem_cons_of_mem _ z) fun a z => by
    rcases List.mem_cons.mp z with z | z
    · exact .inr (z ▸ hD)
    · exact .inl z)
  have nO : D ∉ O := fun z => s1.new hD (List.mem_append_left _ z)
  have nA : D ∉ A := fun z => s1.new hD (List.mem_append_right _ z)
  refine ⟨fun i m H => m = ds.length - i ∧ i ≤ ds.length ∧ Fr A H1 H ∧ Wd (D :: O) A Ω Γ σ H ∧ ∃ acc xs, H D = some (.lst xs) ∧ RpL (off H (D :: O ++ A)) xs acc ∧ acc.length ≤ i ∧ Jt ds i acc, ⟨ds.length, rfl, Nat.zero_le _, fr_of (same_new hD), s1.shade hD, [], [], upd_same, rpl_nil, Nat.le_refl _, j0⟩, ?_⟩
  rintro i m H2 ⟨rfl, hile, e2, s2, acc, xs, hxs, rx, la, jt⟩
  by_cases hlt : i < ds.length
  · obtain ⟨d, hd⟩ : ∃ d, ds[i]? = some d := ⟨ds[i], List.getElem?_eq_getElem hlt⟩
    refine .inr ⟨dr.go i H2 (wide e2) hlt, fun H => Fr A H1 H ∧ Wd (D :: O) A Ω Γ σ H ∧ ∃ acc xs, H D = some (.lst xs) ∧ RpL (off H (D :: O ++ A)) xs acc ∧ acc.length ≤ i + 1 ∧ Jt ds (i + 1) acc, fun H' p' => ⟨ds.length - (i + 1), by omega, rfl, hlt, p'⟩, fun x H' y => ?_⟩
    obtain ⟨e3, rd⟩ := dr.yld i H2 x H' (wide e2) (tk_all s2) y d hd
    obtain ⟨Γ', b, R, hg, ht, hb1, hb2⟩ := hi i d acc hd jt
    have s3 := s2.same e3
    refine hg (D :: O) A x (wipe σ vs) H' (s3.wipe vs) rd _ fun σ2 s4 o2 => ⟨?_, ?_⟩
    · rw [wipe_eq o2.len o2.oth, wipe_wipe]
    · refine ht (D :: O) A σ2 H' s4 _ fun H3 e4 s5 => ?_
      have hx3 : H3 D = some (.lst xs) := e4 _ _ nA (e3 _ _ hxs)
      have back : ∀ {H4}, Wd (D :: O) A Ω Γ' σ2 H4 → Fr A H3 H4 → Wd (D :: O) A Ω Γ σ H4 := fun {H4} w f => w.slots (s3.sl.to (vw (O := D :: O) (e4.trans f)) fun _ _ h => h)
      cases b with
      | false =>
        show Fr A H1 H3 ∧ _
        exact ⟨(e2.trans (fr_of e3)).trans e4, back s5 (Fr.refl _ _), acc, xs, hx3, rx.ex (vw (O := D :: O) ((fr_of e3).trans e4)), Nat.le_succ_of_le la, hb2 rfl⟩
      | true =>
        obtain ⟨he, hR⟩ := hb1 rfl
        show te σ2 H3 fun y H4 => ∃ acc, H4 D = some (.lst acc) ∧ acc.length < sizeLine ∧ _
        refine he (D :: O) A σ2 H3 s5 _ fun y H4 z e5 s6 ry pz => ⟨xs, e5 _ _ nA hx3, ?_, ?_, ?_, acc ++ [z], xs ++ [y], upd_same, ?_, ?_, hR z pz⟩
        · rw [rx.length]
          exact sl100 (by omega)
        · exact fun a o n z => by
            rw [upd_ne fun (w : a = D) => ?_]
            · exact e5 a o n (e4 a o n (e3 a o (e2 a o n z)))
            · subst w
              rw [hD] at z
              cases z
        · exact (back s6 e5).shadeUpd
        · rw [off_upd (show D ∈ D :: O ++ A from List.mem_cons_self)]
          exact RpL.append (rx.ex (vw (O := D :: O) ((fr_of e3).trans (e4.trans e5)))) (rpl_cons ry rpl_nil)
        · rw [List.length_append, List.length_singleton]
          omega
  · have ei : i = ds.length := by omega
    subst ei
    exact .inl ⟨dr.stop H2 (wide e2), q D xs H2 acc (e1.trans e2) (free_of s1 e1 hD) nO hxs s2 rx ⟨ds, p, jt⟩⟩
theorem dn_lc (f : PyData → Option PyData) (h : DI wi Γ Ω ds) (hl : ds.length ≤ 90000) (hi : ∀ (i : Nat) d, ds[i]? = some d → ∃ Γ', DG g vs (wipeC Γ vs) Ω d Γ' ∧ DT tt Γ' Ω (f d).isSome ∧ ∀ e, f d = some e → DE te Γ' Ω e) :
    DN (tLc wi g tt te vs) Γ Ω (ds.filterMap f) := fun O A σ H s Q q => by
  refine dnp_lc (fun ds i acc => acc = (ds.take i).filterMap f) h (fun ds' e => ?_) O A σ H s Q fun l xs H' es f1 f2 f3 f4 f5 f6 p => q l xs H' es f1 f2 f3 f4 f5 f6 ?_
  · subst e
    refine ⟨hl, by simp, fun i d acc hd ea => ?_⟩
    obtain ⟨Γ', h1, h2, h3⟩ := hi i d hd
    cases hf : f d with
    | none =>
      rw [hf] at h2
      refine ⟨Γ', false, fun _ => False, h1, h2, fun z => (by cases z), fun _ => ?_⟩
      rw [filterMap_take f _ i d hd, hf, ea]
      simp
    | some e =>
      rw [hf] at h2
      refine ⟨Γ', true, (· = e), h1, h2, fun _ => ⟨h3 e hf, fun e' ee => ?_⟩, fun z => (by cases z)⟩
      subst ee
      rw [filterMap_take f _ i d hd, hf, ea]
      rfl
  · obtain ⟨_, rfl, rfl⟩ := p
    rw [List.take_length]
theorem yes_dt : DT tYes Γ Ω true := fun O A σ H s Q q => q H (Fr.refl A H) s
theorem filterMap_some {α β : Type} (f : α → β) : ∀ l : List α, l.filterMap (fun d => some (f d)) = l.map f
  | [] => rfl
  | x :: l => by rw [List.filterMap_cons, List.map_cons, filterMap_some f l]
/-- without a test -/
theorem dn_lcA (f : PyData → PyData) (h : DI wi Γ Ω ds) (hl : ds.length ≤ 90000) (hi : ∀ (i : Nat) d, ds[i]? = some d → ∃ Γ', DG g vs (wipeC Γ vs) Ω d Γ' ∧ DE te Γ' Ω (f d)) : DN (tLc wi g tYes te vs) Γ Ω (ds.map f) := by
  have h2 := dn_lc (tt := tYes) (te := te) (g := g) (vs := vs) (fun d => some (f d)) h hl fun i d hd => by
    obtain ⟨Γ', h1, h2⟩ := hi i d hd
    exact ⟨Γ', h1, yes_dt, fun e he => by cases he; exact h2⟩
  rw [filterMap_some] at h2
  exact h2
/-- results of a kind -/
theorem dnp_lcA {P : List PyData → Prop} {R : PyData → Prop} (h : DIp wi Γ Ω P) (hi : ∀ ds, P ds → ds.length ≤ 90000 ∧ ∀ (i : Nat) d, ds[i]? = some d → ∃ Γ', DG g vs (wipeC Γ vs) Ω d Γ' ∧ DEp te Γ' Ω R) :
    DNp (tLc wi g tYes te vs) Γ Ω fun es => ∃ ds, P ds ∧ es.length = ds.length ∧ ∀ e ∈ es, R e := fun O A σ H s Q q => by
  refine dnp_lc (fun ds i acc => acc.length = i ∧ ∀ e ∈ acc, R e) h (fun ds p => ⟨(hi ds p).1, ⟨rfl, fun e z => nomatch z⟩, fun i d acc hd ⟨ea, eb⟩ => ?_⟩) O A σ H s Q q
  obtain ⟨Γ', h1, h2⟩ := (hi ds p).2 i d hd
  refine ⟨Γ', true, R, h1, yes_dt, fun _ => ⟨h2, fun e re => ⟨by rw [List.length_append, List.length_singleton, ea], fun x hx => ?_⟩⟩, fun z => (by cases z)⟩
  rcases List.mem_append.mp hx with hx | hx
  · exact eb x hx
  · rw [List.mem_singleton.mp hx]
    exact re
/-- two clauses: the second one's items hang on the first one's -/
theorem dn_lc2 {wi1 : TI} {g1 : TG} {vs1 : List Nat} (f : PyData → List PyData) (f1 : PyData → PyData → PyData) (h : DI wi Γ Ω ds) (hl : ∀ d ∈ ds, (f d).length ≤ 100) (hl2 : ds.length ≤ 900)
    (hi : ∀ (i : Nat) d, ds[i]? = some d → ∃ Γ', DG g vs (wipeC Γ vs) Ω d Γ' ∧ DI wi1 Γ' Ω (f d) ∧ ∀ (j : Nat) e, (f d)[j]? = some e → ∃ Γ'', DG g1 vs1 (wipeC Γ' vs1) Ω e Γ'' ∧ DE te Γ'' Ω (f1 d e)) :
    DN (tLc2 wi g tYes wi1 g1 tYes te vs vs1) Γ Ω (ds.flatMap fun d => (f d).map (f1 d)) := fun O A σ H s Q q => h O A σ H s _ fun J H1 ds' e1 s1 ep dr2 D hD => by
  subst ep
  have dr := (dr2 (D :: O ++ A) (fun a z => List.mem_cons_of_mem _ z) fun a z => by
    rcases List.mem_cons.mp z with z | z
    · exact .inr (z ▸ hD)
    · exact .inl z)
  have nO : D ∉ O := fun z => s1.new hD (List.mem_append_left _ z)
  have nA : D ∉ A := fun z => s1.new hD (List.mem_append_right _ z)
  have lenAll : ∀ (l : List PyData), (∀ d ∈ l, (f d).length ≤ 100) → (l.flatMap fun d => (f d).map (f1 d)).length ≤ 100 * l.length := by
    intro l
    induction l with
    | nil => intro _; simp
    | cons x l ih =>
      intro hx
      rw [List.flatMap_cons, List.length_append, List.length_map, List.length_cons]
      have := ih fun d hd => hx d (List.mem_cons_of_mem _ hd)
      have := hx x List.mem_cons_self
      omega
  refine ⟨fun i m H => m = ds'.length - i ∧ i ≤ ds'.length ∧ Fr A H1 H ∧ Wd (D :: O) A Ω Γ σ H ∧ ∃ xs, H D = some (.lst xs) ∧ RpL (off H (D :: O ++ A)) xs ((ds'.take i).flatMap fun d => (f d).map (f1 d)), ⟨ds'.length, rfl, Nat.zero_le _, fr_of (same_new hD), s1.shade hD, [], upd_same, by simp; exact rpl_nil⟩, ?_⟩
  rintro i m H2 ⟨rfl, hile, e2, s2, xs, hxs, rx⟩
  by_cases hlt : i < ds'.length
  · obtain ⟨d, hd⟩ : ∃ d, ds'[i]? = some d := ⟨ds'[i], List.getElem?_eq_getElem hlt⟩
    have hdm := List.mem_of_getElem? hd
    have htk : (ds'.take (i + 1)).flatMap (fun d => (f d).map (f1 d)) = (ds'.take i).flatMap (fun d => (f d).map (f1 d)) ++ (f d).map (f1 d) := by
      rw [List.take_add_one, hd, List.flatMap_append]
      simp
    have lt1 : ((ds'.take i).flatMap fun d => (f d).map (f1 d)).length ≤ 90000 := Nat.le_trans (lenAll _ fun d hd => hl d (List.mem_of_mem_take hd)) (by rw [List.length_take]; omega)
    refine .inr ⟨dr.go i H2 (wide e2) hlt, fun H => Fr A H1 H ∧ Wd (D :: O) A Ω Γ σ H ∧ ∃ xs, H D = some (.lst xs) ∧ RpL (off H (D :: O ++ A)) xs ((ds'.take (i + 1)).flatMap fun d => (f d).map (f1 d)), fun H' p' => ⟨ds'.length - (i + 1), by omega, rfl, hlt, p'⟩, fun x H' y => ?_⟩
    obtain ⟨e3, rd⟩ := dr.yld i H2 x H' (wide e2) (tk_all s2) y d hd
    obtain ⟨Γ', hg, hw1, hj⟩ := hi i d hd
    have s3 := s2.same e3
    refine hg (D :: O) A x (wipe σ vs) H' (s3.wipe vs) rd _ fun σ2 s4 o2 => ⟨?_, ?_⟩
    · rw [wipe_eq o2.len o2.oth, wipe_wipe]
    · refine yes_dt (D :: O) A σ2 H' s4 _ fun H3 e4 s5 => ?_
      show wi1 σ2 H3 fun J1 H4 => _
      refine hw1 (D :: O) A σ2 H3 s5 _ fun J1 H4 fd' e5 s6 efd dr1' => ?_
      subst efd
      have dr1 := dr1' (D :: O ++ A) (fun a z => z) fun a z => .inl z
      have h3 : Fr A H' H4 := e4.trans e5
      have xs4 : H4 D = some (.lst xs) := h3 _ _ nA (e3 _ _ hxs)
      -- the heap apart from D stands as it was at H4
      refine ⟨fun j k H => k = (f d).length - j ∧ j ≤ (f d).length ∧ Fr (D :: O ++ A) H4 H ∧ Fr A H1 H ∧ Wd (D :: O) A Ω Γ' σ2 H ∧ ∃ ys, H D = some (.lst ys) ∧ RpL (off H (D :: O ++ A)) ys ((ds'.take i).flatMap (fun d => (f d).map (f1 d)) ++ ((f d).take j).map (f1 d)),
        ⟨(f d).length, rfl, Nat.zero_le _, Fr.refl _ _, (e2.trans (fr_of e3)).trans h3, s6, xs, xs4, by simp; exact rx.ex (vw (O := D :: O) ((fr_of e3).trans h3))⟩, ?_⟩
      rintro j k H5 ⟨rfl, hjle, e6, e7, s7, ys, hys, ry⟩
      have lt2 : ((ds'.take i).flatMap (fun d => (f d).map (f1 d)) ++ ((f d).take j).map (f1 d)).length < 100000 := by
        rw [List.length_append, List.length_map, List.length_take]
        have := hl d hdm
        omega
      by_cases hjlt : j < (f d).length
      · obtain ⟨e, he⟩ : ∃ e, (f d)[j]? = some e := ⟨(f d)[j], List.getElem?_eq_getElem hjlt⟩
        refine .inr ⟨dr1.go j H5 e6 hjlt, fun H => Fr (D :: O ++ A) H4 H ∧ Fr A H1 H ∧ Wd (D :: O) A Ω Γ' σ2 H ∧ ∃ ys, H D = some (.lst ys) ∧ RpL (off H (D :: O ++ A)) ys ((ds'.take i).flatMap (fun d => (f d).map (f1 d)) ++ ((f d).take (j + 1)).map (f1 d)), fun H' p' => ⟨(f d).length - (j + 1), by omega, rfl, hjlt, p'⟩, fun x1 H6 y1 => ?_⟩
        obtain ⟨e8, rd1⟩ := dr1.yld j H5 x1 H6 e6 (tk_all s7) y1 e he
        obtain ⟨Γ'', hg1, hte⟩ := hj j e he
        have s8 := s7.same e8
        refine hg1 (D :: O) A x1 (wipe σ2 vs1) H6 (s8.wipe vs1) rd1 _ fun σ3 s9 o3 => ⟨?_, ?_⟩
        · rw [wipe_eq o3.len o3.oth, wipe_wipe]
        · refine yes_dt (D :: O) A σ3 H6 s9 _ fun H7 e9 s10 => ?_
          show te σ3 H7 fun y H8 => _
          refine hte.run s10 fun y H8 e10 s11 ry1 => ⟨ys, ?_, ?_, ?_, ?_, ?_, ys ++ [y], upd_same, ?_⟩
          · exact e10 _ _ nA (e9 _ _ nA (e8 _ _ hys))
          · rw [ry.length]
            exact sl100 lt2
          · exact fun a o n z => by
              rw [upd_ne fun (w : a = D) => n (w ▸ List.mem_cons_self)]
              have nA' : a ∉ A := fun w => n (List.mem_append_right _ w)
              exact e10 a o nA' (e9 a o nA' (e8 a o (e6 a o n z)))
          · exact fun a o n z => by
              rw [upd_ne fun (w : a = D) => ?_]
              · exact e10 a o n (e9 a o n (e8 a o (e7 a o n z)))
              · subst w
                rw [hD] at z
                cases z
          · exact (s11.slots (s8.sl.to (vw (O := D :: O) (e9.trans e10)) fun _ _ h => h)).shadeUpd
          · rw [off_upd (show D ∈ D :: O ++ A from List.mem_cons_self), List.take_add_one, he, List.map_append, ← List.append_assoc]
            exact RpL.append (ry.ex (vw (O := D :: O) ((fr_of e8).trans (e9.trans e10)))) (rpl_cons ry1 rpl_nil)
      · have ej : j = (f d).length := by omega
        subst ej
        refine .inl ⟨dr1.stop H5 e6, e7, ?_, ys, hys, ?_⟩
        · exact s7.slots (s2.sl.to (fun a o z => (e6.same fun a z => z) a o ((vw (O := D :: O) ((fr_of e3).trans h3)) a o z)) fun _ _ h => h)
        · rw [htk]
          rw [List.take_length] at ry
          exact ry
  · have ei : i = ds'.length := by omega
    subst ei
    rw [List.take_length] at rx
    exact .inl ⟨dr.stop H2 (wide e2), q D xs H2 _ (e1.trans e2) (free_of s1 e1 hD) nO hxs s2 rx rfl⟩
end
end EW
/-! Statements, by data. -/
namespace EW
open PySem L2
/-- within a body that began at H0, A0 owned: A0 and what was made since are owned -/
def At (H0 : Hp) (O A0 : List Addr) (Ω : List Ob) (Γ : Ctx) (σ : St) (H : Hp) : Prop := ∃ B, Wd O (A0 ++ B) Ω Γ σ H ∧ (∀ b ∈ B, H0 b = none) ∧ Fr A0 H0 H
section
variable {H0 : Hp} {O A0 A : List Addr} {Ω Ω' : List Ob} {Γ Γ' : Ctx} {σ σ' : St} {H H' : Hp}
theorem At.fr {B : List Addr} (hB : ∀ b ∈ B, H0 b = none) (f : Fr A0 H0 H) (g : Fr (A0 ++ B) H H') : Fr A0 H0 H' := fun a o n e => g a o (fun z => by
  rcases List.mem_append.mp z with z | z
  · exact n z
  · rw [hB a z] at e
    cases e) (f a o n e)
/-- a step within -/
theorem At.step {B : List Addr} (hB : ∀ b ∈ B, H0 b = none) (f : Fr A0 H0 H) (g : Fr (A0 ++ B) H H') (w : Wd O (A0 ++ B) Ω Γ σ H') : At H0 O A0 Ω Γ σ H' := ⟨B, w, hB, At.fr hB f g⟩
theorem At.put (s : At H0 O A0 Ω Γ σ H) (i : Nat) {o : Option V} {t : Sl} (r : ∀ A, Wd O A Ω Γ σ H → SlR (off H (O ++ A)) A o t) : At H0 O A0 Ω (Γ.set i t) (σ.set i o) H := by
  obtain ⟨B, w, h1, h2⟩ := s
  exact ⟨B, w.put i (r _ w), h1, h2⟩
/-- a new list is taken -/
theorem Wd.adopt {l : Addr} {xs : List V} {ds : List PyData} (w : Wd (l :: O) A Ω Γ σ H) (n : l ∉ O) (h : H l = some (.lst xs)) (r : RpL (off H (l :: O ++ A)) xs ds) : Wd O (A ++ [l]) (Ω ++ [.lst ds]) Γ σ H := by
  have nA : l ∉ A := fun z => w.dj l z List.mem_cons_self
  have v : Same (off H (l :: O ++ A)) (off H (O ++ (A ++ [l]))) := off_less fun a z => by
    rw [← List.append_assoc] at z
    rcases List.mem_append.mp z with z | z
    · exact List.mem_cons_of_mem _ z
    · rw [List.mem_singleton.mp z]
      exact List.mem_cons_self
  have hA : ∀ (k : Nat) b, A[k]? = some b → (A ++ [l])[k]? = some b := fun k b q => by
    rw [List.getElem?_append_left (List.getElem?_eq_some_iff.mp q).1]
    exact q
  refine ⟨fun b z => w.tk b (List.mem_cons_of_mem _ z), ?_, fun a ha z => ?_, by rw [List.length_append, List.length_append, w.len]; rfl, fun k a x h1 h2 => ?_, w.sl.to v hA⟩
  · rw [List.nodup_append]
    refine ⟨w.nd, by simp, fun a ha b hb q => ?_⟩
    subst q
    rw [List.mem_singleton.mp hb] at ha
    exact nA ha
  · rcases List.mem_append.mp ha with q | q
    · exact w.dj a q (List.mem_cons_of_mem _ z)
    · rw [List.mem_singleton.mp q] at z
      exact n z
  · by_cases hk : k < A.length
    · rw [List.getElem?_append_left hk] at h1
      rw [List.getElem?_append_left (by rw [← w.len]; exact hk)] at h2
      exact (w.ob k a x h1 h2).to v rfl hA
    · rw [List.getElem?_append_right (by omega)] at h1
      rw [List.getElem?_append_right (by rw [← w.len]; omega)] at h2
      rw [← w.len] at h2
      cases q : k - A.length with
      | zero =>
        rw [q] at h1 h2
        cases h1
        cases h2
        exact ⟨xs, h, r.ex v⟩
      | succ j =>
        rw [q] at h1
        simp at h1
theorem At.out {H1 : Hp} {B : List Addr} (hB : ∀ b ∈ B, H0 b = none) (f : Fr A0 H0 H1) (w1 : ∀ a ∈ A0, ∃ x, H1 a = some x) (s : At H1 O (A0 ++ B) Ω Γ σ H) : At H0 O A0 Ω Γ σ H := by
  obtain ⟨C, w, hC, g⟩ := s
  refine ⟨B ++ C, by rw [← List.append_assoc]; exact w, fun b z => ?_, At.fr hB f g⟩
  rcases List.mem_append.mp z with z | z
  · exact hB b z
  · have c := hC b z
    cases q : H0 b with
    | none => rfl
    | some x =>
      by_cases hA : b ∈ A0
      · obtain ⟨y, h⟩ := w1 b hA
        rw [h] at c
        cases c
      · rw [f b x hA q] at c
        cases c
end
/-! ### the last owned object is let go -/
def relC (Γ : Ctx) (k : Nat) (t : Sl) : Ctx := Γ.map fun s => match s with
  | .own j => if j = k then t else .own j
  | s => s
def Ob.plain : Ob → Bool
  | .refs _ => false
  | _ => true
section
variable {H0 : Hp} {O A0 A : List Addr} {Ω : List Ob} {Γ : Ctx} {σ : St} {H : Hp} {o : Ob}
theorem Wd.release {l : Addr} (w : Wd O (A ++ [l]) (Ω ++ [o]) Γ σ H) (hp : Ω.all Ob.plain = true) {t : Sl} (ht : SlR (off H (O ++ A)) A (some (.ref l)) t) : Wd O A Ω (relC Γ Ω.length t) σ H := by
  have hl : A.length = Ω.length := by
    have := w.len
    rw [List.length_append, List.length_append] at this
    simpa using this
  have v : Same (off H (O ++ (A ++ [l]))) (off H (O ++ A)) := off_less fun a z => by
    rcases List.mem_append.mp z with z | z
    · exact List.mem_append_left _ z
    · exact List.mem_append_right _ (List.mem_append_left _ z)
  refine ⟨w.tk, (List.nodup_append.mp w.nd).1, fun a z => w.dj a (List.mem_append_left _ z), hl, fun k a x h1 h2 => ?_, ⟨?_, fun i s hs => ?_⟩⟩
  · have k1 := (List.getElem?_eq_some_iff.mp h1).1
    have r := w.ob k a x (by rw [List.getElem?_append_left k1]; exact h1) (by rw [List.getElem?_append_left (by omega)]; exact h2)
    cases x with
    | lst ds =>
      obtain ⟨xs, q, r⟩ := r
      exact ⟨xs, q, r.ex v⟩
    | raw o => exact r
    | mill => exact r
    | refs ks =>
      have := List.all_eq_true.mp hp _ (List.mem_of_getElem? h2)
      cases this
  · rw [w.sl.len]
    exact (List.length_map _).symm
  · unfold relC at hs
    rw [List.getElem?_map] at hs
    cases q : Γ[i]? with
    | none => rw [q] at hs; cases hs
    | some s0 =>
      rw [q] at hs
      obtain ⟨u, hu, r⟩ := w.sl.el i s0 q
      refine ⟨u, hu, ?_⟩
      cases hs
      cases s0 with
      | no => trivial
      | dat d =>
        obtain ⟨x, h, r⟩ := r
        exact ⟨x, h, r.ex v⟩
      | prd p m =>
        obtain ⟨x, h, r⟩ := r
        exact ⟨x, h, m _ _ x v r⟩
      | own j =>
        obtain ⟨a, ha, rfl⟩ := r
        show SlR _ _ _ (if j = Ω.length then t else .own j)
        by_cases e : j = Ω.length
        · rw [if_pos e]
          rw [e, ← hl, List.getElem?_append_right (Nat.le_refl _), Nat.sub_self] at ha
          cases ha
          exact ht
        · rw [if_neg e]
          have hj : j < A.length := by
            have := (List.getElem?_eq_some_iff.mp ha).1
            rw [List.length_append, List.length_singleton] at this
            omega
          rw [List.getElem?_append_left hj] at ha
          exact ⟨a, ha, rfl⟩
theorem At.last (s : At H0 O A0 (Ω ++ [o]) Γ σ H) (hA : A0.length ≤ Ω.length) : ∃ B l, Wd O ((A0 ++ B) ++ [l]) (Ω ++ [o]) Γ σ H ∧ (∀ b ∈ B, H0 b = none) ∧ H0 l = none ∧ Fr A0 H0 H := by
  obtain ⟨B, w, h1, h2⟩ := s
  have hl := w.len
  rw [List.length_append, List.length_append, List.length_singleton] at hl
  rcases List.eq_nil_or_concat B with e | ⟨B', l, e⟩
  · subst e
    simp at hl
    omega
  · rw [List.concat_eq_append] at e
    subst e
    exact ⟨B', l, by rw [List.append_assoc]; exact w, fun b z => h1 b (List.mem_append_left _ z), h1 l (List.mem_append_right _ List.mem_cons_self), h2⟩
/-- it is read as data from here on -/
theorem At.release {ds : List PyData} (s : At H0 O A0 (Ω ++ [.lst ds]) Γ σ H) (hA : A0.length ≤ Ω.length) (hp : Ω.all Ob.plain = true := by rfl) : At H0 O A0 Ω (relC Γ Ω.length (.dat (.list ds))) σ H := by
  obtain ⟨B, l, w, h1, h3, h2⟩ := s.last hA
  have hl : (A0 ++ B).length = Ω.length := by
    have := w.len
    rw [List.length_append, List.length_append (as := Ω)] at this
    simpa using this
  obtain ⟨xs, hx, r⟩ := w.ob Ω.length l (.lst ds) (by rw [← hl, List.getElem?_append_right (Nat.le_refl _), Nat.sub_self]; rfl) (by rw [List.getElem?_append_right (Nat.le_refl _), Nat.sub_self]; rfl)
  have nl : l ∉ O ++ (A0 ++ B) := fun z => by
    rcases List.mem_append.mp z with z | z
    · exact w.dj l (List.mem_append_right _ List.mem_cons_self) z
    · exact (List.nodup_append.mp w.nd).2.2 l z l List.mem_cons_self rfl
  exact ⟨B, w.release hp ⟨.ref l, rfl, rp_list (off_in hx nl) (r.ex (off_less fun a z => by
    rw [← List.append_assoc]
    exact List.mem_append_left _ z))⟩, h1, h2⟩
/-- it is forgotten -/
theorem At.drop (s : At H0 O A0 (Ω ++ [o]) Γ σ H) (hA : A0.length ≤ Ω.length) (hp : Ω.all Ob.plain = true := by rfl) : At H0 O A0 Ω (relC Γ Ω.length .no) σ H := by
  obtain ⟨B, l, w, h1, h3, h2⟩ := s.last hA
  exact ⟨B, w.release hp trivial, h1, h2⟩
theorem At.slots {Γ' : Ctx} (s : At H0 O A0 Ω Γ σ H) (h : ∀ (U : Hp) A, SR U A σ Γ → SR U A σ Γ') : At H0 O A0 Ω Γ' σ H := by
  obtain ⟨B, w, h1, h2⟩ := s
  exact ⟨B, w.slots (h _ _ w.sl), h1, h2⟩
end
/-! ### statements -/
section
variable {K : PySem.W.Frag} {H0 : Hp} {O A0 : List Addr} {Ω : List Ob} {Γ Γ' : Ctx} {σ : St} {H : Hp} {nx : L2.St → Hp → Prop} {rt : VK} {bk ct : L2.St → Hp → Prop} {te to ti tf : TE} {ta : TA} {tt : TT} {t u : TS} {g : TG} {vs : List Nat} {d : PyData} {ds : List PyData} {P : PyData → Prop} {k i j : Nat}
theorem st_seq (h : t ⟨u ⟨nx, rt, bk, ct⟩, rt, bk, ct⟩ σ H) : tSeq t u ⟨nx, rt, bk, ct⟩ σ H := h
theorem st_next (h : nx σ H) : tNext ⟨nx, rt, bk, ct⟩ σ H := h
theorem st_setp (h : DEp te Γ Ω P) (s : At H0 O A0 Ω Γ σ H) (q : ∀ σ' H' d, P d → At H0 O A0 Ω (Γ.set i (.dat d)) σ' H' → nx σ' H') : tAsg te (gName i) ⟨nx, rt, bk, ct⟩ σ H := by
  obtain ⟨B, w, h1, h2⟩ := s
  exact h O _ σ H w _ fun v H' d f w' r p => q _ _ d p (At.step h1 h2 f (w'.put i ⟨v, rfl, r⟩))
theorem st_set (h : DE te Γ Ω d) (s : At H0 O A0 Ω Γ σ H) (q : ∀ σ' H', At H0 O A0 Ω (Γ.set i (.dat d)) σ' H' → nx σ' H') : tAsg te (gName i) ⟨nx, rt, bk, ct⟩ σ H :=
  st_setp h s fun σ' H' d' e a => q σ' H' (e ▸ a)
theorem st_setNp {P : List PyData → Prop} (h : DNp te Γ Ω P) (s : At H0 O A0 Ω Γ σ H) (q : ∀ σ' H' ds, P ds → At H0 O A0 (Ω ++ [.lst ds]) (Γ.set i (.own Ω.length)) σ' H' → nx σ' H') : tAsg te (gName i) ⟨nx, rt, bk, ct⟩ σ H := by
  obtain ⟨B, w, h1, h2⟩ := s
  refine h O _ σ H w _ fun l xs H' ds f hl n hx w' r p => q _ _ ds p ?_
  have a := w'.adopt n hx r
  have len := w.len
  refine ⟨B ++ [l], ?_, fun b z => ?_, At.fr h1 h2 f⟩
  · rw [← List.append_assoc]
    refine a.put i ⟨l, ?_, rfl⟩
    rw [← len, List.getElem?_append_right (Nat.le_refl _), Nat.sub_self]
    rfl
  · rcases List.mem_append.mp z with z | z
    · exact h1 b z
    · rw [List.mem_singleton.mp z]
      cases q : H0 l with
      | none => rfl
      | some x =>
        by_cases hA : l ∈ A0
        · obtain ⟨y, hy⟩ := w.has (List.mem_append_left B hA)
          rw [hl] at hy
          cases hy
        · rw [h2 l x hA q] at hl
          cases hl
theorem st_setN (h : DN te Γ Ω ds) (s : At H0 O A0 Ω Γ σ H) (q : ∀ σ' H', At H0 O A0 (Ω ++ [.lst ds]) (Γ.set i (.own Ω.length)) σ' H' → nx σ' H') : tAsg te (gName i) ⟨nx, rt, bk, ct⟩ σ H :=
  st_setNp h s fun σ' H' d' e a => q σ' H' (e ▸ a)
theorem st_setO (h : DOwn te Γ Ω k) (s : At H0 O A0 Ω Γ σ H) (q : ∀ σ' H', At H0 O A0 Ω (Γ.set i (.own k)) σ' H' → nx σ' H') : tAsg te (gName i) ⟨nx, rt, bk, ct⟩ σ H := by
  obtain ⟨B, w, h1, h2⟩ := s
  exact h O _ σ H w _ fun a ha => q _ _ ⟨B, w.put i ⟨a, ha, rfl⟩, h1, h2⟩
theorem st_asg (h : DE te Γ Ω d) (hg : DG g vs Γ Ω d Γ') (s : At H0 O A0 Ω Γ σ H) (q : ∀ σ' H', At H0 O A0 Ω Γ' σ' H' → nx σ' H') : tAsg te g ⟨nx, rt, bk, ct⟩ σ H := by
  obtain ⟨B, w, h1, h2⟩ := s
  exact h.run w fun v H' f w' r => hg O _ v σ H' w' r _ fun σ' w2 _ => q _ _ (At.step h1 h2 f w2)
theorem st_asgp (h : DEp te Γ Ω P) (hg : ∀ d, P d → ∃ Γ', DG g vs Γ Ω d Γ' ∧ ∀ σ' H', At H0 O A0 Ω Γ' σ' H' → nx σ' H') (s : At H0 O A0 Ω Γ σ H) : tAsg te g ⟨nx, rt, bk, ct⟩ σ H := by
  obtain ⟨B, w, h1, h2⟩ := s
  exact h O _ σ H w _ fun v H' d f w' r p => by
    obtain ⟨Γ', h3, q⟩ := hg d p
    exact h3 O _ v σ H' w' r _ fun σ' w2 _ => q _ _ (At.step h1 h2 f w2)
/-- x[i] = e of an owned list -/
theorem st_put {n : Nat} {z : Int} (h : DE te Γ Ω d) (ho : DOwn to Γ Ω k) (hi : DE ti Γ Ω (.int z)) (hk : Ω[k]? = some (.lst ds)) (hz : ixN ds.length z = some n) (s : At H0 O A0 Ω Γ σ H)
    (q : ∀ σ' H', At H0 O A0 (Ω.set k (.lst (ds.set n d))) Γ σ' H' → nx σ' H') : tAsg te (gSub to ti rSetL) ⟨nx, rt, bk, ct⟩ σ H := by
  obtain ⟨B, w, h1, h2⟩ := s
  refine h.run w fun v H1 f1 w1 r => ho O _ σ H1 w1 _ fun a ha => hi.run w1 fun y H2 f2 w2 r2 => ?_
  obtain ⟨xs, hx, rx⟩ := w2.lst ha hk
  refine ⟨a, xs, z, n, rfl, r2.int_of, hx, by rw [rx.length]; exact hz, q _ _ ⟨B, w2.mut ha ⟨_, upd_same, RpL.set rx n (r.ex (vw f2))⟩, h1, At.fr h1 h2 ((f1.trans f2).trans (fr_upd (List.mem_of_getElem? ha)))⟩⟩
/-- x[i] op= e of an owned list -/
theorem st_aug {f : Int → Int → Int} {n : Nat} {i j : Int} (ho : DOwn to Γ Ω k) (hi : DE ti Γ Ω (.int n)) (h : DE te Γ Ω (.int j)) (hk : Ω[k]? = some (.lst ds)) (hn : ds[n]? = some (.int i)) (s : At H0 O A0 Ω Γ σ H)
    (q : ∀ σ' H', At H0 O A0 (Ω.set k (.lst (ds.set n (.int (f i j))))) Γ σ' H' → nx σ' H') : tAugS to ti te (rGetL K) (fun x y H Q => ∃ i j, x = .int i ∧ y = .int j ∧ Q (.int (f i j)) H) rSetL ⟨nx, rt, bk, ct⟩ σ H := by
  obtain ⟨B, w, h1, h2⟩ := s
  refine ho O _ σ H w _ fun a ha => hi.run w fun y H1 f1 w1 r1 => ?_
  obtain ⟨xs, hx, rx⟩ := w1.lst ha hk
  obtain ⟨v, hv, rv⟩ := rx.get hn
  rw [rv.int_of] at hv
  rw [r1.int_of]
  refine ⟨a, xs, n, _, rfl, rfl, SqL.of hx, hv, h.run w1 fun y H2 f2 w2 r2 => ⟨i, j, rfl, r2.int_of, ?_⟩⟩
  obtain ⟨ys, hy, ry⟩ := w2.lst ha hk
  have hlt := (List.getElem?_eq_some_iff.mp hn).1
  have ex : ixN ys.length (n : Int) = some n := by
    unfold ixN
    rw [ry.length, if_pos (by omega), if_pos (by omega)]
    rfl
  refine ⟨a, ys, n, n, rfl, rfl, hy, ex, q _ _ ⟨B, w2.mut ha ⟨_, upd_same, RpL.set ry n (rp_int _)⟩, h1, At.fr h1 h2 ((f1.trans f2).trans (fr_upd (List.mem_of_getElem? ha)))⟩⟩
theorem tyL {H : Hp} {a : Addr} {xs : List V} (h : H a = some (.lst xs)) : tyV K "list" (.ref a) H := .inl ⟨rfl, xs, SqL.of h⟩
/-- x.append(e) -/
theorem st_append (ho : DOwn to Γ Ω k) (h : DEp te Γ Ω P) (hk : Ω[k]? = some (.lst ds)) (hl : ds.length ≤ 90000) (s : At H0 O A0 Ω Γ σ H)
    (q : ∀ σ' H' d, P d → At H0 O A0 (Ω.set k (.lst (ds ++ [d]))) Γ σ' H' → nx σ' H') : tDrop (tBM K "list" rAppend to (tCons te tNil)) ⟨nx, rt, bk, ct⟩ σ H := by
  obtain ⟨B, w, h1, h2⟩ := s
  refine ho O _ σ H w _ fun a ha => ?_
  obtain ⟨xs, hx, rx⟩ := w.lst ha hk
  refine ⟨tyL hx, h O _ σ H w _ fun v H1 d f1 w1 r p => ?_⟩
  obtain ⟨ys, hy, ry⟩ := w1.lst ha hk
  exact ⟨a, ys, v, rfl, rfl, hy, by rw [ry.length]; exact sl100 (by omega), q _ _ d p ⟨B, w1.mut ha ⟨_, upd_same, RpL.append ry (rpl_cons r rpl_nil)⟩, h1, At.fr h1 h2 (f1.trans (fr_upd (List.mem_of_getElem? ha)))⟩⟩
/-- x = y.pop() -/
theorem st_pop (ho : DOwn to Γ Ω k) (hk : Ω[k]? = some (.lst (ds ++ [d]))) (s : At H0 O A0 Ω Γ σ H)
    (q : ∀ σ' H', At H0 O A0 (Ω.set k (.lst ds)) (Γ.set i (.dat d)) σ' H' → nx σ' H') : tAsg (tBM0 K "list" rPop to) (gName i) ⟨nx, rt, bk, ct⟩ σ H := by
  obtain ⟨B, w, h1, h2⟩ := s
  refine ho O _ σ H w _ fun a ha => ?_
  obtain ⟨xs, hx, rx⟩ := w.lst ha hk
  have hlen := rx.length
  rw [List.length_append, List.length_singleton] at hlen
  obtain ⟨v, hv, rv⟩ := rx.get (i := ds.length) (d := d) (by rw [List.getElem?_append_right (Nat.le_refl _), Nat.sub_self]; rfl)
  have hdl : RpL (off H (O ++ (A0 ++ B))) xs.dropLast ds := by
    have := RpL.take rx ds.length
    rw [List.take_left] at this
    rw [List.dropLast_eq_take, hlen]
    exact this
  refine ⟨tyL hx, a, xs, v, rfl, rfl, hx, by rw [hlen]; exact hv, q _ _ ⟨B, ?_, h1, At.fr h1 h2 (fr_upd (List.mem_of_getElem? ha))⟩⟩
  have w2 := w.mut ha (o := .lst ds) ⟨_, upd_same (o := .lst xs.dropLast), hdl⟩
  refine w2.put i ⟨v, rfl, ?_⟩
  rw [off_upd (List.mem_append_right _ (List.mem_of_getElem? ha))]
  exact rv
theorem st_drop (h : DEp te Γ Ω P) (s : At H0 O A0 Ω Γ σ H) (q : ∀ H' d, P d → At H0 O A0 Ω Γ σ H' → nx σ H') : tDrop te ⟨nx, rt, bk, ct⟩ σ H := by
  obtain ⟨B, w, h1, h2⟩ := s
  exact h O _ σ H w _ fun v H' d f w' r p => q H' d p (At.step h1 h2 f w')
theorem off_part {B : List Addr} : Same (off H (O ++ (A0 ++ B))) (off H (O ++ A0)) := off_less fun a z => by
  rw [← List.append_assoc]
  exact List.mem_append_left _ z
theorem st_retp (h : DEp te Γ Ω P) (s : At H0 O A0 Ω Γ σ H) (q : ∀ v H' d, P d → At H0 O A0 Ω Γ σ H' → Rp (off H' (O ++ A0)) v d → rt v H') : tRet te ⟨nx, rt, bk, ct⟩ σ H := by
  obtain ⟨B, w, h1, h2⟩ := s
  exact h O _ σ H w _ fun v H' d f w' r p => q v H' d p (At.step h1 h2 f w') (r.ex off_part)
theorem st_ret (h : DE te Γ Ω d) (s : At H0 O A0 Ω Γ σ H) (q : ∀ v H', At H0 O A0 Ω Γ σ H' → Rp (off H' (O ++ A0)) v d → rt v H') : tRet te ⟨nx, rt, bk, ct⟩ σ H :=
  st_retp h s fun v H' d' e a r => q v H' a (e ▸ r)
theorem st_if {b : Bool} (h : DT tt Γ Ω b) (s : At H0 O A0 Ω Γ σ H) (h1 : ∀ H', b = true → At H0 O A0 Ω Γ σ H' → t ⟨nx, rt, bk, ct⟩ σ H') (h2 : ∀ H', b = false → At H0 O A0 Ω Γ σ H' → u ⟨nx, rt, bk, ct⟩ σ H') : tIfS tt t u ⟨nx, rt, bk, ct⟩ σ H := by
  obtain ⟨B, w, q1, q2⟩ := s
  refine h O _ σ H w _ fun H' f w' => ?_
  cases b with
  | true => exact h1 H' rfl (At.step q1 q2 f w')
  | false => exact h2 H' rfl (At.step q1 q2 f w')
theorem st_ifp {P : Bool → Prop} (h : DTp tt Γ Ω P) (s : At H0 O A0 Ω Γ σ H) (h1 : ∀ H', P true → At H0 O A0 Ω Γ σ H' → t ⟨nx, rt, bk, ct⟩ σ H') (h2 : ∀ H', P false → At H0 O A0 Ω Γ σ H' → u ⟨nx, rt, bk, ct⟩ σ H') : tIfS tt t u ⟨nx, rt, bk, ct⟩ σ H := by
  obtain ⟨B, w, q1, q2⟩ := s
  refine h O _ σ H w _ fun b H' f w' p => ?_
  cases b with
  | true => exact h1 H' p (At.step q1 q2 f w')
  | false => exact h2 H' p (At.step q1 q2 f w')
/-- x, y = e, f -/
theorem st_par {P : List PyData → Prop} (h : DAp ta Γ Ω P) (hP : ∀ ds, P ds → ∃ a b, ds = [a, b]) (s : At H0 O A0 Ω Γ σ H) (q : ∀ σ' H' a b, P [a, b] → At H0 O A0 Ω ((Γ.set i (.dat a)).set j (.dat b)) σ' H' → nx σ' H') : tPar i j ta ⟨nx, rt, bk, ct⟩ σ H := by
  obtain ⟨B, w, h1, h2⟩ := s
  refine h O _ σ H w _ fun vs H' ds f w' r p => ?_
  obtain ⟨a, b, rfl⟩ := hP ds p
  obtain ⟨v, ws, rfl, r0, r⟩ := r.cons_of
  obtain ⟨v2, us, rfl, r1, r⟩ := r.cons_of
  have := r.nil_of
  subst this
  exact ⟨v, v2, rfl, q _ _ a b p (At.step h1 h2 f ((w'.put i (o := some v) (s := .dat a) ⟨v, rfl, r0⟩).put j (o := some v2) (s := .dat b) ⟨v2, rfl, r1⟩))⟩
/-- for: Γs, Ωs tell how slots and owned objects stand at i items, by a ghost x of which I i holds -/
theorem st_for {α : Type} {wi : TI} {P : List PyData → Prop} (hd : DIp wi Γ Ω P) (s : At H0 O A0 Ω Γ σ H)
    (h : ∀ ds, P ds → ∃ (I : Nat → α → Prop) (Γs : Nat → α → Ctx) (Ωs : Nat → α → List Ob) (x0 : α), I 0 x0 ∧ Γs 0 x0 = Γ ∧ Ωs 0 x0 = Ω ∧ (∀ i x, (Ωs i x).length = Ω.length) ∧
      (∀ i x d, ds[i]? = some d → I i x → ∃ vs Γ', DG g vs (Γs i x) (Ωs i x) d Γ' ∧ ∀ H1 A, A.length = Ω.length → (∀ Ω Γ σ H, At H1 O A Ω Γ σ H → At H0 O A0 Ω Γ σ H) → ∀ (N : St → Hp → Prop) σ H, (∀ σ H x', I (i + 1) x' → At H1 O A (Ωs (i + 1) x') (Γs (i + 1) x') σ H → N σ H) → At H1 O A (Ωs i x) Γ' σ H → t ⟨N, rt, nx, N⟩ σ H) ∧
      (∀ x, I ds.length x → ∀ σ H, At H0 O A0 (Ωs ds.length x) (Γs ds.length x) σ H → nx σ H)) : tFor wi g t ⟨nx, rt, bk, ct⟩ σ H := by
  obtain ⟨B, w, h1, h2⟩ := s
  refine hd O _ σ H w _ fun J H1 ds f w1 p dr => ?_
  have dw := dr (O ++ (A0 ++ B)) (fun a z => z) fun a z => .inl z
  obtain ⟨I, Γs, Ωs, x0, i0, e1, e2, el, hb, hx⟩ := h ds p
  have f1 := At.fr h1 h2 f
  have outA : ∀ Ω Γ σ H, At H1 O (A0 ++ B) Ω Γ σ H → At H0 O A0 Ω Γ σ H := fun Ω Γ σ H a => a.out h1 f1 fun a z => w1.has (List.mem_append_left _ z)
  refine ⟨fun i m σ H => m = ds.length - i ∧ i ≤ ds.length ∧ ∃ x, I i x ∧ Wd O (A0 ++ B) (Ωs i x) (Γs i x) σ H ∧ Fr (A0 ++ B) H1 H, ⟨ds.length, rfl, Nat.zero_le _, x0, i0, by rw [e1, e2]; exact w1, Fr.refl _ _⟩, ?_⟩
  rintro i m σ H ⟨rfl, hile, x, ix, wx, fx⟩
  have fw : Fr (O ++ (A0 ++ B)) H1 H := fun a o n e => fx a o (fun z => n (List.mem_append_right _ z)) e
  by_cases hlt : i < ds.length
  · have hdi : ds[i]? = some ds[i] := List.getElem?_eq_getElem hlt
    refine .inr ⟨dw.go i H fw hlt, fun σ H => ∃ x, I (i + 1) x ∧ Wd O (A0 ++ B) (Ωs (i + 1) x) (Γs (i + 1) x) σ H ∧ Fr (A0 ++ B) H1 H, fun σ' H' p' => ⟨ds.length - (i + 1), by omega, rfl, hlt, p'⟩, fun v H' y => ?_⟩
    obtain ⟨e3, rd⟩ := dw.yld i H v H' fw (tk_all wx) y _ hdi
    obtain ⟨vs, Γ', hg, hb⟩ := hb i x _ hdi ix
    refine hg O _ v σ H' (wx.same e3) rd _ fun σ2 w2 _ => hb H1 (A0 ++ B) w.len outA _ σ2 H' (fun σ3 H3 x' ix' a => ?_) ⟨[], by rw [List.append_nil]; exact w2, (fun b z => nomatch z), fx.trans (fr_of e3)⟩
    obtain ⟨C, w3, c1, c2⟩ := a
    have lc := w3.len
    rw [el, List.length_append, w.len] at lc
    have : C = [] := List.eq_nil_of_length_eq_zero (by omega)
    subst this
    rw [List.append_nil] at w3
    exact ⟨x', ix', w3, c2⟩
  · have ei : i = ds.length := by omega
    subst ei
    exact .inl ⟨dw.stop H fw, hx x ix σ H ⟨B, wx, h1, At.fr h1 f1 fx⟩⟩
theorem st_while {α : Type} (I : Nat → α → Prop) (Γs : α → Ctx) (Ωs : α → List Ob) (b : α → Bool) {m0 : Nat} {x0 : α} (i0 : I m0 x0) (e1 : Γs x0 = Γ) (e2 : Ωs x0 = Ω) (el : ∀ x, (Ωs x).length = Ω.length) (s : At H0 O A0 Ω Γ σ H)
    (ht : ∀ m x, I m x → DT tt (Γs x) (Ωs x) (b x))
    (hb : ∀ m x, I m x → b x = true → ∀ H1 A, A.length = Ω.length → (∀ Ω Γ σ H, At H1 O A Ω Γ σ H → At H0 O A0 Ω Γ σ H) → ∀ (N : St → Hp → Prop) σ H, (∀ σ H m' x', m' < m → I m' x' → At H1 O A (Ωs x') (Γs x') σ H → N σ H) → At H1 O A (Ωs x) (Γs x) σ H → t ⟨N, rt, nx, N⟩ σ H)
    (hx : ∀ m x, I m x → b x = false → ∀ σ H, At H0 O A0 (Ωs x) (Γs x) σ H → nx σ H) : tWhile tt t ⟨nx, rt, bk, ct⟩ σ H := by
  obtain ⟨B, w, h1, h2⟩ := s
  have outA : ∀ Ω Γ σ H', At H O (A0 ++ B) Ω Γ σ H' → At H0 O A0 Ω Γ σ H' := fun Ω Γ σ H' a => a.out h1 h2 fun a z => w.has (List.mem_append_left _ z)
  refine ⟨fun m σ' H' => ∃ x, I m x ∧ Wd O (A0 ++ B) (Ωs x) (Γs x) σ' H' ∧ Fr (A0 ++ B) H H', ⟨m0, x0, i0, by rw [e1, e2]; exact w, Fr.refl _ _⟩, ?_⟩
  rintro m σ' H' ⟨x, ix, wx, fx⟩
  refine ht m x ix O _ σ' H' wx _ fun H2 f2 w2 => ?_
  cases q : b x with
  | true =>
    refine ⟨fun σ H' => ∃ m', m' < m ∧ ∃ x, I m' x ∧ Wd O (A0 ++ B) (Ωs x) (Γs x) σ H' ∧ Fr (A0 ++ B) H H', fun σ' H' z => z, ?_⟩
    refine hb m x ix q H (A0 ++ B) w.len outA _ σ' H2 (fun σ3 H3 m' x' lt ix' a => ?_) ⟨[], by rw [List.append_nil]; exact w2, (fun b z => nomatch z), fx.trans f2⟩
    obtain ⟨C, w3, c1, c2⟩ := a
    have lc := w3.len
    rw [el, List.length_append, w.len] at lc
    have : C = [] := List.eq_nil_of_length_eq_zero (by omega)
    subst this
    rw [List.append_nil] at w3
    exact ⟨m', lt, x', ix', w3, c2⟩
  | false => exact hx m x ix q σ' H2 ⟨B, w2, h1, At.fr h1 h2 (fx.trans f2)⟩
end
/-! ### the beginning of a body -/
def args (N : List Str) (ds : List PyData) : Ctx := ds.map .dat ++ List.replicate (N.length - ds.length) .no
theorem sr_args {U : Hp} {A : List Addr} {N : List Str} {vs : List V} {ds : List PyData} (r : RpL U vs ds) : SR U A (L2.start N vs) (args N ds) := by
  have hl := r.length
  refine ⟨?_, fun i s q => ?_⟩
  · unfold L2.start args
    rw [List.length_append, List.length_append, List.length_map, List.length_map, List.length_replicate, List.length_replicate, hl]
  · unfold args at q
    unfold L2.start
    by_cases hi : i < ds.length
    · rw [List.getElem?_append_left (by rw [List.length_map]; exact hi), List.getElem?_map] at q
      rw [List.getElem?_append_left (by rw [List.length_map]; omega), List.getElem?_map]
      cases z : ds[i]? with
      | none => rw [z] at q; cases q
      | some d =>
        rw [z] at q
        cases q
        obtain ⟨v, hv, rv⟩ := r.get z
        rw [hv]
        exact ⟨_, rfl, v, rfl, rv⟩
    · rw [List.getElem?_append_right (by rw [List.length_map]; omega), List.length_map, List.getElem?_replicate] at q
      rw [List.getElem?_append_right (by rw [List.length_map]; omega), List.length_map, List.getElem?_replicate, hl]
      split at q
      · cases q
        rename_i h
        rw [if_pos h]
        exact ⟨_, rfl, trivial⟩
      · cases q
theorem at_start {H : Hp} {O : List Addr} {N : List Str} {vs : List V} {ds : List PyData} (tk : ∀ a ∈ O, ∃ x, H a = some x) (r : RpL (off H O) vs ds) : At H O [] [] (args N ds) (L2.start N vs) H :=
  ⟨[], ⟨tk, List.nodup_nil, (fun a h => nomatch h), rfl, (fun k a o h => (by simp at h)), sr_args (by rw [List.append_nil, List.append_nil]; exact r)⟩, (fun b h => nomatch h), Fr.refl _ _⟩
theorem at_startM {H : Hp} {O : List Addr} {N : List Str} {a : Addr} {us : List V} {ds : List PyData} (tk : ∀ a ∈ O, ∃ x, H a = some x) (na : a ∉ O) (m : MillAt H a) (r : RpL (off H (O ++ [a])) us ds) (hN : 1 + ds.length ≤ N.length) :
    At H O [a] [.mill] (.own 0 :: args (N.drop 1) ds) (L2.start N (.ref a :: us)) H := by
  have q := sr_args (A := [a]) (N := N.drop 1) r
  have e : L2.start N (.ref a :: us) = some (.ref a) :: L2.start (N.drop 1) us := by
    unfold L2.start
    rw [List.length_drop, List.length_cons, show N.length - (us.length + 1) = N.length - 1 - us.length by omega]
    rfl
  rw [e]
  refine ⟨[], ⟨tk, by simp, fun b h => by rw [List.append_nil, List.mem_singleton] at h; rw [h]; exact na, rfl, fun k b o h1 h2 => ?_, ⟨?_, fun i s h => ?_⟩⟩, (fun b h => nomatch h), Fr.refl _ _⟩
  · cases k with
    | zero => cases h1; cases h2; exact m
    | succ k => simp at h2
  · show _ + 1 = _ + 1
    rw [q.len]
  · cases i with
    | zero =>
      cases h
      exact ⟨_, rfl, a, rfl, rfl⟩
    | succ i => exact q.el i s h
end EW
namespace EW
open PySem L2
theorem At.no {H0 : Hp} {O A0 : List Addr} {Ω : List Ob} {Γ : Ctx} {σ : St} {H : Hp} (s : At H0 O A0 Ω Γ σ H) (is : List Nat) : At H0 O A0 Ω (wipeC Γ is) σ H := s.slots fun U A r => by
  induction is with
  | nil => exact r
  | cons i is ih =>
    refine ⟨?_, fun j s q => ?_⟩
    · show _ = ((wipeC Γ is).set i .no).length
      rw [List.length_set]
      exact ih.len
    · have q : ((wipeC Γ is).set i .no)[j]? = some s := q
      by_cases e : i = j
      · subst e
        by_cases hl : i < (wipeC Γ is).length
        · rw [List.getElem?_set_self hl] at q
          cases q
          have hl2 : i < σ.length := by rw [ih.len]; exact hl
          exact ⟨_, List.getElem?_eq_getElem hl2, trivial⟩
        · rw [List.getElem?_eq_none (by rw [List.length_set]; omega)] at q
          cases q
      · rw [List.getElem?_set_ne e] at q
        exact ih.el j s q
end EW
/-! Defs as facts; more expressions, by data. -/
namespace EW
open PySem PyProof.Rows L2
/-- what a caller knows of a def -/
structure Df (P : Program) (w : World) (K : PySem.W.Frag) (mg : Str → Option Value) (base : Heap) (CX : CXT) (k : Nat) (x : Str) (st : Stmt) (ps : List Str) (sp : Sp) : Prop where
  ex : ∃ f fd, FnOk P w K mg base CX k f fd ps sp ∧ Fun K x x st f fd ∧ mg x = some (.ref f) ∧ Binds K fd ps []
section
variable {X : Cx}
theorem pe_df {k : Nat} {x : Str} {st : Stmt} {ps : List Str} {sp : Sp} {p pos : Pos} {e : Expr} {es : List Expr} {t : TA} (D : Df X.prog X.w X.K X.mg X.base CX0 k x st ps sp) (hr : Room k X.A) (hg : Gl X x) (ha : PA X (e :: es) t) (hdb : (x == ("__debug__" : Str)) = false := by decide)
    (he : starEach (e :: es) X.env = (false, eval e X.env) :: starEach es X.env := by rfl) (hpl : (backTo pos (starEach es X.env)).any (·.1) = false := by rfl) : PE X (.Call (.Name x p) (e :: es) [] pos) (tCall sp [] E0 t) := by
  obtain ⟨f, fd, F, G, hm, hb⟩ := D.ex
  exact pe_call F hr hg hm G.kp hb .nil pass0 ha hdb he hpl
end
/-- a def, of its body -/
theorem df_mk {P : Program} {w : World} {K : PySem.W.Frag} {mg : Str → Option Value} {base : Heap} {x : Str} {st : Stmt} {f : Addr} {fd : FuncData} {N ps : List Str} {k : Nat} {sp : Sp} (F : Fun K x x st f fd) (hm : mg x = some (.ref f)) (b : Binds K fd ps []) (S : FnScope N ps (defScope st)) (len : ∀ vs H Q E, sp vs H Q E → vs.length = ps.length)
    (hbody : ∀ (cdv : Value) (A : Around) (outer : List Env) (s : Shared) (H : Hp) (vs : List V) (Q : VK) (E : XK), Room k (A.deeper (envOfC x (defScope st) s.heap.objs.size f cdv)) → sp vs H Q E →
      ∃ t, PSs (cxOf CX0 P w K mg base N x (defScope st) f cdv A outer s H E).nox (defBody st) t ∧ t { nx := fun _ H' => Q .non H', rt := Q } (L2.start N vs) H) : Df P w K mg base CX0 (k + 1) x st ps sp :=
  ⟨f, fd, F.ok S len hbody, F, hm, b⟩
/-! ### isinstance -/
def tyName : PyData → String
  | .none => "NoneType"
  | .bool _ => "bool"
  | .int _ => "int"
  | .str _ => "str"
  | .list _ => "list"
  | .tuple _ => "tuple"
  | .dict _ => "dict"
def isiB (T : String) (d : PyData) : Bool := kitB (tyName d) T == some true
theorem ty_of {K : PySem.W.Frag} {U H : Hp} (e : Same U H) {v : V} {d : PyData} (r : Rp U v d) : TyX K H v (.type (tyName d)) := by
  cases d with
  | none => rw [r.none_of]; exact .base .non
  | bool b => rw [r.bool_of]; exact .base (.bl b)
  | int i => rw [r.int_of]; exact .base (.int i)
  | str x => rw [r.str_of]; exact .base (.str x)
  | list ds => obtain ⟨a, xs, rfl, h, _⟩ := r.list_of; exact .base (.lst (e _ _ h))
  | tuple ds => obtain ⟨a, xs, rfl, h, _⟩ := r.tuple_of; exact .base (.tup (e _ _ h))
  | dict ks => exact r.dict_of.elim
section
variable {K : PySem.W.Frag} {Γ : Ctx} {Ω : List Ob} {ta tb tc te tx : TE} {t u : TT} {d d1 d2 : PyData} {ds es : List PyData} {O A : List Addr} {σ : L2.St} {H H' : Hp}
theorem de_isi {T : String} (h : DE ta Γ Ω d) (hT : ∀ d, (∃ ks, d = .dict ks) ∨ (kitB (tyName d) T).isSome = true) : DE (tCB (rIsi K) (tCons ta (tCons (tC (.ty T)) tNil))) Γ Ω (.bool (isiB T d)) := de_of fun O A σ H s Q q =>
  h.run s fun x H' e s r => by
    refine ⟨x, .ty T, _, _, isiB T d, rfl, .ty T, ty_of off_le r, ?_, q _ H' e s (rp_bool _)⟩
    refine kit_ty ?_
    rcases hT d with ⟨ks, rfl⟩ | h
    · exact r.dict_of.elim
    · unfold isiB
      cases z : kitB (tyName d) T with
      | none => rw [z] at h; cases h
      | some b => cases b <;> rfl
theorem ki (T : String) (h : T ∈ ["int", "bool", "tuple", "list"]) : ∀ d, (∃ ks, d = .dict ks) ∨ (kitB (tyName d) T).isSome = true := fun d => by
  simp only [List.mem_cons, List.not_mem_nil, or_false] at h
  rcases h with rfl | rfl | rfl | rfl <;> cases d <;> first | exact .inl ⟨_, rfl⟩ | exact .inr rfl
theorem de_isInt (h : DE ta Γ Ω d) : DE (tCB (rIsi K) (tCons ta (tCons (tC (.ty "int")) tNil))) Γ Ω (.bool (isiB "int" d)) := de_isi h (ki _ (by decide))
theorem de_isBool (h : DE ta Γ Ω d) : DE (tCB (rIsi K) (tCons ta (tCons (tC (.ty "bool")) tNil))) Γ Ω (.bool (isiB "bool" d)) := de_isi h (ki _ (by decide))
theorem de_isTuple (h : DE ta Γ Ω d) : DE (tCB (rIsi K) (tCons ta (tCons (tC (.ty "tuple")) tNil))) Γ Ω (.bool (isiB "tuple" d)) := de_isi h (ki _ (by decide))
theorem de_isList (h : DE ta Γ Ω d) : DE (tCB (rIsi K) (tCons ta (tCons (tC (.ty "list")) tNil))) Γ Ω (.bool (isiB "list" d)) := de_isi h (ki _ (by decide))
theorem isi_tuple (d : PyData) : isiB "tuple" d = (match d with | .tuple _ => true | _ => false) := by cases d <;> rfl
theorem isi_list (d : PyData) : isiB "list" d = (match d with | .list _ => true | _ => false) := by cases d <;> rfl
theorem isi_bool (d : PyData) : isiB "bool" d = (match d with | .bool _ => true | _ => false) := by cases d <;> rfl
theorem isi_int (d : PyData) : isiB "int" d = (match d with | .bool _ => true | .int _ => true | _ => false) := by cases d <;> rfl
/-! ### sequences -/
theorem de_catA (ha : DE ta Γ Ω (.tuple ds)) (hb : DE tb Γ Ω (.tuple es)) (hl : ds.length + es.length ≤ 100000) : DE (tOp (rCatA K) ta tb) Γ Ω (.tuple (ds ++ es)) := de_of fun O A σ H s Q q =>
  two ha hb s fun x y H' e s r1 r2 => by
    obtain ⟨a, xs, rfl, hx, ra⟩ := r1.tuple_of
    obtain ⟨b, ys, rfl, hy, rb⟩ := r2.tuple_of
    refine ⟨a, b, xs, ys, rfl, rfl, SqT.of (off_of hx).2, SqT.of (off_of hy).2, by rw [ra.length, rb.length]; exact sz100 hl, fun ex => ?_, fun _ ey => ?_, fun _ _ p hp => ?_⟩
    · subst ex
      have : ds = [] := List.eq_nil_of_length_eq_zero ra.length.symm
      subst this
      exact q _ H' e s r2
    · subst ey
      have : es = [] := List.eq_nil_of_length_eq_zero rb.length.symm
      subst this
      rw [List.append_nil] at q
      exact q _ H' e s r1
    · obtain ⟨a1, a2, a3, a4⟩ := s.alloc (o := .tup (xs ++ ys)) hp
      exact q _ _ (e.trans a2) a1 (rp_tuple a4 ((RpL.append ra rb).ex a3))
theorem dn_cat (ha : DE ta Γ Ω (.list ds)) (hb : DE tb Γ Ω (.list es)) (hl : ds.length + es.length ≤ 100000) : DN (tOp rCat ta tb) Γ Ω (ds ++ es) := fun O A σ H s Q q =>
  two ha hb s fun x y H' e s1 r1 r2 => by
    obtain ⟨a, xs, rfl, hx, ra⟩ := r1.list_of
    obtain ⟨b, ys, rfl, hy, rb⟩ := r2.list_of
    refine ⟨a, b, xs, ys, rfl, rfl, (off_of hx).2, (off_of hy).2, by rw [ra.length, rb.length]; exact sz100 hl, fun p hp => ?_⟩
    exact q p _ _ _ (e.trans (fr_of (same_new hp))) (free_of s1 e hp) (fun z => s1.new hp (List.mem_append_left _ z)) upd_same (s1.shade hp) ((RpL.append ra rb).ex (shade_see s1 hp)) rfl
/-- [x] * n -/
theorem dn_rep {n : Nat} (ha : DE ta Γ Ω (.list [d])) (hb : DE tb Γ Ω (.int n)) (hn : n ≤ 100000) : DN (tOp rRep ta tb) Γ Ω (List.replicate n d) := fun O A σ H s Q q =>
  two ha hb s fun x y H' e s1 r1 r2 => by
    obtain ⟨a, xs, rfl, hx, ra⟩ := r1.list_of
    obtain ⟨v, ws, rfl, r0, rn⟩ := ra.cons_of
    have := rn.nil_of
    subst this
    have rep : ∀ k, RpL (off H' (O ++ A)) (List.replicate k v) (List.replicate k d) := fun k => by
      induction k with
      | zero => exact rpl_nil
      | succ k ih => exact rpl_cons r0 ih
    refine ⟨a, (n : Int), [v], rfl, r2.int_of, (off_of hx).2, by omega, by omega, by rw [Int.toNat_natCast, List.length_singleton, Nat.one_mul]; exact sz100 hn, fun p hp => ?_⟩
    rw [Int.toNat_natCast]
    have fl : (List.replicate n [v]).flatten = List.replicate n v := by
      clear hn hb r2 q
      induction n with
      | zero => rfl
      | succ k ih => rw [List.replicate_succ, List.flatten_cons, ih]; rfl
    try rw [fl]
    exact q p _ _ _ (e.trans (fr_of (same_new hp))) (free_of s1 e hp) (fun z => s1.new hp (List.mem_append_left _ z)) upd_same (s1.shade hp) ((rep n).ex (shade_see s1 hp)) rfl
end
end EW
/-! Promises by an argument; a def by its body. -/
namespace EW
open PySem PyProof.Rows L2
/-- what the written part says of a def -/
structure Fx (K : PySem.W.Frag) (mg : Str → Option Value) (x : Str) (st : Stmt) : Prop where
  ex : ∃ f fd, Fun K x x st f fd ∧ mg x = some (.ref f)
def SpG {α : Type} (arg : α → List PyData) (pre : α → Prop) (post : α → PyData → Prop) : Sp := fun vs H Q _ => ∃ O x, (∀ a ∈ O, ∃ y, H a = some y) ∧ RpL (off H O) vs (arg x) ∧ pre x ∧ ∀ v H' d, Same H H' → Rp (off H' O) v d → post x d → Q v H'
def SpN {α : Type} (arg : α → List PyData) (pre : α → Prop) (post : α → PyData → Prop) : Sp := fun vs H Q _ => ∃ O a us x, vs = .ref a :: us ∧ a ∉ O ∧ (∀ a ∈ O, ∃ y, H a = some y) ∧ MillAt H a ∧ RpL (off H (O ++ [a])) us (arg x) ∧ pre x ∧ ∀ v H' d, Fr [a] H H' → MillAt H' a → Rp (off H' (O ++ [a])) v d → post x d → Q v H'
section
variable {Γ : Ctx} {Ω : List Ob} {ta : TA} {ds : List PyData} {d : PyData} {E : XK} {α : Type} {arg : α → List PyData} {pre : α → Prop} {post : α → PyData → Prop}
theorem dep_callG (x : α) (h : DA ta Γ Ω (arg x)) (hp : pre x) : DEp (tCall (SpG arg pre post) [] E ta) Γ Ω (post x) := fun O A σ H s Q q =>
  h O A σ H s _ fun vs H' e s r => by
    show SpG arg pre post (vs ++ []) H' Q E
    rw [List.append_nil]
    exact ⟨O ++ A, x, tk_all s, r, hp, fun v H2 d e2 r2 p2 => q v H2 d (e.trans (fr_of e2)) (s.same e2) r2 p2⟩
theorem dep_callGp {P : List PyData → Prop} (h : DAp ta Γ Ω P) (hp : ∀ ds, P ds → ∃ x, ds = arg x ∧ pre x) : DEp (tCall (SpG arg pre post) [] E ta) Γ Ω (fun d => ∃ x, P (arg x) ∧ pre x ∧ post x d) := fun O A σ H s Q q =>
  h O A σ H s _ fun vs H' ds e s r p => by
    obtain ⟨x, rfl, px⟩ := hp ds p
    show SpG arg pre post (vs ++ []) H' Q E
    rw [List.append_nil]
    exact ⟨O ++ A, x, tk_all s, r, px, fun v H2 d e2 r2 p2 => q v H2 d (e.trans (fr_of e2)) (s.same e2) r2 ⟨x, p, px, p2⟩⟩
theorem de_callG {res : α → PyData} (x : α) (h : DA ta Γ Ω (arg x)) (hp : pre x) : DE (tCall (SpG arg pre fun x d => d = res x) [] E ta) Γ Ω (res x) := dep_callG x h hp
theorem dep_callN {tm : TE} {k : Nat} (x : α) (hm : DOwn tm Γ Ω k) (hk : Ω[k]? = some .mill) (h : DA ta Γ Ω (arg x)) (hp : pre x) : DEp (tCall (SpN arg pre post) [] E (tCons tm ta)) Γ Ω (post x) := fun O A σ H s Q q => by
  refine hm O A σ H s _ fun a ha => ?_
  exact h O A σ H s _ fun vs H' e s r => by
    show SpN arg pre post (.ref a :: vs ++ []) H' Q E
    rw [List.append_nil]
    have hA := List.mem_of_getElem? ha
    have e1 : ∀ b, b ∈ (O ++ A.filter (· ≠ a)) ++ [a] ↔ b ∈ O ++ A := fun b => by
      simp only [List.mem_append, List.mem_filter, List.mem_singleton, decide_not, Bool.not_eq_eq_eq_not, Bool.not_true, decide_eq_false_iff_not]
      constructor
      · rintro ((h | h) | h)
        · exact .inl h
        · exact .inr h.1
        · subst h; exact .inr hA
      · rintro (h | h)
        · exact .inl (.inl h)
        · by_cases z : b = a
          · exact .inr z
          · exact .inl (.inr ⟨h, z⟩)
    refine ⟨O ++ A.filter (· ≠ a), a, vs, x, rfl, fun z => ?_, fun b z => ?_, s.ob k a _ ha hk, r.ex (off_less fun b z => (e1 b).mp z), hp, fun v H2 d f m r2 p2 => ?_⟩
    · rcases List.mem_append.mp z with z | z
      · exact s.dj a hA z
      · simp at z
    · exact tk_all s b ((e1 b).mp (List.mem_append_left _ z))
    · have s2 := s.turn ha hk f m
      exact q v H2 d (e.trans fun b o n z => f b o (fun w => n (List.mem_singleton.mp w ▸ hA)) z) s2 (r2.ex (off_less fun b z => (e1 b).mpr z)) p2
end
section
variable {P : Program} {w : World} {K : PySem.W.Frag} {mg : Str → Option Value} {base : Heap} {x : Str} {st : Stmt} {N ps : List Str} {k : Nat} {α : Type} {arg : α → List PyData} {pre : α → Prop} {post : α → PyData → Prop}
theorem df_of (F : Fx K mg x st) (S : FnScope N ps (defScope st)) (b : ∀ f fd, Fun K x x st f fd → Binds K fd ps []) (len : ∀ y, (arg y).length = ps.length)
    (hbody : ∀ (f : Addr) (cdv : Value) (A : Around) (outer : List Env) (s : Shared) (H : Hp) (Q : VK) (E : XK) (O : List Addr) (y : α) (σ : L2.St), Room k (A.deeper (envOfC x (defScope st) s.heap.objs.size f cdv)) → pre y →
      At H O [] [] (args N (arg y)) σ H → (∀ v σ' H' Ω' Γ' d, At H O [] Ω' Γ' σ' H' → Rp (off H' (O ++ [])) v d → post y d → Q v H') → ∃ t, PSs (cxOf CX0 P w K mg base N x (defScope st) f cdv A outer s H E).nox (defBody st) t ∧ t { nx := fun _ H' => Q .non H', rt := Q } σ H) : Df P w K mg base CX0 (k + 1) x st ps (SpG arg pre post) := by
  obtain ⟨f, fd, F, hm⟩ := F.ex
  refine df_mk F hm (b f fd F) S (fun vs H Q E h => ?_) fun cdv A outer s H vs Q E hr h => ?_
  · obtain ⟨O, y, tk, r, p, q⟩ := h
    rw [r.length, len y]
  · obtain ⟨O, y, tk, r, p, q⟩ := h
    refine hbody f cdv A outer s H Q E O y _ hr p (at_start tk r) fun v σ' H' Ω' Γ' d a r2 p2 => q v H' d ?_ ?_ p2
    · obtain ⟨_, _, _, f⟩ := a
      exact fun a o e => f a o (fun z => nomatch z) e
    · rw [List.append_nil] at r2
      exact r2
theorem df_ofM (F : Fx K mg x st) (S : FnScope N ps (defScope st)) (b : ∀ f fd, Fun K x x st f fd → Binds K fd ps []) (len : ∀ y, 1 + (arg y).length = ps.length) (hN : ps.length ≤ N.length)
    (hbody : ∀ (f : Addr) (cdv : Value) (A : Around) (outer : List Env) (s : Shared) (H : Hp) (Q : VK) (E : XK) (O : List Addr) (a : Addr) (y : α) (σ : L2.St), Room k (A.deeper (envOfC x (defScope st) s.heap.objs.size f cdv)) → pre y →
      At H O [a] [.mill] (.own 0 :: args (N.drop 1) (arg y)) σ H → (∀ v σ' H' Ω' Γ' d, At H O [a] (.mill :: Ω') Γ' σ' H' → Rp (off H' (O ++ [a])) v d → post y d → Q v H') → ∃ t, PSs (cxOf CX0 P w K mg base N x (defScope st) f cdv A outer s H E).nox (defBody st) t ∧ t { nx := fun _ H' => Q .non H', rt := Q } σ H) : Df P w K mg base CX0 (k + 1) x st ps (SpN arg pre post) := by
  obtain ⟨f, fd, F, hm⟩ := F.ex
  refine df_mk F hm (b f fd F) S (fun vs H Q E h => ?_) fun cdv A outer s H vs Q E hr h => ?_
  · obtain ⟨O, a, us, y, rfl, na, tk, m, r, p, q⟩ := h
    rw [List.length_cons, r.length, Nat.add_comm, len y]
  · obtain ⟨O, a, us, y, rfl, na, tk, m, r, p, q⟩ := h
    refine hbody f cdv A outer s H Q E O a y _ hr p (at_startM tk na m r (by rw [len y]; exact hN)) fun v σ' H' Ω' Γ' d at2 r2 p2 => ?_
    obtain ⟨B, w2, _, f⟩ := at2
    exact q v H' d f (w2.ob 0 a .mill rfl rfl) r2 p2
end
end EW
namespace EW
open PySem PyProof.Rows L2
section
variable {Γ : Ctx} {Ω : List Ob} {te : TE} {t u : TT} {d : PyData} {a b : Bool}
theorem dtB (h : DE te Γ Ω d) (e : d = .bool b := by rfl) : DT (tB te) Γ Ω b := dt_B (de_is h e)
theorem dtT (h : DE te Γ Ω d) (e : d = .bool b := by rfl) : DT (tTest te) Γ Ω b := dt_test (de_is h e)
theorem dtN (h : DT t Γ Ω a) (e : (!a) = b := by rfl) : DT (tNot t) Γ Ω b := dt_is (dt_not h) e
/-- the first is enough -/
theorem dt_or1 (h : DT t Γ Ω true) : DT (tOr t u) Γ Ω true := dt_or (a := true) (b := true) h fun z => nomatch z
theorem dt_or2 (h : DT t Γ Ω false) (h2 : DT u Γ Ω b) : DT (tOr t u) Γ Ω b := dt_is (dt_or h fun _ => h2) (Bool.false_or b)
theorem dt_and1 (h : DT t Γ Ω false) : DT (tAnd t u) Γ Ω false := dt_and (a := false) (b := false) h fun z => nomatch z
theorem dt_and2 (h : DT t Γ Ω true) (h2 : DT u Γ Ω b) : DT (tAnd t u) Γ Ω b := dt_is (dt_and h fun _ => h2) (Bool.true_and b)
theorem natI {i j : Nat} : decide ((i : Int) = (j : Int)) = decide (i = j) := by
  by_cases h : i = j
  · subst h; simp
  · rw [decide_eq_false h, decide_eq_false (by omega)]
end
end EW
/-! The rules, the written part named. -/
namespace EW
open PySem PyProof.Rows L2
section
variable {X : Cx} {pos tpos p : Pos} {tg : Expr}
theorem ixK (K : PySem.W.Frag) (h : X.K = K := by rfl) : IxR X (rIx K) := by subst h; exact ix_seq
theorem lenK (K : PySem.W.Frag) (h : X.K = K := by rfl) : CallR X (.builtin "len") (rLenQ K) := by subst h; exact call_len_seq
theorem tupK (K : PySem.W.Frag) (h : X.K = K := by rfl) : CallR X (.type "tuple") (rTupQ K) := by subst h; exact call_tuple_of
theorem isiK (K : PySem.W.Frag) (h : X.K = K := by rfl) : CallR X (.builtin "isinstance") (rIsi K) := by subst h; exact call_isi
theorem allK (K : PySem.W.Frag) (h : X.K = K := by rfl) (hc : X.calm = true := by rfl) : CallR X (.builtin "all") (rAll K) := by subst h; exact cr_all hc
theorem sumK (K : PySem.W.Frag) (h : X.K = K := by rfl) (hc : X.calm = true := by rfl) : CallR X (.builtin "sum") (rSum K) := by subst h; exact cr_sum hc
theorem anyK (K : PySem.W.Frag) (h : X.K = K := by rfl) (hc : X.calm = true := by rfl) : CallR X (.builtin "any") (rAnyI K) := by subst h; exact cr_anyI hc
theorem sortedK (K : PySem.W.Frag) (h : X.K = K := by rfl) : CallR X (.builtin "sorted") (rSortedI K) := by subst h; exact cr_sortedI
abbrev rListQ (K : PySem.W.Frag) : List V → Hp → VK → Prop := fun xs H Q => ∃ p ys, xs = [.ref p] ∧ (SqL K H p ys ∨ SqT K H p ys) ∧ ∀ l, H l = none → Q (.ref l) (upd H l (.lst ys))
theorem listK (K : PySem.W.Frag) (h : X.K = K := by rfl) : CallR X (.type "list") (rListQ K) := by subst h; exact call_list_of
theorem eqDK (K : PySem.W.Frag) (hu : X.A.units + 64 < cLine) (h : X.K = K := by rfl) : OpR X (compareOp .Eq) (rEqD K) := by subst h; exact op_eqD hu
theorem neDK (K : PySem.W.Frag) (hu : X.A.units + 64 < cLine) (h : X.K = K := by rfl) : OpR X (compareOp .NotEq) (rNeD K) := by subst h; exact op_neD hu
theorem inK (K : PySem.W.Frag) (h : X.K = K := by rfl) : OpR X (compareOp .In) (rIn K false) := by subst h; exact op_in_seq
theorem ninK (K : PySem.W.Frag) (h : X.K = K := by rfl) : OpR X (compareOp .NotIn) (rIn K true) := by subst h; exact op_notIn_seq
theorem catK (K : PySem.W.Frag) (h : X.K = K := by rfl) : OpR X (binaryOp .Add) (rCatA K) := by subst h; exact op_catA
theorem countK (K : PySem.W.Frag) (h : X.K = K := by rfl) : MtR X "list.count" (rCntI K) := by subst h; exact mt_lcount
theorem getK (K : PySem.W.Frag) (h : X.K = K := by rfl) : PGet X (rGetL K) := by subst h; exact get_list
theorem slK (K : PySem.W.Frag) (h : X.K = K := by rfl) : L2.SlR X (rSlA K) := by subst h; exact sl_tupA
theorem piTupK (K : PySem.W.Frag) {l : Expr} {tl : TE} (hl : PE X l tl) (h : X.K = K := by rfl) : PI X tg l (iTup K tl) := by subst h; exact pi_tup hl
theorem piListK (K : PySem.W.Frag) {l : Expr} {tl : TE} (hl : PE X l tl) (h : X.K = K := by rfl) : PI X tg l (iList K tl) := by subst h; exact pi_list hl
theorem piZipK (K : PySem.W.Frag) {e e2 : Expr} {ta : TA} {elts : List Expr} {kk : Nat} (hg : Gl X "zip") (hm : X.mg "zip" = none) (ha : PA X [e, e2] ta) (h : X.K = K := by rfl)
    (hs : starEach [e, e2] X.env = (false, eval e X.env) :: starEach [e2] X.env := by rfl) (hpl : (backTo pos (starEach [e2] X.env)).any (·.1) = false := by rfl) : PI X (.Tuple elts kk tpos) (.Call (.Name "zip" p) [e, e2] [] pos) (RZ.iZipA K ta) := by subst h; exact RZ.pi_zipA hg hm ha hs hpl
theorem piEnumK (K : PySem.W.Frag) {e : Expr} {te : TE} {elts : List Expr} {kk : Nat} (hg : Gl X "enumerate") (hm : X.mg "enumerate" = none) (he : PE X e te) (h : X.K = K := by rfl) (hs : starEach [e] X.env = [(false, eval e X.env)] := by rfl) :
    PI X (.Tuple elts kk tpos) (.Call (.Name "enumerate" p) [e] [] pos) (iEnumT K te) := by subst h; exact pi_enumT hg hm he hs
theorem pgTupK (K : PySem.W.Frag) {es : List Expr} {k : Nat} {t : TGs} {n : Nat} (h2 : PGs X es t) (h : X.K = K := by rfl) (hc : X.calm = true := by rfl)
    (hn : (assignEach es X.env).length = n := by rfl) (hst : (assignEach es X.env).findIdx? (·.1) = none := by rfl) : PG X (.Tuple es k pos) (gTup K n t) := by subst h; exact pg_tup hc h2 hn hst
theorem bmK (K : PySem.W.Frag) {o e : Expr} {es : List Expr} {to : TE} {t : TA} {name : Str} {apos cpos : Pos} {T id : String} {r : V → List V → Hp → VK → Prop} (pa : PlainAttrs T) (slot : Slot T name id) (hty : typeOf (.builtin id) = pure (.type "method_descriptor")) (hm : MtR X id r) (ho : PE X o to) (ha : PA X (e :: es) t) (h : X.K = K := by rfl)
    (hbase : attributeBase o name X.env (eval o X.env) = eval o X.env := by rfl)
    (hfew : ((backTo cpos (starEach (e :: es) X.env)).all (fun x => !x.1) && (backToKw cpos (keywordEach [] X.env)).all (fun x => x.1.isSome)
      && decide ((e :: es).length + ([] : List Keyword).length + (if ([] : List Keyword).isEmpty then 0 else 1) < 30)) = true := by rfl)
    (hline : (apos.endLine == cpos.line) = true := by rfl) (hs : starEach (e :: es) X.env = (false, eval e X.env) :: starEach es X.env := by rfl) (hplain : (backTo cpos (starEach es X.env)).any (·.1) = false := by rfl) :
    PE X (.Call (.Attribute o name apos) (e :: es) [] cpos) (tBM K T r to t) := by subst h; exact pe_bm pa slot hty hm ho ha hbase hfew hline hs hplain
theorem bm0K (K : PySem.W.Frag) {o : Expr} {to : TE} {name : Str} {apos cpos : Pos} {T id : String} {r : V → List V → Hp → VK → Prop} (pa : PlainAttrs T) (slot : Slot T name id) (hty : typeOf (.builtin id) = pure (.type "method_descriptor")) (hm : MtR X id r) (ho : PE X o to) (h : X.K = K := by rfl)
    (hbase : attributeBase o name X.env (eval o X.env) = eval o X.env := by rfl) (hline : (apos.endLine == cpos.line) = true := by rfl) : PE X (.Call (.Attribute o name apos) [] [] cpos) (tBM0 K T r to) := by subst h; exact pe_bm0 pa slot hty hm ho hbase hline
end
end EW
/-! The data of the program. -/
namespace EW
open PySem PyProof.Rows L2
def pairN (a : Arr) : PyData := .tuple [.int a.1, .int a.2]
def pairI (b : Bnd) : PyData := .tuple [.int b.1, .int b.2]
def webD (n : Nat) (as : List Arr) : PyData := .tuple [.int n, .tuple (as.map pairN)]
def bndD (bs : List Bnd) : PyData := .tuple (bs.map pairI)
def intsT (ms : List Int) : PyData := .tuple (ms.map .int)
def intsL (ms : List Int) : PyData := .list (ms.map .int)
def stpD (e : Stp) : PyData := .tuple [.int e.1, .int e.2.1, .int e.2.2.1, .int e.2.2.2.1, .int e.2.2.2.2]
def optI : Option Int → PyData
  | none => .none
  | some i => .int i
/-- a web as the law draws it -/
structure Wb (n : Nat) (as : List Arr) : Prop where
  ends : ∀ a ∈ as, a.1 < n ∧ a.2 < n
  lo : 1 ≤ n
  hi : n ≤ 10
  few : as.length ≤ 15
/-- and bounds of it -/
structure WB (n : Nat) (as : List Arr) (bs : List Bnd) : Prop extends Wb n as where
  len : as.length = bs.length
  ord : ∀ b ∈ bs, b.1 ≤ b.2
  sml : ∀ b ∈ bs, -1000000 ≤ b.1 ∧ b.1 ≤ 1000000 ∧ -1000000 ≤ b.2 ∧ b.2 ≤ 1000000
theorem WB.web {n : Nat} {as : List Arr} {bs : List Bnd} (h : WB n as bs) : Web n as bs := ⟨h.ends, h.len, h.ord⟩
def isWhole : PyData → Bool
  | .int _ => true
  | _ => false
def wholes : List PyData → Option (List Int)
  | [] => some []
  | .int i :: ds => (wholes ds).map (i :: ·)
  | _ :: _ => none
/-- the amounts of m arrows -/
def amts (m : Nat) : PyData → Option (List Int)
  | .tuple ds => if ds.length = m then wholes ds else none
  | _ => none
theorem wholes_map : ∀ ms : List Int, wholes (ms.map .int) = some ms
  | [] => rfl
  | i :: ms => by
    show (wholes (ms.map .int)).map (i :: ·) = _
    rw [wholes_map ms]
    rfl
theorem wholes_of : ∀ {ds : List PyData} {ms : List Int}, wholes ds = some ms → ds = ms.map .int
  | [], ms, h => by cases h; rfl
  | .int i :: ds, ms, h => by
    unfold wholes at h
    cases q : wholes ds with
    | none => rw [q] at h; cases h
    | some ns =>
      rw [q] at h
      cases h
      rw [wholes_of q]
      rfl
  | .none :: _, _, h => by cases h
  | .bool _ :: _, _, h => by cases h
  | .str _ :: _, _, h => by cases h
  | .list _ :: _, _, h => by cases h
  | .tuple _ :: _, _, h => by cases h
  | .dict _ :: _, _, h => by cases h
theorem wholes_all : ∀ ds : List PyData, (wholes ds).isSome = ds.all isWhole
  | [] => rfl
  | .int i :: ds => by
    show ((wholes ds).map (i :: ·)).isSome = (true && ds.all isWhole)
    rw [Option.isSome_map, wholes_all ds, Bool.true_and]
  | .none :: _ => rfl
  | .bool _ :: _ => rfl
  | .str _ :: _ => rfl
  | .list _ :: _ => rfl
  | .tuple _ :: _ => rfl
  | .dict _ :: _ => rfl
theorem amts_of {m : Nat} {d : PyData} {ms : List Int} (h : amts m d = some ms) : d = intsT ms ∧ ms.length = m := by
  unfold amts at h
  split at h
  · rename_i ds
    split at h
    · rename_i e
      have := wholes_of h
      subst this
      exact ⟨rfl, by rw [List.length_map] at e; exact e⟩
    · cases h
  · cases h
theorem amts_ints {m : Nat} {ms : List Int} (h : ms.length = m) : amts m (intsT ms) = some ms := by
  unfold amts intsT
  simp only [List.length_map]
  rw [if_pos h, wholes_map]
theorem atI_nat {α : Type} {xs : List α} {i : Nat} {x : α} (h : xs[i]? = some x) : atI xs (i : Int) = some x := by
  have hlt := (List.getElem?_eq_some_iff.mp h).1
  unfold atI ixN
  rw [if_pos (by omega), if_pos (by omega)]
  exact h
theorem ixN_nat {n i : Nat} (h : i < n) : ixN n (i : Int) = some i := by
  unfold ixN
  rw [if_pos (by omega), if_pos (by omega)]
  rfl
end EW
namespace EW
open PySem PyProof.Rows L2
section
variable {K : PySem.W.Frag} {Γ : Ctx} {Ω : List Ob} {ta : TE} {ds : List PyData}
theorem de_allMap {f : PyData → Bool} (h : DE ta Γ Ω (.list (ds.map fun d => .bool (f d)))) : DE (tCB (rAll K) (tCons ta tNil)) Γ Ω (.bool (ds.all f)) := by
  have e : ds.map (fun d => PyData.bool (f d)) = (ds.map f).map .bool := by rw [List.map_map]; rfl
  have e2 : ds.all f = (ds.map f).all id := by rw [List.all_map]; rfl
  rw [e] at h
  rw [e2]
  exact de_all h
end
def between (l : Int) (d : PyData) (h : Int) : Bool := match d with
  | .int i => decide (l ≤ i) && decide (i ≤ h)
  | _ => false
def isTup (m : Nat) : PyData → Bool
  | .tuple ds => decide (ds.length = m)
  | _ => false
end EW
namespace EW
open PySem PyProof.Rows L2
def tabI (n : Nat) (F : Nat → Int) : List PyData := (List.range n).map fun v => .int (F v)
theorem tabI_len (n : Nat) (F : Nat → Int) : (tabI n F).length = n := by unfold tabI; rw [List.length_map, List.length_range]
theorem tabI_get {n : Nat} {F : Nat → Int} {v : Nat} (h : v < n) : (tabI n F)[v]? = some (.int (F v)) := by
  unfold tabI
  rw [List.getElem?_map, List.getElem?_range h]
  rfl
theorem tabI_set {n : Nat} {F : Nat → Int} {x : Nat} {c : Int} : (tabI n F).set x (.int c) = tabI n fun v => if v = x then c else F v := by
  refine List.ext_getElem? fun j => ?_
  by_cases hj : j < n
  · rw [tabI_get hj]
    by_cases e : x = j
    · subst e
      rw [List.getElem?_set_self (by rw [tabI_len]; exact hj), if_pos rfl]
    · rw [List.getElem?_set_ne e, tabI_get hj, if_neg fun z => e z.symm]
  · rw [List.getElem?_eq_none (by rw [List.length_set, tabI_len]; omega), List.getElem?_eq_none (by rw [tabI_len]; omega)]
theorem tabI_congr {n : Nat} {F G : Nat → Int} (h : ∀ v, v < n → F v = G v) : tabI n F = tabI n G := by
  refine List.ext_getElem? fun j => ?_
  by_cases hj : j < n
  · rw [tabI_get hj, tabI_get hj, h j hj]
  · rw [List.getElem?_eq_none (by rw [tabI_len]; omega), List.getElem?_eq_none (by rw [tabI_len]; omega)]
theorem tabI_ints (n : Nat) (F : Nat → Int) : tabI n F = ((List.range n).map F).map .int := by unfold tabI; rw [List.map_map]; rfl
theorem rep_tabI (n : Nat) (c : Int) : List.replicate n (PyData.int c) = tabI n fun _ => c := by
  refine List.ext_getElem? fun j => ?_
  by_cases hj : j < n
  · rw [tabI_get hj, List.getElem?_replicate, if_pos hj]
  · rw [List.getElem?_eq_none (by rw [List.length_replicate]; omega), List.getElem?_eq_none (by rw [tabI_len]; omega)]
theorem zsum_take {α : Type} (G : α → Int → Int) : ∀ (i : Nat) (as : List α) (ms : List Int) (a : α) (c : Int), as[i]? = some a → ms[i]? = some c → zsum G (as.take (i + 1)) (ms.take (i + 1)) = zsum G (as.take i) (ms.take i) + G a c
  | _, [], _, _, _, h, _ => by simp at h
  | _, _ :: _, [], _, _, _, k => by simp at k
  | 0, a0 :: as, m :: ms, a, c, h, k => by
    cases h
    cases k
    show G a0 m + zsum G (as.take 0) (ms.take 0) = zsum G [] [] + G a0 m
    simp [zsum]
  | i + 1, a0 :: as, m :: ms, a, c, h, k => by
    have ih := zsum_take G i as ms a c h k
    show G a0 m + zsum G (as.take (i + 1)) (ms.take (i + 1)) = G a0 m + zsum G (as.take i) (ms.take i) + G a c
    rw [ih]
    omega
theorem arr_at {as : List Arr} {i : Nat} {d : PyData} (h : (as.map pairN)[i]? = some d) : ∃ a, as[i]? = some a ∧ d = pairN a := by
  rw [List.getElem?_map] at h
  cases z : as[i]? with
  | none => rw [z] at h; cases h
  | some a => rw [z] at h; exact ⟨a, rfl, (Option.some.inj h).symm⟩
theorem bnd_at {as : List Bnd} {i : Nat} {d : PyData} (h : (as.map pairI)[i]? = some d) : ∃ a, as[i]? = some a ∧ d = pairI a := by
  rw [List.getElem?_map] at h
  cases z : as[i]? with
  | none => rw [z] at h; cases h
  | some a => rw [z] at h; exact ⟨a, rfl, (Option.some.inj h).symm⟩
theorem int_at {as : List Int} {i : Nat} {d : PyData} (h : (as.map PyData.int)[i]? = some d) : ∃ a, as[i]? = some a ∧ d = .int a := by
  rw [List.getElem?_map] at h
  cases z : as[i]? with
  | none => rw [z] at h; cases h
  | some a => rw [z] at h; exact ⟨a, rfl, (Option.some.inj h).symm⟩
section
variable {K : PySem.W.Frag} {Γ : Ctx} {Ω : List Ob} {te : TE} {n : Nat} {as : List Arr} {i : Nat}
/-- the two parts of a web at slot i -/
theorem de_web0 (h : Γ[i]? = some (.dat (webD n as))) : DE (tOp (rIx K) (tVar i) (tC (.int 0))) Γ Ω (.int n) := de_ixT (de_var h) (de_int 0) rfl
theorem de_web1 (h : Γ[i]? = some (.dat (webD n as))) : DE (tOp (rIx K) (tVar i) (tC (.int 1))) Γ Ω (.tuple (as.map pairN)) := de_ixT (de_var h) (de_int 1) rfl
theorem de_webL (h : Γ[i]? = some (.dat (webD n as))) : DE (tCB (rLenQ K) (tCons (tOp (rIx K) (tVar i) (tC (.int 1))) tNil)) Γ Ω (.int as.length) := by
  have := de_lenT (K := K) (de_web1 (K := K) (Ω := Ω) h)
  rw [List.length_map] at this
  exact this
end
end EW
namespace EW
open PySem PyProof.Rows L2
/-- of small depth, all may be laid -/
def Tame (k : Nat) (d : PyData) : Prop := d.canLay0 = true ∧ d.depth ≤ k
theorem Tame.shaped {k : Nat} {d : PyData} (h : Tame k d) (hk : k ≤ 64 := by decide) : SeqAt.shaped d = true := by
  unfold SeqAt.shaped
  rw [h.1, Bool.true_and]
  exact decide_eq_true (Nat.le_trans h.2 hk)
theorem tame_all : ∀ {ds : List PyData} {k : Nat}, (∀ d ∈ ds, Tame k d) → PyData.canLayAll0 ds = true ∧ PyData.depthAll ds ≤ k
  | [], k, _ => ⟨rfl, Nat.zero_le _⟩
  | d :: ds, k, h => by
    obtain ⟨h1, h2⟩ := tame_all (ds := ds) fun x hx => h x (List.mem_cons_of_mem _ hx)
    obtain ⟨h3, h4⟩ := h d List.mem_cons_self
    refine ⟨?_, ?_⟩
    · show (d.canLay0 && PyData.canLayAll0 ds) = true
      rw [h1, h3]
      rfl
    · show max d.depth (PyData.depthAll ds) ≤ k
      exact Nat.max_le.mpr ⟨h4, h2⟩
theorem tame_int (k : Nat) (i : Int) : Tame k (.int i) := ⟨rfl, Nat.zero_le _⟩
theorem tame_none (k : Nat) : Tame k .none := ⟨rfl, Nat.zero_le _⟩
theorem tame_bool (k : Nat) (b : Bool) : Tame k (.bool b) := ⟨rfl, Nat.zero_le _⟩
theorem tame_tuple {k : Nat} {ds : List PyData} (h : ∀ d ∈ ds, Tame k d) : Tame (k + 1) (.tuple ds) := ⟨(tame_all h).1, Nat.succ_le_succ (tame_all h).2⟩
theorem tame_list {k : Nat} {ds : List PyData} (h : ∀ d ∈ ds, Tame k d) : Tame (k + 1) (.list ds) := ⟨(tame_all h).1, Nat.succ_le_succ (tame_all h).2⟩
theorem Tame.mono {k m : Nat} {d : PyData} (h : Tame k d) (hk : k ≤ m) : Tame m d := ⟨h.1, Nat.le_trans h.2 hk⟩
theorem tame_ints (ms : List Int) : ∀ d ∈ ms.map PyData.int, Tame 0 d := fun d h => by
  obtain ⟨i, _, rfl⟩ := List.mem_map.mp h
  exact tame_int 0 i
theorem eqv_ints : ∀ xs ys : List Int, PyData.eqvAll (xs.map .int) (ys.map .int) = decide (xs = ys)
  | [], [] => rfl
  | [], _ :: _ => rfl
  | _ :: _, [] => rfl
  | x :: xs, y :: ys => by
    show ((x == y) && PyData.eqvAll (xs.map .int) (ys.map .int)) = _
    rw [eqv_ints xs ys]
    by_cases h : x = y
    · subst h
      by_cases k : xs = ys
      · subst k; simp
      · simp [k]
    · simp [h]
theorem eqv_nilL (ds : List PyData) : PyData.eqv (.list ds) (.list []) = ds.isEmpty := by cases ds <;> rfl
section
variable {K : PySem.W.Frag} {Γ : Ctx} {Ω : List Ob} {ta tb : TE} {ds : List PyData} {d2 : PyData}
theorem de_neO {k : Nat} (ha : DOwn ta Γ Ω k) (hb : DE tb Γ Ω d2) (hk : Ω[k]? = some (.lst ds)) (h1 : SeqAt.shaped (.list ds) = true) (h2 : SeqAt.shaped d2 = true) : DE (tOp (rNeD K) ta tb) Γ Ω (.bool (!PyData.eqv (.list ds) d2)) := de_of fun O A σ H s Q q =>
  ha O A σ H s _ fun a hA => hb.run s fun y H' e s r2 => by
    obtain ⟨xs, hx, r⟩ := s.lst hA hk
    exact ⟨.list ds, d2, (rp_list hx (r.ex off_le)).dp, (r2.ex off_le).dp, h1, h2, q _ H' e s (rp_bool _)⟩
/-- every item true -/
theorem de_allT (h : DE ta Γ Ω (.list ds)) (hd : ∀ d ∈ ds, d = .bool true) : DE (tCB (rAll K) (tCons ta tNil)) Γ Ω (.bool true) := by
  have e : ds = (List.replicate ds.length true).map .bool := by
    refine List.ext_getElem? fun j => ?_
    rw [List.getElem?_map, List.getElem?_replicate]
    cases z : ds[j]? with
    | none => rw [if_neg (by have := List.getElem?_eq_none_iff.mp z; omega)]; rfl
    | some d =>
      rw [if_pos (List.getElem?_eq_some_iff.mp z).1, hd d (List.mem_of_getElem? z)]
      rfl
  rw [e] at h
  refine de_is (de_all h) ?_
  congr 1
  rw [List.all_eq_true]
  intro b hb
  exact List.eq_of_mem_replicate hb
end
end EW
namespace EW
open PySem PyProof.Rows L2
def natsL (l : List Nat) : List PyData := l.map fun v : Nat => .int v
theorem natsL_len (l : List Nat) : (natsL l).length = l.length := List.length_map _
theorem natsL_ints (l : List Nat) : natsL l = (l.map fun v : Nat => (v : Int)).map .int := by unfold natsL; rw [List.map_map]; rfl
theorem nat_at {l : List Nat} {i : Nat} {d : PyData} (h : (natsL l)[i]? = some d) : ∃ v, l[i]? = some v ∧ d = .int (v : Nat) := by
  unfold natsL at h
  rw [List.getElem?_map] at h
  cases z : l[i]? with
  | none => rw [z] at h; cases h
  | some a => rw [z] at h; exact ⟨a, rfl, (Option.some.inj h).symm⟩
theorem mem_nats {l : List Nat} {v : Nat} : ((v : Int) ∈ l.map fun u : Nat => (u : Int)) ↔ v ∈ l := by
  constructor
  · intro h
    obtain ⟨u, hu, e⟩ := List.mem_map.mp h
    have : u = v := by omega
    exact this ▸ hu
  · exact fun h => List.mem_map.mpr ⟨v, h, rfl⟩
theorem inV_ints (v : Int) (ns : List Int) : inV (.int v) (ns.map V.int) = decide (v ∈ ns) := by
  unfold inV
  rw [List.any_map]
  by_cases h : v ∈ ns
  · rw [decide_eq_true h, List.any_eq_true]
    exact ⟨v, h, by show (v == v) = true; simp⟩
  · rw [decide_eq_false h, List.any_eq_false]
    intro u hu e
    have : u = v := by simpa using (show (u == v) = true from e)
    exact h (this ▸ hu)
theorem flat_ints (ns : List Int) : (ns.map V.int).all flatV = true := by
  rw [List.all_map, List.all_eq_true]
  intro x _
  rfl
section
variable {K : PySem.W.Frag} {Γ : Ctx} {Ω : List Ob} {ta tb te : TE} {ns : List Int} {v : Int} {ds es : List PyData}
/-- v in xs, of ints -/
theorem de_inO {k : Nat} (ha : DE ta Γ Ω (.int v)) (hb : DOwn tb Γ Ω k) (hk : Ω[k]? = some (.lst (ns.map .int))) : DE (tOp (rIn K false) ta tb) Γ Ω (.bool (decide (v ∈ ns))) := de_of fun O A σ H s Q q =>
  ha.run s fun x H' e s r => hb O A σ H' s _ fun a hA => by
    obtain ⟨xs, hx, rx⟩ := s.lst hA hk
    rw [r.int_of]
    rw [rx.ints_of] at hx
    refine ⟨a, _, rfl, .inl (SqL.of hx), rfl, flat_ints ns, ?_⟩
    rw [inV_ints]
    exact q _ H' e s (rp_bool _)
theorem de_ninO {k : Nat} (ha : DE ta Γ Ω (.int v)) (hb : DOwn tb Γ Ω k) (hk : Ω[k]? = some (.lst (ns.map .int))) : DE (tOp (rIn K true) ta tb) Γ Ω (.bool (!decide (v ∈ ns))) := de_of fun O A σ H s Q q =>
  ha.run s fun x H' e s r => hb O A σ H' s _ fun a hA => by
    obtain ⟨xs, hx, rx⟩ := s.lst hA hk
    rw [r.int_of]
    rw [rx.ints_of] at hx
    refine ⟨a, _, rfl, .inl (SqL.of hx), rfl, flat_ints ns, ?_⟩
    show Q (.bl (!inV _ _)) H'
    rw [inV_ints]
    exact q _ H' e s (rp_bool _)
/-- xs.count(v), of ints -/
theorem de_count (ha : DE ta Γ Ω (.list (ns.map .int))) (hb : DE tb Γ Ω (.int v)) : DE (tBM K "list" (rCntI K) ta (tCons tb tNil)) Γ Ω (.int (ns.count v : Nat)) := de_of fun O A σ H s Q q =>
  ha.run s fun x H1 e1 s1 r1 => by
    obtain ⟨a, xs, rfl, hx, rx⟩ := r1.list_of
    have hx := off_of hx
    rw [rx.ints_of] at hx
    refine ⟨tyL hx.2, hb.run s1 fun y H2 e2 s2 r2 => ?_⟩
    rw [r2.int_of]
    exact ⟨a, ns, v, rfl, rfl, SqL.of (e2 _ _ (fun z => hx.1 (List.mem_append_right _ z)) hx.2), q _ H2 (e1.trans e2) s2 (rp_int _)⟩
end
section
variable {K : PySem.W.Frag} {H0 : Hp} {O A0 : List Addr} {Ω : List Ob} {Γ Γ' : Ctx} {σ : L2.St} {H : Hp} {nx : L2.St → Hp → Prop} {rt : VK} {bk ct : L2.St → Hp → Prop} {te : TE} {ds es : List PyData} {k i : Nat}
/-- x += new list, x owned at slot i -/
theorem st_ext (h : DE te Γ Ω (.list es)) (hi : Γ[i]? = some (.own k)) (hk : Ω[k]? = some (.lst ds)) (hl : ds.length + es.length ≤ 100000) (s : At H0 O A0 Ω Γ σ H)
    (q : ∀ σ' H', At H0 O A0 (Ω.set k (.lst (ds ++ es))) (Γ.set i (.own k)) σ' H' → nx σ' H') : tAug i te rExt2 ⟨nx, rt, bk, ct⟩ σ H := by
  obtain ⟨B, w, h1, h2⟩ := s
  obtain ⟨o, ho, a, ha, rfl⟩ := w.sl.el i _ hi
  refine ⟨.ref a, ho, h.run w fun y H' e s r => ?_⟩
  obtain ⟨b, zs, rfl, hz, rz⟩ := r.list_of
  obtain ⟨xs, hx, rx⟩ := s.lst ha hk
  refine ⟨a, b, xs, zs, rfl, rfl, hx, (off_of hz).2, by rw [rx.length, rz.length]; exact sz100 hl, q _ _ ⟨B, ?_, h1, At.fr h1 h2 (e.trans (fr_upd (List.mem_of_getElem? ha)))⟩⟩
  exact (s.mut ha (o := .lst (ds ++ es)) ⟨_, upd_same, RpL.append rx rz⟩).put i ⟨a, ha, rfl⟩
end
end EW
namespace EW
open PySem PyProof.Rows L2
/-! ### slices of tuples -/
def cutL {α : Type} (xs : List α) (lo hi : Option Int) : List α := (xs.drop (HT.sIx xs.length 0 lo)).take (HT.sIx xs.length xs.length hi - HT.sIx xs.length 0 lo)
def DO (to : TO) (Γ : Ctx) (Ω : List Ob) (o : Option Int) : Prop := ∀ O A σ H, Wd O A Ω Γ σ H → ∀ Q : Option Int → Hp → Prop, (∀ H', Fr A H H' → Wd O A Ω Γ σ H' → Q o H') → to σ H Q
section
variable {K : PySem.W.Frag} {Γ : Ctx} {Ω : List Ob} {ta te : TE} {tl th : TO} {ds : List PyData} {lo hi : Option Int}
theorem do_no : DO tNoPart Γ Ω none := fun O A σ H s Q q => q H (Fr.refl A H) s
theorem do_some {i : Int} (h : DE te Γ Ω (.int i)) : DO (tPart te) Γ Ω (some i) := fun O A σ H s Q q => h.run s fun x H' e s r => ⟨i, r.int_of, q H' e s⟩
theorem de_slT (h : DE ta Γ Ω (.tuple ds)) (h1 : DO tl Γ Ω lo) (h2 : DO th Γ Ω hi) : DE (tSl (rSlA K) ta tl th) Γ Ω (.tuple (cutL ds lo hi)) := de_of fun O A σ H s Q q =>
  h.run s fun x H1 e1 s1 r1 => h1 O A σ H1 s1 _ fun H2 e2 s2 => h2 O A σ H2 s2 _ fun H3 e3 s3 => by
    have r3 := (r1.ex (vw e2)).ex (vw e3)
    obtain ⟨a, xs, rfl, hx, rx⟩ := r3.tuple_of
    have hl := rx.length
    refine ⟨a, xs, rfl, SqT.of (off_of hx).2, fun ⟨q1, q2⟩ => ?_, fun _ p hp => ?_⟩
    · have e : cutL ds lo hi = ds := by
        unfold cutL
        rw [← hl, q1, q2, List.drop_zero, Nat.sub_zero, hl, List.take_length]
      have := q (.ref a) H3 ((e1.trans e2).trans e3) s3
      rw [e] at this
      exact this r3
    · obtain ⟨a1, a2, a3, a4⟩ := s3.alloc (o := .tup (cutV xs lo hi)) hp
      refine q _ _ (((e1.trans e2).trans e3).trans a2) a1 (rp_tuple a4 ?_)
      unfold cutV cutL
      rw [← hl]
      exact (RpL.take (RpL.drop rx _) _).ex a3
end
def optN : Option Nat → PyData
  | none => .none
  | some v => .int (v : Nat)
def optS : Option Stp → PyData
  | none => .none
  | some e => stpD e
theorem stp_at {l : List Stp} {i : Nat} {d : PyData} (h : (l.map stpD)[i]? = some d) : ∃ e, l[i]? = some e ∧ d = stpD e := by
  rw [List.getElem?_map] at h
  cases z : l[i]? with
  | none => rw [z] at h; cases h
  | some a => rw [z] at h; exact ⟨a, rfl, (Option.some.inj h).symm⟩
theorem lf_at {ls : List (Option Stp)} {v : Nat} {e : Stp} (h : lf ls v = some e) : (ls.map optS)[v]? = some (stpD e) := by
  unfold lf at h
  rw [List.getElem?_map]
  cases z : ls[v]? with
  | none => rw [z] at h; cases h
  | some o =>
    rw [z] at h
    have h : o = some e := h
    rw [h]
    rfl
end EW
namespace EW
open PySem PyProof.Rows L2
def topS (i : Nat) : Stmt := PySem.Challenge.pw_everyflow_k76_whole_pulls_within_or_a_ba.main.body.getD i (.Pass ⟨0, 0, 0, 0⟩)
structure Bl (mg : Str → Option Value) : Prop where
  m_abs : mg "abs" = none
  m_all : mg "all" = none
  m_any : mg "any" = none
  m_bool : mg "bool" = none
  m_enumerate : mg "enumerate" = none
  m_int : mg "int" = none
  m_isinstance : mg "isinstance" = none
  m_len : mg "len" = none
  m_list : mg "list" = none
  m_range : mg "range" = none
  m_repr : mg "repr" = none
  m_set : mg "set" = none
  m_sorted : mg "sorted" = none
  m_sum : mg "sum" = none
  m_tuple : mg "tuple" = none
  m_zip : mg "zip" = none
structure Cn (mg : Str → Option Value) : Prop where
  m_MOST_ARROWS : ∃ t, mg "MOST_ARROWS" = some (.int 15 t)
  m_MOST_BOUND : ∃ t, mg "MOST_BOUND" = some (.int 1000000 t)
  m_MOST_PLACES : ∃ t, mg "MOST_PLACES" = some (.int 10 t)
/-- mg of a def's context -/
theorem pe_globI {X : Cx} {x : Str} {i : Int} {pos : Pos} (hg : Gl X x) (hm : ∃ t, X.mg x = some (.int i t)) (hd : (x == ("__debug__" : Str)) = false := by decide) : PE X (.Name x pos) (tC (.int i)) := by
  obtain ⟨t, h⟩ := hm
  exact pe_glob hg h ⟨t, rfl⟩ hd
end EW
/-! grounds, webs -/
namespace EW
open PySem PyProof.Rows L2
section
variable {P : Program} {w : World} {K : PySem.W.Frag} {mg : Str → Option Value} {base : Heap}
abbrev s_is_integer : Stmt := topS 9
abbrev N_is_integer : List Str := ["value"]
theorem sc_is_integer : FnScope N_is_integer ["value"] (defScope s_is_integer) := ⟨rfl, rfl, rfl, by decide +kernel, rfl, by decide +kernel, by decide +kernel⟩
abbrev Q_is_integer (P : Program) (w : World) (K : PySem.W.Frag) (mg : Str → Option Value) (base : Heap) : Prop := Df P w K mg base CX0 1 "is_integer" s_is_integer ["value"] (SpG (fun d : PyData => [d]) (fun _ => True) fun d r => r = .bool (isWhole d))
theorem df_is_integer (B : Bl mg) (F : Fx K mg "is_integer" s_is_integer) : Q_is_integer P w K mg base := by
  refine df_of F sc_is_integer (fun _ _ F => F.binds fun _ _ _ _ _ _ us hl => match us, hl with | [_], _ => rfl) (fun _ => rfl) fun f cdv A outer s H Q E O d σ hr _ a q => ?_
  refine ⟨_, (pss_one (ps_ret (pe_and (pe_callB (isiK K) (by rfl) B.m_isinstance (by decide +kernel) (pa_cons (pv 0) (pa_cons (pe_bltn (v := .ty "int") (by rfl) B.m_int (by decide +kernel) rfl) pa_nil))) (pe_one (pe_not (pe_callB (isiK K) (by rfl) B.m_isinstance (by decide +kernel) (pa_cons (pv 0) (pa_cons (pe_bltn (v := .ty "bool") (by rfl) B.m_bool (by decide +kernel) rfl) pa_nil)))))))), ?_⟩
  refine st_ret (de_is (de_andV (de_isInt (de_var rfl)) fun _ => de_notV (de_isBool (de_var rfl))) (d1 := .bool (isWhole d)) ?_) a fun v H' a' r => q _ _ _ _ _ _ a' r rfl
  cases d <;> rfl
abbrev s_is_between : Stmt := topS 10
abbrev N_is_between : List Str := ["low", "value", "high"]
theorem sc_is_between : FnScope N_is_between ["low", "value", "high"] (defScope s_is_between) := ⟨rfl, rfl, rfl, by decide +kernel, rfl, by decide +kernel, by decide +kernel⟩
abbrev Q_is_between (P : Program) (w : World) (K : PySem.W.Frag) (mg : Str → Option Value) (base : Heap) : Prop := Df P w K mg base CX0 2 "is_between" s_is_between ["low", "value", "high"] (SpG (fun x : Int × PyData × Int => [.int x.1, x.2.1, .int x.2.2]) (fun _ => True) fun x r => r = .bool (between x.1 x.2.1 x.2.2))
theorem df_is_between (B : Bl mg) (F : Fx K mg "is_between" s_is_between) (D_is_integer : Q_is_integer P w K mg base) : Q_is_between P w K mg base := by
  refine df_of F sc_is_between (fun _ _ F => F.binds fun _ _ _ _ _ _ us hl => match us, hl with | [_, _, _], _ => rfl) (fun _ => rfl) fun f cdv A outer s H Q E O x σ hr _ a q => ?_
  obtain ⟨l, d, h⟩ := x
  refine ⟨_, (pss_one (ps_ret (pe_and (pe_df D_is_integer (hr.mono (by decide)) (by rfl) (pa_cons (pv 1) pa_nil)) (pe_one (pe_chain op_le op_le (pv 0) (pv 1) (pv 2)))))), ?_⟩
  refine st_ret (d := .bool (between l d h)) ?_ a fun v H' a' r => q _ _ _ _ _ _ a' r rfl
  cases z : isWhole d with
  | true =>
    cases d with
    | int i => exact de_andV (a := true) (de_callG (PyData.int i) (da_cons (de_var rfl) da_nil) trivial) fun _ => de_chain (de_var rfl) (de_var rfl) (de_var rfl)
    | _ => cases z
  | false =>
    refine de_is (de_andV (a := false) (b := false) (de_is (de_callG d (da_cons (de_var rfl) da_nil) trivial) (by rw [z])) fun z => nomatch z) ?_
    cases d <;> first | rfl | cases z
abbrev s_is_tuple_of : Stmt := topS 11
abbrev N_is_tuple_of : List Str := ["many", "value"]
theorem sc_is_tuple_of : FnScope N_is_tuple_of ["many", "value"] (defScope s_is_tuple_of) := ⟨rfl, rfl, rfl, by decide +kernel, rfl, by decide +kernel, by decide +kernel⟩
abbrev Q_is_tuple_of (P : Program) (w : World) (K : PySem.W.Frag) (mg : Str → Option Value) (base : Heap) : Prop := Df P w K mg base CX0 1 "is_tuple_of" s_is_tuple_of ["many", "value"] (SpG (fun x : Nat × PyData => [.int x.1, x.2]) (fun _ => True) fun x r => r = .bool (isTup x.1 x.2))
theorem df_is_tuple_of (B : Bl mg) (F : Fx K mg "is_tuple_of" s_is_tuple_of) : Q_is_tuple_of P w K mg base := by
  refine df_of F sc_is_tuple_of (fun _ _ F => F.binds fun _ _ _ _ _ _ us hl => match us, hl with | [_, _], _ => rfl) (fun _ => rfl) fun f cdv A outer s H Q E O x σ hr _ a q => ?_
  obtain ⟨m, d⟩ := x
  refine ⟨_, (pss_one (ps_ret (pe_and (pe_callB (isiK K) (by rfl) B.m_isinstance (by decide +kernel) (pa_cons (pv 1) (pa_cons (pe_bltn (v := .ty "tuple") (by rfl) B.m_tuple (by decide +kernel) rfl) pa_nil))) (pe_one (pe_cmpR op_eq (pe_callB (lenK K) (by rfl) B.m_len (by decide +kernel) (pa_cons (pv 1) pa_nil)) (pv 0) (nomark _)))))), ?_⟩
  refine st_ret (d := .bool (isTup m d)) ?_ a fun v H' a' r => q _ _ _ _ _ _ a' r rfl
  cases z : isiB "tuple" d with
  | true =>
    cases d with
    | tuple ds =>
      refine de_is (de_andV (a := true) (de_is (de_isTuple (de_var rfl)) rfl) fun _ => de_eqI (de_lenT (de_var rfl)) (de_var rfl)) ?_
      show PyData.bool (true && decide ((ds.length : Int) = (m : Int))) = PyData.bool (decide (ds.length = m))
      rw [Bool.true_and, natI]
    | _ => cases z
  | false =>
    refine de_is (de_andV (a := false) (b := false) (de_is (de_isTuple (de_var rfl)) (by rw [z])) fun z => nomatch z) ?_
    cases d <;> first | rfl | cases z
abbrev s_is_web : Stmt := topS 13
abbrev N_is_web : List Str := ["value", "arrow"]
theorem sc_is_web : FnScope N_is_web ["value"] (defScope s_is_web) := ⟨rfl, rfl, rfl, by decide +kernel, rfl, by decide +kernel, by decide +kernel⟩
abbrev Q_is_web (P : Program) (w : World) (K : PySem.W.Frag) (mg : Str → Option Value) (base : Heap) : Prop := Df P w K mg base CX0 3 "is_web" s_is_web ["value"] (SpG (fun x : Nat × List Arr => [webD x.1 x.2]) (fun x => Wb x.1 x.2) fun x r => r = .bool true)
theorem df_is_web (B : Bl mg) (C : Cn mg) (F : Fx K mg "is_web" s_is_web) (D_is_between : Q_is_between P w K mg base) (D_is_tuple_of : Q_is_tuple_of P w K mg base) : Q_is_web P w K mg base := by
  refine df_of F sc_is_web (fun _ _ F => F.binds fun _ _ _ _ _ _ us hl => match us, hl with | [_], _ => rfl) (fun _ => rfl) fun f cdv A outer s H Q E O x σ hr W a q => ?_
  obtain ⟨n, as⟩ := x
  have W : Wb n as := W
  refine ⟨_, (pss_cons (ps_if (PW.pt (pw_or (pt_not (pt_val (pe_df D_is_tuple_of (hr.mono (by decide)) (by rfl) (pa_cons pe_int (pa_cons (pv 0) pa_nil))))) (pw_or (pt_not (pt_val (pe_df D_is_between (hr.mono (by decide)) (by rfl) (pa_cons pe_int (pa_cons (pe_ix (ixK K) (pv 0) pe_int (fun _ _ => rfl)) (pa_cons (pe_globI rfl C.m_MOST_PLACES) pa_nil)))))) (pw_or1 (pt_not (pt_val (pe_callB (isiK K) (by rfl) B.m_isinstance (by decide +kernel) (pa_cons (pe_ix (ixK K) (pv 0) pe_int (fun _ _ => rfl)) (pa_cons (pe_bltn (v := .ty "tuple") (by rfl) B.m_tuple (by decide +kernel) rfl) pa_nil)))))))))
          (pss_one (ps_ret pe_bl))
          pss_nil)
        (pss_cons (ps_if (PW.pt (pw_or (pt_cmpR op_gt (pe_callB (lenK K) (by rfl) B.m_len (by decide +kernel) (pa_cons (pe_ix (ixK K) (pv 0) pe_int (fun _ _ => rfl)) pa_nil)) (pe_globI rfl C.m_MOST_ARROWS) (nomark _)) (pw_or1 (pt_not (pt_val (pe_callB (allK K) (by rfl) B.m_all (by decide +kernel) (pa_cons (pe_lc (own := [("arrow", 1)]) rfl sc_is_web.nd (piTupK K (pe_ix (ixK K) (pv 0) pe_int (fun _ _ => rfl))) (blkOk_by (N := N_is_web) (sc := defScope s_is_web) (own := [("arrow", 1)]) (by decide +kernel)) (fun _ _ _ _ _ => (pg_name (i := 1) sc_is_web.nd rfl (Or.inl rfl))) (fun _ _ _ _ _ => pts_nil) (fun _ _ _ _ _ => (pe_df D_is_tuple_of (hr.mono (by decide)) (by rfl) (pa_cons pe_int (pa_cons (pv 1) pa_nil))))) pa_nil)))))))
          (pss_one (ps_ret pe_bl))
          pss_nil)
        (pss_one (ps_ret (pe_callB (allK K) (by rfl) B.m_all (by decide +kernel) (pa_cons (pe_lc (own := [("arrow", 1)]) rfl sc_is_web.nd (piTupK K (pe_ix (ixK K) (pv 0) pe_int (fun _ _ => rfl))) (blkOk_by (N := N_is_web) (sc := defScope s_is_web) (own := [("arrow", 1)]) (by decide +kernel)) (fun _ _ _ _ _ => (pg_name (i := 1) sc_is_web.nd rfl (Or.inl rfl))) (fun _ _ _ _ _ => pts_nil) (fun _ _ _ _ _ => (pe_and (pe_df D_is_between (hr.mono (by decide)) (by rfl) (pa_cons pe_int (pa_cons (pe_ix (ixK K) (pv 1) pe_int (fun _ _ => rfl)) (pa_cons (pe_op op_sub (pe_ix (ixK K) (pv 0) pe_int (fun _ _ => rfl)) pe_int) pa_nil)))) (pe_one (pe_df D_is_between (hr.mono (by decide)) (by rfl) (pa_cons pe_int (pa_cons (pe_ix (ixK K) (pv 1) pe_int (fun _ _ => rfl)) (pa_cons (pe_op op_sub (pe_ix (ixK K) (pv 0) pe_int (fun _ _ => rfl)) pe_int) pa_nil)))))))) pa_nil)))))), ?_⟩
  have dw : ∀ {Γ : Ctx} {Ω : List Ob}, Γ[0]? = some (.dat (webD n as)) → DE (tOp (rIx K) (tVar 0) (tC (.int 0))) Γ Ω (.int n) ∧ DE (tOp (rIx K) (tVar 0) (tC (.int 1))) Γ Ω (.tuple (as.map pairN)) := fun h => ⟨de_ixT (de_var h) (de_int 0) rfl, de_ixT (de_var h) (de_int 1) rfl⟩
  refine st_seq (st_if (b := false) (dt_or2 (dtN (dtB (b := true) (de_callG (2, webD n as) (da_cons (de_int 2) (da_cons (de_var rfl) da_nil)) trivial)))
    (dt_or2 (dtN (dtB (b := true) (de_callG (1, PyData.int n, 10) (da_cons (de_int 1) (da_cons (dw rfl).1 (da_cons (de_int 10) da_nil))) trivial) ?_)) (dtN (dtB (b := true) (de_isTuple (dw rfl).2))))) a (fun _ z => nomatch z) fun H1 _ a => st_next ?_)
  · have h1 := W.lo
    have h2 := W.hi
    show PyData.bool (decide ((1 : Int) ≤ (n : Int)) && decide ((n : Int) ≤ 10)) = .bool true
    rw [decide_eq_true (by omega), decide_eq_true (by omega)]
    rfl
  refine st_seq (st_if (b := false) (dt_or2 (dtT (b := false) (de_I0 (de_lenT (dw rfl).2) (de_int 15)) ?_) (dtN (dtB (b := true) (de_allMap (f := isTup 2) (dn_lcA _ (di_tup (dw rfl).2) ?_ fun i d hd => ⟨_, dg_name, de_callG (2, d) (da_cons (de_int 2) (da_cons (de_var rfl) da_nil)) trivial⟩).de) ?_))) a (fun _ z => nomatch z) fun H2 _ a => st_next ?_)
  · have h1 := W.few
    rw [List.length_map, decide_eq_false (by omega)]
  · have h1 := W.few
    rw [List.length_map]
    omega
  · congr 1
    rw [List.all_map, List.all_eq_true]
    intro x _
    rfl
  refine st_ret (d := .bool true) (de_is (de_allMap (f := fun d => match d with | .tuple [x, y] => between 0 x (n - 1) && between 0 y (n - 1) | _ => false) (dn_lcA _ (di_tup (dw rfl).2) ?_ fun i d hd => ?_).de) ?_) a fun v H' a' r => q _ _ _ _ _ _ a' r rfl
  · have h1 := W.few
    rw [List.length_map]
    omega
  · rw [List.getElem?_map] at hd
    cases z : as[i]? with
    | none => rw [z] at hd; cases hd
    | some e =>
      rw [z] at hd
      cases hd
      refine ⟨_, dg_name, de_andV (de_callG (0, PyData.int e.1, ((n : Int) - 1)) (da_cons (de_int 0) (da_cons (de_ixT (de_var rfl) (de_int 0) rfl) (da_cons (de_I0 (dw rfl).1 (de_int 1)) da_nil))) trivial) fun _ =>
        de_callG (0, PyData.int e.2, ((n : Int) - 1)) (da_cons (de_int 0) (da_cons (de_ixT (de_var rfl) (de_int 1) rfl) (da_cons (de_I0 (dw rfl).1 (de_int 1)) da_nil))) trivial⟩
  · congr 1
    rw [List.all_map, List.all_eq_true]
    intro e he
    have := W.ends e he
    show (decide ((0 : Int) ≤ (e.1 : Int)) && decide ((e.1 : Int) ≤ (n : Int) - 1) && (decide ((0 : Int) ≤ (e.2 : Int)) && decide ((e.2 : Int) ≤ (n : Int) - 1))) = true
    rw [decide_eq_true (by omega), decide_eq_true (by omega), decide_eq_true (by omega), decide_eq_true (by omega)]
    rfl
end
end EW
/-! webs: checks, flows -/
namespace EW
open PySem PyProof.Rows L2
section
variable {P : Program} {w : World} {K : PySem.W.Frag} {mg : Str → Option Value} {base : Heap}
abbrev s_check_web : Stmt := topS 14
abbrev N_check_web : List Str := ["web"]
theorem sc_check_web : FnScope N_check_web ["web"] (defScope s_check_web) := ⟨rfl, rfl, rfl, by decide +kernel, rfl, by decide +kernel, by decide +kernel⟩
abbrev Q_check_web (P : Program) (w : World) (K : PySem.W.Frag) (mg : Str → Option Value) (base : Heap) : Prop := Df P w K mg base CX0 4 "check_web" s_check_web ["web"] (SpG (fun x : Nat × List Arr => [webD x.1 x.2]) (fun x => Wb x.1 x.2) fun x r => r = .none)
theorem df_check_web (F : Fx K mg "check_web" s_check_web) (D_is_web : Q_is_web P w K mg base) : Q_check_web P w K mg base := by
  refine df_of F sc_check_web (fun _ _ F => F.binds fun _ _ _ _ _ _ us hl => match us, hl with | [_], _ => rfl) (fun _ => rfl) fun f cdv A outer s H Q E O x σ hr W a q => ?_
  refine ⟨_, (pss_one (ps_if (pt_not (pt_val (pe_df D_is_web (hr.mono (by decide)) (by rfl) (pa_cons (pv 0) pa_nil))))
          (pss_one ps_never)
          pss_nil)), ?_⟩
  exact st_if (b := false) (dtN (dtB (de_callG x (da_cons (de_var rfl) da_nil) W))) a (fun _ z => nomatch z) fun H1 _ a => st_next (q .non _ _ _ _ _ a rp_none rfl)
abbrev s_check_arrow : Stmt := topS 15
abbrev N_check_arrow : List Str := ["web", "arrow"]
theorem sc_check_arrow : FnScope N_check_arrow ["web", "arrow"] (defScope s_check_arrow) := ⟨rfl, rfl, rfl, by decide +kernel, rfl, by decide +kernel, by decide +kernel⟩
abbrev Q_check_arrow (P : Program) (w : World) (K : PySem.W.Frag) (mg : Str → Option Value) (base : Heap) : Prop := Df P w K mg base CX0 3 "check_arrow" s_check_arrow ["web", "arrow"] (SpG (fun x : Nat × List Arr × Nat => [webD x.1 x.2.1, .int x.2.2]) (fun x => x.2.2 < x.2.1.length) fun x r => r = .none)
theorem df_check_arrow (B : Bl mg) (F : Fx K mg "check_arrow" s_check_arrow) (D_is_between : Q_is_between P w K mg base) : Q_check_arrow P w K mg base := by
  refine df_of F sc_check_arrow (fun _ _ F => F.binds fun _ _ _ _ _ _ us hl => match us, hl with | [_, _], _ => rfl) (fun _ => rfl) fun f cdv A outer s H Q E O x σ hr W a q => ?_
  obtain ⟨n, as, k⟩ := x
  have W : k < as.length := W
  refine ⟨_, (pss_one (ps_if (pt_not (pt_val (pe_df D_is_between (hr.mono (by decide)) (by rfl) (pa_cons pe_int (pa_cons (pv 1) (pa_cons (pe_op op_sub (pe_callB (lenK K) (by rfl) B.m_len (by decide +kernel) (pa_cons (pe_ix (ixK K) (pv 0) pe_int (fun _ _ => rfl)) pa_nil)) pe_int) pa_nil))))))
          (pss_one ps_never)
          pss_nil)), ?_⟩
  refine st_if (b := false) (dtN (dtB (b := true) (de_callG (0, PyData.int k, (as.length : Int) - 1) (da_cons (de_int 0) (da_cons (de_var rfl) (da_cons (de_I0 (de_webL rfl) (de_int 1)) da_nil))) trivial) ?_)) a (fun _ z => nomatch z) fun H1 _ a => st_next (q .non _ _ _ _ _ a rp_none rfl)
  show PyData.bool (decide ((0 : Int) ≤ (k : Int)) && decide ((k : Int) ≤ (as.length : Int) - 1)) = .bool true
  rw [decide_eq_true (by omega), decide_eq_true (by omega)]
  rfl
abbrev s_excess_of : Stmt := topS 16
abbrev N_excess_of : List Str := ["web", "amounts", "found", "x", "y", "amount"]
theorem sc_excess_of : FnScope N_excess_of ["web", "amounts"] (defScope s_excess_of) := ⟨rfl, rfl, rfl, by decide +kernel, rfl, by decide +kernel, by decide +kernel⟩
abbrev Q_excess_of (P : Program) (w : World) (K : PySem.W.Frag) (mg : Str → Option Value) (base : Heap) : Prop := Df P w K mg base CX0 1 "excess_of" s_excess_of ["web", "amounts"] (SpG (fun x : Nat × List Arr × List Int => [webD x.1 x.2.1, intsT x.2.2]) (fun x => Wb x.1 x.2.1 ∧ x.2.2.length = x.2.1.length) fun x r => r = .list (tabI x.1 fun v => exc x.2.1 x.2.2 v))
theorem df_excess_of (B : Bl mg) (F : Fx K mg "excess_of" s_excess_of) : Q_excess_of P w K mg base := by
  refine df_of F sc_excess_of (fun _ _ F => F.binds fun _ _ _ _ _ _ us hl => match us, hl with | [_, _], _ => rfl) (fun _ => rfl) fun f cdv A outer s H Q E O x σ hr W a q => ?_
  obtain ⟨n, as, ms⟩ := x
  obtain ⟨W, hl⟩ : Wb n as ∧ ms.length = as.length := W
  refine ⟨_, (pss_cons (ps_set (i := 2) sc_excess_of.nd rfl (Or.inl rfl) (pe_op op_rep (pe_lst (pa_cons pe_int pa_nil)) (pe_ix (ixK K) (pv 0) pe_int (fun _ _ => rfl))))
        (pss_cons (ps_for PassesOwn.never rfl (piZipK K (by rfl) B.m_zip (pa_cons (pe_ix (ixK K) (pv 0) pe_int (fun _ _ => rfl)) (pa_cons (pv 1) pa_nil))) (pgTupK K (n := 2) (pgs_cons (pgTupK K (n := 2) (pgs_cons (pg_name (i := 3) sc_excess_of.nd rfl (Or.inl rfl)) (pgs_cons (pg_name (i := 4) sc_excess_of.nd rfl (Or.inl rfl)) pgs_nil))) (pgs_cons (pg_name (i := 5) sc_excess_of.nd rfl (Or.inl rfl)) pgs_nil)))
          (pss_cons (ps_augS (pv 2) (pv 3) (getK K) (pv 5) ip_add set_list)
          (pss_one (ps_augS (pv 2) (pv 4) (getK K) (pv 5) ip_sub set_list))))
        (pss_one (ps_ret (pv 2))))), ?_⟩
  refine st_seq (st_setN (dn_is (dn_rep (de_lst (da_cons (de_int 0) da_nil)) (de_web0 rfl) (by have := W.hi; omega)) (rep_tabI n 0)) a fun σ H a => ?_)
  refine st_seq (st_for (α := Unit) (di_zip (de_web1 rfl) (de_var rfl) (by rw [List.length_map, List.length_map, hl])) a fun ds e => ?_)
  subst e
  refine ⟨fun _ _ => True, fun i _ => [.dat (webD n as), .dat (intsT ms), .own 0, .no, .no, .no], fun i _ => [.lst (tabI n fun v => exc (as.take i) (ms.take i) v)], (), trivial, rfl, ?_, fun _ _ => rfl, fun i _ d hd _ => ?_, fun _ _ σ H a => ?_⟩
  · show [Ob.lst _] = [Ob.lst _]
    congr 2
  · obtain ⟨_, _, h1, h2, rfl⟩ := pairs_at hd
    obtain ⟨e, he, rfl⟩ := arr_at h1
    obtain ⟨c, hc, rfl⟩ := int_at h2
    have hen := W.ends e (List.mem_of_getElem? he)
    refine ⟨[3, 4, 5], _, dg_tup (dgs_cons (dg_tup (dgs_cons dg_name (dgs_cons dg_name dgs_nil))) (dgs_cons dg_name dgs_nil)), fun H1 A _ _ N σ H hN a => ?_⟩
    refine st_seq (st_aug (f := fun i j => i + j) (n := e.1) (do_var rfl) (de_var rfl) (de_var rfl) rfl (tabI_get hen.1) a fun σ H a => ?_)
    rw [tabI_set] at a
    refine st_aug (f := fun i j => i - j) (n := e.2) (do_var rfl) (de_var rfl) (de_var rfl) rfl (tabI_get hen.2) a fun σ H a => hN σ H () trivial ?_
    rw [tabI_set] at a
    have e3 : (tabI n fun v => if v = e.2 then (if e.2 = e.1 then exc (as.take i) (ms.take i) e.1 + c else exc (as.take i) (ms.take i) e.2) - c else if v = e.1 then exc (as.take i) (ms.take i) e.1 + c else exc (as.take i) (ms.take i) v) = tabI n fun v => exc (as.take (i + 1)) (ms.take (i + 1)) v := tabI_congr fun v _ => by
      unfold exc
      rw [zsum_take _ i as ms e c he hc]
      unfold exG
      by_cases p1 : e.1 = v
      · by_cases p2 : e.2 = v
        · rw [if_pos p2.symm, if_pos (p2.trans p1.symm), if_pos p1, if_pos p2, p1]
          omega
        · rw [if_neg fun z => p2 z.symm, if_pos p1.symm, if_pos p1, if_neg p2, p1]
          omega
      · by_cases p2 : e.2 = v
        · rw [if_pos p2.symm, if_neg fun z => p1 (z.symm.trans p2), if_neg p1, if_pos p2, p2]
          omega
        · rw [if_neg fun z => p2 z.symm, if_neg fun z => p1 z.symm, if_neg p1, if_neg p2]
          omega
    rw [e3] at a
    exact a.no [3, 4, 5]
  · rw [pairs_len (by rw [List.length_map, List.length_map, hl]), List.length_map] at a
    change At _ _ _ [.lst (tabI n fun v => exc (as.take as.length) (ms.take as.length) v)] _ _ _ at a
    rw [List.take_length, ← hl, List.take_length] at a
    exact st_ret (de_var rfl) (a.release (Ω := []) (Nat.le_refl _)) fun v H' a' r => q _ _ _ _ _ _ a' r rfl
abbrev s_are_amounts : Stmt := topS 17
abbrev N_are_amounts : List Str := ["web", "value", "amount"]
theorem sc_are_amounts : FnScope N_are_amounts ["web", "value"] (defScope s_are_amounts) := ⟨rfl, rfl, rfl, by decide +kernel, rfl, by decide +kernel, by decide +kernel⟩
abbrev Q_are_amounts (P : Program) (w : World) (K : PySem.W.Frag) (mg : Str → Option Value) (base : Heap) : Prop := Df P w K mg base CX0 2 "are_amounts" s_are_amounts ["web", "value"] (SpG (fun x : Nat × List Arr × PyData => [webD x.1 x.2.1, x.2.2]) (fun x => Wb x.1 x.2.1) fun x r => r = .bool (amts x.2.1.length x.2.2).isSome)
theorem df_are_amounts (B : Bl mg) (F : Fx K mg "are_amounts" s_are_amounts) (D_is_tuple_of : Q_is_tuple_of P w K mg base) (D_is_integer : Q_is_integer P w K mg base) : Q_are_amounts P w K mg base := by
  refine df_of F sc_are_amounts (fun _ _ F => F.binds fun _ _ _ _ _ _ us hl => match us, hl with | [_, _], _ => rfl) (fun _ => rfl) fun f cdv A outer s H Q E O x σ hr W a q => ?_
  obtain ⟨n, as, d⟩ := x
  have W : Wb n as := W
  refine ⟨_, (pss_one (ps_ret (pe_and (pe_df D_is_tuple_of (hr.mono (by decide)) (by rfl) (pa_cons (pe_callB (lenK K) (by rfl) B.m_len (by decide +kernel) (pa_cons (pe_ix (ixK K) (pv 0) pe_int (fun _ _ => rfl)) pa_nil)) (pa_cons (pv 1) pa_nil))) (pe_one (pe_callB (allK K) (by rfl) B.m_all (by decide +kernel) (pa_cons (pe_lc (own := [("amount", 2)]) rfl sc_are_amounts.nd (piTupK K (pv 1)) (blkOk_by (N := N_are_amounts) (sc := defScope s_are_amounts) (own := [("amount", 2)]) (by decide +kernel)) (fun _ _ _ _ _ => (pg_name (i := 2) sc_are_amounts.nd rfl (Or.inl rfl))) (fun _ _ _ _ _ => pts_nil) (fun _ _ _ _ _ => (pe_df D_is_integer (hr.mono (by decide)) (by rfl) (pa_cons (pv 2) pa_nil)))) pa_nil)))))), ?_⟩
  refine st_ret (d := .bool (amts as.length d).isSome) ?_ a fun v H' a' r => q _ _ _ _ _ _ a' r rfl
  cases z : isTup as.length d with
  | true =>
    cases d with
    | tuple ds =>
      have hl : ds.length = as.length := of_decide_eq_true z
      refine de_is (de_andV (a := true) (de_is (de_callG (as.length, PyData.tuple ds) (da_cons (de_webL rfl) (da_cons (de_var rfl) da_nil)) trivial) (by rw [z])) fun _ =>
        de_allMap (f := isWhole) (dn_lcA _ (di_tup (de_var rfl)) (Nat.le_trans (Nat.le_of_eq hl) (Nat.le_trans W.few (by decide))) fun i d hd => ⟨_, dg_name, de_callG d (da_cons (de_var rfl) da_nil) trivial⟩).de) ?_
      show PyData.bool (true && ds.all isWhole) = .bool (if ds.length = as.length then wholes ds else none).isSome
      rw [if_pos hl, wholes_all, Bool.true_and]
    | _ => cases z
  | false =>
    refine de_is (de_andV (a := false) (b := false) (de_is (de_callG (as.length, d) (da_cons (de_webL rfl) (da_cons (de_var rfl) da_nil)) trivial) (by rw [z])) fun z => nomatch z) ?_
    cases d with
    | tuple ds =>
      show PyData.bool (false && false) = .bool (if ds.length = as.length then wholes ds else none).isSome
      rw [if_neg (of_decide_eq_false z)]
      rfl
    | _ => rfl
/-- .. -/
def flowB (n : Nat) (as : List Arr) (ms : List Int) : Bool := (List.range n).all fun v => exc as ms v == 0
def isFlowB (n : Nat) (as : List Arr) (d : PyData) : Bool := match amts as.length d with
  | some ms => flowB n as ms
  | none => false
theorem flowB_iff {n : Nat} {as : List Arr} {ms : List Int} : flowB n as ms = true ↔ IsFlow n as ms := by
  unfold flowB IsFlow
  rw [List.all_eq_true]
  exact ⟨fun h v hv => by simpa using h v (List.mem_range.mpr hv), fun h v hv => by simpa using h v (List.mem_range.mp hv)⟩
theorem de_any {Γ : Ctx} {Ω : List Ob} {ta : TE} {ns : List Int} (ha : DE ta Γ Ω (.list (ns.map .int))) : DE (tCB (rAnyI K) (tCons ta tNil)) Γ Ω (.bool (ns.any (· != 0))) := de_of fun O A σ H s Q q =>
  ha.run s fun x H' e s r => by
    obtain ⟨a, xs, rfl, hx, r⟩ := r.list_of
    rw [r.ints_of] at hx
    exact ⟨a, ns, rfl, SqL.of (off_of hx).2, q _ H' e s (rp_bool _)⟩
abbrev s_is_flow_of : Stmt := topS 18
abbrev N_is_flow_of : List Str := ["web", "value"]
theorem sc_is_flow_of : FnScope N_is_flow_of ["web", "value"] (defScope s_is_flow_of) := ⟨rfl, rfl, rfl, by decide +kernel, rfl, by decide +kernel, by decide +kernel⟩
abbrev Q_is_flow_of (P : Program) (w : World) (K : PySem.W.Frag) (mg : Str → Option Value) (base : Heap) : Prop := Df P w K mg base CX0 3 "is_flow_of" s_is_flow_of ["web", "value"] (SpG (fun x : Nat × List Arr × PyData => [webD x.1 x.2.1, x.2.2]) (fun x => Wb x.1 x.2.1) fun x r => r = .bool (isFlowB x.1 x.2.1 x.2.2))
theorem df_is_flow_of (B : Bl mg) (F : Fx K mg "is_flow_of" s_is_flow_of) (D_are_amounts : Q_are_amounts P w K mg base) (D_excess_of : Q_excess_of P w K mg base) : Q_is_flow_of P w K mg base := by
  refine df_of F sc_is_flow_of (fun _ _ F => F.binds fun _ _ _ _ _ _ us hl => match us, hl with | [_, _], _ => rfl) (fun _ => rfl) fun f cdv A outer s H Q E O x σ hr W a q => ?_
  obtain ⟨n, as, d⟩ := x
  have W : Wb n as := W
  refine ⟨_, (pss_one (ps_ret (pe_and (pe_df D_are_amounts (hr.mono (by decide)) (by rfl) (pa_cons (pv 0) (pa_cons (pv 1) pa_nil))) (pe_one (pe_not (pe_callB (anyK K) (by rfl) B.m_any (by decide +kernel) (pa_cons (pe_df D_excess_of (hr.mono (by decide)) (by rfl) (pa_cons (pv 0) (pa_cons (pv 1) pa_nil))) pa_nil))))))), ?_⟩
  refine st_ret (d := .bool (isFlowB n as d)) ?_ a fun v H' a' r => q _ _ _ _ _ _ a' r rfl
  unfold isFlowB
  cases z : amts as.length d with
  | some ms =>
    obtain ⟨rfl, hl⟩ := amts_of z
    refine de_is (de_andV (a := true) (de_is (de_callG (n, as, intsT ms) (da_cons (de_var rfl) (da_cons (de_var rfl) da_nil)) W) (by rw [z]; rfl)) fun _ =>
      de_notV (de_any (ns := (List.range n).map fun v => exc as ms v) (de_is (de_callG (n, as, ms) (da_cons (de_var rfl) (da_cons (de_var rfl) da_nil)) ⟨W, hl⟩) (by rw [tabI_ints])))) ?_
    show PyData.bool (true && !((List.range n).map fun v => exc as ms v).any (· != 0)) = .bool (flowB n as ms)
    unfold flowB
    rw [Bool.true_and, List.any_map, List.not_any_eq_all_not]
    congr 2
    funext v
    simp [bne]
  | none =>
    exact de_is (de_andV (a := false) (b := false) (de_is (de_callG (n, as, d) (da_cons (de_var rfl) (da_cons (de_var rfl) da_nil)) W) (by rw [z]; rfl)) fun z => nomatch z) rfl
end
end EW
/-! bounds, pulls -/
namespace EW
open PySem PyProof.Rows L2
section
variable {P : Program} {w : World} {K : PySem.W.Frag} {mg : Str → Option Value} {base : Heap}
abbrev s_are_bounds : Stmt := topS 21
abbrev N_are_bounds : List Str := ["web", "value", "pair", "side", "low", "high"]
theorem sc_are_bounds : FnScope N_are_bounds ["web", "value"] (defScope s_are_bounds) := ⟨rfl, rfl, rfl, by decide +kernel, rfl, by decide +kernel, by decide +kernel⟩
abbrev Q_are_bounds (P : Program) (w : World) (K : PySem.W.Frag) (mg : Str → Option Value) (base : Heap) : Prop := Df P w K mg base CX0 3 "are_bounds" s_are_bounds ["web", "value"] (SpG (fun x : Nat × List Arr × List Bnd => [webD x.1 x.2.1, bndD x.2.2]) (fun x => WB x.1 x.2.1 x.2.2) fun x r => r = .bool true)
theorem df_are_bounds (B : Bl mg) (C : Cn mg) (F : Fx K mg "are_bounds" s_are_bounds) (D_is_between : Q_is_between P w K mg base) (D_is_tuple_of : Q_is_tuple_of P w K mg base) : Q_are_bounds P w K mg base := by
  refine df_of F sc_are_bounds (fun _ _ F => F.binds fun _ _ _ _ _ _ us hl => match us, hl with | [_, _], _ => rfl) (fun _ => rfl) fun f cdv A outer s H Q E O x σ hr W a q => ?_
  obtain ⟨n, as, bs⟩ := x
  have W : WB n as bs := W
  have hfew : bs.length ≤ 15 := by rw [← W.len]; exact W.few
  have hf2 : (bs.map pairI).length ≤ 900 := by rw [List.length_map]; omega
  refine ⟨_, (pss_cons (ps_if (PW.pt (pw_or (pt_not (pt_val (pe_df D_is_tuple_of (hr.mono (by decide)) (by rfl) (pa_cons (pe_callB (lenK K) (by rfl) B.m_len (by decide +kernel) (pa_cons (pe_ix (ixK K) (pv 0) pe_int (fun _ _ => rfl)) pa_nil)) (pa_cons (pv 1) pa_nil))))) (pw_or1 (pt_not (pt_val (pe_callB (allK K) (by rfl) B.m_all (by decide +kernel) (pa_cons (pe_lc (own := [("pair", 2)]) rfl sc_are_bounds.nd (piTupK K (pv 1)) (blkOk_by (N := N_are_bounds) (sc := defScope s_are_bounds) (own := [("pair", 2)]) (by decide +kernel)) (fun _ _ _ _ _ => (pg_name (i := 2) sc_are_bounds.nd rfl (Or.inl rfl))) (fun _ _ _ _ _ => pts_nil) (fun _ _ _ _ _ => (pe_df D_is_tuple_of (hr.mono (by decide)) (by rfl) (pa_cons pe_int (pa_cons (pv 2) pa_nil))))) pa_nil)))))))
          (pss_one (ps_ret pe_bl))
          pss_nil)
        (pss_cons (ps_if (pt_not (pt_val (pe_callB (allK K) (by rfl) B.m_all (by decide +kernel) (pa_cons (pe_lc2 (own := [("pair", 2), ("side", 3)]) (vs1 := [3]) rfl sc_are_bounds.nd (piTupK K (pv 1)) (blkOk_by (N := N_are_bounds) (sc := defScope s_are_bounds) (own := [("pair", 2), ("side", 3)]) (by decide +kernel)) (by decide) (fun _ _ _ _ _ => (pg_name (i := 2) sc_are_bounds.nd rfl (Or.inl rfl))) (fun _ _ _ _ _ => pts_nil) (fun _ _ _ _ _ => (piTupK K (pe_tup (pa_cons pe_int (pa_cons pe_int pa_nil))))) (fun _ _ _ _ _ => (pg_name (i := 3) sc_are_bounds.nd rfl (Or.inl rfl))) (fun _ _ _ _ _ => pts_nil) (fun _ _ _ _ _ => (pe_df D_is_between (hr.mono (by decide)) (by rfl) (pa_cons (pe_un un_neg (pe_globI rfl C.m_MOST_BOUND)) (pa_cons (pe_ix (ixK K) (pv 2) (pv 3) (fun _ _ => rfl)) (pa_cons (pe_globI rfl C.m_MOST_BOUND) pa_nil)))))) pa_nil))))
          (pss_one (ps_ret pe_bl))
          pss_nil)
        (pss_one (ps_ret (pe_callB (allK K) (by rfl) B.m_all (by decide +kernel) (pa_cons (pe_lc (own := [("low", 4), ("high", 5)]) rfl sc_are_bounds.nd (piTupK K (pv 1)) (blkOk_by (N := N_are_bounds) (sc := defScope s_are_bounds) (own := [("low", 4), ("high", 5)]) (by decide +kernel)) (fun _ _ _ _ _ => (pgTupK K (n := 2) (pgs_cons (pg_name (i := 4) sc_are_bounds.nd rfl (Or.inl rfl)) (pgs_cons (pg_name (i := 5) sc_are_bounds.nd rfl (Or.inl rfl)) pgs_nil)))) (fun _ _ _ _ _ => pts_nil) (fun _ _ _ _ _ => (pe_cmpR op_le (pv 4) (pv 5) (nomark _)))) pa_nil)))))), ?_⟩
  refine st_seq (st_if (b := false) (dt_or2 (dtN (dtB (b := true) (de_callG (as.length, bndD bs) (da_cons (de_webL rfl) (da_cons (de_var rfl) da_nil)) trivial) ?_))
    (dtN (dtB (b := true) (de_allT (dn_lcA (fun d => .bool (isTup 2 d)) (di_tup (ds := bs.map pairI) (de_var rfl)) (Nat.le_trans hf2 (by decide)) fun i d hd => ⟨_, dg_name, de_callG (2, d) (da_cons (de_int 2) (da_cons (de_var rfl) da_nil)) trivial⟩).de ?_)))) a (fun _ z => nomatch z) fun H1 _ a => st_next ?_)
  · show PyData.bool (decide ((bs.map pairI).length = as.length)) = .bool true
    rw [List.length_map, W.len, decide_eq_true rfl]
  · intro d hd
    obtain ⟨y, hy, rfl⟩ := List.mem_map.mp hd
    obtain ⟨b, hb, rfl⟩ := List.mem_map.mp hy
    rfl
  refine st_seq (st_if (b := false) (dtN (dtB (b := true) (de_allT (dn_lc2 (fun _ => [.int 0, .int 1]) (fun _ _ => .bool true) (di_tup (ds := bs.map pairI) (de_var rfl)) (fun _ _ => by simp) hf2 fun i d hd => ⟨_, dg_name, di_tup (de_tup (da_cons (de_int 0) (da_cons (de_int 1) da_nil))), fun j e he => ⟨_, dg_name, ?_⟩⟩).de ?_))) a (fun _ z => nomatch z) fun H1 _ a => st_next ?_)
  · obtain ⟨b, hb, rfl⟩ := bnd_at hd
    have hs := W.sml b (List.mem_of_getElem? hb)
    have key : ∀ k : Int, -1000000 ≤ k ∧ k ≤ 1000000 → PyData.bool (between (-1000000) (.int k) 1000000) = .bool true := fun k h => by
      show PyData.bool (decide ((-1000000 : Int) ≤ k) && decide (k ≤ 1000000)) = .bool true
      rw [decide_eq_true h.1, decide_eq_true h.2]
      rfl
    match j, he with
    | 0, he =>
      cases he
      exact de_is (de_callG (-1000000, PyData.int b.1, 1000000) (da_cons (de_neg (de_int 1000000)) (da_cons (de_ixT (de_var rfl) (de_var rfl) rfl) (da_cons (de_int 1000000) da_nil))) trivial) (key b.1 ⟨hs.1, hs.2.1⟩)
    | 1, he =>
      cases he
      exact de_is (de_callG (-1000000, PyData.int b.2, 1000000) (da_cons (de_neg (de_int 1000000)) (da_cons (de_ixT (de_var rfl) (de_var rfl) rfl) (da_cons (de_int 1000000) da_nil))) trivial) (key b.2 ⟨hs.2.2.1, hs.2.2.2⟩)
    | j + 2, he => simp at he
  · intro d hd
    obtain ⟨y, _, hy⟩ := List.mem_flatMap.mp hd
    obtain ⟨z, _, rfl⟩ := List.mem_map.mp hy
    rfl
  refine st_ret (d := .bool true) (de_allT (dn_lcA (fun _ => .bool true) (di_tup (ds := bs.map pairI) (de_var rfl)) (Nat.le_trans hf2 (by decide)) fun i d hd => ?_).de ?_) a fun v H' a' r => q _ _ _ _ _ _ a' r rfl
  · obtain ⟨b, hb, rfl⟩ := bnd_at hd
    refine ⟨_, dg_tup (dgs_cons dg_name (dgs_cons dg_name dgs_nil)), de_is (de_I0 (de_var rfl) (de_var rfl)) ?_⟩
    rw [decide_eq_true (W.ord b (List.mem_of_getElem? hb))]
  · intro d hd
    obtain ⟨y, hy, rfl⟩ := List.mem_map.mp hd
    rfl
abbrev s_check_bounds : Stmt := topS 22
abbrev N_check_bounds : List Str := ["web", "bounds"]
theorem sc_check_bounds : FnScope N_check_bounds ["web", "bounds"] (defScope s_check_bounds) := ⟨rfl, rfl, rfl, by decide +kernel, rfl, by decide +kernel, by decide +kernel⟩
abbrev Q_check_bounds (P : Program) (w : World) (K : PySem.W.Frag) (mg : Str → Option Value) (base : Heap) : Prop := Df P w K mg base CX0 4 "check_bounds" s_check_bounds ["web", "bounds"] (SpG (fun x : Nat × List Arr × List Bnd => [webD x.1 x.2.1, bndD x.2.2]) (fun x => WB x.1 x.2.1 x.2.2) fun x r => r = .none)
theorem df_check_bounds (F : Fx K mg "check_bounds" s_check_bounds) (D_are_bounds : Q_are_bounds P w K mg base) : Q_check_bounds P w K mg base := by
  refine df_of F sc_check_bounds (fun _ _ F => F.binds fun _ _ _ _ _ _ us hl => match us, hl with | [_, _], _ => rfl) (fun _ => rfl) fun f cdv A outer s H Q E O x σ hr W a q => ?_
  refine ⟨_, (pss_one (ps_if (pt_not (pt_val (pe_df D_are_bounds (hr.mono (by decide)) (by rfl) (pa_cons (pv 0) (pa_cons (pv 1) pa_nil)))))
          (pss_one ps_never)
          pss_nil)), ?_⟩
  exact st_if (b := false) (dtN (dtB (de_callG x (da_cons (de_var rfl) (da_cons (de_var rfl) da_nil)) W))) a (fun _ z => nomatch z) fun H1 _ a => st_next (q .non _ _ _ _ _ a rp_none rfl)
abbrev s_pull_by : Stmt := topS 26
abbrev N_pull_by : List Str := ["web", "heights", "x", "y"]
theorem sc_pull_by : FnScope N_pull_by ["web", "heights"] (defScope s_pull_by) := ⟨rfl, rfl, rfl, by decide +kernel, rfl, by decide +kernel, by decide +kernel⟩
abbrev Q_pull_by (P : Program) (w : World) (K : PySem.W.Frag) (mg : Str → Option Value) (base : Heap) : Prop := Df P w K mg base CX0 1 "pull_by" s_pull_by ["web", "heights"] (SpG (fun x : Nat × List Arr × List Int => [webD x.1 x.2.1, intsL x.2.2]) (fun x => Wb x.1 x.2.1 ∧ x.2.2.length = x.1) fun x r => r = intsT (x.2.1.map fun a => x.2.2.getD a.2 0 - x.2.2.getD a.1 0))
theorem getD_at {hs : List Int} {v : Nat} (h : v < hs.length) : (hs.map PyData.int)[v]? = some (.int (hs.getD v 0)) := by
  rw [List.getElem?_map, List.getD_eq_getElem?_getD, List.getElem?_eq_getElem h]
  rfl
theorem df_pull_by (B : Bl mg) (F : Fx K mg "pull_by" s_pull_by) : Q_pull_by P w K mg base := by
  refine df_of F sc_pull_by (fun _ _ F => F.binds fun _ _ _ _ _ _ us hl => match us, hl with | [_, _], _ => rfl) (fun _ => rfl) fun f cdv A outer s H Q E O x σ hr W a q => ?_
  obtain ⟨n, as, hs⟩ := x
  obtain ⟨W, hl⟩ : Wb n as ∧ hs.length = n := W
  dsimp only at a q
  refine ⟨_, (pss_one (ps_ret (pe_callTy (tupK K) (by rfl) B.m_tuple (by decide +kernel) (pa_cons (pe_lc (own := [("x", 2), ("y", 3)]) rfl sc_pull_by.nd (piTupK K (pe_ix (ixK K) (pv 0) pe_int (fun _ _ => rfl))) (blkOk_by (N := N_pull_by) (sc := defScope s_pull_by) (own := [("x", 2), ("y", 3)]) (by decide +kernel)) (fun _ _ _ _ _ => (pgTupK K (n := 2) (pgs_cons (pg_name (i := 2) sc_pull_by.nd rfl (Or.inl rfl)) (pgs_cons (pg_name (i := 3) sc_pull_by.nd rfl (Or.inl rfl)) pgs_nil)))) (fun _ _ _ _ _ => pts_nil) (fun _ _ _ _ _ => (pe_op op_sub (pe_ix (ixK K) (pv 1) (pv 3) (fun _ _ => rfl)) (pe_ix (ixK K) (pv 1) (pv 2) (fun _ _ => rfl))))) pa_nil)))), ?_⟩
  refine st_ret (d := intsT (as.map fun a => hs.getD a.2 0 - hs.getD a.1 0)) (de_is (de_tupleOf (dn_lcA (fun d => match d with | .tuple [.int x, .int y] => .int (hs.getD y.toNat 0 - hs.getD x.toNat 0) | _ => .none) (di_tup (de_web1 rfl)) ?_ fun i d hd => ?_).de) ?_) a fun v H' a' r => q _ _ _ _ _ _ a' r rfl
  · have := W.few
    rw [List.length_map]
    omega
  · obtain ⟨e, he, rfl⟩ := arr_at hd
    have hen := W.ends e (List.mem_of_getElem? he)
    exact ⟨_, dg_tup (dgs_cons dg_name (dgs_cons dg_name dgs_nil)), de_I0 (de_ixL (de_var rfl) (de_var rfl) (atI_nat (getD_at (by omega)))) (de_ixL (de_var rfl) (de_var rfl) (atI_nat (getD_at (by omega))))⟩
  · unfold intsT
    rw [List.map_map, List.map_map]
    rfl
end
end EW
/-! pulls by heights -/
namespace EW
open PySem PyProof.Rows L2
theorem og_at {O : List (Option Int)} {v : Nat} (h : v < O.length) : atI (O.map optI) (v : Int) = some (optI (og O v)) := by
  refine atI_nat ?_
  unfold og
  rw [List.getElem?_map, List.getElem?_eq_getElem h]
  rfl
theorem og_none {O : List (Option Int)} {v : Nat} : isNone (optI (og O v)) = decide (og O v = none) := by
  cases og O v <;> rfl
theorem dfs1_keep {low : Nat} {S : DS} {d : Nat × Nat × Int} {v : Nat} {p : Int} (h : og S.1 v = some p) : og (dfs1 low S d).1 v = some p := by
  unfold dfs1
  split
  · rename_i c
    by_cases hl : d.2.1 < S.1.length
    · show og (S.1.set _ _) v = _
      rw [og_set hl, if_neg fun e => by rw [← e, h] at c; cases c.2]
      exact h
    · show og (S.1.set _ _) v = _
      rw [List.set_eq_of_length_le (by omega)]
      exact h
  · exact h
theorem tame_opts (O : List (Option Int)) : ∀ d ∈ O.map optI, Tame 0 d := fun d h => by
  obtain ⟨o, _, rfl⟩ := List.mem_map.mp h
  cases o with
  | none => exact tame_none 0
  | some i => exact tame_int 0 i
theorem all_some {O : List (Option Int)} (h : ∀ v, v < O.length → og O v ≠ none) : O.map optI = (O.map (·.getD 0)).map .int := by
  rw [List.map_map]
  refine List.map_congr_left fun o ho => ?_
  obtain ⟨v, hv⟩ := List.mem_iff_getElem?.mp ho
  have := h v (List.getElem?_eq_some_iff.mp hv).1
  unfold og at this
  rw [hv] at this
  cases o with
  | none => exact absurd rfl this
  | some i => rfl
theorem og_getD {O : List (Option Int)} {v : Nat} (h : v < O.length) : (O.map (·.getD 0)).getD v 0 = (og O v).getD 0 := by
  unfold og
  rw [List.getD_eq_getElem?_getD, List.getElem?_map, List.getElem?_eq_getElem h]
  rfl
section
variable {P : Program} {w : World} {K : PySem.W.Frag} {mg : Str → Option Value} {base : Heap}
abbrev s_heights_by : Stmt := topS 27
abbrev N_heights_by : List Str := ["web", "amounts", "heights", "place", "here", "low", "x", "y", "amount", "one", "other", "rise"]
theorem sc_heights_by : FnScope N_heights_by ["web", "amounts"] (defScope s_heights_by) := ⟨rfl, rfl, rfl, by decide +kernel, rfl, by decide +kernel, by decide +kernel⟩
abbrev Q_heights_by (P : Program) (w : World) (K : PySem.W.Frag) (mg : Str → Option Value) (base : Heap) : Prop := Df P w K mg base CX0 1 "heights_by" s_heights_by ["web", "amounts"] (SpG (fun x : Nat × List Arr × List Int => [webD x.1 x.2.1, intsT x.2.2]) (fun x => Wb x.1 x.2.1 ∧ x.2.2.length = x.2.1.length) fun x r => ∃ hs : List Int, r = intsL hs ∧ hs.length = x.1 ∧ (x.2.1.map (fun a => hs.getD a.2 0 - hs.getD a.1 0) = x.2.2 ↔ IsPull x.2.1 x.2.2))
theorem df_heights_by (B : Bl mg) (F : Fx K mg "heights_by" s_heights_by) : Q_heights_by P w K mg base := by
  refine df_of F sc_heights_by (fun _ _ F => F.binds fun _ _ _ _ _ _ us hl => match us, hl with | [_, _], _ => rfl) (fun _ => rfl) fun f cdv A outer s H Q E O x σ hr W a q => ?_
  obtain ⟨n, as, ms⟩ := x
  obtain ⟨W, hl⟩ : Wb n as ∧ ms.length = as.length := W
  dsimp only at a q
  obtain ⟨h, Ph⟩ : ∃ h : Nat → Int, IsPull as ms → Pot as ms h := by
    by_cases p : IsPull as ms
    · obtain ⟨h, hh⟩ := p
      exact ⟨h, fun _ => hh⟩
    · exact ⟨fun _ => 0, fun z => absurd z p⟩
  refine ⟨_, (pss_cons (ps_set (i := 2) sc_heights_by.nd rfl (Or.inl rfl) (pe_op op_rep (pe_lst (pa_cons pe_non pa_nil)) (pe_ix (ixK K) (pv 0) pe_int (fun _ _ => rfl))))
        (pss_cons (ps_for PassesOwn.never rfl (pi_range1 (by rfl) B.m_range (pa_cons (pe_ix (ixK K) (pv 0) pe_int (fun _ _ => rfl)) pa_nil)) (pg_name (i := 3) sc_heights_by.nd rfl (Or.inl rfl))
          (pss_one (ps_if (pt_cmpR op_isN (pe_ix (ixK K) (pv 2) (pv 3) (fun _ _ => rfl)) pe_non (by rfl))
            (pss_cons (ps_asg pe_int (pg_sub (pv 2) (pv 3) set_list))
            (pss_cons (ps_set (i := 4) sc_heights_by.nd rfl (Or.inl rfl) (pe_lst (pa_cons (pv 3) pa_nil)))
            (pss_one (ps_while PassesOwn.never (pt_cmpR (neDK K hr.units) (pv 4) (pe_lst pa_nil) (nomark _))
              (pss_cons (ps_set (i := 5) sc_heights_by.nd rfl (Or.inl rfl) (bm0K K PySem.F.plainAttrs_list PySem.F.slot_list_pop PySem.F.type_list_pop mt_pop (pv 4)))
              (pss_one (ps_for PassesOwn.never rfl (piZipK K (by rfl) B.m_zip (pa_cons (pe_ix (ixK K) (pv 0) pe_int (fun _ _ => rfl)) (pa_cons (pv 1) pa_nil))) (pgTupK K (n := 2) (pgs_cons (pgTupK K (n := 2) (pgs_cons (pg_name (i := 6) sc_heights_by.nd rfl (Or.inl rfl)) (pgs_cons (pg_name (i := 7) sc_heights_by.nd rfl (Or.inl rfl)) pgs_nil))) (pgs_cons (pg_name (i := 8) sc_heights_by.nd rfl (Or.inl rfl)) pgs_nil)))
                (pss_one (ps_for PassesOwn.never rfl (piTupK K (pe_tup (pa_cons (pe_tup (pa_cons (pv 6) (pa_cons (pv 7) (pa_cons (pv 8) pa_nil)))) (pa_cons (pe_tup (pa_cons (pv 7) (pa_cons (pv 6) (pa_cons (pe_un un_neg (pv 8)) pa_nil)))) pa_nil)))) (pgTupK K (n := 3) (pgs_cons (pg_name (i := 9) sc_heights_by.nd rfl (Or.inl rfl)) (pgs_cons (pg_name (i := 10) sc_heights_by.nd rfl (Or.inl rfl)) (pgs_cons (pg_name (i := 11) sc_heights_by.nd rfl (Or.inl rfl)) pgs_nil))))
                  (pss_one (ps_if (PW.pt (pw_and (pt_cmpR op_eq (pv 9) (pv 5) (nomark _)) (pw_and1 (pt_cmpR op_isN (pe_ix (ixK K) (pv 2) (pv 10) (fun _ _ => rfl)) pe_non (by rfl)))))
                    (pss_cons (ps_asg (pe_op op_add (pe_ix (ixK K) (pv 2) (pv 5) (fun _ _ => rfl)) (pv 11)) (pg_sub (pv 2) (pv 10) set_list))
                    (pss_one (ps_expr (bmK K PySem.F.plainAttrs_list PySem.F.slot_list_append PySem.F.type_list_append mt_append (pv 4) (pa_cons (pv 10) pa_nil)))))
                    pss_nil)))))))))))
            pss_nil)))
        (pss_one (ps_ret (pv 2))))), ?_⟩
  refine st_seq (st_setN (dn_rep (de_lst (da_cons de_non da_nil)) (de_web0 rfl) (by have := W.hi; omega)) a fun σ H a => ?_)
  refine st_seq (st_for (α := List (Option Int)) (di_range (de_web0 rfl) (by have := W.hi; omega)) a fun ds e => ?_)
  subst e
  refine ⟨fun i O => O.length = n ∧ Tree as ms (IsPull as ms) O ∧ ∀ v, v < i → og O v ≠ none, fun _ _ => [.dat (webD n as), .dat (intsT ms), .own 0, .no, .no, .no, .no, .no, .no, .no, .no, .no], fun _ O => [.lst (O.map optI)], List.replicate n none, ⟨List.length_replicate, Tree.empty, fun v z => absurd z (Nat.not_lt_zero v)⟩, rfl, ?_, fun _ _ => rfl, fun i O1 d hd ⟨lO, tO, dn⟩ => ?_, fun O1 ⟨lO, tO, dn⟩ σ H a => ?_⟩
  · show [Ob.lst ((List.replicate n none).map optI)] = _
    rw [List.map_replicate]
    rfl
  · obtain ⟨hin, rfl⟩ := upTo_at hd
    refine ⟨[3], _, dg_name, fun H1 A hA _ N σ H hN a => ?_⟩
    refine st_if (b := decide (og O1 i = none)) (dtT (de_isN2 (de_ixO (do_var rfl) (de_var rfl) rfl (og_at (by omega)))) (by rw [og_none])) a (fun H hb a => ?_) fun H hb a => ?_
    · have h0 : og O1 i = none := of_decide_eq_true hb
      refine st_seq (st_put (de_int 0) (do_var rfl) (de_var rfl) rfl (ixN_nat (by rw [List.length_map]; omega)) a fun σ H a => ?_)
      have e1 : (O1.map optI).set i (.int 0) = (O1.set i (some 0)).map optI := by rw [List.map_set]; rfl
      rw [e1] at a
      refine st_seq (st_setN (dn_lst (da_cons (de_var rfl) da_nil)) a fun σ H a => ?_)
      refine st_while (α := DS) (fun m S => DfsO as (IsPull as ms) h O1 i S ∧ og S.1 i = some 0 ∧ m = S.1.count none + S.2.length ∧ m ≤ 100)
        (fun _ => [.dat (webD n as), .dat (intsT ms), .own 0, .dat (.int i), .own 1, .no, .no, .no, .no, .no, .no, .no]) (fun S => [.lst (S.1.map optI), .lst (S.2.map fun v : Nat => .int v)]) (fun S => !S.2.isEmpty) (x0 := (O1.set i (some 0), [i]))
        ⟨dfsO_start (by omega) h0, by show og (O1.set i (some 0)) i = _; rw [og_set (by omega), if_pos rfl], rfl, by have := List.count_le_length (a := (none : Option Int)) (l := O1.set i (some 0)); rw [List.length_set] at this; have := W.hi; show (O1.set i (some 0)).count none + 1 ≤ 100; omega⟩ rfl rfl (fun _ => rfl) a (fun m S ⟨DS, _, _⟩ => ?_) (fun m S ⟨DS, s0, em, hm100⟩ hb H2 A2 hA2 _ N2 σ H hN2 a => ?_) fun m S ⟨DS, s0, _⟩ hb σ H a => ?_
      · refine dtT (de_neO (do_var rfl) (de_lst da_nil) rfl (Tame.shaped (k := 1) (tame_list fun d hd => ?_)) rfl) ?_
        · obtain ⟨v, _, rfl⟩ := List.mem_map.mp hd
          exact tame_int 0 v
        · rw [eqv_nilL, List.isEmpty_map]
      · obtain ⟨O2, st2⟩ := S
        have hne : st2 ≠ [] := fun z => by subst z; cases hb
        obtain ⟨st, low, rfl⟩ : ∃ st low, st2 = st ++ [low] := ⟨_, _, (List.dropLast_concat_getLast hne).symm⟩
        have D0 := dfsO_pop DS
        refine st_seq (st_pop (ds := st.map fun v : Nat => .int v) (d := .int low) (do_var rfl) (by rw [show ([Ob.lst (O2.map optI), .lst ((st ++ [low]).map fun v : Nat => PyData.int v)] : List Ob)[1]? = some (.lst ((st ++ [low]).map fun v : Nat => PyData.int v)) from rfl, List.map_append]; rfl) a fun σ H a => ?_)
        refine st_for (α := EW.DS) (di_zip (de_web1 rfl) (de_var rfl) (by rw [List.length_map, List.length_map, hl])) a fun ds e => ?_
        subst e
        refine ⟨fun k S => Dfs as (IsPull as ms) h O1 i low (ways (as.take k) (ms.take k)) S ∧ og S.1 i = some 0 ∧ S.1.count none + S.2.length + 1 = m, fun _ _ => [.dat (webD n as), .dat (intsT ms), .own 0, .dat (.int i), .own 1, .dat (.int low), .no, .no, .no, .no, .no, .no], fun _ S => [.lst (S.1.map optI), .lst (S.2.map fun v : Nat => .int v)], (O2, st), ⟨by simpa [ways] using D0, s0, ?_⟩, rfl, rfl, fun _ _ => rfl, fun k S d hd ⟨D, s0, em⟩ => ?_, fun S ⟨D, s0, em⟩ σ H a => ?_⟩
        · rw [em, List.length_append]
          rfl
        · obtain ⟨_, _, h1, h2, rfl⟩ := pairs_at hd
          obtain ⟨e, he, rfl⟩ := arr_at h1
          obtain ⟨c, hc, rfl⟩ := int_at h2
          have hen := W.ends e (List.mem_of_getElem? he)
          refine ⟨[6, 7, 8], _, dg_tup (dgs_cons (dg_tup (dgs_cons dg_name (dgs_cons dg_name dgs_nil))) (dgs_cons dg_name dgs_nil)), fun H3 A3 hA3 _ N3 σ H hN3 a => ?_⟩
          refine st_for (α := EW.DS) (di_tup (de_tup (da_cons (de_tup (da_cons (de_var rfl) (da_cons (de_var rfl) (da_cons (de_var rfl) da_nil)))) (da_cons (de_tup (da_cons (de_var rfl) (da_cons (de_var rfl) (da_cons (de_neg (de_var rfl)) da_nil)))) da_nil)))) a fun ds ed => ?_
          subst ed
          refine ⟨fun j S => Dfs as (IsPull as ms) h O1 i low (ways (as.take k) (ms.take k) ++ ([(e.1, e.2, c), (e.2, e.1, -c)] : List (Nat × Nat × Int)).take j) S ∧ og S.1 i = some 0 ∧ S.1.count none + S.2.length + 1 = m, fun _ _ => [.dat (webD n as), .dat (intsT ms), .own 0, .dat (.int i), .own 1, .dat (.int low), .dat (.int e.1), .dat (.int e.2), .dat (.int c), .no, .no, .no], fun _ S => [.lst (S.1.map optI), .lst (S.2.map fun v : Nat => .int v)], S, ⟨by simpa using D, s0, em⟩, rfl, rfl, fun _ _ => rfl, fun j S d hd ⟨D, s0, em⟩ => ?_, fun S ⟨D, s0, em⟩ σ H a => ?_⟩
          · obtain ⟨u, hu, ed, hu2, hur⟩ : ∃ u : Nat × Nat × Int, ([(e.1, e.2, c), (e.2, e.1, -c)] : List (Nat × Nat × Int))[j]? = some u ∧ d = .tuple [.int u.1, .int u.2.1, .int u.2.2] ∧ (u.2.1 < n ∧ u.1 < n) ∧ (IsPull as ms → u.2.2 = h u.2.1 - h u.1) := by
              match j, hd with
              | 0, hd => cases hd; exact ⟨_, rfl, rfl, ⟨hen.2, hen.1⟩, fun p => Ph p k e c he hc⟩
              | 1, hd => cases hd; exact ⟨_, rfl, rfl, ⟨hen.1, hen.2⟩, fun p => by have := Ph p k e c he hc; show -c = h e.1 - h e.2; omega⟩
              | j + 2, hd => simp at hd
            subst ed
            have lS : S.1.length = n := by rw [D.ex.len, lO]
            have hok := dfs1_ok D u (by rw [lO]; exact hu2.1) hur
            have tk1 : ([(e.1, e.2, c), (e.2, e.1, -c)] : List (Nat × Nat × Int)).take (j + 1) = ([(e.1, e.2, c), (e.2, e.1, -c)] : List (Nat × Nat × Int)).take j ++ [u] := by
              rw [List.take_add_one, hu]
              rfl
            refine ⟨[9, 10, 11], _, dg_tup (dgs_cons dg_name (dgs_cons dg_name (dgs_cons dg_name dgs_nil))), fun H4 A4 hA4 _ N4 σ H hN4 a => ?_⟩
            refine st_if (b := decide (u.1 = low ∧ og S.1 u.2.1 = none)) (dt_is (dt_and (dtT (de_eqI (de_var rfl) (de_var rfl)) (by rw [natI])) fun _ => dtT (de_isN2 (de_ixO (do_var rfl) (de_var rfl) rfl (og_at (by omega)))) (by rw [og_none])) (by rw [Bool.decide_and])) a (fun H hb a => ?_) fun H hb a => ?_
            · have hc2 := of_decide_eq_true hb
              obtain ⟨p, hp⟩ : ∃ p, og S.1 low = some p := by
                cases z : og S.1 low with
                | none => exact absurd z D.lowi.1
                | some p => exact ⟨p, rfl⟩
              have hlow : low < S.1.length := og_some hp
              refine st_seq (st_put (d := .int (p + u.2.2)) (de_I0 (de_ixO (d := .int p) (do_var rfl) (de_var rfl) rfl (by rw [og_at hlow, hp]; rfl)) (de_var rfl)) (do_var rfl) (de_var rfl) rfl (ixN_nat (by rw [List.length_map]; omega)) a fun σ H a => ?_)
              have e2 : (S.1.map optI).set u.2.1 (.int (p + u.2.2)) = (S.1.set u.2.1 (some (p + u.2.2))).map optI := by rw [List.map_set]; rfl
              rw [e2] at a
              have d1 : dfs1 low S u = (S.1.set u.2.1 (some (p + u.2.2)), S.2 ++ [u.2.1]) := by
                unfold dfs1
                rw [if_pos hc2, hp]
                rfl
              refine st_append (P := (· = .int u.2.1)) (ds := S.2.map fun v : Nat => .int v) (do_var rfl) (de_var rfl) rfl ?_ a fun σ H d' ed a => hN4 σ H (dfs1 low S u) ⟨by rw [tk1, ← List.append_assoc]; exact hok.1, dfs1_keep s0, by rw [hok.2]; exact em⟩ ?_
              · rw [List.length_map]
                omega
              · subst ed
                rw [d1]
                show At H4 O A4 [.lst ((S.1.set u.2.1 (some (p + u.2.2))).map optI), .lst ((S.2 ++ [u.2.1]).map fun v : Nat => .int v)] _ _ _
                rw [List.map_append]
                exact a.no [9, 10, 11]
            · refine st_next (hN4 σ H (dfs1 low S u) ⟨by rw [tk1, ← List.append_assoc]; exact hok.1, dfs1_keep s0, by rw [hok.2]; exact em⟩ ?_)
              have d1 : dfs1 low S u = S := by
                unfold dfs1
                rw [if_neg (of_decide_eq_false hb)]
              rw [d1]
              exact a.no [9, 10, 11]
          · refine hN3 σ H S ⟨?_, s0, em⟩ (a.no [6, 7, 8])
            rw [ways_more k as ms e c he hc, List.append_assoc]
            exact D
        · rw [pairs_len (by rw [List.length_map, List.length_map, hl]), List.length_map, List.take_length, ← hl, List.take_length] at D
          exact hN2 σ H _ S (by omega) ⟨dfs_out hl.symm D, s0, rfl, by omega⟩ (a.no [5])
      · have hb : (!S.2.isEmpty) = false := hb
        have e0 : S.2 = [] := by
          cases z : S.2 with
          | nil => rfl
          | cons v l => rw [z] at hb; cases hb
        obtain ⟨O2, st2⟩ := S
        subst e0
        refine hN σ H O2 ⟨by rw [DS.ex.len, lO], dfsO_end tO Ph DS, fun v hv => ?_⟩ (((a.drop (Ω := [.lst (O2.map optI)]) (by rw [hA]; exact Nat.le_refl 1)).no [3]))
        by_cases e : v = i
        · subst e
          rw [s0]
          exact fun z => nomatch z
        · cases z : og O1 v with
          | none => exact absurd z (dn v (by omega))
          | some p =>
            rw [DS.ex.keep _ _ z]
            exact fun z => nomatch z
    · refine st_next (hN σ H O1 ⟨lO, tO, fun v hv => ?_⟩ (a.no [3]))
      by_cases e : v = i
      · subst e
        exact of_decide_eq_false hb
      · exact dn v (by omega)
  · rw [upTo_len] at dn
    refine st_ret (de_var rfl) (a.release (Ω := []) (Nat.le_refl _)) fun v H' a' r => q _ _ _ _ _ _ a' r ⟨O1.map (·.getD 0), ?_, by rw [List.length_map, lO], ?_⟩
    · unfold intsL
      rw [all_some fun v hv => dn v (by omega)]
    · rw [← pull_end tO (fun a ha => ⟨dn _ (W.ends a ha).1, dn _ (W.ends a ha).2⟩) hl.symm]
      have e : as.map (fun a => (O1.map (·.getD 0)).getD a.2 0 - (O1.map (·.getD 0)).getD a.1 0) = as.map fun a => (og O1 a.2).getD 0 - (og O1 a.1).getD 0 := List.map_congr_left fun a ha => by
        have := W.ends a ha
        rw [og_getD (by omega), og_getD (by omega)]
      rw [e]
end
end EW
/-! the judges of the program -/
namespace EW
open PySem PyProof.Rows L2
open Classical in
noncomputable def isPullB (as : List Arr) (d : PyData) : Bool := match amts as.length d with
  | some ms => decide (IsPull as ms)
  | none => false
def inB : List Bnd → List Int → Bool
  | b :: bs, c :: cs => (decide (b.1 ≤ c) && decide (c ≤ b.2)) && inB bs cs
  | _, _ => true
noncomputable def withinB (as : List Arr) (bs : List Bnd) (d : PyData) : Bool := isPullB as d && (match amts as.length d with | some ms => inB bs ms | none => false)
open Classical in
noncomputable def ringB (as : List Arr) (ms : List Int) : Bool := decide (Small ms ∧ Single (someOf as ms))
open Classical in
noncomputable def barsB (n : Nat) (as : List Arr) (bs : List Bnd) (d : PyData) : Bool := match amts as.length d with
  | some ms => decide (Bars n as bs ms)
  | none => false
theorem pairs_map {α : Type} (f : α → PyData) : ∀ (as : List α) (ms : List Int), pairs (as.map f) (ms.map .int) = (as.zip ms).map fun p => .tuple [f p.1, .int p.2]
  | [], _ => rfl
  | _ :: _, [] => rfl
  | a :: as, m :: ms => by
    have := pairs_map f as ms
    unfold pairs at this ⊢
    rw [List.map_cons, List.map_cons, List.zip_cons_cons, List.map_cons, this, List.zip_cons_cons, List.map_cons]
section
variable {P : Program} {w : World} {K : PySem.W.Frag} {mg : Str → Option Value} {base : Heap}
theorem dep_eqD {Γ : Ctx} {Ω : List Ob} {ta tb : TE} {P1 : PyData → Prop} {d2 : PyData} (ha : DEp ta Γ Ω P1) (hb : DE tb Γ Ω d2) (h1 : ∀ d, P1 d → SeqAt.shaped d = true) (h2 : SeqAt.shaped d2 = true) : DEp (tOp (rEqD K) ta tb) Γ Ω fun d => ∃ d1, P1 d1 ∧ d = .bool (PyData.eqv d1 d2) := fun O A σ H s Q q =>
  ha O A σ H s _ fun x H1 d1 e1 s1 r1 p1 => hb.run s1 fun y H2 e2 s2 r2 => ⟨d1, d2, ((r1.ex (vw e2)).ex off_le).dp, (r2.ex off_le).dp, h1 d1 p1, h2, q _ H2 _ (e1.trans e2) s2 (rp_bool _) ⟨d1, p1, rfl⟩⟩
theorem shaped_ints (ms : List Int) : SeqAt.shaped (intsT ms) = true := Tame.shaped (k := 1) (tame_tuple (tame_ints ms))
abbrev s_is_pull_of : Stmt := topS 28
abbrev N_is_pull_of : List Str := ["web", "value"]
theorem sc_is_pull_of : FnScope N_is_pull_of ["web", "value"] (defScope s_is_pull_of) := ⟨rfl, rfl, rfl, by decide +kernel, rfl, by decide +kernel, by decide +kernel⟩
abbrev Q_is_pull_of (P : Program) (w : World) (K : PySem.W.Frag) (mg : Str → Option Value) (base : Heap) : Prop := Df P w K mg base CX0 3 "is_pull_of" s_is_pull_of ["web", "value"] (SpG (fun x : Nat × List Arr × PyData => [webD x.1 x.2.1, x.2.2]) (fun x => Wb x.1 x.2.1) fun x r => r = .bool (isPullB x.2.1 x.2.2))
theorem df_is_pull_of (F : Fx K mg "is_pull_of" s_is_pull_of) (D_are_amounts : Q_are_amounts P w K mg base) (D_pull_by : Q_pull_by P w K mg base) (D_heights_by : Q_heights_by P w K mg base) : Q_is_pull_of P w K mg base := by
  refine df_of F sc_is_pull_of (fun _ _ F => F.binds fun _ _ _ _ _ _ us hl => match us, hl with | [_, _], _ => rfl) (fun _ => rfl) fun f cdv A outer s H Q E O x σ hr W a q => ?_
  obtain ⟨n, as, d⟩ := x
  have W : Wb n as := W
  dsimp only at a q
  refine ⟨_, (pss_one (ps_ret (pe_and (pe_df D_are_amounts (hr.mono (by decide)) (by rfl) (pa_cons (pv 0) (pa_cons (pv 1) pa_nil))) (pe_one (pe_cmpR (eqDK K hr.units) (pe_df D_pull_by (hr.mono (by decide)) (by rfl) (pa_cons (pv 0) (pa_cons (pe_df D_heights_by (hr.mono (by decide)) (by rfl) (pa_cons (pv 0) (pa_cons (pv 1) pa_nil))) pa_nil))) (pv 1) (nomark _)))))), ?_⟩
  refine st_ret (d := .bool (isPullB as d)) ?_ a fun v H' a' r => q _ _ _ _ _ _ a' r rfl
  unfold isPullB
  cases z : amts as.length d with
  | some ms =>
    obtain ⟨rfl, hl⟩ := amts_of z
    classical
    refine de_is (de_andV (a := true) (b := decide (IsPull as ms)) (de_is (de_callG (n, as, intsT ms) (da_cons (de_var rfl) (da_cons (de_var rfl) da_nil)) W) (by rw [z]; rfl)) fun _ => ?_) (by rw [Bool.true_and])
    refine dep_mono (dep_eqD (dep_callGp (dap_cons (de_var rfl) (dap_cons (dep_callG (n, as, ms) (da_cons (de_var rfl) (da_cons (de_var rfl) da_nil)) ⟨W, hl⟩) dap_nil)) ?_) (de_var rfl) ?_ (shaped_ints ms)) ?_
    · rintro ds ⟨_, _, rfl, rfl, _, _, rfl, ⟨hs, rfl, h1, _⟩, rfl⟩
      exact ⟨(n, as, hs), rfl, W, h1⟩
    · rintro _ ⟨⟨_, as2, hs⟩, _, _, rfl⟩
      exact shaped_ints _
    · rintro _ ⟨_, ⟨⟨n2, as2, hs⟩, ⟨d1, ds1, e1, rfl, d2, ds2, e2, ⟨hs2, rfl, h1, h2⟩, rfl⟩, _, rfl⟩, rfl⟩
      have ea : webD n2 as2 = webD n as := (List.cons.inj e1).1
      have eb := (List.cons.inj ((List.cons.inj e1).2.trans e2)).1
      have e3 : hs = hs2 := by
        have : hs.map PyData.int = hs2.map .int := by
          unfold intsL at eb
          exact PyData.list.inj eb
        have w := wholes_map hs
        rw [this, wholes_map] at w
        exact (Option.some.inj w).symm
      have e4 : as2 = as := by
        unfold webD at ea
        have := PyData.tuple.inj (List.cons.inj (List.cons.inj (PyData.tuple.inj ea)).2).1
        exact List.map_inj_right (f := pairN) (fun x y h => by
          unfold pairN at h
          have h := PyData.tuple.inj h
          have h1 := PyData.int.inj (List.cons.inj h).1
          have h2 := PyData.int.inj (List.cons.inj (List.cons.inj h).2).1
          exact Prod.ext (by omega) (by omega)) |>.mp this
      subst e3
      subst e4
      show PyData.bool (PyData.eqvAll ((as2.map fun a => hs.getD a.2 0 - hs.getD a.1 0).map .int) (ms.map .int)) = _
      rw [eqv_ints]
      congr 1
      exact decide_eq_decide.mpr h2
  | none =>
    exact de_is (de_andV (a := false) (b := false) (de_is (de_callG (n, as, d) (da_cons (de_var rfl) (da_cons (de_var rfl) da_nil)) W) (by rw [z]; rfl)) fun z => nomatch z) rfl
abbrev s_is_pull_within : Stmt := topS 29
abbrev N_is_pull_within : List Str := ["web", "bounds", "value", "low", "high", "amount"]
theorem sc_is_pull_within : FnScope N_is_pull_within ["web", "bounds", "value"] (defScope s_is_pull_within) := ⟨rfl, rfl, rfl, by decide +kernel, rfl, by decide +kernel, by decide +kernel⟩
abbrev Q_is_pull_within (P : Program) (w : World) (K : PySem.W.Frag) (mg : Str → Option Value) (base : Heap) : Prop := Df P w K mg base CX0 5 "is_pull_within" s_is_pull_within ["web", "bounds", "value"] (SpG (fun x : Nat × List Arr × List Bnd × PyData => [webD x.1 x.2.1, bndD x.2.2.1, x.2.2.2]) (fun x => WB x.1 x.2.1 x.2.2.1) fun x r => r = .bool (withinB x.2.1 x.2.2.1 x.2.2.2))
theorem inB_all : ∀ (bs : List Bnd) (ms : List Int), bs.length = ms.length → ((bs.zip ms).all fun p => decide (p.1.1 ≤ p.2) && decide (p.2 ≤ p.1.2)) = inB bs ms
  | [], [], _ => rfl
  | b :: bs, m :: ms, h => by
    rw [List.zip_cons_cons, List.all_cons, inB_all bs ms (by simpa using h)]
    rfl
theorem df_is_pull_within (B : Bl mg) (F : Fx K mg "is_pull_within" s_is_pull_within) (D_check_web : Q_check_web P w K mg base) (D_check_bounds : Q_check_bounds P w K mg base) (D_is_pull_of : Q_is_pull_of P w K mg base) : Q_is_pull_within P w K mg base := by
  refine df_of F sc_is_pull_within (fun _ _ F => F.binds fun _ _ _ _ _ _ us hl => match us, hl with | [_, _, _], _ => rfl) (fun _ => rfl) fun f cdv A outer s H Q E O x σ hr W a q => ?_
  obtain ⟨n, as, bs, d⟩ := x
  have W : WB n as bs := W
  dsimp only at a q
  refine ⟨_, (pss_cons (ps_expr (pe_df D_check_web (hr.mono (by decide)) (by rfl) (pa_cons (pv 0) pa_nil)))
        (pss_cons (ps_expr (pe_df D_check_bounds (hr.mono (by decide)) (by rfl) (pa_cons (pv 0) (pa_cons (pv 1) pa_nil))))
        (pss_cons (ps_if (pt_not (pt_val (pe_df D_is_pull_of (hr.mono (by decide)) (by rfl) (pa_cons (pv 0) (pa_cons (pv 2) pa_nil)))))
          (pss_one (ps_ret pe_bl))
          pss_nil)
        (pss_one (ps_ret (pe_callB (allK K) (by rfl) B.m_all (by decide +kernel) (pa_cons (pe_lc (own := [("amount", 5), ("low", 3), ("high", 4)]) rfl sc_is_pull_within.nd (piZipK K (by rfl) B.m_zip (pa_cons (pv 1) (pa_cons (pv 2) pa_nil))) (blkOk_by (N := N_is_pull_within) (sc := defScope s_is_pull_within) (own := [("amount", 5), ("low", 3), ("high", 4)]) (by decide +kernel)) (fun _ _ _ _ _ => (pgTupK K (n := 2) (pgs_cons (pgTupK K (n := 2) (pgs_cons (pg_name (i := 3) sc_is_pull_within.nd rfl (Or.inl rfl)) (pgs_cons (pg_name (i := 4) sc_is_pull_within.nd rfl (Or.inl rfl)) pgs_nil))) (pgs_cons (pg_name (i := 5) sc_is_pull_within.nd rfl (Or.inl rfl)) pgs_nil)))) (fun _ _ _ _ _ => pts_nil) (fun _ _ _ _ _ => (pe_chain op_le op_le (pv 3) (pv 5) (pv 4)))) pa_nil))))))), ?_⟩
  refine st_seq (st_drop (de_callG (n, as) (da_cons (de_var rfl) da_nil) W.toWb) a fun H _ _ a => ?_)
  refine st_seq (st_drop (de_callG (n, as, bs) (da_cons (de_var rfl) (da_cons (de_var rfl) da_nil)) W) a fun H _ _ a => ?_)
  refine st_seq (st_if (b := !isPullB as d) (dtN (dtB (de_callG (n, as, d) (da_cons (de_var rfl) (da_cons (de_var rfl) da_nil)) W.toWb))) a (fun H hb a => ?_) fun H hb a => st_next ?_)
  · refine st_ret (de_bl false) a fun v H' a' r => q _ _ _ _ _ _ a' r ?_
    unfold withinB
    rw [show isPullB as d = false by simpa using hb]
    rfl
  · have hb : isPullB as d = true := by simpa using hb
    have hb2 := hb
    unfold isPullB at hb2
    cases z : amts as.length d with
    | none => rw [z] at hb2; cases hb2
    | some ms =>
      obtain ⟨rfl, hl⟩ := amts_of z
      have hlb : bs.length = ms.length := by rw [hl, W.len]
      refine st_ret (d := .bool (withinB as bs (intsT ms))) (de_is (de_allMap (f := fun d => match d with | .tuple [.tuple [.int l, .int h], .int c] => decide (l ≤ c) && decide (c ≤ h) | _ => false) (dn_lcA _ (di_zip (ds := bs.map pairI) (de_var rfl) (es := ms.map .int) (de_var rfl) (by rw [List.length_map, List.length_map, hlb])) ?_ fun i d hd => ?_).de) ?_) a fun v H' a' r => q _ _ _ _ _ _ a' r rfl
      · rw [pairs_len (by rw [List.length_map, List.length_map, hlb]), List.length_map, hlb]
        exact Nat.le_trans (Nat.le_of_eq hl) (Nat.le_trans W.few (by decide))
      · obtain ⟨_, _, h1, h2, rfl⟩ := pairs_at hd
        obtain ⟨b, hb, rfl⟩ := bnd_at h1
        obtain ⟨c, hc, rfl⟩ := int_at h2
        exact ⟨_, dg_tup (dgs_cons (dg_tup (dgs_cons dg_name (dgs_cons dg_name dgs_nil))) (dgs_cons dg_name dgs_nil)), de_chain (de_var rfl) (de_var rfl) (de_var rfl)⟩
      · unfold withinB
        rw [hb, z, pairs_map, List.all_map]
        show PyData.bool _ = .bool (true && inB bs ms)
        rw [Bool.true_and, ← inB_all bs ms hlb]
        rfl
abbrev s_weigh : Stmt := topS 30
abbrev N_weigh : List Str := ["bounds", "value", "low", "high", "one"]
theorem sc_weigh : FnScope N_weigh ["bounds", "value"] (defScope s_weigh) := ⟨rfl, rfl, rfl, by decide +kernel, rfl, by decide +kernel, by decide +kernel⟩
abbrev Q_weigh (P : Program) (w : World) (K : PySem.W.Frag) (mg : Str → Option Value) (base : Heap) : Prop := Df P w K mg base CX0 1 "weigh" s_weigh ["bounds", "value"] (SpG (fun x : List Bnd × List Int => [bndD x.1, intsT x.2]) (fun x => x.1.length = x.2.length ∧ x.2.length ≤ 15) fun x r => r = .int (EW.weigh x.1 x.2))
theorem weigh_sum : ∀ (bs : List Bnd) (ms : List Int), (((bs.zip ms).filterMap fun p => if p.2 = 0 then none else some (if p.2 = 1 then p.1.2 else -p.1.1)) : List Int).sum = EW.weigh bs ms
  | [], _ => rfl
  | _ :: _, [] => rfl
  | b :: bs, m :: ms => by
    have ih := weigh_sum bs ms
    rw [List.zip_cons_cons, List.filterMap_cons]
    show _ = wG b m + EW.weigh bs ms
    rw [← ih]
    unfold wG
    by_cases h0 : m = 0
    · subst h0
      simp
    · by_cases h1 : m = 1
      · subst h1
        simp
      · simp [h0, h1]
theorem df_weigh (B : Bl mg) (F : Fx K mg "weigh" s_weigh) : Q_weigh P w K mg base := by
  refine df_of F sc_weigh (fun _ _ F => F.binds fun _ _ _ _ _ _ us hl => match us, hl with | [_, _], _ => rfl) (fun _ => rfl) fun f cdv A outer s H Q E O x σ hr W a q => ?_
  obtain ⟨bs, ms⟩ := x
  obtain ⟨hl, hm⟩ : bs.length = ms.length ∧ ms.length ≤ 15 := W
  dsimp only at a q
  refine ⟨_, (pss_one (ps_ret (pe_callB (sumK K) (by rfl) B.m_sum (by decide +kernel) (pa_cons (pe_lc (own := [("one", 4), ("low", 2), ("high", 3)]) rfl sc_weigh.nd (piZipK K (by rfl) B.m_zip (pa_cons (pv 0) (pa_cons (pv 1) pa_nil))) (blkOk_by (N := N_weigh) (sc := defScope s_weigh) (own := [("one", 4), ("low", 2), ("high", 3)]) (by decide +kernel)) (fun _ _ _ _ _ => (pgTupK K (n := 2) (pgs_cons (pgTupK K (n := 2) (pgs_cons (pg_name (i := 2) sc_weigh.nd rfl (Or.inl rfl)) (pgs_cons (pg_name (i := 3) sc_weigh.nd rfl (Or.inl rfl)) pgs_nil))) (pgs_cons (pg_name (i := 4) sc_weigh.nd rfl (Or.inl rfl)) pgs_nil)))) (fun _ _ _ _ _ => (pts_one (pt_cmpR op_ne (pv 4) pe_int (nomark _)))) (fun _ _ _ _ _ => (pe_ifExp (pt_cmpR op_eq (pv 4) pe_int (nomark _)) (pv 3) (pe_un un_neg (pv 2))))) pa_nil)))), ?_⟩
  refine st_ret (d := .int (EW.weigh bs ms)) (de_is (de_sum (ns := (bs.zip ms).filterMap fun p => if p.2 = 0 then none else some (if p.2 = 1 then p.1.2 else -p.1.1)) (de_is (dn_lc (fun d => match d with | .tuple [.tuple [.int l, .int h], .int c] => if c = 0 then none else some (.int (if c = 1 then h else -l)) | _ => none) (di_zip (ds := bs.map pairI) (de_var rfl) (es := ms.map .int) (de_var rfl) (by rw [List.length_map, List.length_map, hl])) ?_ fun i d hd => ?_).de ?_)) ?_) a fun v H' a' r => q _ _ _ _ _ _ a' r rfl
  · rw [pairs_len (by rw [List.length_map, List.length_map, hl]), List.length_map]
    omega
  · obtain ⟨_, _, h1, h2, rfl⟩ := pairs_at hd
    obtain ⟨b, hb, rfl⟩ := bnd_at h1
    obtain ⟨c, hc, rfl⟩ := int_at h2
    refine ⟨_, dg_tup (dgs_cons (dg_tup (dgs_cons dg_name (dgs_cons dg_name dgs_nil))) (dgs_cons dg_name dgs_nil)), dt_is (dt_test (de_neI (de_var rfl) (de_int 0))) ?_, fun e he => ?_⟩
    · show (!decide (c = 0)) = (if c = 0 then none else some (PyData.int (if c = 1 then b.2 else -b.1))).isSome
      by_cases h : c = 0
      · rw [if_pos h, decide_eq_true h]; rfl
      · rw [if_neg h, decide_eq_false h]; rfl
    · have he : (if c = 0 then none else some (PyData.int (if c = 1 then b.2 else -b.1))) = some e := he
      by_cases h : c = 0
      · rw [if_pos h] at he
        cases he
      · rw [if_neg h] at he
        cases he
        by_cases h1 : c = 1
        · rw [if_pos h1]
          exact de_if (b := true) (dtT (de_eqI (de_var rfl) (de_int 1)) (by rw [decide_eq_true h1])) (fun _ => de_var rfl) fun z => nomatch z
        · rw [if_neg h1]
          exact de_if (b := false) (dtT (de_eqI (de_var rfl) (de_int 1)) (by rw [decide_eq_false h1])) (fun z => nomatch z) fun _ => de_neg (de_var rfl)
  · rw [pairs_map, List.filterMap_map, List.map_filterMap]
    congr 2
    funext p
    show (if p.2 = 0 then none else some (PyData.int (if p.2 = 1 then p.1.2 else -p.1.1))) = (if p.2 = 0 then none else some (if p.2 = 1 then p.1.2 else -p.1.1)).map .int
    by_cases h : p.2 = 0
    · rw [if_pos h, if_pos h]; rfl
    · rw [if_neg h, if_neg h]; rfl
  · rw [weigh_sum]
end
end EW
/-! rings, bars -/
namespace EW
open PySem PyProof.Rows L2
theorem some_pairs : ∀ (as : List Arr) (ms : List Int), (pairs (as.map pairN) (ms.map .int)).filterMap (fun d => match d with | .tuple [x, .int c] => if c = 0 then none else some x | _ => none) = (someOf as ms).map pairN
  | [], _ => rfl
  | _ :: _, [] => rfl
  | a :: as, m :: ms => by
    have ih := some_pairs as ms
    rw [show pairs ((a :: as).map pairN) ((m :: ms).map .int) = .tuple [pairN a, .int m] :: pairs (as.map pairN) (ms.map .int) from rfl, List.filterMap_cons, ih]
    rw [show someOf (a :: as) (m :: ms) = if m = 0 then someOf as ms else a :: someOf as ms from rfl]
    by_cases h : m = 0
    · subst h; rfl
    · rw [if_neg h]
      simp [h]
open Classical in
theorem ringB_iff {as : List Arr} {ms : List Int} : ringB as ms = true ↔ Small ms ∧ Single (someOf as ms) := decide_eq_true_iff
theorem ringB_not {as : List Arr} {ms : List Int} (h : ¬ (Small ms ∧ Single (someOf as ms))) : ringB as ms = false := by
  cases z : ringB as ms with
  | false => rfl
  | true => exact absurd (ringB_iff.mp z) h
open Classical in
theorem barsB_some {n : Nat} {as : List Arr} {bs : List Bnd} {d : PyData} {ms : List Int} (z : amts as.length d = some ms) : barsB n as bs d = true ↔ Bars n as bs ms := by
  unfold barsB
  rw [z]
  exact decide_eq_true_iff
theorem ends_flat : ∀ l : List Arr, (l.map pairN).flatMap (fun d => (match d with | .tuple [x, y] => [x, y] | _ => []).map fun e => e) = natsL (endsOf l)
  | [] => rfl
  | a :: l => by
    rw [List.map_cons, List.flatMap_cons, ends_flat l]
    rfl
theorem someOf_len : ∀ (as : List Arr) (ms : List Int), (someOf as ms).length ≤ as.length
  | [], _ => Nat.le_refl _
  | _ :: _, [] => Nat.zero_le _
  | a :: as, m :: ms => by
    have := someOf_len as ms
    unfold someOf
    split
    · exact Nat.le_succ_of_le this
    · exact Nat.succ_le_succ this
theorem count_nats (v : Nat) : ∀ l : List Nat, (l.map fun u : Nat => (u : Int)).count (v : Int) = l.count v
  | [] => rfl
  | u :: l => by
    rw [List.map_cons, List.count_cons, List.count_cons, count_nats v l]
    by_cases h : u = v
    · subst h; simp
    · have : ¬ ((u : Int) = (v : Int)) := by omega
      simp [h, this]
theorem filter_pick {f : PyData → Option PyData} {p : Arr → Bool} {g : Arr → Nat} (h : ∀ a, f (pairN a) = if p a = true then some (.int (g a)) else none) : ∀ l : List Arr, (l.map pairN).filterMap f = natsL ((l.filter p).map g)
  | [] => rfl
  | a :: l => by
    rw [List.map_cons, List.filterMap_cons, h a, filter_pick h l, List.filter_cons]
    cases p a <;> rfl
theorem jn1_len (l : List Arr) (J : List Nat) : (jn1 l J).length ≤ J.length + l.length := by
  unfold jn1
  rw [List.length_append, List.length_map]
  have := List.length_filter_le (fun a : Arr => decide (a.1 ∈ J) && !decide (a.2 ∈ J)) l
  omega
theorem jn2_len (l : List Arr) (J : List Nat) : (jn2 l J).length ≤ J.length + l.length := by
  unfold jn2
  rw [List.length_append, List.length_map]
  have := List.length_filter_le (fun a : Arr => decide (a.2 ∈ J) && !decide (a.1 ∈ J)) l
  omega
theorem jns_len (l : List Arr) (J : List Nat) : ∀ k, (jns l k J).length ≤ J.length + k * (2 * l.length)
  | 0 => by simp [jns]
  | k + 1 => by
    have h1 := jns_len l J k
    have h2 := jn1_len l (jns l k J)
    have h3 := jn2_len l (jn1 l (jns l k J))
    show (jn2 l (jn1 l (jns l k J))).length ≤ _
    rw [Nat.succ_mul]
    omega
section
variable {P : Program} {w : World} {K : PySem.W.Frag} {mg : Str → Option Value} {base : Heap}
abbrev s_is_ring_of : Stmt := topS 24
abbrev N_is_ring_of : List Str := ["web", "value", "some", "ends", "amount", "places", "end", "place", "joined", "turn", "x", "y"]
theorem sc_is_ring_of : FnScope N_is_ring_of ["web", "value"] (defScope s_is_ring_of) := ⟨rfl, rfl, rfl, by decide +kernel, rfl, by decide +kernel, by decide +kernel⟩
abbrev Q_is_ring_of (P : Program) (w : World) (K : PySem.W.Frag) (mg : Str → Option Value) (base : Heap) : Prop := Df P w K mg base CX0 1 "is_ring_of" s_is_ring_of ["web", "value"] (SpG (fun x : Nat × List Arr × List Int => [webD x.1 x.2.1, intsT x.2.2]) (fun x => Wb x.1 x.2.1 ∧ x.2.2.length = x.2.1.length) fun x r => r = .bool (ringB x.2.1 x.2.2))
theorem df_is_ring_of (B : Bl mg) (F : Fx K mg "is_ring_of" s_is_ring_of) : Q_is_ring_of P w K mg base := by
  refine df_of F sc_is_ring_of (fun _ _ F => F.binds fun _ _ _ _ _ _ us hl => match us, hl with | [_, _], _ => rfl) (fun _ => rfl) fun f cdv A outer s H Q E O x σ hr W a q => ?_
  obtain ⟨n, as, ms⟩ := x
  obtain ⟨W, hl⟩ : Wb n as ∧ ms.length = as.length := W
  dsimp only at a q
  have hfew : as.length ≤ 15 := W.few
  have sfew : (someOf as ms).length ≤ 15 := Nat.le_trans (someOf_len as ms) hfew
  have slen : ((someOf as ms).map pairN).length ≤ 15 := by rw [List.length_map]; exact sfew
  have elen : (natsL (endsOf (someOf as ms))).length ≤ 30 := by rw [natsL_len, endsOf_len]; omega
  have plen : (pairs (as.map pairN) (ms.map .int)).length ≤ 90000 := by rw [pairs_len (by rw [List.length_map, List.length_map, hl]), List.length_map]; omega
  have no : ∀ {b : Bool}, b = false → ringB as ms = b → ringB as ms = false := fun h k => k.trans h
  refine ⟨_, (pss_cons (ps_setLc (i := 2) (own := [("ends", 3), ("amount", 4)]) rfl sc_is_ring_of.nd rfl rfl (sw_true rfl rfl rfl (by decide +kernel)) (piZipK K (by rfl) B.m_zip (pa_cons (pe_ix (ixK K) (pv 0) pe_int (fun _ _ => rfl)) (pa_cons (pv 1) pa_nil))) (blkOk_by (N := N_is_ring_of) (sc := defScope s_is_ring_of) (own := [("ends", 3), ("amount", 4)]) (by decide +kernel)) (fun _ _ _ _ _ => (pgTupK K (n := 2) (pgs_cons (pg_name (i := 3) sc_is_ring_of.nd rfl (Or.inl rfl)) (pgs_cons (pg_name (i := 4) sc_is_ring_of.nd rfl (Or.inl rfl)) pgs_nil)))) (fun _ _ _ _ _ => (pts_one (pt_cmpR op_ne (pv 4) pe_int (nomark _)))) (fun _ _ _ _ _ => (pv 3)))
        (pss_cons (ps_if (PW.pt (pw_or (pt_cmpR (eqDK K hr.units) (pv 2) (pe_lst pa_nil) (nomark _)) (pw_or1 (pt_not (pt_val (pe_callB (allK K) (by rfl) B.m_all (by decide +kernel) (pa_cons (pe_lc (own := [("amount", 4)]) rfl sc_is_ring_of.nd (piTupK K (pv 1)) (blkOk_by (N := N_is_ring_of) (sc := defScope s_is_ring_of) (own := [("amount", 4)]) (by decide +kernel)) (fun _ _ _ _ _ => (pg_name (i := 4) sc_is_ring_of.nd rfl (Or.inl rfl))) (fun _ _ _ _ _ => pts_nil) (fun _ _ _ _ _ => (pe_chain op_le op_le (pe_un un_neg pe_int) (pv 4) pe_int))) pa_nil)))))))
          (pss_one (ps_ret pe_bl))
          pss_nil)
        (pss_cons (ps_set (i := 5) sc_is_ring_of.nd rfl (Or.inr rfl) (pe_lc2 (own := [("ends", 3), ("end", 6)]) (vs1 := [6]) rfl sc_is_ring_of.nd (piListK K (pv 2)) (blkOk_by (N := N_is_ring_of) (sc := defScope s_is_ring_of) (own := [("ends", 3), ("end", 6)]) (by decide +kernel)) (by decide) (fun _ _ _ _ _ => (pg_name (i := 3) sc_is_ring_of.nd rfl (Or.inl rfl))) (fun _ _ _ _ _ => pts_nil) (fun _ _ _ _ _ => (piTupK K (pv 3))) (fun _ _ _ _ _ => (pg_name (i := 6) sc_is_ring_of.nd rfl (Or.inl rfl))) (fun _ _ _ _ _ => pts_nil) (fun _ _ _ _ _ => (pv 6))))
        (pss_cons (ps_if (pt_not (pt_val (pe_callB (allK K) (by rfl) B.m_all (by decide +kernel) (pa_cons (pe_lc (own := [("place", 7)]) rfl sc_is_ring_of.nd (piListK K (pv 5)) (blkOk_by (N := N_is_ring_of) (sc := defScope s_is_ring_of) (own := [("place", 7)]) (by decide +kernel)) (fun _ _ _ _ _ => (pg_name (i := 7) sc_is_ring_of.nd rfl (Or.inl rfl))) (fun _ _ _ _ _ => pts_nil) (fun _ _ _ _ _ => (pe_cmpR op_eq (bmK K PySem.F.plainAttrs_list PySem.F.slot_list_count PySem.F.type_list_count (countK K) (pv 5) (pa_cons (pv 7) pa_nil)) pe_int (nomark _)))) pa_nil))))
          (pss_one (ps_ret pe_bl))
          pss_nil)
        (pss_cons (ps_set (i := 8) sc_is_ring_of.nd rfl (Or.inr rfl) (pe_lst (pa_cons (pe_ix (ixK K) (pe_ix (ixK K) (pv 2) pe_int (fun _ _ => rfl)) pe_int (fun _ _ => rfl)) pa_nil)))
        (pss_cons (ps_for PassesOwn.never rfl (piListK K (pv 2)) (pg_name (i := 9) sc_is_ring_of.nd rfl (Or.inl rfl))
          (pss_cons (ps_aug (i := 8) sc_is_ring_of.nd rfl (Or.inr rfl) (pe_lc (own := [("x", 10), ("y", 11)]) rfl sc_is_ring_of.nd (piListK K (pv 2)) (blkOk_by (N := N_is_ring_of) (sc := defScope s_is_ring_of) (own := [("x", 10), ("y", 11)]) (by decide +kernel)) (fun _ _ _ _ _ => (pgTupK K (n := 2) (pgs_cons (pg_name (i := 10) sc_is_ring_of.nd rfl (Or.inl rfl)) (pgs_cons (pg_name (i := 11) sc_is_ring_of.nd rfl (Or.inl rfl)) pgs_nil)))) (fun _ _ _ _ _ => (pts_one (PW.pt (pw_and (pt_cmpR (inK K) (pv 10) (pv 8) (by rfl)) (pw_and1 (pt_cmpR (ninK K) (pv 11) (pv 8) (by rfl))))))) (fun _ _ _ _ _ => (pv 11))) iop_ext)
          (pss_one (ps_aug (i := 8) sc_is_ring_of.nd rfl (Or.inr rfl) (pe_lc (own := [("x", 10), ("y", 11)]) rfl sc_is_ring_of.nd (piListK K (pv 2)) (blkOk_by (N := N_is_ring_of) (sc := defScope s_is_ring_of) (own := [("x", 10), ("y", 11)]) (by decide +kernel)) (fun _ _ _ _ _ => (pgTupK K (n := 2) (pgs_cons (pg_name (i := 10) sc_is_ring_of.nd rfl (Or.inl rfl)) (pgs_cons (pg_name (i := 11) sc_is_ring_of.nd rfl (Or.inl rfl)) pgs_nil)))) (fun _ _ _ _ _ => (pts_one (PW.pt (pw_and (pt_cmpR (inK K) (pv 11) (pv 8) (by rfl)) (pw_and1 (pt_cmpR (ninK K) (pv 10) (pv 8) (by rfl))))))) (fun _ _ _ _ _ => (pv 10))) iop_ext))))
        (pss_one (ps_ret (pe_callB (allK K) (by rfl) B.m_all (by decide +kernel) (pa_cons (pe_lc (own := [("place", 7)]) rfl sc_is_ring_of.nd (piListK K (pv 5)) (blkOk_by (N := N_is_ring_of) (sc := defScope s_is_ring_of) (own := [("place", 7)]) (by decide +kernel)) (fun _ _ _ _ _ => (pg_name (i := 7) sc_is_ring_of.nd rfl (Or.inl rfl))) (fun _ _ _ _ _ => pts_nil) (fun _ _ _ _ _ => (pe_cmpR (inK K) (pv 7) (pv 8) (by rfl)))) pa_nil)))))))))), ?_⟩
  refine st_seq (st_set (d := .list ((someOf as ms).map pairN)) (de_is (dn_lc (fun d => match d with | .tuple [x, .int c] => if c = 0 then none else some x | _ => none) (di_zip (de_web1 rfl) (es := ms.map .int) (de_var rfl) (by rw [List.length_map, List.length_map, hl])) plen fun i d hd => ?_).de (by rw [some_pairs])) a fun σ H a => ?_)
  · obtain ⟨_, _, h1, h2, rfl⟩ := pairs_at hd
    obtain ⟨e, he, rfl⟩ := arr_at h1
    obtain ⟨c, hc, rfl⟩ := int_at h2
    refine ⟨_, dg_tup (dgs_cons dg_name (dgs_cons dg_name dgs_nil)), dt_is (dt_test (de_neI (de_var rfl) (de_int 0))) ?_, fun x hx => ?_⟩
    · show (!decide (c = 0)) = (if c = 0 then none else some (pairN e)).isSome
      by_cases h : c = 0
      · rw [if_pos h, decide_eq_true h]; rfl
      · rw [if_neg h, decide_eq_false h]; rfl
    · have hx : (if c = 0 then none else some (pairN e)) = some x := hx
      by_cases h : c = 0
      · rw [if_pos h] at hx; cases hx
      · rw [if_neg h] at hx; cases hx; exact de_var rfl
  refine st_seq (st_if (b := (someOf as ms).isEmpty || !(ms.all fun c => decide (-1 ≤ c) && decide (c ≤ 1))) (dt_is (dt_or (dtT (b := (someOf as ms).isEmpty) (de_eqD (de_var rfl) (de_lst da_nil) (Tame.shaped (k := 2) (tame_list fun d hd => ?_)) rfl) ?_) fun _ =>
    dtN (dtB (b := ms.all fun c => decide (-1 ≤ c) && decide (c ≤ 1)) (de_allMap (f := fun d => match d with | .int c => decide (-1 ≤ c) && decide (c ≤ 1) | _ => false) (dn_lcA _ (di_tup (ds := ms.map .int) (de_var rfl)) ?_ fun i d hd => ?_).de) ?_)) rfl) a (fun H hb a => ?_) fun H hb a => st_next ?_)
  · obtain ⟨x, _, rfl⟩ := List.mem_map.mp hd
    exact tame_tuple (k := 0) fun d hd => by
      simp only [List.mem_cons, List.not_mem_nil, or_false] at hd
      rcases hd with rfl | rfl <;> exact tame_int 0 _
  · rw [eqv_nilL, List.isEmpty_map]
  · rw [List.length_map, hl]
    exact Nat.le_trans hfew (by decide)
  · obtain ⟨c, hc, rfl⟩ := int_at hd
    exact ⟨_, dg_name, de_chain (de_neg (de_int 1)) (de_var rfl) (de_int 1)⟩
  · rw [List.all_map]
    rfl
  · refine st_ret (de_bl false) a fun v H' a' r => q _ _ _ _ _ _ a' r ?_
    congr 1
    refine (ringB_not fun ⟨h1, h2⟩ => ?_).symm
    rw [Bool.or_eq_true] at hb
    rcases hb with hb | hb
    · exact h2.1 (List.isEmpty_iff.mp hb)
    · rw [Bool.not_eq_true', List.all_eq_false] at hb
      obtain ⟨c, hc, hc2⟩ := hb
      have := h1 c hc
      rw [decide_eq_true this.1, decide_eq_true this.2] at hc2
      exact hc2 rfl
  · rw [Bool.or_eq_false_iff] at hb
    have hne : someOf as ms ≠ [] := fun z => by rw [z] at hb; cases hb.1
    have hsm : Small ms := fun c hc => by
      have h2 := hb.2
      rw [Bool.not_eq_false', List.all_eq_true] at h2
      have := h2 c hc
      rw [Bool.and_eq_true] at this
      exact ⟨of_decide_eq_true this.1, of_decide_eq_true this.2⟩
    refine st_seq (st_set (d := .list (natsL (endsOf (someOf as ms)))) (de_is (dn_lc2 (fun d => match d with | .tuple [x, y] => [x, y] | _ => []) (fun _ e => e) (di_list (ds := (someOf as ms).map pairN) (de_var rfl)) ?_ (Nat.le_trans slen (by decide)) fun i d hd => ?_).de (by rw [ends_flat])) a fun σ H a => ?_)
    · intro d hd
      obtain ⟨x, _, rfl⟩ := List.mem_map.mp hd
      exact Nat.le_of_ble_eq_true rfl
    · obtain ⟨e, he, rfl⟩ := arr_at hd
      exact ⟨_, dg_name, di_tup (de_var rfl), fun j x hx => ⟨_, dg_name, de_var rfl⟩⟩
    refine st_seq (st_if (b := !((endsOf (someOf as ms)).all fun v => decide ((endsOf (someOf as ms)).count v = 2))) (dtN (dtB (b := (endsOf (someOf as ms)).all fun v => decide ((endsOf (someOf as ms)).count v = 2)) (de_allMap (f := fun d => match d with | .int v => decide ((endsOf (someOf as ms)).count v.toNat = 2) | _ => false) (dn_lcA _ (di_list (ds := natsL (endsOf (someOf as ms))) (de_var rfl)) (Nat.le_trans elen (by decide)) fun i d hd => ?_).de) ?_)) a (fun H hb a => ?_) fun H hb a => st_next ?_)
    · obtain ⟨v, hv, rfl⟩ := nat_at hd
      refine ⟨_, dg_name, de_is (de_eqI (de_count (ns := (endsOf (someOf as ms)).map fun v : Nat => (v : Int)) (de_is (de_var (d := .list (natsL (endsOf (someOf as ms)))) rfl) (by rw [natsL_ints])) (de_var rfl)) (de_int 2)) ?_⟩
      rw [count_nats]
      show PyData.bool (decide (((endsOf (someOf as ms)).count v : Nat) = (2 : Int))) = .bool (decide ((endsOf (someOf as ms)).count v = 2))
      congr 1
      exact natI (j := 2)
    · unfold natsL
      rw [List.all_map]
      rfl
    · refine st_ret (de_bl false) a fun v H' a' r => q _ _ _ _ _ _ a' r ?_
      congr 1
      refine (ringB_not fun ⟨h1, h2⟩ => ?_).symm
      rw [Bool.not_eq_true', List.all_eq_false] at hb
      obtain ⟨v, hv, hv2⟩ := hb
      exact hv2 (decide_eq_true (h2.2.1 v hv))
    · rw [Bool.not_eq_false', List.all_eq_true] at hb
      have hcnt : ∀ v ∈ endsOf (someOf as ms), (endsOf (someOf as ms)).count v = 2 := fun v hv => of_decide_eq_true (hb v hv)
      obtain ⟨e0, he0⟩ : ∃ e0, (someOf as ms).head? = some e0 := by
        cases z : someOf as ms with
        | nil => exact absurd z hne
        | cons x l => exact ⟨x, rfl⟩
      have he00 : ((someOf as ms).map pairN)[0]? = some (pairN e0) := by
        rw [List.getElem?_map, ← List.head?_eq_getElem?, he0]
        rfl
      generalize hL : someOf as ms = L at *
      refine st_seq (st_setN (dn_lst (da_cons (de_ixT (de_ixL (de_var rfl) (de_int 0) (atI_nat he00)) (de_int 0) rfl) da_nil)) a fun σ H a => ?_)
      refine st_seq (st_for (α := Unit) (di_list (ds := L.map pairN) (de_var rfl)) a fun ds e => ?_)
      subst e
      refine ⟨fun _ _ => True, fun i _ => [.dat (webD n as), .dat (intsT ms), .dat (.list (L.map pairN)), .no, .no, .dat (.list (natsL (endsOf L))), .no, .no, .own 0, .no, .no, .no], fun i _ => [.lst (natsL (jns L i [e0.1]))], (), trivial, rfl, rfl, fun _ _ => rfl, fun i _ d hd _ => ?_, fun _ _ σ H a => ?_⟩
      · have hi : i < 15 := by
          have := (List.getElem?_eq_some_iff.mp hd).1
          omega
        refine ⟨[9], _, dg_name, fun H1 A hA _ N σ H hN a => ?_⟩
        have hj : (jns L i [e0.1]).length ≤ 1 + 15 * 30 := Nat.le_trans (jns_len L [e0.1] i) (Nat.add_le_add_left (Nat.mul_le_mul (Nat.le_of_lt hi) (by omega)) 1)
        have hj1 := jn1_len L (jns L i [e0.1])
        refine st_seq (st_ext (ds := natsL (jns L i [e0.1])) (es := natsL ((L.filter fun a => decide (a.1 ∈ jns L i [e0.1]) && !decide (a.2 ∈ jns L i [e0.1])).map (·.2))) (de_is (dn_lc (fun d => match d with | .tuple [.int x, .int y] => if (decide (x.toNat ∈ jns L i [e0.1]) && !decide (y.toNat ∈ jns L i [e0.1])) = true then some (.int y) else none | _ => none) (di_list (ds := L.map pairN) (de_var rfl)) (Nat.le_trans slen (by decide)) fun j d hd => ?_).de (by rw [filter_pick (p := fun a => decide (a.1 ∈ jns L i [e0.1]) && !decide (a.2 ∈ jns L i [e0.1])) (g := (·.2)) fun a => rfl])) rfl rfl ?_ a fun σ H a => ?_)
        · obtain ⟨e, he, rfl⟩ := arr_at hd
          refine ⟨_, dg_tup (dgs_cons dg_name (dgs_cons dg_name dgs_nil)), dt_is (dt_and (dt_test (de_inO (ns := (jns L i [e0.1]).map fun v : Nat => (v : Int)) (de_var rfl) (do_var rfl) (by rw [← natsL_ints]; rfl))) fun _ => dt_test (de_ninO (ns := (jns L i [e0.1]).map fun v : Nat => (v : Int)) (de_var rfl) (do_var rfl) (by rw [← natsL_ints]; rfl))) ?_, fun x hx => ?_⟩
          · show (decide ((e.1 : Int) ∈ _) && !decide ((e.2 : Int) ∈ _)) = (if (decide (e.1 ∈ jns L i [e0.1]) && !decide (e.2 ∈ jns L i [e0.1])) = true then some (PyData.int (e.2 : Nat)) else none).isSome
            rw [decide_eq_decide.mpr (mem_nats (l := jns L i [e0.1]) (v := e.1)), decide_eq_decide.mpr (mem_nats (l := jns L i [e0.1]) (v := e.2))]
            generalize (decide (e.1 ∈ jns L i [e0.1]) && !decide (e.2 ∈ jns L i [e0.1])) = bb
            cases bb <;> rfl
          · have hx : (if (decide (e.1 ∈ jns L i [e0.1]) && !decide (e.2 ∈ jns L i [e0.1])) = true then some (PyData.int (e.2 : Nat)) else none) = some x := hx
            split at hx
            · cases hx; exact de_var rfl
            · cases hx
        · rw [natsL_len, natsL_len, List.length_map]
          have := List.length_filter_le (fun a : Arr => decide (a.1 ∈ jns L i [e0.1]) && !decide (a.2 ∈ jns L i [e0.1])) L
          omega
        have ej1 : natsL (jns L i [e0.1]) ++ natsL ((L.filter fun a => decide (a.1 ∈ jns L i [e0.1]) && !decide (a.2 ∈ jns L i [e0.1])).map (·.2)) = natsL (jn1 L (jns L i [e0.1])) := by
          unfold natsL jn1
          rw [List.map_append]
        rw [ej1] at a
        generalize hJ : jn1 L (jns L i [e0.1]) = J at *
        refine st_ext (ds := natsL J) (es := natsL ((L.filter fun a => decide (a.2 ∈ J) && !decide (a.1 ∈ J)).map (·.1))) (de_is (dn_lc (fun d => match d with | .tuple [.int x, .int y] => if (decide (y.toNat ∈ J) && !decide (x.toNat ∈ J)) = true then some (.int x) else none | _ => none) (di_list (ds := L.map pairN) (de_var rfl)) (Nat.le_trans slen (by decide)) fun j d hd => ?_).de (by rw [filter_pick (p := fun a => decide (a.2 ∈ J) && !decide (a.1 ∈ J)) (g := (·.1)) fun a => rfl])) rfl rfl ?_ a fun σ H a => hN σ H () trivial ?_
        · obtain ⟨e, he, rfl⟩ := arr_at hd
          refine ⟨_, dg_tup (dgs_cons dg_name (dgs_cons dg_name dgs_nil)), dt_is (dt_and (dt_test (de_inO (ns := J.map fun v : Nat => (v : Int)) (de_var rfl) (do_var rfl) (by rw [← natsL_ints]; rfl))) fun _ => dt_test (de_ninO (ns := J.map fun v : Nat => (v : Int)) (de_var rfl) (do_var rfl) (by rw [← natsL_ints]; rfl))) ?_, fun x hx => ?_⟩
          · show (decide ((e.2 : Int) ∈ _) && !decide ((e.1 : Int) ∈ _)) = (if (decide (e.2 ∈ J) && !decide (e.1 ∈ J)) = true then some (PyData.int (e.1 : Nat)) else none).isSome
            rw [decide_eq_decide.mpr (mem_nats (l := J) (v := e.1)), decide_eq_decide.mpr (mem_nats (l := J) (v := e.2))]
            generalize (decide (e.2 ∈ J) && !decide (e.1 ∈ J)) = bb
            cases bb <;> rfl
          · have hx : (if (decide (e.2 ∈ J) && !decide (e.1 ∈ J)) = true then some (PyData.int (e.1 : Nat)) else none) = some x := hx
            split at hx
            · cases hx; exact de_var rfl
            · cases hx
        · rw [natsL_len, natsL_len, List.length_map]
          have := List.length_filter_le (fun a : Arr => decide (a.2 ∈ J) && !decide (a.1 ∈ J)) L
          omega
        have ej2 : natsL J ++ natsL ((L.filter fun a => decide (a.2 ∈ J) && !decide (a.1 ∈ J)).map (·.1)) = natsL (jns L (i + 1) [e0.1]) := by
          show _ = natsL (jn2 L (jn1 L (jns L i [e0.1])))
          rw [hJ]
          unfold natsL jn2
          rw [List.map_append]
        rw [ej2] at a
        exact a.no [9]
      · rw [List.length_map] at a
        refine st_ret (d := .bool (ringB as ms)) (de_is (de_allMap (f := fun d => match d with | .int v => decide (v.toNat ∈ jns L L.length [e0.1]) | _ => false) (dn_lcA _ (di_list (ds := natsL (endsOf L)) (de_var rfl)) (Nat.le_trans elen (by decide)) fun i d hd => ?_).de) ?_) a fun v H' a' r => q _ _ _ _ _ _ a' r rfl
        · obtain ⟨v, hv, rfl⟩ := nat_at hd
          refine ⟨_, dg_name, de_is (de_inO (ns := (jns L L.length [e0.1]).map fun v : Nat => (v : Int)) (de_var rfl) (do_var rfl) (by rw [← natsL_ints]; rfl)) ?_⟩
          rw [decide_eq_decide.mpr (mem_nats (l := jns L L.length [e0.1]) (v := v))]
          rfl
        · congr 1
          have key := jns_conn he0 hcnt
          refine Bool.eq_iff_iff.mpr ?_
          rw [ringB_iff, hL]
          unfold natsL
          rw [List.all_map, List.all_eq_true]
          constructor
          · intro h
            exact ⟨hsm, hne, hcnt, key.mp fun v hv => of_decide_eq_true (h v hv)⟩
          · intro h v hv
            exact decide_eq_true (key.mpr h.2.2.2 v hv)
abbrev s_bars_pulls : Stmt := topS 31
abbrev N_bars_pulls : List Str := ["web", "bounds", "value"]
theorem sc_bars_pulls : FnScope N_bars_pulls ["web", "bounds", "value"] (defScope s_bars_pulls) := ⟨rfl, rfl, rfl, by decide +kernel, rfl, by decide +kernel, by decide +kernel⟩
abbrev Q_bars_pulls (P : Program) (w : World) (K : PySem.W.Frag) (mg : Str → Option Value) (base : Heap) : Prop := Df P w K mg base CX0 5 "bars_pulls" s_bars_pulls ["web", "bounds", "value"] (SpG (fun x : Nat × List Arr × List Bnd × PyData => [webD x.1 x.2.1, bndD x.2.2.1, x.2.2.2]) (fun x => WB x.1 x.2.1 x.2.2.1) fun x r => r = .bool (barsB x.1 x.2.1 x.2.2.1 x.2.2.2))
theorem df_bars_pulls (F : Fx K mg "bars_pulls" s_bars_pulls) (D_check_web : Q_check_web P w K mg base) (D_check_bounds : Q_check_bounds P w K mg base) (D_is_flow_of : Q_is_flow_of P w K mg base) (D_is_ring_of : Q_is_ring_of P w K mg base) (D_weigh : Q_weigh P w K mg base) : Q_bars_pulls P w K mg base := by
  refine df_of F sc_bars_pulls (fun _ _ F => F.binds fun _ _ _ _ _ _ us hl => match us, hl with | [_, _, _], _ => rfl) (fun _ => rfl) fun f cdv A outer s H Q E O x σ hr W a q => ?_
  obtain ⟨n, as, bs, d⟩ := x
  have W : WB n as bs := W
  dsimp only at a q
  refine ⟨_, (pss_cons (ps_expr (pe_df D_check_web (hr.mono (by decide)) (by rfl) (pa_cons (pv 0) pa_nil)))
        (pss_cons (ps_expr (pe_df D_check_bounds (hr.mono (by decide)) (by rfl) (pa_cons (pv 0) (pa_cons (pv 1) pa_nil))))
        (pss_one (ps_ret (pe_and (pe_df D_is_flow_of (hr.mono (by decide)) (by rfl) (pa_cons (pv 0) (pa_cons (pv 2) pa_nil))) (pe_and (pe_df D_is_ring_of (hr.mono (by decide)) (by rfl) (pa_cons (pv 0) (pa_cons (pv 2) pa_nil))) (pe_one (pe_cmpR op_lt (pe_df D_weigh (hr.mono (by decide)) (by rfl) (pa_cons (pv 1) (pa_cons (pv 2) pa_nil))) pe_int (nomark _))))))))), ?_⟩
  refine st_seq (st_drop (de_callG (n, as) (da_cons (de_var rfl) da_nil) W.toWb) a fun H _ _ a => ?_)
  refine st_seq (st_drop (de_callG (n, as, bs) (da_cons (de_var rfl) (da_cons (de_var rfl) da_nil)) W) a fun H _ _ a => ?_)
  refine st_ret (d := .bool (barsB n as bs d)) ?_ a fun v H' a' r => q _ _ _ _ _ _ a' r rfl
  have hfl : ∀ {Γ : Ctx} {Ω : List Ob} {E : XK}, Γ[0]? = some (.dat (webD n as)) → Γ[2]? = some (.dat d) → DE (tCall (SpG (fun x : Nat × List Arr × PyData => [webD x.1 x.2.1, x.2.2]) (fun x => Wb x.1 x.2.1) fun x r => r = .bool (isFlowB x.1 x.2.1 x.2.2)) [] E (tCons (tVar 0) (tCons (tVar 2) tNil))) Γ Ω (.bool (isFlowB n as d)) := fun h1 h2 => de_callG (res := fun x : Nat × List Arr × PyData => .bool (isFlowB x.1 x.2.1 x.2.2)) (n, as, d) (da_cons (de_var h1) (da_cons (de_var h2) da_nil)) W.toWb
  cases z : amts as.length d with
  | none =>
    refine de_is (de_andV (a := false) (b := false) (de_is (hfl rfl rfl) (by unfold isFlowB; rw [z])) fun z => nomatch z) ?_
    unfold barsB
    rw [z]
    rfl
  | some ms =>
    obtain ⟨rfl, hl⟩ := amts_of z
    refine de_is (de_andV (a := flowB n as ms) (b := ringB as ms && decide (EW.weigh bs ms < 0)) (de_is (hfl rfl rfl) (by unfold isFlowB; rw [z])) fun _ => de_andV (de_callG (n, as, ms) (da_cons (de_var rfl) (da_cons (de_var rfl) da_nil)) ⟨W.toWb, hl⟩) fun _ =>
      de_I0 (de_callG (bs, ms) (da_cons (de_var rfl) (da_cons (de_var rfl) da_nil)) ⟨by rw [hl, W.len], by rw [hl]; exact W.few⟩) (de_int 0)) ?_
    congr 1
    refine Bool.eq_iff_iff.mpr ?_
    rw [barsB_some z, Bool.and_eq_true, Bool.and_eq_true, flowB_iff, ringB_iff, decide_eq_true_iff]
    exact ⟨fun ⟨h1, ⟨h2, h3⟩, h4⟩ => ⟨h1, h2, h3, h4⟩, fun ⟨h1, h2, h3, h4⟩ => ⟨h1, ⟨h2, h3⟩, h4⟩⟩
end
end EW
/-! heights or a bar -/
namespace EW
open PySem PyProof.Rows L2
open Classical in
noncomputable def cycN (steps : List Stp) (l : Nat → Option Stp) (z : Nat) : Nat := if h : ∃ c, Cyc steps l z c then Classical.choose h else 0
theorem cycN_ok {steps : List Stp} {l : Nat → Option Stp} {z : Nat} (h : ∃ c, Cyc steps l z c) : Cyc steps l z (cycN steps l z) := by
  unfold cycN
  rw [dif_pos h]
  exact Classical.choose_spec h
noncomputable def barAt (n : Nat) (as : List Arr) (bs : List Bnd) (ls : List (Option Stp)) (q : Nat) : List Int := barL as.length (lf ls) (it (lf ls) n q) (cycN (stepsOf as bs) (lf ls) (it (lf ls) n q))
/-- heights, or a bar -/
noncomputable def hob (n : Nat) (as : List Arr) (bs : List Bnd) : Sum (List Int) (List Int) := match turns0 n (stepsOf as bs) with
  | .inl hs => .inl hs
  | .inr (ls, some q) => .inr (barAt n as bs ls q)
  | .inr (_, none) => .inr []
def hobR : Sum (List Int) (List Int) → PyData
  | .inl hs => .tuple [intsL hs, .none]
  | .inr b => .tuple [.none, intsT b]
theorem hob_l {n : Nat} {as : List Arr} {bs : List Bnd} (W : Web n as bs) {hs : List Int} (h : hob n as bs = .inl hs) : hs.length = n ∧ Feas (stepsOf as bs) fun v => hs.getD v 0 := by
  unfold hob at h
  split at h
  · rename_i e
    cases h
    exact turns0_l W.steps e
  · cases h
  · cases h
theorem hob_r {n : Nat} {as : List Arr} {bs : List Bnd} (W : Web n as bs) {b : List Int} (h : hob n as bs = .inr b) : Bars n as bs b ∧ b.length = as.length ∧ ∀ P, ¬ Feas (stepsOf as bs) P := by
  unfold hob at h
  split at h
  · cases h
  · rename_i ls q e
    cases h
    obtain ⟨_, q', e1, _, _, hc⟩ := turns0_r W.steps e
    cases e1
    exact ⟨bar_bars W (cycN_ok hc), barL_len _ _ _ _, fun P F => (cycN_ok hc).nofeas F⟩
  · rename_i ls e
    obtain ⟨_, q', e1, _⟩ := turns0_r W.steps e
    cases e1
section
variable {P : Program} {w : World} {K : PySem.W.Frag} {mg : Str → Option Value} {base : Heap}
abbrev s_steps_by : Stmt := topS 32
abbrev N_steps_by : List Str := ["web", "bounds", "found", "arrow", "x", "y"]
theorem sc_steps_by : FnScope N_steps_by ["web", "bounds"] (defScope s_steps_by) := ⟨rfl, rfl, rfl, by decide +kernel, rfl, by decide +kernel, by decide +kernel⟩
abbrev Q_steps_by (P : Program) (w : World) (K : PySem.W.Frag) (mg : Str → Option Value) (base : Heap) : Prop := Df P w K mg base CX0 1 "steps_by" s_steps_by ["web", "bounds"] (SpG (fun x : Nat × List Arr × List Bnd => [webD x.1 x.2.1, bndD x.2.2]) (fun x => WB x.1 x.2.1 x.2.2) fun x r => r = .list ((stepsOf x.2.1 x.2.2).map stpD))
theorem df_steps_by (B : Bl mg) (F : Fx K mg "steps_by" s_steps_by) : Q_steps_by P w K mg base := by
  refine df_of F sc_steps_by (fun _ _ F => F.binds fun _ _ _ _ _ _ us hl => match us, hl with | [_, _], _ => rfl) (fun _ => rfl) fun f cdv A outer s H Q E O x σ hr W a q => ?_
  obtain ⟨n, as, bs⟩ := x
  have W : WB n as bs := W
  dsimp only at a q
  refine ⟨_, (pss_cons (ps_set (i := 2) sc_steps_by.nd rfl (Or.inl rfl) (pe_lst pa_nil))
        (pss_cons (ps_for PassesOwn.never rfl (piEnumK K (by rfl) B.m_enumerate (pe_ix (ixK K) (pv 0) pe_int (fun _ _ => rfl))) (pgTupK K (n := 2) (pgs_cons (pg_name (i := 3) sc_steps_by.nd rfl (Or.inl rfl)) (pgs_cons (pgTupK K (n := 2) (pgs_cons (pg_name (i := 4) sc_steps_by.nd rfl (Or.inl rfl)) (pgs_cons (pg_name (i := 5) sc_steps_by.nd rfl (Or.inl rfl)) pgs_nil))) pgs_nil)))
          (pss_cons (ps_expr (bmK K PySem.F.plainAttrs_list PySem.F.slot_list_append PySem.F.type_list_append mt_append (pv 2) (pa_cons (pe_tup (pa_cons (pv 4) (pa_cons (pv 5) (pa_cons (pe_ix (ixK K) (pe_ix (ixK K) (pv 1) (pv 3) (fun _ _ => rfl)) pe_int (fun _ _ => rfl)) (pa_cons (pv 3) (pa_cons pe_int pa_nil)))))) pa_nil)))
          (pss_one (ps_expr (bmK K PySem.F.plainAttrs_list PySem.F.slot_list_append PySem.F.type_list_append mt_append (pv 2) (pa_cons (pe_tup (pa_cons (pv 5) (pa_cons (pv 4) (pa_cons (pe_un un_neg (pe_ix (ixK K) (pe_ix (ixK K) (pv 1) (pv 3) (fun _ _ => rfl)) pe_int (fun _ _ => rfl))) (pa_cons (pv 3) (pa_cons (pe_un un_neg pe_int) pa_nil)))))) pa_nil))))))
        (pss_one (ps_ret (pv 2))))), ?_⟩
  refine st_seq (st_setN (dn_lst da_nil) a fun σ H a => ?_)
  refine st_seq (st_for (α := Unit) (di_enum (de_web1 rfl)) a fun ds e => ?_)
  subst e
  refine ⟨fun _ _ => True, fun i _ => [.dat (webD n as), .dat (bndD bs), .own 0, .no, .no, .no], fun i _ => [.lst ((stepsFrom 0 (as.take i) (bs.take i)).map stpD)], (), trivial, rfl, by simp [stepsFrom], fun _ _ => rfl, fun i _ d hd _ => ?_, fun _ _ σ H a => ?_⟩
  · obtain ⟨x, hx, rfl⟩ := enumD_at hd
    obtain ⟨e, he, rfl⟩ := arr_at hx
    have hi := (List.getElem?_eq_some_iff.mp he).1
    have hb : bs[i]? = some (bs[i]'(by rw [← W.len]; exact hi)) := List.getElem?_eq_getElem _
    generalize bs[i]'(by rw [← W.len]; exact hi) = b at hb
    have hbd : (bs.map pairI)[i]? = some (pairI b) := by rw [List.getElem?_map, hb]; rfl
    have hlen := stepsFrom_len 0 (as.take i) (bs.take i)
    have hf := W.few
    rw [List.length_take] at hlen
    refine ⟨[3, 4, 5], _, dg_tup (dgs_cons dg_name (dgs_cons (dg_tup (dgs_cons dg_name (dgs_cons dg_name dgs_nil))) dgs_nil)), fun H1 A hA _ N σ H hN a => ?_⟩
    refine st_seq (st_append (P := (· = stpD (e.1, e.2, b.2, i, 1))) (do_var rfl) (de_tup (da_cons (de_var rfl) (da_cons (de_var rfl) (da_cons (de_ixT (ds := [.int b.1, .int b.2]) (de_ixT (ds := bs.map pairI) (de_var rfl) (de_var rfl) (atI_nat hbd)) (de_int 1) rfl) (da_cons (de_var rfl) (da_cons (de_int 1) da_nil)))))) rfl (by rw [List.length_map]; omega) a fun σ H d ed a => ?_)
    subst ed
    refine st_append (P := (· = stpD (e.2, e.1, -b.1, i, -1))) (do_var rfl) (de_tup (da_cons (de_var rfl) (da_cons (de_var rfl) (da_cons (de_neg (de_ixT (ds := [.int b.1, .int b.2]) (de_ixT (ds := bs.map pairI) (de_var rfl) (de_var rfl) (atI_nat hbd)) (de_int 0) rfl)) (da_cons (de_var rfl) (da_cons (de_neg (de_int 1)) da_nil)))))) rfl (by rw [List.length_append, List.length_map]; show _ + 1 ≤ _; omega) a fun σ H d ed a => hN σ H () trivial ?_
    subst ed
    dsimp only
    rw [stepsFrom_more i 0 as bs e b he hb, Nat.zero_add, List.map_append]
    have := a.no [3, 4, 5]
    rw [show (((stepsFrom 0 (as.take i) (bs.take i)).map stpD ++ [stpD (e.1, e.2, b.2, i, 1)]) ++ [stpD (e.2, e.1, -b.1, i, -1)]) = (stepsFrom 0 (as.take i) (bs.take i)).map stpD ++ [(e.1, e.2, b.2, i, 1), (e.2, e.1, -b.1, i, -1)].map stpD by simp] at this
    exact this
  · rw [enumD_len, List.length_map] at a
    change At _ _ _ [.lst ((stepsFrom 0 (as.take as.length) (bs.take as.length)).map stpD)] _ _ _ at a
    rw [List.take_length, W.len, List.take_length] at a
    exact st_ret (de_var rfl) (a.release (Ω := []) (Nat.le_refl _)) fun v H' a' r => q _ _ _ _ _ _ a' r rfl
abbrev s_lowered : Stmt := topS 33
abbrev N_lowered : List Str := ["heights", "last", "steps", "found", "step", "low", "place", "weight"]
theorem sc_lowered : FnScope N_lowered ["heights", "last", "steps"] (defScope s_lowered) := ⟨rfl, rfl, rfl, by decide +kernel, rfl, by decide +kernel, by decide +kernel⟩
def SpLow : Sp := fun vs H Q _ => ∃ O a b v, ∃ (hs : List Int) (ls : List (Option Stp)) (steps : List Stp), vs = [.ref a, .ref b, v] ∧ a ≠ b ∧ a ∉ O ∧ b ∉ O ∧ (∀ c ∈ O, ∃ y, H c = some y) ∧ ObR (off H (O ++ [a, b])) H [a, b] a (.lst (hs.map .int)) ∧ ObR (off H (O ++ [a, b])) H [a, b] b (.lst (ls.map optS)) ∧ Rp (off H (O ++ [a, b])) v (.list (steps.map stpD)) ∧
  (∀ e ∈ steps, e.1 < hs.length ∧ e.2.1 < hs.length) ∧ ls.length = hs.length ∧ ∀ w H', Fr [a, b] H H' → ObR (off H' (O ++ [a, b])) H' [a, b] a (.lst ((EW.lowered steps hs ls).1.map .int)) → ObR (off H' (O ++ [a, b])) H' [a, b] b (.lst ((EW.lowered steps hs ls).2.1.map optS)) → Rp (off H' (O ++ [a, b])) w (optN (EW.lowered steps hs ls).2.2) → Q w H'
abbrev Q_lowered (P : Program) (w : World) (K : PySem.W.Frag) (mg : Str → Option Value) (base : Heap) : Prop := Df P w K mg base CX0 1 "lowered" s_lowered ["heights", "last", "steps"] SpLow
theorem df_lowered (B : Bl mg) (F : Fx K mg "lowered" s_lowered) : Q_lowered P w K mg base := by
  obtain ⟨f, fd, F, hm⟩ := F.ex
  refine df_mk F hm (F.binds fun _ _ _ _ _ _ us hl => match us, hl with | [_, _, _], _ => rfl) sc_lowered (fun vs H Q E ⟨_, _, _, _, _, _, _, e, _⟩ => by rw [e]; rfl) fun cdv A outer s H vs Q E hr h => ?_
  obtain ⟨O, a, b, v, hs, ls, steps, rfl, nab, na, nb, tk, oa, ob, rv, hst, hll, q⟩ := h
  have a0 : At H O [a, b] [.lst (hs.map .int), .lst (ls.map optS)] [.own 0, .own 1, .dat (.list (steps.map stpD)), .no, .no, .no, .no, .no] (L2.start N_lowered [.ref a, .ref b, v]) H := by
    refine ⟨[], ⟨tk, by simp [nab], fun c hc => ?_, rfl, fun k c o h1 h2 => ?_, ⟨rfl, fun i t ht => ?_⟩⟩, (fun b h => nomatch h), Fr.refl _ _⟩
    · rw [List.append_nil] at hc
      rcases List.mem_cons.mp hc with rfl | hc
      · exact na
      · rw [List.mem_singleton.mp hc]
        exact nb
    · match k, h1, h2 with
      | 0, h1, h2 => cases h1; cases h2; exact oa
      | 1, h1, h2 => cases h1; cases h2; exact ob
      | k + 2, h1, h2 => simp at h2
    · match i, ht with
      | 0, ht => cases ht; exact ⟨_, rfl, a, rfl, rfl⟩
      | 1, ht => cases ht; exact ⟨_, rfl, b, rfl, rfl⟩
      | 2, ht => cases ht; exact ⟨_, rfl, v, rfl, rv⟩
      | 3, ht => cases ht; exact ⟨_, rfl, trivial⟩
      | 4, ht => cases ht; exact ⟨_, rfl, trivial⟩
      | 5, ht => cases ht; exact ⟨_, rfl, trivial⟩
      | 6, ht => cases ht; exact ⟨_, rfl, trivial⟩
      | 7, ht => cases ht; exact ⟨_, rfl, trivial⟩
      | i + 8, ht => simp at ht
  clear oa ob rv
  refine ⟨_, (pss_cons (ps_set (i := 3) sc_lowered.nd rfl (Or.inl rfl) pe_non)
        (pss_cons (ps_for PassesOwn.never rfl (piListK K (pv 2)) (pg_name (i := 4) sc_lowered.nd rfl (Or.inl rfl))
          (pss_cons (ps_asg (pe_slice (slK K) (pv 4) po_none (po_some pe_int)) (pgTupK K (n := 3) (pgs_cons (pg_name (i := 5) sc_lowered.nd rfl (Or.inl rfl)) (pgs_cons (pg_name (i := 6) sc_lowered.nd rfl (Or.inl rfl)) (pgs_cons (pg_name (i := 7) sc_lowered.nd rfl (Or.inl rfl)) pgs_nil)))))
          (pss_one (ps_if (pt_cmpR op_lt (pe_op op_add (pe_ix (ixK K) (pv 0) (pv 5) (fun _ _ => rfl)) (pv 7)) (pe_ix (ixK K) (pv 0) (pv 6) (fun _ _ => rfl)) (nomark _))
            (pss_cons (ps_asg (pe_op op_add (pe_ix (ixK K) (pv 0) (pv 5) (fun _ _ => rfl)) (pv 7)) (pg_sub (pv 0) (pv 6) set_list))
            (pss_cons (ps_asg (pv 4) (pg_sub (pv 1) (pv 6) set_list))
            (pss_one (ps_set (i := 3) sc_lowered.nd rfl (Or.inl rfl) (pv 6)))))
            pss_nil))))
        (pss_one (ps_ret (pv 3))))), ?_⟩
  refine st_seq (st_set de_non a0 fun σ H a => ?_)
  refine st_seq (st_for (α := Unit) (di_list (ds := steps.map stpD) (de_var rfl)) a fun ds e => ?_)
  subst e
  refine ⟨fun _ _ => True, fun i _ => [.own 0, .own 1, .dat (.list (steps.map stpD)), .dat (optN ((steps.take i).foldl lowOne (hs, ls, none)).2.2), .no, .no, .no, .no], fun i _ => [.lst (((steps.take i).foldl lowOne (hs, ls, none)).1.map .int), .lst (((steps.take i).foldl lowOne (hs, ls, none)).2.1.map optS)], (), trivial, rfl, rfl, fun _ _ => rfl, fun i _ d hd _ => ?_, fun _ _ σ H a => ?_⟩
  · obtain ⟨e, he, rfl⟩ := stp_at hd
    obtain ⟨he1, he2⟩ := hst e (List.mem_of_getElem? he)
    have hn : (steps.take (i + 1)).foldl lowOne (hs, ls, none) = lowOne ((steps.take i).foldl lowOne (hs, ls, none)) e := by
      rw [List.take_add_one, he, List.foldl_append]
      rfl
    have hlen := lowered_len (steps.take i) (hs, ls, none)
    dsimp only
    rw [hn]
    generalize (steps.take i).foldl lowOne (hs, ls, none) = S at *
    obtain ⟨hs1, ls1, p1⟩ := S
    obtain ⟨hl1, hl2⟩ : hs1.length = hs.length ∧ ls1.length = ls.length := hlen
    refine ⟨[4], _, dg_name, fun H1 A hA _ N σ H hN a => ?_⟩
    refine st_seq (st_asg (de_slT (ds := [.int e.1, .int e.2.1, .int e.2.2.1, .int e.2.2.2.1, .int e.2.2.2.2]) (de_var rfl) do_no (do_some (de_int 3))) (vs := [5, 6, 7]) (dg_tup (ds := [.int e.1, .int e.2.1, .int e.2.2.1]) (dgs_cons dg_name (dgs_cons dg_name (dgs_cons dg_name dgs_nil)))) a fun σ H a => ?_)
    have g1 : (hs1.map PyData.int)[e.1]? = some (.int (hs1.getD e.1 0)) := getD_at (by omega)
    have g2 : (hs1.map PyData.int)[e.2.1]? = some (.int (hs1.getD e.2.1 0)) := getD_at (by omega)
    refine st_if (dtT (de_I0 (de_I0 (de_ixO (do_var rfl) (de_var rfl) rfl (atI_nat g1)) (de_var rfl)) (de_ixO (do_var rfl) (de_var rfl) rfl (atI_nat g2)))) a (fun H hb a => ?_) fun H hb a => ?_
    · have hlt : hs1.getD e.1 0 + e.2.2.1 < hs1.getD e.2.1 0 := of_decide_eq_true hb
      have en : lowOne (hs1, ls1, p1) e = (hs1.set e.2.1 (hs1.getD e.1 0 + e.2.2.1), ls1.set e.2.1 (some e), some e.2.1) := by
        unfold lowOne
        rw [if_pos hlt]
      refine st_seq (st_put (d := .int (hs1.getD e.1 0 + e.2.2.1)) (de_I0 (de_ixO (do_var rfl) (de_var rfl) rfl (atI_nat g1)) (de_var rfl)) (do_var rfl) (de_var rfl) rfl (ixN_nat (by rw [List.length_map]; exact (by omega : e.2.1 < hs1.length))) a fun σ H a => ?_)
      rw [show (hs1.map PyData.int).set e.2.1 (.int (hs1.getD e.1 0 + e.2.2.1)) = (hs1.set e.2.1 (hs1.getD e.1 0 + e.2.2.1)).map .int from (List.map_set).symm] at a
      refine st_seq (st_put (d := stpD e) (ds := ls1.map optS) (de_var rfl) (do_var rfl) (de_var rfl) rfl (ixN_nat (by rw [List.length_map]; omega)) a fun σ H a => ?_)
      rw [show (ls1.map optS).set e.2.1 (stpD e) = (ls1.set e.2.1 (some e)).map optS from (List.map_set (f := optS) (a := some e)).symm] at a
      refine st_set (de_var rfl) a fun σ H a => hN σ H () trivial ?_
      rw [en]
      exact a.no [4, 5, 6, 7]
    · have en : lowOne (hs1, ls1, p1) e = (hs1, ls1, p1) := by
        unfold lowOne
        rw [if_neg (of_decide_eq_false hb)]
      refine st_next (hN σ H () trivial ?_)
      rw [en]
      exact a.no [4, 5, 6, 7]
  · rw [List.length_map] at a
    dsimp only at a
    rw [List.take_length] at a
    refine st_ret (de_var rfl) a fun v H' a' r => ?_
    obtain ⟨Bx, w2, _, f⟩ := a'
    have hB : Bx = [] := by
      have := w2.len
      rw [List.length_append] at this
      exact List.eq_nil_of_length_eq_zero (by simpa using this)
    subst hB
    rw [List.append_nil] at w2
    exact q v H' f (w2.ob 0 _ _ rfl rfl) (w2.ob 1 _ _ rfl rfl) r
/-- p = lowered(heights, last, ..) -/
theorem st_low {H0 : Hp} {O : List Addr} {Γ : Ctx} {σ : L2.St} {H : Hp} {nx : L2.St → Hp → Prop} {rt : VK} {bk ct : L2.St → Hp → Prop} {t1 t2 te : TE} {hs : List Int} {ls : List (Option Stp)} {steps : List Stp} {i : Nat} {A : List Addr} {E : XK}
    (h1 : DOwn t1 Γ [.lst (hs.map .int), .lst (ls.map optS)] 0) (h2 : DOwn t2 Γ [.lst (hs.map .int), .lst (ls.map optS)] 1) (h3 : DE te Γ [.lst (hs.map .int), .lst (ls.map optS)] (.list (steps.map stpD))) (hst : ∀ e ∈ steps, e.1 < hs.length ∧ e.2.1 < hs.length) (hll : ls.length = hs.length)
    (s : At H0 O A [.lst (hs.map .int), .lst (ls.map optS)] Γ σ H) (q : ∀ σ' H', At H0 O A [.lst ((EW.lowered steps hs ls).1.map .int), .lst ((EW.lowered steps hs ls).2.1.map optS)] (Γ.set i (.dat (optN (EW.lowered steps hs ls).2.2))) σ' H' → nx σ' H') :
    tAsg (tCall SpLow [] E (tCons t1 (tCons t2 (tCons te tNil)))) (gName i) ⟨nx, rt, bk, ct⟩ σ H := by
  obtain ⟨B, w, g1, g2⟩ := s
  refine h1 O _ σ H w _ fun a ha => h2 O _ σ H w _ fun b hb => h3.run w fun v H' f w' r => ?_
  have hA2 : A ++ B = [a, b] := by
    have hl := w.len
    generalize A ++ B = L at *
    match L, hl, ha, hb with
    | [x, y], _, ha, hb => cases ha; cases hb; rfl
  rw [hA2] at w' r f
  show SpLow ([.ref a, .ref b, v] ++ []) H' _ E
  rw [List.append_nil]
  have nd := w'.nd
  refine ⟨O, a, b, v, hs, ls, steps, rfl, fun z => by subst z; simp at nd, w'.dj a (by simp), w'.dj b (by simp), w'.tk, w'.ob 0 a _ rfl rfl, w'.ob 1 b _ rfl rfl, r, hst, hll, fun w3 H2 f2 o1 o2 r2 => q _ _ ⟨B, ?_, g1, At.fr g1 g2 (by rw [hA2]; exact f.trans f2)⟩⟩
  rw [hA2]
  have vv : Same (off H' (O ++ [a, b])) (off H2 (O ++ [a, b])) := f2.same fun c h => List.mem_append_right _ h
  refine (Wd.put (s := .dat (optN (EW.lowered steps hs ls).2.2)) (o := some w3) ⟨fun c hc => ?_, w'.nd, w'.dj, rfl, fun k c o h1 h2 => ?_, w'.sl.to vv fun _ _ h => h⟩ i ⟨w3, rfl, r2⟩)
  · obtain ⟨y, hy⟩ := w'.tk c hc
    exact ⟨y, f2 c y (fun z => w'.dj c z hc) hy⟩
  · match k, h1, h2 with
    | 0, h1, h2 => cases h1; cases h2; exact o1
    | 1, h1, h2 => cases h1; cases h2; exact o2
    | k + 2, h1, h2 => simp at h2
end
end EW
/-! bar_at, heights_or_bar -/
namespace EW
open PySem PyProof.Rows L2
section
variable {P : Program} {w : World} {K : PySem.W.Frag} {mg : Str → Option Value} {base : Heap}
abbrev s_bar_at : Stmt := topS 34
abbrev N_bar_at : List Str := ["web", "last", "place", "turn", "found", "here", "step"]
theorem sc_bar_at : FnScope N_bar_at ["web", "last", "place"] (defScope s_bar_at) := ⟨rfl, rfl, rfl, by decide +kernel, rfl, by decide +kernel, by decide +kernel⟩
def BarPre (n : Nat) (as : List Arr) (bs : List Bnd) (ls : List (Option Stp)) (q : Nat) : Prop := WB n as bs ∧ ls.length = n ∧ (∀ j, j ≤ n → it (lf ls) j q < n ∧ lf ls (it (lf ls) j q) ≠ none) ∧ ∃ c, Cyc (stepsOf as bs) (lf ls) (it (lf ls) n q) c
abbrev Q_bar_at (P : Program) (w : World) (K : PySem.W.Frag) (mg : Str → Option Value) (base : Heap) : Prop := Df P w K mg base CX0 1 "bar_at" s_bar_at ["web", "last", "place"] (SpG (fun x : Nat × List Arr × List Bnd × List (Option Stp) × Nat => [webD x.1 x.2.1, .list (x.2.2.2.1.map optS), .int x.2.2.2.2]) (fun x => BarPre x.1 x.2.1 x.2.2.1 x.2.2.2.1 x.2.2.2.2) fun x r => r = intsT (barAt x.1 x.2.1 x.2.2.1 x.2.2.2.1 x.2.2.2.2))
theorem df_bar_at (B : Bl mg) (F : Fx K mg "bar_at" s_bar_at) : Q_bar_at P w K mg base := by
  refine df_of F sc_bar_at (fun _ _ F => F.binds fun _ _ _ _ _ _ us hl => match us, hl with | [_, _, _], _ => rfl) (fun _ => rfl) fun f cdv A outer s H Q E O x σ hr W a q => ?_
  obtain ⟨n, as, bs, ls, q0⟩ := x
  obtain ⟨W, hll, hit, hc⟩ : BarPre n as bs ls q0 := W
  dsimp only at a q
  have C := cycN_ok hc
  have Ww := W.web
  refine ⟨_, (pss_cons (ps_for PassesOwn.never rfl (pi_range1 (by rfl) B.m_range (pa_cons (pe_ix (ixK K) (pv 0) pe_int (fun _ _ => rfl)) pa_nil)) (pg_name (i := 3) sc_bar_at.nd rfl (Or.inl rfl))
          (pss_one (ps_set (i := 2) sc_bar_at.nd rfl (Or.inl rfl) (pe_ix (ixK K) (pe_ix (ixK K) (pv 1) (pv 2) (fun _ _ => rfl)) pe_int (fun _ _ => rfl)))))
        (pss_cons (ps_set (i := 4) sc_bar_at.nd rfl (Or.inl rfl) (pe_op op_rep (pe_lst (pa_cons pe_int pa_nil)) (pe_callB (lenK K) (by rfl) B.m_len (by decide +kernel) (pa_cons (pe_ix (ixK K) (pv 0) pe_int (fun _ _ => rfl)) pa_nil))))
        (pss_cons (ps_set (i := 5) sc_bar_at.nd rfl (Or.inl rfl) (pv 2))
        (pss_cons (ps_while PassesOwn.never (pt_cmpR op_eq (pe_ix (ixK K) (pv 4) (pe_ix (ixK K) (pe_ix (ixK K) (pv 1) (pv 5) (fun _ _ => rfl)) pe_int (fun _ _ => rfl)) (fun _ _ => rfl)) pe_int (nomark _))
          (pss_cons (ps_set (i := 6) sc_bar_at.nd rfl (Or.inl rfl) (pe_ix (ixK K) (pv 1) (pv 5) (fun _ _ => rfl)))
          (pss_cons (ps_asg (pe_ix (ixK K) (pv 6) pe_int (fun _ _ => rfl)) (pg_sub (pv 4) (pe_ix (ixK K) (pv 6) pe_int (fun _ _ => rfl)) set_list))
          (pss_one (ps_set (i := 5) sc_bar_at.nd rfl (Or.inl rfl) (pe_ix (ixK K) (pv 6) pe_int (fun _ _ => rfl)))))))
        (pss_one (ps_ret (pe_callTy (tupK K) (by rfl) B.m_tuple (by decide +kernel) (pa_cons (pv 4) pa_nil)))))))), ?_⟩
  refine st_seq (st_for (α := Unit) (di_range (de_web0 rfl) (by have := W.hi; omega)) a fun ds e => ?_)
  subst e
  refine ⟨fun _ _ => True, fun i _ => [.dat (webD n as), .dat (.list (ls.map optS)), .dat (.int (it (lf ls) i q0 : Nat)), .no, .no, .no, .no], fun i _ => [], (), trivial, rfl, rfl, fun _ _ => rfl, fun i _ d hd _ => ?_, fun _ _ σ H a => ?_⟩
  · obtain ⟨hin, rfl⟩ := upTo_at hd
    obtain ⟨h1, h2⟩ := hit i (Nat.le_of_lt hin)
    obtain ⟨e, he⟩ : ∃ e, lf ls (it (lf ls) i q0) = some e := by
      cases z : lf ls (it (lf ls) i q0) with
      | none => exact absurd z h2
      | some e => exact ⟨e, rfl⟩
    refine ⟨[3], _, dg_name, fun H1 A hA _ N σ H hN a => ?_⟩
    refine st_set (d := .int e.1) (de_ixT (ds := [.int e.1, .int e.2.1, .int e.2.2.1, .int e.2.2.2.1, .int e.2.2.2.2]) (de_ixL (ds := ls.map optS) (de_var rfl) (de_var rfl) (atI_nat (lf_at he))) (de_int 0) rfl) a fun σ H a => hN σ H () trivial ?_
    have en : it (lf ls) (i + 1) q0 = e.1 := by
      show nx (lf ls) (it (lf ls) i q0) = e.1
      unfold nx
      rw [he]
    dsimp only
    rw [en]
    exact a.no [3]
  · rw [upTo_len] at a
    dsimp only at a
    generalize hz : it (lf ls) n q0 = z at *
    have hbar : barAt n as bs ls q0 = barL as.length (lf ls) z (cycN (stepsOf as bs) (lf ls) z) := by
      unfold barAt
      rw [hz]
    rw [hbar] at q
    generalize cycN (stepsOf as bs) (lf ls) z = p at *
    have at_ : ∀ j, ∃ e, lf ls (it (lf ls) j z) = some e ∧ e ∈ stepsOf as bs ∧ it (lf ls) j z < n ∧ e.1 = it (lf ls) (j + 1) z ∧ e.2.2.2.1 < as.length := fun j => by
      obtain ⟨e, h1, h2, h3, h4⟩ := C.all j
      exact ⟨e, h1, h2, by rw [← h3]; exact (Ww.steps e h2).2, h4, (step_arrow Ww h2).1⟩
    have hf := W.few
    refine st_seq (st_setN (dn_is (dn_rep (de_lst (da_cons (de_int 0) da_nil)) (de_webL rfl) (by omega)) (List.map_replicate (f := PyData.int) (a := (0 : Int)) (n := as.length)).symm) a fun σ H a => ?_)
    refine st_seq (st_set (de_var rfl) a fun σ H a => ?_)
    refine st_seq (st_while (α := Nat) (fun m j => j ≤ p ∧ m = p - j) (fun j => [.dat (webD n as), .dat (.list (ls.map optS)), .dat (.int (z : Nat)), .no, .own 0, .dat (.int (it (lf ls) j z : Nat)), .no]) (fun j => [.lst ((barL as.length (lf ls) z j).map .int)]) (fun j => decide (j < p)) (x0 := 0) ⟨Nat.zero_le _, rfl⟩ rfl rfl (fun _ => rfl) (a.no [3]) (fun m j ⟨hj, _⟩ => ?_) (fun m j ⟨hj, em⟩ hb H2 A2 hA2 _ N2 σ H hN2 a => ?_) fun m j ⟨hj, em⟩ hb σ H a => ?_)
    · obtain ⟨e, h1, h2, h3, h4, h5⟩ := at_ j
      obtain ⟨c, hc1, hc2⟩ := bar_test Ww C hj h1
      refine dtT (de_eqI (i := c) (de_ixO (do_var rfl) (de_ixT (ds := [.int e.1, .int e.2.1, .int e.2.2.1, .int e.2.2.2.1, .int e.2.2.2.2]) (de_ixL (ds := ls.map optS) (de_var rfl) (de_var rfl) (atI_nat (lf_at h1))) (de_int 3) rfl) rfl (atI_nat (by rw [List.getElem?_map, hc1]; rfl))) (de_int 0)) ?_
      rw [decide_eq_decide.mpr hc2]
    · obtain ⟨e, h1, h2, h3, h4, h5⟩ := at_ j
      have hjp : j < p := of_decide_eq_true hb
      refine st_seq (st_set (d := stpD e) (de_ixL (ds := ls.map optS) (de_var rfl) (de_var rfl) (atI_nat (lf_at h1))) a fun σ H a => ?_)
      refine st_seq (st_put (d := .int e.2.2.2.2) (n := e.2.2.2.1) (de_ixT (ds := [.int e.1, .int e.2.1, .int e.2.2.1, .int e.2.2.2.1, .int e.2.2.2.2]) (de_var rfl) (de_int 4) rfl) (do_var rfl) (de_ixT (ds := [.int e.1, .int e.2.1, .int e.2.2.1, .int e.2.2.2.1, .int e.2.2.2.2]) (de_var rfl) (de_int 3) rfl) rfl (ixN_nat (by rw [List.length_map, barL_len]; exact h5)) a fun σ H a => ?_)
      rw [show ((barL as.length (lf ls) z j).map PyData.int).set e.2.2.2.1 (.int e.2.2.2.2) = (barL as.length (lf ls) z (j + 1)).map PyData.int by
        show _ = (match lf ls (it (lf ls) j z) with | some e => (barL as.length (lf ls) z j).set e.2.2.2.1 e.2.2.2.2 | none => barL as.length (lf ls) z j).map PyData.int
        rw [h1]
        exact List.map_set.symm] at a
      refine st_set (d := .int (e.1 : Nat)) (de_ixT (ds := [.int e.1, .int e.2.1, .int e.2.2.1, .int e.2.2.2.1, .int e.2.2.2.2]) (de_var rfl) (de_int 0) rfl) a fun σ H a => hN2 σ H (p - (j + 1)) (j + 1) (by omega) ⟨hjp, rfl⟩ ?_
      rw [← h4]
      exact a.no [6]
    · have hjp : j = p := by
        have := of_decide_eq_false hb
        omega
      subst hjp
      exact st_ret (de_tupleOfO (do_var rfl) rfl) a fun v H' a' r => q _ _ _ _ _ _ a' r rfl
abbrev s_heights_or_bar : Stmt := topS 35
abbrev N_heights_or_bar : List Str := ["web", "bounds", "heights", "last", "place", "turn"]
theorem sc_heights_or_bar : FnScope N_heights_or_bar ["web", "bounds"] (defScope s_heights_or_bar) := ⟨rfl, rfl, rfl, by decide +kernel, rfl, by decide +kernel, by decide +kernel⟩
abbrev Q_heights_or_bar (P : Program) (w : World) (K : PySem.W.Frag) (mg : Str → Option Value) (base : Heap) : Prop := Df P w K mg base CX0 2 "heights_or_bar" s_heights_or_bar ["web", "bounds"] (SpG (fun x : Nat × List Arr × List Bnd => [webD x.1 x.2.1, bndD x.2.2]) (fun x => WB x.1 x.2.1 x.2.2) fun x r => r = hobR (hob x.1 x.2.1 x.2.2))
theorem df_heights_or_bar (B : Bl mg) (F : Fx K mg "heights_or_bar" s_heights_or_bar) (D_lowered : Q_lowered P w K mg base) (D_steps_by : Q_steps_by P w K mg base) (D_bar_at : Q_bar_at P w K mg base) : Q_heights_or_bar P w K mg base := by
  refine df_of F sc_heights_or_bar (fun _ _ F => F.binds fun _ _ _ _ _ _ us hl => match us, hl with | [_, _], _ => rfl) (fun _ => rfl) fun f cdv A outer s H Q E O x σ hr W a q => ?_
  obtain ⟨n, as, bs⟩ := x
  have W : WB n as bs := W
  dsimp only at a q
  have hn : n ≤ 10 := W.hi
  have Ws := W.web.steps
  refine ⟨_, (pss_cons (ps_set (i := 2) sc_heights_or_bar.nd rfl (Or.inl rfl) (pe_op op_rep (pe_lst (pa_cons pe_int pa_nil)) (pe_ix (ixK K) (pv 0) pe_int (fun _ _ => rfl))))
        (pss_cons (ps_set (i := 3) sc_heights_or_bar.nd rfl (Or.inl rfl) (pe_op op_rep (pe_lst (pa_cons pe_non pa_nil)) (pe_ix (ixK K) (pv 0) pe_int (fun _ _ => rfl))))
        (pss_cons (ps_set (i := 4) sc_heights_or_bar.nd rfl (Or.inl rfl) pe_non)
        (pss_cons (ps_for PassesOwn.never rfl (pi_range1 (by rfl) B.m_range (pa_cons (pe_op op_add (pe_ix (ixK K) (pv 0) pe_int (fun _ _ => rfl)) pe_int) pa_nil)) (pg_name (i := 5) sc_heights_or_bar.nd rfl (Or.inl rfl))
          (pss_cons (ps_set (i := 4) sc_heights_or_bar.nd rfl (Or.inl rfl) (pe_df D_lowered (hr.mono (by decide)) (by rfl) (pa_cons (pv 2) (pa_cons (pv 3) (pa_cons (pe_df D_steps_by (hr.mono (by decide)) (by rfl) (pa_cons (pv 0) (pa_cons (pv 1) pa_nil))) pa_nil)))))
          (pss_one (ps_if (pt_cmpR op_isN (pv 4) pe_non (by rfl))
            (pss_one (ps_ret (pe_tup (pa_cons (pv 2) (pa_cons pe_non pa_nil)))))
            pss_nil))))
        (pss_one (ps_ret (pe_tup (pa_cons pe_non (pa_cons (pe_df D_bar_at (hr.mono (by decide)) (by rfl) (pa_cons (pv 0) (pa_cons (pv 3) (pa_cons (pv 4) pa_nil)))) pa_nil))))))))), ?_⟩
  refine st_seq (st_setN (dn_is (dn_rep (de_lst (da_cons (de_int 0) da_nil)) (de_web0 rfl) (by omega)) (List.map_replicate (f := PyData.int) (a := (0 : Int)) (n := n)).symm) a fun σ H a => ?_)
  refine st_seq (st_setN (dn_is (dn_rep (de_lst (da_cons de_non da_nil)) (de_web0 rfl) (by omega)) (List.map_replicate (f := optS) (a := none) (n := n)).symm) a fun σ H a => ?_)
  refine st_seq (st_set de_non a fun σ H a => ?_)
  refine st_seq (st_for (α := List Int × List (Option Stp) × Option Nat) (di_range (n := n + 1) (de_I0 (de_web0 rfl) (de_int 1)) (by omega)) a fun ds e => ?_)
  subst e
  refine ⟨fun i x => x.1.length = n ∧ x.2.1.length = n ∧ turns0 n (stepsOf as bs) = turns (stepsOf as bs) (n + 1 - i) x.1 x.2.1 x.2.2, fun _ x => [.dat (webD n as), .dat (bndD bs), .own 0, .own 1, .dat (optN x.2.2), .no], fun _ x => [.lst (x.1.map .int), .lst (x.2.1.map optS)], (List.replicate n 0, List.replicate n none, none), ⟨List.length_replicate, List.length_replicate, rfl⟩, rfl, rfl, fun _ _ => rfl, fun i x d hd ⟨l1, l2, et⟩ => ?_, fun x ⟨l1, l2, et⟩ σ H a => ?_⟩
  · obtain ⟨hin, rfl⟩ := upTo_at hd
    obtain ⟨hs, ls, p⟩ := x
    have l1 : hs.length = n := l1
    have l2 : ls.length = n := l2
    have gl := lowered_len (stepsOf as bs) (hs, ls, none)
    rw [show (stepsOf as bs).foldl lowOne (hs, ls, none) = EW.lowered (stepsOf as bs) hs ls from rfl] at gl
    have et : turns0 n (stepsOf as bs) = turns (stepsOf as bs) (n + 1 - i) hs ls p := et
    rw [show n + 1 - i = (n - i) + 1 by omega] at et
    unfold turns at et
    refine ⟨[5], _, dg_name, fun H1 A hA out N σ H hN a => ?_⟩
    refine st_seq (st_low (do_var rfl) (do_var rfl) (de_callG (n, as, bs) (da_cons (de_var rfl) (da_cons (de_var rfl) da_nil)) W) (fun e he => by rw [l1]; exact Ws e he) (by rw [l1, l2]) a fun σ H a => ?_)
    generalize EW.lowered (stepsOf as bs) hs ls = R at *
    obtain ⟨hs2, ls2, p2⟩ := R
    obtain ⟨g1, g2⟩ : hs2.length = hs.length ∧ ls2.length = ls.length := gl
    cases p2 with
    | none =>
      refine st_if (b := true) (dtT (de_isN2 (de_var rfl))) a (fun H _ a => ?_) fun H z => nomatch z
      have a2 := (out _ _ _ _ a).release (Ω := [.lst (hs2.map .int)]) (Nat.zero_le _)
      have a3 := a2.release (Ω := []) (Nat.zero_le _)
      refine st_ret (d := .tuple [.list (hs2.map .int), .none]) (de_tup (da_cons (de_var rfl) (da_cons de_non da_nil))) a3 fun v H' a' r => q _ _ _ _ _ _ a' r ?_
      unfold hob
      rw [et]
      rfl
    | some v =>
      refine st_if (b := false) (dtT (de_isN2 (de_var rfl))) a (fun H z => nomatch z) fun H _ a => st_next (hN σ H (hs2, ls2, some v) ⟨g1.trans l1, g2.trans l2, ?_⟩ (a.no [5]))
      rw [et, show n + 1 - (i + 1) = n - i by omega]
  · obtain ⟨hs, ls, p⟩ := x
    rw [upTo_len, Nat.sub_self] at et
    have et : turns0 n (stepsOf as bs) = .inr (ls, p) := et
    obtain ⟨e1, v, rfl, hv, hit, hc⟩ := turns0_r Ws et
    have a2 := a.release (Ω := [.lst (hs.map .int)]) (Nat.zero_le _)
    have a3 := a2.release (Ω := []) (Nat.zero_le _)
    refine st_ret (d := .tuple [.none, intsT (barAt n as bs ls v)]) (de_tup (da_cons de_non (da_cons (de_callG (n, as, bs, ls, v) (da_cons (de_var rfl) (da_cons (de_var rfl) (da_cons (de_var rfl) da_nil))) ⟨W, e1, hit, hc⟩) da_nil))) a3 fun v H' a' r => q _ _ _ _ _ _ a' r ?_
    unfold hob
    rw [et]
    rfl
end
end EW
/-! least_weight: a dict -/
namespace EW
open PySem PyProof.Rows L2
section
variable {O A : List Addr} {Ω : List Ob} {Γ : Ctx} {σ : L2.St} {H : Hp}
theorem Wd.adoptRaw {l : Addr} {u : HO} (w : Wd (l :: O) A Ω Γ σ H) (n : l ∉ O) (h : H l = some u) : Wd O (A ++ [l]) (Ω ++ [.raw u]) Γ σ H := by
  have nA : l ∉ A := fun z => w.dj l z List.mem_cons_self
  have v : Same (off H (l :: O ++ A)) (off H (O ++ (A ++ [l]))) := off_less fun a z => by
    rw [← List.append_assoc] at z
    rcases List.mem_append.mp z with z | z
    · exact List.mem_cons_of_mem _ z
    · rw [List.mem_singleton.mp z]
      exact List.mem_cons_self
  have hA : ∀ (k : Nat) b, A[k]? = some b → (A ++ [l])[k]? = some b := fun k b q => by
    rw [List.getElem?_append_left (List.getElem?_eq_some_iff.mp q).1]
    exact q
  refine ⟨fun b z => w.tk b (List.mem_cons_of_mem _ z), ?_, fun a ha z => ?_, by rw [List.length_append, List.length_append, w.len]; rfl, fun k a x h1 h2 => ?_, w.sl.to v hA⟩
  · rw [List.nodup_append]
    refine ⟨w.nd, by simp, fun a ha b hb q => ?_⟩
    subst q
    rw [List.mem_singleton.mp hb] at ha
    exact nA ha
  · rcases List.mem_append.mp ha with q | q
    · exact w.dj a q (List.mem_cons_of_mem _ z)
    · rw [List.mem_singleton.mp q] at z
      exact n z
  · by_cases hk : k < A.length
    · rw [List.getElem?_append_left hk] at h1
      rw [List.getElem?_append_left (by rw [← w.len]; exact hk)] at h2
      exact (w.ob k a x h1 h2).to v rfl hA
    · rw [List.getElem?_append_right (by omega)] at h1
      rw [List.getElem?_append_right (by rw [← w.len]; omega)] at h2
      rw [← w.len] at h2
      cases q : k - A.length with
      | zero =>
        rw [q] at h1 h2
        cases h1
        cases h2
        exact h
      | succ j =>
        rw [q] at h1
        simp at h1
end
section
variable {H0 : Hp} {O A0 : List Addr} {Ω : List Ob} {Γ Γ' : Ctx} {σ : L2.St} {H : Hp} {nx : L2.St → Hp → Prop} {rt : VK} {bk ct : L2.St → Hp → Prop} {te tk tv td ty : TE} {k i : Nat} {x c : Int} {kvs : List (Key × V)}
theorem st_dict1 (hk : DE tk Γ Ω (.int x)) (hv : DE tv Γ Ω (.int c)) (s : At H0 O A0 Ω Γ σ H) (q : ∀ σ' H', At H0 O A0 (Ω ++ [.raw (.dK [(.inl x, .int c)])]) (Γ.set i (.own Ω.length)) σ' H' → nx σ' H') : tAsg (tDisp [(tk, tv)]) (gName i) ⟨nx, rt, bk, ct⟩ σ H := by
  obtain ⟨B, w, h1, h2⟩ := s
  intro p hp
  have nO : p ∉ O := fun z => w.new hp (List.mem_append_left _ z)
  have nA : p ∉ A0 ++ B := fun z => w.new hp (List.mem_append_right _ z)
  refine hk.run (w.shade hp) fun y H1 e1 s1 r1 => hv.run s1 fun z H2 e2 s2 r2 => ⟨e2 _ _ nA (e1 _ _ nA upd_same), [(.inl x, .int c)], by rw [r1.int_of, r2.int_of]; rfl, Nat.le_of_ble_eq_true rfl, q _ _ ?_⟩
  have f : Fr (A0 ++ B) H (upd H2 p (.dK (mergeK [] [(.inl x, .int c)]))) := fun a o n e => by
    have ne : a ≠ p := ne_of_none e hp
    rw [upd_ne ne]
    exact e2 a o n (e1 a o n (by rw [upd_ne ne]; exact e))
  have a := (s2.shadeUpd (u := .dK (mergeK [] [(.inl x, .int c)]))).adoptRaw nO upd_same
  refine ⟨B ++ [p], ?_, fun b z => ?_, At.fr h1 h2 f⟩
  · rw [← List.append_assoc]
    refine a.put i ⟨p, ?_, rfl⟩
    rw [← w.len, List.getElem?_append_right (Nat.le_refl _), Nat.sub_self]
    rfl
  · rcases List.mem_append.mp z with z | z
    · exact h1 b z
    · rw [List.mem_singleton.mp z]
      cases q : H0 p with
      | none => rfl
      | some x =>
        by_cases hA : p ∈ A0
        · obtain ⟨y, hy⟩ := w.has (List.mem_append_left B hA)
          rw [hp] at hy
          cases hy
        · rw [h2 p x hA q] at hp
          cases hp
theorem de_dget (hd : DOwn td Γ Ω k) (hy : DE ty Γ Ω (.int x)) (hk : Ω[k]? = some (.raw (.dK kvs))) (hx : valV kvs (.inl x) = some (.int c)) : DE (tDGet td ty) Γ Ω (.int c) := de_of fun O A σ H s Q q =>
  hd O A σ H s _ fun a ha => hy.run s fun y H' e s r => ⟨a, .int c, rfl, by
    rw [r.int_of]
    have := DGet.k (k := .inl x) (s.ob k a _ ha hk : H' a = some (.dK kvs))
    rw [hx] at this
    exact this, q _ H' e s (rp_int c)⟩
theorem de_din (hy : DE ty Γ Ω (.int x)) (hd : DOwn td Γ Ω k) (hk : Ω[k]? = some (.raw (.dK kvs))) : DE (tDIn ty td) Γ Ω (.bool (valV kvs (.inl x)).isSome) := de_of fun O A σ H s Q q =>
  hy.run s fun y H' e s r => hd O A σ H' s _ fun a ha => ⟨a, _, rfl, by rw [r.int_of]; exact DGet.k (k := .inl x) (s.ob k a _ ha hk : H' a = some (.dK kvs)), q _ H' e s (rp_bool _)⟩
theorem de_dnin (hy : DE ty Γ Ω (.int x)) (hd : DOwn td Γ Ω k) (hk : Ω[k]? = some (.raw (.dK kvs))) : DE (tDNotIn ty td) Γ Ω (.bool (!(valV kvs (.inl x)).isSome)) := de_of fun O A σ H s Q q =>
  hy.run s fun y H' e s r => hd O A σ H' s _ fun a ha => ⟨a, _, rfl, by rw [r.int_of]; exact DGet.k (k := .inl x) (s.ob k a _ ha hk : H' a = some (.dK kvs)), q _ H' e s (rp_bool _)⟩
theorem st_dput (hv : DE tv Γ Ω (.int c)) (hd : DOwn td Γ Ω k) (hy : DE ty Γ Ω (.int x)) (hk : Ω[k]? = some (.raw (.dK kvs))) (hl : kvs.length ≤ 90000) (s : At H0 O A0 Ω Γ σ H) (q : ∀ σ' H', At H0 O A0 (Ω.set k (.raw (.dK (putK kvs (.inl x) (.int c))))) Γ σ' H' → nx σ' H') : sDPut td ty tv ⟨nx, rt, bk, ct⟩ σ H := by
  obtain ⟨B, w, h1, h2⟩ := s
  refine hv.run w fun v H1 e1 s1 r1 => hd O _ σ H1 s1 _ fun a ha => hy.run s1 fun y H2 e2 s2 r2 => ?_
  have o := (s2.ob k a _ ha hk : H2 a = some (.dK kvs))
  rw [r1.int_of, r2.int_of]
  exact ⟨a, _, rfl, .inl ⟨kvs, .inl x, o, rfl, sl100 (by omega), rfl⟩, q _ _ ⟨B, s2.mut ha (o := .raw (.dK (putK kvs (.inl x) (.int c)))) upd_same, h1, At.fr h1 h2 ((e1.trans e2).trans (fr_upd (List.mem_of_getElem? ha)))⟩⟩
end
/-- a dict holds h -/
structure DictOf (kvs : List (Key × V)) (h : Nat → Option Int) (b : Nat) : Prop where
  val : ∀ v : Nat, valV kvs (.inl (v : Int)) = (h v).map V.int
  len : kvs.length ≤ b
theorem DictOf.put {kvs : List (Key × V)} {h : Nat → Option Int} {b : Nat} (D : DictOf kvs h b) (v : Nat) (c : Int) : DictOf (putK kvs (.inl (v : Int)) (.int c)) (fset h v (some c)) (b + 1) := by
  refine ⟨fun u => ?_, Nat.le_trans (length_putK _ _ _) (Nat.succ_le_succ D.len)⟩
  rw [valV_put]
  unfold fset
  by_cases e : u = v
  · subst e
    rw [if_pos rfl, if_pos rfl]
    rfl
  · rw [if_neg (fun z => e (by have := Sum.inl.inj z; omega)), if_neg e]
    exact D.val u
section
variable {P : Program} {w : World} {K : PySem.W.Frag} {mg : Str → Option Value} {base : Heap}
abbrev s_least_weight : Stmt := topS 38
abbrev N_least_weight : List Str := ["web", "bounds", "start", "end", "weights", "turn", "low", "place", "weight", "arrow", "sign"]
theorem sc_least_weight : FnScope N_least_weight ["web", "bounds", "start", "end"] (defScope s_least_weight) := ⟨rfl, rfl, rfl, by decide +kernel, rfl, by decide +kernel, by decide +kernel⟩
def LwPre (n : Nat) (as : List Arr) (bs : List Bnd) (x y : Nat) : Prop := WB n as bs ∧ NoNeg n (tab n (stepsOf as bs)) ∧ ∃ e ∈ stepsOf as bs, e.1 = x ∧ e.2.1 = y
abbrev Q_least_weight (P : Program) (w : World) (K : PySem.W.Frag) (mg : Str → Option Value) (base : Heap) : Prop := Df P w K mg base CX0 2 "least_weight" s_least_weight ["web", "bounds", "start", "end"] (SpG (fun x : Nat × List Arr × List Bnd × Nat × Nat => [webD x.1 x.2.1, bndD x.2.2.1, .int x.2.2.2.1, .int x.2.2.2.2]) (fun x => LwPre x.1 x.2.1 x.2.2.1 x.2.2.2.1 x.2.2.2.2) fun x r => r = .int ((tab x.1 (stepsOf x.2.1 x.2.2.1) x.2.2.2.1 x.2.2.2.2).getD 0))
theorem df_least_weight (B : Bl mg) (F : Fx K mg "least_weight" s_least_weight) (D_steps_by : Q_steps_by P w K mg base) : Q_least_weight P w K mg base := by
  refine df_of F sc_least_weight (fun _ _ F => F.binds fun _ _ _ _ _ _ us hl => match us, hl with | [_, _, _, _], _ => rfl) (fun _ => rfl) fun f cdv A outer s H Q E O x σ hr W a q => ?_
  obtain ⟨n, as, bs, x, y⟩ := x
  obtain ⟨W, hN, e0, he0, hex, hey⟩ : LwPre n as bs x y := W
  dsimp only at a q
  have hn : n ≤ 10 := W.hi
  have Ws := W.web.steps
  have hsl : (stepsOf as bs).length ≤ 30 := Nat.le_trans (stepsFrom_len 0 as bs) (by have := W.few; omega)
  have key := lw_tab Ws (sym_steps as bs) hN he0
  rw [hex, hey] at key
  obtain ⟨t, ht, _⟩ := tab_step n he0
  rw [hex, hey] at ht
  rw [ht] at key
  generalize hst : stepsOf as bs = steps at *
  refine ⟨_, (pss_cons (ps_set (i := 4) sc_least_weight.nd rfl (Or.inl rfl) (pe_disp (pps_cons (pv 2) pe_int pps_nil) (by rfl) (by rfl) (fun z => by cases z) (by decide)))
        (pss_cons (ps_for PassesOwn.never rfl (pi_range1 (by rfl) B.m_range (pa_cons (pe_ix (ixK K) (pv 0) pe_int (fun _ _ => rfl)) pa_nil)) (pg_name (i := 5) sc_least_weight.nd rfl (Or.inl rfl))
          (pss_one (ps_for PassesOwn.never rfl (piListK K (pe_df D_steps_by (hr.mono (by decide)) (by rfl) (pa_cons (pv 0) (pa_cons (pv 1) pa_nil)))) (pgTupK K (n := 5) (pgs_cons (pg_name (i := 6) sc_least_weight.nd rfl (Or.inl rfl)) (pgs_cons (pg_name (i := 7) sc_least_weight.nd rfl (Or.inl rfl)) (pgs_cons (pg_name (i := 8) sc_least_weight.nd rfl (Or.inl rfl)) (pgs_cons (pg_name (i := 9) sc_least_weight.nd rfl (Or.inl rfl)) (pgs_cons (pg_name (i := 10) sc_least_weight.nd rfl (Or.inl rfl)) pgs_nil))))))
            (pss_one (ps_if (PW.pt (pw_and (pt_cmp (pc_din (hu_of hr) (pv 6) (pv 4))) (pw_and1 (PW.pt (pw_or (pt_cmp (pc_dnotin (hu_of hr) (pv 7) (pv 4))) (pw_or1 (pt_cmpR op_lt (pe_op op_add (pe_dget (hu_of hr) (pv 4) (pv 6) (fun _ _ => rfl)) (pv 8)) (pe_dget (hu_of hr) (pv 4) (pv 7) (fun _ _ => rfl)) (nomark _))))))))
              (pss_one (ps_dput (hu_of hr) (pv 4) (pv 7) (pe_op op_add (pe_dget (hu_of hr) (pv 4) (pv 6) (fun _ _ => rfl)) (pv 8)) rfl))
              pss_nil)))))
        (pss_one (ps_ret (pe_dget (hu_of hr) (pv 4) (pv 3) (fun _ _ => rfl)))))), ?_⟩
  refine st_seq (st_dict1 (de_var rfl) (de_int 0) a fun σ H a => ?_)
  refine st_seq (st_for (α := List (Key × V)) (di_range (de_web0 rfl) (by omega)) a fun ds e => ?_)
  subst e
  refine ⟨fun i kvs => DictOf kvs (rounds steps i (s0 (from0 x))).h (1 + 30 * i), fun _ _ => [.dat (webD n as), .dat (bndD bs), .dat (.int x), .dat (.int y), .own 0, .no, .no, .no, .no, .no, .no], fun _ kvs => [.raw (.dK kvs)], [(.inl (x : Int), .int 0)], ⟨fun v => ?_, Nat.le_refl 1⟩, rfl, rfl, fun _ _ => rfl, fun i kvs d hd D => ?_, fun kvs D σ H a => ?_⟩
  · show valV _ _ = (fset (fun _ => none) x (some 0) v).map V.int
    unfold fset
    by_cases e : v = x
    · subst e
      rw [if_pos rfl, valV_pos rfl]
      rfl
    · rw [if_neg e, valV_neg (fun z => e (by have := Sum.inl.inj z; omega))]
      rfl
  · obtain ⟨hin, rfl⟩ := upTo_at hd
    refine ⟨[5], _, dg_name, fun H1 A hA _ N σ H hN a => ?_⟩
    refine st_for (α := List (Key × V)) (di_list (de_is (de_callG (n, as, bs) (da_cons (de_var rfl) (da_cons (de_var rfl) da_nil)) W) (by rw [hst]))) a fun ds e => ?_
    subst e
    refine ⟨fun j kvs => DictOf kvs ((steps.take j).foldl (rel (i + 1)) (rounds steps i (s0 (from0 x)))).h (1 + 30 * i + j), fun _ _ => [.dat (webD n as), .dat (bndD bs), .dat (.int x), .dat (.int y), .own 0, .dat (.int i), .no, .no, .no, .no, .no], fun _ kvs => [.raw (.dK kvs)], kvs, D, rfl, rfl, fun _ _ => rfl, fun j kvs d hd D => ?_, fun kvs D σ H a => ?_⟩
    · obtain ⟨e, he, rfl⟩ := stp_at hd
      have hj := (List.getElem?_eq_some_iff.mp he).1
      have hn2 : (steps.take (j + 1)).foldl (rel (i + 1)) (rounds steps i (s0 (from0 x))) = rel (i + 1) ((steps.take j).foldl (rel (i + 1)) (rounds steps i (s0 (from0 x)))) e := by
        rw [List.take_add_one, he, List.foldl_append]
        rfl
      refine ⟨[6, 7, 8, 9, 10], _, dg_tup (dgs_cons dg_name (dgs_cons dg_name (dgs_cons dg_name (dgs_cons dg_name (dgs_cons dg_name dgs_nil))))), fun H2 A2 hA2 _ N2 σ H hN2 a => ?_⟩
      dsimp only at hN2 D
      rw [hn2] at hN2
      generalize (steps.take j).foldl (rel (i + 1)) (rounds steps i (s0 (from0 x))) = S at *
      have v1 := D.val e.1
      have v2 := D.val e.2.1
      have hl := D.len
      have hrel : (rel (i + 1) S e).h = if violB S.h e = true then fset S.h e.2.1 (some (newH S.h e)) else S.h := by
        unfold rel
        split <;> rfl
      refine st_if (b := violB S.h e) ?_ a (fun H hb a => ?_) fun H hb a => ?_
      · unfold violB
        cases h1 : S.h e.1 with
        | none =>
          rw [h1] at v1
          exact dt_and1 (dtB (de_din (de_var rfl) (do_var rfl) rfl) (by rw [v1]; rfl))
        | some c1 =>
          rw [h1] at v1
          refine dt_and2 (dtB (de_din (de_var rfl) (do_var rfl) rfl) (by rw [v1]; rfl)) ?_
          cases h2 : S.h e.2.1 with
          | none =>
            rw [h2] at v2
            exact dt_or1 (dtB (de_dnin (de_var rfl) (do_var rfl) rfl) (by rw [v2]; rfl))
          | some c2 =>
            rw [h2] at v2
            exact dt_or2 (dtB (de_dnin (de_var rfl) (do_var rfl) rfl) (by rw [v2]; rfl)) (dtT (de_I0 (de_I0 (de_dget (c := c1) (do_var rfl) (de_var rfl) rfl v1) (de_var rfl)) (de_dget (c := c2) (do_var rfl) (de_var rfl) rfl v2)))
      · obtain ⟨c1, h1, h2, _⟩ := viol_some hb
        rw [h1] at v1
        refine st_dput (c := c1 + e.2.2.1) (de_I0 (de_dget (c := c1) (do_var rfl) (de_var rfl) rfl v1) (de_var rfl)) (do_var rfl) (de_var rfl) rfl (by omega) a fun σ H a => hN2 σ H (putK kvs (.inl (e.2.1 : Int)) (.int (c1 + e.2.2.1))) ?_ (a.no [6, 7, 8, 9, 10])
        rw [hrel, if_pos hb, h2]
        exact D.put _ _
      · refine st_next (hN2 σ H kvs ?_ (a.no [6, 7, 8, 9, 10]))
        rw [hrel, if_neg (by rw [hb]; exact fun z => nomatch z)]
        exact ⟨D.val, Nat.le_succ_of_le D.len⟩
    · rw [List.length_map, List.take_length] at D
      exact hN σ H kvs ⟨D.val, Nat.le_trans D.len (by omega)⟩ (a.no [5])
  · rw [upTo_len] at D
    have hv := D.val y
    rw [key] at hv
    refine st_ret (d := .int t) (de_dget (do_var rfl) (de_var rfl) rfl hv) a fun v H' a' r => q _ _ _ _ _ _ a' r ?_
    rw [ht]
    rfl
end
end EW
/-! NoPull: an own error below an own error; its __init__ calls super's and stores the bar. -/
namespace EW
open PySem PySem.W PySem.Calls PyProof.Rows PySem.HandSPX
def clsBody (s : Stmt) : List Stmt := match s with
  | .ClassDef _ _ _ b _ _ _ _ _ _ _ => b
  | _ => []
def sInit : Stmt := (clsBody (topS 5)).getD 0 (.Pass ⟨0, 0, 0, 0⟩)
/-- what the written part says of NoPull at C, of its __init__ at fI -/
structure NoTxt (K : Frag) (mg : Str → Option Value) (P : Program) (C fI : Addr) : Prop where
  gC : mg "NoPull" = some (.ref C)
  cls : ∃ nm q N bs bm sn sub ab col dd k0 k1 k2 k3 k5, K.lookup C = some (excClassObj nm q C N bs bm true sn sub ab col dd k0 k1 k2 k3 k5 "ValueError.__new__") ∧ refsVE bm = true
  sa : findIn K (.ref C) "__setattr__" = some (some (.builtin "object.__setattr__"))
  ga : findIn K (.ref C) "__getattribute__" = some (some (.builtin "BaseException.__getattribute__"))
  gg : findIn K (.ref C) "__getattr__" = some none
  noN : findIn K (.ref C) "bar" = some none
  iC : findIn K (.ref C) "__init__" = some (some (.ref fI))
  tC : typeIn K (.ref fI) = some (.type "function")
  kC : keepIn K (.ref C) = true
  exC : subIn K (.ref C) (.type "BaseException") = some true
  veC : subIn K (.ref C) (.type "ValueError") = some true
  tyC : typeIn K (.ref C) = some (.type "type")
  hdC : hasDictIn K C = true
  te : exmOne K (.ref C) (.ref C) = some true
  mro : mroIn K C (.ref C) = some true
  sup : ks_superIn K C C "__init__" = some (some (.builtin "ValueError.__init__"))
  tp : nsIn K cStatics "thirdparty.any" = some none
  su : mg "super" = none
  fn : ∃ (oc : Value) (od : Option Addr) (kV doc pm : Value) (an : Option Addr) (cda cc : Addr) (ct : Value) (osl : Array (Option Value)),
    K.lookup fI = some ⟨oc, od, .func (ksFn "__init__" "NoPull.__init__" (L2.defArgs sInit) (L2.defBody sInit) (L2.defScope sInit) .none kV doc pm an (.ref cda) ct cc), osl⟩ ∧ codeIn K (.ref cda) "NoPull.__init__" = true ∧
    (∃ ccl cdd vs ccs file tf, K.lookup cda = some ⟨ccl, cdd, .fields vs, ccs⟩ ∧ vs[2]? = some (.str file tf) ∧ ((P.main.file : Str) == file) = true) ∧
    ∃ cl cld csl, K.lookup cc = some ⟨cl, cld, .cell (some (.ref C)), csl⟩
  top : (P.main.scope.names.lookup ("super" : Str)).isSome = false
def npP : Pos := ⟨13, 25, 13, 55⟩
def npK : Nat := 0
theorem one_sizeV (v : Value) : [v].length ≤ sizeLine := by
  rw [sizeLine_eq]
  exact (by decide : 1 ≤ 16777216)
/-- what __init__ leaves of a fresh exception at x -/
structure NpEnd (h h' : Heap) (x C dx : Addr) (v : Value) : Prop where
  keep : ∀ b o, b ≠ x → h.get? b = some o → h'.get? b = some o
  obj : ∃ t1, h'.get? x = some { cls := .ref C, dict := some dx, data := .fields #[.ref t1, .none, .none, .none, .bool false, .none] }
  dbig : h.objs.size ≤ dx
  dne : dx ≠ x
  ns : h'.Ns1 dx (fun y => if y = "bar" then some v else none)
/-- a made NoPull -/
structure NpMade (h h' : Heap) (e C d : Addr) (v : Value) : Prop where
  keep : ∀ b o, h.get? b = some o → h'.get? b = some o
  new : h.objs.size ≤ e
  obj : ∃ oe vs, h'.get? e = some oe ∧ oe.cls = .ref C ∧ oe.dict = some d ∧ oe.data = .fields vs ∧ vs[1]? = some .none
  dbig : h.objs.size ≤ d
  dne : d ≠ e
  ns : h'.Ns1 d (fun y => if y = "bar" then some v else none)
theorem Mod.keeps {K : Frag} {mg : Str → Option Value} {h h' : Heap} (M : L2.Mod K mg h) (k : ∀ b o, h.get? b = some o → h'.get? b = some o) : L2.Mod K mg h' :=
  ⟨M.kin.keeps k, M.glob.keeps k, (let ⟨mb, a, b⟩ := M.blt; ⟨mb, a.keeps k, b⟩), M.nolimit.keeps k⟩
section
variable {prog : Program} {w : World} {A : Around} {E : Value → Shared → Prop} {R : Result → Shared → Prop} {s : Shared} {K : Frag} {mg : Str → Option Value} {C fI : Addr}
theorem np_init (T : NoTxt K mg prog C fI) {x t0 : Addr} {v : Value} (M : L2.Mod K mg s.heap) (hx : s.heap.get? x = some (excO C t0)) (hnx : K.lookup x = none) (hmx : ∀ h', (∀ b o, b ≠ x → s.heap.get? b = some o → h'.get? b = some o) → L2.Mod K mg h') (hroom : A.depth < recursionLimit)
    (hq : ∀ h' tk dx, NpEnd s.heap h' x C dx v → R (.ok (.ret .none)) { s with heap := h', toks := tk }) :
    codeAny (model prog w) A (.call (.ref fI) ⟨[.ref x, v], []⟩) R s := by
  obtain ⟨oc, od, kV, doc, pm, an, cda, cc, ct, osl, ho, hcd, ⟨ccl, cdd, vs, ccs, file, tf, hcode, hvs, hfile⟩, cl, cld, csl, hcell⟩ := T.fn
  obtain ⟨nm, q, N, bs, bm, sn, sub, ab, col, dd, k0, k1, k2, k3, k5, hC, hbm⟩ := T.cls
  have hcl : clsIn K C = some { name := nm, bases := bs, mro := .ref C :: bm, ns := N, qualname := q, hasDict := true, slotNames := sn, subclasses := sub, abstract := ab, collection := col, hasDel := false } := by unfold clsIn; rw [hC] <;> rfl
  have X := M.kin
  refine ks_codeAny_call_defAt (fd := ksFn "__init__" "NoPull.__init__" (L2.defArgs sInit) (L2.defBody sInit) (L2.defScope sInit) .none kV doc pm an (.ref cda) ct cc) (body := L2.defBody sInit) (binds := [("self", .ref x), ("bar", v)]) hroom (X _ _ ho) rfl M.nolimit (codeRec_of X hcd) rfl
    (BindsTo.of_eq (by first | rfl | with_unfolding_all rfl)) (show ∀ y ∈ (L2.defScope sInit).names, y.2 ≠ .cell by decide +kernel)
    (fun y hy => by
      rcases List.mem_cons.mp hy with rfl | hy
      · rfl
      · rcases List.mem_cons.mp hy with rfl | hy
        · rfl
        · cases hy) (fun h₁ hns hk₁ => ?_) (by rfl) (by rfl) (by rfl)
  have hxL : s.heap.objs.size ≠ x := Nat.ne_of_gt (Heap.lt_size hx)
  have X₁ : K.In h₁ := X.keeps hk₁
  have M₁ := Mod.keeps M hk₁
  have hx₁ := hk₁ _ _ hx
  have z0 : s.heap.objs.size < h₁.objs.size := hns.lt
  obtain ⟨mb, hb1, hb2⟩ := M₁.blt
  have hD1 : h₁.get? C = some _ := X₁ _ _ hC
  -- super().__init__(..)
  refine ks_wpAt_execs_cons ?_
  refine ks_wpAt_Expr_any ?_
  refine ks_wpAt_MethodCall ?_
  refine ks_wpAt_super_base (env := ksEnv "NoPull.__init__" (L2.defScope sInit) s.heap.objs.size fI (.ref cda) cc) (by rfl) (by rfl) (by rfl) rfl (X₁ _ _ ho) rfl (by rfl) rfl (X₁ _ _ hcode) rfl hvs hfile T.top ?_
  refine ks_loadName_global (by rfl) (by rfl) (loadGlobal_builtin M₁.glob T.su hb1 ((hb2 _ (by decide +kernel)).trans (by first | boot_by_name | rfl | kernel_rfl)) ⟨rfl, ?_⟩)
  refine wpAny_loadName_free (by rfl) (by rfl) rfl ⟨_, X₁ _ _ hcell, rfl⟩ ?_
  refine wpAny_loadName_local (by rfl) (by rfl) hns (v := .ref x) (by first | rfl | with_unfolding_all rfl | kernel_rfl) ?_
  have hxc : (excO C t0).cls = .ref C := rfl
  refine ks_wpAny_isType_cls hD1 rfl ⟨rfl, ?_⟩
  refine ks_wpAny_call_super hD1 rfl hx₁ rfl (fun c e => by cases e) (looks_mroIn X₁ T.mro) (fun h₂ hso hk₂ => ?_)
  have X₂ : K.In h₂ := X₁.keeps hk₂
  have hx₂ := hk₂ _ _ hx₁
  have hI : Looks (model prog w) h₂ (isInstance (.ref x) (.type "ValueError")) true := (show InstAt h₂ x (excO C t0) C none from ⟨hx₂, rfl, rfl, trivial⟩).type.andThen (looks_subIn X₂ T.veC)
  have hxC : x ≠ C := fun e => by
    rw [e, hC] at hnx
    cases hnx
  have hm := T.sup
  unfold ks_superIn at hm
  rw [hcl] at hm
  refine kxs_getMethod kxs_ValueError hso (looks_opaque X₂ T.tp) (l₀ := .ref C :: bm) (fun A Q E s k q => wpAny_bind ((looks_clsIn X₂ hcl) A _ E s k (wpAny_pure q))) rfl X₂ hm hI hxC (by rfl) ?_
  have hk₃ : ∀ b o, h₂.get? b = some o → (h₂.push (kxs_mw "ValueError.__init__" x)).get? b = some o := fun b o e => Heap.get?_push_of_some _ e
  have hu : (h₂.push (kxs_mw "ValueError.__init__" x)).get? h₂.objs.size = some (kxs_mw "ValueError.__init__" x) := Heap.get?_push_at rfl rfl
  have hk3 : ∀ b o, s.heap.get? b = some o → (h₂.push (kxs_mw "ValueError.__init__" x)).get? b = some o := fun b o e => hk₃ b o (hk₂ b o (hk₁ b o e))
  refine kxs_callWith (i := "ValueError.__init__") (x := x) (by rfl) (evalArgs_plain (spliced_cons (wpAny_Constant_str (k := npK) (pos := npP) ?_)))
  refine spliced_nil ⟨hu, ?_⟩
  have hL3 : (h₂.push (kxs_mw "ValueError.__init__" x)).Ns s.heap.objs.size _ := (hns.keeps hk₂).keeps hk₃
  have sz3 : (h₂.push (kxs_mw "ValueError.__init__" x)).objs.size = h₂.objs.size + 1 := Heap.size_push _ _
  generalize hh₃ : h₂.push (kxs_mw "ValueError.__init__" x) = h₃ at hu hk3 hL3 sz3 ⊢
  have hx₃ := hk3 _ _ hx
  have hC₃ : h₃.get? C = some _ := hk3 _ _ (X _ _ hC)
  refine wpAny_call (codeAny_of_tree ?_)
  show wpAny _ _ (callAny (.ref h₂.objs.size) ⟨_, []⟩) _ _ _
  simp only [callAny]
  refine wpAny_bind (wpAny_load hu ?_)
  simp only [kxs_mw, show (Value.type "method-wrapper" == Value.type "method" || Value.type "method-wrapper" == Value.type "builtin_function_or_method" || Value.type "method-wrapper" == Value.type "method-wrapper") = true by decide, if_true]
  refine KFB.if_so (by decide) ?_
  refine wpAny_bind (check_bound_init F.excBase_ValueError.toExcCallFacts hC₃ hx₃ rfl ?_)
  refine wpAny_bind (wpAny_pure (wpAny_pure ?_))
  refine ⟨plainId_quiet F.excBase_ValueError.init.plain _, codeAny_builtin F.excBase_ValueError.initEntry ?_⟩
  refine exc_init_tree (cls := .ref C) (t0 := t0) (dv := none) (c2 := .none) (c3 := .none) (b4 := .bool false) hx₃ (one_sizeV _) fun h₄ hk₄ hx₄ ht₄ => ?_
  have hL4 : ∀ m, h₃.Ns s.heap.objs.size m → h₄.Ns s.heap.objs.size m := fun m ⟨oL, es, ep, hL, r⟩ => ⟨oL, es, ep, hk₄ _ _ hxL hL, r⟩
  replace hL4 := hL4 _ hL3
  have k04 : ∀ b o, b ≠ x → s.heap.get? b = some o → h₄.get? b = some o := fun b o hb e => hk₄ b o hb (hk3 b o e)
  have M₄ := hmx h₄ k04
  have z4 : s.heap.objs.size ≤ h₄.objs.size := Nat.le_of_lt (hL4.lt)
  show _root_.PySem.wpAt _ _ _ (execs _ _) _ _ _
  refine wpAt_of_wpAny ?_
  -- self.bar = bar
  refine wpAny_execs_cons (plainObj_wpAny_Assign_Attribute ?_)
  refine wpAny_Name (wpAny_loadName_local (by rfl) (by rfl) hL4 (v := v) (by first | rfl | with_unfolding_all rfl | kernel_rfl) ?_)
  refine wpAny_Name (wpAny_loadName_local (by rfl) (by rfl) hL4 (v := .ref x) (by first | rfl | with_unfolding_all rfl | kernel_rfl) ?_)
  refine set_plain M₄.kin (ox := excO C h₃.objs.size) (od := none) ⟨hx₄, rfl, rfl, trivial⟩ T.sa ?_
  refine exc_osa M₄.kin hx₄ hcl (show refsVE (.ref C :: bm) = true from hbm) rfl T.noN (fun h₅ tk₅ dx k₅ dn dne hx₅ hn₅ => ?_)
  show wpAny _ _ (execs _ _) _ _ _
  exact wpAny_execs_nil (hq h₅ tk₅ dx ⟨fun b o hb e => k₅ b o hb (k04 b o hb e), ⟨_, hx₅⟩, Nat.le_trans z4 dn, dne, hn₅⟩)
theorem np_made (T : NoTxt K mg prog C fI) {v : Value} (M : L2.Mod K mg s.heap) (hroom : A.depth + 1 < recursionLimit) (hmn : ∀ h', (∀ b o, s.heap.get? b = some o → h'.get? b = some o) → L2.Mod K mg h')
    (hq : ∀ h' tk e d, NpMade s.heap h' e C d v → R (.ok (.ret (.ref e))) { s with heap := h', toks := tk }) :
    codeAny (model prog w) A (.call (.ref C) ⟨[v], []⟩) R s := by
  obtain ⟨nm, q, N, bs, bm, sn, sub, ab, col, dd, k0, k1, k2, k3, k5, hC, hbm⟩ := T.cls
  have X := M.kin
  obtain ⟨hp, g, dr, tk, os⟩ := s
  have k : ∀ b o, hp.get? b = some o → ((hp.push (kdv_tup [v])).push (excO C hp.objs.size)).get? b = some o := fun b o e => Heap.get?_push_of_some _ (Heap.get?_push_of_some _ e)
  have hget : ((hp.push (kdv_tup [v])).push (excO C hp.objs.size)).get? (hp.objs.size + 1) = some (excO C hp.objs.size) := by heap_get
  have hnx : K.lookup (hp.objs.size + 1) = none := by
    cases e : K.lookup (hp.objs.size + 1) with
    | none => rfl
    | some o =>
      have z : hp.get? (hp.objs.size + 1) = some o := X _ _ e
      exact absurd (Nat.lt_of_succ_lt (Heap.lt_size z)) (Nat.lt_irrefl _)
  refine call_own F.excBase_ValueError (fun X => refsVE_contains X bm hbm) (X _ _ hC) (looks_findIn X T.iC) (fun self => bind_fn X self T.tC) (one_sizeV v) ?_
  refine np_init (s := ⟨(hp.push (kdv_tup [v])).push (excO C hp.objs.size), g, dr, tk, os⟩) T (hmn _ k) hget hnx (fun h' k' => hmn h' fun b o e => k' b o (Nat.ne_of_lt (Nat.lt_succ_of_lt (Heap.lt_size e))) (k b o e)) ?_ fun h' tk' dx ⟨k', ⟨t1, hx⟩, dn, dne, hns⟩ => ?_
  · show A.depth + 1 < recursionLimit
    exact hroom
  · have old : ∀ b o, hp.get? b = some o → h'.get? b = some o := fun b o e => k' b o (Nat.ne_of_lt (Nat.lt_succ_of_lt (Heap.lt_size e))) (k b o e)
    have z : hp.objs.size + 1 + 1 ≤ dx := by
      have q := dn
      rw [Heap.size_push, Heap.size_push] at q
      exact q
    exact ⟨rfl, hq h' tk' (hp.objs.size + 1) dx ⟨old, Nat.le_succ _, ⟨_, _, hx, rfl, rfl, rfl, rfl⟩, Nat.le_trans (Nat.le_trans (Nat.le_succ _) (Nat.le_succ _)) z, dne, hns⟩⟩
end
end EW
namespace EW
open PySem PySem.Spec PyProof.Rows L2
theorem relO_bar {v : V} {v' : Value} (r : RelV v v') (f : Str) : RelO (List.lookup f [(("bar" : Str), v)]) (if f = "bar" then some v' else none) := by
  by_cases hw : f = "bar"
  · subst hw
    rw [if_pos rfl]
    have q : List.lookup ("bar" : Str) [(("bar" : Str), v)] = some v := by simp [List.lookup]
    rw [q]
    exact r
  · rw [if_neg hw]
    have qw : (f == ("bar" : Str)) = false := by simpa using hw
    have q2 : List.lookup f [(("bar" : Str), v)] = none := by simp [List.lookup, qw]
    rw [q2]
    trivial
section
variable {X : Cx} {C fI : Addr}
/-- NoPull(e) -/
def tMkNp (C : Addr) (ta : TA) : L2.St → Hp → XK → Prop := fun σ H Q => ta σ H fun vs H1 => ∃ v, vs = [v] ∧ ∀ d, H1 d = none → Q (.ref C) (some d) (upd H1 d (.xd [(("bar" : Str), v)]))
theorem pmk_np {a : Expr} {ta : TA} {p pos : Pos} {k : Nat} (T : NoTxt X.K X.mg X.prog C fI) (hr : Room k X.A) (ha : PA X [a] ta) (hg : Gl X "NoPull" := by rfl)
    (he : starEach (a :: []) X.env = (false, eval a X.env) :: starEach [] X.env := by rfl) (hpl : (backTo pos (starEach [] X.env)).any (·.1) = false := by rfl) :
    PMk X (.Call (.Name "NoPull" p) [a] [] pos) (tMkNp C ta) := by
  intro pins s σ H Q I h
  refine wpAny_Call_Name_kw (ld_glob I hg T.gC ?_)
  refine PySem.W.callWith_K (h₀ := X.base) I.ok.mod.kin T.kC (thn (ha.run pos pins s σ H _ I h) fun us s1 hh => ?_) he hpl
  obtain ⟨vs, H1, I1, r1, v, ev, q1⟩ := hh
  subst ev
  refine ⟨I1.kIn, ?_⟩
  cases r1 with
  | cons rv rn =>
    rename_i v' us'
    cases rn
    show wpAny _ _ (call (.ref C) [v']) _ _ _
    have mk : ∀ h', (∀ b o, s1.heap.get? b = some o → h'.get? b = some o) → L2.Mod X.K X.mg h' := fun h' k => Mod.keeps I1.mod fun b o e => k b o (I1.bk b o e)
    have M1 := mk _ fun _ _ e => e
    obtain ⟨hp, g, dr, tk, os⟩ := s1
    refine wpAny_call (np_made (s := ⟨hp, g, dr, tk, os⟩) T M1 (by have := hr.dp; omega) mk fun h' tk' e d M => ?_)
    show MkP X pins σ Q (.ref e) ⟨h', g, dr, tk', os⟩
    obtain ⟨oe, fv, hoe, hc, hd, hdat, h1⟩ := M.obj
    have hns := M.ns
    obtain ⟨G', g1, g2⟩ := restrict h' fun b => decide (b ≠ e)
    have gk : ∀ b, b ≠ e → G'.get? b = h'.get? b := fun b hb => g1 b (decide_eq_true hb)
    have ge : G'.get? e = none := g2 e (by simp)
    have old : ∀ b o, hp.get? b = some o → G'.get? b = some o := fun b o q => (gk b (Nat.ne_of_lt (Nat.lt_of_lt_of_le (Heap.lt_size q) M.new))).trans (M.keep b o q)
    have ob : ObjOk X.prog X.w (upd H1 d (.xd [(("bar" : Str), v)])) G' d (.xd [(("bar" : Str), v)]) :=
      ⟨_, hns.at (fun o q => (gk d M.dne).trans q), fun f => relO_bar rv f⟩
    have J : Inv X pins σ (upd H1 d (.xd [(("bar" : Str), v)])) ⟨G', g, dr, tk', os⟩ := I1.laid (t' := tk') old M.dbig ob
    refine ⟨e, oe, fv, ⟨G', g, dr, tk', os⟩, _, .ref C, some d, rfl, J, fun b o q => ?_, ge, hoe, ⟨hc, hd⟩, hdat, h1, ?_, rfl, I1.bare, raises_own T.exC T.tyC, q1 d (I1.hok.fresh M.dbig)⟩
    · by_cases hb : b = e
      · have q' : G'.get? b = some o := q
        rw [hb, ge] at q'; cases q'
      · exact (gk b hb).symm.trans q
    · rw [upd_ne (Ne.symm M.dne)]
      exact I1.hok.fresh M.new
/-- raise NoPull(e) -/
def tRaiseNp (C : Addr) (W : WX) (ta : TA) : TS := fun _ σ H => tMkNp C ta σ H fun cls d H' => W cls d σ H'
theorem ps_raiseNp {a : Expr} {ta : TA} {W : WX} {p pos pos2 : Pos} {k : Nat} (hc : X.calm = true) (T : NoTxt X.K X.mg X.prog C fI) (hr : Room k X.A) (tk : Takes X W) (ha : PA X [a] ta) (hg : Gl X "NoPull" := by rfl)
    (he : starEach (a :: []) X.env = (false, eval a X.env) :: starEach [] X.env := by rfl) (hpl : (backTo pos (starEach [] X.env)).any (·.1) = false := by rfl) :
    PS X (.Raise (some (.Call (.Name "NoPull" p) [a] [] pos)) none pos2) (tRaiseNp C W ta) := L2.ps_raise hc tk (pmk_np T hr ha hg he hpl)
/-- e.bar, e the exception that the suite holds (at a; its class cls, its dict d) -/
def tBarOf (C : Addr) (a : Addr) (cls : Value) (d : Option Addr) (te : TE) : TE := fun σ H Q => te σ H fun x H1 => x = .ref a ∧ cls = .ref C ∧ ∃ (dd : Addr) (v : V), d = some dd ∧ H1 dd = some (.xd [(("bar" : Str), v)]) ∧ Q v H1
theorem pe_barOf {a : Addr} {oe : Obj} {cls : Value} {d : Option Addr} {pn : List (Addr × Obj)} {e : Expr} {te : TE} {pos : Pos} (T : NoTxt X.K X.mg X.prog C fI) (hz : Zc cls d oe) (hf : ∃ vs, oe.data = .fields vs) (he : PE (X.suite a ((a, oe) :: pn)) e te)
    (hb : attributeBase e "bar" X.env (eval e X.env) = eval e X.env := by rfl) :
    PE (X.suite a ((a, oe) :: pn)) (.Attribute e "bar" pos) (tBarOf C a cls d te) := by
  refine ⟨fun pins s σ H Q I h => ?_⟩
  refine attr_of hb (thn (he.run pins s σ H _ I h) fun u s1 hh => ?_)
  obtain ⟨x, H1, I1, rx, ex, ec, dd, v, ed, ea, q⟩ := hh
  subst ex
  obtain rfl : u = Value.ref a := rx
  subst ec
  subst ed
  obtain ⟨ha, _⟩ := I1.pin (a, oe) (List.mem_append_left _ List.mem_cons_self)
  obtain ⟨vs, hd⟩ := hf
  have hx : ObjOk X.prog X.w H1 s1.heap dd (.xd [(("bar" : Str), v)]) := I1.hok dd _ ea
  obtain ⟨mA, hns, hr⟩ := hx
  obtain ⟨od, ho, hl⟩ := lookIn_ns hns
  have l : List.lookup ("bar" : Str) [(("bar" : Str), v)] = some v := by simp [List.lookup]
  obtain ⟨u, hu, ru⟩ := RelO.some_of (v := v) (o := mA "bar") (by rw [← l]; exact hr "bar")
  have J : PySem.W.InstAt s1.heap a oe C (some od) := ⟨ha, hz.1, by unfold PySem.W.notCls; rw [hd] <;> rfl, by rw [hz.2]; exact ho⟩
  exact HandSPX.exc_get I1.kIn J T.ga T.gg T.exC (PySem.W.findObj_own T.hdC T.noN rfl (by rw [hl, hu])) (handed_of ru) ⟨v, H1, I1.tok _, ru, q⟩
end
end EW
/-! Promises of defs that may let out a NoPull. -/
namespace EW
open PySem PyProof.Rows L2
/-- x answers post, or a NoPull leaves whose bar is as bad says -/
def SpX {α : Type} (C : Addr) (arg : α → List PyData) (pre : α → Prop) (post : α → PyData → Prop) (bad : α → PyData → Prop) : Sp := fun vs H Q E => ∃ O x, (∀ a ∈ O, ∃ y, H a = some y) ∧ RpL (off H O) vs (arg x) ∧ pre x ∧
  (∀ v H' d, Same H H' → Rp (off H' O) v d → post x d → Q v H') ∧
  ∀ a v H' b, Same H H' → H a = none → H' a = some (.xd [(("bar" : Str), v)]) → Rp (off H' O) v b → bad x b → E (.ref C) (some a) H'
section
variable {X : Cx}
theorem pe_dfX {k : Nat} {x : Str} {st : Stmt} {ps : List Str} {sp : Sp} {p pos : Pos} {e : Expr} {es : List Expr} {t : TA} {W : WX} (D : Df X.prog X.w X.K X.mg X.base (L2.CX X.prog X.w) k x st ps sp) (tk : Takes X W) (hr : Room k X.A) (hg : Gl X x) (ha : PA X (e :: es) t) (hdb : (x == ("__debug__" : Str)) = false := by decide)
    (he : starEach (e :: es) X.env = (false, eval e X.env) :: starEach es X.env := by rfl) (hpl : (backTo pos (starEach es X.env)).any (·.1) = false := by rfl) : PE X (.Call (.Name x p) (e :: es) [] pos) (tCallS sp (WE W) t) := by
  obtain ⟨f, fd, F, G, hm, hb⟩ := D.ex
  exact pe_callS F hr hg hm G.kp hb (fun σ => passAt tk σ) ha hdb he hpl
end
theorem df_mkX {P : Program} {w : World} {K : PySem.W.Frag} {mg : Str → Option Value} {base : Heap} {x : Str} {st : Stmt} {f : Addr} {fd : FuncData} {N ps : List Str} {k : Nat} {sp : Sp} (F : Fun K x x st f fd) (hm : mg x = some (.ref f)) (b : Binds K fd ps []) (S : FnScope N ps (defScope st)) (len : ∀ vs H Q E, sp vs H Q E → vs.length = ps.length)
    (hbody : ∀ (cdv : Value) (A : Around) (outer : List Env) (s : Shared) (H : Hp) (vs : List V) (Q : VK) (E : XK), Room k (A.deeper (envOfC x (defScope st) s.heap.objs.size f cdv)) → sp vs H Q E →
      ∃ t, PSs (cxOf (L2.CX P w) P w K mg base N x (defScope st) f cdv A outer s H E) (defBody st) t ∧ t { nx := fun _ H' => Q .non H', rt := Q } (L2.start N vs) H) : Df P w K mg base (L2.CX P w) (k + 1) x st ps sp :=
  ⟨f, fd, F.okX S len hbody, F, hm, b⟩
theorem df_ofX {P : Program} {w : World} {K : PySem.W.Frag} {mg : Str → Option Value} {base : Heap} {x : Str} {st : Stmt} {N ps : List Str} {k : Nat} {α : Type} {C : Addr} {arg : α → List PyData} {pre : α → Prop} {post bad : α → PyData → Prop} (F : Fx K mg x st) (S : FnScope N ps (defScope st)) (b : ∀ f fd, Fun K x x st f fd → Binds K fd ps []) (len : ∀ y, (arg y).length = ps.length)
    (hbody : ∀ (f : Addr) (cdv : Value) (A : Around) (outer : List Env) (s : Shared) (H : Hp) (Q : VK) (E : XK) (O : List Addr) (y : α) (σ : L2.St), Room k (A.deeper (envOfC x (defScope st) s.heap.objs.size f cdv)) → pre y →
      At H O [] [] (args N (arg y)) σ H → (∀ v σ' H' Ω' Γ' d, At H O [] Ω' Γ' σ' H' → Rp (off H' (O ++ [])) v d → post y d → Q v H') →
      (∀ a v H' b, Same H H' → H a = none → H' a = some (.xd [(("bar" : Str), v)]) → Rp (off H' O) v b → bad y b → E (.ref C) (some a) H') →
      ∃ t, PSs (cxOf (L2.CX P w) P w K mg base N x (defScope st) f cdv A outer s H E) (defBody st) t ∧ t { nx := fun _ H' => Q .non H', rt := Q } σ H) : Df P w K mg base (L2.CX P w) (k + 1) x st ps (SpX C arg pre post bad) := by
  obtain ⟨f, fd, F, hm⟩ := F.ex
  refine df_mkX F hm (b f fd F) S (fun vs H Q E h => ?_) fun cdv A outer s H vs Q E hr h => ?_
  · obtain ⟨O, y, tk, r, p, q⟩ := h
    rw [r.length, len y]
  · obtain ⟨O, y, tk, r, p, q, qe⟩ := h
    refine hbody f cdv A outer s H Q E O y _ hr p (at_start tk r) (fun v σ' H' Ω' Γ' d a r2 p2 => q v H' d ?_ ?_ p2) qe
    · obtain ⟨_, _, _, f⟩ := a
      exact fun a o e => f a o (fun z => nomatch z) e
    · rw [List.append_nil] at r2
      exact r2
/-! ### what runs from a known start -/
def AEp (H0 : Hp) (O : List Addr) (te : TE) (Γ : Ctx) (Ω : List Ob) (P : PyData → Prop) : Prop := ∀ A σ H, (∀ b ∈ A, H0 b = none) → Fr [] H0 H → Wd O A Ω Γ σ H → ∀ Q : VK, (∀ v H' d, Fr A H H' → Wd O A Ω Γ σ H' → Rp (off H' (O ++ A)) v d → P d → Q v H') → te σ H Q
abbrev AE (H0 : Hp) (O : List Addr) (te : TE) (Γ : Ctx) (Ω : List Ob) (d : PyData) : Prop := AEp H0 O te Γ Ω (· = d)
def AA (H0 : Hp) (O : List Addr) (ta : TA) (Γ : Ctx) (Ω : List Ob) (ds : List PyData) : Prop := ∀ A σ H, (∀ b ∈ A, H0 b = none) → Fr [] H0 H → Wd O A Ω Γ σ H → ∀ Q : List V → Hp → Prop, (∀ vs H', Fr A H H' → Wd O A Ω Γ σ H' → RpL (off H' (O ++ A)) vs ds → Q vs H') → ta σ H Q
section
variable {H0 : Hp} {O : List Addr} {Γ : Ctx} {Ω : List Ob} {te : TE} {ta : TA} {d : PyData} {ds : List PyData} {P : PyData → Prop} {σ : L2.St} {H : Hp} {rt : VK} {nx bk ct : L2.St → Hp → Prop} {α : Type} {arg : α → List PyData} {pre : α → Prop} {post bad : α → PyData → Prop}
theorem fr0 {A : List Addr} {H1 H2 : Hp} (hA : ∀ b ∈ A, H0 b = none) (f : Fr [] H0 H1) (g : Fr A H1 H2) : Fr [] H0 H2 := fun a o n e => g a o (fun z => by
  rw [hA a z] at e
  cases e) (f a o n e)
theorem fr_nil {H1 H2 : Hp} (f : Fr [] H1 H2) : Same H1 H2 := fun a o e => f a o (fun z => nomatch z) e
theorem none0 {H1 : Hp} (f : Fr [] H0 H1) {a : Addr} (h : H1 a = none) : H0 a = none := by
  cases e : H0 a with
  | none => rfl
  | some o =>
    rw [f a o (fun z => nomatch z) e] at h
    cases h
theorem AEp.of (h : DEp te Γ Ω P) : AEp H0 O te Γ Ω P := fun A σ H _ _ s Q q => h O A σ H s Q q
theorem AA.of (h : DA ta Γ Ω ds) : AA H0 O ta Γ Ω ds := fun A σ H _ _ s Q q => h O A σ H s Q q
theorem aa_cons {tr : TA} (h : AE H0 O te Γ Ω d) (hr : AA H0 O tr Γ Ω ds) : AA H0 O (tCons te tr) Γ Ω (d :: ds) := fun A σ H hA f s Q q =>
  h A σ H hA f s _ fun x H1 d1 e1 s1 r1 p1 => hr A σ H1 hA (fr0 hA f e1) s1 _ fun xs H2 e2 s2 r2 => q _ H2 (e1.trans e2) s2 (rpl_cons (p1 ▸ r1.ex (e2.same fun a z => List.mem_append_right _ z)) r2)
theorem ae_callG {E : XK} (x : α) (h : AA H0 O ta Γ Ω (arg x)) (hp : pre x) : AEp H0 O (tCall (SpG arg pre post) [] E ta) Γ Ω (post x) := fun A σ H hA f s Q q =>
  h A σ H hA f s _ fun vs H' e s r => by
    show SpG arg pre post (vs ++ []) H' Q E
    rw [List.append_nil]
    exact ⟨O ++ A, x, tk_all s, r, hp, fun v H2 d e2 r2 p2 => q v H2 d (e.trans (fr_of e2)) (s.same e2) r2 p2⟩
/-- what may leave, from the start at H0 with O beside -/
def OutE (H0 : Hp) (O : List Addr) (C : Addr) (B : PyData → Prop) (E : XK) : Prop := ∀ a v H' b, Same H0 H' → H0 a = none → H' a = some (.xd [(("bar" : Str), v)]) → Rp (off H' O) v b → B b → E (.ref C) (some a) H'
theorem ae_callX {C : Addr} {E : L2.St → XK} {B : PyData → Prop} (x : α) (h : AA H0 O ta Γ Ω (arg x)) (hp : pre x) (hE : ∀ σ, σ.length = Γ.length → OutE H0 O C B (E σ)) (hb : ∀ b, bad x b → B b) : AEp H0 O (tCallS (SpX C arg pre post bad) E ta) Γ Ω (post x) := fun A σ H hA f s Q q =>
  h A σ H hA f s _ fun vs H' e s r =>
    ⟨O ++ A, x, tk_all s, r, hp, fun v H2 d e2 r2 p2 => q v H2 d (e.trans (fr_of e2)) (s.same e2) r2 p2, fun a v H2 b e2 n hx r2 p2 =>
      hE σ s.sl.len a v H2 b (fr_nil (fr0 hA (fr0 hA f e) (fr_of e2))) (none0 (fr0 hA f e) n) hx (r2.ex (off_less fun b z => List.mem_append_left _ z)) (hb b p2)⟩
theorem ae_raise {C : Addr} {E : XK} {B : PyData → Prop} {D : Ends} (h : AEp H0 O te Γ Ω B) (s : At H0 O [] Ω Γ σ H) (hE : OutE H0 O C B E) : tRaiseNp C (fun cls d _ H => E cls d H) (tCons te tNil) D σ H := by
  obtain ⟨A, w, hA, f⟩ := s
  rw [List.nil_append] at w
  refine h A σ H hA f w _ fun v H1 b e1 s1 r1 p1 => ?_
  refine ⟨v, rfl, fun d hd => ?_⟩
  refine hE d v _ b (fr_nil (fr0 hA (fr0 hA f e1) (fr_of (same_new hd)))) (none0 (fr0 hA f e1) hd) upd_same ?_ p1
  refine r1.ex fun b o e => ?_
  obtain ⟨n, e⟩ := off_of e
  exact off_in (same_new hd b o e) fun z => n (List.mem_append_left _ z)
theorem sa_ret (h : AEp H0 O te Γ Ω P) (s : At H0 O [] Ω Γ σ H) (q : ∀ v H' d, P d → At H0 O [] Ω Γ σ H' → Rp (off H' (O ++ [])) v d → rt v H') : tRet te ⟨nx, rt, bk, ct⟩ σ H := by
  obtain ⟨A, w, hA, f⟩ := s
  rw [List.nil_append] at w
  exact h A σ H hA f w _ fun v H1 d e1 s1 r1 p1 => q v H1 d p1 ⟨A, s1, hA, fr0 hA f e1⟩ (r1.ex (off_less fun b z => by
    rw [List.append_nil] at z
    exact List.mem_append_left _ z))
theorem sa_set {i : Nat} (h : AEp H0 O te Γ Ω P) (s : At H0 O [] Ω Γ σ H) (q : ∀ σ' H' d, P d → At H0 O [] Ω (Γ.set i (.dat d)) σ' H' → nx σ' H') : tAsg te (gName i) ⟨nx, rt, bk, ct⟩ σ H := by
  obtain ⟨A, w, hA, f⟩ := s
  rw [List.nil_append] at w
  exact h A σ H hA f w _ fun v H1 d e1 s1 r1 p1 => q _ _ d p1 ⟨A, s1.put i ⟨v, rfl, r1⟩, hA, fr0 hA f e1⟩
theorem sa_expr (h : AEp H0 O te Γ Ω P) (s : At H0 O [] Ω Γ σ H) (q : ∀ H' d, P d → At H0 O [] Ω Γ σ H' → nx σ H') : tDrop te ⟨nx, rt, bk, ct⟩ σ H := by
  obtain ⟨A, w, hA, f⟩ := s
  rw [List.nil_append] at w
  exact h A σ H hA f w _ fun v H1 d e1 s1 r1 p1 => q _ d p1 ⟨A, s1, hA, fr0 hA f e1⟩
theorem AEp.imp {P' : PyData → Prop} (h : AEp H0 O te Γ Ω P) (i : ∀ d, P d → P' d) : AEp H0 O te Γ Ω P' := fun A σ H hA f s Q q => h A σ H hA f s Q fun v H' d e s r p => q v H' d e s r (i d p)
/-- what never comes back -/
def ABot (H0 : Hp) (O : List Addr) (ta : TA) (Γ : Ctx) (Ω : List Ob) : Prop := ∀ A σ H, (∀ b ∈ A, H0 b = none) → Fr [] H0 H → Wd O A Ω Γ σ H → ∀ Q : List V → Hp → Prop, ta σ H Q
theorem ab_cons {tr : TA} (h : AEp H0 O te Γ Ω fun _ => False) : ABot H0 O (tCons te tr) Γ Ω := fun A σ H hA f s Q => h A σ H hA f s _ fun _ _ _ _ _ _ z => z.elim
theorem ab_next {tr : TA} (h : AE H0 O te Γ Ω d) (hr : ABot H0 O tr Γ Ω) : ABot H0 O (tCons te tr) Γ Ω := fun A σ H hA f s Q => h A σ H hA f s _ fun x H1 d1 e1 s1 r1 p1 => hr A σ H1 hA (fr0 hA f e1) s1 _
theorem ae_bot {sp : Sp} {E : XK} (h : ABot H0 O ta Γ Ω) : AEp H0 O (tCall sp [] E ta) Γ Ω P := fun A σ H hA f s Q q => h A σ H hA f s _
end
end EW
/-! some_heights, pull_within, difference_bounds: they answer, or a NoPull leaves -/
namespace EW
open PySem PyProof.Rows L2
section
variable {P : Program} {w : World} {K : PySem.W.Frag} {mg : Str → Option Value} {base : Heap} {C fI : Addr}
abbrev NoP (x : Nat × List Arr × List Bnd) (b : PyData) : Prop := ∃ l, hob x.1 x.2.1 x.2.2 = .inr l ∧ b = intsT l
abbrev s_some_heights : Stmt := topS 36
abbrev N_some_heights : List Str := ["web", "bounds", "heights", "bar"]
theorem sc_some_heights : FnScope N_some_heights ["web", "bounds"] (defScope s_some_heights) := ⟨rfl, rfl, rfl, by decide +kernel, rfl, by decide +kernel, by decide +kernel⟩
abbrev Q_some_heights (P : Program) (w : World) (K : PySem.W.Frag) (mg : Str → Option Value) (base : Heap) (C : Addr) : Prop := Df P w K mg base (L2.CX P w) 3 "some_heights" s_some_heights ["web", "bounds"] (SpX C (fun x : Nat × List Arr × List Bnd => [webD x.1 x.2.1, bndD x.2.2]) (fun x => WB x.1 x.2.1 x.2.2) (fun x r => ∃ hs, hob x.1 x.2.1 x.2.2 = .inl hs ∧ r = intsL hs) NoP)
theorem df_some_heights (NT : NoTxt K mg P C fI) (F : Fx K mg "some_heights" s_some_heights) (D_heights_or_bar : Q_heights_or_bar P w K mg base) : Q_some_heights P w K mg base C := by
  refine df_ofX F sc_some_heights (fun _ _ F => F.binds fun _ _ _ _ _ _ us hl => match us, hl with | [_, _], _ => rfl) (fun _ => rfl) fun f cdv A outer s H Q E O x σ hr W a q qe => ?_
  obtain ⟨n, as, bs⟩ := x
  have W : WB n as bs := W
  dsimp only at a q qe
  refine ⟨_, (pss_cons (ps_asg (pe_df D_heights_or_bar (hr.mono (by decide)) (by rfl) (pa_cons (pv 0) (pa_cons (pv 1) pa_nil))) (pgTupK K (n := 2) (pgs_cons (pg_name (i := 2) sc_some_heights.nd rfl (Or.inl rfl)) (pgs_cons (pg_name (i := 3) sc_some_heights.nd rfl (Or.inl rfl)) pgs_nil))))
        (pss_cons (ps_if (pt_cmpR op_isN (pv 2) pe_non (by rfl))
          (pss_one (ps_raiseNp rfl NT hr (takes_of rfl rfl rfl rfl) (pa_cons (pv 3) pa_nil)))
          pss_nil)
        (pss_one (ps_ret (pv 2))))), ?_⟩
  cases e : hob n as bs with
  | inl hs =>
    have e2 : hobR (hob n as bs) = .tuple [intsL hs, .none] := by
      rw [e]
      rfl
    refine st_seq (st_asg (vs := [2, 3]) (de_is (de_callG (n, as, bs) (da_cons (de_var rfl) (da_cons (de_var rfl) da_nil)) W) e2) (dg_tup (dgs_cons dg_name (dgs_cons dg_name dgs_nil))) a fun σ H a => ?_)
    refine st_seq (st_if (b := false) (dtT (de_isN2 (de_var rfl))) a (fun H z => nomatch z) fun H _ a => st_next ?_)
    exact st_ret (de_var rfl) a fun v H a r => q v _ _ _ _ _ a r ⟨hs, e, rfl⟩
  | inr l =>
    have e2 : hobR (hob n as bs) = .tuple [.none, intsT l] := by
      rw [e]
      rfl
    refine st_seq (st_asg (vs := [2, 3]) (de_is (de_callG (n, as, bs) (da_cons (de_var rfl) (da_cons (de_var rfl) da_nil)) W) e2) (dg_tup (dgs_cons dg_name (dgs_cons dg_name dgs_nil))) a fun σ H a => ?_)
    refine st_seq (st_if (b := true) (dtT (de_isN2 (de_var rfl))) a (fun H _ a => ?_) fun H z => nomatch z)
    exact ae_raise (B := fun b => b = intsT l) (AEp.of (de_var rfl)) a fun a v H' b e1 h1 h2 h3 h4 => qe a v H' b e1 h1 h2 h3 ⟨l, e, h4⟩
abbrev s_pull_within : Stmt := topS 37
abbrev N_pull_within : List Str := ["web", "bounds"]
theorem sc_pull_within : FnScope N_pull_within ["web", "bounds"] (defScope s_pull_within) := ⟨rfl, rfl, rfl, by decide +kernel, rfl, by decide +kernel, by decide +kernel⟩
abbrev PwPost (x : Nat × List Arr × List Bnd) (r : PyData) : Prop := ∃ hs, hob x.1 x.2.1 x.2.2 = .inl hs ∧ r = intsT (x.2.1.map fun a => hs.getD a.2 0 - hs.getD a.1 0)
abbrev Q_pull_within (P : Program) (w : World) (K : PySem.W.Frag) (mg : Str → Option Value) (base : Heap) (C : Addr) : Prop := Df P w K mg base (L2.CX P w) 5 "pull_within" s_pull_within ["web", "bounds"] (SpX C (fun x : Nat × List Arr × List Bnd => [webD x.1 x.2.1, bndD x.2.2]) (fun x => WB x.1 x.2.1 x.2.2) PwPost NoP)
theorem df_pull_within (F : Fx K mg "pull_within" s_pull_within) (D_check_web : Q_check_web P w K mg base) (D_check_bounds : Q_check_bounds P w K mg base) (D_pull_by : Q_pull_by P w K mg base) (D_some_heights : Q_some_heights P w K mg base C) : Q_pull_within P w K mg base C := by
  refine df_ofX F sc_pull_within (fun _ _ F => F.binds fun _ _ _ _ _ _ us hl => match us, hl with | [_, _], _ => rfl) (fun _ => rfl) fun f cdv A outer s H Q E O x σ hr W a q qe => ?_
  obtain ⟨n, as, bs⟩ := x
  have W : WB n as bs := W
  dsimp only at a q qe
  refine ⟨_, (pss_cons (ps_expr (pe_df D_check_web (hr.mono (by decide)) (by rfl) (pa_cons (pv 0) pa_nil)))
        (pss_cons (ps_expr (pe_df D_check_bounds (hr.mono (by decide)) (by rfl) (pa_cons (pv 0) (pa_cons (pv 1) pa_nil))))
        (pss_one (ps_ret (pe_df D_pull_by (hr.mono (by decide)) (by rfl) (pa_cons (pv 0) (pa_cons (pe_dfX D_some_heights (takes_of rfl rfl rfl rfl) (hr.mono (by decide)) (by rfl) (pa_cons (pv 0) (pa_cons (pv 1) pa_nil))) pa_nil))))))), ?_⟩
  refine st_seq (st_drop (de_callG (n, as) (da_cons (de_var rfl) da_nil) W.toWb) a fun H d _ a => ?_)
  refine st_seq (st_drop (de_callG (n, as, bs) (da_cons (de_var rfl) (da_cons (de_var rfl) da_nil)) W) a fun H d _ a => ?_)
  cases e : hob n as bs with
  | inl hs =>
    have hl := (hob_l W.web e).1
    refine sa_ret (ae_callG (n, as, hs) (aa_cons (AEp.of (de_var rfl)) (aa_cons ((ae_callX (B := NoP (n, as, bs)) (n, as, bs) (AA.of (da_cons (de_var rfl) (da_cons (de_var rfl) da_nil))) W (fun _ _ => qe) fun _ z => z).imp ?_) (AA.of da_nil))) ⟨W.toWb, hl⟩) a fun v H d p a r => q v _ _ _ _ _ a r ⟨hs, e, p⟩
    rintro d ⟨hs', e', rfl⟩
    rw [e] at e'
    cases e'
    rfl
  | inr l =>
    refine sa_ret (P := fun _ => False) (ae_bot (ab_next (AEp.of (de_var rfl)) (ab_cons ((ae_callX (B := NoP (n, as, bs)) (n, as, bs) (AA.of (da_cons (de_var rfl) (da_cons (de_var rfl) da_nil))) W (fun _ _ => qe) fun _ z => z).imp ?_)))) a fun v H d p a r => p.elim
    rintro d ⟨hs', e', _⟩
    rw [e] at e'
    cases e'
abbrev s_difference_bounds : Stmt := topS 39
abbrev N_difference_bounds : List Str := ["web", "bounds", "arrow", "x", "y"]
theorem sc_difference_bounds : FnScope N_difference_bounds ["web", "bounds", "arrow"] (defScope s_difference_bounds) := ⟨rfl, rfl, rfl, by decide +kernel, rfl, by decide +kernel, by decide +kernel⟩
abbrev DbPost (x : Nat × List Arr × List Bnd × Nat) (r : PyData) : Prop := (∃ hs, hob x.1 x.2.1 x.2.2.1 = .inl hs) ∧ ∃ a, x.2.1[x.2.2.2]? = some a ∧ r = .tuple [.int (-((tab x.1 (stepsOf x.2.1 x.2.2.1) a.2 a.1).getD 0)), .int ((tab x.1 (stepsOf x.2.1 x.2.2.1) a.1 a.2).getD 0)]
abbrev Q_difference_bounds (P : Program) (w : World) (K : PySem.W.Frag) (mg : Str → Option Value) (base : Heap) (C : Addr) : Prop := Df P w K mg base (L2.CX P w) 5 "difference_bounds" s_difference_bounds ["web", "bounds", "arrow"] (SpX C (fun x : Nat × List Arr × List Bnd × Nat => [webD x.1 x.2.1, bndD x.2.2.1, .int x.2.2.2]) (fun x => WB x.1 x.2.1 x.2.2.1 ∧ x.2.2.2 < x.2.1.length) DbPost fun x => NoP (x.1, x.2.1, x.2.2.1))
theorem df_difference_bounds (F : Fx K mg "difference_bounds" s_difference_bounds) (D_check_web : Q_check_web P w K mg base) (D_check_bounds : Q_check_bounds P w K mg base) (D_check_arrow : Q_check_arrow P w K mg base) (D_some_heights : Q_some_heights P w K mg base C) (D_least_weight : Q_least_weight P w K mg base) : Q_difference_bounds P w K mg base C := by
  refine df_ofX F sc_difference_bounds (fun _ _ F => F.binds fun _ _ _ _ _ _ us hl => match us, hl with | [_, _, _], _ => rfl) (fun _ => rfl) fun f cdv A outer s H Q E O x σ hr W a q qe => ?_
  obtain ⟨n, as, bs, k⟩ := x
  obtain ⟨W, hk⟩ : WB n as bs ∧ k < as.length := W
  dsimp only at a q qe
  refine ⟨_, (pss_cons (ps_expr (pe_df D_check_web (hr.mono (by decide)) (by rfl) (pa_cons (pv 0) pa_nil)))
        (pss_cons (ps_expr (pe_df D_check_bounds (hr.mono (by decide)) (by rfl) (pa_cons (pv 0) (pa_cons (pv 1) pa_nil))))
        (pss_cons (ps_expr (pe_df D_check_arrow (hr.mono (by decide)) (by rfl) (pa_cons (pv 0) (pa_cons (pv 2) pa_nil))))
        (pss_cons (ps_expr (pe_dfX D_some_heights (takes_of rfl rfl rfl rfl) (hr.mono (by decide)) (by rfl) (pa_cons (pv 0) (pa_cons (pv 1) pa_nil))))
        (pss_cons (ps_asg (pe_ix (ixK K) (pe_ix (ixK K) (pv 0) pe_int (fun _ _ => rfl)) (pv 2) (fun _ _ => rfl)) (pgTupK K (n := 2) (pgs_cons (pg_name (i := 3) sc_difference_bounds.nd rfl (Or.inl rfl)) (pgs_cons (pg_name (i := 4) sc_difference_bounds.nd rfl (Or.inl rfl)) pgs_nil))))
        (pss_one (ps_ret (pe_tup (pa_cons (pe_un un_neg (pe_df D_least_weight (hr.mono (by decide)) (by rfl) (pa_cons (pv 0) (pa_cons (pv 1) (pa_cons (pv 4) (pa_cons (pv 3) pa_nil)))))) (pa_cons (pe_df D_least_weight (hr.mono (by decide)) (by rfl) (pa_cons (pv 0) (pa_cons (pv 1) (pa_cons (pv 3) (pa_cons (pv 4) pa_nil))))) pa_nil)))))))))), ?_⟩
  refine st_seq (st_drop (de_callG (n, as) (da_cons (de_var rfl) da_nil) W.toWb) a fun H d _ a => ?_)
  refine st_seq (st_drop (de_callG (n, as, bs) (da_cons (de_var rfl) (da_cons (de_var rfl) da_nil)) W) a fun H d _ a => ?_)
  refine st_seq (st_drop (de_callG (n, as, k) (da_cons (de_var rfl) (da_cons (de_var rfl) da_nil)) hk) a fun H d _ a => ?_)
  refine st_seq (sa_expr (ae_callX (B := NoP (n, as, bs)) (n, as, bs) (AA.of (da_cons (de_var rfl) (da_cons (de_var rfl) da_nil))) W (fun _ _ => qe) fun _ z => z) a ?_)
  rintro H d ⟨hs, e, rfl⟩ a
  obtain ⟨⟨x, y⟩, hxy⟩ : ∃ c, as[k]? = some c := ⟨_, List.getElem?_eq_getElem hk⟩
  have F := (hob_l W.web e).2
  have N : NoNeg n (tab n (stepsOf as bs)) := noneg_of F
  obtain ⟨b, hb⟩ : ∃ b, bs[k]? = some b := ⟨_, List.getElem?_eq_getElem (by have := W.len; omega)⟩
  have s1 : ∃ e ∈ stepsOf as bs, e.1 = x ∧ e.2.1 = y := ⟨_, (stepsFrom_mem 0 as bs _).mpr ⟨k, _, _, hxy, hb, .inl rfl⟩, rfl, rfl⟩
  have s2 : ∃ e ∈ stepsOf as bs, e.1 = y ∧ e.2.1 = x := ⟨_, (stepsFrom_mem 0 as bs _).mpr ⟨k, _, _, hxy, hb, .inr rfl⟩, rfl, rfl⟩
  refine st_seq (st_asg (vs := [3, 4]) (d := pairN (x, y)) (de_ixT (ds := as.map pairN) (de_web1 rfl) (de_var rfl) (atI_nat (by rw [List.getElem?_map, hxy]; rfl))) (dg_tup (dgs_cons dg_name (dgs_cons dg_name dgs_nil))) a fun σ H a => ?_)
  exact st_ret (de_tup (da_cons (de_neg (de_callG (n, as, bs, y, x) (da_cons (de_var rfl) (da_cons (de_var rfl) (da_cons (de_var rfl) (da_cons (de_var rfl) da_nil)))) ⟨W, N, s2⟩)) (da_cons (de_callG (n, as, bs, x, y) (da_cons (de_var rfl) (da_cons (de_var rfl) (da_cons (de_var rfl) (da_cons (de_var rfl) da_nil)))) ⟨W, N, s1⟩) da_nil))) a fun v H a r => q v _ _ _ _ _ a r ⟨⟨hs, e⟩, _, hxy, rfl⟩
end
end EW
/-! Calls with keywords alone; a try whose first clause takes what comes; isinstance of the caught NoPull. -/
namespace EW
open PySem PySem.Spec PyProof.Rows L2
/-- keywords alone, in the reverse of the parameters' order -/
structure KB (K : PySem.W.Frag) (fd : FuncData) (ps ks : List Str) : Prop where
  to : ∀ (s : Shared) (ws : List Value), ws.length = ps.length → BindsTo s fd ⟨[], ks.zip ws⟩ (ps.zip ws.reverse)
theorem Fun.kb {K : PySem.W.Frag} {x qual : Str} {st : Stmt} {f : Addr} {fd : FuncData} {ps ks : List Str} (F : Fun K x qual st f fd)
    (h : ∀ (kV doc pm : Value) (an : Option Addr) (cdv ct : Value) (ws : List Value), ws.length = ps.length → bindArgs (PySem.W.fnOf x qual (defArgs st) (defBody st) (defScope st) .none kV doc pm an cdv ct) ⟨[], ks.zip ws⟩ = pure (ps.zip ws.reverse)) : KB K fd ps ks := by
  obtain ⟨oc, od, kV, doc, pm, an, cdv, ct, osl, rfl, lk, hcd⟩ := F.ex
  exact ⟨fun s ws hl => .of_eq (h kV doc pm an cdv ct ws hl)⟩
theorem vals_rev : ∀ {vs : List V} {us : List Value}, Vals vs us → Vals vs.reverse us.reverse
  | _, _, .nil => .nil
  | _, _, .cons h r => by
    rw [List.reverse_cons, List.reverse_cons]
    exact (vals_rev r).append (.cons h .nil)
def tCallR (sp : Sp) (E : L2.St → XK) (t : TA) : TE := fun σ H Q => t σ H fun vs H1 => sp vs.reverse H1 Q (E σ)
section
variable {X : Cx} {CX : CXT} {k : Nat} {f : Addr} {fd : FuncData} {ps ks : List Str} {sp : Sp} {E : L2.St → XK} {x : Str} {p pos : Pos} {kws : List Keyword} {t : TA}
theorem run_fnR {pins : List (Addr × Obj)} {σ : L2.St} {H : Hp} {s : Shared} {Q : VK} {ws : List Value} {zs : List V} (F : FnOk X.prog X.w X.K X.mg X.base CX k f fd ps sp) (hr : Room k X.A) (hb : KB X.K fd ps ks) (hx : PassesAt CX X σ (E σ))
    (I : Inv X pins σ H s) (r : Vals zs ws) (h : sp zs.reverse H Q (E σ)) : wpAny (model X.prog X.w) X.A (call (.ref f) [] (ks.zip ws)) (EP X pins σ Q) X.xe s := by
  have r2 := vals_rev r
  have hl : ws.length = ps.length := by
    rw [← F.len _ _ _ _ h, r2.length, List.length_reverse]
  refine wpAny_call (codeAny_mono (F.run X.A X.stack s H ⟨[], ks.zip ws⟩ ws.reverse zs.reverse Q (E σ) hr I.env0 (hb.to s ws hl) r2 h) fun r s' hq => ?_)
  cases r with
  | error e => exact hx pins H s e s' I hq
  | ok fl =>
    cases fl with
    | ret u => exact I.after hq
    | next => exact False.elim hq
    | brk => exact False.elim hq
    | cont => exact False.elim hq
theorem pe_callR (F : FnOk X.prog X.w X.K X.mg X.base CX k f fd ps sp) (hr : Room k X.A) (hg : Gl X x) (hm : X.mg x = some (.ref f)) (hk : PySem.W.keepIn X.K (.ref f) = true) (hb : KB X.K fd ps ks) (hx : ∀ σ, PassesAt CX X σ (E σ)) (hkw : PK X kws t)
    (hall : (backToKw pos (keywordEach kws X.env)).all (·.1.isSome) = true) (hks : (backToKw pos (keywordEach kws X.env)).filterMap (·.1) = ks) (hdb : (x == ("__debug__" : Str)) = false)
    (hpl : ((backTo pos (starEach [] X.env)).any (·.1) || (backToKw pos (keywordEach kws X.env)).any (·.1.isNone)) = false) : PE X (.Call (.Name x p) [] kws pos) (tCallR sp E t) := by
  refine ⟨fun pins s σ H Q I h => ?_⟩
  refine wpAny_Call_Name_kw (ld_glob I hg hm ?_ hdb)
  refine PySem.W.callWith_KW0 (h₀ := X.base) I.ok.mod.kin hk hall (thn (hkw.run pos pins s σ H _ I h) fun ws s2 ⟨zs, H2, I2, rz, q2⟩ => ⟨I2.kIn, ?_⟩) hpl
  rw [hks]
  exact run_fnR F hr hb (hx σ) I2 rz q2
/-- a def of the module by keywords -/
theorem pe_dfK {st : Stmt} (D : Df X.prog X.w X.K X.mg X.base CX0 k x st ps sp) (hr : Room k X.A) (hg : Gl X x) (hkw : PK X kws t) (hb : ∀ f fd, Fun X.K x x st f fd → KB X.K fd ps ks)
    (hall : (backToKw pos (keywordEach kws X.env)).all (·.1.isSome) = true := by rfl) (hks : (backToKw pos (keywordEach kws X.env)).filterMap (·.1) = ks := by rfl) (hdb : (x == ("__debug__" : Str)) = false := by decide)
    (hpl : ((backTo pos (starEach [] X.env)).any (·.1) || (backToKw pos (keywordEach kws X.env)).any (·.1.isNone)) = false := by rfl) : PE X (.Call (.Name x p) [] kws pos) (tCallR sp (fun _ => E0) t) := by
  obtain ⟨f, fd, F, G, hm, h⟩ := D.ex
  exact pe_callR F hr hg hm G.kp (hb f fd G) (fun _ _ _ _ _ _ _ z => z.elim) hkw hall hks hdb hpl
theorem pe_dfXK {st : Stmt} {W : WX} (D : Df X.prog X.w X.K X.mg X.base (L2.CX X.prog X.w) k x st ps sp) (tk : Takes X W) (hr : Room k X.A) (hg : Gl X x) (hkw : PK X kws t) (hb : ∀ f fd, Fun X.K x x st f fd → KB X.K fd ps ks)
    (hall : (backToKw pos (keywordEach kws X.env)).all (·.1.isSome) = true := by rfl) (hks : (backToKw pos (keywordEach kws X.env)).filterMap (·.1) = ks := by rfl) (hdb : (x == ("__debug__" : Str)) = false := by decide)
    (hpl : ((backTo pos (starEach [] X.env)).any (·.1) || (backToKw pos (keywordEach kws X.env)).any (·.1.isNone)) = false := by rfl) : PE X (.Call (.Name x p) [] kws pos) (tCallR sp (WE W) t) := by
  obtain ⟨f, fd, F, G, hm, h⟩ := D.ex
  exact pe_callR F hr hg hm G.kp (hb f fd G) (fun σ => passAt tk σ) hkw hall hks hdb hpl
end
theorem kb2 {K : PySem.W.Frag} {x qual : Str} {st : Stmt} {f : Addr} {fd : FuncData} {a b c d : Str} (F : Fun K x qual st f fd)
    (h : ∀ (kV doc pm : Value) (an : Option Addr) (cdv ct : Value) (u v : Value), bindArgs (PySem.W.fnOf x qual (defArgs st) (defBody st) (defScope st) .none kV doc pm an cdv ct) ⟨[], [(c, u), (d, v)]⟩ = pure [(a, v), (b, u)]) : KB K fd [a, b] [c, d] :=
  EW.Fun.kb F fun kV doc pm an cdv ct ws hl => match ws, hl with | [u, v], _ => h kV doc pm an cdv ct u v
theorem kb3 {K : PySem.W.Frag} {x qual : Str} {st : Stmt} {f : Addr} {fd : FuncData} {a b c d e g : Str} (F : Fun K x qual st f fd)
    (h : ∀ (kV doc pm : Value) (an : Option Addr) (cdv ct : Value) (u v w : Value), bindArgs (PySem.W.fnOf x qual (defArgs st) (defBody st) (defScope st) .none kV doc pm an cdv ct) ⟨[], [(d, u), (e, v), (g, w)]⟩ = pure [(a, w), (b, v), (c, u)]) : KB K fd [a, b, c] [d, e, g] :=
  EW.Fun.kb F fun kV doc pm an cdv ct ws hl => match ws, hl with | [u, v, w], _ => h kV doc pm an cdv ct u v w
/-! ### try, the first clause takes all -/
/-- wished of what the body lets out: it is the clause's, and the suite goes well -/
def wAs1 (K : PySem.W.Frag) (c : Value) (i : Nat) (ts : Addr → Value → Option Addr → TS) (D : Ends) : WX := fun cls d σ H =>
  PySem.W.exmOne K cls c = some true ∧ ∀ a, H a = none → ts a cls d { nx := fun σ' H' => D.nx (σ'.set i none) H', rt := D.rt, bk := fun σ' H' => D.bk (σ'.set i none) H', ct := fun σ' H' => D.ct (σ'.set i none) H' } (σ.set i (some (.ref a))) H
section
variable {X : Cx} {x n : Str} {c : Value} {i : Nat} {body suite : List Stmt} {b₀ : Stmt} {np pos pos' : Pos} {tb : WX → TS} {ts : Addr → Value → Option Addr → TS} {more : List ExceptHandler}
theorem ps_try_as1 (hs : X.stack = X.env :: X.outer) (hf : X.env.frame = some X.env.locals) (hN : X.N.Nodup) (hi : X.N[i]? = some n) (hln : X.env.kindOf n = some .local) (hc : Names X x c)
    (hb : ∀ (W : WX) (pn : List (Addr × Obj)) (xe : Value → Shared → Prop), Takes (X.tr pn xe) W → PSs (X.tr pn xe) body (tb W))
    (hsu : ∀ (a : Addr) (oe : Obj) (cls : Value) (d : Option Addr) (pn : List (Addr × Obj)), Zc cls d oe → (∃ vs, oe.data = .fields vs) → PSs (X.suite a ((a, oe) :: pn)) (b₀ :: suite) (ts a cls d)) :
    PS X (.Try body (.ExceptHandler (some (.Name x np)) (some n) (b₀ :: suite) pos' :: more) [] [] pos) (fun D σ H => tb (wAs1 X.K c i ts D) D σ H) := by
  refine ⟨fun pins s σ H D I h => ?_⟩
  have ok := I.ok
  have hfr : X.A.frames = some (X.env :: X.outer) := by rw [ok.frames, hs]
  have hloc : Loc X.env.scope n := .inl hln
  refine wpAny_Try_except ?_
  refine wpAny_mono ((hb (wAs1 X.K c i ts D) (X.pn ++ pins) (fun e s₁ => wpAny (model X.prog X.w) X.A (noteFrame e X.env) (fun _ s₂ => wpAny (model X.prog X.w) X.A (setFlight e none) (fun _ s₃ =>
    wpAny (model X.prog X.w) X.A (handleBy e X.env (.ExceptHandler (some (.Name x np)) (some n) (b₀ :: suite) pos' :: more)) (SP X pins D) X.xe s₃) X.xe s₂) X.xe s₁) (fun u s' xx => ?_)).run [] s σ H D (I.toTry _) h) (fun f s1 hsp => ?_) (fun e s1 he => he)
  · obtain ⟨a, B, sI, pins', σ', H', cls, d, rfl, J', nb, up, sky, na, os, ag, hb1, hyes⟩ := xx
    have J : Inv X pins σ' H' sI := J'.ofTry ok
    have sky' : Sky B (X.env :: X.outer) a (Zc cls d) X.env.locals s'.heap := by rw [← hs]; exact sky
    show wpAny (model X.prog X.w) X.A (noteFrame (.ref a) X.env) _ _ _
    refine Sky.land Zc.steady hfr hf sky' fun h3 fl3 up3 => ?_
    have J3 : Inv X pins σ' H' { s' with heap := h3 } := J.landed nb fl3.1 (up.trans up3) os ag
    obtain ⟨oe3, vs3, he3, hz3, hd3⟩ := fl3.there
    have nfr : a ∉ frs (X.env :: X.outer) := fun hm => by
      obtain ⟨_, o', e', hnf⟩ := fl3.2.2.1.mem hm
      have := he3.symm.trans e'
      cases this
      exact hnf _ hd3
    have nL : a ≠ X.env.locals := fun z => nfr (List.mem_filterMap.mpr ⟨X.env, List.mem_cons_self, by rw [hf, z]⟩)
    have nF : a ∉ X.fs := fun hm => by
      obtain ⟨e, he, q⟩ := List.mem_filterMap.mp hm
      exact nfr (List.mem_filterMap.mpr ⟨e, List.mem_cons_of_mem _ he, q⟩)
    have S3 := J3.suite he3 hd3 na nL nF
    refine wpAny_handleBy_cons (codeAny_handlers_test ?_) (by intro q; cases q)
    have LT : PySem.W.Looks (model X.prog X.w) h3 (typeOf (.ref a)) cls := fun A Q E s k q => wpAny_typeOf_ref (k _ _ he3) (by rw [hz3.1]; exact q)
    have LM := PySem.W.exm_one (M := model X.prog X.w) (J3.kIn) LT hb1
    have test : ∀ {Q : Value → Shared → Prop} {E : Value → Shared → Prop}, Q c { s' with heap := h3 } → wpAny (model X.prog X.w) (X.A.mark (some (.ref a))) (eval (.Name x np) X.env) Q E { s' with heap := h3 } := fun {Q E} q => by
      obtain ⟨hg, hdbg, hm | ⟨hm, hv, hnn⟩⟩ := hc
      · exact ld_glob (X := X.suite a ((a, oe3) :: (X.pn ++ pins))) S3 hg hm q hdbg
      · exact ld_blt (X := X.suite a ((a, oe3) :: (X.pn ++ pins))) S3 hg hm hv q hnn hdbg
    refine test (LM.here ?_)
    refine codeAny_handlers_suite_as ?_
    refine HandSPX.lands_againZ fl3 fun h4 fl4 up4 => ?_
    have J4 : Inv X pins σ' H' { s' with heap := h4 } := J.landed nb fl4.1 ((up.trans up3).trans up4) os ag
    obtain ⟨oe4, vs4, he4, hz4, hd4⟩ := fl4.there
    have S4 := J4.suite he4 hd4 na nL nF
    refine store_ok (X := X.suite a ((a, oe4) :: (X.pn ++ pins))) (v := .ref a) S4 hN hi hloc rfl (fun s5 S5 => ?_) (.inr hln)
    refine wpAny_mono ((hsu a oe4 cls d (X.pn ++ pins) hz4 ⟨_, hd4⟩).run [] s5 _ H' _ S5 (hyes a na)) (fun f s6 hsp => ?_) (fun _ _ z => False.elim z)
    have fin : ∀ {σ6 : L2.St} {H6 : Hp} {Q : Shared → Prop}, Inv (X.suite a ((a, oe4) :: (X.pn ++ pins))) [] σ6 H6 s6 → (∀ s7, Inv X pins (σ6.set i none) H6 s7 → Q s7) →
        wpAny (model X.prog X.w) X.A (do bindName X.env n .none; unbindBehindTheSuite X.env n pos') (fun _ s7 => Q s7) X.xe s6 := fun {σ6 H6 Q} S6 hq => gone_ok (S6.unsuite ok) hN hi hln hq
    cases f with
    | ret u =>
      obtain ⟨v6, σ6, H6, S6, r6, q6⟩ := hsp
      exact fin S6 fun s7 J7 => ⟨_, _, _, J7, r6, q6⟩
    | next =>
      obtain ⟨σ6, H6, S6, q6⟩ := hsp
      exact fin S6 fun s7 J7 => ⟨_, _, J7, q6⟩
    | brk =>
      obtain ⟨σ6, H6, S6, q6⟩ := hsp
      exact fin S6 fun s7 J7 => ⟨_, _, J7, q6⟩
    | cont =>
      obtain ⟨σ6, H6, S6, q6⟩ := hsp
      exact fin S6 fun s7 J7 => ⟨_, _, J7, q6⟩
  · cases f with
    | ret u =>
      obtain ⟨v, σ', H', J', r, q⟩ := hsp
      exact ⟨v, σ', H', J'.ofTry ok, r, q⟩
    | next =>
      obtain ⟨σ', H', J', q⟩ := hsp
      exact wpAny_execs_nil ⟨σ', H', J'.ofTry ok, q⟩
    | brk =>
      obtain ⟨σ', H', J', q⟩ := hsp
      exact ⟨σ', H', J'.ofTry ok, q⟩
    | cont =>
      obtain ⟨σ', H', J', q⟩ := hsp
      exact ⟨σ', H', J'.ofTry ok, q⟩
end
/-! ### isinstance of the caught NoPull -/
/-- what isinstance asks of the class at C -/
structure NoIs (K : PySem.W.Frag) (C : Addr) : Prop where
  cl : (PySem.W.clsIn K C).isSome = true
  hg : PySem.W.findIn K (.ref C) "__getattribute__" = some (some (.builtin "BaseException.__getattribute__"))
  hk : PySem.W.findIn K (.ref C) "__getattr__" = some none
  hs : PySem.W.subIn K (.ref C) (.type "BaseException") = some true
  ha : PySem.W.findIn K (.ref C) "__class__" = some (some (.builtin "object.__class__"))
  hn : PySem.W.specialIn K (.builtin "object.__class__") "__get__" = some (some (.builtin "getset_descriptor.__get__"))
  ht : PySem.W.takesIn K (.builtin "object.__class__") = some true
  hm : PySem.W.mroIn K C (.type "object") = some true
def rIsNp (K : PySem.W.Frag) (C a : Addr) (cls : Value) (d : Option Addr) : List V → Hp → VK → Prop := fun xs H Q => ∃ (c : Addr) (b : Bool) (dd : Addr) (v : V), xs = [.ref a, .ref c] ∧ cls = .ref C ∧ d = some dd ∧ H dd = some (.xd [(("bar" : Str), v)]) ∧ PySem.W.kitOne K (.ref C) (.ref c) = some b ∧ Q (.bl b) H
theorem call_isNp {X : Cx} {a C : Addr} {oe : Obj} {cls : Value} {d : Option Addr} {pn : List (Addr × Obj)} (N : NoIs X.K C) (hz : Zc cls d oe) (hf : ∃ vs, oe.data = .fields vs) : CallR (X.suite a ((a, oe) :: pn)) (.builtin "isinstance") (rIsNp X.K C a cls d) := by
  intro pins s σ H xs us Q I r h
  obtain ⟨c, b, dd, v, rfl, rfl, rfl, hx, e, q⟩ := h
  cases r with
  | cons rx rr =>
    cases rr with
    | cons rt rr =>
      cases rr
      cases rx
      cases rt
      obtain ⟨hget, _⟩ := I.pin (a, oe) (List.mem_append.mpr (.inl List.mem_cons_self))
      obtain ⟨vs, hv⟩ := hf
      have hx : ObjOk X.prog X.w H s.heap dd (.xd [(("bar" : Str), v)]) := I.hok dd _ hx
      obtain ⟨mA, hns, hr⟩ := hx
      obtain ⟨od, ho, hl⟩ := lookIn_ns hns
      have J : PySem.W.InstAt s.heap a oe C (some od) := ⟨hget, hz.1, by unfold PySem.W.notCls; rw [hv] <;> rfl, by rw [hz.2]; exact ho⟩
      exact PySem.W.kia_one (PySem.W.kitx_exc N.cl N.hg N.hk N.hs N.ha N.hn N.ht N.hm) I.kIn J e (fun z => nomatch z) fun tk => ⟨.bl b, H, I.kept (t' := tk) fun _ _ z => z, rfl, q⟩
/-! ### what they give -/
theorem rpl_rev {U : Hp} : ∀ {ds : List PyData} {vs : List V}, RpL U vs ds → RpL U vs.reverse ds.reverse
  | [], vs, h => by
    rw [h.nil_of]
    exact rpl_nil
  | d :: ds, vs, h => by
    obtain ⟨v, ws, rfl, h1, h2⟩ := h.cons_of
    rw [List.reverse_cons, List.reverse_cons]
    exact (rpl_rev h2).append (rpl_cons h1 rpl_nil)
section
variable {H0 : Hp} {O : List Addr} {Γ : Ctx} {Ω : List Ob} {te tb : TE} {ta : TA} {tt : TT} {d : PyData} {ds : List PyData} {P : PyData → Prop} {α : Type} {arg : α → List PyData} {pre : α → Prop} {post bad : α → PyData → Prop}
theorem ae_callXR {C : Addr} {E : L2.St → XK} {B : PyData → Prop} (x : α) (h : AA H0 O ta Γ Ω ds) (hd : ds.reverse = arg x) (hp : pre x) (hE : ∀ σ, σ.length = Γ.length → OutE H0 O C B (E σ)) (hb : ∀ b, bad x b → B b) : AEp H0 O (tCallR (SpX C arg pre post bad) E ta) Γ Ω (post x) := fun A σ H hA f s Q q =>
  h A σ H hA f s _ fun vs H' e s r =>
    ⟨O ++ A, x, tk_all s, hd ▸ rpl_rev r, hp, fun v H2 d e2 r2 p2 => q v H2 d (e.trans (fr_of e2)) (s.same e2) r2 p2, fun a v H2 b e2 n hx r2 p2 =>
      hE σ s.sl.len a v H2 b (fr_nil (fr0 hA (fr0 hA f e) (fr_of e2))) (none0 (fr0 hA f e) n) hx (r2.ex (off_less fun b z => List.mem_append_left _ z)) (hb b p2)⟩
theorem dep_callR {E : L2.St → XK} (x : α) (h : DA ta Γ Ω ds) (hd : ds.reverse = arg x) (hp : pre x) : DEp (tCallR (SpG arg pre post) E ta) Γ Ω (post x) := fun O A σ H s Q q =>
  h O A σ H s _ fun vs H' e s r => ⟨O ++ A, x, tk_all s, hd ▸ rpl_rev r, hp, fun v H2 d e2 r2 p2 => q v H2 d (e.trans (fr_of e2)) (s.same e2) r2 p2⟩
theorem ae_if {b : Bool} (h : DT tt Γ Ω b) (h1 : b = true → AEp H0 O te Γ Ω P) (h2 : b = false → AEp H0 O tb Γ Ω P) : AEp H0 O (tIf tt te tb) Γ Ω P := fun A σ H hA f s Q q => h O A σ H s _ fun H1 e1 s1 => by
  cases b with
  | true => exact h1 rfl A σ H1 hA (fr0 hA f e1) s1 Q fun v H' d e s r p => q v H' d (e1.trans e) s r p
  | false => exact h2 rfl A σ H1 hA (fr0 hA f e1) s1 Q fun v H' d e s r p => q v H' d (e1.trans e) s r p
end
end EW
/-! told -/
namespace EW
open PySem PyProof.Rows L2
abbrev s_law_told : Stmt := topS 61
abbrev N_law_told : List Str := ["_law_door", "_law_web_here", "_law_bounds", "_law_arrow", "_law_named", "_law_found", "e"]
theorem sc_law_told : FnScope N_law_told ["_law_door", "_law_web_here", "_law_bounds", "_law_arrow", "_law_named"] (defScope s_law_told) := ⟨rfl, rfl, rfl, by decide +kernel, rfl, by decide +kernel, by decide +kernel⟩
abbrev TArg := Nat × Nat × List Arr × List Bnd × Nat × Bool
noncomputable def toldR (d n : Nat) (as : List Arr) (bs : List Bnd) (k : Nat) : PyData := match hob n as bs with
  | .inr l => .list [.str "bar", intsT l]
  | .inl hs => if d = 0 then intsT (as.map fun a => hs.getD a.2 0 - hs.getD a.1 0) else match as[k]? with
    | some a => .tuple [.int (-((tab n (stepsOf as bs) a.2 a.1).getD 0)), .int ((tab n (stepsOf as bs) a.1 a.2).getD 0)]
    | none => .none
theorem toldR_r {d n k : Nat} {as : List Arr} {bs : List Bnd} {l : List Int} (h : hob n as bs = .inr l) : toldR d n as bs k = .list [.str "bar", intsT l] := by
  unfold toldR
  rw [h]
theorem toldR_0 {n k : Nat} {as : List Arr} {bs : List Bnd} {r : PyData} (h : PwPost (n, as, bs) r) : r = toldR 0 n as bs k := by
  obtain ⟨hs, h1, h2⟩ := h
  dsimp only at h1 h2
  unfold toldR
  rw [h1, h2]
  rfl
theorem toldR_1 {d n k : Nat} {as : List Arr} {bs : List Bnd} {r : PyData} (hd : d ≠ 0) (h : DbPost (n, as, bs, k) r) : r = toldR d n as bs k := by
  obtain ⟨⟨hs, h1⟩, a, h2, h3⟩ := h
  dsimp only at h1 h2 h3
  unfold toldR
  rw [h1, h3]
  show _ = if d = 0 then _ else _
  rw [if_neg hd, h2]
section
variable {P : Program} {w : World} {K : PySem.W.Frag} {mg : Str → Option Value} {base : Heap} {C fI CB : Addr}
abbrev spPw (C : Addr) : Sp := SpX C (fun x : Nat × List Arr × List Bnd => [webD x.1 x.2.1, bndD x.2.2]) (fun x => WB x.1 x.2.1 x.2.2) PwPost NoP
abbrev spDb (C : Addr) : Sp := SpX C (fun x : Nat × List Arr × List Bnd × Nat => [webD x.1 x.2.1, bndD x.2.2.1, .int x.2.2.2]) (fun x => WB x.1 x.2.1 x.2.2.1 ∧ x.2.2.2 < x.2.1.length) DbPost fun x => NoP (x.1, x.2.1, x.2.2.1)
def t_body (C : Addr) : WX → TS := fun W => tIfS (tTest (tOp rEq (tVar 0) (tC (.int 0))))
  (tAsg (tIf (tB (tVar 4)) (tCallR (spPw C) (WE W) (tCons (tVar 2) (tCons (tVar 1) tNil))) (tCallS (spPw C) (WE W) (tCons (tVar 1) (tCons (tVar 2) tNil)))) (gName 5))
  (tAsg (tIf (tB (tVar 4)) (tCallR (spDb C) (WE W) (tCons (tVar 3) (tCons (tVar 2) (tCons (tVar 1) tNil)))) (tCallS (spDb C) (WE W) (tCons (tVar 1) (tCons (tVar 2) (tCons (tVar 3) tNil))))) (gName 5))
def t_hand (K : PySem.W.Frag) (C CB : Addr) : Addr → Value → Option Addr → TS := fun a cls d =>
  tAsg (tIf (tNot (tB (tCB (rIsNp K C a cls d) (tCons (tVar 6) (tCons (tC (.ref CB)) tNil))))) (tLst (tCons (tC (.str "bar")) (tCons (tBarOf C a cls d (tVar 6)) tNil))) (tC (.str "other"))) (gName 5)
abbrev Q_law_told (P : Program) (w : World) (K : PySem.W.Frag) (mg : Str → Option Value) (base : Heap) : Prop := Df P w K mg base CX0 6 "_law_told" s_law_told ["_law_door", "_law_web_here", "_law_bounds", "_law_arrow", "_law_named"] (SpG (fun x : TArg => [.int x.1, webD x.2.1 x.2.2.1, bndD x.2.2.2.1, .int x.2.2.2.2.1, .bool x.2.2.2.2.2]) (fun x => WB x.2.1 x.2.2.1 x.2.2.2.1 ∧ (x.1 ≠ 0 → x.2.2.2.2.1 < x.2.2.1.length)) fun x r => r = toldR x.1 x.2.1 x.2.2.1 x.2.2.2.1 x.2.2.2.2.1)
theorem df_law_told (B : Bl mg) (NT : NoTxt K mg P C fI) (NI : NoIs K C) (hIB : mg "InvalidBounds" = some (.ref CB)) (hkit : PySem.W.kitOne K (.ref C) (.ref CB) = some false) (F : Fx K mg "_law_told" s_law_told) (D_pull_within : Q_pull_within P w K mg base C) (D_difference_bounds : Q_difference_bounds P w K mg base C) : Q_law_told P w K mg base := by
  obtain ⟨f, fd, F, hm⟩ := F.ex
  refine df_mk F hm (F.binds fun _ _ _ _ _ _ us hl => match us, hl with | [_, _, _, _, _], _ => rfl) sc_law_told (fun vs H Q E h => ?_) fun cdv A outer s H vs Q E hr h => ?_
  · obtain ⟨O, y, tk, r, p, q⟩ := h
    exact r.length
  obtain ⟨O, ⟨d, n, as, bs, k, nm⟩, tk, r, ⟨W, hk⟩, q⟩ := h
  dsimp only at r q hk
  have W : WB n as bs := W
  have a := at_start (N := N_law_told) tk r
  refine ⟨_, pss_cons (ps_set (i := 5) sc_law_told.nd rfl (Or.inl rfl) pe_non)
    (pss_cons (ps_try_as1 (i := 6) (tb := t_body C) (ts := t_hand K C CB) rfl rfl sc_law_told.nd rfl rfl ⟨rfl, by decide, Or.inl NT.gC⟩
      (fun W pn xe tk => pss_one (ps_if (pt_cmpR op_eq (pv 0) pe_int (nomark _))
        (pss_one (ps_set (i := 5) sc_law_told.nd rfl (Or.inl rfl) (pe_ifExp (pt_val (pv 4)) (pe_dfXK D_pull_within tk (hr.mono (by decide)) (by rfl) (pk_cons (pv 2) (pk_cons (pv 1) pk_nil)) (fun _ _ F => kb2 F fun _ _ _ _ _ _ _ _ => rfl)) (pe_dfX D_pull_within tk (hr.mono (by decide)) (by rfl) (pa_cons (pv 1) (pa_cons (pv 2) pa_nil))))))
        (pss_one (ps_set (i := 5) sc_law_told.nd rfl (Or.inl rfl) (pe_ifExp (pt_val (pv 4)) (pe_dfXK D_difference_bounds tk (hr.mono (by decide)) (by rfl) (pk_cons (pv 3) (pk_cons (pv 2) (pk_cons (pv 1) pk_nil))) (fun _ _ F => kb3 F fun _ _ _ _ _ _ _ _ _ => rfl)) (pe_dfX D_difference_bounds tk (hr.mono (by decide)) (by rfl) (pa_cons (pv 1) (pa_cons (pv 2) (pa_cons (pv 3) pa_nil)))))))))
      (fun a oe cls d pn hz hf => pss_one (ps_set (i := 5) sc_law_told.nd rfl (Or.inl rfl) (pe_ifExp (pt_not (pt_val (pe_callB (call_isNp NI hz hf) (by rfl) B.m_isinstance (by decide +kernel) (pa_cons (pv 6) (pa_cons (pe_glob (v := .ref CB) (by rfl) hIB rfl) pa_nil))))) (pe_lst (pa_cons pe_str (pa_cons (pe_barOf NT hz hf (pv 6)) pa_nil))) pe_str))))
    (pss_one (ps_ret (pv 5)))), ?_⟩
  have fin : ∀ (σ' : L2.St) (H' : Hp) (v : V), σ'[5]? = some (some v) → Same H H' → Rp (off H' O) v (toldR d n as bs k) → tRet (tVar 5) ⟨fun _ H' => Q .non H', Q, fun _ _ => False, fun _ _ => False⟩ σ' H' := fun σ' H' v h5 e r => ⟨v, h5, q v H' _ e r rfl⟩
  refine st_seq (st_set de_non a fun σ H1 a => ?_)
  refine st_seq ?_
  have hand : ∀ σ : L2.St, σ.length = 7 → OutE H O C (NoP (n, as, bs)) (WE (wAs1 K (.ref C) 6 (t_hand K C CB) ⟨tRet (tVar 5) ⟨fun _ H' => Q .non H', Q, fun _ _ => False, fun _ _ => False⟩, Q, fun _ _ => False, fun _ _ => False⟩) σ) := by
    rintro σ hl a v H' b e1 ha hx rb ⟨l, hb1, rfl⟩
    dsimp only at hb1
    refine ⟨NT.te, fun a1 ha1 => ?_⟩
    have h6 : (σ.set 6 (some (V.ref a1)))[6]? = some (some (V.ref a1)) := List.getElem?_set_self (by omega)
    refine ⟨.ref a1, h6, CB, false, a, v, rfl, rfl, rfl, hx, hkit, false, rfl, ?_⟩
    show if (!false) = true then _ else _
    rw [if_pos (show (!false) = true from rfl)]
    refine ⟨.ref a1, h6, rfl, rfl, a, v, rfl, hx, (by show 2 ≤ sizeLine; decide), fun p hp => ?_⟩
    refine fin _ _ (.ref p) ?_ (fun b o e => same_new hp b o (e1 b o e)) ?_
    · show (((σ.set 6 _).set 5 (some (V.ref p))).set 6 none)[5]? = _
      rw [List.getElem?_set_ne (by decide), List.getElem?_set_self (by rw [List.length_set]; omega)]
    · rw [toldR_r hb1]
      have np : p ∉ O := fun z => by
        obtain ⟨y, hy⟩ := tk p z
        rw [e1 p y hy] at hp
        cases hp
      refine rp_list (xs := [.str "bar", v]) (off_in upd_same np) (rpl_cons (rp_str _) (rpl_cons (rb.ex fun b o e => ?_) rpl_nil))
      obtain ⟨e, n⟩ := off_of e
      exact off_in (same_new hp b o n) e
  have nexts : ∀ {σ' : L2.St} {H' : Hp} {r : PyData} {Γ : Ctx}, Γ[5]? = some (.dat r) → r = toldR d n as bs k → At H O [] [] Γ σ' H' → tRet (tVar 5) ⟨fun _ H' => Q .non H', Q, fun _ _ => False, fun _ _ => False⟩ σ' H' := fun h5 hr a => by
    obtain ⟨A, w, hA, f⟩ := a
    obtain ⟨o, h1, v, h2, h3⟩ := w.sl.el _ _ h5
    refine fin _ _ v (by rw [h1, h2]) (fr_nil f) ?_
    rw [← hr]
    exact h3.ex (off_less fun b z => List.mem_append_left _ z)
  by_cases hd : d = 0
  · subst hd
    refine st_if (b := true) (dtT (de_eqI (i := (0 : Nat)) (j := 0) (de_var rfl) (de_int 0)) (by simp)) a (fun H2 _ a => ?_) fun H2 z => nomatch z
    refine sa_set (P := PwPost (n, as, bs)) (ae_if (dtB (b := nm) (de_var rfl)) (fun _ => ae_callXR (B := NoP (n, as, bs)) (n, as, bs) (AA.of (da_cons (de_var rfl) (da_cons (de_var rfl) da_nil))) rfl W ?_ fun _ z => z) (fun _ => ae_callX (B := NoP (n, as, bs)) (n, as, bs) (AA.of (da_cons (de_var rfl) (da_cons (de_var rfl) da_nil))) W ?_ fun _ z => z)) a fun σ H3 r p a => nexts rfl (toldR_0 p) a
    · exact hand
    · exact hand
  · refine st_if (b := false) (dtT (de_eqI (i := d) (j := 0) (de_var rfl) (de_int 0)) (by simp; omega)) a (fun H2 z => nomatch z) fun H2 _ a => ?_
    refine sa_set (P := DbPost (n, as, bs, k)) (ae_if (dtB (b := nm) (de_var rfl)) (fun _ => ae_callXR (B := NoP (n, as, bs)) (n, as, bs, k) (AA.of (da_cons (de_var rfl) (da_cons (de_var rfl) (da_cons (de_var rfl) da_nil)))) rfl ⟨W, hk hd⟩ ?_ fun _ z => z) (fun _ => ae_callX (B := NoP (n, as, bs)) (n, as, bs, k) (AA.of (da_cons (de_var rfl) (da_cons (de_var rfl) (da_cons (de_var rfl) da_nil)))) ⟨W, hk hd⟩ ?_ fun _ z => z)) a fun σ H3 r p a => nexts rfl (toldR_1 hd p) a
    · exact hand
    · exact hand
end
end EW
/-! the law's mill -/
namespace EW
open PySem PyProof.Rows L2
abbrev DZ (te : TE) (Γ : Ctx) (Ω : List Ob) (P : Int → Prop) : Prop := DEp te Γ Ω fun d => ∃ i, d = .int i ∧ P i
abbrev rIntQ : List V → Hp → VK → Prop := fun xs H Q => (∃ i, xs = [.int i] ∧ Q (.int i) H) ∨ ∃ k, xs = [.bl k] ∧ Q (.int (if k then 1 else 0)) H
abbrev rAbsQ : List V → Hp → VK → Prop := fun xs H Q => ∃ i, xs = [.int i] ∧ Q (.int (if i < 0 then -i else i)) H
section
variable {K : PySem.W.Frag} {H0 : Hp} {O A0 : List Addr} {Ω : List Ob} {Γ Γ' : Ctx} {σ : L2.St} {H : Hp} {nx : L2.St → Hp → Prop} {rt : VK} {bk ct : L2.St → Hp → Prop} {te ta tb to ti tk : TE} {tt : TT} {t u : TS} {k i j : Nat} {P : Int → Prop} {ds : List PyData} {d : PyData}
theorem dz_is {P Q : Int → Prop} (h : DZ te Γ Ω P) (k : ∀ i, P i → Q i) : DZ te Γ Ω Q := dep_mono h fun d ⟨i, e, p⟩ => ⟨i, e, k i p⟩
theorem dz {i : Int} (h : DE te Γ Ω (.int i)) : DZ te Γ Ω (· = i) := dep_int h
theorem dz_mill0 (h : Γ[j]? = some (.own k)) (hk : Ω[k]? = some .mill) : DZ (tOp (rIx K) (tVar j) (tC (.int 0))) Γ Ω (0 ≤ ·) := fun O A σ H s Q q => do_var h O A σ H s _ fun a ha => by
  obtain ⟨g, x, e, h1, h2, h3⟩ : MillAt H a := s.ob k a _ ha hk
  exact .inl ⟨a, _, 0, .int g, rfl, rfl, SqL.of e, rfl, q _ H _ (Fr.refl A H) s (rp_int g) ⟨g, rfl, h1⟩⟩
theorem dz_mill1 (h : Γ[j]? = some (.own k)) (hk : Ω[k]? = some .mill) : DZ (tOp (rIx K) (tVar j) (tC (.int 1))) Γ Ω (fun x => 0 ≤ x ∧ x < 2 ^ 61) := fun O A σ H s Q q => do_var h O A σ H s _ fun a ha => by
  obtain ⟨g, x, e, h1, h2, h3⟩ : MillAt H a := s.ob k a _ ha hk
  exact .inl ⟨a, _, 1, .int x, rfl, rfl, SqL.of e, rfl, q _ H _ (Fr.refl A H) s (rp_int x) ⟨x, rfl, h2, h3⟩⟩
theorem dz_intOf (h : DZ ta Γ Ω P) : DZ (tCB rIntQ (tCons ta tNil)) Γ Ω P := fun O A σ H s Q q => h O A σ H s _ fun v H' d e s r ⟨i, ed, p⟩ => by
  subst ed
  exact .inl ⟨i, by rw [r.int_of], q _ H' _ e s (rp_int i) ⟨i, rfl, p⟩⟩
theorem de_intOf {i : Int} (h : DE ta Γ Ω (.int i)) : DE (tCB rIntQ (tCons ta tNil)) Γ Ω (.int i) := de_of fun O A σ H s Q q => h.run s fun v H' e s r => .inl ⟨i, by rw [r.int_of], q _ H' e s (rp_int i)⟩
theorem de_absOf {i : Int} (h : DE ta Γ Ω (.int i)) : DE (tCB rAbsQ (tCons ta tNil)) Γ Ω (.int (if i < 0 then -i else i)) := de_of fun O A σ H s Q q => h.run s fun v H' e s r => ⟨i, by rw [r.int_of], q _ H' e s (rp_int _)⟩
theorem dtz_cmp {g : Int → Int → Bool} {P1 P2 : Int → Prop} (ha : DZ ta Γ Ω P1) (hb : DZ tb Γ Ω P2) : DTp (tTest (tOp (rI0 fun i j => .bl (g i j)) ta tb)) Γ Ω fun b => ∃ i j, P1 i ∧ P2 j ∧ b = g i j := fun O A σ H s Q q =>
  ha O A σ H s _ fun x H1 d e1 s1 r1 ⟨i, ed, p1⟩ => hb O A σ H1 s1 _ fun y H2 d2 e2 s2 r2 ⟨j, ed2, p2⟩ => by
    subst ed
    subst ed2
    exact ⟨i, j, r1.int_of, r2.int_of, _, rfl, q _ H2 (e1.trans e2) s2 ⟨i, j, p1, p2, rfl⟩⟩
theorem dtz_eq {P1 P2 : Int → Prop} (ha : DZ ta Γ Ω P1) (hb : DZ tb Γ Ω P2) : DTp (tTest (tOp rEq ta tb)) Γ Ω fun _ => True := fun O A σ H s Q q =>
  ha O A σ H s _ fun x H1 d e1 s1 r1 ⟨i, ed, p1⟩ => hb O A σ H1 s1 _ fun y H2 d2 e2 s2 r2 ⟨j, ed2, p2⟩ => by
    subst ed
    subst ed2
    rw [r1.int_of, r2.int_of]
    exact ⟨rfl, _, rfl, q _ H2 (e1.trans e2) s2 trivial⟩
theorem dtp_and' {a : Bool} (h1 : DT tt Γ Ω a) {u : TT} {P : Bool → Prop} (h2 : a = true → DTp u Γ Ω P) : DTp (tAnd tt u) Γ Ω (fun c => c = true → a = true) := dtp_and h1 fun e => fun O A σ H s Q q => h2 e O A σ H s Q fun b H' f w _ => q b H' f w trivial
/-- m[0] = e, m[1] = e of a mill -/
theorem st_mill0 (h : DZ te Γ Ω (0 ≤ ·)) (hj : Γ[j]? = some (.own k)) (hk : Ω[k]? = some .mill) (s : At H0 O A0 Ω Γ σ H) (q : ∀ σ' H', At H0 O A0 Ω Γ σ' H' → nx σ' H') : tAsg te (gSub (tVar j) (tC (.int 0)) rSetL) ⟨nx, rt, bk, ct⟩ σ H := by
  obtain ⟨B, w, h1, h2⟩ := s
  refine h O _ σ H w _ fun v H1 d f1 w1 r ⟨i, ed, p⟩ => do_var hj O _ σ H1 w1 _ fun a ha => ?_
  subst ed
  rw [r.int_of]
  obtain ⟨g, x, e, g1, g2, g3⟩ : MillAt H1 a := w1.ob k a _ ha hk
  have w3 := w1.mut ha (o := .mill) (u := .lst [.int i, .int x]) ⟨i, x, upd_same, p, g2, g3⟩
  have hlt : k < Ω.length := (List.getElem?_eq_some_iff.mp hk).1
  rw [show Ω.set k .mill = Ω from List.ext_getElem? fun n => by
    by_cases e : k = n
    · subst e; rw [List.getElem?_set_self hlt, hk]
    · rw [List.getElem?_set_ne e]] at w3
  exact ⟨a, _, 0, 0, rfl, rfl, e, rfl, q _ _ ⟨B, w3, h1, At.fr h1 h2 (f1.trans (fr_upd (List.mem_of_getElem? ha)))⟩⟩
theorem st_mill1 (h : DZ te Γ Ω (fun x => 0 ≤ x ∧ x < 2 ^ 61)) (hj : Γ[j]? = some (.own k)) (hk : Ω[k]? = some .mill) (s : At H0 O A0 Ω Γ σ H) (q : ∀ σ' H', At H0 O A0 Ω Γ σ' H' → nx σ' H') : tAsg te (gSub (tVar j) (tC (.int 1)) rSetL) ⟨nx, rt, bk, ct⟩ σ H := by
  obtain ⟨B, w, h1, h2⟩ := s
  refine h O _ σ H w _ fun v H1 d f1 w1 r ⟨i, ed, p⟩ => do_var hj O _ σ H1 w1 _ fun a ha => ?_
  subst ed
  rw [r.int_of]
  obtain ⟨g, x, e, g1, g2, g3⟩ : MillAt H1 a := w1.ob k a _ ha hk
  have w3 := w1.mut ha (o := .mill) (u := .lst [.int g, .int i]) ⟨g, i, upd_same, g1, p.1, p.2⟩
  have hlt : k < Ω.length := (List.getElem?_eq_some_iff.mp hk).1
  rw [show Ω.set k .mill = Ω from List.ext_getElem? fun n => by
    by_cases e : k = n
    · subst e; rw [List.getElem?_set_self hlt, hk]
    · rw [List.getElem?_set_ne e]] at w3
  exact ⟨a, _, 1, 1, rfl, rfl, e, rfl, q _ _ ⟨B, w3, h1, At.fr h1 h2 (f1.trans (fr_upd (List.mem_of_getElem? ha)))⟩⟩
/-- one road behind both branches -/
theorem st_ifJ {α : Type} {b : Bool} (I : α → Prop) (Γs : α → Ctx) (Ωs : α → List Ob) (h : DT tt Γ Ω b) (s : At H0 O A0 Ω Γ σ H)
    (h1 : ∀ H', b = true → At H0 O A0 Ω Γ σ H' → ∀ nx' : L2.St → Hp → Prop, (∀ σ H x, I x → At H0 O A0 (Ωs x) (Γs x) σ H → nx' σ H) → t ⟨nx', rt, bk, ct⟩ σ H')
    (h2 : ∀ H', b = false → At H0 O A0 Ω Γ σ H' → ∀ nx' : L2.St → Hp → Prop, (∀ σ H x, I x → At H0 O A0 (Ωs x) (Γs x) σ H → nx' σ H) → u ⟨nx', rt, bk, ct⟩ σ H')
    (q : ∀ σ H x, I x → At H0 O A0 (Ωs x) (Γs x) σ H → nx σ H) : tIfS tt t u ⟨nx, rt, bk, ct⟩ σ H := st_if h s (fun H' e a => h1 H' e a nx q) fun H' e a => h2 H' e a nx q
theorem st_ifJp {α : Type} {P : Bool → Prop} (I : α → Prop) (Γs : α → Ctx) (Ωs : α → List Ob) (h : DTp tt Γ Ω P) (s : At H0 O A0 Ω Γ σ H)
    (h1 : ∀ H', P true → At H0 O A0 Ω Γ σ H' → ∀ nx' : L2.St → Hp → Prop, (∀ σ H x, I x → At H0 O A0 (Ωs x) (Γs x) σ H → nx' σ H) → t ⟨nx', rt, bk, ct⟩ σ H')
    (h2 : ∀ H', P false → At H0 O A0 Ω Γ σ H' → ∀ nx' : L2.St → Hp → Prop, (∀ σ H x, I x → At H0 O A0 (Ωs x) (Γs x) σ H → nx' σ H) → u ⟨nx', rt, bk, ct⟩ σ H')
    (q : ∀ σ H x, I x → At H0 O A0 (Ωs x) (Γs x) σ H → nx σ H) : tIfS tt t u ⟨nx, rt, bk, ct⟩ σ H := st_ifp h s (fun H' e a => h1 H' e a nx q) fun H' e a => h2 H' e a nx q
/-- x.insert(i, v) -/
theorem st_insert {tv : TE} (ho : DOwn to Γ Ω k) (h : DZ te Γ Ω P) (hP : ∀ i, P i → 0 ≤ i ∧ i ≤ 1000) (hv : DE tv Γ Ω d) (hk : Ω[k]? = some (.lst ds)) (hl : ds.length ≤ 90000) (s : At H0 O A0 Ω Γ σ H)
    (q : ∀ σ' H' n, At H0 O A0 (Ω.set k (.lst (ds.take n ++ [d] ++ ds.drop n))) Γ σ' H' → nx σ' H') : tDrop (tBM K "list" (fun x vs H Q => ∃ (l : Addr) (xs : List V) (i : Int) (y : V), x = .ref l ∧ vs = [.int i, y] ∧ H l = some (.lst xs) ∧ xs.length < sizeLine ∧ 0 ≤ i ∧ i < 2 ^ 63 ∧ Q .non (upd H l (.lst (xs.take i.toNat ++ [y] ++ xs.drop i.toNat)))) to (tCons te (tCons tv tNil))) ⟨nx, rt, bk, ct⟩ σ H := by
  obtain ⟨B, w, h1, h2⟩ := s
  refine ho O _ σ H w _ fun a ha => ?_
  obtain ⟨xs, hx, rx⟩ := w.lst ha hk
  refine ⟨tyL hx, h O _ σ H w _ fun v H1 d1 f1 w1 r1 ⟨i, ed, p⟩ => hv.run w1 fun y H2 f2 w2 r2 => ?_⟩
  subst ed
  obtain ⟨ys, hy, ry⟩ := w2.lst ha hk
  have := hP i p
  exact ⟨a, ys, i, y, rfl, by rw [r1.int_of], hy, by rw [ry.length]; exact sl100 (by omega), this.1, by omega, q _ _ i.toNat ⟨B, w2.mut ha ⟨_, upd_same, RpL.append (RpL.append (RpL.take ry _) (rpl_cons r2 rpl_nil)) (RpL.drop ry _)⟩, h1, At.fr h1 h2 ((f1.trans f2).trans (fr_upd (List.mem_of_getElem? ha)))⟩⟩
end
def natsT (l : List Nat) : PyData := .tuple (natsL l)
theorem pairs_of {es : List PyData} {p : Arr → Prop} (h : ∀ e ∈ es, ∃ a, e = pairN a ∧ p a) : ∃ as : List Arr, es = as.map pairN ∧ ∀ a ∈ as, p a := by
  induction es with
  | nil => exact ⟨[], rfl, fun a z => nomatch z⟩
  | cons e es ih =>
    obtain ⟨as, h1, h2⟩ := ih fun x hx => h x (List.mem_cons_of_mem _ hx)
    obtain ⟨a, ha, hp⟩ := h e List.mem_cons_self
    refine ⟨a :: as, by rw [ha, h1]; rfl, fun b hb => ?_⟩
    rcases List.mem_cons.mp hb with rfl | hb
    · exact hp
    · exact h2 b hb
theorem ints_of_all {es : List PyData} {p : Int → Prop} (h : ∀ e ∈ es, ∃ i, e = .int i ∧ p i) : ∃ hs : List Int, es = hs.map .int ∧ ∀ i ∈ hs, p i := by
  induction es with
  | nil => exact ⟨[], rfl, fun a z => nomatch z⟩
  | cons e es ih =>
    obtain ⟨as, h1, h2⟩ := ih fun x hx => h x (List.mem_cons_of_mem _ hx)
    obtain ⟨a, ha, hp⟩ := h e List.mem_cons_self
    refine ⟨a :: as, by rw [ha, h1]; rfl, fun b hb => ?_⟩
    rcases List.mem_cons.mp hb with rfl | hb
    · exact hp
    · exact h2 b hb
section
variable {P : Program} {w : World} {K : PySem.W.Frag} {mg : Str → Option Value} {base : Heap}
abbrev s_law_grind : Stmt := topS 42
abbrev N_law_grind : List Str := ["_law_mill_here", "_law_many", "_law_found"]
theorem sc_law_grind : FnScope N_law_grind ["_law_mill_here", "_law_many"] (defScope s_law_grind) := ⟨rfl, rfl, rfl, by decide +kernel, rfl, by decide +kernel, by decide +kernel⟩
abbrev Q_law_grind (P : Program) (w : World) (K : PySem.W.Frag) (mg : Str → Option Value) (base : Heap) : Prop := Df P w K mg base CX0 1 "_law_grind" s_law_grind ["_law_mill_here", "_law_many"] (SpN (fun m : Nat => [.int m]) (fun m => 0 < m ∧ m ≤ 1000) fun m r => ∃ i : Int, r = .int i ∧ 0 ≤ i ∧ i < m)
theorem small_log {m : Nat} (h0 : 0 < m) (h : m ≤ 100000) : (m : Int).natAbs.log2 < 9000 := by
  rw [Int.natAbs_natCast]
  exact (Nat.log2_lt (by omega)).mpr (Nat.lt_of_lt_of_le (show m < 2 ^ 17 by omega) (Nat.pow_le_pow_right (by decide) (by decide)))
theorem two61 {Γ : Ctx} {Ω : List Ob} : DE (tOp (rI0 fun i j => .int (i - j)) (tOp (rI CPow fun i j => .int (i ^ j.toNat)) (tC (.int 2)) (tC (.int 61))) (tC (.int 1))) Γ Ω (.int (2 ^ 61 - 1)) :=
  de_I0 (de_I (de_int 2) (de_int 61) ⟨by decide, by decide, by decide⟩) (de_int 1)
theorem df_law_grind (B : Bl mg) (F : Fx K mg "_law_grind" s_law_grind) : Q_law_grind P w K mg base := by
  refine df_ofM F sc_law_grind (fun _ _ F => F.binds fun _ _ _ _ _ _ us hl => match us, hl with | [_, _], _ => rfl) (fun _ => rfl) (by decide) fun f cdv A outer s H Q E O am m σ hr hm a q => ?_
  obtain ⟨hm, hm2⟩ : 0 < m ∧ m ≤ 1000 := hm
  refine ⟨_, (pss_cons (ps_if (pt_cmpR op_gt (pe_ix (ixK K) (pv 0) pe_int (fun _ _ => rfl)) pe_int (nomark _))
          (pss_cons (ps_set (i := 2) sc_law_grind.nd rfl (Or.inl rfl) (pe_op op_mod (pe_callTy call_int1 (by rfl) B.m_int (by decide +kernel) (pa_cons (pe_ix (ixK K) (pv 0) pe_int (fun _ _ => rfl)) pa_nil)) (pv 1)))
          (pss_cons (ps_asg (pe_op op_fdivW (pe_ix (ixK K) (pv 0) pe_int (fun _ _ => rfl)) (pv 1)) (pg_sub (pv 0) pe_int set_list))
          (pss_one (ps_ret (pv 2)))))
          pss_nil)
        (pss_cons (ps_asg (pe_op op_mod (pe_callTy call_int1 (by rfl) B.m_int (by decide +kernel) (pa_cons (pe_op op_add (pe_op op_mulB (pe_ix (ixK K) (pv 0) pe_int (fun _ _ => rfl)) pe_int) pe_int) pa_nil)) (pe_op op_sub (pe_op op_pow pe_int pe_int) pe_int)) (pg_sub (pv 0) pe_int set_list))
        (pss_one (ps_ret (pe_op op_mod (pe_callTy call_int1 (by rfl) B.m_int (by decide +kernel) (pa_cons (pe_op op_fdivW (pe_ix (ixK K) (pv 0) pe_int (fun _ _ => rfl)) pe_int) pa_nil)) (pv 1)))))), ?_⟩
  refine st_seq (st_ifp (dtz_cmp (dz_mill0 rfl rfl) (dz (de_int 0))) a (fun H _ a => ?_) fun H _ a => st_next ?_)
  · refine st_seq (st_setp (dep_I (g := fun i j => i % j) (C := fun _ j => 0 < j) (P := fun i => 0 ≤ i ∧ i < m) (dz_intOf (dz_mill0 rfl rfl)) (dz (de_var rfl)) (fun i j _ e => by subst e; omega) fun i j _ e => by subst e; exact ⟨Int.emod_nonneg _ (by omega), Int.emod_lt_of_pos _ (by omega)⟩) a fun σ H d ⟨i, ed, hi⟩ a => ?_)
    subst ed
    refine st_seq (st_mill0 (dep_I (g := fun i j => i / j) (P := fun i => 0 ≤ i) (dz_mill0 rfl rfl) (dz (de_var (d := .int (m : Int)) rfl)) (fun i j _ e => by subst e; exact ⟨by omega, small_log hm (by omega)⟩) fun i j hi e => Int.ediv_nonneg hi (by rw [e]; omega)) rfl rfl a fun σ H a => ?_)
    exact st_ret (de_var rfl) a fun v H' a' r => q _ _ _ _ _ _ a' r ⟨i, rfl, hi⟩
  · refine st_seq (st_mill1 (dep_I (g := fun i j => i % j) (C := fun _ j => 0 < j) (P := fun i => 0 ≤ i ∧ i < 2 ^ 61) (P1 := fun _ => True) (dz_intOf (dep_I0 (g := fun i j => i + j) (P := fun _ => True) (P1 := fun _ => True) (P2 := fun _ => True) (dep_I (g := fun i j => i * j) (P := fun _ => True) (dz_mill1 rfl rfl) (dz (de_int 6364136223846793005)) (fun i j _ e => .inr (.inl (by rw [e]; decide))) fun _ _ _ _ => trivial) (dz_is (dz (de_int 1442695040888963407)) fun _ _ => trivial) fun _ _ _ _ => trivial)) (dz two61) (fun i j _ e => by subst e; decide) fun i j _ e => by subst e; exact ⟨Int.emod_nonneg _ (by decide), Int.lt_trans (Int.emod_lt_of_pos i (show (0 : Int) < 2 ^ 61 - 1 by decide)) (by decide)⟩) rfl rfl a fun σ H a => ?_)
    exact st_retp (dep_I (g := fun i j => i % j) (C := fun _ j => 0 < j) (P := fun i => 0 ≤ i ∧ i < m) (dz_intOf (dep_I (g := fun i j => i / j) (P := fun _ => True) (dz_mill1 rfl rfl) (dz (de_int 32749)) (fun i j _ e => by subst e; exact ⟨by decide, small_log (m := 32749) (by decide) (by decide)⟩) fun _ _ _ _ => trivial)) (dz (de_var rfl)) (fun i j _ e => by subst e; omega) fun i j _ e => by subst e; exact ⟨Int.emod_nonneg _ (by omega), Int.emod_lt_of_pos _ (by omega)⟩) a fun v H' d ⟨i, ed, hi⟩ a' r => q _ _ _ _ _ _ a' r ⟨i, ed, hi⟩
/-- a number below m from the mill at slot j, own 0 -/
theorem dz_grind {Γ : Ctx} {Ω : List Ob} {ta : TE} {E : XK} {j k : Nat} (m : Nat) (h : Γ[j]? = some (.own k)) (hk : Ω[k]? = some .mill) (ha : DE ta Γ Ω (.int m)) (hm : 0 < m ∧ m ≤ 1000) : DZ (tCall (SpN (fun m : Nat => [.int m]) (fun m => 0 < m ∧ m ≤ 1000) fun m r => ∃ i : Int, r = .int i ∧ 0 ≤ i ∧ i < m) [] E (tCons (tVar j) (tCons ta tNil))) Γ Ω fun i => 0 ≤ i ∧ i < m :=
  dep_callN m (do_var h) hk (da_cons ha da_nil) hm
abbrev s_law_row : Stmt := topS 43
abbrev N_law_row : List Str := ["_law_mill_here", "_law_many", "_law_found", "_law_x"]
theorem sc_law_row : FnScope N_law_row ["_law_mill_here", "_law_many"] (defScope s_law_row) := ⟨rfl, rfl, rfl, by decide +kernel, rfl, by decide +kernel, by decide +kernel⟩
abbrev Q_law_row (P : Program) (w : World) (K : PySem.W.Frag) (mg : Str → Option Value) (base : Heap) : Prop := Df P w K mg base CX0 2 "_law_row" s_law_row ["_law_mill_here", "_law_many"] (SpN (fun m : Nat => [.int m]) (fun m => m ≤ 100) fun m r => ∃ l : List Nat, r = natsT l ∧ l.length = m ∧ ∀ v ∈ l, v < m)
theorem df_law_row (B : Bl mg) (F : Fx K mg "_law_row" s_law_row) (D_law_grind : Q_law_grind P w K mg base) : Q_law_row P w K mg base := by
  refine df_ofM F sc_law_row (fun _ _ F => F.binds fun _ _ _ _ _ _ us hl => match us, hl with | [_, _], _ => rfl) (fun _ => rfl) (by decide) fun f cdv A outer s H Q E O am m σ hr hm a q => ?_
  have hm : m ≤ 100 := hm
  refine ⟨_, (pss_cons (ps_set (i := 2) sc_law_row.nd rfl (Or.inl rfl) (pe_lst pa_nil))
        (pss_cons (ps_for PassesOwn.never rfl (pi_range1 (by rfl) B.m_range (pa_cons (pv 1) pa_nil)) (pg_name (i := 3) sc_law_row.nd rfl (Or.inl rfl))
          (pss_one (ps_expr (bmK K PySem.F.plainAttrs_list PySem.F.slot_list_insert PySem.F.type_list_insert mt_insert (pv 2) (pa_cons (pe_df D_law_grind (hr.mono (by decide)) (by rfl) (pa_cons (pv 0) (pa_cons (pe_op op_add (pv 3) pe_int) pa_nil))) (pa_cons (pv 3) pa_nil))))))
        (pss_one (ps_ret (pe_callTy (tupK K) (by rfl) B.m_tuple (by decide +kernel) (pa_cons (pv 2) pa_nil)))))), ?_⟩
  refine st_seq (st_setN (dn_lst da_nil) a fun σ H a => ?_)
  refine st_seq (st_for (α := List Nat) (di_range (de_var rfl) (by omega)) a fun ds e => ?_)
  subst e
  refine ⟨fun i l => l.length = i ∧ ∀ v ∈ l, v < i, fun _ _ => [.own 0, .dat (.int m), .own 1, .no], fun _ l => [.mill, .lst (natsL l)], [], ⟨rfl, fun v z => nomatch z⟩, rfl, rfl, fun _ _ => rfl, fun i l d hd ⟨l1, l2⟩ => ?_, fun l ⟨l1, l2⟩ σ H a => ?_⟩
  · obtain ⟨him, rfl⟩ := upTo_at hd
    refine ⟨[3], _, dg_name, fun H1 A hA _ N σ H hN a => ?_⟩
    refine st_insert (ds := natsL l) (do_var rfl) (dz_grind (i + 1) rfl rfl (de_I0 (de_var rfl) (de_int 1)) ⟨by omega, by omega⟩) (fun j hj => by omega) (de_var rfl) rfl (by rw [natsL_len]; omega) a fun σ H k a => hN σ H (l.take k ++ [i] ++ l.drop k) ⟨?_, fun v hv => ?_⟩ ?_
    · rw [List.length_append, List.length_append, List.length_take, List.length_drop, List.length_singleton]
      omega
    · rcases List.mem_append.mp hv with hv | hv
      · rcases List.mem_append.mp hv with hv | hv
        · exact Nat.lt_succ_of_lt (l2 v (List.mem_of_mem_take hv))
        · rw [List.mem_singleton.mp hv]
          exact Nat.lt_succ_self i
      · exact Nat.lt_succ_of_lt (l2 v (List.mem_of_mem_drop hv))
    · have e : natsL (l.take k ++ [i] ++ l.drop k) = (natsL l).take k ++ [.int (i : Nat)] ++ (natsL l).drop k := by
        unfold natsL
        rw [List.map_append, List.map_append, List.map_take, List.map_drop]
        rfl
      dsimp only
      rw [e]
      exact a.no [3]
  · rw [upTo_len] at l1 l2
    exact st_ret (de_tupleOfO (do_var rfl) rfl) a fun v H' a' r => q _ _ _ _ _ _ a' r ⟨l, rfl, l1, l2⟩
end
end EW
/-! drawn webs and bounds -/
namespace EW
open PySem PyProof.Rows L2
section
variable {P : Program} {w : World} {K : PySem.W.Frag} {mg : Str → Option Value} {base : Heap}
abbrev s_law_web : Stmt := topS 44
abbrev N_law_web : List Str := ["_law_mill_here", "_law_places", "_law_arrows", "_law_many", "_law_count", "_law_way", "_law_row_here", "_law_found", "_law_k", "_law_x", "_law_y"]
theorem sc_law_web : FnScope N_law_web ["_law_mill_here", "_law_places", "_law_arrows"] (defScope s_law_web) := ⟨rfl, rfl, rfl, by decide +kernel, rfl, by decide +kernel, by decide +kernel⟩
abbrev Q_law_web (P : Program) (w : World) (K : PySem.W.Frag) (mg : Str → Option Value) (base : Heap) : Prop := Df P w K mg base CX0 3 "_law_web" s_law_web ["_law_mill_here", "_law_places", "_law_arrows"] (SpN (fun x : Nat × Nat => [.int x.1, .int x.2]) (fun x => 0 < x.1 ∧ x.1 ≤ 10 ∧ x.2 ≤ 15) fun x r => ∃ n as, r = webD n as ∧ Wb n as)
theorem df_law_web (B : Bl mg) (F : Fx K mg "_law_web" s_law_web) (D_law_grind : Q_law_grind P w K mg base) (D_law_row : Q_law_row P w K mg base) : Q_law_web P w K mg base := by
  refine df_ofM F sc_law_web (fun _ _ F => F.binds fun _ _ _ _ _ _ us hl => match us, hl with | [_, _, _], _ => rfl) (fun _ => rfl) (by decide) fun f cdv A outer s H Q E O am x σ hr hm a q => ?_
  obtain ⟨p, r⟩ := x
  obtain ⟨hp, hp2, hr15⟩ : 0 < p ∧ p ≤ 10 ∧ r ≤ 15 := hm
  dsimp only at a q
  refine ⟨_, (pss_cons (ps_set (i := 3) sc_law_web.nd rfl (Or.inl rfl) (pe_op op_add pe_int (pe_df D_law_grind (hr.mono (by decide)) (by rfl) (pa_cons (pv 0) (pa_cons (pv 1) pa_nil)))))
        (pss_cons (ps_set (i := 4) sc_law_web.nd rfl (Or.inl rfl) (pe_df D_law_grind (hr.mono (by decide)) (by rfl) (pa_cons (pv 0) (pa_cons (pe_op op_add (pv 2) pe_int) pa_nil))))
        (pss_cons (ps_set (i := 5) sc_law_web.nd rfl (Or.inl rfl) (pe_df D_law_grind (hr.mono (by decide)) (by rfl) (pa_cons (pv 0) (pa_cons pe_int pa_nil))))
        (pss_cons (ps_set (i := 6) sc_law_web.nd rfl (Or.inl rfl) (pe_df D_law_row (hr.mono (by decide)) (by rfl) (pa_cons (pv 0) (pa_cons (pv 3) pa_nil))))
        (pss_cons (ps_set (i := 7) sc_law_web.nd rfl (Or.inr rfl) (pe_lst pa_nil))
        (pss_cons (ps_for PassesOwn.never rfl (pi_range1 (by rfl) B.m_range (pa_cons (pv 4) pa_nil)) (pg_name (i := 8) sc_law_web.nd rfl (Or.inl rfl))
          (pss_cons (ps_set (i := 9) sc_law_web.nd rfl (Or.inl rfl) (pe_df D_law_grind (hr.mono (by decide)) (by rfl) (pa_cons (pv 0) (pa_cons (pv 3) pa_nil))))
          (pss_cons (ps_set (i := 10) sc_law_web.nd rfl (Or.inl rfl) (pe_df D_law_grind (hr.mono (by decide)) (by rfl) (pa_cons (pv 0) (pa_cons (pv 3) pa_nil))))
          (pss_cons (ps_if (PW.pt (pw_and (pt_cmpR op_eq (pv 5) pe_int (nomark _)) (pw_and1 (pt_cmpR op_lt (pv 8) (pv 3) (nomark _)))))
            (pss_one (ps_par (i := 9) (j := 10) (by rfl) sc_law_web.nd rfl rfl (by decide) rfl rfl (pa_cons (pv 8) (pa_cons (pe_op op_mod (pe_callTy call_int1 (by rfl) B.m_int (by decide +kernel) (pa_cons (pe_op op_add (pv 8) pe_int) pa_nil)) (pv 3)) pa_nil)) (by rfl)))
            pss_nil)
          (pss_cons (ps_if (PW.pt (pw_and (pt_cmpR op_eq (pv 5) pe_int (nomark _)) (pw_and1 (pt_chain op_lt op_lt pe_int (pv 8) (pv 3)))))
            (pss_one (ps_par (i := 9) (j := 10) (by rfl) sc_law_web.nd rfl rfl (by decide) rfl rfl (pa_cons (pe_df D_law_grind (hr.mono (by decide)) (by rfl) (pa_cons (pv 0) (pa_cons (pv 8) pa_nil))) (pa_cons (pv 8) pa_nil)) (by rfl)))
            pss_nil)
          (pss_cons (ps_if (pt_cmpR op_eq (pv 5) pe_int (nomark _))
            (pss_one (ps_par (i := 9) (j := 10) (by rfl) sc_law_web.nd rfl rfl (by decide) rfl rfl (pa_cons (pe_op op_mod (pe_op op_mod (pe_callTy call_int1 (by rfl) B.m_int (by decide +kernel) (pa_cons (pv 9) pa_nil)) pe_int) (pv 3)) (pa_cons (pe_op op_mod (pe_op op_mod (pe_callTy call_int1 (by rfl) B.m_int (by decide +kernel) (pa_cons (pv 10) pa_nil)) pe_int) (pv 3)) pa_nil)) (by rfl)))
            pss_nil)
          (pss_cons (ps_if (pt_cmpR op_eq (pe_df D_law_grind (hr.mono (by decide)) (by rfl) (pa_cons (pv 0) (pa_cons pe_int pa_nil))) pe_int (nomark _))
            (pss_one (ps_par (i := 9) (j := 10) (by rfl) sc_law_web.nd rfl rfl (by decide) rfl rfl (pa_cons (pv 10) (pa_cons (pv 9) pa_nil)) (by rfl)))
            pss_nil)
          (pss_one (ps_expr (bmK K PySem.F.plainAttrs_list PySem.F.slot_list_append PySem.F.type_list_append mt_append (pv 7) (pa_cons (pe_tup (pa_cons (pe_ix (ixK K) (pv 6) (pv 9) (fun _ _ => rfl)) (pa_cons (pe_ix (ixK K) (pv 6) (pv 10) (fun _ _ => rfl)) pa_nil))) pa_nil)))))))))))
        (pss_one (ps_ret (pe_tup (pa_cons (pv 3) (pa_cons (pe_callTy (tupK K) (by rfl) B.m_tuple (by decide +kernel) (pa_cons (pe_lc (own := [("_law_k", 8)]) rfl sc_law_web.nd (piTupK K (pe_df D_law_row (hr.mono (by decide)) (by rfl) (pa_cons (pv 0) (pa_cons (pe_callB (lenK K) (by rfl) B.m_len (by decide +kernel) (pa_cons (pv 7) pa_nil)) pa_nil)))) (blkOk_by (N := N_law_web) (sc := defScope s_law_web) (own := [("_law_k", 8)]) (by decide +kernel)) (fun _ _ _ _ _ => (pg_name (i := 8) sc_law_web.nd rfl (Or.inl rfl))) (fun _ _ _ _ _ => pts_nil) (fun _ _ _ _ _ => (pe_ix (ixK K) (pv 7) (pv 8) (fun _ _ => rfl)))) pa_nil)) pa_nil))))))))))), ?_⟩
  refine st_seq (st_setp (dep_I0 (g := fun i j => i + j) (P := fun i => 1 ≤ i ∧ i ≤ 10) (dz (de_int 1)) (dz_grind p rfl rfl (de_var rfl) ⟨hp, by omega⟩) fun i j e h => by subst e; omega) a fun σ H d ⟨mi, ed, hmi⟩ a => ?_)
  obtain ⟨m, rfl⟩ := Int.eq_ofNat_of_zero_le (by omega : 0 ≤ mi)
  subst ed
  have hm1 : 1 ≤ m := by omega
  have hm10 : m ≤ 10 := by omega
  refine st_seq (st_setp (dz_grind (r + 1) rfl rfl (de_I0 (de_var rfl) (de_int 1)) ⟨by omega, by omega⟩) a fun σ H d ⟨ci, ed, hci⟩ a => ?_)
  obtain ⟨c, rfl⟩ := Int.eq_ofNat_of_zero_le hci.1
  subst ed
  have hc15 : c ≤ 15 := by omega
  refine st_seq (st_setp (dz_grind 4 rfl rfl (de_int 4) ⟨by omega, by omega⟩) a fun σ H d ⟨way, ed, hway⟩ a => ?_)
  subst ed
  refine st_seq (st_setp (dep_callN m (do_var rfl) rfl (da_cons (de_var rfl) da_nil) (by omega)) a fun σ H d ⟨l, ed, hl1, hl2⟩ a => ?_)
  subst ed
  refine st_seq (st_setN (dn_lst da_nil) a fun σ H a => ?_)
  refine st_seq (st_for (α := List Arr) (di_range (de_var rfl) (by omega)) a fun ds e => ?_)
  subst e
  refine ⟨fun i as => as.length = i ∧ ∀ a ∈ as, a.1 < m ∧ a.2 < m, fun _ _ => [.own 0, .dat (.int p), .dat (.int r), .dat (.int m), .dat (.int c), .dat (.int way), .dat (natsT l), .own 1, .no, .no, .no], fun _ as => [.mill, .lst (as.map pairN)], [], ⟨rfl, fun v z => nomatch z⟩, rfl, rfl, fun _ _ => rfl, fun i as d hd ⟨l1, l2⟩ => ?_, fun as ⟨l1, l2⟩ σ H a => ?_⟩
  · obtain ⟨hic, rfl⟩ := upTo_at hd
    refine ⟨[8], _, dg_name, fun H1 A hA _ N σ H hN a => ?_⟩
    -- the two places, as they stand between the statements
    let Γs : Nat × Nat → Ctx := fun y => [.own 0, .dat (.int p), .dat (.int r), .dat (.int m), .dat (.int c), .dat (.int way), .dat (natsT l), .own 1, .dat (.int i), .dat (.int y.1), .dat (.int y.2)]
    let Is : Nat × Nat → Prop := fun y => y.1 < m ∧ y.2 < m
    refine st_seq (st_setp (dz_grind m rfl rfl (de_var rfl) ⟨by omega, by omega⟩) a fun σ H d ⟨xi, ed, hxi⟩ a => ?_)
    obtain ⟨x, rfl⟩ := Int.eq_ofNat_of_zero_le hxi.1
    subst ed
    refine st_seq (st_setp (dz_grind m rfl rfl (de_var rfl) ⟨by omega, by omega⟩) a fun σ H d ⟨yi, ed, hyi⟩ a => ?_)
    obtain ⟨y, rfl⟩ := Int.eq_ofNat_of_zero_le hyi.1
    subst ed
    have hx : x < m := by omega
    have hy : y < m := by omega
    clear hxi hyi
    -- way 1
    refine st_seq (st_ifJ Is Γs (fun _ => [.mill, .lst (as.map pairN)]) (dt_and (dt_test (de_eqI (de_var rfl) (de_int 1))) fun _ => dt_test (de_I0 (de_var rfl) (de_var rfl))) a (fun H hb a nx hn => ?_) (fun H hb a nx hn => st_next (hn _ _ (x, y) ⟨hx, hy⟩ a)) fun σ H xy ⟨hx, hy⟩ a => ?_)
    · rw [Bool.and_eq_true] at hb
      have him : i < m := by have := of_decide_eq_true hb.2; omega
      refine st_par (P := (· = [.int (i : Nat), .int (((i : Int) + 1) % m)])) (fun O A σ H s Q q => (da_cons (de_var rfl) (da_cons (de_I (de_intOf (de_I0 (de_var rfl) (de_int 1))) (de_var rfl) (by omega)) da_nil)) O A σ H s Q fun vs H' e s r => q vs H' _ e s r rfl) (fun ds e => ⟨_, _, e⟩) a fun σ H u v e a => ?_
      have e1 := (List.cons.inj e).1
      have e2 := (List.cons.inj (List.cons.inj e).2).1
      subst e1
      subst e2
      obtain ⟨z, hz⟩ := Int.eq_ofNat_of_zero_le (Int.emod_nonneg ((i : Int) + 1) (show (m : Int) ≠ 0 by omega))
      rw [hz] at a
      have := Int.emod_lt_of_pos ((i : Int) + 1) (show (0 : Int) < m by omega)
      exact hn _ _ (i, z) ⟨him, by show z < m; omega⟩ a
    obtain ⟨x, y⟩ := xy
    have hx : x < m := hx
    have hy : y < m := hy
    -- way 2
    refine st_seq (st_ifJ Is Γs (fun _ => [.mill, .lst (as.map pairN)]) (dt_and (dt_test (de_eqI (de_var rfl) (de_int 2))) fun _ => dt_test (de_chain (de_int 0) (de_var rfl) (de_var rfl))) a (fun H hb a nx hn => ?_) (fun H hb a nx hn => st_next (hn _ _ (x, y) ⟨hx, hy⟩ a)) fun σ H xy ⟨hx, hy⟩ a => ?_)
    · rw [Bool.and_eq_true, Bool.and_eq_true] at hb
      have h0i : 0 < i := by have := of_decide_eq_true hb.2.1; omega
      have him : i < m := by have := of_decide_eq_true hb.2.2; omega
      refine st_par (dap_cons (dz_grind i rfl rfl (de_var rfl) ⟨h0i, by omega⟩) (dap_cons (de_var (d := .int (i : Nat)) rfl) dap_nil)) (fun ds ⟨d, ds1, e, _, e2⟩ => ?_) a fun σ H u v ⟨d, ds1, e, ⟨z, ez, hz⟩, d2, ds2, e2, e3, e4⟩ a => ?_
      · obtain ⟨d2, ds2, e2, _, e4⟩ := e2
        exact ⟨d, d2, by rw [e, e2, e4]⟩
      · have q1 := (List.cons.inj e).1
        have q2 := (List.cons.inj ((List.cons.inj e).2.trans e2)).1
        rw [q1, q2, ez, e3] at a
        obtain ⟨z, rfl⟩ := Int.eq_ofNat_of_zero_le hz.1
        exact hn _ _ (z, i) ⟨by show z < m; omega, him⟩ a
    obtain ⟨x, y⟩ := xy
    have hx : x < m := hx
    have hy : y < m := hy
    -- way 3
    have m3 : ∀ z : Nat, z < m → ∃ u : Nat, (((z : Int) % 3) % (m : Int)) = (u : Int) ∧ u < m := fun z _ => by
      obtain ⟨u, hu⟩ := Int.eq_ofNat_of_zero_le (Int.emod_nonneg ((z : Int) % 3) (show (m : Int) ≠ 0 by omega))
      have := Int.emod_lt_of_pos ((z : Int) % 3) (show (0 : Int) < m by omega)
      exact ⟨u, hu, by omega⟩
    refine st_seq (st_ifJ Is Γs (fun _ => [.mill, .lst (as.map pairN)]) (dt_test (de_eqI (de_var rfl) (de_int 3))) a (fun H hb a nx hn => ?_) (fun H hb a nx hn => st_next (hn _ _ (x, y) ⟨hx, hy⟩ a)) fun σ H xy ⟨hx, hy⟩ a => ?_)
    · obtain ⟨u, hu, hu2⟩ := m3 x hx
      obtain ⟨v, hv, hv2⟩ := m3 y hy
      refine st_par (P := (· = [.int (((x : Int) % 3) % m), .int (((y : Int) % 3) % m)])) (fun O A σ H s Q q => (da_cons (de_I (de_I (de_intOf (de_var rfl)) (de_int 3) (by omega)) (de_var rfl) (by omega)) (da_cons (de_I (de_I (de_intOf (de_var rfl)) (de_int 3) (by omega)) (de_var rfl) (by omega)) da_nil)) O A σ H s Q fun vs H' e s r => q vs H' _ e s r rfl) (fun ds e => ⟨_, _, e⟩) a fun σ H u' v' e a => ?_
      have e1 := (List.cons.inj e).1
      have e2 := (List.cons.inj (List.cons.inj e).2).1
      subst e1
      subst e2
      rw [hu, hv] at a
      exact hn _ _ (u, v) ⟨hu2, hv2⟩ a
    obtain ⟨x, y⟩ := xy
    have hx : x < m := hx
    have hy : y < m := hy
    -- turned
    refine st_seq (st_ifJp Is Γs (fun _ => [.mill, .lst (as.map pairN)]) (dtz_eq (dz_grind 3 rfl rfl (de_int 3) ⟨by omega, by omega⟩) (dz (de_int 0))) a (fun H _ a nx hn => ?_) (fun H _ a nx hn => st_next (hn _ _ (x, y) ⟨hx, hy⟩ a)) fun σ H xy ⟨hx, hy⟩ a => ?_)
    · refine st_par (P := (· = [.int (y : Nat), .int (x : Nat)])) (fun O A σ H s Q q => (da_cons (de_var rfl) (da_cons (de_var rfl) da_nil)) O A σ H s Q fun vs H' e s r => q vs H' _ e s r rfl) (fun ds e => ⟨_, _, e⟩) a fun σ H u' v' e a => ?_
      have e1 := (List.cons.inj e).1
      have e2 := (List.cons.inj (List.cons.inj e).2).1
      subst e1
      subst e2
      exact hn _ _ (y, x) ⟨hy, hx⟩ a
    obtain ⟨x, y⟩ := xy
    have hx : x < m := hx
    have hy : y < m := hy
    have lx : (natsL l)[x]? = some (.int ((l.getD x 0 : Nat) : Int)) := by
      unfold natsL
      rw [List.getElem?_map, List.getD_eq_getElem?_getD, List.getElem?_eq_getElem (by omega)]
      rfl
    have ly : (natsL l)[y]? = some (.int ((l.getD y 0 : Nat) : Int)) := by
      unfold natsL
      rw [List.getElem?_map, List.getD_eq_getElem?_getD, List.getElem?_eq_getElem (by omega)]
      rfl
    have bl : ∀ z, z < m → l.getD z 0 < m := fun z hz => hl2 _ (by rw [List.getD_eq_getElem?_getD, List.getElem?_eq_getElem (by omega)]; exact List.getElem_mem _)
    refine st_append (P := (· = pairN (l.getD x 0, l.getD y 0))) (do_var rfl) (de_tup (da_cons (de_ixT (ds := natsL l) (de_var rfl) (de_var rfl) (atI_nat lx)) (da_cons (de_ixT (ds := natsL l) (de_var rfl) (de_var rfl) (atI_nat ly)) da_nil))) rfl (by rw [List.length_map]; omega) a fun σ H d ed a => hN σ H (as ++ [(l.getD x 0, l.getD y 0)]) ⟨by rw [List.length_append, l1]; rfl, fun b hb => ?_⟩ ?_
    · rcases List.mem_append.mp hb with hb | hb
      · exact l2 b hb
      · rw [List.mem_singleton.mp hb]
        exact ⟨bl x hx, bl y hy⟩
    · subst ed
      dsimp only
      rw [List.map_append]
      exact a.no [8, 9, 10]
  · rw [upTo_len] at l1
    refine st_retp (P := fun d => ∃ n as, d = webD n as ∧ Wb n as) (dep_mono (dep_tup (dap_cons (de_var (d := .int (m : Nat)) rfl) (dap_cons (dep_tupleOf (DNp.de (dnp_lcA (R := fun e => ∃ a, e = pairN a ∧ a.1 < m ∧ a.2 < m) (dip_tup (P := fun ds => ∃ l2 : List Nat, ds = natsL l2 ∧ l2.length = c ∧ ∀ v ∈ l2, v < c) (dep_mono (dep_callN c (do_var rfl) rfl (da_cons (de_is (de_lenO (do_var rfl) rfl) (by rw [List.length_map, l1])) da_nil) (by omega)) fun d ⟨l2, e, h1, h2⟩ => ⟨natsL l2, e, l2, rfl, h1, h2⟩)) fun ds ⟨l2', e, h1, h2⟩ => ?_))) dap_nil)) ?_) ?_) a fun v H' d hd a' r => q _ _ _ _ _ _ a' r hd
    · subst e
      refine ⟨by rw [natsL_len, h1]; omega, fun j d hd => ?_⟩
      obtain ⟨v, hv, rfl⟩ := nat_at hd
      have hvc := h2 v (List.mem_of_getElem? hv)
      have hav : as[v]? = some as[v] := List.getElem?_eq_getElem (by omega)
      exact ⟨_, dg_name, dep_mono (de_ixO (do_var rfl) (de_var rfl) rfl (atI_nat (by rw [List.getElem?_map, hav]; rfl))) fun d ed => ⟨as[v], ed, l2 _ (List.getElem_mem _)⟩⟩
    · rintro ds ⟨d1, ds1, rfl, rfl, d2, ds2, rfl, _, rfl⟩
      exact Nat.le_of_ble_eq_true rfl
    · rintro d ⟨ds, rfl, d1, ds1, rfl, rfl, d2, ds2, rfl, ⟨es, rfl, ds3, ⟨l3, rfl, h1, h2⟩, h3, h4⟩, rfl⟩
      obtain ⟨as', rfl, h5⟩ := pairs_of h4
      rw [List.length_map, natsL_len, h1] at h3
      exact ⟨m, as', rfl, h5, hm1, hm10, by omega⟩
abbrev s_law_small : Stmt := topS 45
abbrev N_law_small : List Str := ["_law_mill_here"]
theorem sc_law_small : FnScope N_law_small ["_law_mill_here"] (defScope s_law_small) := ⟨rfl, rfl, rfl, by decide +kernel, rfl, by decide +kernel, by decide +kernel⟩
abbrev Q_law_small (P : Program) (w : World) (K : PySem.W.Frag) (mg : Str → Option Value) (base : Heap) : Prop := Df P w K mg base CX0 4 "_law_small" s_law_small ["_law_mill_here"] (SpN (fun _ : Unit => []) (fun _ => True) fun x r => ∃ n as, r = webD n as ∧ Wb n as)
theorem df_law_small (F : Fx K mg "_law_small" s_law_small) (D_law_web : Q_law_web P w K mg base) : Q_law_small P w K mg base := by
  refine df_ofM F sc_law_small (fun _ _ F => F.binds fun _ _ _ _ _ _ us hl => match us, hl with | [_], _ => rfl) (fun _ => rfl) (by decide) fun f cdv A outer s H Q E O am x σ hr hm a q => ?_
  refine ⟨_, (pss_one (ps_ret (pe_df D_law_web (hr.mono (by decide)) (by rfl) (pa_cons (pv 0) (pa_cons pe_int (pa_cons pe_int pa_nil)))))), ?_⟩
  exact st_retp (dep_callN (4, 5) (do_var rfl) rfl (da_cons (de_int 4) (da_cons (de_int 5) da_nil)) ⟨by decide, by decide, by decide⟩) a fun v H' d hd a' r => q _ _ _ _ _ _ a' r hd
abbrev s_law_great : Stmt := topS 46
abbrev N_law_great : List Str := ["_law_mill_here"]
theorem sc_law_great : FnScope N_law_great ["_law_mill_here"] (defScope s_law_great) := ⟨rfl, rfl, rfl, by decide +kernel, rfl, by decide +kernel, by decide +kernel⟩
abbrev Q_law_great (P : Program) (w : World) (K : PySem.W.Frag) (mg : Str → Option Value) (base : Heap) : Prop := Df P w K mg base CX0 4 "_law_great" s_law_great ["_law_mill_here"] (SpN (fun _ : Unit => []) (fun _ => True) fun x r => ∃ n as, r = webD n as ∧ Wb n as)
theorem df_law_great (F : Fx K mg "_law_great" s_law_great) (D_law_web : Q_law_web P w K mg base) : Q_law_great P w K mg base := by
  refine df_ofM F sc_law_great (fun _ _ F => F.binds fun _ _ _ _ _ _ us hl => match us, hl with | [_], _ => rfl) (fun _ => rfl) (by decide) fun f cdv A outer s H Q E O am x σ hr hm a q => ?_
  refine ⟨_, (pss_one (ps_ret (pe_df D_law_web (hr.mono (by decide)) (by rfl) (pa_cons (pv 0) (pa_cons pe_int (pa_cons pe_int pa_nil)))))), ?_⟩
  exact st_retp (dep_callN (10, 15) (do_var rfl) rfl (da_cons (de_int 10) (da_cons (de_int 15) da_nil)) ⟨by decide, by decide, by decide⟩) a fun v H' d hd a' r => q _ _ _ _ _ _ a' r hd
end
end EW
/-! drawn bounds, the mill itself -/
namespace EW
open PySem PyProof.Rows L2
section
variable {P : Program} {w : World} {K : PySem.W.Frag} {mg : Str → Option Value} {base : Heap}
theorem dep_ixL {Γ : Ctx} {Ω : List Ob} {ta tb : TE} {ds : List PyData} {P : Int → Prop} (ha : DE ta Γ Ω (.list ds)) (hb : DZ tb Γ Ω P) (hP : ∀ i, P i → 0 ≤ i ∧ i < ds.length) : DEp (tOp (rIx K) ta tb) Γ Ω fun d => d ∈ ds := fun O A σ H s Q q =>
  ha.run s fun x H1 e1 s1 r1 => hb O A σ H1 s1 _ fun y H2 d2 e2 s2 r2 ⟨i, ed, p⟩ => by
    subst ed
    obtain ⟨a, xs, rfl, hx, r⟩ := (r1.ex (vw e2)).list_of
    obtain ⟨n, rfl⟩ := Int.eq_ofNat_of_zero_le (hP i p).1
    have hlt : n < ds.length := by have := (hP _ p).2; omega
    obtain ⟨v, hv, rv⟩ := atI_of r (atI_nat (List.getElem?_eq_getElem hlt))
    exact .inl ⟨a, xs, n, v, rfl, r2.int_of, SqL.of (off_of hx).2, hv, q _ H2 _ (e1.trans e2) s2 rv (List.getElem_mem hlt)⟩
abbrev s_law_pull_bounds : Stmt := topS 60
abbrev N_law_pull_bounds : List Str := ["_law_mill_here", "_law_web_here", "_law_heights_here", "_law_x", "_law_times", "_law_way", "_law_found", "_law_y", "_law_one", "_law_low", "_law_high"]
theorem sc_law_pull_bounds : FnScope N_law_pull_bounds ["_law_mill_here", "_law_web_here"] (defScope s_law_pull_bounds) := ⟨rfl, rfl, rfl, by decide +kernel, rfl, by decide +kernel, by decide +kernel⟩
abbrev Q_law_pull_bounds (P : Program) (w : World) (K : PySem.W.Frag) (mg : Str → Option Value) (base : Heap) : Prop := Df P w K mg base CX0 2 "_law_pull_bounds" s_law_pull_bounds ["_law_mill_here", "_law_web_here"] (SpN (fun x : Nat × List Arr => [webD x.1 x.2]) (fun x => Wb x.1 x.2) fun x r => ∃ bs, r = bndD bs ∧ WB x.1 x.2 bs)
theorem df_law_pull_bounds (B : Bl mg) (F : Fx K mg "_law_pull_bounds" s_law_pull_bounds) (D_law_grind : Q_law_grind P w K mg base) : Q_law_pull_bounds P w K mg base := by
  refine df_ofM F sc_law_pull_bounds (fun _ _ F => F.binds fun _ _ _ _ _ _ us hl => match us, hl with | [_, _], _ => rfl) (fun _ => rfl) (by decide) fun f cdv A outer s H Q E O am x σ hr hm a q => ?_
  obtain ⟨n, as⟩ := x
  have W : Wb n as := hm
  have hn := W.hi
  dsimp only at a q
  refine ⟨_, (pss_cons (ps_setLc (i := 2) (own := [("_law_x", 3)]) rfl sc_law_pull_bounds.nd rfl rfl (sw_true rfl rfl rfl (by decide +kernel)) (pi_range1 (by rfl) B.m_range (pa_cons (pe_ix (ixK K) (pv 1) pe_int (fun _ _ => rfl)) pa_nil)) (blkOk_by (N := N_law_pull_bounds) (sc := defScope s_law_pull_bounds) (own := [("_law_x", 3)]) (by decide +kernel)) (fun _ _ _ _ _ => (pg_name (i := 3) sc_law_pull_bounds.nd rfl (Or.inl rfl))) (fun _ _ _ _ _ => pts_nil) (fun _ _ _ _ _ => (pe_op op_sub (pe_df D_law_grind (hr.mono (by decide)) (by rfl) (pa_cons (pv 0) (pa_cons pe_int pa_nil))) pe_int)))
        (pss_cons (ps_set (i := 4) sc_law_pull_bounds.nd rfl (Or.inl rfl) (pe_ix (ixK K) (pe_lst (pa_cons pe_int (pa_cons pe_int (pa_cons pe_int (pa_cons pe_int pa_nil))))) (pe_df D_law_grind (hr.mono (by decide)) (by rfl) (pa_cons (pv 0) (pa_cons pe_int pa_nil))) (fun _ _ => rfl)))
        (pss_cons (ps_set (i := 5) sc_law_pull_bounds.nd rfl (Or.inl rfl) (pe_df D_law_grind (hr.mono (by decide)) (by rfl) (pa_cons (pv 0) (pa_cons pe_int pa_nil))))
        (pss_cons (ps_set (i := 6) sc_law_pull_bounds.nd rfl (Or.inl rfl) (pe_lst pa_nil))
        (pss_cons (ps_for PassesOwn.never rfl (piTupK K (pe_ix (ixK K) (pv 1) pe_int (fun _ _ => rfl))) (pgTupK K (n := 2) (pgs_cons (pg_name (i := 3) sc_law_pull_bounds.nd rfl (Or.inl rfl)) (pgs_cons (pg_name (i := 7) sc_law_pull_bounds.nd rfl (Or.inl rfl)) pgs_nil)))
          (pss_cons (ps_set (i := 8) sc_law_pull_bounds.nd rfl (Or.inl rfl) (pe_ifExp (pt_cmpR op_gt (pv 5) pe_int (nomark _)) (pe_op op_sub (pe_ix (ixK K) (pv 2) (pv 7) (fun _ _ => rfl)) (pe_ix (ixK K) (pv 2) (pv 3) (fun _ _ => rfl))) (pe_op op_sub (pe_df D_law_grind (hr.mono (by decide)) (by rfl) (pa_cons (pv 0) (pa_cons pe_int pa_nil))) pe_int)))
          (pss_cons (ps_if (PW.pt (pw_and (pt_cmpR op_eq (pv 5) pe_int (nomark _)) (pw_and1 (pt_cmpR op_eq (pe_df D_law_grind (hr.mono (by decide)) (by rfl) (pa_cons (pv 0) (pa_cons pe_int pa_nil))) pe_int (nomark _)))))
            (pss_one (ps_set (i := 8) sc_law_pull_bounds.nd rfl (Or.inl rfl) (pe_op op_sub (pe_op op_add (pv 8) (pe_df D_law_grind (hr.mono (by decide)) (by rfl) (pa_cons (pv 0) (pa_cons pe_int pa_nil)))) pe_int)))
            pss_nil)
          (pss_cons (ps_set (i := 9) sc_law_pull_bounds.nd rfl (Or.inl rfl) (pe_op op_mulB (pe_op op_sub (pv 8) (pe_df D_law_grind (hr.mono (by decide)) (by rfl) (pa_cons (pv 0) (pa_cons pe_int pa_nil)))) (pv 4)))
          (pss_cons (ps_set (i := 10) sc_law_pull_bounds.nd rfl (Or.inl rfl) (pe_op op_mulB (pe_op op_add (pv 8) (pe_df D_law_grind (hr.mono (by decide)) (by rfl) (pa_cons (pv 0) (pa_cons pe_int pa_nil)))) (pv 4)))
          (pss_cons (ps_if (PW.pt (pw_and (pt_cmpR op_eq (pv 4) pe_int (nomark _)) (pw_and1 (pt_cmpR op_eq (pe_df D_law_grind (hr.mono (by decide)) (by rfl) (pa_cons (pv 0) (pa_cons pe_int pa_nil))) pe_int (nomark _)))))
            (pss_one (ps_asg (pe_ix (ixK K) (pe_lst (pa_cons (pe_tup (pa_cons (pv 9) (pa_cons pe_int pa_nil))) (pa_cons (pe_tup (pa_cons (pe_un un_neg pe_int) (pa_cons (pv 10) pa_nil))) (pa_cons (pe_tup (pa_cons (pe_un un_neg pe_int) (pa_cons pe_int pa_nil))) pa_nil)))) (pe_df D_law_grind (hr.mono (by decide)) (by rfl) (pa_cons (pv 0) (pa_cons pe_int pa_nil))) (fun _ _ => rfl)) (pgTupK K (n := 2) (pgs_cons (pg_name (i := 9) sc_law_pull_bounds.nd rfl (Or.inl rfl)) (pgs_cons (pg_name (i := 10) sc_law_pull_bounds.nd rfl (Or.inl rfl)) pgs_nil)))))
            pss_nil)
          (pss_one (ps_expr (bmK K PySem.F.plainAttrs_list PySem.F.slot_list_append PySem.F.type_list_append mt_append (pv 6) (pa_cons (pe_tup (pa_cons (pv 9) (pa_cons (pv 10) pa_nil))) pa_nil))))))))))
        (pss_one (ps_ret (pe_callTy (tupK K) (by rfl) B.m_tuple (by decide +kernel) (pa_cons (pv 6) pa_nil))))))))), ?_⟩
  refine st_seq (st_setp (DNp.de (dnp_lcA (R := fun e => ∃ i : Int, e = .int i ∧ -4 ≤ i ∧ i ≤ 4) (di_range (de_web0 rfl) (by omega)) fun ds e => ⟨by subst e; rw [upTo_len]; omega, fun i d hd => ⟨_, dg_name, dep_I0 (g := fun i j => i - j) (P := fun i => -4 ≤ i ∧ i ≤ 4) (dz_grind 9 rfl rfl (de_int 9) ⟨by omega, by omega⟩) (dz (de_int 4)) fun i j h e => by subst e; omega⟩⟩)) a fun σ H d ⟨es, ed, ds, e2, h3, h4⟩ a => ?_)
  subst ed
  subst e2
  obtain ⟨hs, rfl, hhs⟩ := ints_of_all h4
  rw [List.length_map, upTo_len] at h3
  clear h4
  refine st_seq (st_setp (dep_ixL (de_lst (da_cons (de_int 1) (da_cons (de_int 1) (da_cons (de_int 10) (da_cons (de_int 90000) da_nil))))) (dz_grind 4 rfl rfl (de_int 4) ⟨by omega, by omega⟩) fun i h => ⟨h.1, by have := h.2; show i < 4; omega⟩) a fun σ H d hd a => ?_)
  obtain ⟨t, rfl, ht⟩ : ∃ t : Int, d = .int t ∧ (t = 1 ∨ t = 10 ∨ t = 90000) := by
    simp only [List.mem_cons, List.not_mem_nil, or_false] at hd
    rcases hd with rfl | rfl | rfl | rfl
    · exact ⟨_, rfl, .inl rfl⟩
    · exact ⟨_, rfl, .inl rfl⟩
    · exact ⟨_, rfl, .inr (.inl rfl)⟩
    · exact ⟨_, rfl, .inr (.inr rfl)⟩
  clear hd
  refine st_seq (st_setp (dz_grind 4 rfl rfl (de_int 4) ⟨by omega, by omega⟩) a fun σ H d ⟨way, ed, hway⟩ a => ?_)
  subst ed
  refine st_seq (st_setN (dn_lst da_nil) a fun σ H a => ?_)
  refine st_seq (st_for (α := List Bnd) (di_tup (de_web1 rfl)) a fun ds e => ?_)
  subst e
  refine ⟨fun i bs => bs.length = i ∧ ∀ b ∈ bs, b.1 ≤ b.2 ∧ -1000000 ≤ b.1 ∧ b.1 ≤ 1000000 ∧ -1000000 ≤ b.2 ∧ b.2 ≤ 1000000, fun _ _ => [.own 0, .dat (webD n as), .dat (.list (hs.map .int)), .no, .dat (.int t), .dat (.int way), .own 1, .no, .no, .no, .no], fun _ bs => [.mill, .lst (bs.map pairI)], [], ⟨rfl, fun v z => nomatch z⟩, rfl, rfl, fun _ _ => rfl, fun i bs d hd ⟨l1, l2⟩ => ?_, fun bs ⟨l1, l2⟩ σ H a => ?_⟩
  · obtain ⟨e, he, rfl⟩ := arr_at hd
    have hi := (List.getElem?_eq_some_iff.mp he).1
    have hen := W.ends e (List.mem_of_getElem? he)
    have hfew := W.few
    have g : ∀ v, v < n → (hs.map PyData.int)[v]? = some (.int (hs.getD v 0)) ∧ -4 ≤ hs.getD v 0 ∧ hs.getD v 0 ≤ 4 := fun v hv => ⟨getD_at (by omega), hhs _ (by rw [List.getD_eq_getElem?_getD, List.getElem?_eq_getElem (by omega)]; exact List.getElem_mem _)⟩
    refine ⟨[3, 7], _, dg_tup (dgs_cons dg_name (dgs_cons dg_name dgs_nil)), fun H1 A hA _ N σ H hN a => ?_⟩
    refine st_seq (st_setp (P := fun d => ∃ o : Int, d = .int o ∧ -8 ≤ o ∧ o ≤ 8) (dep_if (dt_test (de_I0 (de_var rfl) (de_int 0))) (fun _ => dep_mono (de_I0 (de_ixL (ds := hs.map .int) (de_var rfl) (de_var rfl) (atI_nat (g _ hen.2).1)) (de_ixL (ds := hs.map .int) (de_var rfl) (de_var rfl) (atI_nat (g _ hen.1).1))) fun d ed => ⟨_, ed, by have := (g _ hen.1).2; have := (g _ hen.2).2; omega⟩) fun _ => dep_I0 (g := fun i j => i - j) (P := fun o => -8 ≤ o ∧ o ≤ 8) (dz_grind 5 rfl rfl (de_int 5) ⟨by omega, by omega⟩) (dz (de_int 2)) fun i j h e => by subst e; omega) a fun σ H d ⟨o, ed, ho⟩ a => ?_)
    subst ed
    refine st_seq (st_ifJp (fun o : Int => -9 ≤ o ∧ o ≤ 9) (fun o => [.own 0, .dat (webD n as), .dat (.list (hs.map .int)), .dat (.int e.1), .dat (.int t), .dat (.int way), .own 1, .dat (.int e.2), .dat (.int o), .no, .no]) (fun _ => [.mill, .lst (bs.map pairI)]) (dtp_and (dt_test (de_eqI (de_var rfl) (de_int 1))) fun _ => dtz_eq (dz_grind 4 rfl rfl (de_int 4) ⟨by omega, by omega⟩) (dz (de_int 0))) a (fun H _ a nx hn => ?_) (fun H _ a nx hn => st_next (hn _ _ o ⟨by omega, by omega⟩ a)) fun σ H o ho a => ?_)
    · exact st_setp (dep_I0 (g := fun i j => i - j) (P := fun z => -9 ≤ z ∧ z ≤ 9) (dep_I0 (g := fun i j => i + j) (P := fun z => -8 ≤ z ∧ z ≤ 10) (dz (de_var (d := .int o) rfl)) (dz_grind 3 rfl rfl (de_int 3) ⟨by omega, by omega⟩) fun i j e h => by subst e; omega) (dz (de_int 1)) fun i j h e => by subst e; omega) a fun σ H d ⟨z, ed, hz⟩ a => by subst ed; exact hn _ _ z hz a
    refine st_seq (st_setp (dep_I (g := fun i j => i * j) (P := fun z => ∃ r, 0 ≤ r ∧ r ≤ 2 ∧ z = (o - r) * t) (dep_I0 (g := fun i j => i - j) (P := fun z => ∃ r, 0 ≤ r ∧ r ≤ 2 ∧ z = o - r) (dz (de_var (d := .int o) rfl)) (dz_grind 3 rfl rfl (de_int 3) ⟨by omega, by omega⟩) fun i j e h => ⟨j, h.1, by omega, by rw [e]⟩) (dz (de_var (d := .int t) rfl)) (fun i j ⟨r, h1, h2, h3⟩ _ => .inl ⟨by omega, by omega⟩) fun i j ⟨r, h1, h2, h3⟩ e => ⟨r, h1, h2, by rw [h3, e]⟩) a fun σ H d ⟨lo, ed, r1, hr1, hr2, hlo⟩ a => ?_)
    subst ed
    refine st_seq (st_setp (dep_I (g := fun i j => i * j) (P := fun z => ∃ r, 0 ≤ r ∧ r ≤ 2 ∧ z = (o + r) * t) (dep_I0 (g := fun i j => i + j) (P := fun z => ∃ r, 0 ≤ r ∧ r ≤ 2 ∧ z = o + r) (dz (de_var (d := .int o) rfl)) (dz_grind 3 rfl rfl (de_int 3) ⟨by omega, by omega⟩) fun i j e h => ⟨j, h.1, by omega, by rw [e]⟩) (dz (de_var (d := .int t) rfl)) (fun i j ⟨r, h1, h2, h3⟩ _ => .inl ⟨by omega, by omega⟩) fun i j ⟨r, h1, h2, h3⟩ e => ⟨r, h1, h2, by rw [h3, e]⟩) a fun σ H d ⟨hg, ed, r3, hr3, hr4, hhi⟩ a => ?_)
    subst ed
    have hb : lo ≤ hg ∧ -1000000 ≤ lo ∧ lo ≤ 1000000 ∧ -1000000 ≤ hg ∧ hg ≤ 1000000 := by
      rcases ht with rfl | rfl | rfl <;> omega
    clear hlo hhi
    refine st_seq (st_ifJp (fun b : Bnd => b.1 ≤ b.2 ∧ -1000000 ≤ b.1 ∧ b.1 ≤ 1000000 ∧ -1000000 ≤ b.2 ∧ b.2 ≤ 1000000) (fun b => [.own 0, .dat (webD n as), .dat (.list (hs.map .int)), .dat (.int e.1), .dat (.int t), .dat (.int way), .own 1, .dat (.int e.2), .dat (.int o), .dat (.int b.1), .dat (.int b.2)]) (fun _ => [.mill, .lst (bs.map pairI)]) (dtp_and (dt_test (de_eqI (de_var rfl) (de_int 90000))) fun _ => dtz_eq (dz_grind 5 rfl rfl (de_int 5) ⟨by omega, by omega⟩) (dz (de_int 0))) a (fun H _ a nx hn => ?_) (fun H _ a nx hn => st_next (hn _ _ (lo, hg) hb a)) fun σ H b hb a => ?_)
    · refine st_asgp (vs := [9, 10]) (dep_ixL (de_lst (da_cons (de_tup (da_cons (de_var (d := .int lo) rfl) (da_cons (de_int 1000000) da_nil))) (da_cons (de_tup (da_cons (de_neg (de_int 1000000)) (da_cons (de_var (d := .int hg) rfl) da_nil))) (da_cons (de_tup (da_cons (de_neg (de_int 1000000)) (da_cons (de_int 1000000) da_nil))) da_nil)))) (dz_grind 3 rfl rfl (de_int 3) ⟨by omega, by omega⟩) fun i h => ⟨h.1, by have := h.2; show i < 3; omega⟩) (fun d hd => ?_) a
      simp only [List.mem_cons, List.not_mem_nil, or_false] at hd
      rcases hd with rfl | rfl | rfl
      · exact ⟨_, dg_tup (dgs_cons dg_name (dgs_cons dg_name dgs_nil)), fun σ H a => hn _ _ (lo, 1000000) (by dsimp only; omega) a⟩
      · exact ⟨_, dg_tup (dgs_cons dg_name (dgs_cons dg_name dgs_nil)), fun σ H a => hn _ _ (-1000000, hg) (by dsimp only; omega) a⟩
      · exact ⟨_, dg_tup (dgs_cons dg_name (dgs_cons dg_name dgs_nil)), fun σ H a => hn _ _ (-1000000, 1000000) (by dsimp only; omega) a⟩
    refine st_append (P := (· = pairI b)) (do_var rfl) (de_tup (da_cons (de_var rfl) (da_cons (de_var rfl) da_nil))) rfl (by rw [List.length_map]; omega) a fun σ H d ed a => hN σ H (bs ++ [b]) ⟨by rw [List.length_append, l1]; rfl, fun c hc => ?_⟩ ?_
    · rcases List.mem_append.mp hc with hc | hc
      · exact l2 c hc
      · rw [List.mem_singleton.mp hc]
        exact hb
    · subst ed
      dsimp only
      rw [List.map_append]
      exact a.no [3, 7, 8, 9, 10]
  · rw [List.length_map] at l1
    exact st_ret (de_tupleOfO (do_var rfl) rfl) a fun v H' a' r => q _ _ _ _ _ _ a' r ⟨bs, rfl, W, l1.symm, fun b hb => (l2 b hb).1, fun b hb => (l2 b hb).2⟩
end
end EW
/-! the law's judges: flows, pulls -/
namespace EW
open PySem PyProof.Rows L2
/-- a value that may be judged -/
structure Fine (d : PyData) : Prop where
  tame : Tame 8 d
  len : ∀ ds, d = .tuple ds → ds.length ≤ 5000
def numsB : PyData → Bool
  | .tuple ds => ds.all isWhole
  | _ => false
theorem tame_items {k : Nat} : ∀ {ds : List PyData}, PyData.canLayAll0 ds = true → PyData.depthAll ds ≤ k → ∀ d ∈ ds, Tame k d
  | [], _, _, d, h => nomatch h
  | x :: ds, h1, h2, d, h => by
    have h1 : (x.canLay0 && PyData.canLayAll0 ds) = true := h1
    have h2 : max x.depth (PyData.depthAll ds) ≤ k := h2
    rw [Bool.and_eq_true] at h1
    rcases List.mem_cons.mp h with rfl | h
    · exact ⟨h1.1, Nat.le_trans (Nat.le_max_left _ _) h2⟩
    · exact tame_items h1.2 (Nat.le_trans (Nat.le_max_right _ _) h2) d h
theorem Fine.items {ds : List PyData} (h : Fine (.tuple ds)) : ∀ d ∈ ds, Tame 7 d := tame_items h.tame.1 (Nat.le_of_succ_le_succ h.tame.2)
theorem nums_amts {m : Nat} {ds : List PyData} (hl : ds.length = m) (h : ds.all isWhole = true) : ∃ ms, amts m (.tuple ds) = some ms := by
  rw [← wholes_all] at h
  cases z : wholes ds with
  | none => rw [z] at h; cases h
  | some ms => exact ⟨ms, by unfold amts; simp only []; rw [if_pos hl, z]⟩
theorem amts_not {m : Nat} {d : PyData} (h : numsB d = false) : amts m d = none := by
  cases d with
  | tuple ds =>
    unfold amts
    simp only []
    split
    · have h : ds.all isWhole = false := h
      rw [← wholes_all] at h
      cases z : wholes ds with
      | none => rfl
      | some ms => rw [z] at h; cases h
    · rfl
  | _ => rfl
section
variable {P : Program} {w : World} {K : PySem.W.Frag} {mg : Str → Option Value} {base : Heap}
abbrev s_law_number : Stmt := topS 47
abbrev N_law_number : List Str := ["_law_value"]
theorem sc_law_number : FnScope N_law_number ["_law_value"] (defScope s_law_number) := ⟨rfl, rfl, rfl, by decide +kernel, rfl, by decide +kernel, by decide +kernel⟩
abbrev Q_law_number (P : Program) (w : World) (K : PySem.W.Frag) (mg : Str → Option Value) (base : Heap) : Prop := Df P w K mg base CX0 1 "_law_number" s_law_number ["_law_value"] (SpG (fun d : PyData => [d]) (fun _ => True) fun d r => r = .bool (isWhole d))
theorem df_law_number (B : Bl mg) (F : Fx K mg "_law_number" s_law_number) : Q_law_number P w K mg base := by
  refine df_of F sc_law_number (fun _ _ F => F.binds fun _ _ _ _ _ _ us hl => match us, hl with | [_], _ => rfl) (fun _ => rfl) fun f cdv A outer s H Q E O d σ hr _ a q => ?_
  refine ⟨_, (pss_one (ps_ret (pe_and (pe_callB (isiK K) (by rfl) B.m_isinstance (by decide +kernel) (pa_cons (pv 0) (pa_cons (pe_bltn (v := .ty "int") (by rfl) B.m_int (by decide +kernel) rfl) pa_nil))) (pe_one (pe_not (pe_callB (isiK K) (by rfl) B.m_isinstance (by decide +kernel) (pa_cons (pv 0) (pa_cons (pe_bltn (v := .ty "bool") (by rfl) B.m_bool (by decide +kernel) rfl) pa_nil)))))))), ?_⟩
  refine st_ret (de_is (de_andV (de_isInt (de_var rfl)) fun _ => de_notV (de_isBool (de_var rfl))) (d1 := .bool (isWhole d)) ?_) a fun v H' a' r => q _ _ _ _ _ _ a' r rfl
  cases d <;> rfl
abbrev s_law_numbers : Stmt := topS 48
abbrev N_law_numbers : List Str := ["_law_value", "_law_one"]
theorem sc_law_numbers : FnScope N_law_numbers ["_law_value"] (defScope s_law_numbers) := ⟨rfl, rfl, rfl, by decide +kernel, rfl, by decide +kernel, by decide +kernel⟩
abbrev Q_law_numbers (P : Program) (w : World) (K : PySem.W.Frag) (mg : Str → Option Value) (base : Heap) : Prop := Df P w K mg base CX0 2 "_law_numbers" s_law_numbers ["_law_value"] (SpG (fun d : PyData => [d]) (fun d => Fine d) fun d r => r = .bool (numsB d))
theorem df_law_numbers (B : Bl mg) (F : Fx K mg "_law_numbers" s_law_numbers) (D_law_number : Q_law_number P w K mg base) : Q_law_numbers P w K mg base := by
  refine df_of F sc_law_numbers (fun _ _ F => F.binds fun _ _ _ _ _ _ us hl => match us, hl with | [_], _ => rfl) (fun _ => rfl) fun f cdv A outer s H Q E O d σ hr W a q => ?_
  have W : Fine d := W
  refine ⟨_, (pss_one (ps_ret (pe_and (pe_callB (isiK K) (by rfl) B.m_isinstance (by decide +kernel) (pa_cons (pv 0) (pa_cons (pe_bltn (v := .ty "tuple") (by rfl) B.m_tuple (by decide +kernel) rfl) pa_nil))) (pe_one (pe_cmpR (eqDK K hr.units) (pe_lc (own := [("_law_one", 1)]) rfl sc_law_numbers.nd (piTupK K (pv 0)) (blkOk_by (N := N_law_numbers) (sc := defScope s_law_numbers) (own := [("_law_one", 1)]) (by decide +kernel)) (fun _ _ _ _ _ => (pg_name (i := 1) sc_law_numbers.nd rfl (Or.inl rfl))) (fun _ _ _ _ _ => (pts_one (pt_not (pt_val (pe_df D_law_number (hr.mono (by decide)) (by rfl) (pa_cons (pv 1) pa_nil)))))) (fun _ _ _ _ _ => (pv 1))) (pe_lst pa_nil) (nomark _)))))), ?_⟩
  refine st_ret (d := .bool (numsB d)) ?_ a fun v H' a' r => q _ _ _ _ _ _ a' r rfl
  cases z : isiB "tuple" d with
  | false =>
    refine de_is (de_andV (a := false) (b := false) (de_is (de_isTuple (de_var rfl)) (by rw [z])) fun z => nomatch z) ?_
    cases d <;> first | rfl | cases z
  | true =>
    cases d with
    | tuple ds =>
      refine de_is (de_andV (a := true) (de_is (de_isTuple (de_var rfl)) rfl) fun _ => de_eqD (dn_lc (fun d => if isWhole d = true then none else some d) (di_tup (de_var rfl)) (Nat.le_trans (W.len ds rfl) (by decide)) fun i d hd => ⟨_, dg_name, dt_is (dt_not (dtB (b := isWhole d) (de_callG d (da_cons (de_var rfl) da_nil) trivial))) ?_, fun e he => ?_⟩).de (de_lst da_nil) (Tame.shaped (k := 8) (tame_list fun d hd => ?_)) rfl) ?_
      · cases isWhole d <;> rfl
      · have he : (if isWhole d = true then none else some d) = some e := he
        split at he
        · cases he
        · cases he; exact de_var rfl
      · obtain ⟨x, hx, h⟩ := List.mem_filterMap.mp hd
        split at h
        · cases h
        · cases h; exact W.items d hx
      · rw [eqv_nilL]
        show PyData.bool (true && _) = .bool (ds.all isWhole)
        rw [Bool.true_and]
        congr 1
        refine Bool.eq_iff_iff.mpr ?_
        rw [List.isEmpty_iff, List.all_eq_true]
        constructor
        · intro h x hx
          cases z : isWhole x with
          | true => rfl
          | false =>
            have : x ∈ ds.filterMap fun d => if isWhole d = true then none else some d := List.mem_filterMap.mpr ⟨x, hx, by rw [z]; rfl⟩
            rw [h] at this
            cases this
        · intro h
          refine List.eq_nil_iff_forall_not_mem.mpr fun x hx => ?_
          obtain ⟨y, hy, e⟩ := List.mem_filterMap.mp hx
          rw [h y hy] at e
          cases e
    | _ => cases z
abbrev s_law_excess : Stmt := topS 49
abbrev N_law_excess : List Str := ["_law_web_here", "_law_amounts", "_law_found", "_law_k", "_law_x", "_law_y"]
theorem sc_law_excess : FnScope N_law_excess ["_law_web_here", "_law_amounts"] (defScope s_law_excess) := ⟨rfl, rfl, rfl, by decide +kernel, rfl, by decide +kernel, by decide +kernel⟩
abbrev Q_law_excess (P : Program) (w : World) (K : PySem.W.Frag) (mg : Str → Option Value) (base : Heap) : Prop := Df P w K mg base CX0 1 "_law_excess" s_law_excess ["_law_web_here", "_law_amounts"] (SpG (fun x : Nat × List Arr × List Int => [webD x.1 x.2.1, intsT x.2.2]) (fun x => Wb x.1 x.2.1 ∧ x.2.2.length = x.2.1.length) fun x r => r = .list (tabI x.1 fun v => exc x.2.1 x.2.2 v))
theorem df_law_excess (B : Bl mg) (F : Fx K mg "_law_excess" s_law_excess) : Q_law_excess P w K mg base := by
  refine df_of F sc_law_excess (fun _ _ F => F.binds fun _ _ _ _ _ _ us hl => match us, hl with | [_, _], _ => rfl) (fun _ => rfl) fun f cdv A outer s H Q E O x σ hr W a q => ?_
  obtain ⟨n, as, ms⟩ := x
  obtain ⟨W, hl⟩ : Wb n as ∧ ms.length = as.length := W
  dsimp only at a q
  refine ⟨_, (pss_cons (ps_set (i := 2) sc_law_excess.nd rfl (Or.inl rfl) (pe_op op_rep (pe_lst (pa_cons pe_int pa_nil)) (pe_ix (ixK K) (pv 0) pe_int (fun _ _ => rfl))))
        (pss_cons (ps_for PassesOwn.never rfl (pi_range1 (by rfl) B.m_range (pa_cons (pe_callB (lenK K) (by rfl) B.m_len (by decide +kernel) (pa_cons (pe_ix (ixK K) (pv 0) pe_int (fun _ _ => rfl)) pa_nil)) pa_nil)) (pg_name (i := 3) sc_law_excess.nd rfl (Or.inl rfl))
          (pss_cons (ps_asg (pe_ix (ixK K) (pe_ix (ixK K) (pv 0) pe_int (fun _ _ => rfl)) (pv 3) (fun _ _ => rfl)) (pgTupK K (n := 2) (pgs_cons (pg_name (i := 4) sc_law_excess.nd rfl (Or.inl rfl)) (pgs_cons (pg_name (i := 5) sc_law_excess.nd rfl (Or.inl rfl)) pgs_nil))))
          (pss_cons (ps_asg (pe_op op_add (pe_ix (ixK K) (pv 2) (pv 4) (fun _ _ => rfl)) (pe_ix (ixK K) (pv 1) (pv 3) (fun _ _ => rfl))) (pg_sub (pv 2) (pv 4) set_list))
          (pss_one (ps_asg (pe_op op_sub (pe_ix (ixK K) (pv 2) (pv 5) (fun _ _ => rfl)) (pe_ix (ixK K) (pv 1) (pv 3) (fun _ _ => rfl))) (pg_sub (pv 2) (pv 5) set_list))))))
        (pss_one (ps_ret (pv 2))))), ?_⟩
  refine st_seq (st_setN (dn_is (dn_rep (de_lst (da_cons (de_int 0) da_nil)) (de_web0 rfl) (by have := W.hi; omega)) (rep_tabI n 0)) a fun σ H a => ?_)
  refine st_seq (st_for (α := Unit) (di_range (de_webL rfl) (by have := W.few; omega)) a fun ds e => ?_)
  subst e
  refine ⟨fun _ _ => True, fun i _ => [.dat (webD n as), .dat (intsT ms), .own 0, .no, .no, .no], fun i _ => [.lst (tabI n fun v => exc (as.take i) (ms.take i) v)], (), trivial, rfl, ?_, fun _ _ => rfl, fun i _ d hd _ => ?_, fun _ _ σ H a => ?_⟩
  · show [Ob.lst _] = [Ob.lst _]
    congr 2
  · obtain ⟨hi, rfl⟩ := upTo_at hd
    obtain ⟨e, he⟩ : ∃ e, as[i]? = some e := ⟨_, List.getElem?_eq_getElem hi⟩
    obtain ⟨c, hc⟩ : ∃ c, ms[i]? = some c := ⟨_, List.getElem?_eq_getElem (by omega)⟩
    have hen := W.ends e (List.mem_of_getElem? he)
    have hed : (as.map pairN)[i]? = some (pairN e) := by rw [List.getElem?_map, he]; rfl
    have hcd : (ms.map PyData.int)[i]? = some (.int c) := by rw [List.getElem?_map, hc]; rfl
    refine ⟨[3], _, dg_name, fun H1 A _ _ N σ H hN a => ?_⟩
    refine st_seq (st_asg (vs := [4, 5]) (de_ixT (de_web1 rfl) (de_var rfl) (atI_nat hed)) (dg_tup (dgs_cons dg_name (dgs_cons dg_name dgs_nil))) a fun σ H a => ?_)
    refine st_seq (st_put (de_I0 (de_ixO (do_var rfl) (de_var rfl) rfl (atI_nat (tabI_get hen.1))) (de_ixT (ds := ms.map .int) (de_var rfl) (de_var rfl) (atI_nat hcd))) (do_var rfl) (de_var rfl) rfl (ixN_nat (by rw [tabI_len]; exact hen.1)) a fun σ H a => ?_)
    rw [tabI_set] at a
    refine st_put (de_I0 (de_ixO (do_var rfl) (de_var rfl) rfl (atI_nat (tabI_get hen.2))) (de_ixT (ds := ms.map .int) (de_var rfl) (de_var rfl) (atI_nat hcd))) (do_var rfl) (de_var rfl) rfl (ixN_nat (by rw [tabI_len]; exact hen.2)) a fun σ H a => hN σ H () trivial ?_
    rw [tabI_set] at a
    have e3 : (tabI n fun v => if v = e.2 then (if e.2 = e.1 then exc (as.take i) (ms.take i) e.1 + c else exc (as.take i) (ms.take i) e.2) - c else if v = e.1 then exc (as.take i) (ms.take i) e.1 + c else exc (as.take i) (ms.take i) v) = tabI n fun v => exc (as.take (i + 1)) (ms.take (i + 1)) v := tabI_congr fun v _ => by
      unfold exc
      rw [zsum_take _ i as ms e c he hc]
      unfold exG
      by_cases p1 : e.1 = v
      · by_cases p2 : e.2 = v
        · rw [if_pos p2.symm, if_pos (p2.trans p1.symm), if_pos p1, if_pos p2, p1]
          omega
        · rw [if_neg fun z => p2 z.symm, if_pos p1.symm, if_pos p1, if_neg p2, p1]
          omega
      · by_cases p2 : e.2 = v
        · rw [if_pos p2.symm, if_neg fun z => p1 (z.symm.trans p2), if_neg p1, if_pos p2, p2]
          omega
        · rw [if_neg fun z => p2 z.symm, if_neg fun z => p1 z.symm, if_neg p1, if_neg p2]
          omega
    rw [e3] at a
    exact a.no [3, 4, 5]
  · rw [upTo_len] at a
    change At _ _ _ [.lst (tabI n fun v => exc (as.take as.length) (ms.take as.length) v)] _ _ _ at a
    rw [List.take_length, ← hl, List.take_length] at a
    exact st_ret (de_var rfl) (a.release (Ω := []) (Nat.le_refl _)) fun v H' a' r => q _ _ _ _ _ _ a' r rfl
/-- the head of is_flow, is_pull -/
theorem dt_head {Γ : Ctx} {Ω : List Ob} {E : XK} {n : Nat} {as : List Arr} {d : PyData} {i j : Nat} (hi : Γ[i]? = some (.dat (webD n as))) (hj : Γ[j]? = some (.dat d)) (W : Fine d) :
    DT (tOr (tNot (tB (tCall (SpG (fun d : PyData => [d]) (fun d => Fine d) fun d r => r = .bool (numsB d)) [] E (tCons (tVar j) tNil)))) (tTest (tOp rNe (tCB (rLenQ K) (tCons (tVar j) tNil)) (tCB (rLenQ K) (tCons (tOp (rIx K) (tVar i) (tC (.int 1))) tNil))))) Γ Ω (!(amts as.length d).isSome) := by
  cases z : numsB d with
  | false =>
    rw [amts_not z]
    exact dt_or1 (dtN (dtB (b := false) (de_callG d (da_cons (de_var hj) da_nil) W) (by rw [z])))
  | true =>
    cases d with
    | tuple ds =>
      refine dt_or2 (dtN (dtB (b := true) (de_callG (PyData.tuple ds) (da_cons (de_var hj) da_nil) W) (by rw [z]))) (dtT (de_neI (de_lenT (de_var hj)) (de_webL hi)) ?_)
      rw [natI]
      congr 2
      by_cases hl : ds.length = as.length
      · obtain ⟨ms, hms⟩ := nums_amts hl z
        rw [hms, decide_eq_true hl]
        rfl
      · rw [decide_eq_false hl]
        unfold amts
        simp only []
        rw [if_neg hl]
        rfl
    | _ => cases z
abbrev s_law_is_flow : Stmt := topS 50
abbrev N_law_is_flow : List Str := ["_law_web_here", "_law_value", "_law_one"]
theorem sc_law_is_flow : FnScope N_law_is_flow ["_law_web_here", "_law_value"] (defScope s_law_is_flow) := ⟨rfl, rfl, rfl, by decide +kernel, rfl, by decide +kernel, by decide +kernel⟩
abbrev Q_law_is_flow (P : Program) (w : World) (K : PySem.W.Frag) (mg : Str → Option Value) (base : Heap) : Prop := Df P w K mg base CX0 3 "_law_is_flow" s_law_is_flow ["_law_web_here", "_law_value"] (SpG (fun x : Nat × List Arr × PyData => [webD x.1 x.2.1, x.2.2]) (fun x => Wb x.1 x.2.1 ∧ Fine x.2.2) fun x r => r = .bool (isFlowB x.1 x.2.1 x.2.2))
theorem df_law_is_flow (B : Bl mg) (F : Fx K mg "_law_is_flow" s_law_is_flow) (D_law_numbers : Q_law_numbers P w K mg base) (D_law_excess : Q_law_excess P w K mg base) : Q_law_is_flow P w K mg base := by
  refine df_of F sc_law_is_flow (fun _ _ F => F.binds fun _ _ _ _ _ _ us hl => match us, hl with | [_, _], _ => rfl) (fun _ => rfl) fun f cdv A outer s H Q E O x σ hr W a q => ?_
  obtain ⟨n, as, d⟩ := x
  obtain ⟨W, Wf⟩ : Wb n as ∧ Fine d := W
  dsimp only at a q
  refine ⟨_, (pss_cons (ps_if (PW.pt (pw_or (pt_not (pt_val (pe_df D_law_numbers (hr.mono (by decide)) (by rfl) (pa_cons (pv 1) pa_nil)))) (pw_or1 (pt_cmpR op_ne (pe_callB (lenK K) (by rfl) B.m_len (by decide +kernel) (pa_cons (pv 1) pa_nil)) (pe_callB (lenK K) (by rfl) B.m_len (by decide +kernel) (pa_cons (pe_ix (ixK K) (pv 0) pe_int (fun _ _ => rfl)) pa_nil)) (nomark _)))))
          (pss_one (ps_ret pe_bl))
          pss_nil)
        (pss_one (ps_ret (pe_cmpR (eqDK K hr.units) (pe_lc (own := [("_law_one", 2)]) rfl sc_law_is_flow.nd (piListK K (pe_df D_law_excess (hr.mono (by decide)) (by rfl) (pa_cons (pv 0) (pa_cons (pv 1) pa_nil)))) (blkOk_by (N := N_law_is_flow) (sc := defScope s_law_is_flow) (own := [("_law_one", 2)]) (by decide +kernel)) (fun _ _ _ _ _ => (pg_name (i := 2) sc_law_is_flow.nd rfl (Or.inl rfl))) (fun _ _ _ _ _ => (pts_one (pt_cmpR op_ne (pv 2) pe_int (nomark _)))) (fun _ _ _ _ _ => (pv 2))) (pe_lst pa_nil) (nomark _))))), ?_⟩
  refine st_seq (st_if (dt_head rfl rfl Wf) a (fun H hb a => ?_) fun H hb a => st_next ?_)
  · refine st_ret (de_bl false) a fun v H' a' r => q _ _ _ _ _ _ a' r ?_
    unfold isFlowB
    cases z : amts as.length d with
    | none => rfl
    | some ms => rw [z] at hb; cases hb
  · cases z : amts as.length d with
    | none => rw [z] at hb; cases hb
    | some ms =>
      obtain ⟨rfl, hl⟩ := amts_of z
      refine st_ret (d := .bool (isFlowB n as (intsT ms))) (de_is (de_eqD (dn_lc (fun d => match d with | .int c => if c = 0 then none else some (.int c) | _ => none) (di_list (de_callG (n, as, ms) (da_cons (de_var rfl) (da_cons (de_var rfl) da_nil)) ⟨W, hl⟩)) (by rw [tabI_len]; have := W.hi; omega) fun i d hd => ?_).de (de_lst da_nil) (Tame.shaped (k := 1) (tame_list fun d hd => ?_)) rfl) ?_) a fun v H' a' r => q _ _ _ _ _ _ a' r rfl
      · have hin : i < n := by have := (List.getElem?_eq_some_iff.mp hd).1; rw [tabI_len] at this; exact this
        rw [tabI_get hin] at hd
        cases hd
        refine ⟨_, dg_name, dt_is (dt_test (de_neI (de_var rfl) (de_int 0))) ?_, fun e he => ?_⟩
        · show (!decide (exc as ms i = 0)) = (if exc as ms i = 0 then none else some (PyData.int (exc as ms i))).isSome
          by_cases h : exc as ms i = 0
          · rw [if_pos h, decide_eq_true h]; rfl
          · rw [if_neg h, decide_eq_false h]; rfl
        · have he : (if exc as ms i = 0 then none else some (PyData.int (exc as ms i))) = some e := he
          by_cases h : exc as ms i = 0
          · rw [if_pos h] at he; cases he
          · rw [if_neg h] at he; cases he; exact de_var rfl
      · obtain ⟨x, hx, h⟩ := List.mem_filterMap.mp hd
        unfold tabI at hx
        obtain ⟨v, _, rfl⟩ := List.mem_map.mp hx
        have h : (if exc as ms v = 0 then none else some (PyData.int (exc as ms v))) = some d := h
        split at h
        · cases h
        · cases h; exact tame_int 0 _
      · rw [eqv_nilL]
        unfold isFlowB
        rw [z]
        congr 1
        refine Bool.eq_iff_iff.mpr ?_
        rw [flowB_iff, List.isEmpty_iff]
        constructor
        · intro h v hv
          by_cases e : exc as ms v = 0
          · exact e
          · have : PyData.int (exc as ms v) ∈ (tabI n fun v => exc as ms v).filterMap fun d => match d with | .int c => if c = 0 then none else some (.int c) | _ => none := List.mem_filterMap.mpr ⟨.int (exc as ms v), List.mem_of_getElem? (tabI_get hv), by show (if _ then _ else _) = _; rw [if_neg e]⟩
            rw [h] at this
            cases this
        · intro h
          refine List.eq_nil_iff_forall_not_mem.mpr fun x hx => ?_
          obtain ⟨y, hy, e⟩ := List.mem_filterMap.mp hx
          unfold tabI at hy
          obtain ⟨v, hv, rfl⟩ := List.mem_map.mp hy
          have e : (if exc as ms v = 0 then none else some (PyData.int (exc as ms v))) = some x := e
          rw [if_pos (h v (List.mem_range.mp hv))] at e
          cases e
abbrev s_law_pull : Stmt := topS 51
abbrev N_law_pull : List Str := ["_law_web_here", "_law_heights_here", "_law_x", "_law_y"]
theorem sc_law_pull : FnScope N_law_pull ["_law_web_here", "_law_heights_here"] (defScope s_law_pull) := ⟨rfl, rfl, rfl, by decide +kernel, rfl, by decide +kernel, by decide +kernel⟩
abbrev Q_law_pull (P : Program) (w : World) (K : PySem.W.Frag) (mg : Str → Option Value) (base : Heap) : Prop := Df P w K mg base CX0 1 "_law_pull" s_law_pull ["_law_web_here", "_law_heights_here"] (SpG (fun x : Nat × List Arr × List Int => [webD x.1 x.2.1, intsL x.2.2]) (fun x => Wb x.1 x.2.1 ∧ x.2.2.length = x.1) fun x r => r = intsT (x.2.1.map fun a => x.2.2.getD a.2 0 - x.2.2.getD a.1 0))
theorem df_law_pull (B : Bl mg) (F : Fx K mg "_law_pull" s_law_pull) : Q_law_pull P w K mg base := by
  refine df_of F sc_law_pull (fun _ _ F => F.binds fun _ _ _ _ _ _ us hl => match us, hl with | [_, _], _ => rfl) (fun _ => rfl) fun f cdv A outer s H Q E O x σ hr W a q => ?_
  obtain ⟨n, as, hs⟩ := x
  obtain ⟨W, hl⟩ : Wb n as ∧ hs.length = n := W
  dsimp only at a q
  refine ⟨_, (pss_one (ps_ret (pe_callTy (tupK K) (by rfl) B.m_tuple (by decide +kernel) (pa_cons (pe_lc (own := [("_law_x", 2), ("_law_y", 3)]) rfl sc_law_pull.nd (piTupK K (pe_ix (ixK K) (pv 0) pe_int (fun _ _ => rfl))) (blkOk_by (N := N_law_pull) (sc := defScope s_law_pull) (own := [("_law_x", 2), ("_law_y", 3)]) (by decide +kernel)) (fun _ _ _ _ _ => (pgTupK K (n := 2) (pgs_cons (pg_name (i := 2) sc_law_pull.nd rfl (Or.inl rfl)) (pgs_cons (pg_name (i := 3) sc_law_pull.nd rfl (Or.inl rfl)) pgs_nil)))) (fun _ _ _ _ _ => pts_nil) (fun _ _ _ _ _ => (pe_op op_sub (pe_ix (ixK K) (pv 1) (pv 3) (fun _ _ => rfl)) (pe_ix (ixK K) (pv 1) (pv 2) (fun _ _ => rfl))))) pa_nil)))), ?_⟩
  refine st_ret (d := intsT (as.map fun a => hs.getD a.2 0 - hs.getD a.1 0)) (de_is (de_tupleOf (dn_lcA (fun d => match d with | .tuple [.int x, .int y] => .int (hs.getD y.toNat 0 - hs.getD x.toNat 0) | _ => .none) (di_tup (de_web1 rfl)) ?_ fun i d hd => ?_).de) ?_) a fun v H' a' r => q _ _ _ _ _ _ a' r rfl
  · have := W.few
    rw [List.length_map]
    omega
  · obtain ⟨e, he, rfl⟩ := arr_at hd
    have hen := W.ends e (List.mem_of_getElem? he)
    exact ⟨_, dg_tup (dgs_cons dg_name (dgs_cons dg_name dgs_nil)), de_I0 (de_ixL (de_var rfl) (de_var rfl) (atI_nat (getD_at (by omega)))) (de_ixL (de_var rfl) (de_var rfl) (atI_nat (getD_at (by omega))))⟩
  · unfold intsT
    rw [List.map_map, List.map_map]
    rfl
end
end EW
/-! the law's judges: heights, pulls within -/
namespace EW
open PySem PyProof.Rows L2
theorem put_opts {O : List (Option Int)} {v : Nat} {p : Int} : (O.map optI).set v (.int p) = (O.set v (some p)).map optI := by rw [List.map_set]; rfl
section
variable {P : Program} {w : World} {K : PySem.W.Frag} {mg : Str → Option Value} {base : Heap}
abbrev s_law_heights : Stmt := topS 52
abbrev N_law_heights : List Str := ["_law_web_here", "_law_value", "_law_found", "_law_least", "_law_start", "_law_turn", "_law_k", "_law_x", "_law_y"]
theorem sc_law_heights : FnScope N_law_heights ["_law_web_here", "_law_value"] (defScope s_law_heights) := ⟨rfl, rfl, rfl, by decide +kernel, rfl, by decide +kernel, by decide +kernel⟩
abbrev Q_law_heights (P : Program) (w : World) (K : PySem.W.Frag) (mg : Str → Option Value) (base : Heap) : Prop := Df P w K mg base CX0 1 "_law_heights" s_law_heights ["_law_web_here", "_law_value"] (SpG (fun x : Nat × List Arr × List Int => [webD x.1 x.2.1, intsT x.2.2]) (fun x => Wb x.1 x.2.1 ∧ x.2.2.length = x.2.1.length) fun x r => ∃ (hs : List Int) (l : PyData), r = .list [intsL hs, l] ∧ hs.length = x.1 ∧ (x.2.1.map (fun a => hs.getD a.2 0 - hs.getD a.1 0) = x.2.2 ↔ IsPull x.2.1 x.2.2))
theorem df_law_heights (B : Bl mg) (F : Fx K mg "_law_heights" s_law_heights) : Q_law_heights P w K mg base := by
  refine df_of F sc_law_heights (fun _ _ F => F.binds fun _ _ _ _ _ _ us hl => match us, hl with | [_, _], _ => rfl) (fun _ => rfl) fun f cdv A outer s H Q E O x σ hr W a q => ?_
  obtain ⟨n, as, ms⟩ := x
  obtain ⟨W, hl⟩ : Wb n as ∧ ms.length = as.length := W
  dsimp only at a q
  have hn := W.hi
  have hfew := W.few
  obtain ⟨h, Ph⟩ : ∃ h : Nat → Int, IsPull as ms → Pot as ms h := by
    by_cases p : IsPull as ms
    · obtain ⟨h, hh⟩ := p
      exact ⟨h, fun _ => hh⟩
    · exact ⟨fun _ => 0, fun z => absurd z p⟩
  refine ⟨_, (pss_cons (ps_set (i := 2) sc_law_heights.nd rfl (Or.inl rfl) (pe_op op_rep (pe_lst (pa_cons pe_non pa_nil)) (pe_ix (ixK K) (pv 0) pe_int (fun _ _ => rfl))))
        (pss_cons (ps_set (i := 3) sc_law_heights.nd rfl (Or.inl rfl) (pe_op op_rep (pe_lst (pa_cons pe_non pa_nil)) (pe_ix (ixK K) (pv 0) pe_int (fun _ _ => rfl))))
        (pss_cons (ps_for PassesOwn.never rfl (pi_range1 (by rfl) B.m_range (pa_cons (pe_ix (ixK K) (pv 0) pe_int (fun _ _ => rfl)) pa_nil)) (pg_name (i := 4) sc_law_heights.nd rfl (Or.inl rfl))
          (pss_one (ps_if (pt_cmpR op_isN (pe_ix (ixK K) (pv 2) (pv 4) (fun _ _ => rfl)) pe_non (by rfl))
            (pss_cons (ps_asg pe_int (pg_sub (pv 2) (pv 4) set_list))
            (pss_cons (ps_asg (pv 4) (pg_sub (pv 3) (pv 4) set_list))
            (pss_one (ps_for PassesOwn.never rfl (pi_range1 (by rfl) B.m_range (pa_cons (pe_ix (ixK K) (pv 0) pe_int (fun _ _ => rfl)) pa_nil)) (pg_name (i := 5) sc_law_heights.nd rfl (Or.inl rfl))
              (pss_one (ps_for PassesOwn.never rfl (pi_range1 (by rfl) B.m_range (pa_cons (pe_callB (lenK K) (by rfl) B.m_len (by decide +kernel) (pa_cons (pe_ix (ixK K) (pv 0) pe_int (fun _ _ => rfl)) pa_nil)) pa_nil)) (pg_name (i := 6) sc_law_heights.nd rfl (Or.inl rfl))
                (pss_cons (ps_asg (pe_ix (ixK K) (pe_ix (ixK K) (pv 0) pe_int (fun _ _ => rfl)) (pv 6) (fun _ _ => rfl)) (pgTupK K (n := 2) (pgs_cons (pg_name (i := 7) sc_law_heights.nd rfl (Or.inl rfl)) (pgs_cons (pg_name (i := 8) sc_law_heights.nd rfl (Or.inl rfl)) pgs_nil))))
                (pss_one (ps_if (PW.pt (pw_and (pt_cmpR op_notN (pe_ix (ixK K) (pv 2) (pv 7) (fun _ _ => rfl)) pe_non (by rfl)) (pw_and1 (pt_cmpR op_isN (pe_ix (ixK K) (pv 2) (pv 8) (fun _ _ => rfl)) pe_non (by rfl)))))
                  (pss_cons (ps_asg (pe_op op_add (pe_ix (ixK K) (pv 2) (pv 7) (fun _ _ => rfl)) (pe_ix (ixK K) (pv 1) (pv 6) (fun _ _ => rfl))) (pg_sub (pv 2) (pv 8) set_list))
                  (pss_one (ps_asg (pv 4) (pg_sub (pv 3) (pv 8) set_list))))
                  (pss_one (ps_if (PW.pt (pw_and (pt_cmpR op_notN (pe_ix (ixK K) (pv 2) (pv 8) (fun _ _ => rfl)) pe_non (by rfl)) (pw_and1 (pt_cmpR op_isN (pe_ix (ixK K) (pv 2) (pv 7) (fun _ _ => rfl)) pe_non (by rfl)))))
                    (pss_cons (ps_asg (pe_op op_sub (pe_ix (ixK K) (pv 2) (pv 8) (fun _ _ => rfl)) (pe_ix (ixK K) (pv 1) (pv 6) (fun _ _ => rfl))) (pg_sub (pv 2) (pv 7) set_list))
                    (pss_one (ps_asg (pv 4) (pg_sub (pv 3) (pv 7) set_list))))
                    pss_nil)))))))))))
            pss_nil)))
        (pss_one (ps_ret (pe_lst (pa_cons (pv 2) (pa_cons (pv 3) pa_nil)))))))), ?_⟩
  refine st_seq (st_setN (dn_rep (de_lst (da_cons de_non da_nil)) (de_web0 rfl) (by omega)) a fun σ H a => ?_)
  refine st_seq (st_setN (dn_rep (de_lst (da_cons de_non da_nil)) (de_web0 rfl) (by omega)) a fun σ H a => ?_)
  -- ghosts: found, least
  refine st_seq (st_for (α := List (Option Int) × List PyData) (di_range (de_web0 rfl) (by omega)) a fun ds e => ?_)
  subst e
  refine ⟨fun i x => x.1.length = n ∧ x.2.length = n ∧ Tree as ms (IsPull as ms) x.1 ∧ ∀ v, v < i → og x.1 v ≠ none, fun _ _ => [.dat (webD n as), .dat (intsT ms), .own 0, .own 1, .no, .no, .no, .no, .no], fun _ x => [.lst (x.1.map optI), .lst x.2], (List.replicate n none, List.replicate n .none), ⟨List.length_replicate, List.length_replicate, Tree.empty, fun v z => absurd z (Nat.not_lt_zero v)⟩, rfl, ?_, fun _ _ => rfl, fun i x d hd ⟨lO, lL, tO, dn⟩ => ?_, fun x ⟨lO, lL, tO, dn⟩ σ H a => ?_⟩
  · show [Ob.lst ((List.replicate n none).map optI), Ob.lst (List.replicate n PyData.none)] = _
    rw [List.map_replicate]
    rfl
  · obtain ⟨O1, L1⟩ := x
    have lO : O1.length = n := lO
    have lL : L1.length = n := lL
    obtain ⟨hin, rfl⟩ := upTo_at hd
    refine ⟨[4], _, dg_name, fun H1 A hA _ N σ H hN a => ?_⟩
    refine st_if (b := decide (og O1 i = none)) (dtT (de_isN2 (de_ixO (do_var rfl) (de_var rfl) rfl (og_at (by omega)))) (by rw [og_none])) a (fun H hb a => ?_) fun H hb a => ?_
    · have h0 : og O1 i = none := of_decide_eq_true hb
      refine st_seq (st_put (de_int 0) (do_var rfl) (de_var rfl) rfl (ixN_nat (by rw [List.length_map]; exact (by omega : i < O1.length))) a fun σ H a => ?_)
      rw [put_opts] at a
      refine st_seq (st_put (ds := L1) (de_var rfl) (do_var rfl) (de_var rfl) rfl (ixN_nat (by omega)) a fun σ H a => ?_)
      have E0 : Exl (IsPull as ms) h O1 (O1.set i (some 0)) i := Exl.start (by omega) h0
      have S0 : Swp as n 0 0 (O1.set i (some 0)) := .inr (.inl ⟨by
        have := count_fill (p := 0) (by omega : i < O1.length) h0
        have := List.count_le_length (a := (none : Option Int)) (l := O1)
        omega, fun a z => by simp at z⟩)
      have s00 : og (O1.set i (some 0)) i ≠ none := by rw [og_set (by omega), if_pos rfl]; exact fun z => nomatch z
      refine st_for (α := List (Option Int) × List PyData) (di_range (de_web0 rfl) (by omega)) a fun ds e => ?_
      subst e
      refine ⟨fun t x => x.2.length = n ∧ Exl (IsPull as ms) h O1 x.1 i ∧ Swp as n t 0 x.1 ∧ og x.1 i ≠ none, fun _ _ => [.dat (webD n as), .dat (intsT ms), .own 0, .own 1, .dat (.int i), .no, .no, .no, .no], fun _ x => [.lst (x.1.map optI), .lst x.2], (O1.set i (some 0), L1.set i (.int i)), ⟨by show (L1.set i _).length = n; rw [List.length_set]; exact lL, E0, S0, s00⟩, rfl, rfl, fun _ _ => rfl, fun t x d hd ⟨lL, E1, S1, s01⟩ => ?_, fun x ⟨lL, E1, S1, s01⟩ σ H a => ?_⟩
      · obtain ⟨htn, rfl⟩ := upTo_at hd
        refine ⟨[5], _, dg_name, fun H2 A2 hA2 _ N2 σ H hN2 a => ?_⟩
        refine st_for (α := List (Option Int) × List PyData) (di_range (de_webL rfl) (by omega)) a fun ds e => ?_
        subst e
        refine ⟨fun k x => x.2.length = n ∧ Exl (IsPull as ms) h O1 x.1 i ∧ Swp as n t k x.1 ∧ og x.1 i ≠ none, fun _ _ => [.dat (webD n as), .dat (intsT ms), .own 0, .own 1, .dat (.int i), .dat (.int t), .no, .no, .no], fun _ x => [.lst (x.1.map optI), .lst x.2], x, ⟨lL, E1, S1, s01⟩, rfl, rfl, fun _ _ => rfl, fun k x d hd ⟨lL, E1, S1, s01⟩ => ?_, fun x ⟨lL, E1, S1, s01⟩ σ H a => ?_⟩
        · obtain ⟨O2, L2⟩ := x
          have lL : L2.length = n := lL
          have E1 : Exl (IsPull as ms) h O1 O2 i := E1
          have lO2 : O2.length = n := by rw [E1.len, lO]
          obtain ⟨hk, rfl⟩ := upTo_at hd
          obtain ⟨e, he⟩ : ∃ e, as[k]? = some e := ⟨_, List.getElem?_eq_getElem hk⟩
          obtain ⟨c, hc⟩ : ∃ c, ms[k]? = some c := ⟨_, List.getElem?_eq_getElem (by omega)⟩
          obtain ⟨h1, h2⟩ := W.ends e (List.mem_of_getElem? he)
          have hed : (as.map pairN)[k]? = some (pairN e) := by rw [List.getElem?_map, he]; rfl
          have hcd : (ms.map PyData.int)[k]? = some (.int c) := by rw [List.getElem?_map, hc]; rfl
          have ev := tO.clo e (List.mem_of_getElem? he)
          have ok := sw1_ok E1 Ph he hc (by rw [lO]; exact h1) (by rw [lO]; exact h2) ev
          have st := swp_step E1 Ph he hc (by rw [lO]; exact h1) (by rw [lO]; exact h2) ev S1
          have keep := ok.2.2.2 i s01
          refine ⟨[6], _, dg_name, fun H3 A3 hA3 _ N3 σ H hN3 a => ?_⟩
          refine st_seq (st_asg (vs := [7, 8]) (de_ixT (de_web1 rfl) (de_var rfl) (atI_nat hed)) (dg_tup (dgs_cons dg_name (dgs_cons dg_name dgs_nil))) a fun σ H a => ?_)
          have tx : ∀ {Γ : Ctx}, Γ[2]? = some (.own 0) → Γ[7]? = some (.dat (.int e.1)) → DE (tOp (rIx K) (tVar 2) (tVar 7)) Γ [.lst (O2.map optI), .lst L2] (optI (og O2 e.1)) := fun g1 g2 => de_ixO (do_var g1) (de_var g2) rfl (og_at (by omega))
          have ty : ∀ {Γ : Ctx}, Γ[2]? = some (.own 0) → Γ[8]? = some (.dat (.int e.2)) → DE (tOp (rIx K) (tVar 2) (tVar 8)) Γ [.lst (O2.map optI), .lst L2] (optI (og O2 e.2)) := fun g1 g2 => de_ixO (do_var g1) (de_var g2) rfl (og_at (by omega))
          refine st_if (b := !decide (og O2 e.1 = none) && decide (og O2 e.2 = none)) (dt_and (dtT (de_notN2 (tx rfl rfl)) (by rw [og_none])) fun _ => dtT (de_isN2 (ty rfl rfl)) (by rw [og_none])) a (fun H hb a => ?_) fun H hb a => ?_
          · rw [Bool.and_eq_true, Bool.not_eq_true'] at hb
            have b1 : og O2 e.1 ≠ none := of_decide_eq_false hb.1
            have b2 : og O2 e.2 = none := of_decide_eq_true hb.2
            obtain ⟨p, hp⟩ : ∃ p, og O2 e.1 = some p := by
              cases z : og O2 e.1 with
              | none => exact absurd z b1
              | some p => exact ⟨p, rfl⟩
            have es : sw1 O2 e c = O2.set e.2 (some (p + c)) := by
              unfold sw1
              rw [hp, b2]
            refine st_seq (st_put (d := .int (p + c)) (de_I0 (i := p) (de_is (tx rfl rfl) (by rw [hp]; rfl)) (de_ixT (ds := ms.map .int) (de_var rfl) (de_var rfl) (atI_nat hcd))) (do_var rfl) (de_var rfl) rfl (ixN_nat (by rw [List.length_map]; omega)) a fun σ H a => ?_)
            rw [put_opts] at a
            refine st_put (ds := L2) (de_var rfl) (do_var rfl) (de_var rfl) rfl (ixN_nat (by omega)) a fun σ H a => hN3 σ H (sw1 O2 e c, L2.set e.2 (.int i)) ⟨by show (L2.set _ _).length = n; rw [List.length_set]; exact lL, ok.1, st, keep⟩ ?_
            dsimp only
            rw [es]
            exact a.no [6, 7, 8]
          · refine st_if (b := !decide (og O2 e.2 = none) && decide (og O2 e.1 = none)) (dt_and (dtT (de_notN2 (ty rfl rfl)) (by rw [og_none])) fun _ => dtT (de_isN2 (tx rfl rfl)) (by rw [og_none])) a (fun H hb2 a => ?_) fun H hb2 a => ?_
            · rw [Bool.and_eq_true, Bool.not_eq_true'] at hb2
              have b1 : og O2 e.2 ≠ none := of_decide_eq_false hb2.1
              have b2 : og O2 e.1 = none := of_decide_eq_true hb2.2
              obtain ⟨p, hp⟩ : ∃ p, og O2 e.2 = some p := by
                cases z : og O2 e.2 with
                | none => exact absurd z b1
                | some p => exact ⟨p, rfl⟩
              have es : sw1 O2 e c = O2.set e.1 (some (p - c)) := by
                unfold sw1
                rw [hp, b2]
              refine st_seq (st_put (d := .int (p - c)) (de_I0 (i := p) (de_is (ty rfl rfl) (by rw [hp]; rfl)) (de_ixT (ds := ms.map .int) (de_var rfl) (de_var rfl) (atI_nat hcd))) (do_var rfl) (de_var rfl) rfl (ixN_nat (by rw [List.length_map]; omega)) a fun σ H a => ?_)
              rw [put_opts] at a
              refine st_put (ds := L2) (de_var rfl) (do_var rfl) (de_var rfl) rfl (ixN_nat (by omega)) a fun σ H a => hN3 σ H (sw1 O2 e c, L2.set e.1 (.int i)) ⟨by show (L2.set _ _).length = n; rw [List.length_set]; exact lL, ok.1, st, keep⟩ ?_
              dsimp only
              rw [es]
              exact a.no [6, 7, 8]
            · have es : sw1 O2 e c = O2 := by
                unfold sw1
                cases z1 : og O2 e.1 <;> cases z2 : og O2 e.2 <;> rw [z1, z2] at hb hb2 <;> first | rfl | (exfalso; simp at hb; done) | (exfalso; simp at hb2; done)
              refine st_next (hN3 σ H (sw1 O2 e c, L2) ⟨lL, ok.1, st, keep⟩ ?_)
              dsimp only
              rw [es]
              exact a.no [6, 7, 8]
        · rw [upTo_len] at S1
          exact hN2 σ H x ⟨lL, E1, swp_turn S1, s01⟩ (a.no [5])
      · rw [upTo_len] at S1
        refine hN σ H x ⟨by rw [E1.len, lO], lL, tO.next E1 Ph (swp_end S1), fun v hv => ?_⟩ (a.no [4])
        by_cases e : v = i
        · subst e
          exact s01
        · cases z : og O1 v with
          | none => exact absurd z (dn v (by omega))
          | some p =>
            rw [E1.keep _ _ z]
            exact fun z => nomatch z
    · refine st_next (hN σ H (O1, L1) ⟨lO, lL, tO, fun v hv => ?_⟩ (a.no [4]))
      by_cases e : v = i
      · subst e
        exact of_decide_eq_false hb
      · exact dn v (by omega)
  · obtain ⟨O1, L1⟩ := x
    rw [upTo_len] at dn
    have lO : O1.length = n := lO
    have a2 := a.release (Ω := [.lst (O1.map optI)]) (Nat.zero_le _)
    have a3 := a2.release (Ω := []) (Nat.zero_le _)
    refine st_ret (de_lst (da_cons (de_var (d := .list (O1.map optI)) rfl) (da_cons (de_var (d := .list L1) rfl) da_nil))) a3 fun v H' a' r => q _ _ _ _ _ _ a' r ⟨O1.map (·.getD 0), .list L1, ?_, by rw [List.length_map, lO], ?_⟩
    · unfold intsL
      rw [all_some fun v hv => dn v (by omega)]
    · rw [← pull_end tO (fun a ha => ⟨dn _ (W.ends a ha).1, dn _ (W.ends a ha).2⟩) hl.symm]
      have e : as.map (fun a => (O1.map (·.getD 0)).getD a.2 0 - (O1.map (·.getD 0)).getD a.1 0) = as.map fun a => (og O1 a.2).getD 0 - (og O1 a.1).getD 0 := List.map_congr_left fun a ha => by
        have := W.ends a ha
        rw [og_getD (by omega), og_getD (by omega)]
      rw [e]
theorem dep_ix0 {Γ : Ctx} {Ω : List Ob} {ta : TE} {P : PyData → Prop} (ha : DEp ta Γ Ω fun d => ∃ ds, d = .list ds ∧ ∃ x, ds[0]? = some x ∧ P x) : DEp (tOp (rIx K) ta (tC (.int 0))) Γ Ω P := fun O A σ H s Q q =>
  ha O A σ H s _ fun x H1 d e1 s1 r1 ⟨ds, ed, y, hy, py⟩ => by
    subst ed
    obtain ⟨a, xs, rfl, hx, r⟩ := r1.list_of
    obtain ⟨v, hv, rv⟩ := atI_of r (atI_nat hy)
    exact .inl ⟨a, xs, 0, v, rfl, rfl, SqL.of (off_of hx).2, hv, q _ H1 _ e1 s1 rv py⟩
abbrev s_law_is_pull : Stmt := topS 53
abbrev N_law_is_pull : List Str := ["_law_web_here", "_law_value"]
theorem sc_law_is_pull : FnScope N_law_is_pull ["_law_web_here", "_law_value"] (defScope s_law_is_pull) := ⟨rfl, rfl, rfl, by decide +kernel, rfl, by decide +kernel, by decide +kernel⟩
abbrev Q_law_is_pull (P : Program) (w : World) (K : PySem.W.Frag) (mg : Str → Option Value) (base : Heap) : Prop := Df P w K mg base CX0 3 "_law_is_pull" s_law_is_pull ["_law_web_here", "_law_value"] (SpG (fun x : Nat × List Arr × PyData => [webD x.1 x.2.1, x.2.2]) (fun x => Wb x.1 x.2.1 ∧ Fine x.2.2) fun x r => r = .bool (isPullB x.2.1 x.2.2))
theorem df_law_is_pull (B : Bl mg) (F : Fx K mg "_law_is_pull" s_law_is_pull) (D_law_numbers : Q_law_numbers P w K mg base) (D_law_pull : Q_law_pull P w K mg base) (D_law_heights : Q_law_heights P w K mg base) : Q_law_is_pull P w K mg base := by
  refine df_of F sc_law_is_pull (fun _ _ F => F.binds fun _ _ _ _ _ _ us hl => match us, hl with | [_, _], _ => rfl) (fun _ => rfl) fun f cdv A outer s H Q E O x σ hr W a q => ?_
  obtain ⟨n, as, d⟩ := x
  obtain ⟨W, Wf⟩ : Wb n as ∧ Fine d := W
  dsimp only at a q
  refine ⟨_, (pss_cons (ps_if (PW.pt (pw_or (pt_not (pt_val (pe_df D_law_numbers (hr.mono (by decide)) (by rfl) (pa_cons (pv 1) pa_nil)))) (pw_or1 (pt_cmpR op_ne (pe_callB (lenK K) (by rfl) B.m_len (by decide +kernel) (pa_cons (pv 1) pa_nil)) (pe_callB (lenK K) (by rfl) B.m_len (by decide +kernel) (pa_cons (pe_ix (ixK K) (pv 0) pe_int (fun _ _ => rfl)) pa_nil)) (nomark _)))))
          (pss_one (ps_ret pe_bl))
          pss_nil)
        (pss_one (ps_ret (pe_cmpR (eqDK K hr.units) (pe_df D_law_pull (hr.mono (by decide)) (by rfl) (pa_cons (pv 0) (pa_cons (pe_ix (ixK K) (pe_df D_law_heights (hr.mono (by decide)) (by rfl) (pa_cons (pv 0) (pa_cons (pv 1) pa_nil))) pe_int (fun _ _ => rfl)) pa_nil))) (pv 1) (nomark _))))), ?_⟩
  refine st_seq (st_if (dt_head rfl rfl Wf) a (fun H hb a => ?_) fun H hb a => st_next ?_)
  · refine st_ret (de_bl false) a fun v H' a' r => q _ _ _ _ _ _ a' r ?_
    unfold isPullB
    cases z : amts as.length d with
    | none => rfl
    | some ms => rw [z] at hb; cases hb
  · cases z : amts as.length d with
    | none => rw [z] at hb; cases hb
    | some ms =>
      obtain ⟨rfl, hl⟩ := amts_of z
      refine st_ret (d := .bool (isPullB as (intsT ms))) ?_ a fun v H' a' r => q _ _ _ _ _ _ a' r rfl
      refine dep_mono (dep_eqD (dep_callGp (dap_cons (de_var rfl) (dap_cons (dep_ix0 (P := fun y => ∃ hs : List Int, y = intsL hs ∧ hs.length = n ∧ (as.map (fun a => hs.getD a.2 0 - hs.getD a.1 0) = ms ↔ IsPull as ms)) (dep_mono (dep_callG (n, as, ms) (da_cons (de_var rfl) (da_cons (de_var rfl) da_nil)) ⟨W, hl⟩) fun d ⟨hs, l, e, h1, h2⟩ => ⟨_, e, _, rfl, hs, rfl, h1, h2⟩)) dap_nil)) ?_) (de_var rfl) ?_ (shaped_ints ms)) ?_
      · rintro ds ⟨_, _, rfl, rfl, _, _, rfl, ⟨hs, rfl, h1, _⟩, rfl⟩
        exact ⟨(n, as, hs), rfl, W, h1⟩
      · rintro _ ⟨⟨_, as2, hs⟩, _, _, rfl⟩
        exact shaped_ints _
      · rintro _ ⟨_, ⟨⟨n2, as2, hs⟩, ⟨d1, ds1, e1, rfl, d2, ds2, e2, ⟨hs2, rfl, h1, h2⟩, rfl⟩, _, rfl⟩, rfl⟩
        have ea : webD n2 as2 = webD n as := (List.cons.inj e1).1
        have eb := (List.cons.inj ((List.cons.inj e1).2.trans e2)).1
        have e3 : hs = hs2 := by
          have : hs.map PyData.int = hs2.map .int := by
            unfold intsL at eb
            exact PyData.list.inj eb
          have w := wholes_map hs
          rw [this, wholes_map] at w
          exact (Option.some.inj w).symm
        have e4 : as2 = as := by
          unfold webD at ea
          have := PyData.tuple.inj (List.cons.inj (List.cons.inj (PyData.tuple.inj ea)).2).1
          exact List.map_inj_right (f := pairN) (fun x y h => by
            unfold pairN at h
            have h := PyData.tuple.inj h
            have h1 := PyData.int.inj (List.cons.inj h).1
            have h2 := PyData.int.inj (List.cons.inj (List.cons.inj h).2).1
            exact Prod.ext (by omega) (by omega)) |>.mp this
        subst e3
        subst e4
        show PyData.bool (PyData.eqvAll ((as2.map fun a => hs.getD a.2 0 - hs.getD a.1 0).map .int) (ms.map .int)) = _
        rw [eqv_ints]
        congr 1
        unfold isPullB
        rw [z]
        exact decide_eq_decide.mpr h2
abbrev s_law_is_within : Stmt := topS 58
abbrev N_law_is_within : List Str := ["_law_web_here", "_law_bounds", "_law_value", "_law_k"]
theorem sc_law_is_within : FnScope N_law_is_within ["_law_web_here", "_law_bounds", "_law_value"] (defScope s_law_is_within) := ⟨rfl, rfl, rfl, by decide +kernel, rfl, by decide +kernel, by decide +kernel⟩
abbrev Q_law_is_within (P : Program) (w : World) (K : PySem.W.Frag) (mg : Str → Option Value) (base : Heap) : Prop := Df P w K mg base CX0 4 "_law_is_within" s_law_is_within ["_law_web_here", "_law_bounds", "_law_value"] (SpG (fun x : Nat × List Arr × List Bnd × PyData => [webD x.1 x.2.1, bndD x.2.2.1, x.2.2.2]) (fun x => WB x.1 x.2.1 x.2.2.1 ∧ Fine x.2.2.2) fun x r => r = .bool (withinB x.2.1 x.2.2.1 x.2.2.2))
theorem inB_iff : ∀ (bs : List Bnd) (ms : List Int), bs.length = ms.length → (inB bs ms = true ↔ ∀ (k : Nat) b c, bs[k]? = some b → ms[k]? = some c → b.1 ≤ c ∧ c ≤ b.2)
  | [], [], _ => ⟨fun _ k b c h => by simp at h, fun _ => rfl⟩
  | b :: bs, m :: ms, h => by
    have ih := inB_iff bs ms (by simpa using h)
    show ((decide (b.1 ≤ m) && decide (m ≤ b.2)) && inB bs ms) = true ↔ _
    rw [Bool.and_eq_true, Bool.and_eq_true, decide_eq_true_iff, decide_eq_true_iff, ih]
    constructor
    · rintro ⟨h1, h2⟩ k b' c' e1 e2
      cases k with
      | zero => cases e1; cases e2; exact h1
      | succ k => exact h2 k b' c' e1 e2
    · intro h
      exact ⟨h 0 b m rfl rfl, fun k b' c' e1 e2 => h (k + 1) b' c' e1 e2⟩
theorem df_law_is_within (B : Bl mg) (F : Fx K mg "_law_is_within" s_law_is_within) (D_law_is_pull : Q_law_is_pull P w K mg base) : Q_law_is_within P w K mg base := by
  refine df_of F sc_law_is_within (fun _ _ F => F.binds fun _ _ _ _ _ _ us hl => match us, hl with | [_, _, _], _ => rfl) (fun _ => rfl) fun f cdv A outer s H Q E O x σ hr W a q => ?_
  obtain ⟨n, as, bs, d⟩ := x
  obtain ⟨W, Wf⟩ : WB n as bs ∧ Fine d := W
  dsimp only at a q
  refine ⟨_, (pss_cons (ps_if (pt_not (pt_val (pe_df D_law_is_pull (hr.mono (by decide)) (by rfl) (pa_cons (pv 0) (pa_cons (pv 2) pa_nil)))))
          (pss_one (ps_ret pe_bl))
          pss_nil)
        (pss_one (ps_ret (pe_cmpR (eqDK K hr.units) (pe_lc (own := [("_law_k", 3)]) rfl sc_law_is_within.nd (pi_range1 (by rfl) B.m_range (pa_cons (pe_callB (lenK K) (by rfl) B.m_len (by decide +kernel) (pa_cons (pv 2) pa_nil)) pa_nil)) (blkOk_by (N := N_law_is_within) (sc := defScope s_law_is_within) (own := [("_law_k", 3)]) (by decide +kernel)) (fun _ _ _ _ _ => (pg_name (i := 3) sc_law_is_within.nd rfl (Or.inl rfl))) (fun _ _ _ _ _ => (pts_one (pt_not (pt_chain op_le op_le (pe_ix (ixK K) (pe_ix (ixK K) (pv 1) (pv 3) (fun _ _ => rfl)) pe_int (fun _ _ => rfl)) (pe_ix (ixK K) (pv 2) (pv 3) (fun _ _ => rfl)) (pe_ix (ixK K) (pe_ix (ixK K) (pv 1) (pv 3) (fun _ _ => rfl)) pe_int (fun _ _ => rfl)))))) (fun _ _ _ _ _ => (pv 3))) (pe_lst pa_nil) (nomark _))))), ?_⟩
  refine st_seq (st_if (b := !isPullB as d) (dtN (dtB (de_callG (n, as, d) (da_cons (de_var rfl) (da_cons (de_var rfl) da_nil)) ⟨W.toWb, Wf⟩))) a (fun H hb a => ?_) fun H hb a => st_next ?_)
  · refine st_ret (de_bl false) a fun v H' a' r => q _ _ _ _ _ _ a' r ?_
    unfold withinB
    rw [show isPullB as d = false by simpa using hb]
    rfl
  · have hb : isPullB as d = true := by simpa using hb
    have hb2 := hb
    unfold isPullB at hb2
    cases z : amts as.length d with
    | none => rw [z] at hb2; cases hb2
    | some ms =>
      obtain ⟨rfl, hl⟩ := amts_of z
      have hlb : bs.length = ms.length := by rw [hl, W.len]
      have hm15 : ms.length ≤ 15 := by rw [hl]; exact W.few
      let ok : Nat → Bool := fun k => decide ((bs.getD k (0, 0)).1 ≤ ms.getD k 0) && decide (ms.getD k 0 ≤ (bs.getD k (0, 0)).2)
      refine st_ret (d := .bool (withinB as bs (intsT ms))) (de_is (de_eqD (dn_lc (fun d => match d with | .int k => if ok k.toNat = true then none else some (.int k) | _ => none) (di_range (n := ms.length) (de_is (de_lenT (ds := ms.map .int) (de_var rfl)) (by rw [List.length_map])) (by omega)) (by rw [upTo_len]; omega) fun i d hd => ?_).de (de_lst da_nil) (Tame.shaped (k := 1) (tame_list fun d hd => ?_)) rfl) ?_) a fun v H' a' r => q _ _ _ _ _ _ a' r rfl
      · obtain ⟨hi, rfl⟩ := upTo_at hd
        have hbi : (bs.map pairI)[i]? = some (pairI (bs.getD i (0, 0))) := by
          rw [List.getElem?_map, List.getD_eq_getElem?_getD, List.getElem?_eq_getElem (by omega)]
          rfl
        have hmi : (ms.map PyData.int)[i]? = some (.int (ms.getD i 0)) := getD_at hi
        refine ⟨_, dg_name, dt_is (dt_not (dt_test (de_chain (de_ixT (ds := [.int (bs.getD i (0, 0)).1, .int (bs.getD i (0, 0)).2]) (de_ixT (ds := bs.map pairI) (de_var rfl) (de_var rfl) (atI_nat hbi)) (de_int 0) rfl) (de_ixT (ds := ms.map .int) (de_var rfl) (de_var rfl) (atI_nat hmi)) (de_ixT (ds := [.int (bs.getD i (0, 0)).1, .int (bs.getD i (0, 0)).2]) (de_ixT (ds := bs.map pairI) (de_var rfl) (de_var rfl) (atI_nat hbi)) (de_int 1) rfl)))) ?_, fun e he => ?_⟩
        · show (!ok i) = (if ok i = true then none else some (PyData.int (i : Nat))).isSome
          cases ok i <;> rfl
        · have he : (if ok i = true then none else some (PyData.int (i : Nat))) = some e := he
          split at he
          · cases he
          · cases he; exact de_var rfl
      · obtain ⟨x, hx, h⟩ := List.mem_filterMap.mp hd
        unfold upTo at hx
        obtain ⟨v, _, rfl⟩ := List.mem_map.mp hx
        have h : (if ok v = true then none else some (PyData.int (v : Nat))) = some d := h
        split at h
        · cases h
        · cases h; exact tame_int 0 _
      · rw [eqv_nilL]
        unfold withinB
        rw [hb, z]
        congr 1
        refine Bool.eq_iff_iff.mpr ?_
        rw [List.isEmpty_iff]
        show _ ↔ (true && inB bs ms) = true
        rw [Bool.true_and, inB_iff bs ms hlb]
        have okk : ∀ k, k < ms.length → (ok k = true ↔ ∀ b c, bs[k]? = some b → ms[k]? = some c → b.1 ≤ c ∧ c ≤ b.2) := fun k hk => by
          show (decide _ && decide _) = true ↔ _
          rw [Bool.and_eq_true, decide_eq_true_iff, decide_eq_true_iff, List.getD_eq_getElem?_getD, List.getD_eq_getElem?_getD, List.getElem?_eq_getElem (by omega : k < bs.length), List.getElem?_eq_getElem hk]
          exact ⟨fun h b c e1 e2 => by cases e1; cases e2; exact h, fun h => h _ _ rfl rfl⟩
        constructor
        · intro h k b c e1 e2
          have hk := (List.getElem?_eq_some_iff.mp e2).1
          cases q : ok k with
          | true => exact (okk k hk).mp q b c e1 e2
          | false =>
            have : PyData.int (k : Nat) ∈ (upTo ms.length).filterMap fun d => match d with | .int k => if ok k.toNat = true then none else some (.int k) | _ => none := List.mem_filterMap.mpr ⟨.int (k : Nat), by unfold upTo; exact List.mem_map.mpr ⟨k, List.mem_range.mpr hk, rfl⟩, by show (if ok k = true then _ else _) = _; rw [q]; rfl⟩
            rw [h] at this
            cases this
        · intro h
          refine List.eq_nil_iff_forall_not_mem.mpr fun x hx => ?_
          obtain ⟨y, hy, e⟩ := List.mem_filterMap.mp hx
          unfold upTo at hy
          obtain ⟨k, hk, rfl⟩ := List.mem_map.mp hy
          have e : (if ok k = true then none else some (PyData.int (k : Nat))) = some x := e
          rw [if_pos ((okk k (List.mem_range.mp hk)).mpr fun b c e1 e2 => h k b c e1 e2)] at e
          cases e
end
end EW
set_option maxHeartbeats 3200000
/-! set(list of whole numbers), then sorted. -/
namespace EW
open PySem PySem.Spec PyProof.Rows L2
/-- an empty set's object -/
abbrev set0 (w : World) : Obj := { cls := .type "set", dict := none, data := .set #[] 0 (.fresh 0 0 (!w.params.followText "set-order")) }
section
variable {P : Program} {w : World} {A : Around} {E : Value → Shared → Prop} {s : Shared}
theorem set_of_list {l : Addr} {items : Array Value} (ns : List Int) {Q : Value → Shared → Prop} (noErr : A.handled = none) (isL : s.heap.IsList l items) (hns : IntsAre items.toList ns) (few : ns.length + 1 < scanBound)
    (fin : ∀ (g : Heap) (tk n : Nat), SetR w g s.heap.objs.size (fun j => decide (j ∈ ns)) n → n ≤ ns.length → (∀ b o, s.heap.get? b = some o → g.get? b = some o) → Q (.ref s.heap.objs.size) { s with heap := g, toks := tk }) :
    wpAny (model P w) A (call (.type "set") [.ref l]) Q E s := by
  have size_eq : items.size = ns.length := by
    have := IntsAre.length hns
    rwa [Array.length_toList] at this
  have ⟨c0, tl0, hmro⟩ := F.called_set.mro
  have made_ := F.called_set.made
  have sub_ := F.called_set.sub
  refine wpAny_call (codeAny_of_tree ?_)
  show wpAny _ _ (callAny (.type "set") _) _ _ _
  refine wpAny_pure ⟨Code.quiet_builtin _ (by decide +kernel), codeAny_builtin F.entry_type_call ?_⟩
  rw [Around.under_plain (weight_type_call_type "set" [.ref l] []) rfl]
  have nt := F.called_set.notType
  have cc := F.called_set.canCreate
  have tc := F.typeCall_set_1 (.ref l)
  repeat (any_goals first | wp_step | assumption)
  refine codeAny_mono (code_set_led1 (.ref l) (E := E) (Q₁ := fun v t => v = .ref s.heap.objs.size ∧ t = { s with heap := s.heap.push (set0 w) }) ⟨rfl, rfl⟩) fun r t hr => ?_
  cases r with
  | error e => exact hr
  | ok fl =>
  match fl, hr with
  | .ret v, hr =>
    obtain ⟨rfl, rfl⟩ := hr
    have at0 : (s.heap.push (set0 w)).get? s.heap.objs.size = some (set0 w) := Heap.get?_push_size _ rfl
    have ty0 : Shared.TypeIs { s with heap := s.heap.push (set0 w) } (.ref s.heap.objs.size) "set" := ⟨_, at0, rfl⟩
    have li := F.called_set.init.lookup
    have bi := F.called_set.init.bind (.ref s.heap.objs.size)
    repeat (any_goals first | wp_step | assumption)
    refine codeAny_mono (codeAny_call_builtin (R := wants (fun r t => r = .none ∧ ∃ g tk n, t = { s with heap := g, toks := tk } ∧ SetR w g s.heap.objs.size (fun j => decide (j ∈ ns)) n ∧ n ≤ ns.length ∧ ∀ b o, s.heap.get? b = some o → g.get? b = some o) E)
      F.called_set.init.plain F.entry_set_init (check_set_init_1 ty0 ?_)) fun r2 t2 hr2 => ?_
    · have isL1 : (s.heap.push (set0 w)).IsList l items := isL.push _
      have l1 := F.sub_list_set
      have l2 := F.sub_list_frozenset
      have nd : (Value.type "list" == Value.type "dict") = false := by decide
      obtain ⟨ol, hol, hcl, nl, hdl⟩ := id isL1
      obtain ⟨k1, k2, k3, k4⟩ := ol
      dsimp only at hcl hdl
      subst hcl
      subst hdl
      unfold Builtin.«set.__init__» noKeywords Builtin.Frozenset.updateFrom
      generalize hit : pyIter = iter
      wp_walk
      subst hit
      refine wpAny_pyIter_list isL1 (wpAny_bind (wpAny_runValue ?_))
      have hlt : l < s.heap.objs.size := by
        obtain ⟨_, q, _⟩ := isL
        exact Heap.lt_size q
      have sz : (s.heap.push (set0 w)).objs.size = s.heap.objs.size + 1 := Heap.size_push ..
      have noErr3 : A.in1.in1.in1.handled = none := by simp [noErr]
      have apart : l ≠ (s.heap.push (set0 w)).objs.size := by rw [sz]; exact Nat.ne_of_lt (Nat.lt_succ_of_lt hlt)
      have away : s.heap.objs.size ∉ [(s.heap.push (set0 w)).objs.size, l] := by
        rw [sz]
        simp only [List.mem_cons, List.not_mem_nil, or_false, not_or]
        exact ⟨Nat.ne_of_lt (Nat.lt_succ_self s.heap.objs.size), Nat.ne_of_gt hlt⟩
      have each : ∀ (i : Nat) (v : Value), items[i]? = some v → ∃ k t, ns[i]? = some k ∧ v = .int k t := fun i v hv => by
        have hi : i < ns.length := by rw [← size_eq]; exact (Array.getElem?_eq_some_iff.mp hv).1
        have ⟨t, et⟩ := PyProof.Rows.IntsAre.int_at hns i v (by rw [Array.getElem?_toList]; exact hv)
        have g : ns.getD i 0 = ns[i] := by rw [List.getD_eq_getElem?_getD, List.getElem?_eq_getElem hi]; rfl
        exact ⟨ns[i], t, List.getElem?_eq_getElem hi, by rw [et, g]⟩
      refine set_update_ints ((Walks.list noErr3 _ l apart items).toS) s.heap.objs.size away ns size_eq few each (items.size - 0) 0 _ (by omega) (Nat.zero_le _) ⟨⟨_, Heap.get?_push_size _ rfl, rfl, rfl⟩, isL1.push _⟩
        ⟨0, Nat.le_refl 0, setR_new_at (Heap.get?_push_of_some _ at0)⟩ fun t n hm hn hS => ?_
      obtain ⟨g, g2, d2, tk2, o2⟩ := t
      obtain rfl : g2 = s.gens := hm.gens
      obtain rfl : d2 = s.drawn := hm.drawn
      obtain rfl : o2 = s.os := hm.os
      show wpAny _ _ _ _ _ _
      refine wpAny_pure ?_
      show wpAny _ _ (ret Value.none) _ _ _
      refine wpAny_pure ⟨rfl, g, tk2, n, rfl, hS, by rw [← size_eq]; exact hn, fun b o e => ?_⟩
      have lt0 := Heap.lt_size e
      have e1 : ((s.heap.push (set0 w)).push { cls := .type "list_iterator", data := .fields #[.ref l, .int 0 0] }).get? b = some o := Heap.get?_push_of_some _ (Heap.get?_push_of_some _ e)
      refine hm.heap b o ?_ e1
      rw [sz]
      simp only [List.mem_cons, List.not_mem_nil, or_false, not_or]
      exact ⟨Nat.ne_of_lt lt0, Nat.ne_of_lt (Nat.lt_succ_of_lt lt0)⟩
    · match r2, hr2 with
      | .error e, hr2 => exact hr2
      | .ok (.ret v), hr2 =>
        obtain ⟨rfl, g, tk, n, rfl, hS, hn, keep⟩ := hr2
        repeat (any_goals first | wp_step | assumption)
        exact fin _ _ _ hS hn keep
  | .next, hr => exact hr.elim
end
/-- set(xs), of whole numbers -/
def rSetI (K : PySem.W.Frag) (w : World) : List V → Hp → VK → Prop := fun xs H Q => ∃ (l : Addr) (ns : List Int), xs = [V.ref l] ∧ SqL K H l (ns.map V.int) ∧ ns.length ≤ 60 ∧ ∀ p n, n ≤ ns.length → H p = none → Q (.ref p) (upd H p (SetO w p (fun j => decide (j ∈ ns)) n))
theorem setK {X : Cx} (K : PySem.W.Frag) (w : World) (h : X.K = K := by rfl) (hw : X.w = w := by rfl) (hc : X.calm = true := by rfl) : CallR X (.type "set") (rSetI K w) := by
  subst h
  subst hw
  intro pins s σ H xs us Q I r h
  obtain ⟨l, ns, rfl, hq, few, q⟩ := h
  obtain ⟨its, rv, pl, _⟩ := I.list hq
  rw [Vals.ref1 r]
  refine set_of_list ns (I.ok.hd hc) pl.isList (RZ.intsAre_vals rv) (by unfold scanBound; omega) fun g tk n R hn keep => ?_
  exact ⟨.ref _, _, I.laid (t' := tk) keep (Nat.le_refl _) (setO_new R), rfl, q _ n hn (I.hok.fresh (Nat.le_refl _))⟩
theorem sortedSetK {X : Cx} (w : World) (hw : X.w = w := by rfl) (hc : X.calm = true := by rfl) : CallR X (.builtin "sorted") (rSortedSet w) := by
  subst hw
  exact cr_sortedSet hc
end EW
/-! the law's judges: one ring, bars -/
namespace EW
open PySem PyProof.Rows L2
section
variable {P : Program} {w : World} {K : PySem.W.Frag} {mg : Str → Option Value} {base : Heap}
section
variable {Γ : Ctx} {Ω : List Ob} {ta tb : TE} {ns : List Int} {v : Int}
theorem de_ninL (ha : DE ta Γ Ω (.int v)) (hb : DE tb Γ Ω (.list (ns.map .int))) : DE (tOp (rIn K true) ta tb) Γ Ω (.bool (!decide (v ∈ ns))) := de_of fun O A σ H s Q q =>
  two ha hb s fun x y H' e s r r2 => by
    obtain ⟨a, xs, rfl, hx, rx⟩ := r2.list_of
    rw [r.int_of]
    rw [rx.ints_of] at hx
    refine ⟨a, _, rfl, .inl (SqL.of (off_of hx).2), rfl, flat_ints ns, ?_⟩
    show Q (.bl (!inV _ _)) H'
    rw [inV_ints]
    exact q _ H' e s (rp_bool _)
theorem dep_sorted {P : List Int → Prop} (ha : DEp ta Γ Ω fun d => ∃ ns : List Int, d = .list (ns.map .int) ∧ P ns) : DEp (tCB (rSortedI K) (tCons ta tNil)) Γ Ω fun d => ∃ ns ms : List Int, d = .list (ms.map .int) ∧ P ns ∧ ms.Perm ns ∧ ms.Pairwise (· ≤ ·) := fun O A σ H s Q q =>
  ha O A σ H s _ fun x H1 d e1 s1 r1 ⟨ns, ed, p⟩ => by
    subst ed
    obtain ⟨a, xs, rfl, hx, rx⟩ := r1.list_of
    rw [rx.ints_of] at hx
    refine ⟨a, ns, rfl, SqL.of (off_of hx).2, fun ms p1 h1 h2 hp => ?_⟩
    obtain ⟨a1, a2, a3, a4⟩ := s1.alloc (o := .lst (ms.map V.int)) hp
    exact q _ _ _ (e1.trans a2) a1 (rp_list a4 (rpl_ints ms)) ⟨ns, ms, rfl, p, h1, h2⟩
theorem dep_sortedSet (ha : DE ta Γ Ω (.list (ns.map .int))) (hl : ns.length ≤ 60) : DEp (tCB (rSortedSet w) (tCons (tCB (rSetI K w) (tCons ta tNil)) tNil)) Γ Ω fun d => ∃ ms : List Int, d = .list (ms.map .int) ∧ ms.Pairwise (· < ·) ∧ ∀ k, k ∈ ms ↔ k ∈ ns := fun O A σ H s Q q =>
  ha.run s fun x H1 e1 s1 r1 => by
    obtain ⟨a, xs, rfl, hx, rx⟩ := r1.list_of
    rw [rx.ints_of] at hx
    refine ⟨a, ns, rfl, SqL.of (off_of hx).2, hl, fun p n hn hp => ?_⟩
    obtain ⟨b1, b2, _, _⟩ := s1.alloc (o := SetO w p (fun j => decide (j ∈ ns)) n) hp
    refine ⟨p, _, n, rfl, upd_same, by omega, fun ms p2 h1 h2 _ hp2 => ?_⟩
    obtain ⟨a1, a2, a3, a4⟩ := b1.alloc (o := .lst (ms.map V.int)) hp2
    exact q _ _ _ ((e1.trans b2).trans a2) a1 (rp_list a4 (rpl_ints ms)) ⟨ms, rfl, h1, fun k => by rw [h2 k, decide_eq_true_iff]⟩
theorem dep_eqD2 {P1 P2 : PyData → Prop} (ha : DEp ta Γ Ω P1) (hb : DEp tb Γ Ω P2) (h1 : ∀ d, P1 d → SeqAt.shaped d = true) (h2 : ∀ d, P2 d → SeqAt.shaped d = true) : DEp (tOp (rEqD K) ta tb) Γ Ω fun d => ∃ d1 d2, P1 d1 ∧ P2 d2 ∧ d = .bool (PyData.eqv d1 d2) := fun O A σ H s Q q =>
  ha O A σ H s _ fun x H1 d1 e1 s1 r1 p1 => hb O A σ H1 s1 _ fun y H2 d2 e2 s2 r2 p2 => ⟨d1, d2, ((r1.ex (vw e2)).ex off_le).dp, (r2.ex off_le).dp, h1 d1 p1, h2 d2 p2, q _ H2 _ (e1.trans e2) s2 (rp_bool _) ⟨d1, d2, p1, p2, rfl⟩⟩
end
abbrev s_law_come : Stmt := topS 55
abbrev N_law_come : List Str := ["_law_arrows", "_law_place", "_law_here", "_law_at", "_law_x", "_law_y"]
theorem sc_law_come : FnScope N_law_come ["_law_arrows", "_law_place"] (defScope s_law_come) := ⟨rfl, rfl, rfl, by decide +kernel, rfl, by decide +kernel, by decide +kernel⟩
abbrev Q_law_come (P : Program) (w : World) (K : PySem.W.Frag) (mg : Str → Option Value) (base : Heap) : Prop := Df P w K mg base CX0 1 "_law_come" s_law_come ["_law_arrows", "_law_place"] (SpG (fun x : List Arr × Nat => [.list ((both x.1).map pairN), .int x.2]) (fun x => x.1.length ≤ 15 ∧ x.2 ∈ endsOf x.1) fun x r => ∃ here, r = .list (natsL here) ∧ Come x.1 x.2 here ∧ ∀ v ∈ here, Nbr x.1 here v)
theorem df_law_come (B : Bl mg) (F : Fx K mg "_law_come" s_law_come) : Q_law_come P w K mg base := by
  refine df_of F sc_law_come (fun _ _ F => F.binds fun _ _ _ _ _ _ us hl => match us, hl with | [_, _], _ => rfl) (fun _ => rfl) fun f cdv A outer s H Q E O x σ hr W a q => ?_
  obtain ⟨l, s0⟩ := x
  obtain ⟨hl, hs0⟩ : l.length ≤ 15 ∧ s0 ∈ endsOf l := W
  dsimp only at a q
  have elen := endsOf_len l
  refine ⟨_, (pss_cons (ps_set (i := 2) sc_law_come.nd rfl (Or.inl rfl) (pe_lst (pa_cons (pv 1) pa_nil)))
        (pss_cons (ps_set (i := 3) sc_law_come.nd rfl (Or.inl rfl) pe_int)
        (pss_cons (ps_while PassesOwn.never (pt_cmpR op_lt (pv 3) (pe_callB (lenK K) (by rfl) B.m_len (by decide +kernel) (pa_cons (pv 2) pa_nil)) (nomark _))
          (pss_cons (ps_for PassesOwn.never rfl (piListK K (pv 0)) (pgTupK K (n := 2) (pgs_cons (pg_name (i := 4) sc_law_come.nd rfl (Or.inl rfl)) (pgs_cons (pg_name (i := 5) sc_law_come.nd rfl (Or.inl rfl)) pgs_nil)))
            (pss_one (ps_if (PW.pt (pw_and (pt_cmpR op_eq (pv 4) (pe_ix (ixK K) (pv 2) (pv 3) (fun _ _ => rfl)) (nomark _)) (pw_and1 (pt_cmpR (ninK K) (pv 5) (pv 2) (by rfl)))))
              (pss_one (ps_expr (bmK K PySem.F.plainAttrs_list PySem.F.slot_list_append PySem.F.type_list_append mt_append (pv 2) (pa_cons (pv 5) pa_nil))))
              pss_nil)))
          (pss_one (ps_set (i := 3) sc_law_come.nd rfl (Or.inl rfl) (pe_op op_add (pv 3) pe_int)))))
        (pss_one (ps_ret (pv 2)))))), ?_⟩
  refine st_seq (st_setN (dn_lst (da_cons (de_var rfl) da_nil)) a fun σ H a => ?_)
  refine st_seq (st_set (de_int 0) a fun σ H a => ?_)
  have C0 : Come l s0 [s0] := ⟨by simp, fun v hv => by rw [List.mem_singleton.mp hv]; exact hs0, List.mem_singleton.mpr rfl, fun S _ hS v hv => by rw [List.mem_singleton.mp hv]; exact hS⟩
  refine st_seq (st_while (α := List Nat × Nat) (fun m x => Come l s0 x.1 ∧ x.2 ≤ x.1.length ∧ (∀ j v, j < x.2 → x.1[j]? = some v → Nbr l x.1 v) ∧ m = (endsOf l).length - x.2) (fun x => [.dat (.list ((both l).map pairN)), .dat (.int s0), .own 0, .dat (.int x.2), .no, .no]) (fun x => [.lst (natsL x.1)]) (fun x => decide (x.2 < x.1.length)) (x0 := ([s0], 0)) ⟨C0, Nat.zero_le _, fun j v h => absurd h (Nat.not_lt_zero j), rfl⟩ rfl rfl (fun _ => rfl) a (fun m x ⟨C, _, _, _⟩ => ?_) (fun m x ⟨C, hat, hn, em⟩ hb H1 A hA _ N σ H hN a => ?_) fun m x ⟨C, hat, hn, em⟩ hb σ H a => ?_)
  · refine dtT (de_I0 (de_var rfl) (de_lenO (do_var rfl) rfl)) ?_
    rw [natsL_len]
    congr 1
    simp
  · obtain ⟨here, at0⟩ := x
    have C : Come l s0 here := C
    have hlt : at0 < here.length := of_decide_eq_true hb
    obtain ⟨wv, hw⟩ : ∃ wv, here[at0]? = some wv := ⟨_, List.getElem?_eq_getElem hlt⟩
    have hwm := List.mem_of_getElem? hw
    have len30 : ∀ h2, Come l s0 h2 → h2.length ≤ 30 := fun h2 c => by
      have := nodup_len c.nodup c.sub
      omega
    have sub0 : ∀ j, ∀ b ∈ (both l).take j, b ∈ both l := fun j b hb => List.mem_of_mem_take hb
    refine st_seq (st_for (α := Unit) (di_list (ds := (both l).map pairN) (de_var rfl)) a fun ds e => ?_)
    subst e
    refine ⟨fun _ _ => True, fun j _ => [.dat (.list ((both l).map pairN)), .dat (.int s0), .own 0, .dat (.int at0), .no, .no], fun j _ => [.lst (natsL (((both l).take j).foldl (comeOne wv) here))], (), trivial, rfl, rfl, fun _ _ => rfl, fun j _ d hd _ => ?_, fun _ _ σ H a => ?_⟩
    · obtain ⟨b, hb, rfl⟩ := arr_at hd
      have hn2 : ((both l).take (j + 1)).foldl (comeOne wv) here = comeOne wv (((both l).take j).foldl (comeOne wv) here) b := by
        rw [List.take_add_one, hb, List.foldl_append]
        rfl
      obtain ⟨C2, ⟨r2, e2⟩, _⟩ := come_fold ((both l).take j) here (sub0 j) C hwm
      refine ⟨[4, 5], _, dg_tup (dgs_cons dg_name (dgs_cons dg_name dgs_nil)), fun H2 A2 hA2 _ N2 σ H hN2 a => ?_⟩
      dsimp only at hN2 a
      rw [hn2] at hN2
      have hw2 : (((both l).take j).foldl (comeOne wv) here)[at0]? = some wv := by
        rw [e2, List.getElem?_append_left hlt]
        exact hw
      generalize ((both l).take j).foldl (comeOne wv) here = S at *
      have hS30 := len30 S C2
      have hwS : (natsL S)[at0]? = some (.int (wv : Nat)) := by
        unfold natsL
        rw [List.getElem?_map, hw2]
        rfl
      refine st_if (b := decide (b.1 = wv ∧ b.2 ∉ S)) (dt_is (dt_and (dt_test (de_eqI (de_var rfl) (de_ixO (do_var rfl) (de_var rfl) rfl (atI_nat hwS)))) fun _ => dt_test (de_ninO (ns := S.map fun v : Nat => (v : Int)) (de_var rfl) (do_var rfl) (by rw [← natsL_ints]; rfl))) ?_) a (fun H hb a => ?_) fun H hb a => ?_
      · rw [natI, decide_eq_decide.mpr (mem_nats (l := S) (v := b.2)), Bool.decide_and, decide_not]
      · have hc := of_decide_eq_true hb
        refine st_append (P := (· = .int (b.2 : Nat))) (do_var rfl) (de_var rfl) rfl (by rw [natsL_len]; omega) a fun σ H d ed a => hN2 σ H () trivial ?_
        subst ed
        have e3 : comeOne wv S b = S ++ [b.2] := by
          unfold comeOne
          rw [if_pos hc]
        rw [e3, show natsL (S ++ [b.2]) = natsL S ++ [.int (b.2 : Nat)] by unfold natsL; rw [List.map_append]; rfl]
        exact a.no [4, 5]
      · have e3 : comeOne wv S b = S := by
          unfold comeOne
          rw [if_neg (of_decide_eq_false hb)]
        refine st_next (hN2 σ H () trivial ?_)
        rw [e3]
        exact a.no [4, 5]
    · rw [List.length_map] at a
      change At _ _ _ [.lst (natsL (((both l).take (both l).length).foldl (comeOne wv) here))] _ _ _ at a
      rw [List.take_length] at a
      obtain ⟨C2, ⟨r2, e2⟩, h2⟩ := come_fold (both l) here (fun b hb => hb) C hwm
      have e30 := nodup_len C.nodup C.sub
      refine st_set (d := .int ((at0 + 1 : Nat) : Int)) (de_is (de_I0 (de_var rfl) (de_int 1)) (by congr 1)) a fun σ H a => hN σ H ((endsOf l).length - (at0 + 1)) ((both l).foldl (comeOne wv) here, at0 + 1) (by omega) ⟨C2, ?_, fun j v hj hv => ?_, rfl⟩ a
      · show at0 + 1 ≤ ((both l).foldl (comeOne wv) here).length
        rw [e2, List.length_append]
        omega
      · have hv2 : ((both l).foldl (comeOne wv) here)[j]? = some v := hv
        have hj2 : j < at0 + 1 := hj
        rw [e2, List.getElem?_append_left (by omega)] at hv2
        intro b hb hbv
        by_cases ej : j = at0
        · rw [ej, hw] at hv2
          cases hv2
          exact h2 b hb hbv
        · have := hn j v (show j < at0 by omega) hv2 b hb hbv
          show b.2 ∈ (both l).foldl (comeOne wv) here
          rw [e2]
          exact List.mem_append_left _ this
  · obtain ⟨here, at0⟩ := x
    have hb : ¬ at0 < here.length := of_decide_eq_false hb
    refine st_ret (de_var rfl) (a.release (Ω := []) (Nat.le_refl _)) fun v H' a' r => q _ _ _ _ _ _ a' r ⟨here, rfl, C, fun v hv => ?_⟩
    obtain ⟨j, hj⟩ := List.mem_iff_getElem?.mp hv
    have := (List.getElem?_eq_some_iff.mp hj).1
    exact hn j v (show j < at0 by omega) hj
open Classical in
noncomputable def singleB (as : List Arr) (ms : List Int) : Bool := decide (Single (someOf as ms))
open Classical in
theorem singleB_iff {as : List Arr} {ms : List Int} : singleB as ms = true ↔ Single (someOf as ms) := decide_eq_true_iff
theorem singleB_not {as : List Arr} {ms : List Int} (h : ¬ Single (someOf as ms)) : singleB as ms = false := by
  cases z : singleB as ms with
  | false => rfl
  | true => exact absurd (singleB_iff.mp z) h
theorem some_range : ∀ (as : List Arr) (ms : List Int), ms.length = as.length → (List.range ms.length).filterMap (fun k => if ms.getD k 0 = 0 then none else some (as.getD k (0, 0))) = someOf as ms
  | [], [], _ => rfl
  | a :: as, m :: ms, h => by
    rw [List.length_cons, List.range_succ_eq_map, List.filterMap_cons, List.filterMap_map]
    have ih := some_range as ms (by simpa using h)
    rw [show someOf (a :: as) (m :: ms) = if m = 0 then someOf as ms else a :: someOf as ms from rfl, ← ih]
    have ec : ((fun k => if (m :: ms).getD k 0 = 0 then none else some ((a :: as).getD k (0, 0))) ∘ Nat.succ) = fun k => if ms.getD k 0 = 0 then none else some (as.getD k (0, 0)) := by
      funext k
      simp
    rw [ec]
    by_cases e : m = 0
    · simp [e]
    · simp [e]
  | [], _ :: _, h => by simp at h
  | _ :: _, [], h => by simp at h
theorem ends_append : ∀ l m : List Arr, endsOf (l ++ m) = endsOf l ++ endsOf m
  | [], m => rfl
  | a :: l, m => by
    show a.1 :: a.2 :: endsOf (l ++ m) = a.1 :: a.2 :: (endsOf l ++ endsOf m)
    rw [ends_append l m]
abbrev s_law_is_single : Stmt := topS 56
abbrev N_law_is_single : List Str := ["_law_web_here", "_law_value", "_law_some", "_law_k", "_law_ends", "_law_x", "_law_y", "_law_end", "_law_both"]
theorem sc_law_is_single : FnScope N_law_is_single ["_law_web_here", "_law_value"] (defScope s_law_is_single) := ⟨rfl, rfl, rfl, by decide +kernel, rfl, by decide +kernel, by decide +kernel⟩
abbrev Q_law_is_single (P : Program) (w : World) (K : PySem.W.Frag) (mg : Str → Option Value) (base : Heap) : Prop := Df P w K mg base CX0 2 "_law_is_single" s_law_is_single ["_law_web_here", "_law_value"] (SpG (fun x : Nat × List Arr × List Int => [webD x.1 x.2.1, intsT x.2.2]) (fun x => Wb x.1 x.2.1 ∧ x.2.2.length = x.2.1.length) fun x r => r = .bool (singleB x.2.1 x.2.2))
theorem df_law_is_single (B : Bl mg) (F : Fx K mg "_law_is_single" s_law_is_single) (D_law_come : Q_law_come P w K mg base) : Q_law_is_single P w K mg base := by
  refine df_of F sc_law_is_single (fun _ _ F => F.binds fun _ _ _ _ _ _ us hl => match us, hl with | [_, _], _ => rfl) (fun _ => rfl) fun f cdv A outer s H Q E O x σ hr W a q => ?_
  obtain ⟨n, as, ms⟩ := x
  obtain ⟨W, hl⟩ : Wb n as ∧ ms.length = as.length := W
  dsimp only at a q
  have hfew : as.length ≤ 15 := W.few
  have sfew : (someOf as ms).length ≤ 15 := Nat.le_trans (someOf_len as ms) hfew
  have elen : (endsOf (someOf as ms)).length ≤ 30 := by rw [endsOf_len]; omega
  refine ⟨_, (pss_cons (ps_setLc (i := 2) (own := [("_law_k", 3)]) rfl sc_law_is_single.nd rfl rfl (sw_true rfl rfl rfl (by decide +kernel)) (pi_range1 (by rfl) B.m_range (pa_cons (pe_callB (lenK K) (by rfl) B.m_len (by decide +kernel) (pa_cons (pv 1) pa_nil)) pa_nil)) (blkOk_by (N := N_law_is_single) (sc := defScope s_law_is_single) (own := [("_law_k", 3)]) (by decide +kernel)) (fun _ _ _ _ _ => (pg_name (i := 3) sc_law_is_single.nd rfl (Or.inl rfl))) (fun _ _ _ _ _ => (pts_one (pt_cmpR op_ne (pe_ix (ixK K) (pv 1) (pv 3) (fun _ _ => rfl)) pe_int (nomark _)))) (fun _ _ _ _ _ => (pe_ix (ixK K) (pe_ix (ixK K) (pv 0) pe_int (fun _ _ => rfl)) (pv 3) (fun _ _ => rfl))))
        (pss_cons (ps_set (i := 4) sc_law_is_single.nd rfl (Or.inr rfl) (pe_lst pa_nil))
        (pss_cons (ps_for PassesOwn.never rfl (piListK K (pv 2)) (pgTupK K (n := 2) (pgs_cons (pg_name (i := 5) sc_law_is_single.nd rfl (Or.inl rfl)) (pgs_cons (pg_name (i := 6) sc_law_is_single.nd rfl (Or.inl rfl)) pgs_nil)))
          (pss_one (ps_set (i := 4) sc_law_is_single.nd rfl (Or.inr rfl) (pe_op op_cat (pv 4) (pe_lst (pa_cons (pv 5) (pa_cons (pv 6) pa_nil)))))))
        (pss_cons (ps_if (PW.pt (pw_or (pt_cmpR (eqDK K hr.units) (pv 2) (pe_lst pa_nil) (nomark _)) (pw_or1 (pt_cmpR (neDK K hr.units) (pe_lc (own := [("_law_end", 7)]) rfl sc_law_is_single.nd (piListK K (pv 4)) (blkOk_by (N := N_law_is_single) (sc := defScope s_law_is_single) (own := [("_law_end", 7)]) (by decide +kernel)) (fun _ _ _ _ _ => (pg_name (i := 7) sc_law_is_single.nd rfl (Or.inl rfl))) (fun _ _ _ _ _ => (pts_one (pt_cmpR op_ne (bmK K PySem.F.plainAttrs_list PySem.F.slot_list_count PySem.F.type_list_count (countK K) (pv 4) (pa_cons (pv 7) pa_nil)) pe_int (nomark _)))) (fun _ _ _ _ _ => (pv 7))) (pe_lst pa_nil) (nomark _)))))
          (pss_one (ps_ret pe_bl))
          pss_nil)
        (pss_cons (ps_set (i := 8) sc_law_is_single.nd rfl (Or.inl rfl) (pe_op op_cat (pv 2) (pe_lc (own := [("_law_x", 5), ("_law_y", 6)]) rfl sc_law_is_single.nd (piListK K (pv 2)) (blkOk_by (N := N_law_is_single) (sc := defScope s_law_is_single) (own := [("_law_x", 5), ("_law_y", 6)]) (by decide +kernel)) (fun _ _ _ _ _ => (pgTupK K (n := 2) (pgs_cons (pg_name (i := 5) sc_law_is_single.nd rfl (Or.inl rfl)) (pgs_cons (pg_name (i := 6) sc_law_is_single.nd rfl (Or.inl rfl)) pgs_nil)))) (fun _ _ _ _ _ => pts_nil) (fun _ _ _ _ _ => (pe_tup (pa_cons (pv 6) (pa_cons (pv 5) pa_nil)))))))
        (pss_one (ps_ret (pe_cmpR (eqDK K hr.units) (pe_callB (sortedK K) (by rfl) B.m_sorted (by decide +kernel) (pa_cons (pe_df D_law_come (hr.mono (by decide)) (by rfl) (pa_cons (pv 8) (pa_cons (pe_ix (ixK K) (pv 4) pe_int (fun _ _ => rfl)) pa_nil))) pa_nil)) (pe_callB (sortedSetK w) (by rfl) B.m_sorted (by decide +kernel) (pa_cons (pe_callTy (setK K w) (by rfl) B.m_set (by decide +kernel) (pa_cons (pv 4) pa_nil)) pa_nil)) (nomark _))))))))), ?_⟩
  refine st_seq (st_set (d := .list ((someOf as ms).map pairN)) (de_is (dn_lc (fun d => match d with | .int k => if ms.getD k.toNat 0 = 0 then none else some (pairN (as.getD k.toNat (0, 0))) | _ => none) (di_range (n := ms.length) (de_is (de_lenT (ds := ms.map .int) (de_var rfl)) (by rw [List.length_map])) (by omega)) (by rw [upTo_len]; omega) fun i d hd => ?_).de ?_) a fun σ H a => ?_)
  · obtain ⟨hi, rfl⟩ := upTo_at hd
    have hai : (as.map pairN)[i]? = some (pairN (as.getD i (0, 0))) := by
      rw [List.getElem?_map, List.getD_eq_getElem?_getD, List.getElem?_eq_getElem (by omega)]
      rfl
    have hmi : (ms.map PyData.int)[i]? = some (.int (ms.getD i 0)) := getD_at hi
    refine ⟨_, dg_name, dt_is (dt_test (de_neI (de_ixT (ds := ms.map .int) (de_var rfl) (de_var rfl) (atI_nat hmi)) (de_int 0))) ?_, fun e he => ?_⟩
    · show (!decide (ms.getD i 0 = 0)) = (if ms.getD i 0 = 0 then none else some (pairN (as.getD i (0, 0)))).isSome
      by_cases h : ms.getD i 0 = 0
      · rw [if_pos h, decide_eq_true h]; rfl
      · rw [if_neg h, decide_eq_false h]; rfl
    · have he : (if ms.getD i 0 = 0 then none else some (pairN (as.getD i (0, 0)))) = some e := he
      by_cases h : ms.getD i 0 = 0
      · rw [if_pos h] at he; cases he
      · rw [if_neg h] at he; cases he; exact de_ixT (de_web1 rfl) (de_var rfl) (atI_nat hai)
  · rw [← some_range as ms hl]
    unfold upTo
    rw [List.filterMap_map, List.map_filterMap]
    congr 2
    funext k
    show (if ms.getD k 0 = 0 then none else some (pairN (as.getD k (0, 0)))) = (if ms.getD k 0 = 0 then none else some (as.getD k (0, 0))).map pairN
    split <;> rfl
  generalize hL : someOf as ms = L at *
  refine st_seq (st_set (d := .list (natsL [])) (de_lst da_nil) a fun σ H a => ?_)
  refine st_seq (st_for (α := Unit) (di_list (ds := L.map pairN) (de_var rfl)) a fun ds e => ?_)
  subst e
  refine ⟨fun _ _ => True, fun i _ => [.dat (webD n as), .dat (intsT ms), .dat (.list (L.map pairN)), .no, .dat (.list (natsL (endsOf (L.take i)))), .no, .no, .no, .no], fun i _ => [], (), trivial, rfl, rfl, fun _ _ => rfl, fun i _ d hd _ => ?_, fun _ _ σ H a => ?_⟩
  · obtain ⟨e, he, rfl⟩ := arr_at hd
    have hi := (List.getElem?_eq_some_iff.mp he).1
    have h1 := endsOf_len (L.take i)
    rw [List.length_take] at h1
    refine ⟨[5, 6], _, dg_tup (dgs_cons dg_name (dgs_cons dg_name dgs_nil)), fun H1 A hA _ N σ H hN a => ?_⟩
    refine st_set (d := .list (natsL (endsOf (L.take (i + 1))))) (de_is (dn_cat (ds := natsL (endsOf (L.take i))) (es := natsL [e.1, e.2]) (de_var rfl) (de_lst (da_cons (de_var rfl) (da_cons (de_var rfl) da_nil))) (by rw [natsL_len, natsL_len]; show _ + 2 ≤ _; omega)).de ?_) a fun σ H a => hN σ H () trivial (a.no [5, 6])
    rw [List.take_add_one, he, ends_append]
    unfold natsL
    rw [List.map_append]
    rfl
  · rw [List.length_map] at a
    change At _ _ _ _ [.dat (webD n as), .dat (intsT ms), .dat (.list (L.map pairN)), .no, .dat (.list (natsL (endsOf (L.take L.length)))), .no, .no, .no, .no] _ _ at a
    rw [List.take_length] at a
    refine st_seq (st_if (b := L.isEmpty || !((endsOf L).all fun v => decide ((endsOf L).count v = 2))) (dt_is (dt_or (dtT (b := L.isEmpty) (de_eqD (de_var rfl) (de_lst da_nil) (Tame.shaped (k := 2) (tame_list fun d hd => ?_)) rfl) ?_) fun _ =>
      dtT (b := !((endsOf L).all fun v => decide ((endsOf L).count v = 2))) (de_neD (dn_lc (fun d => match d with | .int v => if (endsOf L).count v.toNat = 2 then none else some (.int v) | _ => none) (di_list (ds := natsL (endsOf L)) (de_var rfl)) (by rw [natsL_len]; omega) fun i d hd => ?_).de (de_lst da_nil) (Tame.shaped (k := 1) (tame_list fun d hd => ?_)) rfl) ?_) rfl) a (fun H hb a => ?_) fun H hb a => st_next ?_)
    · obtain ⟨x, _, rfl⟩ := List.mem_map.mp hd
      exact tame_tuple (k := 0) fun d hd => by
        simp only [List.mem_cons, List.not_mem_nil, or_false] at hd
        rcases hd with rfl | rfl <;> exact tame_int 0 _
    · rw [eqv_nilL, List.isEmpty_map]
    · obtain ⟨v, hv, rfl⟩ := nat_at hd
      refine ⟨_, dg_name, dt_is (dt_test (de_neI (de_count (ns := (endsOf L).map fun v : Nat => (v : Int)) (de_is (de_var (d := .list (natsL (endsOf L))) rfl) (by rw [natsL_ints])) (de_var rfl)) (de_int 2))) ?_, fun e he => ?_⟩
      · rw [count_nats]
        show (!decide (((endsOf L).count v : Nat) = (2 : Int))) = (if (endsOf L).count v = 2 then none else some (PyData.int (v : Nat))).isSome
        rw [show decide (((endsOf L).count v : Nat) = (2 : Int)) = decide ((endsOf L).count v = 2) from natI (j := 2)]
        by_cases h : (endsOf L).count v = 2
        · rw [if_pos h, decide_eq_true h]; rfl
        · rw [if_neg h, decide_eq_false h]; rfl
      · have he : (if (endsOf L).count v = 2 then none else some (PyData.int (v : Nat))) = some e := he
        split at he
        · cases he
        · cases he; exact de_var rfl
    · obtain ⟨x, hx, h⟩ := List.mem_filterMap.mp hd
      unfold natsL at hx
      obtain ⟨v, _, rfl⟩ := List.mem_map.mp hx
      have h : (if (endsOf L).count v = 2 then none else some (PyData.int (v : Nat))) = some d := h
      split at h
      · cases h
      · cases h; exact tame_int 0 _
    · rw [eqv_nilL]
      congr 2
      refine Bool.eq_iff_iff.mpr ?_
      rw [List.isEmpty_iff, List.all_eq_true]
      constructor
      · intro h v hv
        by_cases e : (endsOf L).count v = 2
        · exact decide_eq_true e
        · have : PyData.int (v : Nat) ∈ (natsL (endsOf L)).filterMap fun d => match d with | .int v => if (endsOf L).count v.toNat = 2 then none else some (.int v) | _ => none := List.mem_filterMap.mpr ⟨.int (v : Nat), List.mem_map.mpr ⟨v, hv, rfl⟩, by show (if (endsOf L).count v = 2 then _ else _) = _; rw [if_neg e]⟩
          rw [h] at this
          cases this
      · intro h
        refine List.eq_nil_iff_forall_not_mem.mpr fun x hx => ?_
        obtain ⟨y, hy, e⟩ := List.mem_filterMap.mp hx
        unfold natsL at hy
        obtain ⟨v, hv, rfl⟩ := List.mem_map.mp hy
        have e : (if (endsOf L).count v = 2 then none else some (PyData.int (v : Nat))) = some x := e
        rw [if_pos (of_decide_eq_true (h v hv))] at e
        cases e
    · refine st_ret (de_bl false) a fun v H' a' r => q _ _ _ _ _ _ a' r ?_
      congr 1
      refine (singleB_not fun h2 => ?_).symm
      rw [hL] at h2
      rw [Bool.or_eq_true] at hb
      rcases hb with hb | hb
      · exact h2.1 (List.isEmpty_iff.mp hb)
      · rw [Bool.not_eq_true', List.all_eq_false] at hb
        obtain ⟨v, hv, hv2⟩ := hb
        exact hv2 (decide_eq_true (h2.2.1 v hv))
    · rw [Bool.or_eq_false_iff, Bool.not_eq_false', List.all_eq_true] at hb
      have hne : L ≠ [] := fun z => by rw [z] at hb; cases hb.1
      have hcnt : ∀ v ∈ endsOf L, (endsOf L).count v = 2 := fun v hv => of_decide_eq_true (hb.2 v hv)
      obtain ⟨e0, he0⟩ : ∃ e0, L.head? = some e0 := by
        cases z : L with
        | nil => exact absurd z hne
        | cons x l => exact ⟨x, rfl⟩
      have hs0 : e0.1 ∈ endsOf L := endsOf_mem.mpr ⟨e0, List.mem_of_mem_head? he0, .inl rfl⟩
      have hend0 : (natsL (endsOf L))[0]? = some (.int (e0.1 : Nat)) := by
        cases z : L with
        | nil => exact absurd z hne
        | cons x l => rw [z] at he0; cases he0; rfl
      refine st_seq (st_set (d := .list ((both L).map pairN)) (de_is (dn_cat (ds := L.map pairN) (de_var rfl) (dn_lcA (fun d => match d with | .tuple [x, y] => .tuple [y, x] | _ => .none) (di_list (ds := L.map pairN) (de_var rfl)) (by rw [List.length_map]; omega) fun i d hd => ?_).de (by rw [List.length_map, List.length_map, List.length_map]; omega)).de ?_) a fun σ H a => ?_)
      · obtain ⟨e, he, rfl⟩ := arr_at hd
        exact ⟨_, dg_tup (dgs_cons dg_name (dgs_cons dg_name dgs_nil)), de_tup (da_cons (de_var rfl) (da_cons (de_var rfl) da_nil))⟩
      · unfold both
        rw [List.map_append, List.map_map, List.map_map]
        rfl
      refine st_ret (d := .bool (singleB as ms)) (dep_mono (dep_eqD2 (dep_sorted (P := fun ns => ∃ here, ns = here.map (fun v : Nat => (v : Int)) ∧ Come L e0.1 here ∧ ∀ v ∈ here, Nbr L here v) (dep_mono (dep_callG (L, e0.1) (da_cons (de_var rfl) (da_cons (de_ixL (ds := natsL (endsOf L)) (de_var rfl) (de_int 0) (atI_nat hend0)) da_nil)) ⟨sfew, hs0⟩) fun d ⟨here, ed, h1, h2⟩ => ⟨_, by rw [ed, natsL_ints], here, rfl, h1, h2⟩)) (dep_sortedSet (ns := (endsOf L).map fun v : Nat => (v : Int)) (de_is (de_var (d := .list (natsL (endsOf L))) rfl) (by rw [natsL_ints])) (by rw [List.length_map]; omega)) ?_ ?_) ?_) a fun v H' a' r => q _ _ _ _ _ _ a' r rfl
      · rintro _ ⟨_, ns, rfl, _⟩
        exact Tame.shaped (k := 1) (tame_list (tame_ints ns))
      · rintro _ ⟨ns, rfl, _⟩
        exact Tame.shaped (k := 1) (tame_list (tame_ints ns))
      · rintro _ ⟨_, _, ⟨_, xs, rfl, ⟨here, rfl, C, hnb⟩, hp, hle⟩, ⟨ys, rfl, hlt, hmem⟩, rfl⟩
        show PyData.bool (PyData.eqvAll (xs.map .int) (ys.map .int)) = _
        rw [eqv_ints]
        congr 1
        refine Bool.eq_iff_iff.mpr ?_
        rw [decide_eq_true_iff, singleB_iff, hL]
        have hnd : xs.Nodup := hp.nodup_iff.mpr (by
          have := C.nodup
          rw [List.nodup_iff_pairwise_ne] at this ⊢
          exact List.Pairwise.map _ (fun a b h z => h (by omega)) this)
        have hxlt := le_lt_of_nodup hle hnd
        have mx : ∀ v : Nat, (v : Int) ∈ xs ↔ v ∈ here := fun v => by rw [hp.mem_iff]; exact mem_nats
        have my : ∀ v : Nat, (v : Int) ∈ ys ↔ v ∈ endsOf L := fun v => by rw [hmem]; exact mem_nats
        have key := come_end he0 C hnb
        constructor
        · intro e
          refine ⟨hne, hcnt, key.mp fun v hv => ?_⟩
          rw [← mx, e, my]
          exact hv
        · intro h
          refine rise_eq hxlt hlt fun z => ⟨fun hz => ?_, fun hz => ?_⟩
          · have := hp.mem_iff.mp hz
            obtain ⟨v, hv, rfl⟩ := List.mem_map.mp this
            exact (my v).mpr (C.sub v hv)
          · have := (hmem z).mp hz
            obtain ⟨v, hv, rfl⟩ := List.mem_map.mp this
            exact (mx v).mpr (key.mpr h.2.2 v hv)
end
end EW
/-! the law's judges: bars -/
namespace EW
open PySem PyProof.Rows L2
def selL (p : Int → Bool) (g : Bnd → Int) (bs : List Bnd) (ms : List Int) : List Int := (bs.zip ms).filterMap fun q => if p q.2 = true then some (g q.1) else none
theorem sel_range (p : Int → Bool) (g : Bnd → Int) : ∀ (bs : List Bnd) (ms : List Int), bs.length = ms.length → (List.range ms.length).filterMap (fun k => if p (ms.getD k 0) = true then some (g (bs.getD k (0, 0))) else none) = selL p g bs ms
  | [], [], _ => rfl
  | b :: bs, m :: ms, h => by
    rw [List.length_cons, List.range_succ_eq_map, List.filterMap_cons, List.filterMap_map]
    have ih := sel_range p g bs ms (by simpa using h)
    have e2 : selL p g (b :: bs) (m :: ms) = (if p m = true then [g b] else []) ++ selL p g bs ms := by
      unfold selL
      rw [List.zip_cons_cons, List.filterMap_cons]
      cases p m <;> rfl
    rw [e2, ← ih]
    have ec : ((fun k => if p ((m :: ms).getD k 0) = true then some (g ((b :: bs).getD k (0, 0))) else none) ∘ Nat.succ) = fun k => if p (ms.getD k 0) = true then some (g (bs.getD k (0, 0))) else none := by
      funext k
      simp
    rw [ec]
    cases e : p m <;> simp [e]
  | [], _ :: _, h => by simp at h
  | _ :: _, [], h => by simp at h
theorem weigh_sel : ∀ (bs : List Bnd) (ms : List Int), bs.length = ms.length → Small ms → EW.weigh bs ms = (selL (fun c => decide (c = 1)) (·.2) bs ms).sum - (selL (fun c => decide (c = -1)) (·.1) bs ms).sum
  | [], [], _, _ => rfl
  | b :: bs, m :: ms, h, hs => by
    have ih := weigh_sel bs ms (by simpa using h) fun c hc => hs c (List.mem_cons_of_mem _ hc)
    have hm := hs m List.mem_cons_self
    have e2 : ∀ p g, selL p g (b :: bs) (m :: ms) = (if p m = true then [g b] else []) ++ selL p g bs ms := fun p g => by
      unfold selL
      rw [List.zip_cons_cons, List.filterMap_cons]
      cases p m <;> rfl
    rw [e2, e2, List.sum_append, List.sum_append]
    show wG b m + EW.weigh bs ms = _
    rw [ih]
    unfold wG
    rcases (by omega : m = -1 ∨ m = 0 ∨ m = 1) with rfl | rfl | rfl
    · simp
      omega
    · simp
    · simp
      omega
  | [], _ :: _, h, _ => by simp at h
  | _ :: _, [], h, _ => by simp at h
section
variable {P : Program} {w : World} {K : PySem.W.Frag} {mg : Str → Option Value} {base : Heap}
abbrev s_law_bars : Stmt := topS 57
abbrev N_law_bars : List Str := ["_law_web_here", "_law_bounds", "_law_value", "_law_one", "_law_most", "_law_k"]
theorem sc_law_bars : FnScope N_law_bars ["_law_web_here", "_law_bounds", "_law_value"] (defScope s_law_bars) := ⟨rfl, rfl, rfl, by decide +kernel, rfl, by decide +kernel, by decide +kernel⟩
abbrev Q_law_bars (P : Program) (w : World) (K : PySem.W.Frag) (mg : Str → Option Value) (base : Heap) : Prop := Df P w K mg base CX0 4 "_law_bars" s_law_bars ["_law_web_here", "_law_bounds", "_law_value"] (SpG (fun x : Nat × List Arr × List Bnd × PyData => [webD x.1 x.2.1, bndD x.2.2.1, x.2.2.2]) (fun x => WB x.1 x.2.1 x.2.2.1 ∧ Fine x.2.2.2) fun x r => r = .bool (barsB x.1 x.2.1 x.2.2.1 x.2.2.2))
theorem df_law_bars (B : Bl mg) (F : Fx K mg "_law_bars" s_law_bars) (D_law_is_flow : Q_law_is_flow P w K mg base) (D_law_is_single : Q_law_is_single P w K mg base) : Q_law_bars P w K mg base := by
  refine df_of F sc_law_bars (fun _ _ F => F.binds fun _ _ _ _ _ _ us hl => match us, hl with | [_, _, _], _ => rfl) (fun _ => rfl) fun f cdv A outer s H Q E O x σ hr W a q => ?_
  obtain ⟨n, as, bs, d⟩ := x
  obtain ⟨W, Wf⟩ : WB n as bs ∧ Fine d := W
  dsimp only at a q
  refine ⟨_, (pss_cons (ps_if (PW.pt (pw_or (pt_not (pt_val (pe_df D_law_is_flow (hr.mono (by decide)) (by rfl) (pa_cons (pv 0) (pa_cons (pv 2) pa_nil))))) (pw_or (pt_cmpR (neDK K hr.units) (pe_lc (own := [("_law_one", 3)]) rfl sc_law_bars.nd (piTupK K (pv 2)) (blkOk_by (N := N_law_bars) (sc := defScope s_law_bars) (own := [("_law_one", 3)]) (by decide +kernel)) (fun _ _ _ _ _ => (pg_name (i := 3) sc_law_bars.nd rfl (Or.inl rfl))) (fun _ _ _ _ _ => (pts_one (pt_cmpR (ninK K) (pv 3) (pe_lst (pa_cons (pe_un un_neg pe_int) (pa_cons pe_int (pa_cons pe_int pa_nil)))) (by rfl)))) (fun _ _ _ _ _ => (pv 3))) (pe_lst pa_nil) (nomark _)) (pw_or1 (pt_not (pt_val (pe_df D_law_is_single (hr.mono (by decide)) (by rfl) (pa_cons (pv 0) (pa_cons (pv 2) pa_nil)))))))))
          (pss_one (ps_ret pe_bl))
          pss_nil)
        (pss_cons (ps_set (i := 4) sc_law_bars.nd rfl (Or.inl rfl) (pe_callB (sumK K) (by rfl) B.m_sum (by decide +kernel) (pa_cons (pe_lc (own := [("_law_k", 5)]) rfl sc_law_bars.nd (pi_range1 (by rfl) B.m_range (pa_cons (pe_callB (lenK K) (by rfl) B.m_len (by decide +kernel) (pa_cons (pv 2) pa_nil)) pa_nil)) (blkOk_by (N := N_law_bars) (sc := defScope s_law_bars) (own := [("_law_k", 5)]) (by decide +kernel)) (fun _ _ _ _ _ => (pg_name (i := 5) sc_law_bars.nd rfl (Or.inl rfl))) (fun _ _ _ _ _ => (pts_one (pt_cmpR op_eq (pe_ix (ixK K) (pv 2) (pv 5) (fun _ _ => rfl)) pe_int (nomark _)))) (fun _ _ _ _ _ => (pe_ix (ixK K) (pe_ix (ixK K) (pv 1) (pv 5) (fun _ _ => rfl)) pe_int (fun _ _ => rfl)))) pa_nil)))
        (pss_one (ps_ret (pe_cmpR op_lt (pv 4) (pe_callB (sumK K) (by rfl) B.m_sum (by decide +kernel) (pa_cons (pe_lc (own := [("_law_k", 5)]) rfl sc_law_bars.nd (pi_range1 (by rfl) B.m_range (pa_cons (pe_callB (lenK K) (by rfl) B.m_len (by decide +kernel) (pa_cons (pv 2) pa_nil)) pa_nil)) (blkOk_by (N := N_law_bars) (sc := defScope s_law_bars) (own := [("_law_k", 5)]) (by decide +kernel)) (fun _ _ _ _ _ => (pg_name (i := 5) sc_law_bars.nd rfl (Or.inl rfl))) (fun _ _ _ _ _ => (pts_one (pt_cmpR op_eq (pe_ix (ixK K) (pv 2) (pv 5) (fun _ _ => rfl)) (pe_un un_neg pe_int) (nomark _)))) (fun _ _ _ _ _ => (pe_ix (ixK K) (pe_ix (ixK K) (pv 1) (pv 5) (fun _ _ => rfl)) pe_int (fun _ _ => rfl)))) pa_nil)) (nomark _)))))), ?_⟩
  cases z : amts as.length d with
  | none =>
    refine st_seq (st_if (b := true) (dt_or1 (dtN (dtB (b := false) (de_callG (n, as, d) (da_cons (de_var rfl) (da_cons (de_var rfl) da_nil)) ⟨W.toWb, Wf⟩) (by unfold isFlowB; rw [z])))) a (fun H _ a => ?_) fun H z => nomatch z)
    refine st_ret (de_bl false) a fun v H' a' r => q _ _ _ _ _ _ a' r ?_
    unfold barsB
    rw [z]
  | some ms =>
    obtain ⟨rfl, hl⟩ := amts_of z
    have hlb : bs.length = ms.length := by rw [hl, W.len]
    have hm15 : ms.length ≤ 15 := by rw [hl]; exact W.few
    refine st_seq (st_if (b := !flowB n as ms || (!(ms.all fun c => decide (-1 ≤ c) && decide (c ≤ 1)) || !singleB as ms)) (dt_or (dtN (dtB (b := flowB n as ms) (de_callG (n, as, intsT ms) (da_cons (de_var rfl) (da_cons (de_var rfl) da_nil)) ⟨W.toWb, Wf⟩) (by unfold isFlowB; rw [z]))) fun _ =>
      dt_or (dtT (b := !(ms.all fun c => decide (-1 ≤ c) && decide (c ≤ 1))) (de_neD (dn_lc (fun d => match d with | .int c => if c ∈ ([-1, 0, 1] : List Int) then none else some (.int c) | _ => none) (di_tup (ds := ms.map .int) (de_var rfl)) (by rw [List.length_map]; omega) fun i d hd => ?_).de (de_lst da_nil) (Tame.shaped (k := 1) (tame_list fun d hd => ?_)) rfl) ?_) fun _ => dtN (dtB (de_callG (n, as, ms) (da_cons (de_var rfl) (da_cons (de_var rfl) da_nil)) ⟨W.toWb, hl⟩))) a (fun H hb a => ?_) fun H hb a => st_next ?_)
    · obtain ⟨c, hc, rfl⟩ := int_at hd
      refine ⟨_, dg_name, dt_is (dt_test (de_ninL (ns := [-1, 0, 1]) (de_var rfl) (de_lst (da_cons (de_neg (de_int 1)) (da_cons (de_int 0) (da_cons (de_int 1) da_nil)))))) ?_, fun e he => ?_⟩
      · show (!decide (c ∈ ([-1, 0, 1] : List Int))) = (if c ∈ ([-1, 0, 1] : List Int) then none else some (PyData.int c)).isSome
        by_cases h : c ∈ ([-1, 0, 1] : List Int)
        · rw [if_pos h, decide_eq_true h]; rfl
        · rw [if_neg h, decide_eq_false h]; rfl
      · have he : (if c ∈ ([-1, 0, 1] : List Int) then none else some (PyData.int c)) = some e := he
        split at he
        · cases he
        · cases he; exact de_var rfl
    · obtain ⟨x, hx, h⟩ := List.mem_filterMap.mp hd
      obtain ⟨c, _, rfl⟩ := List.mem_map.mp hx
      have h : (if c ∈ ([-1, 0, 1] : List Int) then none else some (PyData.int c)) = some d := h
      split at h
      · cases h
      · cases h; exact tame_int 0 _
    · rw [eqv_nilL]
      congr 2
      have in3 : ∀ c : Int, c ∈ ([-1, 0, 1] : List Int) ↔ -1 ≤ c ∧ c ≤ 1 := fun c => by
        simp only [List.mem_cons, List.not_mem_nil, or_false]
        omega
      refine Bool.eq_iff_iff.mpr ?_
      rw [List.isEmpty_iff, List.all_eq_true]
      constructor
      · intro h c hc
        by_cases e : c ∈ ([-1, 0, 1] : List Int)
        · have := (in3 c).mp e
          rw [decide_eq_true this.1, decide_eq_true this.2]
          rfl
        · have : PyData.int c ∈ (ms.map PyData.int).filterMap fun d => match d with | .int c => if c ∈ ([-1, 0, 1] : List Int) then none else some (.int c) | _ => none := List.mem_filterMap.mpr ⟨.int c, List.mem_map.mpr ⟨c, hc, rfl⟩, by show (if c ∈ ([-1, 0, 1] : List Int) then _ else _) = _; rw [if_neg e]⟩
          rw [h] at this
          cases this
      · intro h
        refine List.eq_nil_iff_forall_not_mem.mpr fun x hx => ?_
        obtain ⟨y, hy, e⟩ := List.mem_filterMap.mp hx
        obtain ⟨c, hc, rfl⟩ := List.mem_map.mp hy
        have h2 := h c hc
        rw [Bool.and_eq_true, decide_eq_true_iff, decide_eq_true_iff] at h2
        have e : (if c ∈ ([-1, 0, 1] : List Int) then none else some (PyData.int c)) = some x := e
        rw [if_pos ((in3 c).mpr h2)] at e
        cases e
    · refine st_ret (de_bl false) a fun v H' a' r => q _ _ _ _ _ _ a' r ?_
      congr 1
      cases zb : barsB n as bs (intsT ms) with
      | false => rfl
      | true =>
        obtain ⟨h1, h2, h3, _⟩ := (barsB_some z).mp zb
        rw [flowB_iff.mpr h1, singleB_iff.mpr h3, show (ms.all fun c => decide (-1 ≤ c) && decide (c ≤ 1)) = true from List.all_eq_true.mpr fun c hc => by
          have := h2 c hc
          rw [decide_eq_true this.1, decide_eq_true this.2]
          rfl] at hb
        cases hb
    · rw [Bool.or_eq_false_iff, Bool.or_eq_false_iff, Bool.not_eq_false', Bool.not_eq_false', Bool.not_eq_false', flowB_iff, singleB_iff, List.all_eq_true] at hb
      obtain ⟨h1, h2, h3⟩ := hb
      have hsm : Small ms := fun c hc => by
        have := h2 c hc
        rw [Bool.and_eq_true, decide_eq_true_iff, decide_eq_true_iff] at this
        exact this
      have sel : ∀ {Γ : Ctx} (p : Int → Bool) (g : Bnd → Int) (tt : TT) (te : TE), (∀ i, i < ms.length → DT tt (Γ.set 5 .no |>.set 5 (.dat (.int (i : Nat)))) [] (p (ms.getD i 0))) → (∀ i, i < ms.length → DE te (Γ.set 5 .no |>.set 5 (.dat (.int (i : Nat)))) [] (.int (g (bs.getD i (0, 0))))) → Γ[2]? = some (.dat (intsT ms)) →
          DE (tCB (rSum K) (tCons (tLc (iRng1 (tCons (tCB (rLenQ K) (tCons (tVar 2) tNil)) tNil)) (gName 5) tt te [5]) tNil)) Γ [] (.int (selL p g bs ms).sum) := fun {Γ} p g tt te ht he h2 => by
        refine de_sum (de_is (dn_lc (fun d => match d with | .int k => if p (ms.getD k.toNat 0) = true then some (.int (g (bs.getD k.toNat (0, 0)))) else none | _ => none) (di_range (n := ms.length) (de_is (de_lenT (ds := ms.map .int) (de_var h2)) (by rw [List.length_map])) (by omega)) (by rw [upTo_len]; omega) fun i d hd => ?_).de ?_)
        · obtain ⟨hi, rfl⟩ := upTo_at hd
          refine ⟨_, dg_name, dt_is (ht i hi) ?_, fun e hx => ?_⟩
          · show p (ms.getD i 0) = (if p (ms.getD i 0) = true then some (PyData.int (g (bs.getD i (0, 0)))) else none).isSome
            cases p (ms.getD i 0) <;> rfl
          · have hx : (if p (ms.getD i 0) = true then some (PyData.int (g (bs.getD i (0, 0)))) else none) = some e := hx
            split at hx
            · cases hx; exact he i hi
            · cases hx
        · rw [← sel_range p g bs ms hlb]
          unfold upTo
          rw [List.filterMap_map, List.map_filterMap]
          congr 2
          funext k
          show (if p (ms.getD k 0) = true then some (PyData.int (g (bs.getD k (0, 0)))) else none) = (if p (ms.getD k 0) = true then some (g (bs.getD k (0, 0))) else none).map .int
          split <;> rfl
      have hmi : ∀ i, i < ms.length → (ms.map PyData.int)[i]? = some (.int (ms.getD i 0)) := fun i hi => getD_at hi
      have hbi : ∀ i, i < ms.length → (bs.map pairI)[i]? = some (pairI (bs.getD i (0, 0))) := fun i hi => by
        rw [List.getElem?_map, List.getD_eq_getElem?_getD, List.getElem?_eq_getElem (by omega)]
        rfl
      refine st_seq (st_set (d := .int (selL (fun c => decide (c = 1)) (·.2) bs ms).sum) (sel _ _ _ _ (fun i hi => dt_test (de_eqI (de_ixT (ds := ms.map .int) (de_var rfl) (de_var rfl) (atI_nat (hmi i hi))) (de_int 1))) (fun i hi => de_ixT (ds := [.int (bs.getD i (0, 0)).1, .int (bs.getD i (0, 0)).2]) (de_ixT (ds := bs.map pairI) (de_var rfl) (de_var rfl) (atI_nat (hbi i hi))) (de_int 1) rfl) rfl) a fun σ H a => ?_)
      refine st_ret (d := .bool (barsB n as bs (intsT ms))) (de_is (de_I0 (de_var rfl) (sel (fun c => decide (c = -1)) (·.1) _ _ (fun i hi => dt_test (de_eqI (de_ixT (ds := ms.map .int) (de_var rfl) (de_var rfl) (atI_nat (hmi i hi))) (de_neg (de_int 1)))) (fun i hi => de_ixT (ds := [.int (bs.getD i (0, 0)).1, .int (bs.getD i (0, 0)).2]) (de_ixT (ds := bs.map pairI) (de_var rfl) (de_var rfl) (atI_nat (hbi i hi))) (de_int 0) rfl) rfl)) ?_) a fun v H' a' r => q _ _ _ _ _ _ a' r rfl
      congr 1
      refine Bool.eq_iff_iff.mpr ?_
      rw [decide_eq_true_iff, barsB_some z]
      have hw := weigh_sel bs ms hlb hsm
      constructor
      · intro h
        exact ⟨h1, hsm, h3, by omega⟩
      · rintro ⟨_, _, _, h⟩
        omega
end
end EW
/-! t[::-1] of a pair; (e,) * n. -/
namespace EW
open PySem PySem.Spec PyProof.Rows L2
section
variable {prog : Program} {w : World} {A : Around} {E : Value → Shared → Prop} {s : Shared}
theorem slice_back {sl : Addr} {vs : Value} {Q : Int × Int × Nat → Shared → Prop} (hs : s.heap.IsSliceOf sl .none .none vs) (pt : IsPart vs (some (-1))) (h : Q (1, -1, 2) s) : wpAny (model prog w) A (Builtin.Slice.sliceApplied (.ref sl) (pure 2)) Q E s := by
  have ⟨ob, at_, _, fs⟩ := hs
  unfold Builtin.Slice.sliceApplied Builtin.Slice.sliceFields
  refine wpAny_bind (wpAny_bind (wpAny_field at_ fs (x := .none) rfl (wpAny_bind (wpAny_field at_ fs (x := .none) rfl (wpAny_bind (wpAny_field at_ fs (x := vs) rfl (wpAny_pure ?_)))))))
  refine wpAny_bind (HT.slicePart_ pt ?_)
  show wpAny _ _ (if ((-1 : Int) == 0) = true then _ else _) _ _ s
  rw [if_neg (by decide)]
  exact wpAny_bind (slicePart_none (wpAny_bind (slicePart_none (wpAny_bind (wpAny_pure (wpAny_pure h))))))
theorem item_back {t sl : Addr} {u v vs : Value} {Q : Value → Shared → Prop} (ht : IsTup s.heap t #[u, v]) (hs : s.heap.IsSliceOf sl .none .none vs) (pt : IsPart vs (some (-1)))
    (h : Q (.ref s.heap.objs.size) { s with heap := s.heap.push { cls := .type "tuple", data := .seq #[v, u] } }) : wpAny (model prog w) A (getItem (.ref t) (.ref sl)) Q E s := by
  have isS : s.TypeIs (.ref sl) "slice" := by
    have ⟨ob, at_, c, _⟩ := hs
    exact ⟨ob, at_, c⟩
  unfold getItem
  first | with_reducible refine wpAny_holding ?_ | skip
  first | refine wpAny_bind (wpAny_pure ?_) | skip
  refine wpAny_bind (wpAny_sequenceKey ht.typeIs (by decide) (wpAny_bind (wpAny_callSpecial?_slot (name := Str.ofString "__getitem__") ht.typeIs PyProof.Rows.slot_tuple_getitem (wpAny_call_entry PyProof.Rows.slot_tuple_getitem ht.typeIs entry_tuple_getitem ?_ (args_tuple_getitem _ _)))))
  show wpAny _ _ (Builtin.Tuple.tupleItemsOf (.ref t) >>= _) _ _ s
  refine wpAny_bind (tupleItemsOf_ ht (wpAny_bind (wpAny_typeOf isS ?_)))
  rw [if_pos (by decide)]
  refine wpAny_bind (slice_back hs pt ?_)
  show wpAny _ _ (if ((1 : Int) == 0 && (-1 : Int) == 1 && (2 : Nat) == 2) = true then _ else _) _ _ s
  rw [if_neg (by decide)]
  have fits : sizeOk (.seq #[v, u]) := by show 2 ≤ sizeLine; decide
  first
    | exact wpAny_bind (m := Builtin.Tuple.tupleExact _) (wpAny_newObj_type (wpAny_pure ⟨_, rfl, wpAny_pure h⟩) fits)
    | exact wpAny_bind (m := Builtin.Tuple.tupleExact _) (wpAny_newObj_type (wpAny_bind (wpAny_pure (wpAny_pure ⟨_, rfl, wpAny_pure h⟩))) fits)
end
def tRev2 (K : PySem.W.Frag) (te : TE) : TE := fun σ H Q => te σ H fun x H1 => ∃ a u v, x = .ref a ∧ SqT K H1 a [u, v] ∧ ∀ p, H1 p = none → Q (.ref p) (upd H1 p (.tup [v, u]))
theorem pe_rev2 {X : Cx} (K : PySem.W.Frag) {e : Expr} {te : TE} {k : Nat} {p1 p2 p3 pos : Pos} (he : PE X e te) (hK : X.K = K := by rfl) : PE X (.Subscript e (.Slice none none (some (.UnaryOp .USub (.Constant (.int 1) k p1) p2)) p3) pos) (tRev2 K te) := by
  subst hK
  refine ⟨fun pins s σ H Q I h => Subscript_ (thn (he.run pins s σ H _ I h) fun v s1 ⟨x, H1, I1, r1, a, y, z, ex, hx, q⟩ => ?_)⟩
  subst ex
  cases r1
  have back : PO X (some (.UnaryOp .USub (.Constant (.int 1) k p1) p2)) (tPart (tUn (rU fun i => .int (-i)) (tC (.int 1)))) := po_some (pe_un un_neg pe_int)
  refine wpAny_Slice (thn (po_none.run pins s1 σ H1 (fun o G => o = none ∧ G = H1) I1 ⟨rfl, rfl⟩) fun vl s2 ⟨l, H2, I2, pl, el, e2⟩ => ?_)
  subst el e2
  refine thn (po_none.run pins s2 σ H2 (fun o G => o = none ∧ G = H2) I2 ⟨rfl, rfl⟩) fun vu s3 ⟨u, H3, I3, pu, eu, e3⟩ => ?_
  subst eu e3
  refine thn (back.run pins s3 σ H3 (fun o G => o = some (-1) ∧ G = H3) I3 ⟨1, rfl, -1, rfl, rfl, rfl⟩) fun vs s4 ⟨o, H4, I4, ps, eo, e4⟩ => ?_
  subst eo e4
  cases pl
  cases pu
  have I5 : Inv X pins σ H4 { s4 with heap := s4.heap.push { cls := .type "slice", data := .fields #[.none, .none, vs] } } := I4.kept (t' := s4.toks) fun b ob g => Heap.get?_push_of_some _ g
  obtain ⟨its, r, ht, _⟩ := I5.tuple hx
  obtain ⟨u1, u2, rfl, r1, r2⟩ := r.two
  show wpAny (model X.prog X.w) X.A (subscriptTail e (.Slice none none (some (.UnaryOp .USub (.Constant (.int 1) k p1) p2)) p3) (.ref a) (.ref s4.heap.objs.size)) (EP X pins σ Q) X.xe { s4 with heap := s4.heap.push { cls := .type "slice", data := .fields #[.none, .none, vs] } }
  refine tail_any (ops := [.ref a, .ref s4.heap.objs.size]) ht.typeIs PyProof.Rows.slot_tuple_getitem.lookup ?_ (by with_unfolding_all rfl)
  refine item_back ht (Heap.IsSliceOf.new _ .none .none vs) ps ⟨.ref _, _, I5.laid (t' := s4.toks) (o := .tup [z, y]) (fun b ob g => Heap.get?_push_of_some _ g) (Nat.le_refl _) ?_, rfl, q _ (I5.hok.fresh (Nat.le_refl _))⟩
  exact ⟨by show 2 ≤ sizeLine; decide, [u2, u1], .cons r2 (.cons r1 .nil), IsTup.new _ _⟩
section
variable {K : PySem.W.Frag} {Γ : Ctx} {Ω : List Ob} {te : TE} {d1 d2 : PyData}
theorem de_rev2 (h : DE te Γ Ω (.tuple [d1, d2])) : DE (tRev2 K te) Γ Ω (.tuple [d2, d1]) := de_of fun O A σ H s Q q => h.run s fun x H1 e s1 r => by
  obtain ⟨a, xs, rfl, hx, rx⟩ := r.tuple_of
  obtain ⟨u, us, rfl, r1, rx⟩ := rx.cons_of
  obtain ⟨v, vs, rfl, r2, rx⟩ := rx.cons_of
  have := rx.nil_of
  subst this
  refine ⟨a, u, v, rfl, SqT.of (off_of hx).2, fun p hp => ?_⟩
  obtain ⟨a1, a2, a3, a4⟩ := s1.alloc (o := .tup [v, u]) hp
  exact q _ _ (e.trans a2) a1 (rp_tuple a4 (rpl_cons (r2.ex a3) (rpl_cons (r1.ex a3) rpl_nil)))
end
end EW
/-! the law's ring -/
namespace EW
open PySem PyProof.Rows L2
def jsD (p : Nat × Int) : PyData := .tuple [.int (p.1 : Nat), .int p.2]
def jsL (l : List (Nat × Int)) : PyData := .list (l.map jsD)
theorem js_at {l : List (Nat × Int)} {i : Nat} {d : PyData} (h : (l.map jsD)[i]? = some d) : ∃ a, l[i]? = some a ∧ d = jsD a := by
  rw [List.getElem?_map] at h
  cases z : l[i]? with
  | none => rw [z] at h; cases h
  | some a => rw [z] at h; exact ⟨a, rfl, (Option.some.inj h).symm⟩
def natsD (l : List Nat) : PyData := .list (natsL l)
/-- between two turns of the search -/
structure RingI (n m : Nat) (ways : List (List Nat)) (steps : List (List (Nat × Int))) (seen : List Nat) : Prop where
  wl : ways.length = seen.length
  sl : steps.length = seen.length
  nd : seen.Nodup
  sub : ∀ v ∈ seen, v < n
  ws : ∀ (i : Nat) u, ways[i]? = some u → u ≠ [] ∧ u.length ≤ i + 1
  ss : ∀ (i : Nat) u, steps[i]? = some u → u.length ≤ i + 1 ∧ ∀ p ∈ u, p.1 < m ∧ (p.2 = 1 ∨ p.2 = -1)
theorem RingI.few {n m : Nat} {ways : List (List Nat)} {steps : List (List (Nat × Int))} {seen : List Nat} (R : RingI n m ways steps seen) : seen.length ≤ n := by
  have := nodup_len R.nd (m := List.range n) fun v hv => List.mem_range.mpr (R.sub v hv)
  rwa [List.length_range] at this
theorem RingI.add {n m : Nat} {ways : List (List Nat)} {steps : List (List (Nat × Int))} {seen : List Nat} (R : RingI n m ways steps seen) {i v : Nat} {u : List Nat} {l : List (Nat × Int)} {p : Nat × Int} (hu : ways[i]? = some u) (hl : steps[i]? = some l) (hv : v < n) (hn : v ∉ seen) (hp : p.1 < m ∧ (p.2 = 1 ∨ p.2 = -1)) :
    RingI n m (ways ++ [u ++ [v]]) (steps ++ [l ++ [p]]) (seen ++ [v]) := by
  have hi := (List.getElem?_eq_some_iff.mp hu).1
  have hi2 := (List.getElem?_eq_some_iff.mp hl).1
  refine ⟨by rw [List.length_append, List.length_append, R.wl]; rfl, by rw [List.length_append, List.length_append, R.sl]; rfl, ?_, fun x hx => ?_, fun j x hx => ?_, fun j x hx => ?_⟩
  · rw [List.nodup_append]
    refine ⟨R.nd, by simp, fun a ha b hb q => ?_⟩
    subst q
    rw [List.mem_singleton.mp hb] at ha
    exact hn ha
  · rcases List.mem_append.mp hx with hx | hx
    · exact R.sub x hx
    · rw [List.mem_singleton.mp hx]
      exact hv
  · by_cases hj : j < ways.length
    · rw [List.getElem?_append_left hj] at hx
      exact R.ws j x hx
    · rw [List.getElem?_append_right (by omega)] at hx
      cases q : j - ways.length with
      | zero =>
        rw [q] at hx
        cases hx
        have := (R.ws i u hu).2
        refine ⟨by simp, ?_⟩
        rw [List.length_append, List.length_singleton]
        omega
      | succ k => rw [q] at hx; simp at hx
  · by_cases hj : j < steps.length
    · rw [List.getElem?_append_left hj] at hx
      exact R.ss j x hx
    · rw [List.getElem?_append_right (by omega)] at hx
      cases q : j - steps.length with
      | zero =>
        rw [q] at hx
        cases hx
        have h2 := R.ss i l hl
        refine ⟨?_, fun y hy => ?_⟩
        · rw [List.length_append, List.length_singleton]
          omega
        · rcases List.mem_append.mp hy with hy | hy
          · exact h2.2 y hy
          · rw [List.mem_singleton.mp hy]
            exact hp
      | succ k => rw [q] at hx; simp at hx
section
variable {P : Program} {w : World} {K : PySem.W.Frag} {mg : Str → Option Value} {base : Heap}
abbrev s_law_ring : Stmt := topS 62
abbrev N_law_ring : List Str := ["_law_web_here", "_law_k", "_law_x", "_law_y", "_law_ways", "_law_steps", "_law_seen", "_law_at", "_law_here", "_law_j", "_law_low", "_law_high", "_law_sign"]
theorem sc_law_ring : FnScope N_law_ring ["_law_web_here", "_law_k"] (defScope s_law_ring) := ⟨rfl, rfl, rfl, by decide +kernel, rfl, by decide +kernel, by decide +kernel⟩
abbrev Q_law_ring (P : Program) (w : World) (K : PySem.W.Frag) (mg : Str → Option Value) (base : Heap) : Prop := Df P w K mg base CX0 1 "_law_ring" s_law_ring ["_law_web_here", "_law_k"] (SpG (fun x : Nat × List Arr × Nat => [webD x.1 x.2.1, .int x.2.2]) (fun x => Wb x.1 x.2.1 ∧ x.2.2 < x.2.1.length) fun x r => ∃ l, r = jsL l ∧ l.length ≤ 10 ∧ ∀ p ∈ l, p.1 < x.2.1.length ∧ (p.2 = 1 ∨ p.2 = -1))
theorem df_law_ring (B : Bl mg) (F : Fx K mg "_law_ring" s_law_ring) : Q_law_ring P w K mg base := by
  refine df_of F sc_law_ring (fun _ _ F => F.binds fun _ _ _ _ _ _ us hl => match us, hl with | [_, _], _ => rfl) (fun _ => rfl) fun f cdv A outer s H Q E O x σ hr W a q => ?_
  obtain ⟨n, as, k⟩ := x
  obtain ⟨W, hk⟩ : Wb n as ∧ k < as.length := W
  dsimp only at a q
  have hn10 := W.hi
  have hfew := W.few
  obtain ⟨ek, hek⟩ : ∃ e, as[k]? = some e := ⟨_, List.getElem?_eq_getElem hk⟩
  have hekd : (as.map pairN)[k]? = some (pairN ek) := by rw [List.getElem?_map, hek]; rfl
  obtain ⟨hx0, hy0⟩ := W.ends ek (List.mem_of_getElem? hek)
  refine ⟨_, (pss_cons (ps_asg (pe_ix (ixK K) (pe_ix (ixK K) (pv 0) pe_int (fun _ _ => rfl)) (pv 1) (fun _ _ => rfl)) (pgTupK K (n := 2) (pgs_cons (pg_name (i := 2) sc_law_ring.nd rfl (Or.inl rfl)) (pgs_cons (pg_name (i := 3) sc_law_ring.nd rfl (Or.inl rfl)) pgs_nil))))
        (pss_cons (ps_set (i := 4) sc_law_ring.nd rfl (Or.inl rfl) (pe_lst (pa_cons (pe_lst (pa_cons (pv 3) pa_nil)) pa_nil)))
        (pss_cons (ps_set (i := 5) sc_law_ring.nd rfl (Or.inl rfl) (pe_lst (pa_cons (pe_lst (pa_cons (pe_tup (pa_cons (pv 1) (pa_cons pe_int pa_nil))) pa_nil)) pa_nil)))
        (pss_cons (ps_set (i := 6) sc_law_ring.nd rfl (Or.inl rfl) (pe_lst (pa_cons (pv 3) pa_nil)))
        (pss_cons (ps_set (i := 7) sc_law_ring.nd rfl (Or.inl rfl) pe_int)
        (pss_cons (ps_while PassesOwn.never (pt_cmpR op_lt (pv 7) (pe_callB (lenK K) (by rfl) B.m_len (by decide +kernel) (pa_cons (pv 4) pa_nil)) (nomark _))
          (pss_cons (ps_set (i := 8) sc_law_ring.nd rfl (Or.inl rfl) (pe_ix (ixK K) (pe_ix (ixK K) (pv 4) (pv 7) (fun _ _ => rfl)) (pe_un un_neg pe_int) (fun _ _ => rfl)))
          (pss_cons (ps_if (pt_cmpR op_eq (pv 8) (pv 2) (nomark _))
            (pss_one (ps_ret (pe_ix (ixK K) (pv 5) (pv 7) (fun _ _ => rfl))))
            pss_nil)
          (pss_cons (ps_for PassesOwn.never rfl (pi_range1 (by rfl) B.m_range (pa_cons (pe_callB (lenK K) (by rfl) B.m_len (by decide +kernel) (pa_cons (pe_ix (ixK K) (pv 0) pe_int (fun _ _ => rfl)) pa_nil)) pa_nil)) (pg_name (i := 9) sc_law_ring.nd rfl (Or.inl rfl))
            (pss_one (ps_for PassesOwn.never rfl (piListK K (pe_lst (pa_cons (pe_op (catK K) (pe_ix (ixK K) (pe_ix (ixK K) (pv 0) pe_int (fun _ _ => rfl)) (pv 9) (fun _ _ => rfl)) (pe_tup (pa_cons pe_int pa_nil))) (pa_cons (pe_op (catK K) (pe_rev2 K (pe_ix (ixK K) (pe_ix (ixK K) (pv 0) pe_int (fun _ _ => rfl)) (pv 9) (fun _ _ => rfl))) (pe_tup (pa_cons (pe_un un_neg pe_int) pa_nil))) pa_nil)))) (pgTupK K (n := 3) (pgs_cons (pg_name (i := 10) sc_law_ring.nd rfl (Or.inl rfl)) (pgs_cons (pg_name (i := 11) sc_law_ring.nd rfl (Or.inl rfl)) (pgs_cons (pg_name (i := 12) sc_law_ring.nd rfl (Or.inl rfl)) pgs_nil))))
              (pss_one (ps_if (PW.pt (pw_and (pt_cmpR op_ne (pv 9) (pv 1) (nomark _)) (pw_and (pt_cmpR op_eq (pv 10) (pv 8) (nomark _)) (pw_and1 (pt_cmpR (ninK K) (pv 11) (pv 6) (by rfl))))))
                (pss_cons (ps_expr (bmK K PySem.F.plainAttrs_list PySem.F.slot_list_append PySem.F.type_list_append mt_append (pv 6) (pa_cons (pv 11) pa_nil)))
                (pss_cons (ps_expr (bmK K PySem.F.plainAttrs_list PySem.F.slot_list_append PySem.F.type_list_append mt_append (pv 4) (pa_cons (pe_op op_cat (pe_ix (ixK K) (pv 4) (pv 7) (fun _ _ => rfl)) (pe_lst (pa_cons (pv 11) pa_nil))) pa_nil)))
                (pss_one (ps_expr (bmK K PySem.F.plainAttrs_list PySem.F.slot_list_append PySem.F.type_list_append mt_append (pv 5) (pa_cons (pe_op op_cat (pe_ix (ixK K) (pv 5) (pv 7) (fun _ _ => rfl)) (pe_lst (pa_cons (pe_tup (pa_cons (pv 9) (pa_cons (pv 12) pa_nil))) pa_nil))) pa_nil))))))
                pss_nil)))))
          (pss_one (ps_set (i := 7) sc_law_ring.nd rfl (Or.inl rfl) (pe_op op_add (pv 7) pe_int)))))))
        (pss_one (ps_ret (pe_lst pa_nil))))))))), ?_⟩
  refine st_seq (st_asg (vs := [2, 3]) (de_ixT (de_web1 rfl) (de_var rfl) (atI_nat hekd)) (dg_tup (dgs_cons dg_name (dgs_cons dg_name dgs_nil))) a fun σ H a => ?_)
  refine st_seq (st_setN (dn_is (dn_lst (da_cons (de_lst (da_cons (de_var rfl) da_nil)) da_nil)) (show _ = [[ek.2]].map natsD from rfl)) a fun σ H a => ?_)
  refine st_seq (st_setN (dn_is (dn_lst (da_cons (de_lst (da_cons (de_tup (da_cons (de_var rfl) (da_cons (de_int 1) da_nil))) da_nil)) da_nil)) (show _ = [[(k, (1 : Int))]].map jsL from rfl)) a fun σ H a => ?_)
  refine st_seq (st_setN (dn_is (dn_lst (da_cons (de_var rfl) da_nil)) (show _ = natsL [ek.2] from rfl)) a fun σ H a => ?_)
  refine st_seq (st_set (de_int 0) a fun σ H a => ?_)
  have R0 : RingI n as.length [[ek.2]] [[(k, (1 : Int))]] [ek.2] := by
    refine ⟨rfl, rfl, by simp, fun v hv => by rw [List.mem_singleton.mp hv]; exact hy0, fun i u hu => ?_, fun i u hu => ?_⟩
    · cases i with
      | zero => cases hu; exact ⟨by simp, Nat.le_refl 1⟩
      | succ i => simp at hu
    · cases i with
      | zero => cases hu; exact ⟨Nat.le_refl 1, fun p hp => by rw [List.mem_singleton.mp hp]; exact ⟨hk, .inl rfl⟩⟩
      | succ i => simp at hu
  refine st_seq (st_while (α := List (List Nat) × List (List (Nat × Int)) × List Nat × Nat) (fun m x => RingI n as.length x.1 x.2.1 x.2.2.1 ∧ m = n + 1 - x.2.2.2) (fun x => [.dat (webD n as), .dat (.int k), .dat (.int ek.1), .dat (.int ek.2), .own 0, .own 1, .own 2, .dat (.int x.2.2.2), .no, .no, .no, .no, .no]) (fun x => [.lst (x.1.map natsD), .lst (x.2.1.map jsL), .lst (natsL x.2.2.1)]) (fun x => decide (x.2.2.2 < x.1.length)) (x0 := ([[ek.2]], [[(k, (1 : Int))]], [ek.2], 0)) ⟨R0, rfl⟩ rfl rfl (fun _ => rfl) a (fun m x _ => ?_) (fun m x ⟨R, em⟩ hb H1 A hA out N σ H hN a => ?_) fun m x _ hb σ H a => ?_)
  · refine dtT (de_I0 (de_var rfl) (de_lenO (do_var rfl) rfl)) ?_
    rw [List.length_map]
    congr 1
    simp
  · obtain ⟨ways, steps, seen, at0⟩ := x
    have R : RingI n as.length ways steps seen := R
    have hlt : at0 < ways.length := of_decide_eq_true hb
    have em : m = n + 1 - at0 := em
    have f1 := R.few
    have l1 := R.wl
    have l2 := R.sl
    obtain ⟨u, hu⟩ : ∃ u, ways[at0]? = some u := ⟨_, List.getElem?_eq_getElem hlt⟩
    obtain ⟨l, hl⟩ : ∃ l, steps[at0]? = some l := ⟨_, List.getElem?_eq_getElem (by omega)⟩
    obtain ⟨hune, hul⟩ := R.ws at0 u hu
    obtain ⟨hll, hlp⟩ := R.ss at0 l hl
    have hud : ∀ {w2 : List (List Nat)}, w2[at0]? = some u → (w2.map natsD)[at0]? = some (natsD u) := fun h => by rw [List.getElem?_map, h]; rfl
    have hld : ∀ {s2 : List (List (Nat × Int))}, s2[at0]? = some l → (s2.map jsL)[at0]? = some (jsL l) := fun h => by rw [List.getElem?_map, h]; rfl
    obtain ⟨hv, hlast⟩ : ∃ hv : Nat, atI (natsL u) (-1) = some (.int (hv : Nat)) := by
      have h0 : 0 < u.length := List.length_pos_iff.mpr hune
      refine ⟨u[u.length - 1]'(by omega), ?_⟩
      unfold atI ixN
      rw [if_neg (by decide), natsL_len, if_pos (by omega)]
      show (natsL u)[((-1 : Int) + (u.length : Int)).toNat]? = _
      rw [show ((-1 : Int) + (u.length : Int)).toNat = u.length - 1 by omega]
      unfold natsL
      rw [List.getElem?_map, List.getElem?_eq_getElem (by omega)]
      rfl
    refine st_seq (st_set (d := .int (hv : Nat)) (de_ixL (ds := natsL u) (de_ixO (do_var rfl) (de_var rfl) rfl (atI_nat (hud hu))) (de_neg (de_int 1)) hlast) a fun σ H a => ?_)
    refine st_seq (st_if (dt_test (de_eqI (de_var rfl) (de_var rfl))) a (fun H _ a => ?_) fun H _ a => st_next ?_)
    · exact st_ret (d := jsL l) (de_ixO (do_var rfl) (de_var rfl) rfl (atI_nat (hld hl))) (out _ _ _ _ a) fun v H' a' r => q _ _ _ _ _ _ a' r ⟨l, rfl, by omega, hlp⟩
    refine st_seq (st_for (α := List (List Nat) × List (List (Nat × Int)) × List Nat) (di_range (de_webL rfl) (by omega)) a fun ds e => ?_)
    subst e
    refine ⟨fun _ x => RingI n as.length x.1 x.2.1 x.2.2 ∧ x.1[at0]? = some u ∧ x.2.1[at0]? = some l, fun _ _ => [.dat (webD n as), .dat (.int k), .dat (.int ek.1), .dat (.int ek.2), .own 0, .own 1, .own 2, .dat (.int at0), .dat (.int hv), .no, .no, .no, .no], fun _ x => [.lst (x.1.map natsD), .lst (x.2.1.map jsL), .lst (natsL x.2.2)], (ways, steps, seen), ⟨R, hu, hl⟩, rfl, rfl, fun _ _ => rfl, fun j x d hd ⟨R, hu, hl⟩ => ?_, fun x ⟨R, hu, hl⟩ σ H a => ?_⟩
    · obtain ⟨hj, rfl⟩ := upTo_at hd
      obtain ⟨e, he⟩ : ∃ e, as[j]? = some e := ⟨_, List.getElem?_eq_getElem hj⟩
      have hed : (as.map pairN)[j]? = some (pairN e) := by rw [List.getElem?_map, he]; rfl
      obtain ⟨h1, h2⟩ := W.ends e (List.mem_of_getElem? he)
      refine ⟨[9], _, dg_name, fun H2 A2 hA2 _ N2 σ H hN2 a => ?_⟩
      refine st_for (α := List (List Nat) × List (List (Nat × Int)) × List Nat) (di_list (de_lst (da_cons (de_catA (ds := [.int e.1, .int e.2]) (de_ixT (de_web1 rfl) (de_var rfl) (atI_nat hed)) (de_tup (da_cons (de_int 1) da_nil)) (Nat.le_of_ble_eq_true rfl)) (da_cons (de_catA (ds := [.int e.2, .int e.1]) (de_rev2 (de_ixT (de_web1 rfl) (de_var rfl) (atI_nat hed))) (de_tup (da_cons (de_neg (de_int 1)) da_nil)) (Nat.le_of_ble_eq_true rfl)) da_nil)))) a fun ds e => ?_
      subst e
      refine ⟨fun _ x => RingI n as.length x.1 x.2.1 x.2.2 ∧ x.1[at0]? = some u ∧ x.2.1[at0]? = some l, fun _ _ => [.dat (webD n as), .dat (.int k), .dat (.int ek.1), .dat (.int ek.2), .own 0, .own 1, .own 2, .dat (.int at0), .dat (.int hv), .dat (.int j), .no, .no, .no], fun _ x => [.lst (x.1.map natsD), .lst (x.2.1.map jsL), .lst (natsL x.2.2)], x, ⟨R, hu, hl⟩, rfl, rfl, fun _ _ => rfl, fun t x d hd ⟨R, hu, hl⟩ => ?_, fun x ⟨R, hu, hl⟩ σ H a => hN2 σ H x ⟨R, hu, hl⟩ (a.no [9])⟩
      obtain ⟨lo, hi, sg, ed, hhi, hsg⟩ : ∃ (lo hi : Nat) (sg : Int), d = .tuple [.int (lo : Nat), .int (hi : Nat), .int sg] ∧ hi < n ∧ (sg = 1 ∨ sg = -1) := by
        match t, hd with
        | 0, hd => cases hd; exact ⟨e.1, e.2, 1, rfl, h2, .inl rfl⟩
        | 1, hd => cases hd; exact ⟨e.2, e.1, -1, rfl, h1, .inr rfl⟩
        | t + 2, hd => simp at hd
      subst ed
      obtain ⟨ways, steps, seen⟩ := x
      have R : RingI n as.length ways steps seen := R
      have hu : ways[at0]? = some u := hu
      have hl : steps[at0]? = some l := hl
      have f1 := R.few
      have l1 := R.wl
      have l2 := R.sl
      refine ⟨[10, 11, 12], _, dg_tup (dgs_cons dg_name (dgs_cons dg_name (dgs_cons dg_name dgs_nil))), fun H3 A3 hA3 _ N3 σ H hN3 a => ?_⟩
      refine st_if (dt_and (dt_test (de_neI (de_var rfl) (de_var rfl))) fun _ => dt_and (dt_test (de_eqI (de_var rfl) (de_var rfl))) fun _ => dt_test (de_ninO (ns := seen.map fun v : Nat => (v : Int)) (de_var rfl) (do_var rfl) (by rw [← natsL_ints]; rfl))) a (fun H hb a => ?_) fun H hb a => st_next (hN3 σ H (ways, steps, seen) ⟨R, hu, hl⟩ (a.no [10, 11, 12]))
      rw [Bool.and_eq_true, Bool.and_eq_true, decide_eq_decide.mpr (mem_nats (l := seen) (v := hi))] at hb
      have hns : hi ∉ seen := fun z => by
        have := hb.2.2
        rw [decide_eq_true z] at this
        cases this
      have hat : at0 < ways.length := (List.getElem?_eq_some_iff.mp hu).1
      refine st_seq (st_append (P := (· = .int (hi : Nat))) (do_var rfl) (de_var rfl) rfl (by rw [natsL_len]; exact Nat.le_trans f1 (by omega)) a fun σ H d ed a => ?_)
      subst ed
      refine st_seq (st_append (P := (· = natsD (u ++ [hi]))) (do_var rfl) (de_is (dn_cat (ds := natsL u) (es := natsL [hi]) (de_ixO (do_var rfl) (de_var rfl) rfl (atI_nat (hud hu))) (de_lst (da_cons (de_var rfl) da_nil)) (by rw [natsL_len, natsL_len]; show _ + 1 ≤ _; omega)).de (by unfold natsD natsL; rw [List.map_append])) rfl (by rw [List.length_map]; exact Nat.le_trans (Nat.le_of_eq l1) (Nat.le_trans f1 (by omega))) a fun σ H d ed a => ?_)
      subst ed
      refine st_append (P := (· = jsL (l ++ [(j, sg)]))) (do_var rfl) (de_is (dn_cat (ds := l.map jsD) (es := [(j, sg)].map jsD) (de_ixO (do_var rfl) (de_var rfl) rfl (atI_nat (hld hl))) (de_lst (da_cons (de_tup (da_cons (de_var rfl) (da_cons (de_var rfl) da_nil))) da_nil)) (by rw [List.length_map]; show _ + 1 ≤ _; omega)).de (by unfold jsL; rw [List.map_append])) rfl (by rw [List.length_map]; exact Nat.le_trans (Nat.le_of_eq l2) (Nat.le_trans f1 (by omega))) a fun σ H d ed a => hN3 σ H (ways ++ [u ++ [hi]], steps ++ [l ++ [(j, sg)]], seen ++ [hi]) ⟨R.add hu hl hhi hns ⟨hj, hsg⟩, ?_, ?_⟩ ?_
      · show (ways ++ [u ++ [hi]])[at0]? = some u
        rw [List.getElem?_append_left hat]
        exact hu
      · show (steps ++ [l ++ [(j, sg)]])[at0]? = some l
        rw [List.getElem?_append_left (List.getElem?_eq_some_iff.mp hl).1]
        exact hl
      · subst ed
        show At H3 O A3 [.lst ((ways ++ [u ++ [hi]]).map natsD), .lst ((steps ++ [l ++ [(j, sg)]]).map jsL), .lst (natsL (seen ++ [hi]))] _ _ _
        rw [List.map_append, List.map_append, show natsL (seen ++ [hi]) = natsL seen ++ [.int (hi : Nat)] by unfold natsL; rw [List.map_append]; rfl]
        exact a.no [10, 11, 12]
    · refine st_set (d := .int ((at0 + 1 : Nat) : Int)) (de_is (de_I0 (de_var rfl) (de_int 1)) (by congr 1)) a fun σ H a => hN σ H (n + 1 - (at0 + 1)) (x.1, x.2.1, x.2.2, at0 + 1) (by omega) ⟨R, rfl⟩ (a.no [8])
  · exact st_ret (de_lst da_nil) a fun v H' a' r => q _ _ _ _ _ _ a' r ⟨[], rfl, Nat.zero_le _, fun p z => nomatch z⟩
end
end EW
/-! a table: rows that are owned one by one -/
namespace EW
open PySem PyProof.Rows L2
section
variable {O A : List Addr} {Ω : List Ob} {Γ : Ctx} {σ : L2.St} {H : Hp}
/-- the list of owned ones is taken -/
theorem Wd.adoptRefs {l : Addr} {bs : List Addr} {ks : List Nat} (w : Wd (l :: O) A Ω Γ σ H) (n : l ∉ O) (h : H l = some (.lst (bs.map V.ref))) (hl : bs.length = ks.length) (hk : ∀ (i : Nat) k, ks[i]? = some k → ∃ b, bs[i]? = some b ∧ A[k]? = some b) : Wd O (A ++ [l]) (Ω ++ [.refs ks]) Γ σ H := by
  have nA : l ∉ A := fun z => w.dj l z List.mem_cons_self
  have v : Same (off H (l :: O ++ A)) (off H (O ++ (A ++ [l]))) := off_less fun a z => by
    rw [← List.append_assoc] at z
    rcases List.mem_append.mp z with z | z
    · exact List.mem_cons_of_mem _ z
    · rw [List.mem_singleton.mp z]
      exact List.mem_cons_self
  have hA : ∀ (k : Nat) b, A[k]? = some b → (A ++ [l])[k]? = some b := fun k b q => by
    rw [List.getElem?_append_left (List.getElem?_eq_some_iff.mp q).1]
    exact q
  refine ⟨fun b z => w.tk b (List.mem_cons_of_mem _ z), ?_, fun a ha z => ?_, by rw [List.length_append, List.length_append, w.len]; rfl, fun k a x h1 h2 => ?_, w.sl.to v hA⟩
  · rw [List.nodup_append]
    refine ⟨w.nd, by simp, fun a ha b hb q => ?_⟩
    subst q
    rw [List.mem_singleton.mp hb] at ha
    exact nA ha
  · rcases List.mem_append.mp ha with q | q
    · exact w.dj a q (List.mem_cons_of_mem _ z)
    · rw [List.mem_singleton.mp q] at z
      exact n z
  · by_cases hk2 : k < A.length
    · rw [List.getElem?_append_left hk2] at h1
      rw [List.getElem?_append_left (by rw [← w.len]; exact hk2)] at h2
      exact (w.ob k a x h1 h2).to v rfl hA
    · rw [List.getElem?_append_right (by omega)] at h1
      rw [List.getElem?_append_right (by rw [← w.len]; omega)] at h2
      rw [← w.len] at h2
      cases q : k - A.length with
      | zero =>
        rw [q] at h1 h2
        cases h1
        cases h2
        refine ⟨bs, h, hl, fun i k hik => ?_⟩
        obtain ⟨b, b1, b2⟩ := hk i k hik
        exact ⟨b, b1, hA k b b2⟩
      | succ j =>
        rw [q] at h1
        simp at h1
/-- a shaded one is owned, another stays shaded -/
theorem Wd.adopt2 {D l : Addr} {xs : List V} {ds : List PyData} (w : Wd (l :: D :: O) A Ω Γ σ H) (n : l ∉ D :: O) (h : H l = some (.lst xs)) (r : RpL (off H (l :: (D :: O) ++ A)) xs ds) : Wd (D :: O) (A ++ [l]) (Ω ++ [.lst ds]) Γ σ H := w.adopt n h r
end
/-- x = [[..] for i in range(n)]: the rows are owned -/
theorem st_table {H0 : Hp} {O : List Addr} {Γ : Ctx} {σ : L2.St} {H : Hp} {nx : L2.St → Hp → Prop} {rt : VK} {bk ct : L2.St → Hp → Prop} {tn te : TE} {n j v : Nat} (rows : Nat → List PyData) (hn : n ≤ 1000) (h : DE tn Γ [] (.int n))
    (hi : ∀ i, i < n → ∀ Ω, DN te ((Γ.set v .no).set v (.dat (.int (i : Nat)))) Ω (rows i)) (s : At H0 O [] [] Γ σ H)
    (q : ∀ σ' H', At H0 O [] ((List.range n).map (fun i => .lst (rows i)) ++ [.refs (List.range n)]) (Γ.set j (.own n)) σ' H' → nx σ' H') : tAsg (tLc (iRng1 (tCons tn tNil)) (gName v) tYes te [v]) (gName j) ⟨nx, rt, bk, ct⟩ σ H := by
  obtain ⟨B0, w0, g1, g2⟩ := s
  have e0 : B0 = [] := List.eq_nil_of_length_eq_zero (by have := w0.len; simpa using this)
  subst e0
  unfold tAsg tLc
  refine (di_range h (by omega)) O _ σ H w0 _ fun J H1 ds f1 w1 ed dr D hD => ?_
  subst ed
  have dw := dr (D :: O) (fun a z => by simp at z; exact List.mem_cons_of_mem _ z) fun a z => by
    rcases List.mem_cons.mp z with z | z
    · exact .inr (z ▸ hD)
    · exact .inl (by simp; exact z)
  have nO : D ∉ O := fun z => w1.new hD (List.mem_append_left _ z)
  -- bs: the rows so far
  refine ⟨fun i m H => m = n - i ∧ i ≤ n ∧ Same H1 H ∧ ∃ bs : List Addr, bs.length = i ∧ (∀ b ∈ bs, H1 b = none) ∧ Wd (D :: O) bs ((List.range i).map fun i => .lst (rows i)) Γ σ H ∧ H D = some (.lst (bs.map V.ref)), ⟨n, rfl, Nat.zero_le _, same_new hD, [], rfl, (fun b z => nomatch z), by simpa using w1.shade hD, upd_same⟩, ?_⟩
  rintro i m H2 ⟨rfl, hile, e2, bs, lb, fb, w2, hx⟩
  have fX : Fr (D :: O) H1 H2 := fun a o _ e => e2 a o e
  by_cases hlt : i < n
  · have hlt2 : i < (upTo n).length := by rw [upTo_len]; exact hlt
    refine .inr ⟨dw.go i H2 fX hlt2, fun H => Same H1 H ∧ ∃ bs : List Addr, bs.length = i + 1 ∧ (∀ b ∈ bs, H1 b = none) ∧ Wd (D :: O) bs ((List.range (i + 1)).map fun i => .lst (rows i)) Γ σ H ∧ H D = some (.lst (bs.map V.ref)), fun H' p' => ⟨n - (i + 1), by omega, rfl, hlt, p'⟩, fun x H' y => ?_⟩
    have hd : (upTo n)[i]? = some (.int (i : Nat)) := by
      unfold upTo
      rw [List.getElem?_map, List.getElem?_range hlt]
      rfl
    have tkD : ∀ a ∈ D :: O, ∃ x, H2 a = some x := fun a z => w2.tk a z
    obtain ⟨e3, rd⟩ := dw.yld i H2 x H' fX tkD y _ hd
    rw [rd.int_of]
    have w3 := w2.same e3
    have w4 := ((w3.put v (o := none) (s := .no) trivial)).put v (o := some (.int (i : Nat))) (s := .dat (.int (i : Nat))) ⟨_, rfl, rp_int _⟩
    refine ⟨?_, ?_⟩
    · show ((σ.set v none).set v (some (V.int (i : Nat)))).set v none = σ.set v none
      rw [List.set_set, List.set_set]
    · show te ((σ.set v none).set v (some (V.int (i : Nat)))) H' _
      refine hi i hlt _ (D :: O) bs _ H' w4 _ fun l xs H4 ds4 f4 hl4 nl hx4 w5 r5 ed => ?_
      subst ed
      have nbs : ∀ a o, H' a = some o → a ∉ bs → H4 a = some o := fun a o e n => f4 a o n e
      have hD4 : H4 D = some (.lst (bs.map V.ref)) := f4 _ _ (fun z => w2.dj D z List.mem_cons_self) (e3 _ _ hx)
      refine ⟨bs.map V.ref, hD4, by rw [List.length_map, lb]; exact sl100 (by omega), ?_, bs ++ [l], by rw [List.length_append, lb]; rfl, fun b hb => ?_, ?_, ?_⟩
      · intro a o e
        have e5 : H' a = some o := e3 _ _ (e2 _ _ e)
        have na : a ∉ bs := fun z => by
          have := fb a z
          rw [e] at this
          cases this
        have nD : a ≠ D := fun z => by
          subst z
          rw [hD] at e
          cases e
        rw [upd_ne nD]
        exact nbs a o e5 na
      · rcases List.mem_append.mp hb with hb | hb
        · exact fb b hb
        · rw [List.mem_singleton.mp hb]
          cases z : H1 l with
          | none => rfl
          | some o =>
            have := e3 _ _ (e2 _ _ z)
            rw [hl4] at this
            cases this
      · have w6 := w5.adopt nl hx4 r5
        rw [show (List.range (i + 1)).map (fun i => Ob.lst (rows i)) = (List.range i).map (fun i => .lst (rows i)) ++ [.lst (rows i)] by rw [List.range_succ, List.map_append]; rfl]
        have w7 := w6.shadeUpd (u := .lst (bs.map V.ref ++ [.ref l]))
        refine w7.slots ⟨w2.sl.len, fun k t ht => ?_⟩
        obtain ⟨o, ho, ro⟩ := w2.sl.el k t ht
        by_cases ek : v = k
        · subst ek
          refine ⟨o, ho, ?_⟩
          have r0 := ro
          have vw2 : Same (off H2 (D :: O ++ bs)) (off (upd H4 D (.lst (bs.map V.ref ++ [.ref l]))) (D :: O ++ (bs ++ [l]))) := fun a x e => by
            obtain ⟨n1, n2⟩ := off_of e
            have nD : a ≠ D := fun z => n1 (by rw [z]; exact List.mem_cons_self)
            have nl2 : a ≠ l := fun z => by
              have := e3 _ _ n2
              rw [z, hl4] at this
              cases this
            refine off_in (by rw [upd_ne nD]; exact nbs a x (e3 _ _ n2) fun z => n1 (List.mem_append_right _ z)) fun z => ?_
            rw [← List.append_assoc] at z
            rcases List.mem_append.mp z with z | z
            · exact n1 z
            · exact nl2 (List.mem_singleton.mp z)
          exact r0.to vw2 fun k b q => by
            rw [List.getElem?_append_left (List.getElem?_eq_some_iff.mp q).1]
            exact q
        · have ht2 : ((Γ.set v .no).set v (.dat (.int (i : Nat))))[k]? = some t := by
            rw [List.getElem?_set_ne ek, List.getElem?_set_ne ek]
            exact ht
          obtain ⟨o2, ho2, r2⟩ := w7.sl.el k t ht2
          rw [List.getElem?_set_ne ek, List.getElem?_set_ne ek, ho] at ho2
          cases ho2
          exact ⟨o, ho, r2⟩
      · rw [upd_same, List.map_append]
        rfl
  · have ei : i = n := by omega
    subst ei
    refine .inl ⟨by have := dw.stop H2 fX; rw [upTo_len] at this; exact this, ?_⟩
    have hl0 : (List.range i).length = i := List.length_range
    have a1 := w2.adoptRefs nO hx (ks := List.range i) (by rw [hl0]; exact lb) fun t k ht => by
      have := List.getElem?_eq_some_iff.mp ht
      obtain ⟨h1, h2⟩ := this
      rw [List.getElem_range] at h2
      subst h2
      rw [hl0] at h1
      exact ⟨bs[t]'(by omega), List.getElem?_eq_getElem _, List.getElem?_eq_getElem _⟩
    have hfree : ∀ a, H1 a = none → H0 a = none := fun a z => by
      cases q : H0 a with
      | none => rfl
      | some o =>
        have := f1 a o (by simp) (g2 a o (by simp) q)
        rw [z] at this
        cases this
    refine q _ _ ⟨bs ++ [D], ?_, fun b hb => ?_, fun a o n e => e2 a o (f1 a o (by simp) (g2 a o n e))⟩
    · refine a1.put j ⟨D, ?_, rfl⟩
      show ([] ++ (bs ++ [D]))[i]? = some D
      rw [List.nil_append, List.getElem?_append_right (by omega), lb, Nat.sub_self]
      rfl
    · rcases List.mem_append.mp hb with hb | hb
      · exact hfree b (fb b hb)
      · rw [List.mem_singleton.mp hb]
        exact hfree D hD
end EW
/-! the law's sums -/
namespace EW
open PySem PyProof.Rows L2
def rowD (n : Nat) (T : Tab) (x : Nat) : List PyData := (List.range n).map fun y => optI (T x y)
def tabO (n : Nat) (T : Tab) : List Ob := (List.range n).map (fun x => .lst (rowD n T x)) ++ [.refs (List.range n)]
def tabD (n : Nat) (T : Tab) : PyData := .list ((List.range n).map fun x => .list (rowD n T x))
theorem tabO_len (n : Nat) (T : Tab) : (tabO n T).length = n + 1 := by
  unfold tabO
  rw [List.length_append, List.length_map, List.length_range]
  rfl
theorem tabO_refs (n : Nat) (T : Tab) : (tabO n T)[n]? = some (.refs (List.range n)) := by
  unfold tabO
  rw [List.getElem?_append_right (by rw [List.length_map, List.length_range]; exact Nat.le_refl _), List.length_map, List.length_range, Nat.sub_self]
  rfl
theorem tabO_row {n : Nat} {T : Tab} {x : Nat} (h : x < n) : (tabO n T)[x]? = some (.lst (rowD n T x)) := by
  unfold tabO
  rw [List.getElem?_append_left (by rw [List.length_map, List.length_range]; exact h), List.getElem?_map, List.getElem?_range h]
  rfl
theorem rowD_get {n : Nat} {T : Tab} {x y : Nat} (h : y < n) : (rowD n T x)[y]? = some (optI (T x y)) := by
  unfold rowD
  rw [List.getElem?_map, List.getElem?_range h]
  rfl
theorem rowD_len (n : Nat) (T : Tab) (x : Nat) : (rowD n T x).length = n := by unfold rowD; rw [List.length_map, List.length_range]
theorem tabO_set {n : Nat} {T : Tab} {x y : Nat} {c : Int} (hx : x < n) (hy : y < n) : (tabO n T).set x (.lst ((rowD n T x).set y (.int c))) = tabO n (fset2 T x y (some c)) := by
  refine List.ext_getElem? fun k => ?_
  by_cases hk : k < n
  · rw [tabO_row hk]
    by_cases e : x = k
    · subst e
      rw [List.getElem?_set_self (by rw [tabO_len]; omega)]
      congr 2
      refine List.ext_getElem? fun j => ?_
      by_cases hj : j < n
      · rw [rowD_get hj]
        by_cases e2 : y = j
        · subst e2
          rw [List.getElem?_set_self (by rw [rowD_len]; exact hj)]
          unfold fset2
          rw [if_pos ⟨rfl, rfl⟩]
          rfl
        · rw [List.getElem?_set_ne e2, rowD_get hj]
          unfold fset2
          rw [if_neg fun z => e2 z.2.symm]
      · rw [List.getElem?_eq_none (by rw [List.length_set, rowD_len]; omega), List.getElem?_eq_none (by rw [rowD_len]; omega)]
    · rw [List.getElem?_set_ne e, tabO_row hk]
      have : rowD n (fset2 T x y (some c)) k = rowD n T k := by
        unfold rowD
        refine List.map_congr_left fun j _ => ?_
        unfold fset2
        rw [if_neg fun z => e z.1.symm]
      rw [this]
  · by_cases e : k = n
    · subst e
      rw [tabO_refs, List.getElem?_set_ne (by omega), tabO_refs]
    · rw [List.getElem?_eq_none (by rw [List.length_set, tabO_len]; omega), List.getElem?_eq_none (by rw [tabO_len]; omega)]
/-- the table is given back -/
theorem at_table {H0 : Hp} {O : List Addr} {Γ : Ctx} {σ : L2.St} {H : Hp} {n j : Nat} {T : Tab} {rt : VK} {nx bk ct : L2.St → Hp → Prop} (hj : Γ[j]? = some (.own n)) (s : At H0 O [] (tabO n T) Γ σ H) (q : ∀ v, Rp (off H (O ++ [])) v (tabD n T) → rt v H) : tRet (tVar j) ⟨nx, rt, bk, ct⟩ σ H := by
  obtain ⟨B, w, h1, h2⟩ := s
  obtain ⟨o, ho, a, ha, rfl⟩ := w.sl.el j _ hj
  refine ⟨.ref a, ho, q _ ?_⟩
  have nO : ∀ b, b ∈ [] ++ B → b ∉ O ++ [] := fun b hb z => w.dj b hb (by rwa [List.append_nil] at z)
  obtain ⟨bs, e, hl, hk⟩ : ObR _ H ([] ++ B) a (.refs (List.range n)) := w.ob n a _ ha (tabO_refs n T)
  refine rp_list (off_in e (nO a (List.mem_of_getElem? ha))) ?_
  have key : ∀ m, m ≤ n → RpL (off H (O ++ [])) ((bs.take m).map V.ref) ((List.range m).map fun x => .list (rowD n T x)) := fun m => by
    induction m with
    | zero => intro _; simp; exact rpl_nil
    | succ m ih =>
      intro hm
      obtain ⟨b, hb, hA⟩ := hk m m (by rw [List.getElem?_range (by omega)])
      rw [List.take_add_one, hb, List.map_append, List.range_succ, List.map_append]
      refine RpL.append (ih (by omega)) (rpl_cons ?_ rpl_nil)
      obtain ⟨xs, e2, r⟩ := w.lst hA (tabO_row (by omega))
      exact rp_list (off_in e2 (nO b (List.mem_of_getElem? hA))) (r.ex (off_less fun c hc => by
        rw [List.append_nil] at hc
        exact List.mem_append_left _ hc))
  have := key n (Nat.le_refl n)
  rw [List.take_of_length_le (by rw [hl, List.length_range]; exact Nat.le_refl _)] at this
  exact this
def st3D (e : Stp) : PyData := .tuple [.int e.1, .int e.2.1, .int e.2.2.1]
theorem st3_at {l : List Stp} {i : Nat} {d : PyData} (h : (l.map st3D)[i]? = some d) : ∃ e, l[i]? = some e ∧ d = st3D e := by
  rw [List.getElem?_map] at h
  cases z : l[i]? with
  | none => rw [z] at h; cases h
  | some a => rw [z] at h; exact ⟨a, rfl, (Option.some.inj h).symm⟩
section
variable {P : Program} {w : World} {K : PySem.W.Frag} {mg : Str → Option Value} {base : Heap}
abbrev s_law_sums : Stmt := topS 59
abbrev N_law_sums : List Str := ["_law_web_here", "_law_bounds", "_law_many", "_law_table", "_law_y", "_law_x", "_law_steps", "_law_k", "_law_weight", "_law_row_here", "_law_z"]
theorem sc_law_sums : FnScope N_law_sums ["_law_web_here", "_law_bounds"] (defScope s_law_sums) := ⟨rfl, rfl, rfl, by decide +kernel, rfl, by decide +kernel, by decide +kernel⟩
abbrev sc_table : Scope := { kind := .function, names := [(Str.ofString ".0", .local), (Str.ofString "_law_x", .cell), (Str.ofString "range", .globalImplicit), (Str.ofString "_law_many", .cell)], isGenerator := false, isCoroutine := false }
abbrev Q_law_sums (P : Program) (w : World) (K : PySem.W.Frag) (mg : Str → Option Value) (base : Heap) : Prop := Df P w K mg base CX0 1 "_law_sums" s_law_sums ["_law_web_here", "_law_bounds"] (SpG (fun x : Nat × List Arr × List Bnd => [webD x.1 x.2.1, bndD x.2.2]) (fun x => WB x.1 x.2.1 x.2.2) fun x r => r = tabD x.1 (tab x.1 (stepsOf x.2.1 x.2.2)))
theorem df_law_sums (B : Bl mg) (F : Fx K mg "_law_sums" s_law_sums) : Q_law_sums P w K mg base := by
  refine df_of F sc_law_sums (fun _ _ F => F.binds fun _ _ _ _ _ _ us hl => match us, hl with | [_, _], _ => rfl) (fun _ => rfl) fun f cdv A outer s H Q E O x σ hr W a q => ?_
  obtain ⟨n, as, bs⟩ := x
  have W : WB n as bs := W
  dsimp only at a q
  have hn := W.hi
  have hfew := W.few
  have Ws := W.web.steps
  refine ⟨_, (pss_cons (ps_set (i := 2) sc_law_sums.nd rfl (Or.inr rfl) (pe_ix (ixK K) (pv 0) pe_int (fun _ _ => rfl)))
        (pss_cons (ps_setLc (i := 3) (own := [("_law_x", 5)]) rfl sc_law_sums.nd rfl rfl (sw_true rfl rfl rfl (by decide +kernel)) (pi_range1 (by rfl) B.m_range (pa_cons (pv 2) pa_nil)) (blkOk_by (N := N_law_sums) (sc := defScope s_law_sums) (own := [("_law_x", 5)]) (by decide +kernel)) (fun _ _ _ _ _ => (pg_name (i := 5) sc_law_sums.nd rfl (Or.inr rfl))) (fun _ _ _ _ _ => pts_nil) (fun _ _ _ _ _ => (pe_lc (own := [("_law_y", 4)]) rfl sc_law_sums.nd (pi_range1 (by rfl) B.m_range (pa_cons (pv 2) pa_nil)) (blkOk_by (N := N_law_sums) (sc := sc_table) (own := [("_law_y", 4)]) (by decide +kernel)) (fun _ _ _ _ _ => (pg_name (i := 4) sc_law_sums.nd rfl (Or.inl rfl))) (fun _ _ _ _ _ => pts_nil) (fun _ _ _ _ _ => (pe_ifExp (pt_cmpR op_eq (pv 5) (pv 4) (nomark _)) pe_int pe_non)))))
        (pss_cons (ps_set (i := 6) sc_law_sums.nd rfl (Or.inl rfl) (pe_lst pa_nil))
        (pss_cons (ps_for PassesOwn.never rfl (pi_range1 (by rfl) B.m_range (pa_cons (pe_callB (lenK K) (by rfl) B.m_len (by decide +kernel) (pa_cons (pe_ix (ixK K) (pv 0) pe_int (fun _ _ => rfl)) pa_nil)) pa_nil)) (pg_name (i := 7) sc_law_sums.nd rfl (Or.inl rfl))
          (pss_cons (ps_asg (pe_ix (ixK K) (pe_ix (ixK K) (pv 0) pe_int (fun _ _ => rfl)) (pv 7) (fun _ _ => rfl)) (pgTupK K (n := 2) (pgs_cons (pg_name (i := 5) sc_law_sums.nd rfl (Or.inl rfl)) (pgs_cons (pg_name (i := 4) sc_law_sums.nd rfl (Or.inl rfl)) pgs_nil))))
          (pss_one (ps_set (i := 6) sc_law_sums.nd rfl (Or.inl rfl) (pe_op op_cat (pv 6) (pe_lst (pa_cons (pe_tup (pa_cons (pv 5) (pa_cons (pv 4) (pa_cons (pe_ix (ixK K) (pe_ix (ixK K) (pv 1) (pv 7) (fun _ _ => rfl)) pe_int (fun _ _ => rfl)) pa_nil)))) (pa_cons (pe_tup (pa_cons (pv 4) (pa_cons (pv 5) (pa_cons (pe_un un_neg (pe_ix (ixK K) (pe_ix (ixK K) (pv 1) (pv 7) (fun _ _ => rfl)) pe_int (fun _ _ => rfl))) pa_nil)))) pa_nil))))))))
        (pss_cons (ps_for PassesOwn.never rfl (piListK K (pv 6)) (pgTupK K (n := 3) (pgs_cons (pg_name (i := 5) sc_law_sums.nd rfl (Or.inl rfl)) (pgs_cons (pg_name (i := 4) sc_law_sums.nd rfl (Or.inl rfl)) (pgs_cons (pg_name (i := 8) sc_law_sums.nd rfl (Or.inl rfl)) pgs_nil))))
          (pss_cons (ps_set (i := 9) sc_law_sums.nd rfl (Or.inl rfl) (pe_ix (ixK K) (pv 3) (pv 5) (fun _ _ => rfl)))
          (pss_one (ps_if (PW.pt (pw_or (pt_cmpR op_isN (pe_ix (ixK K) (pv 9) (pv 4) (fun _ _ => rfl)) pe_non (by rfl)) (pw_or1 (pt_cmpR op_lt (pv 8) (pe_ix (ixK K) (pv 9) (pv 4) (fun _ _ => rfl)) (nomark _)))))
            (pss_one (ps_asg (pv 8) (pg_sub (pv 9) (pv 4) set_list)))
            pss_nil))))
        (pss_cons (ps_for PassesOwn.never rfl (pi_range1 (by rfl) B.m_range (pa_cons (pv 2) pa_nil)) (pg_name (i := 10) sc_law_sums.nd rfl (Or.inl rfl))
          (pss_one (ps_for PassesOwn.never rfl (pi_range1 (by rfl) B.m_range (pa_cons (pv 2) pa_nil)) (pg_name (i := 5) sc_law_sums.nd rfl (Or.inl rfl))
            (pss_one (ps_for PassesOwn.never rfl (pi_range1 (by rfl) B.m_range (pa_cons (pv 2) pa_nil)) (pg_name (i := 4) sc_law_sums.nd rfl (Or.inl rfl))
              (pss_cons (ps_set (i := 9) sc_law_sums.nd rfl (Or.inl rfl) (pe_ix (ixK K) (pv 3) (pv 5) (fun _ _ => rfl)))
              (pss_one (ps_if (PW.pt (pw_and (pt_cmpR op_notN (pe_ix (ixK K) (pv 9) (pv 10) (fun _ _ => rfl)) pe_non (by rfl)) (pw_and (pt_cmpR op_notN (pe_ix (ixK K) (pe_ix (ixK K) (pv 3) (pv 10) (fun _ _ => rfl)) (pv 4) (fun _ _ => rfl)) pe_non (by rfl)) (pw_and1 (PW.pt (pw_or (pt_cmpR op_isN (pe_ix (ixK K) (pv 9) (pv 4) (fun _ _ => rfl)) pe_non (by rfl)) (pw_or1 (pt_cmpR op_lt (pe_op op_add (pe_ix (ixK K) (pv 9) (pv 10) (fun _ _ => rfl)) (pe_ix (ixK K) (pe_ix (ixK K) (pv 3) (pv 10) (fun _ _ => rfl)) (pv 4) (fun _ _ => rfl))) (pe_ix (ixK K) (pv 9) (pv 4) (fun _ _ => rfl)) (nomark _)))))))))
                (pss_one (ps_asg (pe_op op_add (pe_ix (ixK K) (pv 9) (pv 10) (fun _ _ => rfl)) (pe_ix (ixK K) (pe_ix (ixK K) (pv 3) (pv 10) (fun _ _ => rfl)) (pv 4) (fun _ _ => rfl))) (pg_sub (pv 9) (pv 4) set_list)))
                pss_nil))))))))
        (pss_one (ps_ret (pv 3))))))))), ?_⟩
  refine st_seq (st_set (de_web0 rfl) a fun σ H a => ?_)
  refine st_seq (st_table (n := n) (fun x => rowD n tab0 x) (by omega) (de_var rfl) (fun x hx Ω => ?_) a fun σ H a => ?_)
  · refine dn_is (dn_lcA (fun d => match d with | .int y => optI (tab0 x y.toNat) | _ => .none) (di_range (n := n) (de_var rfl) (by omega)) (by rw [upTo_len]; omega) fun i d hd => ?_) ?_
    · obtain ⟨hi, rfl⟩ := upTo_at hd
      refine ⟨_, dg_name, ?_⟩
      show DE _ _ _ (optI (tab0 x i))
      unfold tab0
      by_cases e : x = i
      · rw [if_pos e]
        exact de_if (b := true) (dtT (de_eqI (de_var rfl) (de_var rfl)) (by rw [natI, decide_eq_true e])) (fun _ => de_int 0) fun z => nomatch z
      · rw [if_neg e]
        exact de_if (b := false) (dtT (de_eqI (de_var rfl) (de_var rfl)) (by rw [natI, decide_eq_false e])) (fun z => nomatch z) fun _ => de_non
    · unfold rowD upTo
      rw [List.map_map]
      rfl
  have a : At _ _ _ (tabO n tab0) _ _ _ := a
  refine st_seq (st_set (d := .list (([] : List Stp).map st3D)) (de_lst da_nil) a fun σ H a => ?_)
  refine st_seq (st_for (α := Unit) (di_range (de_webL rfl) (by omega)) a fun ds e => ?_)
  subst e
  refine ⟨fun _ _ => True, fun i _ => [.dat (webD n as), .dat (bndD bs), .dat (.int n), .own n, .no, .no, .dat (.list ((stepsFrom 0 (as.take i) (bs.take i)).map st3D)), .no, .no, .no, .no], fun i _ => tabO n tab0, (), trivial, by simp [stepsFrom]; rfl, rfl, fun _ _ => rfl, fun i _ d hd _ => ?_, fun _ _ σ H a => ?_⟩
  · obtain ⟨hi, rfl⟩ := upTo_at hd
    obtain ⟨e, he⟩ : ∃ e, as[i]? = some e := ⟨_, List.getElem?_eq_getElem hi⟩
    have hb : bs[i]? = some (bs[i]'(by rw [← W.len]; exact hi)) := List.getElem?_eq_getElem _
    generalize bs[i]'(by rw [← W.len]; exact hi) = b at hb
    have hed : (as.map pairN)[i]? = some (pairN e) := by rw [List.getElem?_map, he]; rfl
    have hbd : (bs.map pairI)[i]? = some (pairI b) := by rw [List.getElem?_map, hb]; rfl
    have hlen := stepsFrom_len 0 (as.take i) (bs.take i)
    rw [List.length_take] at hlen
    refine ⟨[7], _, dg_name, fun H1 A hA _ N σ H hN a => ?_⟩
    refine st_seq (st_asg (vs := [5, 4]) (de_ixT (de_web1 rfl) (de_var rfl) (atI_nat hed)) (dg_tup (dgs_cons dg_name (dgs_cons dg_name dgs_nil))) a fun σ H a => ?_)
    refine st_set (d := .list ((stepsFrom 0 (as.take (i + 1)) (bs.take (i + 1))).map st3D)) (de_is (dn_cat (ds := (stepsFrom 0 (as.take i) (bs.take i)).map st3D) (es := [(e.1, e.2, b.2, i, 1), (e.2, e.1, -b.1, i, -1)].map st3D) (de_var rfl) (de_lst (da_cons (de_tup (da_cons (de_var rfl) (da_cons (de_var rfl) (da_cons (de_ixT (ds := [.int b.1, .int b.2]) (de_ixT (ds := bs.map pairI) (de_var rfl) (de_var rfl) (atI_nat hbd)) (de_int 1) rfl) da_nil)))) (da_cons (de_tup (da_cons (de_var rfl) (da_cons (de_var rfl) (da_cons (de_neg (de_ixT (ds := [.int b.1, .int b.2]) (de_ixT (ds := bs.map pairI) (de_var rfl) (de_var rfl) (atI_nat hbd)) (de_int 0) rfl)) da_nil)))) da_nil))) (by rw [List.length_map]; show _ + 2 ≤ _; omega)).de ?_) a fun σ H a => hN σ H () trivial (a.no [4, 5, 7])
    rw [stepsFrom_more i 0 as bs e b he hb, Nat.zero_add, List.map_append]
  · rw [upTo_len] at a
    dsimp only at a
    rw [show stepsFrom 0 (as.take as.length) (bs.take as.length) = stepsOf as bs by rw [List.take_length, W.len, List.take_length]; rfl] at a
    generalize stepsOf as bs = steps at *
    -- the rule of one lowering
    refine st_seq (st_for (α := Unit) (di_list (ds := steps.map st3D) (de_var rfl)) a fun ds e => ?_)
    subst e
    refine ⟨fun _ _ => True, fun i _ => [.dat (webD n as), .dat (bndD bs), .dat (.int n), .own n, .no, .no, .dat (.list (steps.map st3D)), .no, .no, .no, .no], fun i _ => tabO n ((steps.take i).foldl step1 tab0), (), trivial, rfl, rfl, fun _ _ => by rw [tabO_len, tabO_len], fun i _ d hd _ => ?_, fun _ _ σ H a => ?_⟩
    · obtain ⟨e, he, rfl⟩ := st3_at hd
      obtain ⟨h1, h2⟩ := Ws e (List.mem_of_getElem? he)
      have hn2 : (steps.take (i + 1)).foldl step1 tab0 = step1 ((steps.take i).foldl step1 tab0) e := by
        rw [List.take_add_one, he, List.foldl_append]
        rfl
      dsimp only
      rw [hn2]
      generalize (steps.take i).foldl step1 tab0 = T at *
      refine ⟨[5, 4, 8], _, dg_tup (dgs_cons dg_name (dgs_cons dg_name (dgs_cons dg_name dgs_nil))), fun H1 A hA _ N σ H hN a => ?_⟩
      refine st_seq (st_setO (k := e.1) (do_ixR (j := e.1) (do_var rfl) rfl (tabO_refs n T) (by rw [List.getElem?_range h1])) a fun σ H a => ?_)
      refine st_if (b := match T e.1 e.2.1 with | none => true | some t => decide (e.2.2.1 < t)) ?_ a (fun H hb a => ?_) fun H hb a => ?_
      · cases z : T e.1 e.2.1 with
        | none => exact dt_or1 (dtT (de_isN2 (de_ixO (do_var rfl) (de_var rfl) (tabO_row h1) (atI_nat (rowD_get h2)))) (by rw [z]; rfl))
        | some t => exact dt_or2 (dtT (de_isN2 (de_ixO (do_var rfl) (de_var rfl) (tabO_row h1) (atI_nat (rowD_get h2)))) (by rw [z]; rfl)) (dt_test (de_I0 (de_var rfl) (de_is (de_ixO (do_var rfl) (de_var rfl) (tabO_row h1) (atI_nat (rowD_get h2))) (by rw [z]; rfl))))
      · have es : step1 T e = fset2 T e.1 e.2.1 (some e.2.2.1) := by
          unfold step1 low
          cases z : T e.1 e.2.1 with
          | none => rfl
          | some t =>
            rw [z] at hb
            exact if_pos (of_decide_eq_true hb)
        refine st_put (de_var rfl) (do_var rfl) (de_var rfl) (tabO_row h1) (ixN_nat (by rw [rowD_len]; exact h2)) a fun σ H a => hN σ H () trivial ?_
        rw [tabO_set h1 h2] at a
        rw [es]
        exact a.no [4, 5, 8, 9]
      · have es : step1 T e = T := by
          unfold step1 low
          cases z : T e.1 e.2.1 with
          | none => rw [z] at hb; cases hb
          | some t =>
            rw [z] at hb
            exact if_neg (of_decide_eq_false hb)
        refine st_next (hN σ H () trivial ?_)
        rw [es]
        exact a.no [4, 5, 8, 9]
    · rw [List.length_map] at a
      dsimp only at a
      rw [List.take_length] at a
      have a : At _ _ _ (tabO n (tab1 steps)) _ _ _ := a
      refine st_seq (st_for (α := Unit) (di_range (de_var rfl) (by omega)) a fun ds e => ?_)
      subst e
      refine ⟨fun _ _ => True, fun i _ => [.dat (webD n as), .dat (bndD bs), .dat (.int n), .own n, .no, .no, .dat (.list (steps.map st3D)), .no, .no, .no, .no], fun i _ => tabO n ((List.range i).foldl (fwZ n) (tab1 steps)), (), trivial, rfl, rfl, fun _ _ => by rw [tabO_len, tabO_len], fun z _ d hd _ => ?_, fun _ _ σ H a => ?_⟩
      · obtain ⟨hz, rfl⟩ := upTo_at hd
        dsimp only
        rw [List.range_succ, List.foldl_append]
        generalize (List.range z).foldl (fwZ n) (tab1 steps) = Tz at *
        refine ⟨[10], _, dg_name, fun H1 A hA _ N σ H hN a => ?_⟩
        refine st_for (α := Unit) (di_range (de_var rfl) (by omega)) a fun ds e => ?_
        subst e
        refine ⟨fun _ _ => True, fun i _ => [.dat (webD n as), .dat (bndD bs), .dat (.int n), .own n, .no, .no, .dat (.list (steps.map st3D)), .no, .no, .no, .dat (.int z)], fun i _ => tabO n ((List.range i).foldl (fwX n z) Tz), (), trivial, rfl, rfl, fun _ _ => by rw [tabO_len, tabO_len], fun x _ d hd _ => ?_, fun _ _ σ H a => hN σ H () trivial (by rw [upTo_len] at a; exact a.no [10])⟩
        obtain ⟨hx, rfl⟩ := upTo_at hd
        dsimp only
        rw [List.range_succ, List.foldl_append]
        generalize (List.range x).foldl (fwX n z) Tz = Tx at *
        refine ⟨[5], _, dg_name, fun H2 A2 hA2 _ N2 σ H hN2 a => ?_⟩
        refine st_for (α := Unit) (di_range (de_var rfl) (by omega)) a fun ds e => ?_
        subst e
        refine ⟨fun _ _ => True, fun i _ => [.dat (webD n as), .dat (bndD bs), .dat (.int n), .own n, .no, .dat (.int x), .dat (.list (steps.map st3D)), .no, .no, .no, .dat (.int z)], fun i _ => tabO n ((List.range i).foldl (fw1 z x) Tx), (), trivial, rfl, rfl, fun _ _ => by rw [tabO_len, tabO_len], fun y _ d hd _ => ?_, fun _ _ σ H a => hN2 σ H () trivial (by rw [upTo_len] at a; exact a.no [5])⟩
        obtain ⟨hy, rfl⟩ := upTo_at hd
        dsimp only
        rw [List.range_succ, List.foldl_append]
        generalize (List.range y).foldl (fw1 z x) Tx = T at *
        refine ⟨[4], _, dg_name, fun H3 A3 hA3 _ N3 σ H hN3 a => ?_⟩
        refine st_seq (st_setO (k := x) (do_ixR (j := x) (do_var rfl) rfl (tabO_refs n T) (by rw [List.getElem?_range hx])) a fun σ H a => ?_)
        have xz : ∀ {Γ : Ctx}, Γ[9]? = some (.own x) → Γ[10]? = some (.dat (.int z)) → DE (tOp (rIx K) (tVar 9) (tVar 10)) Γ (tabO n T) (optI (T x z)) := fun g1 g2 => de_ixO (do_var g1) (de_var g2) (tabO_row hx) (atI_nat (rowD_get hz))
        have xy : ∀ {Γ : Ctx}, Γ[9]? = some (.own x) → Γ[4]? = some (.dat (.int y)) → DE (tOp (rIx K) (tVar 9) (tVar 4)) Γ (tabO n T) (optI (T x y)) := fun g1 g2 => de_ixO (do_var g1) (de_var g2) (tabO_row hx) (atI_nat (rowD_get hy))
        have zy : ∀ {Γ : Ctx}, Γ[3]? = some (.own n) → Γ[10]? = some (.dat (.int z)) → Γ[4]? = some (.dat (.int y)) → DE (tOp (rIx K) (tOp (rIx K) (tVar 3) (tVar 10)) (tVar 4)) Γ (tabO n T) (optI (T z y)) := fun g1 g2 g3 => de_ixO (do_ixR (j := z) (do_var g1) g2 (tabO_refs n T) (by rw [List.getElem?_range hz])) (de_var g3) (tabO_row hz) (atI_nat (rowD_get hy))
        cases e1 : T x z with
        | none =>
          refine st_if (dt_and1 (dtT (de_notN2 (xz rfl rfl)) (by rw [e1]; rfl))) a (fun H z => nomatch z) fun H _ a => st_next (hN3 σ H () trivial ?_)
          show At _ _ _ (tabO n (fw1 z x T y)) _ _ _
          unfold fw1
          rw [e1]
          exact a.no [4, 9]
        | some p =>
          cases e2 : T z y with
          | none =>
            refine st_if (dt_and2 (dtT (de_notN2 (xz rfl rfl)) (by rw [e1]; rfl)) (dt_and1 (dtT (de_notN2 (zy rfl rfl rfl)) (by rw [e2]; rfl)))) a (fun H z => nomatch z) fun H _ a => st_next (hN3 σ H () trivial ?_)
            show At _ _ _ (tabO n (fw1 z x T y)) _ _ _
            unfold fw1
            rw [e1, e2]
            exact a.no [4, 9]
          | some r =>
            have ef : fw1 z x T y = low T x y (p + r) := by
              unfold fw1
              rw [e1, e2]
            have sm : ∀ {Γ : Ctx}, Γ[9]? = some (.own x) → Γ[3]? = some (.own n) → Γ[10]? = some (.dat (.int z)) → Γ[4]? = some (.dat (.int y)) → DE (tOp (rI0 fun i j => .int (i + j)) (tOp (rIx K) (tVar 9) (tVar 10)) (tOp (rIx K) (tOp (rIx K) (tVar 3) (tVar 10)) (tVar 4))) Γ (tabO n T) (.int (p + r)) := fun g1 g2 g3 g4 => de_I0 (de_is (xz g1 g3) (by rw [e1]; rfl)) (de_is (zy g2 g3 g4) (by rw [e2]; rfl))
            refine st_if (b := match T x y with | none => true | some t => decide (p + r < t)) (dt_and2 (dtT (de_notN2 (xz rfl rfl)) (by rw [e1]; rfl)) (dt_and2 (dtT (de_notN2 (zy rfl rfl rfl)) (by rw [e2]; rfl)) ?_)) a (fun H hb a => ?_) fun H hb a => ?_
            · cases e3 : T x y with
              | none => exact dt_or1 (dtT (de_isN2 (xy rfl rfl)) (by rw [e3]; rfl))
              | some t => exact dt_or2 (dtT (de_isN2 (xy rfl rfl)) (by rw [e3]; rfl)) (dt_test (de_I0 (sm rfl rfl rfl rfl) (de_is (xy rfl rfl) (by rw [e3]; rfl))))
            · have es : low T x y (p + r) = fset2 T x y (some (p + r)) := by
                unfold low
                cases e3 : T x y with
                | none => rfl
                | some t =>
                  rw [e3] at hb
                  exact if_pos (of_decide_eq_true hb)
              refine st_put (sm rfl rfl rfl rfl) (do_var rfl) (de_var rfl) (tabO_row hx) (ixN_nat (by rw [rowD_len]; exact hy)) a fun σ H a => hN3 σ H () trivial ?_
              rw [tabO_set hx hy] at a
              show At _ _ _ (tabO n (fw1 z x T y)) _ _ _
              rw [ef, es]
              exact a.no [4, 9]
            · have es : low T x y (p + r) = T := by
                unfold low
                cases e3 : T x y with
                | none => rw [e3] at hb; cases hb
                | some t =>
                  rw [e3] at hb
                  exact if_neg (of_decide_eq_false hb)
              refine st_next (hN3 σ H () trivial ?_)
              show At _ _ _ (tabO n (fw1 z x T y)) _ _ _
              rw [ef, es]
              exact a.no [4, 9]
      · rw [upTo_len] at a
        have a : At _ _ _ (tabO n (tab n steps)) _ _ _ := a
        exact at_table rfl a fun v r => q _ _ _ _ _ _ a r rfl
end
end EW
/-! the mill is made -/
namespace EW
open PySem PyProof.Rows L2
/-- a list of whole numbers as the law is given it -/
def SqP (K : PySem.W.Frag) (ns : List Int) : Hp → V → Prop := fun U v => ∃ a, v = .ref a ∧ SqL K U a (ns.map V.int)
theorem SqP.mono {K : PySem.W.Frag} {ns : List Int} : ∀ U U' v, Same U U' → SqP K ns U v → SqP K ns U' v := fun U U' v e ⟨a, h, r⟩ => ⟨a, h, e.seq r⟩
theorem lt_two {N : Nat} {c : Int} (h : c.natAbs < 2 ^ N) : (if c < 0 then -c else c) < ((2 ^ N : Nat) : Int) ∧ 0 ≤ (if c < 0 then -c else c) := by
  generalize 2 ^ N = X at *
  split <;> omega
theorem great_step {N i : Nat} {g c : Int} (h0 : 0 ≤ g) (h : g < ((2 ^ (i * (N + 4)) : Nat) : Int)) (hc : c.natAbs < 2 ^ N) :
    0 ≤ g * (2 * (if c < 0 then -c else c) + 7) + (if c < 0 then -c else c) ∧ g * (2 * (if c < 0 then -c else c) + 7) + (if c < 0 then -c else c) < ((2 ^ ((i + 1) * (N + 4)) : Nat) : Int) := by
  obtain ⟨h1, h2⟩ := lt_two hc
  generalize (if c < 0 then -c else c) = a at *
  have e : 2 ^ ((i + 1) * (N + 4)) = 2 ^ (i * (N + 4)) * (16 * 2 ^ N) := by
    rw [Nat.succ_mul, Nat.pow_add, Nat.pow_add 2 N 4]
    rw [show (2 : Nat) ^ 4 = 16 from rfl, Nat.mul_comm (2 ^ N) 16]
  have p1 : 1 ≤ 2 ^ N := Nat.one_le_two_pow
  rw [e]
  generalize 2 ^ (i * (N + 4)) = X at *
  generalize 2 ^ N = Y at *
  have p2 : 0 ≤ g * (2 * a + 7) := Int.mul_nonneg h0 (by omega)
  refine ⟨by omega, ?_⟩
  have q1 : g * (2 * a + 7) ≤ ((X : Int) - 1) * (2 * a + 7) := Int.mul_le_mul_of_nonneg_right (by omega) (by omega)
  have q2 : ((X : Int) - 1) * (2 * a + 7) = (X : Int) * (2 * a + 7) - (2 * a + 7) := by rw [Int.sub_mul, Int.one_mul]
  have q3 : (X : Int) * (2 * a + 7) ≤ (X : Int) * (16 * (Y : Int)) := Int.mul_le_mul_of_nonneg_left (by omega) (by omega)
  have q4 : ((X * (16 * Y) : Nat) : Int) = (X : Int) * (16 * (Y : Int)) := by rw [Int.natCast_mul, Int.natCast_mul]; rfl
  rw [q4]
  omega
section
variable {K : PySem.W.Frag} {H0 : Hp} {O A0 : List Addr} {Ω : List Ob} {Γ : Ctx} {σ : L2.St} {H : Hp} {nx : L2.St → Hp → Prop} {rt : VK} {bk ct : L2.St → Hp → Prop} {te : TE} {i : Nat} {ns : List Int}
theorem de_lenP (h : Γ[i]? = some (.prd (SqP K ns) SqP.mono)) : DE (tCB (rLenQ K) (tCons (tVar i) tNil)) Γ Ω (.int ns.length) := de_of fun O A σ H s Q q => by
  obtain ⟨o, ho, v, rfl, a, rfl, r⟩ := s.sl.el i _ h
  have r2 : SqL K H a (ns.map V.int) := (off_le : Same (off H (O ++ A)) H).seq r
  exact ⟨.ref a, ho, a, _, rfl, .inl r2, q _ H (Fr.refl A H) s (by rw [List.length_map]; exact rp_int _)⟩
theorem di_prd (h : Γ[i]? = some (.prd (SqP K ns) SqP.mono)) : DI (iList K (tVar i)) Γ Ω (ns.map .int) := fun O A σ H s R q => by
  obtain ⟨o, ho, v, rfl, a, rfl, r⟩ := s.sl.el i _ h
  have up : ∀ X, (∀ b ∈ X, b ∈ O ++ A ∨ H b = none) → ∀ H2, Fr X H H2 → SqL K H2 a (ns.map V.int) := fun X hY H2 g => (off_le : Same (off H2 X) H2).seq (((g.same fun b z => z) : Same (off H X) (off H2 X)).seq ((off_two hY).seq r))
  refine ⟨.ref a, ho, a, rfl, ⟨_, (off_le : Same (off H (O ++ A)) H).seq r⟩, q _ H _ (Fr.refl A H) s rfl fun X hX hY => ⟨fun j H2 g hj => ?_, fun H2 g => ⟨_, up X hY H2 g, by rw [List.length_map, List.length_map]; exact Nat.le_refl _⟩, fun j H2 v H' g _ y d hd => ?_⟩⟩
  · rw [List.length_map] at hj
    exact ⟨_, .int ns[j], up X hY H2 g, by rw [List.getElem?_map, List.getElem?_eq_getElem hj]; rfl⟩
  · obtain ⟨rfl, hy⟩ := y
    have := hy _ (up X hY _ g)
    obtain ⟨c, hc, rfl⟩ := int_at hd
    rw [List.getElem?_map, hc] at this
    cases this
    exact ⟨fun _ _ h => h, rp_int c⟩
/-- a new list is given back -/
theorem st_retN {ds : List PyData} (h : DN te Γ Ω ds) (s : At H0 O [] Ω Γ σ H) (q : ∀ l xs H', Same H0 H' → H0 l = none → l ∉ O → H' l = some (.lst xs) → RpL (off H' (O ++ [])) xs ds → rt (.ref l) H') : tRet te ⟨nx, rt, bk, ct⟩ σ H := by
  obtain ⟨B, w, h1, h2⟩ := s
  refine h O _ σ H w _ fun l xs H' ds' f hl n hx w' r e => ?_
  subst e
  have f2 := At.fr h1 h2 f
  refine q l xs H' (fun a o e => f2 a o (fun z => nomatch z) e) ?_ n hx (r.ex (off_less fun a z => ?_))
  · cases q : H0 l with
    | none => rfl
    | some x =>
      have := h2 l x (fun z => nomatch z) q
      rw [hl] at this
      cases this
  · rw [List.append_nil] at z
    exact List.mem_cons_of_mem _ (List.mem_append_left _ z)
theorem Wd.takeMill {l : Addr} {H' : Hp} {A : List Addr} (w : Wd O A Ω Γ σ H) (e : Same H H') (hl : H l = none) (m : MillAt H' l) : Wd O (A ++ [l]) (Ω ++ [.mill]) Γ σ H' := by
  obtain ⟨g, x, hx, r⟩ := m
  refine (w.grow (u := .lst [.int g, .int x]) (o := .mill) hl ⟨g, x, upd_same, r⟩).same fun a o h => ?_
  by_cases q : a = l
  · subst q
    rw [upd_same] at h
    cases h
    exact hx
  · rw [upd_ne q] at h
    exact e a o h
end
section
variable {P : Program} {w : World} {K : PySem.W.Frag} {mg : Str → Option Value} {base : Heap}
abbrev s_law_mill : Stmt := topS 41
abbrev N_law_mill : List Str := ["_law_script", "_law_great_here", "_law_mixed", "_law_cell"]
theorem sc_law_mill : FnScope N_law_mill ["_law_script"] (defScope s_law_mill) := ⟨rfl, rfl, rfl, by decide +kernel, rfl, by decide +kernel, by decide +kernel⟩
def SpMill (K : PySem.W.Frag) : Sp := fun vs H Q _ => ∃ O a, ∃ ns : List Int, vs = [.ref a] ∧ (∀ b ∈ O, ∃ y, H b = some y) ∧ SqL K (off H O) a (ns.map V.int) ∧ ns.length ≤ 63 ∧ (∀ z ∈ ns, Builtin.Int.intBits z ≤ 1048576) ∧ ∀ l H', Same H H' → H l = none → MillAt H' l → Q (.ref l) H'
abbrev Q_law_mill (P : Program) (w : World) (K : PySem.W.Frag) (mg : Str → Option Value) (base : Heap) : Prop := Df P w K mg base CX0 1 "_law_mill" s_law_mill ["_law_script"] (SpMill K)
theorem df_law_mill (B : Bl mg) (F : Fx K mg "_law_mill" s_law_mill) : Q_law_mill P w K mg base := by
  obtain ⟨f, fd, F, hm⟩ := F.ex
  refine df_mk F hm (F.binds fun _ _ _ _ _ _ us hl => match us, hl with | [_], _ => rfl) sc_law_mill (fun vs H Q E ⟨_, _, _, e, _⟩ => by rw [e]; rfl) fun cdv A outer s H vs Q E hr h => ?_
  obtain ⟨O, ad, ns, rfl, tk, sq, hlen, hbits, q⟩ := h
  have a : At H O [] [] [.prd (SqP K ns) SqP.mono, .no, .no, .no] (L2.start N_law_mill [.ref ad]) H := by
    refine ⟨[], ⟨tk, List.nodup_nil, (fun b h => nomatch h), rfl, (fun k b o h => (by simp at h)), ⟨rfl, fun i t ht => ?_⟩⟩, (fun b h => nomatch h), Fr.refl _ _⟩
    match i, ht with
    | 0, ht => cases ht; exact ⟨_, rfl, _, rfl, ad, rfl, by rw [List.append_nil, List.append_nil]; exact sq⟩
    | 1, ht => cases ht; exact ⟨_, rfl, trivial⟩
    | 2, ht => cases ht; exact ⟨_, rfl, trivial⟩
    | 3, ht => cases ht; exact ⟨_, rfl, trivial⟩
    | i + 4, ht => simp at ht
  refine ⟨_, (pss_cons (ps_set (i := 1) sc_law_mill.nd rfl (Or.inl rfl) pe_int)
        (pss_cons (ps_set (i := 2) sc_law_mill.nd rfl (Or.inl rfl) (pe_op op_add pe_int (pe_callB (lenK K) (by rfl) B.m_len (by decide +kernel) (pa_cons (pv 0) pa_nil))))
        (pss_cons (ps_for PassesOwn.never rfl (piListK K (pv 0)) (pg_name (i := 3) sc_law_mill.nd rfl (Or.inl rfl))
          (pss_cons (ps_set (i := 1) sc_law_mill.nd rfl (Or.inl rfl) (pe_op op_add (pe_op op_mulB (pv 1) (pe_op op_add (pe_op op_mulB pe_int (pe_callB call_abs (by rfl) B.m_abs (by decide +kernel) (pa_cons (pv 3) pa_nil))) pe_int)) (pe_callB call_abs (by rfl) B.m_abs (by decide +kernel) (pa_cons (pv 3) pa_nil))))
          (pss_one (ps_set (i := 2) sc_law_mill.nd rfl (Or.inl rfl) (pe_op op_mod (pe_callTy call_int1 (by rfl) B.m_int (by decide +kernel) (pa_cons (pe_op op_add (pe_op op_add (pe_op op_mulB (pv 2) pe_int) (pe_op op_mulB (pv 3) pe_int)) pe_int) pa_nil)) (pe_op op_sub (pe_op op_pow pe_int pe_int) pe_int))))))
        (pss_one (ps_ret (pe_lst (pa_cons (pv 1) (pa_cons (pv 2) pa_nil)))))))), ?_⟩
  refine st_seq (st_set (de_int 0) a fun σ H a => ?_)
  refine st_seq (st_set (de_I0 (de_int 29) (de_lenP rfl)) a fun σ H a => ?_)
  generalize hN : (1048576 : Nat) = NB at *
  refine st_seq (st_for (α := Int × Int) (di_prd rfl) a fun ds e => ?_)
  subst e
  refine ⟨fun i x => 0 ≤ x.1 ∧ x.1 < ((2 ^ (i * (NB + 4)) : Nat) : Int) ∧ 0 ≤ x.2 ∧ x.2 < 2 ^ 61, fun _ x => [.prd (SqP K ns) SqP.mono, .dat (.int x.1), .dat (.int x.2), .no], fun _ _ => [], (0, 29 + (ns.length : Int)), ⟨Int.le_refl _, by rw [Nat.zero_mul]; show (0 : Int) < ((1 : Nat) : Int); decide, by dsimp only; omega, by dsimp only; omega⟩, rfl, rfl, fun _ _ => rfl, fun i x d hd ⟨x1, x2, x3, x4⟩ => ?_, fun x ⟨x1, x2, x3, x4⟩ σ H a => ?_⟩
  · obtain ⟨c, hc, rfl⟩ := int_at hd
    have hi : i < ns.length := (List.getElem?_eq_some_iff.mp hc).1
    have hcb : c.natAbs < 2 ^ NB := intBits_le_iff.mp (hbits c (List.mem_of_getElem? hc))
    obtain ⟨g, m⟩ := x
    have st := great_step x1 x2 hcb
    obtain ⟨ha1, ha2⟩ := lt_two hcb
    refine ⟨[3], _, dg_name, fun H1 A hA _ N σ H hN2 a => ?_⟩
    refine st_seq (st_set (de_I0 (de_I (C := CMulB) (de_var rfl) (de_I0 (de_I (C := CMulB) (de_int 2) (de_absOf (de_var rfl)) (.inl ⟨by decide, by decide⟩)) (de_int 7)) (.inr (.inr ?_))) (de_absOf (de_var rfl))) a fun σ H a => ?_)
    · have b1 : Builtin.Int.intBits g ≤ i * (NB + 4) := intBits_le_iff.mpr (by have := x2; show g.natAbs < _; omega)
      have b2 : Builtin.Int.intBits (2 * (if c < 0 then -c else c) + 7) ≤ NB + 4 := intBits_le_iff.mpr (by
        rw [Nat.pow_add, show (2 : Nat) ^ 4 = 16 from rfl]
        have : 1 ≤ 2 ^ NB := Nat.one_le_two_pow
        generalize 2 ^ NB = Y at *
        generalize (if c < 0 then -c else c) = z at *
        omega)
      have b3 : i * (NB + 4) ≤ 62 * (NB + 4) := Nat.mul_le_mul_right _ (by omega)
      show Builtin.Int.intBits g + Builtin.Int.intBits (2 * (if c < 0 then -c else c) + 7) ≤ 134217728
      subst hN
      omega
    · refine st_set (d := .int ((m * 1099511628211 + c * 40503 + 71) % (2 ^ 61 - 1))) (de_I (de_intOf (de_I0 (de_I0 (de_I (C := CMulB) (de_var (d := .int m) rfl) (de_int 1099511628211) (.inr (.inl ⟨by decide, by decide⟩))) (de_I (C := CMulB) (de_var (d := .int c) rfl) (de_int 40503) (.inr (.inl ⟨by decide, by decide⟩)))) (de_int 71))) two61 (by decide)) a fun σ H a => hN2 σ H (g * (2 * (if c < 0 then -c else c) + 7) + (if c < 0 then -c else c), (m * 1099511628211 + c * 40503 + 71) % (2 ^ 61 - 1)) ⟨st.1, st.2, Int.emod_nonneg _ (by decide), Int.lt_trans (Int.emod_lt_of_pos _ (show (0 : Int) < 2 ^ 61 - 1 by decide)) (by decide)⟩ (a.no [3])
  · refine st_retN (dn_lst (da_cons (de_var rfl) (da_cons (de_var rfl) da_nil))) a fun l xs H' e hl _ hx r => q l H' e hl ?_
    obtain ⟨v1, r1, rfl, h1, r⟩ := r.cons_of
    obtain ⟨v2, r2, rfl, h2, r⟩ := r.cons_of
    have := r.nil_of
    subst this
    rw [h1.int_of, h2.int_of] at hx
    exact ⟨x.1, x.2, hx, x1, x3, x4⟩
end
end EW
/-! Defs that run where no repr is under way (the guards are known): for repr of nested data. -/
namespace EW
open PySem PySem.Spec PyProof.Rows L2
structure FnG (P : Program) (w : World) (K : PySem.W.Frag) (mg : Str → Option Value) (base : Heap) (k : Nat) (f : Addr) (fd : FuncData) (ps : List Str) (sp : Sp) : Prop where
  len : ∀ vs H Q E, sp vs H Q E → vs.length = ps.length
  run : ∀ (A : Around) (outer : List Env) (s : Shared) (H : Hp) (args : Args) (us : List Value) (vs : List V) (Q : VK) (E : XK), A.guards = some [] → Room k A → Env0 P w K mg base A outer s H → BindsTo s fd args (ps.zip us) → Vals vs us → sp vs H Q E →
    codeAny (model P w) A (.call (.ref f) args) (CR CX0 outer P w H s Q E) s
theorem fnG_of {P : Program} {w : World} {K : PySem.W.Frag} {mg : Str → Option Value} {base : Heap} {k : Nat} {x : Str} {st : Stmt} {f : Addr} {fd : FuncData} {N ps : List Str} {sp : Sp} (F : Fun K x x st f fd) (S : FnScope N ps (defScope st)) (len : ∀ vs H Q E, sp vs H Q E → vs.length = ps.length)
    (hbody : ∀ (cdv : Value) (A : Around) (outer : List Env) (s : Shared) (H : Hp) (vs : List V) (Q : VK) (E : XK), A.guards = some [] → Room k (A.deeper (envOfC x (defScope st) s.heap.objs.size f cdv)) → sp vs H Q E →
      ∃ t, PSs (cxOf CX0 P w K mg base N x (defScope st) f cdv A outer s H E).nox (defBody st) t ∧ t { nx := fun _ H' => Q .non H', rt := Q } (L2.start N vs) H) : FnG P w K mg base (k + 1) f fd ps sp := by
  obtain ⟨oc, od, kV, doc, pm, an, cdv, ct, osl, rfl, lk, hcd⟩ := F.ex
  refine ⟨len, fun A outer s H args us vs Q E hG hr e0 hb r hsp => ?_⟩
  have up : ∀ b o, base.get? b = some o → s.heap.get? b = some o := fun b o e => (e0.bs b o e).1
  have KX := e0.mod.kin.keeps up
  have hkind : ∀ y ∈ ps.zip us, (defScope st).names.lookup y.1 = some .local ∨ ((defScope st).names.lookup y.1 = some .cell ∧ ((cellsFrom (s.heap.objs.size + 1) (defScope st).names []).lookup y.1).isSome = true) := fun ⟨n, v⟩ hy =>
    (S.par n (List.of_mem_zip hy).1).imp id fun q => ⟨q, PySem.W.cellsFrom_some _ _ _ (.inl q)⟩
  refine codeAny_call_function hr.depth (KX _ _ lk) rfl S.co S.gen rfl (PySem.W.codeRec_of KX hcd) (hb _ _ _ _ (wpAny_newFunctionEnv_cells S.kind hkind fun env he s1 x => ?_))
  subst he
  refine ⟨(e0.mod.nolimit.keeps up).keeps x.toInCall.keep, codeAny_func ?_⟩
  obtain ⟨t, ht, hq⟩ := hbody cdv A outer s H vs Q E hG (hr.deeper _) hsp
  refine wpAny_mono (ht.nox.run [] s1 (L2.start N vs) H _ (inv_start S hr.hd e0 (len _ _ _ _ hsp) r x) hq) (fun fl s' hs => ?_) fun e s' hs => hs
  cases fl with
  | ret u =>
    obtain ⟨v, σ', H', J, rv, q⟩ := hs
    exact ⟨v, H', J.os, J.bare, J.base, J.hok, rv, q⟩
  | next =>
    obtain ⟨σ', H', J, q⟩ := hs
    exact ⟨.non, H', J.os, J.bare, J.base, J.hok, rfl, q⟩
  | brk =>
    obtain ⟨_, _, _, q⟩ := hs
    exact q.elim
  | cont =>
    obtain ⟨_, _, _, q⟩ := hs
    exact q.elim
structure DfG (P : Program) (w : World) (K : PySem.W.Frag) (mg : Str → Option Value) (base : Heap) (k : Nat) (x : Str) (st : Stmt) (ps : List Str) (sp : Sp) : Prop where
  ex : ∃ f fd, FnG P w K mg base k f fd ps sp ∧ Fun K x x st f fd ∧ mg x = some (.ref f) ∧ Binds K fd ps []
section
variable {X : Cx} {k : Nat} {f : Addr} {fd : FuncData} {ps : List Str} {sp : Sp} {x : Str} {p pos : Pos} {e : Expr} {es : List Expr} {t : TA}
theorem run_fnG {pins : List (Addr × Obj)} {σ : L2.St} {H : Hp} {s : Shared} {Q : VK} {us : List Value} {vs : List V} (F : FnG X.prog X.w X.K X.mg X.base k f fd ps sp) (hG : X.A.guards = some []) (hr : Room k X.A) (hb : Binds X.K fd ps [])
    (I : Inv X pins σ H s) (r : Vals vs us) (h : sp vs H Q E0) : wpAny (model X.prog X.w) X.A (call (.ref f) us) (EP X pins σ Q) X.xe s := by
  have hl : us.length = ps.length := by rw [← r.length]; exact F.len _ _ _ _ h
  have b := hb s us I.kIn (by rw [List.append_nil]; exact hl)
  rw [List.append_nil] at b
  refine wpAny_call (codeAny_mono (F.run X.A X.stack s H ⟨us, []⟩ us vs Q E0 hG hr I.env0 b r h) fun r s' hq => ?_)
  cases r with
  | error e => exact False.elim hq
  | ok fl =>
    cases fl with
    | ret u => exact I.after hq
    | next => exact False.elim hq
    | brk => exact False.elim hq
    | cont => exact False.elim hq
theorem pe_dfG {st : Stmt} (D : DfG X.prog X.w X.K X.mg X.base k x st ps sp) (hG : X.A.guards = some []) (hr : Room k X.A) (hg : Gl X x) (ha : PA X (e :: es) t) (hdb : (x == ("__debug__" : Str)) = false := by decide)
    (he : starEach (e :: es) X.env = (false, eval e X.env) :: starEach es X.env := by rfl) (hpl : (backTo pos (starEach es X.env)).any (·.1) = false := by rfl) : PE X (.Call (.Name x p) (e :: es) [] pos) (tCall sp [] E0 t) := by
  obtain ⟨f, fd, F, G, hm, hb⟩ := D.ex
  refine ⟨fun pins s σ H Q I h => ?_⟩
  refine wpAny_Call_Name_kw (ld_glob I hg hm ?_ hdb)
  refine PySem.W.callWith_K (h₀ := X.base) I.ok.mod.kin G.kp (thn (ha.run pos pins s σ H _ I h) fun us s1 ⟨vs, H1, I1, r, q⟩ => ⟨I1.kIn, ?_⟩) he hpl
  exact run_fnG F hG hr hb I1 r (by have q' : sp (vs ++ []) H1 Q E0 := q; rw [List.append_nil] at q'; exact q')
end
/-- a def whose first parameter is the mill -/
theorem df_ofMG {P : Program} {w : World} {K : PySem.W.Frag} {mg : Str → Option Value} {base : Heap} {x : Str} {st : Stmt} {N ps : List Str} {k : Nat} {α : Type} {arg : α → List PyData} {pre : α → Prop} {post : α → PyData → Prop} (F : Fx K mg x st) (S : FnScope N ps (defScope st)) (b : ∀ f fd, Fun K x x st f fd → Binds K fd ps []) (len : ∀ y, 1 + (arg y).length = ps.length) (hN : ps.length ≤ N.length)
    (hbody : ∀ (f : Addr) (cdv : Value) (A : Around) (outer : List Env) (s : Shared) (H : Hp) (Q : VK) (E : XK) (O : List Addr) (a : Addr) (y : α) (σ : L2.St), A.guards = some [] → Room k (A.deeper (envOfC x (defScope st) s.heap.objs.size f cdv)) → pre y →
      At H O [a] [.mill] (.own 0 :: args (N.drop 1) (arg y)) σ H → (∀ v σ' H' Ω' Γ' d, At H O [a] (.mill :: Ω') Γ' σ' H' → Rp (off H' (O ++ [a])) v d → post y d → Q v H') → ∃ t, PSs (cxOf CX0 P w K mg base N x (defScope st) f cdv A outer s H E).nox (defBody st) t ∧ t { nx := fun _ H' => Q .non H', rt := Q } σ H) : DfG P w K mg base (k + 1) x st ps (SpN arg pre post) := by
  obtain ⟨f, fd, F, hm⟩ := F.ex
  refine ⟨f, fd, fnG_of F S (fun vs H Q E h => ?_) (fun cdv A outer s H vs Q E hG hr h => ?_), F, hm, b f fd F⟩
  · obtain ⟨O, a, us, y, rfl, na, tk, m, r, p, q⟩ := h
    rw [List.length_cons, r.length, Nat.add_comm, len y]
  · obtain ⟨O, a, us, y, rfl, na, tk, m, r, p, q⟩ := h
    refine hbody f cdv A outer s H Q E O a y _ hG hr p (at_startM tk na m r (by rw [len y]; exact hN)) fun v σ' H' Ω' Γ' d at2 r2 p2 => ?_
    obtain ⟨B, w2, _, f⟩ := at2
    exact q v H' d f (w2.ob 0 a .mill rfl rfl) r2 p2
/-- the law's def, called -/
theorem lawG {P : Program} {w : World} {K : PySem.W.Frag} {mg mb : Str → Option Value} {k : Nat} {fa a : Addr} {fd : FuncData} {x : Str} {sp : Sp} {s₁ : Shared} {vs : List Value} {ns : List Int}
    (KX : K.In s₁.heap) (hns : s₁.heap.Ns mainGlobals mg) (hb : s₁.heap.Ns builtinsNs mb) (hbb : ∀ x : Str, x ≠ "__name__" → mb x = bootBuiltins x) (hlim : s₁.heap.NoLimit) (hg : s₁.gens = #[])
    (ha : s₁.heap.get? a = some { cls := .type "list", data := .seq vs.toArray }) (hi : IntsAre vs ns) (hl : ns.length ≤ sizeLine) (hr : Room k callerA)
    (F : ∀ base : Heap, K.In base → base.Ns mainGlobals mg → FnG P w K mg base k fa fd [x] sp) (hbind : ∀ (s : Shared) (u : Value), BindsTo s fd ⟨[u], []⟩ [(x, u)])
    (hsp : ∀ H : Hp, Only H → SqL K H a (ns.map V.int) → sp [.ref a] H (fun v _ => v = .bl true) fun _ _ _ => False) :
    codeAny (model P w) callerA (.call (.ref fa) ⟨[.ref a], []⟩) (fun r s' => r = .ok (.ret (.bool true)) ∧ OldK s₁.heap s'.heap ∧ s'.os = s₁.os ∧ AllBare s'.gens) s₁ := by
  have rv := vals_ints hi
  have lenV := hi.length
  -- from an abstract heap in which nothing but the script may be tracked
  have core : ∀ H : Hp, Only H → SqL K H a (ns.map V.int) → HOk P w H s₁.heap → (∀ b, H b ≠ none → b = a) → (H a ≠ none → K.lookup a = none) →
      codeAny (model P w) callerA (.call (.ref fa) ⟨[.ref a], []⟩) (fun r s' => r = .ok (.ret (.bool true)) ∧ OldK s₁.heap s'.heap ∧ s'.os = s₁.os ∧ AllBare s'.gens) s₁ := by
    intro H hO hS hok hA hK
    have base_of : ∀ {b : Addr} {o : Obj}, s₁.heap.get? b = some o → H b = none → (hidT s₁.heap H).get? b = some o := fun e n => hidT_get e n
    have noA : ∀ {b : Addr} {o : Obj} {es : Array DictEntry} {ep : Nat}, s₁.heap.get? b = some o → o.data = .dict es ep → H b = none := fun {b o es ep} e d => by
      cases q : H b with
      | none => rfl
      | some u =>
        have e' : b = a := hA b (by rw [q]; simp)
        subst e'
        rw [ha] at e; cases e
        have d' : Data.seq vs.toArray _ = Data.dict es ep := d
        cases d'
    have nsK : ∀ {b : Addr} {m : Str → Option Value}, s₁.heap.Ns b m → (hidT s₁.heap H).Ns b m := fun {b m} ⟨o, es, ep, e, d, r⟩ => ⟨o, es, ep, base_of e (noA e d), d, r⟩
    have hKb : K.In (hidT s₁.heap H) := fun b o e => base_of (KX b o e) (by
      cases q : H b with
      | none => rfl
      | some u =>
        have e' : b = a := hA b (by rw [q]; simp)
        subst e'
        rw [hK (by rw [q]; simp)] at e; cases e)
    have hM : Mod K mg (hidT s₁.heap H) := ⟨hKb, nsK hns, ⟨mb, nsK hb, hbb⟩, let ⟨mc, h1, h2⟩ := hlim; ⟨mc, nsK h1, h2⟩⟩
    have e0 : Env0 P w K mg (hidT s₁.heap H) callerA [] s₁ H := ⟨rfl, hM, fun b o e => of_hidT e, Nat.le_of_eq (hidT_size _ _), trivial, fun b hb => absurd (show b ∈ ([] : List Addr) from hb) (by simp), hok, .of_eq hg⟩
    refine codeAny_mono ((F _ hKb (nsK hns)).run callerA [] s₁ H ⟨[.ref a], []⟩ [.ref a] [.ref a] _ _ rfl hr e0 (hbind s₁ (.ref a)) (.cons rfl .nil) (hsp H hO hS)) fun r s' h => ?_
    cases r with
    | error e => exact False.elim h
    | ok fl =>
      cases fl with
      | next => exact False.elim h
      | brk => exact False.elim h
      | cont => exact False.elim h
      | ret u =>
        obtain ⟨v, H', os, bare, un, hok', r', q⟩ := h
        have q' : v = .bl true := q
        subst q'
        obtain rfl : u = Value.bool true := r'
        refine ⟨rfl, OldK.of_keep fun b o e => ?_, os, bare⟩
        cases q : H b with
        | none => exact un.keep b o e q (by intro z; exact absurd (show b ∈ ([] : List Addr) from z) (by simp)) (by simp)
        | some u =>
          rcases hO b with z | ⟨ob, xs, z⟩
          · rw [q] at z; cases z
          · have z2 := un.frzs b ob _ z
            obtain ⟨e1, _⟩ := hok b _ z
            obtain ⟨e2, _⟩ := hok' b _ z2
            rw [e] at e1; cases e1
            exact e2
  cases hk : K.lookup a with
  | some o =>
    -- the script is one of the module's own objects
    have e := KX a o hk
    rw [ha] at e
    cases e
    refine core (fun _ => none) (fun _ => .inl rfl) (.inr ⟨_, vs.toArray, _, hk, rfl, rfl, rfl, by rw [List.size_toArray, lenV]; exact hl, by simpa using rv⟩) (fun b u z => by have z' : (none : Option HO) = some u := z; cases z') (fun b z => absurd rfl z) fun z => absurd rfl z
  | none =>
    refine core (fun b => if b = a then some (.frz { cls := .type "list", data := .seq vs.toArray } (.lst (ns.map V.int))) else none) (fun b => ?_) (.inl (.inr ⟨{ cls := .type "list", data := .seq vs.toArray }, if_pos rfl⟩)) (fun b u z => ?_) (fun b z => ?_) fun _ => hk
    · by_cases hb : b = a
      · exact .inr ⟨_, _, if_pos hb⟩
      · exact .inl (if_neg hb)
    · by_cases hb : b = a
      · have z' := (if_pos hb).symm.trans z
        cases z'
        subst hb
        exact ⟨ha, by rw [List.length_map]; exact hl, vs, _, rv, ha⟩
      · have z' := (if_neg hb).symm.trans z
        cases z'
    · by_cases hb : b = a
      · exact hb
      · exact absurd (if_neg hb) z
theorem walkG {l : PySem.W.OpenLaw} {n k : Nat} {q : Program} {loose : List Str} {XP : (Str → Option Value) → Heap → Prop} {YP : World → Heap → Prop} {d : DefRec} {K : Params → PySem.W.Frag} {sp : World → Sp} {x : Str}
    (hn : l.most = some n) (hn2 : n ≤ sizeLine) (hdf : d.params.defaults = []) (hr : Room k callerA)
    (hY : ∀ (w : World) (h : Heap), YP w h → (K w.params).In h)
    (F : ∀ (w : World) (mg : Str → Option Value) (fa : Addr) (h : Heap), (K w.params).In h → h.Ns mainGlobals mg → mg d.name = some (.ref fa) →
      ∃ fd : FuncData, (∀ (s : Shared) (u : Value), BindsTo s fd ⟨[u], []⟩ [(x, u)]) ∧ ∀ base : Heap, (K w.params).In base → base.Ns mainGlobals mg → FnG l.prog w (K w.params) mg base k fa fd [x] (sp w))
    (hsp : ∀ (w : World) (H : Hp) (a : Addr) (ns : List Int), ns.length ≤ n → (∀ z ∈ ns, Builtin.Int.intBits z ≤ 1048576) → Only H → SqL (K w.params) H a (ns.map V.int) → sp w [.ref a] H (fun v _ => v = .bl true) fun _ _ _ => False) :
    PySem.W.WalkO q loose XP YP l.row.toRowW d [] (fun f vs => PySem.call f vs) := by
  refine Att.attach_callB hn hdf fun w s₀ s₁ mg mb fa o pm cd doc a vs ns G Y ho hd hcd hmg hobj hints hlen hbits hg => ?_
  have KX := hY w _ Y
  obtain ⟨fd, hb, hF⟩ := F w mg fa _ KX G.T.g hmg
  exact lawG KX G.T.g G.T.b G.T.builtins G.T.nolimit hg hobj hints (Nat.le_trans hlen hn2) hr hF hb fun H hO hS => hsp w H a ns hlen hbits hO hS
end EW
/-! repr of nested data -/
namespace EW
open PySem PySem.Spec PyProof.Rows L2
/-- what can be shown within n signs -/
structure ShN (d : PyData) (n : Nat) : Prop where
  sh : d.showable = true
  nd : d.hasDict = false
  le : d.shown.length ≤ n
theorem ShN.mono {d : PyData} {n m : Nat} (h : ShN d n) (k : n ≤ m) : ShN d m := ⟨h.sh, h.nd, Nat.le_trans h.le k⟩
theorem sh_none : ShN .none 1921 := ⟨rfl, rfl, by show (Str.ofString "None").length ≤ 1921; decide +kernel⟩
theorem sh_bool (b : Bool) : ShN (.bool b) 1921 := ⟨rfl, rfl, by cases b <;> decide +kernel⟩
theorem sh_int {i : Int} (h : i.natAbs < 2 ^ 1920) : ShN (.int i) 1921 := by
  have hl : i.natAbs.log2 < 1920 := by
    by_cases z : i.natAbs = 0
    · rw [z]
      decide +kernel
    · exact (Nat.log2_lt z).mpr h
  exact ⟨decide_eq_true hl, rfl, int_text_len_1921 hl⟩
theorem sh_all : ∀ {ds : List PyData} {n : Nat}, (∀ d ∈ ds, ShN d n) → PyData.showableAll ds = true ∧ PyData.hasDictAll ds = false ∧ (PyData.shownAll ds).length = ds.length ∧ ∀ t ∈ PyData.shownAll ds, t.length ≤ n
  | [], n, _ => ⟨rfl, rfl, rfl, fun _ h => nomatch h⟩
  | d :: ds, n, h => by
    obtain ⟨h1, h2, h3, h4⟩ := sh_all (ds := ds) fun x hx => h x (List.mem_cons_of_mem _ hx)
    have h0 := h d List.mem_cons_self
    refine ⟨?_, ?_, ?_, ?_⟩
    · show (d.showable && PyData.showableAll ds) = true
      rw [h0.sh, h1]
      rfl
    · show (d.hasDict || PyData.hasDictAll ds) = false
      rw [h0.nd, h2]
      rfl
    · show (PyData.shownAll ds).length + 1 = _
      rw [h3]
      rfl
    · intro t ht
      rcases List.mem_cons.mp ht with rfl | ht
      · exact h0.le
      · exact h4 t ht
theorem piled_le {n : Nat} : ∀ {ts : List Str}, (∀ t ∈ ts, t.length ≤ n) → piled ts ≤ (n + 2) * ts.length
  | [], _ => Nat.zero_le _
  | t :: ts, h => by
    have h0 := h t List.mem_cons_self
    have h1 := piled_le (ts := ts) fun x hx => h x (List.mem_cons_of_mem _ hx)
    rw [piled_cons, List.length_cons, Nat.mul_succ]
    omega
theorem listText_le : ∀ (ts : List Str) (k : Nat) (acc : Str), (textFrom k acc ts).length ≤ acc.length + piled ts
  | [], k, acc => Nat.le_add_right _ _
  | t :: r, k, acc => by
    have h := listText_le r (k + 1) (acc ++ (if k > 0 then ", " else "" : String) ++ t)
    have e : (acc ++ (if k > 0 then ", " else "" : String) ++ t).length ≤ acc.length + 2 + t.length := by
      rw [strLen_append, strLen_append]
      have : ((if k > 0 then ", " else "" : String) : Str).length ≤ 2 := by split <;> decide
      omega
    rw [piled_cons]
    exact Nat.le_trans h (by omega)
theorem sh_list {ds : List PyData} {n : Nat} (h : ∀ d ∈ ds, ShN d n) : ShN (.list ds) ((n + 2) * ds.length + 3) := by
  obtain ⟨h1, h2, h3, h4⟩ := sh_all h
  refine ⟨h1, h2, ?_⟩
  show (textFrom 0 (Str.ofString "[") (PyData.shownAll ds) ++ Str.ofString "]").length ≤ _
  have a := listText_le (PyData.shownAll ds) 0 (Str.ofString "[")
  have b := piled_le h4
  have e1 : (Str.ofString "[").length = 1 := rfl
  have e2 : (Str.ofString "]").length = 1 := rfl
  rw [strLen_append]
  rw [h3] at b
  omega
theorem sh_tuple {ds : List PyData} {n : Nat} (h : ∀ d ∈ ds, ShN d n) : ShN (.tuple ds) ((n + 2) * ds.length + 3) := by
  obtain ⟨h1, h2, h3, h4⟩ := sh_all h
  refine ⟨h1, h2, ?_⟩
  show (tupleText (PyData.shownAll ds)).length ≤ _
  have b := piled_le h4
  rw [h3] at b
  have e1 : (Str.ofString "(").length = 1 := rfl
  have e3 : (((if (PyData.shownAll ds).length == 1 then ",)" else ")" : String) : Str)).length ≤ 2 := by split <;> decide
  unfold tupleText
  rw [strLen_append, strLen_append]
  by_cases z : PyData.shownAll ds = []
  · rw [z] at e3 ⊢
    have : (Str.join ", " ([] : List Str)).length = 0 := rfl
    omega
  · have := join_length_add _ z
    omega
def rShow (K : PySem.W.Frag) : List V → Hp → VK → Prop := fun xs H Q => ∃ x d, xs = [x] ∧ Dp K H x d ∧ ShN d 16777216 ∧ d.depth ≤ 100 ∧ Q (.str d.shown) H
theorem cr_repr {X : Cx} {k : Nat} (hG : X.A.guards = some []) (hr : Room k X.A) : CallR X (.builtin "repr") (rShow X.K) := by
  intro pins s1 σ H1 xs us Q I1 r1 h
  obtain ⟨x, d, rfl, hd, hs, hk, q⟩ := h

  obtain ⟨u, rfl, ru⟩ := vals1 r1
  have hu := hr.un
  have hz : d.shown.length ≤ sizeLine := Nat.le_trans hs.le (by rw [sizeLine_eq]; decide)
  show wpAny _ _ (call (.builtin "repr") [u]) _ _ _
  have fin : ∀ t tk, EP X pins σ Q (.str d.shown t) { s1 with toks := tk } := fun t tk => ⟨.str d.shown, H1, I1.kept (t' := tk) fun _ _ z => z, ⟨_, rfl⟩, q⟩
  cases hd with
  | non =>
    cases ru
    exact PySem.P.repr_of_none (fin _ _)
  | bl b =>
    cases ru
    exact PySem.P.repr_of_bool (fin _ _)
  | int i =>
    obtain ⟨t, rfl⟩ := ru
    exact PySem.P.repr_of_int (of_decide_eq_true hs.sh) (fin _ _)
  | str y =>
    obtain ⟨t, rfl⟩ := ru
    exact PySem.P.repr_of_str (fin _ _) hz
  | lst h1 h2 =>
    obtain ⟨as, hR⟩ := Dp.reads I1 _ _ _ (.lst h1 h2) ru
    cases ru
    exact repr_of_reads' hR hs.sh (PyData.noDict_hsm hs.nd) hG (by omega) (fun _ _ e => e) (fun h' t tk hk => ⟨.str _, H1, I1.kept (t' := tk) hk, ⟨_, rfl⟩, q⟩) hz
  | tup h1 h2 =>
    obtain ⟨as, hR⟩ := Dp.reads I1 _ _ _ (.tup h1 h2) ru
    cases ru
    exact repr_of_reads' hR hs.sh (PyData.noDict_hsm hs.nd) hG (by omega) (fun _ _ e => e) (fun h' t tk hk => ⟨.str _, H1, I1.kept (t' := tk) hk, ⟨_, rfl⟩, q⟩) hz
section
variable {K : PySem.W.Frag} {Γ : Ctx} {Ω : List Ob} {te : TE} {d : PyData}
theorem de_show (h : DE te Γ Ω d) (hs : ShN d 16777216) (hk : d.depth ≤ 100) : DE (tCB (rShow K) (tCons te tNil)) Γ Ω (.str d.shown) := de_of fun O A σ H s Q q =>
  h.run s fun x H1 e1 s1 r1 => ⟨x, d, rfl, (r1.ex off_le).dp, hs, hk, q _ H1 e1 s1 (rp_str _)⟩
end
end EW
/-! For values_right: a long tuple, list(tuple), values that are fine and can be shown. -/
namespace EW
open PySem PySem.Spec PyProof.Rows L2
/-- (0,) * k -/
def rRepZ (K : PySem.W.Frag) : R2 := fun x y H Q => ∃ l k, x = .ref l ∧ y = .int k ∧ SqT K H l [.int 0] ∧ 2 ≤ k ∧ k ≤ 5000 ∧ ∀ p, H p = none → Q (.ref p) (upd H p (.tup (List.replicate k.toNat [V.int 0]).flatten))
theorem op_repZ {X : Cx} : OpR X (binaryOp .Mult) (rRepZ X.K) := by
  intro pins s σ H x y v u Q I rx ry h
  obtain ⟨l, k, rfl, rfl, hT, h1, h2, q⟩ := h
  cases rx
  obtain ⟨t, rfl⟩ := ry
  obtain ⟨its, r, ⟨⟨cls, dd, data, sl⟩, ho, hc, n, hd⟩, hs⟩ := I.tuple hT
  simp only at hc hd
  subst hc hd
  have hle : its.length = 1 := r.length.symm
  obtain ⟨z, rfl⟩ : ∃ z, its = [z] := match its, hle with | [z], _ => ⟨z, rfl⟩
  have cut : ∀ (j : Nat), (List.replicate j [z]).flatten.length = j := fun j => by
    rw [PyProof.Rows.lm_len_rep_flat, List.length_singleton, Nat.mul_one]
  have small : (List.replicate k.toNat [z]).flatten.length ≤ sizeLine := by
    rw [cut, sizeLine_eq]
    omega
  have e1 : (([z].toArray.size : Nat) : Int) * k = k := by
    show (1 : Int) * k = k
    omega
  have b0 : (decide (k < -(2 ^ 63)) || decide (k ≥ 2 ^ 63)) = false := by
    rw [decide_eq_false (by omega), decide_eq_false (by omega)] <;> rfl
  have b1 : ([z].toArray.isEmpty || k == 1) = false := beq_eq_false_iff_ne.mpr (show k ≠ 1 by omega)
  have b2 : (decide (k ≤ 0) || [z].toArray.isEmpty) = false := by
    rw [decide_eq_false (by omega)]
    rfl
  have b4 : Builtin.Tuple.tupleTooMany (((([z].toArray.size : Nat) : Int)) * k) = false := by
    rw [e1]
    unfold Builtin.Tuple.tupleTooMany
    rw [sizeLine_eq]
    exact decide_eq_false (by omega)
  refine wpAny_binaryOp_repeat_ref (T := "tuple") (U := "int") (by decide) ⟨_, ho, rfl⟩ (fun s' => typeIs_int s' k t) noFill_tuple_mul F.fills_int_mul F.slot_int_rmul repeat_tuple F.slot_int_index.lookup
    (call_meets F.slot_int_rmul (typeIs_int s k t) F.entry_int_rmul (F.args_int_rmul_2 _ _) (int_rmul_tuple k t l [z].toArray n dd sl)
      ⟨ho, rfl, ⟨_, ho, rfl⟩, call_meets F.slot_tuple_mul ⟨_, ho, rfl⟩ F.entry_tuple_mul (F.args_tuple_mul_2 _ _) (tuple_mulW l [z].toArray n dd sl k t b0 b1 b2 (by rw [e1]; omega) b4 (by rw [size_rep, List.size_toArray]; exact small)) ⟨ho, ?_⟩⟩)
  rw [size_rep]
  refine ⟨.ref s.heap.objs.size, _, I.laid (t' := s.toks) (o := .tup (List.replicate k.toNat [V.int 0]).flatten) (fun b ob q => Heap.get?_push_of_some _ q) (Nat.le_refl _) ?_, rfl, q _ (I.hok.fresh (Nat.le_refl _))⟩
  refine ⟨?_, _, r.rep k.toNat, IsTup.new _ _⟩
  rw [PyProof.Rows.lm_len_rep_flat, List.length_singleton, sizeLine_eq]
  omega
theorem repZK {X : Cx} (K : PySem.W.Frag) (h : X.K = K := by rfl) : OpR X (binaryOp .Mult) (rRepZ K) := by
  subst h
  exact op_repZ
theorem flat_zeros : ∀ m : Nat, (List.replicate m [V.int 0]).flatten = (List.replicate m (0 : Int)).map V.int
  | 0 => rfl
  | m + 1 => by
    rw [List.replicate_succ, List.replicate_succ, List.flatten_cons, flat_zeros m]
    rfl
section
variable {K : PySem.W.Frag} {Γ : Ctx} {Ω : List Ob} {ta tb : TE} {d : PyData} {ds : List PyData}
theorem de_repZ {k : Int} (ha : DE ta Γ Ω (.tuple [.int 0])) (hb : DE tb Γ Ω (.int k)) (h1 : 2 ≤ k) (h2 : k ≤ 5000) : DE (tOp (rRepZ K) ta tb) Γ Ω (intsT (List.replicate k.toNat 0)) := de_of fun O A σ H s Q q =>
  ha.run s fun x H1 e1 s1 r1 => hb.run s1 fun y H2 e2 s2 r2 => by
    obtain ⟨a, xs, rfl, hx, rx⟩ := (r1.ex (e2.same fun b z => List.mem_append_right _ z)).tuple_of
    obtain ⟨v, ws, rfl, rv, rw2⟩ := rx.cons_of
    obtain rfl := rw2.nil_of
    obtain rfl := rv.int_of
    refine ⟨a, k, rfl, r2.int_of, SqT.of (off_of hx).2, h1, h2, fun p hp => ?_⟩
    obtain ⟨a1, a2, a3, a4⟩ := s2.alloc (o := .tup (List.replicate k.toNat [V.int 0]).flatten) hp
    refine q _ _ ((e1.trans e2).trans a2) a1 (rp_tuple a4 ?_)
    rw [flat_zeros]
    exact rpl_ints _
theorem de_listT (ha : DE ta Γ Ω (.tuple ds)) : DE (tCB (rListQ K) (tCons ta tNil)) Γ Ω (.list ds) := de_of fun O A σ H s Q q =>
  ha.run s fun x H1 e1 s1 r1 => by
    obtain ⟨a, xs, rfl, hx, rx⟩ := r1.tuple_of
    refine ⟨a, xs, rfl, .inr (SqT.of (off_of hx).2), fun p hp => ?_⟩
    obtain ⟨a1, a2, a3, a4⟩ := s1.alloc (o := .lst xs) hp
    exact q _ _ (e1.trans a2) a1 (rp_list a4 (rx.ex a3))
theorem dip_list {P : List PyData → Prop} (h : DEp ta Γ Ω fun d => ∃ ds, d = .list ds ∧ P ds) : DIp (iList K ta) Γ Ω P := fun O A σ H s R q => h O A σ H s _ fun v H1 d e s1 r ⟨ds, ed, p⟩ => by
  subst ed
  obtain ⟨a, xs, rfl, hx, r1⟩ := r.list_of
  have ha := off_of hx
  have dw : ∀ X, (∀ a ∈ O ++ A, a ∈ X) → (∀ a ∈ X, a ∈ O ++ A ∨ H1 a = none) → Draw X (Itl K a) (Fr X H1) (ds) := fun X hX hY => by
    have nA : a ∉ X := not_in hY ha
    refine ⟨fun i H2 g hi => ?_, fun H2 g => ⟨xs, SqL.of (g _ _ nA ha.2), by rw [r1.length]; exact Nat.le_refl _⟩, fun i H2 v H' g _ y d hd => ?_⟩
    · have hlt : i < xs.length := by rw [r1.length]; exact hi
      exact ⟨xs, xs[i], SqL.of (g _ _ nA ha.2), List.getElem?_eq_getElem hlt⟩
    · obtain ⟨rfl, hy⟩ := y
      obtain ⟨v', hv', rv⟩ := r1.get hd
      have := hy xs (SqL.of (g _ _ nA ha.2))
      rw [hv'] at this
      cases this
      exact ⟨fun _ _ h => h, (rv.ex (off_two hY)).ex (g.same fun a z => z)⟩
  exact ⟨a, rfl, ⟨xs, SqL.of ha.2⟩, q _ H1 ds e s1 p dw⟩
end
end EW
/-! the law's values_right -/
namespace EW
open PySem PyProof.Rows L2
structure Gv (d : PyData) : Prop where
  fine : Fine d
  sh : ShN d 16777216
theorem Gv.depth {d : PyData} (h : Gv d) : d.depth ≤ 100 := Nat.le_trans h.fine.tame.2 (by decide)
theorem gv_tuple {ds : List PyData} {n : Nat} (h : ∀ d ∈ ds, Tame 7 d ∧ ShN d n) (hl : ds.length ≤ 5000) (hn : (n + 2) * ds.length + 3 ≤ 16777216) : Gv (.tuple ds) :=
  ⟨⟨tame_tuple fun d hd => (h d hd).1, fun es e => by cases e; exact hl⟩, (sh_tuple fun d hd => (h d hd).2).mono hn⟩
theorem gv_list {ds : List PyData} {n : Nat} (h : ∀ d ∈ ds, Tame 7 d ∧ ShN d n) (hn : (n + 2) * ds.length + 3 ≤ 16777216) : Gv (.list ds) :=
  ⟨⟨tame_list fun d hd => (h d hd).1, fun es e => by cases e⟩, (sh_list fun d hd => (h d hd).2).mono hn⟩
theorem el_ints {ms : List Int} (h : ∀ m ∈ ms, m.natAbs < 2 ^ 1920) : ∀ d ∈ ms.map PyData.int, Tame 7 d ∧ ShN d 1921 := fun d hd => by
  obtain ⟨m, hm, rfl⟩ := List.mem_map.mp hd
  exact ⟨tame_int 7 m, sh_int (h m hm)⟩
theorem gv_ints {ms : List Int} (h : ∀ m ∈ ms, m.natAbs < 2 ^ 1920) (hl : ms.length ≤ 5000) : Gv (intsT ms) :=
  gv_tuple (el_ints h) (by rw [List.length_map]; exact hl) (by rw [List.length_map]; omega)
theorem gv_none : Gv .none := ⟨⟨tame_none 8, fun _ e => by cases e⟩, sh_none.mono (by decide)⟩
theorem gv_int {i : Int} (h : i.natAbs < 2 ^ 1920) : Gv (.int i) := ⟨⟨tame_int 8 i, fun _ e => by cases e⟩, (sh_int h).mono (by decide)⟩
theorem sh_str0 : ShN (.str "") 1921 := ⟨rfl, rfl, by decide +kernel⟩
theorem sh_str1 : ShN (.str "0") 1921 := ⟨rfl, rfl, by decide +kernel⟩
theorem gv_str : Gv (.str "") := ⟨⟨⟨by decide +kernel, Nat.zero_le _⟩, fun _ e => by cases e⟩, sh_str0.mono (by decide)⟩
theorem small_int {m : Int} (h : m.natAbs ≤ 4000000) : m.natAbs < 2 ^ 1920 := Nat.lt_of_le_of_lt h (by decide +kernel)
theorem cutL_mem {α : Type} {xs : List α} {lo hi : Option Int} {x : α} (h : x ∈ cutL xs lo hi) : x ∈ xs := List.mem_of_mem_drop (List.mem_of_mem_take h)
theorem cutL_len {α : Type} {xs : List α} {lo hi : Option Int} : (cutL xs lo hi).length ≤ xs.length := by
  unfold cutL
  rw [List.length_take, List.length_drop]
  omega
theorem cpow60 : CPow 10 60 := ⟨by decide, by decide, by decide +kernel⟩
theorem cpow29 : CPow 10 29 := ⟨by decide, by decide, by decide +kernel⟩
theorem eqv_bb (a b : Bool) : (!PyData.eqv (.list [.bool a, .bool b]) (.list [.bool a, .bool b])) = false := by cases a <;> cases b <;> decide +kernel
theorem shaped_bb (a b : Bool) : SeqAt.shaped (.list [.bool a, .bool b]) = true := by cases a <;> cases b <;> decide +kernel
theorem dap_mono {ta : TA} {Γ : Ctx} {Ω : List Ob} {P R : List PyData → Prop} (h : DAp ta Γ Ω P) (i : ∀ ds, P ds → R ds) : DAp ta Γ Ω R := fun O A σ H s Q q => h O A σ H s Q fun vs H' ds e s r p => q vs H' ds e s r (i ds p)
theorem webD_len {n m : Nat} {as cs : List Arr} (h : webD n as = webD m cs) : as.length = cs.length := by
  have h1 := (List.cons.inj (PyData.tuple.inj h)).2
  have h2 := PyData.tuple.inj (List.cons.inj h1).1
  have h3 := congrArg List.length h2
  rwa [List.length_map, List.length_map] at h3
theorem ne_nil_of {ds : List PyData} (h : (!PyData.eqv (.tuple ds) (.tuple [])) = true) : ds ≠ [] := fun e => by
  subst e
  exact absurd h (by decide)
section
variable {P : Program} {w : World} {K : PySem.W.Frag} {mg : Str → Option Value} {base : Heap}
abbrev s_law_values_right : Stmt := topS 63
abbrev N_law_values_right : List Str := ["_law_mill_here", "_law_web_here", "_law_bounds", "_law_base", "_law_some", "_law_one", "_law_turn", "_law_both", "_law_part", "_law_times", "_law_arrow", "_law_sign", "_law_k", "_law_odd", "_law_value", "_law_kept", "_law_due", "_law_told_here"]
theorem sc_law_values_right : FnScope N_law_values_right ["_law_mill_here", "_law_web_here", "_law_bounds", "_law_base"] (defScope s_law_values_right) := ⟨rfl, rfl, rfl, by decide +kernel, rfl, by decide +kernel, by decide +kernel⟩
abbrev Q_law_values_right (P : Program) (w : World) (K : PySem.W.Frag) (mg : Str → Option Value) (base : Heap) : Prop := DfG P w K mg base 6 "_law_values_right" s_law_values_right ["_law_mill_here", "_law_web_here", "_law_bounds", "_law_base"] (SpN (fun x : Nat × List Arr × List Bnd × List Int => [webD x.1 x.2.1, bndD x.2.2.1, intsT x.2.2.2]) (fun x => WB x.1 x.2.1 x.2.2.1 ∧ x.2.2.2.length = x.2.1.length ∧ ∀ m ∈ x.2.2.2, m.natAbs ≤ 1000000) fun _ r => r = .bool true)
theorem df_law_values_right (B : Bl mg) (F : Fx K mg "_law_values_right" s_law_values_right) (D_law_grind : Q_law_grind P w K mg base) (D_law_ring : Q_law_ring P w K mg base) (D_law_is_within : Q_law_is_within P w K mg base) (D_law_bars : Q_law_bars P w K mg base) (D_is_pull_within : Q_is_pull_within P w K mg base) (D_bars_pulls : Q_bars_pulls P w K mg base) : Q_law_values_right P w K mg base := by
  refine df_ofMG F sc_law_values_right (fun _ _ F => F.binds fun _ _ _ _ _ _ us hl => match us, hl with | [_, _, _, _], _ => rfl) (fun _ => rfl) (by decide) fun f cdv A outer s H_0 Q E O am x σ hG hr hm a q => ?_
  obtain ⟨n, as, bs, ms⟩ := x
  obtain ⟨W, hl, hms⟩ : WB n as bs ∧ ms.length = as.length ∧ ∀ m ∈ ms, m.natAbs ≤ 1000000 := hm
  dsimp only at a q
  have hfew := W.few
  refine ⟨_, (pss_cons (ps_set (i := 4) sc_law_values_right.nd rfl (Or.inl rfl) (pe_lst (pa_cons (pv 3) (pa_cons (pe_slice (slK K) (pv 3) (po_some pe_int) po_none) (pa_cons (pe_op (catK K) (pv 3) (pe_tup (pa_cons pe_int pa_nil))) (pa_cons (pe_callTy (listK K) (by rfl) B.m_list (by decide +kernel) (pa_cons (pv 3) pa_nil)) (pa_cons pe_non (pa_cons pe_int (pa_cons pe_str (pa_cons (pe_tup pa_nil) (pa_cons (pe_tup (pa_cons (pv 3) pa_nil)) (pa_cons (pe_callTy (tupK K) (by rfl) B.m_tuple (by decide +kernel) (pa_cons (pe_lc (own := [("_law_one", 5)]) rfl sc_law_values_right.nd (piTupK K (pv 3)) (blkOk_by (N := N_law_values_right) (sc := defScope s_law_values_right) (own := [("_law_one", 5)]) (by decide +kernel)) (fun _ _ _ _ _ => (pg_name (i := 5) sc_law_values_right.nd rfl (Or.inl rfl))) (fun _ _ _ _ _ => pts_nil) (fun _ _ _ _ _ => (pe_un un_neg (pv 5)))) pa_nil)) (pa_cons (pe_op (repZK K) (pe_tup (pa_cons pe_int pa_nil)) pe_int) pa_nil)))))))))))))
        (pss_cons (ps_expr (bmK K PySem.F.plainAttrs_list PySem.F.slot_list_append PySem.F.type_list_append mt_append (pv 4) (pa_cons (pe_callTy (tupK K) (by rfl) B.m_tuple (by decide +kernel) (pa_cons (pe_lc (own := [("_law_one", 5)]) rfl sc_law_values_right.nd (piTupK K (pv 3)) (blkOk_by (N := N_law_values_right) (sc := defScope s_law_values_right) (own := [("_law_one", 5)]) (by decide +kernel)) (fun _ _ _ _ _ => (pg_name (i := 5) sc_law_values_right.nd rfl (Or.inl rfl))) (fun _ _ _ _ _ => pts_nil) (fun _ _ _ _ _ => (pe_op op_mulB pe_int (pv 5)))) pa_nil)) pa_nil)))
        (pss_cons (ps_if (pt_cmpR (neDK K hr.units) (pe_ix (ixK K) (pv 1) pe_int (fun _ _ => rfl)) (pe_tup pa_nil) (nomark _))
          (pss_one (ps_for PassesOwn.never rfl (pi_range1 (by rfl) B.m_range (pa_cons pe_int pa_nil)) (pg_name (i := 6) sc_law_values_right.nd rfl (Or.inl rfl))
            (pss_cons (ps_set (i := 7) sc_law_values_right.nd rfl (Or.inl rfl) (pe_op op_rep (pe_lst (pa_cons pe_int pa_nil)) (pe_callB (lenK K) (by rfl) B.m_len (by decide +kernel) (pa_cons (pe_ix (ixK K) (pv 1) pe_int (fun _ _ => rfl)) pa_nil))))
            (pss_cons (ps_for PassesOwn.never rfl (pi_range1 (by rfl) B.m_range (pa_cons (pe_op op_add pe_int (pe_df D_law_grind (hr.mono (by decide)) (by rfl) (pa_cons (pv 0) (pa_cons pe_int pa_nil)))) pa_nil)) (pg_name (i := 8) sc_law_values_right.nd rfl (Or.inl rfl))
              (pss_cons (ps_set (i := 9) sc_law_values_right.nd rfl (Or.inl rfl) (pe_op op_sub pe_int (pe_op op_mulB pe_int (pe_df D_law_grind (hr.mono (by decide)) (by rfl) (pa_cons (pv 0) (pa_cons pe_int pa_nil))))))
              (pss_one (ps_for PassesOwn.never rfl (piListK K (pe_df D_law_ring (hr.mono (by decide)) (by rfl) (pa_cons (pv 1) (pa_cons (pe_df D_law_grind (hr.mono (by decide)) (by rfl) (pa_cons (pv 0) (pa_cons (pe_callB (lenK K) (by rfl) B.m_len (by decide +kernel) (pa_cons (pe_ix (ixK K) (pv 1) pe_int (fun _ _ => rfl)) pa_nil)) pa_nil))) pa_nil)))) (pgTupK K (n := 2) (pgs_cons (pg_name (i := 10) sc_law_values_right.nd rfl (Or.inl rfl)) (pgs_cons (pg_name (i := 11) sc_law_values_right.nd rfl (Or.inl rfl)) pgs_nil)))
                (pss_one (ps_asg (pe_op op_add (pe_ix (ixK K) (pv 7) (pv 10) (fun _ _ => rfl)) (pe_op op_mulB (pv 11) (pv 9))) (pg_sub (pv 7) (pv 10) set_list)))))))
            (pss_one (ps_expr (bmK K PySem.F.plainAttrs_list PySem.F.slot_list_append PySem.F.type_list_append mt_append (pv 4) (pa_cons (pe_callTy (tupK K) (by rfl) B.m_tuple (by decide +kernel) (pa_cons (pv 7) pa_nil)) pa_nil))))))))
          pss_nil)
        (pss_cons (ps_if (pt_cmpR (neDK K hr.units) (pv 3) (pe_tup pa_nil) (nomark _))
          (pss_cons (ps_set (i := 12) sc_law_values_right.nd rfl (Or.inl rfl) (pe_df D_law_grind (hr.mono (by decide)) (by rfl) (pa_cons (pv 0) (pa_cons (pe_callB (lenK K) (by rfl) B.m_len (by decide +kernel) (pa_cons (pv 3) pa_nil)) pa_nil))))
          (pss_one (ps_for PassesOwn.never rfl (piListK K (pe_lst (pa_cons (pe_op op_add (pe_ix (ixK K) (pv 3) (pv 12) (fun _ _ => rfl)) pe_int) (pa_cons (pe_op op_sub (pe_ix (ixK K) (pv 3) (pv 12) (fun _ _ => rfl)) pe_int) (pa_cons pe_int (pa_cons pe_non (pa_cons pe_bl (pa_cons pe_bl (pa_cons pe_str (pa_cons (pe_lst (pa_cons pe_int pa_nil)) (pa_cons (pe_op op_mulB (pe_op op_pow pe_int pe_int) (pe_op op_pow pe_int pe_int)) pa_nil))))))))))) (pg_name (i := 13) sc_law_values_right.nd rfl (Or.inl rfl))
            (pss_one (ps_expr (bmK K PySem.F.plainAttrs_list PySem.F.slot_list_append PySem.F.type_list_append mt_append (pv 4) (pa_cons (pe_op (catK K) (pe_op (catK K) (pe_slice (slK K) (pv 3) po_none (po_some (pv 12))) (pe_tup (pa_cons (pv 13) pa_nil))) (pe_slice (slK K) (pv 3) (po_some (pe_op op_add (pv 12) pe_int)) po_none)) pa_nil)))))))
          pss_nil)
        (pss_cons (ps_for PassesOwn.never rfl (piListK K (pv 4)) (pg_name (i := 14) sc_law_values_right.nd rfl (Or.inl rfl))
          (pss_cons (ps_set (i := 15) sc_law_values_right.nd rfl (Or.inl rfl) (pe_callB (cr_repr hG hr) (by rfl) B.m_repr (by decide +kernel) (pa_cons (pv 14) pa_nil)))
          (pss_cons (ps_set (i := 16) sc_law_values_right.nd rfl (Or.inl rfl) (pe_lst (pa_cons (pe_df D_law_is_within (hr.mono (by decide)) (by rfl) (pa_cons (pv 1) (pa_cons (pv 2) (pa_cons (pv 14) pa_nil)))) (pa_cons (pe_df D_law_bars (hr.mono (by decide)) (by rfl) (pa_cons (pv 1) (pa_cons (pv 2) (pa_cons (pv 14) pa_nil)))) pa_nil))))
          (pss_cons (ps_set (i := 17) sc_law_values_right.nd rfl (Or.inl rfl) (pe_lst (pa_cons (pe_df D_is_pull_within (hr.mono (by decide)) (by rfl) (pa_cons (pv 1) (pa_cons (pv 2) (pa_cons (pv 14) pa_nil)))) (pa_cons (pe_df D_bars_pulls (hr.mono (by decide)) (by rfl) (pa_cons (pv 1) (pa_cons (pv 2) (pa_cons (pv 14) pa_nil)))) pa_nil))))
          (pss_cons (ps_if (PW.pt (pw_or (pt_not (pt_val (pe_callB (isiK K) (by rfl) B.m_isinstance (by decide +kernel) (pa_cons (pe_ix (ixK K) (pv 17) pe_int (fun _ _ => rfl)) (pa_cons (pe_bltn (v := .ty "bool") (by rfl) B.m_bool (by decide +kernel) rfl) pa_nil))))) (pw_or (pt_not (pt_val (pe_callB (isiK K) (by rfl) B.m_isinstance (by decide +kernel) (pa_cons (pe_ix (ixK K) (pv 17) pe_int (fun _ _ => rfl)) (pa_cons (pe_bltn (v := .ty "bool") (by rfl) B.m_bool (by decide +kernel) rfl) pa_nil))))) (pw_or1 (pt_cmpR (neDK K hr.units) (pv 17) (pv 16) (nomark _))))))
            (pss_one (ps_ret pe_bl))
            pss_nil)
          (pss_cons (ps_if (pt_cmpR (neDK K hr.units) (pe_lst (pa_cons (pe_dfK D_is_pull_within (hr.mono (by decide)) (by rfl) (pk_cons (pv 14) (pk_cons (pv 2) (pk_cons (pv 1) pk_nil))) (fun _ _ F => kb3 F fun _ _ _ _ _ _ _ _ _  => rfl)) (pa_cons (pe_dfK D_bars_pulls (hr.mono (by decide)) (by rfl) (pk_cons (pv 14) (pk_cons (pv 2) (pk_cons (pv 1) pk_nil))) (fun _ _ F => kb3 F fun _ _ _ _ _ _ _ _ _  => rfl)) pa_nil))) (pv 16) (nomark _))
            (pss_one (ps_ret pe_bl))
            pss_nil)
          (pss_one (ps_if (pt_cmpR op_ne (pe_callB (cr_repr hG hr) (by rfl) B.m_repr (by decide +kernel) (pa_cons (pv 14) pa_nil)) (pv 15) (nomark _))
            (pss_one (ps_ret pe_bl))
            pss_nil))))))))
        (pss_one (ps_ret pe_bl))))))), ?_⟩
  have hcat : (ms.map PyData.int).length + [PyData.int 0].length ≤ 100000 := by
    rw [List.length_map, List.length_singleton]
    omega
  have map_neg : (ms.map PyData.int).map (fun d => match d with | .int i => PyData.int (-i) | _ => .none) = (ms.map fun i => -i).map .int := by
    rw [List.map_map, List.map_map]
    rfl
  have map_two : (ms.map PyData.int).map (fun d => match d with | .int i => PyData.int (2 * i) | _ => .none) = (ms.map fun i => 2 * i).map .int := by
    rw [List.map_map, List.map_map]
    rfl
  refine st_seq (st_setN (dn_lst (da_cons (de_var rfl) (da_cons (de_slT (ds := ms.map .int) (de_var rfl) (do_some (de_int 1)) do_no) (da_cons (de_catA (ds := ms.map .int) (de_var rfl) (de_tup (da_cons (de_int 0) da_nil)) hcat) (da_cons (de_listT (ds := ms.map .int) (de_var rfl)) (da_cons de_non (da_cons (de_int 3) (da_cons (de_str "") (da_cons (de_tup da_nil) (da_cons (de_tup (da_cons (de_var rfl) da_nil)) (da_cons (de_tupleOf (dn_is (dn_lcA (fun d => match d with | .int i => .int (-i) | _ => .none) (di_tup (ds := ms.map .int) (de_var rfl)) (by rw [List.length_map]; omega) fun i d hd => ?_) map_neg).de) (da_cons (de_repZ (de_tup (da_cons (de_int 0) da_nil)) (de_int 2900) (by decide) (by decide)) da_nil)))))))))))) a fun σ H a => ?_)
  · obtain ⟨m, hm, rfl⟩ := int_at hd
    exact ⟨_, dg_name, de_neg (de_var rfl)⟩
  have hnm : ∀ m ∈ ms, m.natAbs < 2 ^ 1920 := fun m hm => small_int (by have := hms m hm; omega)
  have sh_ms : ShN (intsT ms) 28848 := (sh_tuple fun d hd => (el_ints hnm d hd).2).mono (by rw [List.length_map]; omega)
  have tm_ms : Tame 7 (intsT ms) := (tame_tuple (tame_ints ms)).mono (by decide)
  refine st_seq (st_append (P := (· = intsT (ms.map fun i => 2 * i))) (do_var rfl) (de_tupleOf (dn_is (dn_lcA (fun d => match d with | .int i => .int (2 * i) | _ => .none) (di_tup (ds := ms.map .int) (de_var rfl)) (by rw [List.length_map]; omega) fun i d hd => ?_) map_two).de) rfl (Nat.le_of_ble_eq_true rfl) a fun σ H d ed a => ?_)
  · obtain ⟨m, hm, rfl⟩ := int_at hd
    exact ⟨_, dg_name, de_I (de_int 2) (de_var rfl) (.inl ⟨by decide, by decide⟩)⟩
  subst ed
  obtain ⟨ds, a, g⟩ : ∃ ds, At H_0 O [am] [.mill, .lst ds] [.own 0, .dat (webD n as), .dat (bndD bs), .dat (intsT ms), .own 1, .no, .no, .no, .no, .no, .no, .no, .no, .no, .no, .no, .no, .no] σ H ∧ (∀ d ∈ ds, Gv d) ∧ ds.length ≤ 12 := by
    refine ⟨_, a, fun d hd => ?_, Nat.le_of_ble_eq_true rfl⟩
    rcases List.mem_append.mp hd with hd | hd
    · simp only [List.mem_cons, List.not_mem_nil, or_false] at hd
      rcases hd with rfl | rfl | rfl | rfl | rfl | rfl | rfl | rfl | rfl | rfl | rfl
      · exact gv_ints hnm (by omega)
      · have hc := cutL_len (xs := ms.map PyData.int) (lo := some 1) (hi := none)
        rw [List.length_map] at hc
        exact gv_tuple (n := 1921) (fun d hd => el_ints hnm d (cutL_mem hd)) (by omega) (by omega)
      · refine gv_tuple (n := 1921) (fun d hd => ?_) (by rw [List.length_append, List.length_map, List.length_singleton]; omega) (by rw [List.length_append, List.length_map, List.length_singleton]; omega)
        rcases List.mem_append.mp hd with hd | hd
        · exact el_ints hnm d hd
        · rw [List.mem_singleton.mp hd]
          exact ⟨tame_int 7 0, sh_int (by decide +kernel)⟩
      · exact gv_list (n := 1921) (el_ints hnm) (by rw [List.length_map]; omega)
      · exact gv_none
      · exact gv_int (by decide +kernel)
      · exact gv_str
      · exact gv_tuple (n := 0) (fun d hd => nomatch hd) (by decide) (by decide)
      · exact gv_tuple (n := 28848) (fun d hd => by rw [List.mem_singleton.mp hd]; exact ⟨tm_ms, sh_ms⟩) (Nat.le_of_ble_eq_true rfl) (Nat.le_of_ble_eq_true rfl)
      · refine gv_ints (ms := ms.map fun i => -i) (fun m hm => ?_) (by rw [List.length_map]; omega)
        obtain ⟨z, hz, rfl⟩ := List.mem_map.mp hm
        rw [Int.natAbs_neg]
        exact hnm z hz
      · refine gv_ints (fun m hm => ?_) (by rw [List.length_replicate]; decide)
        rw [List.eq_of_mem_replicate hm]
        decide +kernel
    · rw [List.mem_singleton.mp hd]
      refine gv_ints (ms := ms.map fun i => 2 * i) (fun m hm => ?_) (by rw [List.length_map]; omega)
      obtain ⟨z, hz, rfl⟩ := List.mem_map.mp hm
      have := hms z hz
      exact small_int (by omega)
  refine st_seq (st_ifJ (α := List PyData) (fun ds => (∀ d ∈ ds, Gv d) ∧ ds.length ≤ 15) (fun _ => [.own 0, .dat (webD n as), .dat (bndD bs), .dat (intsT ms), .own 1, .no, .no, .no, .no, .no, .no, .no, .no, .no, .no, .no, .no, .no]) (fun ds => [.mill, .lst ds]) (dtB (de_neD (de_web1 rfl) (de_tup da_nil) (Tame.shaped (k := 8) (tame_tuple fun d hd => ?_)) rfl)) a (fun H hb a nx hn => ?_) (fun H hb a nx hn => st_next (hn _ _ ds ⟨g.1, by omega⟩ a)) fun σ H ds g a => ?_)
  · obtain ⟨e, _, rfl⟩ := List.mem_map.mp hd
    exact (tame_tuple (k := 0) fun d hd => by
      simp only [List.mem_cons, List.not_mem_nil, or_false] at hd
      rcases hd with rfl | rfl <;> exact tame_int 0 _).mono (by decide)
  · have hne : as ≠ [] := fun e => ne_nil_of hb (by rw [e]; rfl)
    have hpos : 0 < as.length := List.length_pos_iff.mpr hne
    refine st_for (α := List PyData) (di_range (n := 3) (de_int 3) (by decide)) a fun us e => ?_
    subst e
    refine ⟨fun i ds => (∀ d ∈ ds, Gv d) ∧ ds.length ≤ 12 + i, fun _ _ => [.own 0, .dat (webD n as), .dat (bndD bs), .dat (intsT ms), .own 1, .no, .no, .no, .no, .no, .no, .no, .no, .no, .no, .no, .no, .no], fun _ ds => [.mill, .lst ds], ds, ⟨g.1, g.2⟩, rfl, rfl, fun _ _ => rfl, fun i ds d hd g => ?_, fun ds g σ H a => hn _ _ ds ⟨g.1, g.2⟩ a⟩
    refine ⟨[6], _, dg_name, fun H1 A hA _ N σ H hN a => ?_⟩
    have hi3 : i < 3 := by
      obtain ⟨h, _⟩ := upTo_at hd
      exact h
    refine st_seq (st_setN (dn_is (dn_rep (de_lst (da_cons (de_int 0) da_nil)) (de_webL rfl) (by omega)) (List.map_replicate (f := PyData.int) (a := (0 : Int)) (n := as.length)).symm) a fun σ H a => ?_)
    refine st_seq (st_for (α := List Int) (dip_range (P := fun m => 1 ≤ m ∧ m ≤ 2) (dep_I0 (g := fun i j => i + j) (P := fun m => 1 ≤ m ∧ m ≤ 2) (dz (de_int 1)) (dz_grind 2 rfl rfl (de_int 2) ⟨by omega, by omega⟩) fun i j e h => by subst e; omega) fun i h => by omega) (a.no [6]) fun us ⟨m, e, hm⟩ => ?_)
    subst e
    refine ⟨fun j xs => xs.length = as.length ∧ ∀ x ∈ xs, x.natAbs ≤ 10 * j, fun _ _ => [.own 0, .dat (webD n as), .dat (bndD bs), .dat (intsT ms), .own 1, .no, .no, .own 2, .no, .no, .no, .no, .no, .no, .no, .no, .no, .no], fun _ xs => [.mill, .lst ds, .lst (xs.map .int)], List.replicate as.length 0, ⟨List.length_replicate, fun x hx => by rw [List.eq_of_mem_replicate hx]; exact Nat.zero_le _⟩, rfl, rfl, fun _ _ => rfl, fun j xs d hd ⟨hx1, hx2⟩ => ?_, fun xs ⟨hx1, hx2⟩ σ H a => ?_⟩
    · obtain ⟨hj, _⟩ := upTo_at hd
      refine ⟨[8], _, dg_name, fun H2 A2 hA2 _ N2 σ H hN2 a => ?_⟩
      refine st_seq (st_setp (dep_I0 (g := fun i j => i - j) (P := fun t => t = 1 ∨ t = -1) (dz (de_int 1)) (dep_I (g := fun i j => i * j) (P := fun z => z = 0 ∨ z = 2) (dz (de_int 2)) (dz_grind 2 rfl rfl (de_int 2) ⟨by omega, by omega⟩) (fun i j e h => .inl ⟨by omega, by omega⟩) fun i j e h => by subst e; omega) fun i j e h => by subst e; omega) a fun σ H d ⟨t, ed, ht⟩ a => ?_)
      subst ed
      refine st_for (α := List Int) (dip_list (P := fun us => ∃ l : List (Nat × Int), us = l.map jsD ∧ l.length ≤ 10 ∧ ∀ p ∈ l, p.1 < as.length ∧ (p.2 = 1 ∨ p.2 = -1)) (dep_mono (dep_callGp (P := fun ds => ∃ k : Nat, k < as.length ∧ ds = [webD n as, .int k]) (arg := fun x : Nat × List Arr × Nat => [webD x.1 x.2.1, .int x.2.2]) (dap_mono (dap_cons (de_var (d := webD n as) rfl) (dap_cons (dz_grind as.length rfl rfl (de_webL rfl) ⟨hpos, by omega⟩) dap_nil)) ?_) ?_) ?_)) (a.no [8]) fun us ⟨l, e, hl10, hlp⟩ => ?_
      · rintro ds' ⟨d, ds1, rfl, rfl, d2, ds2, rfl, ⟨i, rfl, h1, h2⟩, rfl⟩
        exact ⟨i.toNat, by omega, by rw [Int.toNat_of_nonneg h1]⟩
      · rintro _ ⟨k, hk, rfl⟩
        exact ⟨(n, as, k), rfl, W.toWb, hk⟩
      · rintro d ⟨⟨n', as', k⟩, ⟨k', hk', e⟩, _, l, rfl, h1, h2⟩
        have el := webD_len (List.cons.inj e).1
        dsimp only at h2
        rw [el] at h2
        exact ⟨_, rfl, l, rfl, h1, h2⟩
      subst e
      refine ⟨fun c xs => xs.length = as.length ∧ ∀ x ∈ xs, x.natAbs ≤ 10 * j + c, fun _ _ => [.own 0, .dat (webD n as), .dat (bndD bs), .dat (intsT ms), .own 1, .no, .no, .own 2, .no, .dat (.int t), .no, .no, .no, .no, .no, .no, .no, .no], fun _ xs => [.mill, .lst ds, .lst (xs.map .int)], xs, ⟨hx1, fun x hx => hx2 x hx⟩, rfl, rfl, fun _ _ => rfl, fun c xs d hd ⟨hx1, hx2⟩ => ?_, fun xs ⟨hx1, hx2⟩ σ H a => ?_⟩
      · obtain ⟨p, hp, rfl⟩ := js_at hd
        obtain ⟨hp1, hp2⟩ := hlp p (List.mem_of_getElem? hp)
        refine ⟨[10, 11], _, dg_tup (dgs_cons dg_name (dgs_cons dg_name dgs_nil)), fun H3 A3 hA3 _ N3 σ H hN3 a => ?_⟩
        have hlt : p.1 < xs.length := by omega
        have hat : (xs.map PyData.int)[p.1]? = some (.int xs[p.1]) := by rw [List.getElem?_map, List.getElem?_eq_getElem hlt]; rfl
        refine st_put (n := p.1) (z := (p.1 : Nat)) (d := .int (xs[p.1] + p.2 * t)) (de_I0 (de_ixO (do_var rfl) (de_var rfl) rfl (atI_nat hat)) (de_I (de_var rfl) (de_var rfl) (.inl ⟨by omega, by omega⟩))) (do_var rfl) (de_var rfl) rfl ?_ a fun σ H a => hN3 σ H (xs.set p.1 (xs[p.1] + p.2 * t)) ⟨?_, fun x hx => ?_⟩ ?_
        · exact ixN_nat (by rw [List.length_map]; exact hlt)
        · rw [List.length_set]
          exact hx1
        · rcases List.mem_or_eq_of_mem_set hx with hx | rfl
          · have := hx2 x hx
            omega
          · have := hx2 _ (List.getElem_mem hlt)
            rcases hp2 with e | e <;> rcases ht with e2 | e2 <;> rw [e, e2] <;> omega
        · dsimp only
          rw [List.map_set]
          exact a.no [10, 11]
      · refine hN2 σ H xs ⟨hx1, fun x hx => ?_⟩ (a.no [9])
        have := hx2 x hx
        rw [List.length_map] at this
        omega
    · rw [upTo_len] at hx2
      refine st_append (P := (· = intsT xs)) (do_var rfl) (de_tupleOfO (do_var rfl) rfl) rfl (by have := g.2; omega) a fun σ H d ed a => ?_
      subst ed
      have a' := At.drop (Ω := [.mill, .lst (ds ++ [intsT xs])]) a (by rw [hA]; exact Nat.le_of_ble_eq_true rfl)
      refine hN σ H (ds ++ [intsT xs]) ⟨fun d hd => ?_, ?_⟩ a'
      · rcases List.mem_append.mp hd with hd | hd
        · exact g.1 d hd
        · rw [List.mem_singleton.mp hd]
          exact gv_ints (fun m hm => small_int (by have := hx2 m hm; omega)) (by omega)
      · have := g.2
        rw [List.length_append, List.length_singleton]
        omega
  refine st_seq (st_ifJ (α := List PyData) (fun ds => (∀ d ∈ ds, Gv d) ∧ ds.length ≤ 30) (fun _ => [.own 0, .dat (webD n as), .dat (bndD bs), .dat (intsT ms), .own 1, .no, .no, .no, .no, .no, .no, .no, .no, .no, .no, .no, .no, .no]) (fun ds => [.mill, .lst ds]) (dtB (de_neD (de_var rfl) (de_tup da_nil) (shaped_ints ms) rfl)) a (fun H hb a nx hn => ?_) (fun H hb a nx hn => st_next (hn _ _ ds ⟨g.1, by have := g.2; omega⟩ a)) fun σ H ds g a => ?_)
  · have hne : ms ≠ [] := fun e => ne_nil_of hb (by rw [e]; rfl)
    have hpos : 0 < ms.length := List.length_pos_iff.mpr hne
    refine st_seq (st_setp (dz_grind ms.length rfl rfl (de_is (de_lenT (ds := ms.map .int) (de_var rfl)) (by rw [List.length_map])) ⟨hpos, by omega⟩) a fun σ H d ⟨ki, ed, hk1, hk2⟩ a => ?_)
    obtain ⟨k, rfl⟩ : ∃ k : Nat, ki = k := ⟨ki.toNat, by omega⟩
    subst ed
    have hk : k < ms.length := by omega
    have hat : (ms.map PyData.int)[k]? = some (.int ms[k]) := by rw [List.getElem?_map, List.getElem?_eq_getElem hk]; rfl
    have hmk := hms _ (List.getElem_mem hk)
    refine st_for (α := List PyData) (di_list (de_lst (da_cons (de_I0 (de_ixT (ds := ms.map .int) (de_var rfl) (de_var rfl) (atI_nat hat)) (de_int 1)) (da_cons (de_I0 (de_ixT (ds := ms.map .int) (de_var rfl) (de_var rfl) (atI_nat hat)) (de_int 1)) (da_cons (de_int 0) (da_cons de_non (da_cons (de_bl true) (da_cons (de_bl false) (da_cons (de_str "0") (da_cons (de_lst (da_cons (de_int 0) da_nil)) (da_cons (de_I (de_I (de_int 10) (de_int 60) cpow60) (de_I (de_int 10) (de_int 29) cpow29) (.inr (.inr (by decide +kernel)))) da_nil))))))))))) a fun us e => ?_
    have hodd : ∀ d ∈ us, Tame 7 d ∧ ShN d 2000 := fun d hd => by
      subst e
      simp only [List.mem_cons, List.not_mem_nil, or_false] at hd
      rcases hd with rfl | rfl | rfl | rfl | rfl | rfl | rfl | rfl | rfl
      · exact ⟨tame_int 7 _, (sh_int (small_int (by omega))).mono (by decide)⟩
      · exact ⟨tame_int 7 _, (sh_int (small_int (by omega))).mono (by decide)⟩
      · exact ⟨tame_int 7 _, (sh_int (by decide +kernel)).mono (by decide)⟩
      · exact ⟨tame_none 7, sh_none.mono (by decide)⟩
      · exact ⟨tame_bool 7 _, (sh_bool _).mono (by decide)⟩
      · exact ⟨tame_bool 7 _, (sh_bool _).mono (by decide)⟩
      · exact ⟨⟨by decide +kernel, Nat.zero_le _⟩, sh_str1.mono (by decide)⟩
      · refine ⟨(tame_list (k := 0) fun d hd => by rw [List.mem_singleton.mp hd]; exact tame_int 0 0).mono (by decide), (sh_list (n := 1921) fun d hd => ?_).mono (Nat.le_of_ble_eq_true rfl)⟩
        rw [List.mem_singleton.mp hd]
        exact sh_int (by decide +kernel)
      · exact ⟨tame_int 7 _, (sh_int (by decide +kernel)).mono (by decide)⟩
    have h9 : us.length ≤ 9 := by
      subst e
      exact Nat.le_refl 9
    clear e
    refine ⟨fun c ds => (∀ d ∈ ds, Gv d) ∧ ds.length ≤ 15 + c, fun _ _ => [.own 0, .dat (webD n as), .dat (bndD bs), .dat (intsT ms), .own 1, .no, .no, .no, .no, .no, .no, .no, .dat (.int k), .no, .no, .no, .no, .no], fun _ ds => [.mill, .lst ds], ds, ⟨g.1, g.2⟩, rfl, rfl, fun _ _ => rfl, fun c ds d hd g => ?_, fun ds g σ H a => hn _ _ ds ⟨g.1, by have := g.2; omega⟩ (a.no [12])⟩
    have hc := (List.getElem?_eq_some_iff.mp hd).1
    obtain ⟨ho1, ho2⟩ := hodd d (List.mem_of_getElem? hd)
    refine ⟨[13], _, dg_name, fun H1 A hA _ N σ H hN a => ?_⟩
    have c1 := cutL_len (xs := ms.map PyData.int) (lo := none) (hi := some (k : Int))
    have c2 := cutL_len (xs := ms.map PyData.int) (lo := some ((k : Int) + 1)) (hi := none)
    rw [List.length_map] at c1 c2
    refine st_append (P := (· = .tuple (cutL (ms.map PyData.int) none (some (k : Int)) ++ [d] ++ cutL (ms.map PyData.int) (some ((k : Int) + 1)) none))) (do_var rfl) (de_catA (de_catA (de_slT (ds := ms.map .int) (de_var rfl) do_no (do_some (de_var rfl))) (de_tup (da_cons (de_var rfl) da_nil)) ?_) (de_slT (ds := ms.map .int) (de_var rfl) (do_some (de_I0 (de_var rfl) (de_int 1))) do_no) ?_) rfl (by have := g.2; omega) a fun σ H d' ed a => hN σ H (ds ++ [d']) ⟨fun d2 hd2 => ?_, ?_⟩ (a.no [13])
    · rw [List.length_singleton]
      omega
    · rw [List.length_append, List.length_singleton]
      omega
    · rcases List.mem_append.mp hd2 with hd2 | hd2
      · exact g.1 d2 hd2
      · rw [List.mem_singleton.mp hd2, ed]
        refine gv_tuple (n := 2000) (fun x hx => ?_) (by rw [List.length_append, List.length_append, List.length_singleton]; omega) (by rw [List.length_append, List.length_append, List.length_singleton]; omega)
        rcases List.mem_append.mp hx with hx | hx
        · rcases List.mem_append.mp hx with hx | hx
          · exact ⟨(el_ints hnm x (cutL_mem hx)).1, (el_ints hnm x (cutL_mem hx)).2.mono (by decide)⟩
          · rw [List.mem_singleton.mp hx]
            exact ⟨ho1, ho2⟩
        · exact ⟨(el_ints hnm x (cutL_mem hx)).1, (el_ints hnm x (cutL_mem hx)).2.mono (by decide)⟩
    · have := g.2
      rw [List.length_append, List.length_singleton]
      omega
  have a := At.release (Ω := [.mill]) a (Nat.le_refl 1)
  refine st_seq (st_for (α := Unit) (di_list (ds := ds) (de_var rfl)) a fun us e => ?_)
  subst e
  refine ⟨fun _ _ => True, fun _ _ => [.own 0, .dat (webD n as), .dat (bndD bs), .dat (intsT ms), .dat (.list us), .no, .no, .no, .no, .no, .no, .no, .no, .no, .no, .no, .no, .no], fun _ _ => [.mill], (), trivial, rfl, rfl, fun _ _ => rfl, fun c _ d hd _ => ?_, fun _ _ σ H a => ?_⟩
  · have gd := g.1 d (List.mem_of_getElem? hd)
    refine ⟨[14], _, dg_name, fun H1 A hA _ N σ H hN a => ?_⟩
    refine st_seq (st_set (de_show (de_var rfl) gd.sh gd.depth) a fun σ H a => ?_)
    refine st_seq (st_set (de_lst (da_cons (de_callG (n, as, bs, d) (da_cons (de_var rfl) (da_cons (de_var rfl) (da_cons (de_var rfl) da_nil))) ⟨W, gd.fine⟩) (da_cons (de_callG (n, as, bs, d) (da_cons (de_var rfl) (da_cons (de_var rfl) (da_cons (de_var rfl) da_nil))) ⟨W, gd.fine⟩) da_nil))) a fun σ H a => ?_)
    refine st_seq (st_set (de_lst (da_cons (de_callG (n, as, bs, d) (da_cons (de_var rfl) (da_cons (de_var rfl) (da_cons (de_var rfl) da_nil))) W) (da_cons (de_callG (n, as, bs, d) (da_cons (de_var rfl) (da_cons (de_var rfl) (da_cons (de_var rfl) da_nil))) W) da_nil))) a fun σ H a => ?_)
    dsimp only at a
    refine st_seq (st_if (b := false) (dt_or2 (dtN (dtB (b := true) (de_isBool (de_ixL (ds := [.bool (withinB as bs d), .bool (barsB n as bs d)]) (de_var rfl) (de_int 0) rfl)))) (dt_or2 (dtN (dtB (b := true) (de_isBool (de_ixL (ds := [.bool (withinB as bs d), .bool (barsB n as bs d)]) (de_var rfl) (de_int 1) rfl)))) (dtT (de_neD (de_var rfl) (de_var rfl) (shaped_bb _ _) (shaped_bb _ _)) (by rw [eqv_bb])))) a (fun H z => nomatch z) fun H _ a => st_next ?_)
    refine st_seq (st_if (b := false) (dtT (de_neD (de_lst (da_cons (dep_callR (n, as, bs, d) (da_cons (de_var rfl) (da_cons (de_var rfl) (da_cons (de_var rfl) da_nil))) rfl W) (da_cons (dep_callR (n, as, bs, d) (da_cons (de_var rfl) (da_cons (de_var rfl) (da_cons (de_var rfl) da_nil))) rfl W) da_nil))) (de_var rfl) (shaped_bb _ _) (shaped_bb _ _)) (by rw [eqv_bb])) a (fun H z => nomatch z) fun H _ a => st_next ?_)
    refine st_if (b := false) (dtT (de_neStr (de_show (de_var rfl) gd.sh gd.depth) (de_var rfl)) (by simp)) a (fun H z => nomatch z) fun H _ a => st_next (hN σ H () trivial (a.no [14, 15, 16, 17]))
  · exact st_ret (de_bl true) a fun v H' a' r => q _ _ _ _ _ _ a' r rfl
end
end EW
/-! Plain facts for the law's last def. -/
namespace EW
open PySem PyProof.Rows L2
section
variable {n : Nat} {as : List Arr} {bs : List Bnd} {P : Nat → Int}
theorem feas_iff : Feas (stepsOf as bs) P ↔ ∀ (k : Nat) (a : Arr) (b : Bnd), as[k]? = some a → bs[k]? = some b → b.1 ≤ P a.2 - P a.1 ∧ P a.2 - P a.1 ≤ b.2 := by
  constructor
  · intro F k a b h1 h2
    have f1 := F _ (stepsOf_mem.mpr ⟨k, a, b, h1, h2, .inl rfl⟩)
    have f2 := F _ (stepsOf_mem.mpr ⟨k, a, b, h1, h2, .inr rfl⟩)
    dsimp only at f1 f2
    omega
  · intro h e he
    obtain ⟨k, a, b, h1, h2, h3⟩ := stepsOf_mem.mp he
    have := h k a b h1 h2
    rcases h3 with rfl | rfl <;> dsimp only <;> omega
theorem inB_of : ∀ {bs : List Bnd} {ms : List Int}, (∀ (k : Nat) (b : Bnd) (c : Int), bs[k]? = some b → ms[k]? = some c → b.1 ≤ c ∧ c ≤ b.2) → inB bs ms = true
  | [], [], _ => rfl
  | [], _ :: _, _ => rfl
  | _ :: _, [], _ => rfl
  | b :: bs, c :: cs, h => by
    have h0 := h 0 b c rfl rfl
    show ((decide (b.1 ≤ c) && decide (c ≤ b.2)) && inB bs cs) = true
    rw [decide_eq_true h0.1, decide_eq_true h0.2, inB_of fun k b c h1 h2 => h (k + 1) b c h1 h2]
    rfl
abbrev diffs (as : List Arr) (hs : List Int) : List Int := as.map fun a => hs.getD a.2 0 - hs.getD a.1 0
theorem diffs_at {hs : List Int} {k : Nat} {c : Int} (h : (diffs as hs)[k]? = some c) : ∃ a, as[k]? = some a ∧ c = hs.getD a.2 0 - hs.getD a.1 0 := by
  rw [List.getElem?_map] at h
  cases z : as[k]? with
  | none => rw [z] at h; cases h
  | some a => rw [z] at h; exact ⟨a, rfl, (Option.some.inj h).symm⟩
theorem within_ok (W : WB n as bs) {hs : List Int} (h : hob n as bs = .inl hs) : withinB as bs (intsT (diffs as hs)) = true ∧ ∀ m ∈ diffs as hs, m.natAbs ≤ 1000000 := by
  have F := feas_iff.mp (hob_l W.web h).2
  have hl : (diffs as hs).length = as.length := List.length_map _
  refine ⟨?_, fun m hm => ?_⟩
  · unfold withinB isPullB
    rw [amts_ints hl]
    have p : IsPull as (diffs as hs) := ⟨fun v => hs.getD v 0, fun k a c h1 h2 => by
      obtain ⟨a', h3, e⟩ := diffs_at h2
      rw [h1] at h3
      cases h3
      exact e⟩
    have q : inB bs (diffs as hs) = true := inB_of fun k b c h1 h2 => by
      obtain ⟨a, h3, rfl⟩ := diffs_at h2
      exact F k a b h3 h1
    simp [p, q]
  · obtain ⟨k, hk⟩ := List.mem_iff_getElem?.mp hm
    obtain ⟨a, h3, rfl⟩ := diffs_at hk
    have hlt := (List.getElem?_eq_some_iff.mp h3).1
    have hb : k < bs.length := by rw [← W.len]; exact hlt
    have f := F k a _ h3 (List.getElem?_eq_getElem hb)
    have s := W.sml _ (List.getElem_mem hb)
    omega
theorem bar_ok (W : WB n as bs) {l : List Int} (h : hob n as bs = .inr l) : barsB n as bs (intsT l) = true ∧ l.length = as.length ∧ ∀ m ∈ l, m.natAbs ≤ 1000000 := by
  obtain ⟨h1, h2, _⟩ := hob_r W.web h
  refine ⟨(barsB_some (amts_ints h2)).mpr h1, h2, fun m hm => ?_⟩
  have := h1.2.1 m hm
  omega
theorem barred_r (W : WB n as bs) {l : List Int} (h : hob n as bs = .inr l) : ∃ x t, x < n ∧ tab n (stepsOf as bs) x x = some t ∧ t < 0 := by
  obtain ⟨_, _, h3⟩ := hob_r W.web h
  refine Classical.byContradiction fun c => ?_
  have N : NoNeg n (tab n (stepsOf as bs)) := fun x hx t ht => Classical.byContradiction fun q => c ⟨x, t, hx, ht, by omega⟩
  obtain ⟨P, F⟩ := feas_of W.web.steps N
  exact h3 P F
theorem noneg_l (W : WB n as bs) {hs : List Int} (h : hob n as bs = .inl hs) : NoNeg n (tab n (stepsOf as bs)) := noneg_of (hob_l W.web h).2
/-- the entries at an arrow -/
theorem entry_ok (W : WB n as bs) (N : NoNeg n (tab n (stepsOf as bs))) {k x y : Nat} (hk : as[k]? = some (x, y)) : ∃ u v, tab n (stepsOf as bs) x y = some u ∧ tab n (stepsOf as bs) y x = some v ∧ u.natAbs ≤ 1000000 ∧ v.natAbs ≤ 1000000 := by
  have hlt := (List.getElem?_eq_some_iff.mp hk).1
  have hb : k < bs.length := by rw [← W.len]; exact hlt
  have hbk := List.getElem?_eq_getElem hb
  have s := W.sml _ (List.getElem_mem hb)
  obtain ⟨u, h1, h2⟩ := tab_step n (stepsOf_mem.mpr ⟨k, _, _, hk, hbk, .inl rfl⟩)
  obtain ⟨v, h3, h4⟩ := tab_step n (stepsOf_mem.mpr ⟨k, _, _, hk, hbk, .inr rfl⟩)
  obtain ⟨P, F⟩ := feas_of W.web.steps N
  have r1 := tab_real F _ _ _ h1
  have r2 := tab_real F _ _ _ h3
  have f := feas_iff.mp F k _ _ hk hbk
  dsimp only at h1 h2 h3 h4 r1 r2 f
  exact ⟨u, v, h1, h3, by omega, by omega⟩
/-- both ends are taken -/
theorem end_ok (W : WB n as bs) (N : NoNeg n (tab n (stepsOf as bs))) {k x y : Nat} (hk : as[k]? = some (x, y)) {u v e : Int} (hu : tab n (stepsOf as bs) x y = some u) (hv : tab n (stepsOf as bs) y x = some v) (he : e = -v ∨ e = u) (hs : e.natAbs ≤ 1000000) :
    WB n as (bs.set k (e, e)) ∧ ∃ hs, hob n as (bs.set k (e, e)) = .inl hs := by
  have hlt := (List.getElem?_eq_some_iff.mp hk).1
  have hb : k < bs.length := by rw [← W.len]; exact hlt
  have hxy := W.ends _ (List.mem_of_getElem? hk)
  have ord2 : ∀ b ∈ bs.set k (e, e), b.1 ≤ b.2 := fun b hb => by
    rcases List.mem_or_eq_of_mem_set hb with hb | rfl
    · exact W.ord b hb
    · exact Int.le_refl _
  have sml2 : ∀ b ∈ bs.set k (e, e), -1000000 ≤ b.1 ∧ b.1 ≤ 1000000 ∧ -1000000 ≤ b.2 ∧ b.2 ≤ 1000000 := fun b hb => by
    rcases List.mem_or_eq_of_mem_set hb with hb | rfl
    · exact W.sml b hb
    · dsimp only
      omega
  have W2 : WB n as (bs.set k (e, e)) := ⟨W.toWb, by rw [List.length_set]; exact W.len, ord2, sml2⟩
  refine ⟨W2, ?_⟩
  obtain ⟨P, F, hP⟩ : ∃ P, Feas (stepsOf as bs) P ∧ P y - P x = e := by
    rcases he with rfl | rfl
    · obtain ⟨P, F, h0, h1⟩ := feas_take W.web.steps (sym_steps as bs) N hxy.2
      exact ⟨P, F, by rw [h0, h1 x v hv]; omega⟩
    · obtain ⟨P, F, h0, h1⟩ := feas_take W.web.steps (sym_steps as bs) N hxy.1
      exact ⟨P, F, by rw [h0, h1 y _ hu]; omega⟩
  have F2 : Feas (stepsOf as (bs.set k (e, e))) P := feas_iff.mpr fun j a b h1 h2 => by
    by_cases q : k = j
    · subst q
      rw [List.getElem?_set_self hb] at h2
      cases h2
      rw [hk] at h1
      cases h1
      dsimp only
      omega
    · rw [List.getElem?_set_ne q] at h2
      exact feas_iff.mp F j a b h1 h2
  cases z : hob n as (bs.set k (e, e)) with
  | inl hs => exact ⟨hs, rfl⟩
  | inr l => exact absurd F2 ((hob_r W2.web z).2.2 P)
/-- narrowed, as it is written -/
theorem cut_set {e : Int} {k : Nat} (hk : k < bs.length) : cutL (bs.map pairI) none (some (k : Int)) ++ [PyData.tuple [.int e, .int e]] ++ cutL (bs.map pairI) (some ((k : Int) + 1)) none = (bs.set k (e, e)).map pairI := by
  have hl : (bs.map pairI).length = bs.length := List.length_map _
  have e1 : cutL (bs.map pairI) none (some (k : Int)) = (bs.map pairI).take k := by
    unfold cutL
    rw [HT.sIx_none, HT.sIx_nat, hl, Nat.min_eq_left (by omega)]
    rfl
  have e2 : cutL (bs.map pairI) (some ((k : Int) + 1)) none = (bs.map pairI).drop (k + 1) := by
    unfold cutL
    rw [HT.sIx_none, show ((k : Int) + 1) = ((k + 1 : Nat) : Int) from rfl, HT.sIx_nat, hl, Nat.min_eq_left (by omega)]
    exact List.take_of_length_le (by rw [List.length_drop]; omega)
  rw [e1, e2, List.map_set, List.set_eq_take_append_cons_drop, if_pos (by rw [hl]; exact hk), List.append_assoc]
  rfl
end
end EW
/-! the law -/
namespace EW
open PySem PyProof.Rows L2
section
variable {K : PySem.W.Frag} {H0 : Hp} {O : List Addr} {Γ : Ctx} {σ : L2.St} {H : Hp} {rt : VK} {nx bk ct : L2.St → Hp → Prop} {ns : List Int} {i : Nat}
/-- the mill is made -/
theorem st_mill (h : Γ[i]? = some (.prd (SqP K ns) SqP.mono)) (hl : ns.length ≤ 63) (hb : ∀ z ∈ ns, Builtin.Int.intBits z ≤ 1048576) {j : Nat} {E : XK} (s : At H0 O [] [] Γ σ H) (q : ∀ σ' H', At H0 O [] [.mill] (Γ.set j (.own 0)) σ' H' → nx σ' H') :
    tAsg (tCall (SpMill K) [] E (tCons (tVar i) tNil)) (gName j) ⟨nx, rt, bk, ct⟩ σ H := by
  obtain ⟨A, w, h1, h2⟩ := s
  rw [List.nil_append] at w
  have hA : A = [] := List.eq_nil_of_length_eq_zero w.len
  subst hA
  obtain ⟨o, ho, v, rfl, a, rfl, r⟩ := w.sl.el i _ h
  rw [List.append_nil] at r
  refine ⟨.ref a, ho, O, a, ns, rfl, w.tk, r, hl, hb, fun l H' e hn m => q _ _ ⟨[l], ?_, fun b z => ?_, fr0 (A := []) (fun _ z => nomatch z) h2 (fr_of e)⟩⟩
  · exact (w.takeMill e hn m).put j ⟨l, rfl, rfl⟩
  · rw [List.mem_singleton.mp z]
    exact none0 h2 hn
end
section
variable {K : PySem.W.Frag} {Γ : Ctx} {Ω : List Ob} {ta tb : TE} {tA : TA} {E : XK} {d : PyData} {α β : Type} {arg : α → List PyData} {pre : α → Prop} {post : α → PyData → Prop}
theorem dep_lst {P : List PyData → Prop} (h : DAp tA Γ Ω P) (hl : ∀ ds, P ds → ds.length ≤ 100000) : DEp (tLst tA) Γ Ω fun d => ∃ ds, d = .list ds ∧ P ds := DNp.de fun O A σ H s Q q =>
  h O A σ H s _ fun vs H' ds e s r p => ⟨by rw [r.length]; exact sz100 (hl ds p), fun l hn => q l vs _ ds (e.trans (fr_of (same_new hn))) (free_of s e hn) (fun z => s.new hn (List.mem_append_left _ z)) upd_same (s.shade hn) (r.ex (shade_see s hn)) p⟩
/-- an argument is not known -/
theorem dep_callGq (x : β → α) (h : DAp tA Γ Ω fun ds => ∃ b, ds = arg (x b)) (hp : ∀ b, pre (x b)) : DEp (tCall (SpG arg pre post) [] E tA) Γ Ω fun d => ∃ b, post (x b) d := fun O A σ H s Q q =>
  h O A σ H s _ fun vs H' ds e s r ⟨b, eb⟩ => by
    subst eb
    show SpG arg pre post (vs ++ []) H' Q E
    rw [List.append_nil]
    exact ⟨O ++ A, x b, tk_all s, r, hp b, fun v H2 d e2 r2 p2 => q v H2 d (e.trans (fr_of e2)) (s.same e2) r2 ⟨b, p2⟩⟩
theorem dz_eqv {P : Int → Prop} {j : Int} (h : DZ ta Γ Ω P) (hb : DE tb Γ Ω (.int j)) : DEp (tOp rEq ta tb) Γ Ω fun d => ∃ b : Bool, d = .bool b := fun O A σ H s Q q =>
  h O A σ H s _ fun x H1 d1 e1 s1 r1 ⟨i, ed, _⟩ => hb.run s1 fun y H2 e2 s2 r2 => by
    subst ed
    rw [r1.int_of, r2.int_of]
    exact ⟨rfl, q _ H2 _ (e1.trans e2) s2 (rp_bool _) ⟨_, rfl⟩⟩
theorem de_tab {n x y : Nat} {T : Tab} {t : Int} {i j k : Nat} (h1 : Γ[i]? = some (.dat (tabD n T))) (h2 : Γ[j]? = some (.dat (.int x))) (h3 : Γ[k]? = some (.dat (.int y))) (hx : x < n) (hy : y < n) (ht : T x y = some t) :
    DE (tOp (rIx K) (tOp (rIx K) (tVar i) (tVar j)) (tVar k)) Γ Ω (.int t) :=
  de_ixL (ds := rowD n T x) (de_ixL (ds := (List.range n).map fun x => .list (rowD n T x)) (de_var h1) (de_var h2) (atI_nat (by rw [List.getElem?_map, List.getElem?_range hx]; rfl))) (de_var h3) (atI_nat (by unfold rowD; rw [List.getElem?_map, List.getElem?_range hy]; show some (optI (T x y)) = _; rw [ht]; rfl))
end
def dgN (T : Tab) : PyData → Option PyData := fun d => match d with
  | .int i => if (T i.toNat i.toNat).getD 0 < 0 then some (.int i) else none
  | _ => none
noncomputable def barR (n : Nat) (as : List Arr) (bs : List Bnd) : Bool := match hob n as bs with
  | .inl _ => false
  | .inr _ => true
theorem barred_is {n : Nat} {as : List Arr} {bs : List Bnd} (W : WB n as bs) : (!PyData.eqv (.list ((upTo n).filterMap (dgN (tab n (stepsOf as bs))))) (.list [])) = barR n as bs := by
  rw [eqv_nilL]
  unfold barR
  cases z : hob n as bs with
  | inl hs =>
    have N := noneg_l W z
    have e : (upTo n).filterMap (dgN (tab n (stepsOf as bs))) = [] := List.filterMap_eq_nil_iff.mpr fun d hd => by
      obtain ⟨i, hi⟩ := List.mem_iff_getElem?.mp hd
      obtain ⟨hlt, rfl⟩ := upTo_at hi
      show (if (tab n (stepsOf as bs) i i).getD 0 < 0 then some (PyData.int (i : Nat)) else none) = none
      obtain ⟨t, h, _⟩ := tab_diag n (stepsOf as bs) i
      have := N i hlt t h
      rw [h, if_neg (by show ¬ t < 0; omega)]
    rw [e]
    rfl
  | inr l =>
    obtain ⟨x, t, hx, ht, h0⟩ := barred_r W z
    have m : PyData.int (x : Nat) ∈ (upTo n).filterMap (dgN (tab n (stepsOf as bs))) := List.mem_filterMap.mpr ⟨.int (x : Nat), List.mem_map.mpr ⟨x, List.mem_range.mpr hx, rfl⟩, by
      show (if (tab n (stepsOf as bs) x x).getD 0 < 0 then some (PyData.int (x : Nat)) else none) = _
      rw [ht, if_pos (by show t < 0; omega)]⟩
    cases q : (upTo n).filterMap (dgN (tab n (stepsOf as bs))) with
    | nil =>
      rw [q] at m
      exact nomatch m
    | cons => rfl
theorem toldR_0l {n k : Nat} {as : List Arr} {bs : List Bnd} {hs : List Int} (h : hob n as bs = .inl hs) : toldR 0 n as bs k = intsT (diffs as hs) := by
  unfold toldR
  rw [h]
  rfl
theorem toldR_1l {n k x y : Nat} {as : List Arr} {bs : List Bnd} {hs : List Int} {u v : Int} (h : hob n as bs = .inl hs) (hk : as[k]? = some (x, y)) (hu : tab n (stepsOf as bs) x y = some u) (hv : tab n (stepsOf as bs) y x = some v) : toldR 1 n as bs k = intsT [-v, u] := by
  unfold toldR
  rw [h, hk]
  show (if (1 : Nat) = 0 then _ else PyData.tuple [.int (-((tab n (stepsOf as bs) y x).getD 0)), .int ((tab n (stepsOf as bs) x y).getD 0)]) = _
  rw [if_neg (by decide), hu, hv]
  rfl
theorem gv_bar {l : List Int} (h : ∀ m ∈ l, m.natAbs ≤ 1000000) (hl : l.length ≤ 15) : Gv (.list [.str "bar", intsT l]) := by
  have hnm : ∀ m ∈ l, m.natAbs < 2 ^ 1920 := fun m hm => small_int (by have := h m hm; omega)
  have sh : ShN (intsT l) 28848 := (sh_tuple fun d hd => (el_ints hnm d hd).2).mono (by rw [List.length_map]; omega)
  have tm : Tame 7 (intsT l) := (tame_tuple (tame_ints l)).mono (by decide)
  have sb : ShN (.str "bar") 1921 := ⟨rfl, rfl, by decide +kernel⟩
  refine gv_list (n := 28848) (fun d hd => ?_) (Nat.le_of_ble_eq_true rfl)
  simp only [List.mem_cons, List.not_mem_nil, or_false] at hd
  rcases hd with rfl | rfl
  · exact ⟨⟨by decide +kernel, Nat.zero_le _⟩, sb.mono (by decide)⟩
  · exact ⟨tm, sh⟩
theorem gv_small {l : List Int} (h : ∀ m ∈ l, m.natAbs ≤ 1000000) (hl : l.length ≤ 15) : Gv (intsT l) := gv_ints (fun m hm => small_int (by have := h m hm; omega)) (by omega)
theorem shaped_pairs (as : List Arr) : SeqAt.shaped (.tuple (as.map pairN)) = true := Tame.shaped (k := 8) (tame_tuple fun d hd => by
  obtain ⟨e, _, rfl⟩ := List.mem_map.mp hd
  exact (tame_tuple (k := 0) fun d hd => by
    simp only [List.mem_cons, List.not_mem_nil, or_false] at hd
    rcases hd with rfl | rfl <;> exact tame_int 0 _).mono (by decide))
section
variable {P : Program} {w : World} {K : PySem.W.Frag} {mg : Str → Option Value} {base : Heap} {Γ : Ctx} {Ω : List Ob} {td tw tbd tk tb : TE} {E : XK}
abbrev SpTold : Sp := SpG (fun x : TArg => [.int x.1, webD x.2.1 x.2.2.1, bndD x.2.2.2.1, .int x.2.2.2.2.1, .bool x.2.2.2.2.2]) (fun x => WB x.2.1 x.2.2.1 x.2.2.2.1 ∧ (x.1 ≠ 0 → x.2.2.2.2.1 < x.2.2.1.length)) fun x r => r = toldR x.1 x.2.1 x.2.2.1 x.2.2.2.1 x.2.2.2.2.1
theorem de_told {d n k : Nat} {as : List Arr} {bs : List Bnd} (W : WB n as bs) (hk : d ≠ 0 → k < as.length) (hd : DE td Γ Ω (.int d)) (hw : DE tw Γ Ω (webD n as)) (hbd : DE tbd Γ Ω (bndD bs)) (hkk : DE tk Γ Ω (.int k)) (hb : DEp tb Γ Ω fun d => ∃ b : Bool, d = .bool b) :
    DE (tCall SpTold [] E (tCons td (tCons tw (tCons tbd (tCons tk (tCons tb tNil)))))) Γ Ω (toldR d n as bs k) :=
  dep_mono (dep_callGq (fun b : Bool => ((d, n, as, bs, k, b) : TArg)) (dap_mono (dap_cons hd (dap_cons hw (dap_cons hbd (dap_cons hkk (dap_cons hb dap_nil))))) fun ds h => by
    obtain ⟨_, _, rfl, rfl, _, _, rfl, rfl, _, _, rfl, rfl, _, _, rfl, rfl, _, _, rfl, ⟨b, rfl⟩, rfl⟩ := h
    exact ⟨b, rfl⟩) fun b => ⟨W, hk⟩) fun d ⟨b, e⟩ => e
end
theorem dep_bl (b : Bool) {Γ : Ctx} {Ω : List Ob} : DEp (tC (.bl b)) Γ Ω fun d => ∃ b : Bool, d = .bool b := dep_mono (de_bl b) fun _ e => ⟨b, e⟩
section
variable {P : Program} {w : World} {K : PySem.W.Frag} {mg : Str → Option Value} {base : Heap}
abbrev s_law : Stmt := topS 64
abbrev N_law : List Str := ["_law_script", "_law_mill_here", "_law_web_here", "_law_bounds", "_law_table", "_law_barred", "_law_x", "_law_told_here", "_law_arrow", "_law_ends", "_law_y", "_law_end"]
theorem sc_law : FnScope N_law ["_law_script"] (defScope s_law) := ⟨rfl, rfl, rfl, by decide +kernel, rfl, by decide +kernel, by decide +kernel⟩
def SpLaw (K : PySem.W.Frag) : Sp := fun vs H Q _ => ∃ O a, ∃ ns : List Int, vs = [.ref a] ∧ (∀ b ∈ O, ∃ y, H b = some y) ∧ SqL K (off H O) a (ns.map V.int) ∧ ns.length ≤ 63 ∧ (∀ z ∈ ns, Builtin.Int.intBits z ≤ 1048576) ∧ ∀ H', Q (.bl true) H'
theorem df_law (B : Bl mg) (F : Fx K mg "law" s_law) (D_law_mill : Q_law_mill P w K mg base) (D_law_great : Q_law_great P w K mg base) (D_law_small : Q_law_small P w K mg base) (D_law_pull_bounds : Q_law_pull_bounds P w K mg base) (D_law_sums : Q_law_sums P w K mg base) (D_law_told : Q_law_told P w K mg base) (D_law_grind : Q_law_grind P w K mg base) (D_law_bars : Q_law_bars P w K mg base) (D_law_is_within : Q_law_is_within P w K mg base) (D_law_values_right : Q_law_values_right P w K mg base) :
    DfG P w K mg base 8 "law" s_law ["_law_script"] (SpLaw K) := by
  obtain ⟨f, fd, F, hm⟩ := F.ex
  refine ⟨f, fd, fnG_of F sc_law (fun vs H Q E ⟨_, _, _, e, _⟩ => by rw [e]; rfl) (fun cdv A outer s H vs Q E hG hr h => ?_), F, hm, F.binds fun _ _ _ _ _ _ us hl => match us, hl with | [_], _ => rfl⟩
  obtain ⟨O, ad, ns, rfl, tk, sq, hlen, hbits, q⟩ := h
  have a : At H O [] [] [.prd (SqP K ns) SqP.mono, .no, .no, .no, .no, .no, .no, .no, .no, .no, .no, .no] (L2.start N_law [.ref ad]) H := by
    refine ⟨[], ⟨tk, List.nodup_nil, (fun b h => nomatch h), rfl, (fun k b o h => (by simp at h)), ⟨rfl, fun i t ht => ?_⟩⟩, (fun b h => nomatch h), Fr.refl _ _⟩
    match i, ht with
    | 0, ht => cases ht; exact ⟨_, rfl, _, rfl, ad, rfl, by rw [List.append_nil, List.append_nil]; exact sq⟩
    | 1, ht => cases ht; exact ⟨_, rfl, trivial⟩
    | 2, ht => cases ht; exact ⟨_, rfl, trivial⟩
    | 3, ht => cases ht; exact ⟨_, rfl, trivial⟩
    | 4, ht => cases ht; exact ⟨_, rfl, trivial⟩
    | 5, ht => cases ht; exact ⟨_, rfl, trivial⟩
    | 6, ht => cases ht; exact ⟨_, rfl, trivial⟩
    | 7, ht => cases ht; exact ⟨_, rfl, trivial⟩
    | 8, ht => cases ht; exact ⟨_, rfl, trivial⟩
    | 9, ht => cases ht; exact ⟨_, rfl, trivial⟩
    | 10, ht => cases ht; exact ⟨_, rfl, trivial⟩
    | 11, ht => cases ht; exact ⟨_, rfl, trivial⟩
    | i + 12, ht => simp at ht
  refine ⟨_, (pss_cons (ps_set (i := 1) sc_law.nd rfl (Or.inl rfl) (pe_df D_law_mill (hr.mono (by decide)) (by rfl) (pa_cons (pv 0) pa_nil)))
        (pss_cons (ps_for PassesOwn.never rfl (piListK K (pe_lst (pa_cons (pe_df D_law_great (hr.mono (by decide)) (by rfl) (pa_cons (pv 1) pa_nil)) (pa_cons (pe_df D_law_small (hr.mono (by decide)) (by rfl) (pa_cons (pv 1) pa_nil)) pa_nil)))) (pg_name (i := 2) sc_law.nd rfl (Or.inl rfl))
          (pss_cons (ps_set (i := 3) sc_law.nd rfl (Or.inl rfl) (pe_df D_law_pull_bounds (hr.mono (by decide)) (by rfl) (pa_cons (pv 1) (pa_cons (pv 2) pa_nil))))
          (pss_cons (ps_set (i := 4) sc_law.nd rfl (Or.inr rfl) (pe_df D_law_sums (hr.mono (by decide)) (by rfl) (pa_cons (pv 2) (pa_cons (pv 3) pa_nil))))
          (pss_cons (ps_set (i := 5) sc_law.nd rfl (Or.inl rfl) (pe_cmpR (neDK K hr.units) (pe_lc (own := [("_law_x", 6)]) rfl sc_law.nd (pi_range1 (by rfl) B.m_range (pa_cons (pe_ix (ixK K) (pv 2) pe_int (fun _ _ => rfl)) pa_nil)) (blkOk_by (N := N_law) (sc := defScope s_law) (own := [("_law_x", 6)]) (by decide +kernel)) (fun _ _ _ _ _ => (pg_name (i := 6) sc_law.nd rfl (Or.inl rfl))) (fun _ _ _ _ _ => (pts_one (pt_cmpR op_lt (pe_ix (ixK K) (pe_ix (ixK K) (pv 4) (pv 6) (fun _ _ => rfl)) (pv 6) (fun _ _ => rfl)) pe_int (nomark _)))) (fun _ _ _ _ _ => (pv 6))) (pe_lst pa_nil) (nomark _)))
          (pss_cons (ps_set (i := 7) sc_law.nd rfl (Or.inl rfl) (pe_df D_law_told (hr.mono (by decide)) (by rfl) (pa_cons pe_int (pa_cons (pv 2) (pa_cons (pv 3) (pa_cons pe_int (pa_cons (pe_cmpR op_eq (pe_df D_law_grind (hr.mono (by decide)) (by rfl) (pa_cons (pv 1) (pa_cons pe_int pa_nil))) pe_int (nomark _)) pa_nil)))))))
          (pss_cons (ps_if (PW.pt (pw_or (pt_cmpR op_ne (pe_callB (cr_repr hG hr) (by rfl) B.m_repr (by decide +kernel) (pa_cons (pe_df D_law_told (hr.mono (by decide)) (by rfl) (pa_cons pe_int (pa_cons (pv 2) (pa_cons (pv 3) (pa_cons pe_int (pa_cons (pe_cmpR op_eq (pe_df D_law_grind (hr.mono (by decide)) (by rfl) (pa_cons (pv 1) (pa_cons pe_int pa_nil))) pe_int (nomark _)) pa_nil)))))) pa_nil)) (pe_callB (cr_repr hG hr) (by rfl) B.m_repr (by decide +kernel) (pa_cons (pv 7) pa_nil)) (nomark _)) (pw_or1 (pt_cmpR op_ne (pv 5) (pe_callB (isiK K) (by rfl) B.m_isinstance (by decide +kernel) (pa_cons (pv 7) (pa_cons (pe_bltn (v := .ty "list") (by rfl) B.m_list (by decide +kernel) rfl) pa_nil))) (nomark _)))))
            (pss_one (ps_ret pe_bl))
            pss_nil)
          (pss_cons (ps_if (PW.pt (pw_or (PW.pt (pw_and (pt_val (pv 5)) (pw_and1 (pt_not (pt_val (pe_df D_law_bars (hr.mono (by decide)) (by rfl) (pa_cons (pv 2) (pa_cons (pv 3) (pa_cons (pe_ix (ixK K) (pv 7) pe_int (fun _ _ => rfl)) pa_nil))))))))) (pw_or1 (PW.pt (pw_and (pt_not (pt_val (pv 5))) (pw_and1 (pt_not (pt_val (pe_df D_law_is_within (hr.mono (by decide)) (by rfl) (pa_cons (pv 2) (pa_cons (pv 3) (pa_cons (pv 7) pa_nil))))))))))))
            (pss_one (ps_ret pe_bl))
            pss_nil)
          (pss_cons (ps_if (pt_not (pt_val (pe_dfG D_law_values_right hG (hr.mono (by decide)) (by rfl) (pa_cons (pv 1) (pa_cons (pv 2) (pa_cons (pv 3) (pa_cons (pe_ifExp (pt_val (pv 5)) (pe_ix (ixK K) (pv 7) pe_int (fun _ _ => rfl)) (pv 7)) pa_nil)))))))
            (pss_one (ps_ret pe_bl))
            pss_nil)
          (pss_cons (ps_for PassesOwn.never rfl (pi_range1 (by rfl) B.m_range (pa_cons (pe_callB (lenK K) (by rfl) B.m_len (by decide +kernel) (pa_cons (pe_ix (ixK K) (pv 2) pe_int (fun _ _ => rfl)) pa_nil)) pa_nil)) (pg_name (i := 8) sc_law.nd rfl (Or.inl rfl))
            (pss_cons (ps_set (i := 9) sc_law.nd rfl (Or.inl rfl) (pe_df D_law_told (hr.mono (by decide)) (by rfl) (pa_cons pe_int (pa_cons (pv 2) (pa_cons (pv 3) (pa_cons (pv 8) (pa_cons (pe_cmpR op_eq (pe_df D_law_grind (hr.mono (by decide)) (by rfl) (pa_cons (pv 1) (pa_cons pe_int pa_nil))) pe_int (nomark _)) pa_nil)))))))
            (pss_cons (ps_asg (pe_ix (ixK K) (pe_ix (ixK K) (pv 2) pe_int (fun _ _ => rfl)) (pv 8) (fun _ _ => rfl)) (pgTupK K (n := 2) (pgs_cons (pg_name (i := 6) sc_law.nd rfl (Or.inl rfl)) (pgs_cons (pg_name (i := 10) sc_law.nd rfl (Or.inl rfl)) pgs_nil))))
            (pss_cons (ps_if (PW.pt (pw_and (pt_val (pv 5)) (pw_and1 (PW.pt (pw_or (pt_not (pt_val (pe_callB (isiK K) (by rfl) B.m_isinstance (by decide +kernel) (pa_cons (pv 9) (pa_cons (pe_bltn (v := .ty "list") (by rfl) B.m_list (by decide +kernel) rfl) pa_nil))))) (pw_or1 (pt_not (pt_val (pe_df D_law_bars (hr.mono (by decide)) (by rfl) (pa_cons (pv 2) (pa_cons (pv 3) (pa_cons (pe_ix (ixK K) (pv 9) pe_int (fun _ _ => rfl)) pa_nil))))))))))))
              (pss_one (ps_ret pe_bl))
              pss_nil)
            (pss_one (ps_if (PW.pt (pw_and (pt_not (pt_val (pv 5))) (pw_and1 (pt_cmpR op_ne (pe_callB (cr_repr hG hr) (by rfl) B.m_repr (by decide +kernel) (pa_cons (pv 9) pa_nil)) (pe_callB (cr_repr hG hr) (by rfl) B.m_repr (by decide +kernel) (pa_cons (pe_tup (pa_cons (pe_un un_neg (pe_ix (ixK K) (pe_ix (ixK K) (pv 4) (pv 10) (fun _ _ => rfl)) (pv 6) (fun _ _ => rfl))) (pa_cons (pe_ix (ixK K) (pe_ix (ixK K) (pv 4) (pv 6) (fun _ _ => rfl)) (pv 10) (fun _ _ => rfl)) pa_nil))) pa_nil)) (nomark _)))))
              (pss_one (ps_ret pe_bl))
              pss_nil))))))
          (pss_one (ps_if (PW.pt (pw_and (pt_not (pt_val (pv 5))) (pw_and1 (pt_cmpR (neDK K hr.units) (pe_ix (ixK K) (pv 2) pe_int (fun _ _ => rfl)) (pe_tup pa_nil) (nomark _)))))
            (pss_cons (ps_set (i := 8) sc_law.nd rfl (Or.inl rfl) (pe_df D_law_grind (hr.mono (by decide)) (by rfl) (pa_cons (pv 1) (pa_cons (pe_callB (lenK K) (by rfl) B.m_len (by decide +kernel) (pa_cons (pe_ix (ixK K) (pv 2) pe_int (fun _ _ => rfl)) pa_nil)) pa_nil))))
            (pss_one (ps_for PassesOwn.never rfl (piTupK K (pe_df D_law_told (hr.mono (by decide)) (by rfl) (pa_cons pe_int (pa_cons (pv 2) (pa_cons (pv 3) (pa_cons (pv 8) (pa_cons pe_bl pa_nil))))))) (pg_name (i := 11) sc_law.nd rfl (Or.inl rfl))
              (pss_one (ps_if (pt_val (pe_callB (isiK K) (by rfl) B.m_isinstance (by decide +kernel) (pa_cons (pe_df D_law_told (hr.mono (by decide)) (by rfl) (pa_cons pe_int (pa_cons (pv 2) (pa_cons (pe_op (catK K) (pe_op (catK K) (pe_slice (slK K) (pv 3) po_none (po_some (pv 8))) (pe_tup (pa_cons (pe_tup (pa_cons (pv 11) (pa_cons (pv 11) pa_nil))) pa_nil))) (pe_slice (slK K) (pv 3) (po_some (pe_op op_add (pv 8) pe_int)) po_none)) (pa_cons pe_int (pa_cons pe_bl pa_nil)))))) (pa_cons (pe_bltn (v := .ty "list") (by rfl) B.m_list (by decide +kernel) rfl) pa_nil))))
                (pss_one (ps_ret pe_bl))
                pss_nil)))))
            pss_nil)))))))))))
        (pss_one (ps_ret pe_bl)))), ?_⟩
  refine st_seq (st_mill (ns := ns) rfl hlen hbits a fun σ H a => ?_)
  have a := a.no [0]
  refine st_seq (st_for (α := Unit) (dip_list (P := fun us => ∀ d ∈ us, ∃ n as, d = webD n as ∧ Wb n as) (dep_mono (dep_lst (dap_cons (dep_callN () (do_var rfl) rfl da_nil trivial) (dap_cons (dep_callN () (do_var rfl) rfl da_nil trivial) dap_nil)) ?_) ?_)) a fun us hus => ?_)
  · rintro ds ⟨d1, ds1, rfl, _, d2, ds2, rfl, _, rfl⟩
    exact Nat.le_of_ble_eq_true rfl
  · rintro d ⟨ds, rfl, d1, ds1, rfl, h1, d2, ds2, rfl, h2, rfl⟩
    refine ⟨_, rfl, fun d hd => ?_⟩
    simp only [List.mem_cons, List.not_mem_nil, or_false] at hd
    rcases hd with rfl | rfl
    · exact h1
    · exact h2
  refine ⟨fun _ _ => True, fun _ _ => [.no, .own 0, .no, .no, .no, .no, .no, .no, .no, .no, .no, .no], fun _ _ => [.mill], (), trivial, rfl, rfl, fun _ _ => rfl, fun c _ d hd _ => ?_, fun _ _ σ H a => st_ret (de_bl true) a fun v H' a' r => by rw [r.bool_of]; exact q H'⟩
  obtain ⟨n, as, rfl, W0⟩ := hus d (List.mem_of_getElem? hd)
  refine ⟨[2], _, dg_name, fun H1 A hA out N σ H hN a => ?_⟩
  refine st_seq (st_setp (dep_callN (n, as) (do_var rfl) rfl (da_cons (de_var rfl) da_nil) W0) a ?_)
  rintro σ H d ⟨bs, rfl, W⟩ a
  refine st_seq (st_set (de_callG (n, as, bs) (da_cons (de_var rfl) (da_cons (de_var rfl) da_nil)) W) a fun σ H a => ?_)
  dsimp only at a W
  have hn10 := W.hi
  have hfew := W.few
  have hdiag : ∀ v, tab n (stepsOf as bs) v v = some ((tab n (stepsOf as bs) v v).getD 0) := fun v => by
    obtain ⟨t, h, _⟩ := tab_diag n (stepsOf as bs) v
    rw [h]
    rfl
  refine st_seq (st_set (d := .bool (barR n as bs)) (de_is (de_neD (dn_lc (dgN (tab n (stepsOf as bs))) (di_range (n := n) (de_web0 rfl) (by omega)) (by rw [upTo_len]; omega) fun i d hd => ?_).de (de_lst da_nil) (Tame.shaped (k := 1) (tame_list fun d hd => ?_)) rfl) (congrArg PyData.bool (barred_is W))) a fun σ H a => ?_)
  · obtain ⟨hi, rfl⟩ := upTo_at hd
    refine ⟨_, dg_name, dt_is (dt_test (de_I0 (de_tab (n := n) (x := i) (y := i) rfl rfl rfl hi hi (hdiag i)) (de_int 0))) ?_, fun e he => ?_⟩
    · show decide _ = (if (tab n (stepsOf as bs) i i).getD 0 < 0 then some (PyData.int (i : Nat)) else none).isSome
      by_cases c : (tab n (stepsOf as bs) i i).getD 0 < 0
      · rw [if_pos c, decide_eq_true c]
        rfl
      · rw [if_neg c, decide_eq_false c]
        rfl
    · have he : (if (tab n (stepsOf as bs) i i).getD 0 < 0 then some (PyData.int (i : Nat)) else none) = some e := he
      split at he
      · cases he
        exact de_var rfl
      · cases he
  · obtain ⟨x, hx, h⟩ := List.mem_filterMap.mp hd
    unfold upTo at hx
    obtain ⟨v, _, rfl⟩ := List.mem_map.mp hx
    have h : (if (tab n (stepsOf as bs) v v).getD 0 < 0 then some (PyData.int (v : Nat)) else none) = some d := h
    split at h
    · cases h
      exact tame_int 0 _
    · cases h
  cases hz : hob n as bs with
  | inl hs =>
    have hb : barR n as bs = false := by unfold barR; rw [hz]
    rw [hb] at a
    obtain ⟨hw, hsm⟩ := within_ok W hz
    have hml : (diffs as hs).length = as.length := List.length_map _
    have NN := noneg_l W hz
    have gm := gv_small hsm (by omega)
    refine st_seq (st_set (de_is (de_told (k := 0) W (fun h => absurd rfl h) (de_int 0) (de_var rfl) (de_var rfl) (de_int 0) (dz_eqv (dz_grind 2 rfl rfl (de_int 2) ⟨by omega, by omega⟩) (de_int 0))) (toldR_0l hz)) a fun σ H a => ?_)
    refine st_seq (st_if (b := false) (dt_or2 (dtT (de_neStr (de_show (de_is (de_told (k := 0) W (fun h => absurd rfl h) (de_int 0) (de_var rfl) (de_var rfl) (de_int 0) (dz_eqv (dz_grind 2 rfl rfl (de_int 2) ⟨by omega, by omega⟩) (de_int 0))) (toldR_0l hz)) gm.sh gm.depth) (de_show (de_var rfl) gm.sh gm.depth)) (by simp)) (dtT (de_neB (de_var rfl) (de_isList (de_var rfl))) (by rw [isi_list]; rfl))) a (fun H z => nomatch z) fun H _ a => st_next ?_)
    refine st_seq (st_if (b := false) (dt_or2 (dt_and1 (dtB (b := false) (de_var rfl))) (dt_and2 (dtN (dtB (b := false) (de_var rfl))) (dtN (dtB (b := true) (de_callG (n, as, bs, intsT (diffs as hs)) (da_cons (de_var rfl) (da_cons (de_var rfl) (da_cons (de_var rfl) da_nil))) ⟨W, gm.fine⟩) (congrArg PyData.bool hw))))) a (fun H z => nomatch z) fun H _ a => st_next ?_)
    refine st_seq (st_if (b := false) (dtN (dtB (b := true) (dep_callN (n, as, bs, diffs as hs) (do_var rfl) rfl (da_cons (de_var rfl) (da_cons (de_var rfl) (da_cons (de_if (dtB (b := false) (de_var rfl)) (fun z => nomatch z) fun _ => de_var rfl) da_nil))) ⟨W, hml, hsm⟩))) a (fun H z => nomatch z) fun H _ a => st_next ?_)
    refine st_seq (st_for (α := Unit) (di_range (n := as.length) (de_webL rfl) (by omega)) a fun us e => ?_)
    subst e
    refine ⟨fun _ _ => True, fun _ _ => [.no, .own 0, .dat (webD n as), .dat (bndD bs), .dat (tabD n (tab n (stepsOf as bs))), .dat (.bool false), .no, .dat (intsT (diffs as hs)), .no, .no, .no, .no], fun _ _ => [.mill], (), trivial, rfl, rfl, fun _ _ => rfl, fun c _ d hd _ => ?_, fun _ _ σ H a => ?_⟩
    · obtain ⟨hc, rfl⟩ := upTo_at hd
      refine ⟨[8], _, dg_name, fun H2 A2 hA2 _ N2 σ H hN2 a => ?_⟩
      obtain ⟨⟨x, y⟩, hxy⟩ : ∃ p, as[c]? = some p := ⟨_, List.getElem?_eq_getElem hc⟩
      obtain ⟨u, v, hu, hv, su, sv⟩ := entry_ok W NN hxy
      obtain ⟨hx, hy⟩ := W.ends _ (List.mem_of_getElem? hxy)
      have g1 : Gv (intsT [-v, u]) := gv_small (fun m hm => by
        simp only [List.mem_cons, List.not_mem_nil, or_false] at hm
        rcases hm with rfl | rfl
        · rw [Int.natAbs_neg]
          exact sv
        · exact su) (Nat.le_of_ble_eq_true rfl)
      refine st_seq (st_set (de_is (de_told W (fun _ => hc) (de_int 1) (de_var rfl) (de_var rfl) (de_var rfl) (dz_eqv (dz_grind 2 rfl rfl (de_int 2) ⟨by omega, by omega⟩) (de_int 0))) (toldR_1l hz hxy hu hv)) a fun σ H a => ?_)
      refine st_seq (st_asg (vs := [6, 10]) (d := pairN (x, y)) (de_ixT (ds := as.map pairN) (de_web1 rfl) (de_var rfl) (atI_nat (by rw [List.getElem?_map, hxy]; rfl))) (dg_tup (dgs_cons dg_name (dgs_cons dg_name dgs_nil))) a fun σ H a => ?_)
      refine st_seq (st_if (b := false) (dt_and1 (dtB (b := false) (de_var rfl))) a (fun H z => nomatch z) fun H _ a => st_next ?_)
      exact st_if (b := false) (dt_and2 (dtN (dtB (b := false) (de_var rfl))) (dtT (de_neStr (de_show (de_var rfl) g1.sh g1.depth) (de_show (d := intsT [-v, u]) (de_tup (da_cons (de_neg (de_tab (n := n) (x := y) (y := x) rfl rfl rfl hy hx hv)) (da_cons (de_tab (n := n) (x := x) (y := y) rfl rfl rfl hx hy hu) da_nil))) g1.sh g1.depth)) (by simp))) a (fun H z => nomatch z) fun H _ a => st_next (hN2 σ H () trivial (a.no [6, 8, 9, 10]))
    · refine st_if (b := !PyData.eqv (.tuple (as.map pairN)) (.tuple [])) (dt_and2 (dtN (dtB (b := false) (de_var rfl))) (dtT (de_neD (de_web1 rfl) (de_tup da_nil) (shaped_pairs as) rfl))) a (fun H hb a => ?_) fun H _ a => st_next (hN σ H () trivial (a.no [2, 3, 4, 5, 7]))
      have hne : as ≠ [] := fun e => ne_nil_of hb (by rw [e]; rfl)
      have hpos : 0 < as.length := List.length_pos_iff.mpr hne
      refine st_seq (st_setp (dz_grind as.length rfl rfl (de_webL rfl) ⟨hpos, by omega⟩) a fun σ H d ⟨ki, ed, hk1, hk2⟩ a => ?_)
      obtain ⟨k, rfl⟩ : ∃ k : Nat, ki = k := ⟨ki.toNat, by omega⟩
      subst ed
      have hk : k < as.length := by omega
      have hkb : k < bs.length := by rw [← W.len]; exact hk
      have hbl : (bs.map pairI).length ≤ 15 := by rw [List.length_map, ← W.len]; exact hfew
      obtain ⟨⟨x, y⟩, hxy⟩ : ∃ p, as[k]? = some p := ⟨_, List.getElem?_eq_getElem hk⟩
      obtain ⟨u, v, hu, hv, su, sv⟩ := entry_ok W NN hxy
      refine st_for (α := Unit) (di_tup (ds := [.int (-v), .int u]) (de_is (de_told W (fun _ => hk) (de_int 1) (de_var rfl) (de_var rfl) (de_var rfl) (dep_bl false)) (toldR_1l hz hxy hu hv))) a fun us e => ?_
      subst e
      refine ⟨fun _ _ => True, fun _ _ => [.no, .own 0, .dat (webD n as), .dat (bndD bs), .dat (tabD n (tab n (stepsOf as bs))), .dat (.bool false), .no, .dat (intsT (diffs as hs)), .dat (.int k), .no, .no, .no], fun _ _ => [.mill], (), trivial, rfl, rfl, fun _ _ => rfl, fun c _ d hd _ => ?_, fun _ _ σ H a => hN σ H () trivial (a.no [2, 3, 4, 5, 7, 8])⟩
      obtain ⟨e, he, rfl⟩ : ∃ e, (e = -v ∨ e = u) ∧ d = .int e := by
        have hm := List.mem_of_getElem? hd
        simp only [List.mem_cons, List.not_mem_nil, or_false] at hm
        rcases hm with rfl | rfl
        · exact ⟨_, .inl rfl, rfl⟩
        · exact ⟨_, .inr rfl, rfl⟩
      have se : e.natAbs ≤ 1000000 := by rcases he with rfl | rfl <;> omega
      obtain ⟨W2, hs2, hz2⟩ := end_ok W NN hxy hu hv he se
      refine ⟨[11], _, dg_name, fun H3 A3 hA3 _ N3 σ H hN3 a => ?_⟩
      have c1 := cutL_len (xs := bs.map pairI) (lo := none) (hi := some (k : Int))
      have c2 := cutL_len (xs := bs.map pairI) (lo := some ((k : Int) + 1)) (hi := none)
      refine st_if (b := false) (dtB (de_isList (de_is (de_told (k := 0) W2 (fun h => absurd rfl h) (de_int 0) (de_var rfl) (de_is (de_catA (de_catA (de_slT (ds := bs.map pairI) (de_var rfl) do_no (do_some (de_var rfl))) (de_tup (da_cons (de_tup (da_cons (de_var rfl) (da_cons (de_var rfl) da_nil))) da_nil)) ?_) (de_slT (ds := bs.map pairI) (de_var rfl) (do_some (de_I0 (de_var rfl) (de_int 1))) do_no) ?_) (congrArg PyData.tuple (cut_set hkb))) (de_int 0) (dep_bl false)) (toldR_0l hz2))) (by rw [isi_list]; rfl)) a (fun H z => nomatch z) fun H _ a => st_next (hN3 σ H () trivial (a.no [11]))
      · rw [List.length_singleton]
        omega
      · rw [List.length_append, List.length_singleton]
        omega
  | inr l =>
    have hb : barR n as bs = true := by unfold barR; rw [hz]
    rw [hb] at a
    obtain ⟨hw, hll, hsm⟩ := bar_ok W hz
    have gm := gv_bar hsm (by omega)
    have gl := gv_small hsm (by omega)
    refine st_seq (st_set (de_is (de_told (k := 0) W (fun h => absurd rfl h) (de_int 0) (de_var rfl) (de_var rfl) (de_int 0) (dz_eqv (dz_grind 2 rfl rfl (de_int 2) ⟨by omega, by omega⟩) (de_int 0))) (toldR_r hz)) a fun σ H a => ?_)
    refine st_seq (st_if (b := false) (dt_or2 (dtT (de_neStr (de_show (de_is (de_told (k := 0) W (fun h => absurd rfl h) (de_int 0) (de_var rfl) (de_var rfl) (de_int 0) (dz_eqv (dz_grind 2 rfl rfl (de_int 2) ⟨by omega, by omega⟩) (de_int 0))) (toldR_r hz)) gm.sh gm.depth) (de_show (de_var rfl) gm.sh gm.depth)) (by simp)) (dtT (de_neB (de_var rfl) (de_isList (de_var rfl))) (by rw [isi_list]; rfl))) a (fun H z => nomatch z) fun H _ a => st_next ?_)
    refine st_seq (st_if (b := false) (dt_or2 (dt_and2 (dtB (b := true) (de_var rfl)) (dtN (dtB (b := true) (de_callG (n, as, bs, intsT l) (da_cons (de_var rfl) (da_cons (de_var rfl) (da_cons (de_ixL (ds := [.str "bar", intsT l]) (de_var rfl) (de_int 1) rfl) da_nil))) ⟨W, gl.fine⟩) (congrArg PyData.bool hw)))) (dt_and1 (dtN (dtB (b := true) (de_var rfl))))) a (fun H z => nomatch z) fun H _ a => st_next ?_)
    refine st_seq (st_if (b := false) (dtN (dtB (b := true) (dep_callN (n, as, bs, l) (do_var rfl) rfl (da_cons (de_var rfl) (da_cons (de_var rfl) (da_cons (de_if (dtB (b := true) (de_var rfl)) (fun _ => de_ixL (ds := [.str "bar", intsT l]) (de_var rfl) (de_int 1) rfl) fun z => nomatch z) da_nil))) ⟨W, hll, hsm⟩))) a (fun H z => nomatch z) fun H _ a => st_next ?_)
    refine st_seq (st_for (α := Unit) (di_range (n := as.length) (de_webL rfl) (by omega)) a fun us e => ?_)
    subst e
    refine ⟨fun _ _ => True, fun _ _ => [.no, .own 0, .dat (webD n as), .dat (bndD bs), .dat (tabD n (tab n (stepsOf as bs))), .dat (.bool true), .no, .dat (.list [.str "bar", intsT l]), .no, .no, .no, .no], fun _ _ => [.mill], (), trivial, rfl, rfl, fun _ _ => rfl, fun c _ d hd _ => ?_, fun _ _ σ H a => ?_⟩
    · obtain ⟨hc, rfl⟩ := upTo_at hd
      refine ⟨[8], _, dg_name, fun H2 A2 hA2 _ N2 σ H hN2 a => ?_⟩
      obtain ⟨⟨x, y⟩, hxy⟩ : ∃ p, as[c]? = some p := ⟨_, List.getElem?_eq_getElem hc⟩
      refine st_seq (st_set (de_is (de_told W (fun _ => hc) (de_int 1) (de_var rfl) (de_var rfl) (de_var rfl) (dz_eqv (dz_grind 2 rfl rfl (de_int 2) ⟨by omega, by omega⟩) (de_int 0))) (toldR_r hz)) a fun σ H a => ?_)
      refine st_seq (st_asg (vs := [6, 10]) (d := pairN (x, y)) (de_ixT (ds := as.map pairN) (de_web1 rfl) (de_var rfl) (atI_nat (by rw [List.getElem?_map, hxy]; rfl))) (dg_tup (dgs_cons dg_name (dgs_cons dg_name dgs_nil))) a fun σ H a => ?_)
      refine st_seq (st_if (b := false) (dt_and2 (dtB (b := true) (de_var rfl)) (dt_or2 (dtN (dtB (b := true) (de_isList (de_var rfl)) (by rw [isi_list]))) (dtN (dtB (b := true) (de_callG (n, as, bs, intsT l) (da_cons (de_var rfl) (da_cons (de_var rfl) (da_cons (de_ixL (ds := [.str "bar", intsT l]) (de_var rfl) (de_int 1) rfl) da_nil))) ⟨W, gl.fine⟩) (congrArg PyData.bool hw))))) a (fun H z => nomatch z) fun H _ a => st_next ?_)
      exact st_if (b := false) (dt_and1 (dtN (dtB (b := true) (de_var rfl)))) a (fun H z => nomatch z) fun H _ a => st_next (hN2 σ H () trivial (a.no [6, 8, 9, 10]))
    · exact st_if (b := false) (dt_and1 (dtN (dtB (b := true) (de_var rfl)))) a (fun H z => nomatch z) fun H _ a => st_next (hN σ H () trivial (a.no [2, 3, 4, 5, 7]))
end
end EW
/-! All together. -/
namespace EW
open PySem PyProof.Rows L2
structure AllFx (K : PySem.W.Frag) (mg : Str → Option Value) : Prop where
  law_mill : Fx K mg "_law_mill" s_law_mill
  law_grind : Fx K mg "_law_grind" s_law_grind
  law_row : Fx K mg "_law_row" s_law_row
  law_web : Fx K mg "_law_web" s_law_web
  law_great : Fx K mg "_law_great" s_law_great
  law_small : Fx K mg "_law_small" s_law_small
  law_pull_bounds : Fx K mg "_law_pull_bounds" s_law_pull_bounds
  law_sums : Fx K mg "_law_sums" s_law_sums
  is_integer : Fx K mg "is_integer" s_is_integer
  is_between : Fx K mg "is_between" s_is_between
  is_tuple_of : Fx K mg "is_tuple_of" s_is_tuple_of
  is_web : Fx K mg "is_web" s_is_web
  check_web : Fx K mg "check_web" s_check_web
  are_bounds : Fx K mg "are_bounds" s_are_bounds
  check_bounds : Fx K mg "check_bounds" s_check_bounds
  pull_by : Fx K mg "pull_by" s_pull_by
  lowered : Fx K mg "lowered" s_lowered
  steps_by : Fx K mg "steps_by" s_steps_by
  bar_at : Fx K mg "bar_at" s_bar_at
  heights_or_bar : Fx K mg "heights_or_bar" s_heights_or_bar
  some_heights : Fx K mg "some_heights" s_some_heights
  pull_within : Fx K mg "pull_within" s_pull_within
  check_arrow : Fx K mg "check_arrow" s_check_arrow
  least_weight : Fx K mg "least_weight" s_least_weight
  difference_bounds : Fx K mg "difference_bounds" s_difference_bounds
  law_told : Fx K mg "_law_told" s_law_told
  law_number : Fx K mg "_law_number" s_law_number
  law_numbers : Fx K mg "_law_numbers" s_law_numbers
  law_excess : Fx K mg "_law_excess" s_law_excess
  law_is_flow : Fx K mg "_law_is_flow" s_law_is_flow
  law_come : Fx K mg "_law_come" s_law_come
  law_is_single : Fx K mg "_law_is_single" s_law_is_single
  law_bars : Fx K mg "_law_bars" s_law_bars
  law_pull : Fx K mg "_law_pull" s_law_pull
  law_heights : Fx K mg "_law_heights" s_law_heights
  law_is_pull : Fx K mg "_law_is_pull" s_law_is_pull
  law_is_within : Fx K mg "_law_is_within" s_law_is_within
  law_ring : Fx K mg "_law_ring" s_law_ring
  are_amounts : Fx K mg "are_amounts" s_are_amounts
  heights_by : Fx K mg "heights_by" s_heights_by
  is_pull_of : Fx K mg "is_pull_of" s_is_pull_of
  is_pull_within : Fx K mg "is_pull_within" s_is_pull_within
  excess_of : Fx K mg "excess_of" s_excess_of
  is_flow_of : Fx K mg "is_flow_of" s_is_flow_of
  is_ring_of : Fx K mg "is_ring_of" s_is_ring_of
  weigh : Fx K mg "weigh" s_weigh
  bars_pulls : Fx K mg "bars_pulls" s_bars_pulls
  law_values_right : Fx K mg "_law_values_right" s_law_values_right
  law : Fx K mg "law" s_law
section
variable {P : Program} {w : World} {K : PySem.W.Frag} {mg : Str → Option Value} {base h : Heap} {C fI CB f : Addr}
theorem law_all (B : Bl mg) (Cc : Cn mg) (NT : NoTxt K mg P C fI) (NI : NoIs K C) (hIB : mg "InvalidBounds" = some (.ref CB)) (hkit : PySem.W.kitOne K (.ref C) (.ref CB) = some false) (fx : AllFx K mg) :
    DfG P w K mg base 8 "law" s_law ["_law_script"] (SpLaw K) := by
  have D_law_mill : Q_law_mill P w K mg base := df_law_mill B fx.law_mill
  have D_law_grind : Q_law_grind P w K mg base := df_law_grind B fx.law_grind
  have D_law_row : Q_law_row P w K mg base := df_law_row B fx.law_row D_law_grind
  have D_law_web : Q_law_web P w K mg base := df_law_web B fx.law_web D_law_grind D_law_row
  have D_law_great : Q_law_great P w K mg base := df_law_great fx.law_great D_law_web
  have D_law_small : Q_law_small P w K mg base := df_law_small fx.law_small D_law_web
  have D_law_pull_bounds : Q_law_pull_bounds P w K mg base := df_law_pull_bounds B fx.law_pull_bounds D_law_grind
  have D_law_sums : Q_law_sums P w K mg base := df_law_sums B fx.law_sums
  have D_is_integer : Q_is_integer P w K mg base := df_is_integer B fx.is_integer
  have D_is_between : Q_is_between P w K mg base := df_is_between B fx.is_between D_is_integer
  have D_is_tuple_of : Q_is_tuple_of P w K mg base := df_is_tuple_of B fx.is_tuple_of
  have D_is_web : Q_is_web P w K mg base := df_is_web B Cc fx.is_web D_is_between D_is_tuple_of
  have D_check_web : Q_check_web P w K mg base := df_check_web fx.check_web D_is_web
  have D_are_bounds : Q_are_bounds P w K mg base := df_are_bounds B Cc fx.are_bounds D_is_between D_is_tuple_of
  have D_check_bounds : Q_check_bounds P w K mg base := df_check_bounds fx.check_bounds D_are_bounds
  have D_pull_by : Q_pull_by P w K mg base := df_pull_by B fx.pull_by
  have D_lowered : Q_lowered P w K mg base := df_lowered B fx.lowered
  have D_steps_by : Q_steps_by P w K mg base := df_steps_by B fx.steps_by
  have D_bar_at : Q_bar_at P w K mg base := df_bar_at B fx.bar_at
  have D_heights_or_bar : Q_heights_or_bar P w K mg base := df_heights_or_bar B fx.heights_or_bar D_lowered D_steps_by D_bar_at
  have D_some_heights : Q_some_heights P w K mg base C := df_some_heights NT fx.some_heights D_heights_or_bar
  have D_pull_within : Q_pull_within P w K mg base C := df_pull_within fx.pull_within D_check_web D_check_bounds D_pull_by D_some_heights
  have D_check_arrow : Q_check_arrow P w K mg base := df_check_arrow B fx.check_arrow D_is_between
  have D_least_weight : Q_least_weight P w K mg base := df_least_weight B fx.least_weight D_steps_by
  have D_difference_bounds : Q_difference_bounds P w K mg base C := df_difference_bounds fx.difference_bounds D_check_web D_check_bounds D_check_arrow D_some_heights D_least_weight
  have D_law_told : Q_law_told P w K mg base := df_law_told B NT NI hIB hkit fx.law_told D_pull_within D_difference_bounds
  have D_law_number : Q_law_number P w K mg base := df_law_number B fx.law_number
  have D_law_numbers : Q_law_numbers P w K mg base := df_law_numbers B fx.law_numbers D_law_number
  have D_law_excess : Q_law_excess P w K mg base := df_law_excess B fx.law_excess
  have D_law_is_flow : Q_law_is_flow P w K mg base := df_law_is_flow B fx.law_is_flow D_law_numbers D_law_excess
  have D_law_come : Q_law_come P w K mg base := df_law_come B fx.law_come
  have D_law_is_single : Q_law_is_single P w K mg base := df_law_is_single B fx.law_is_single D_law_come
  have D_law_bars : Q_law_bars P w K mg base := df_law_bars B fx.law_bars D_law_is_flow D_law_is_single
  have D_law_pull : Q_law_pull P w K mg base := df_law_pull B fx.law_pull
  have D_law_heights : Q_law_heights P w K mg base := df_law_heights B fx.law_heights
  have D_law_is_pull : Q_law_is_pull P w K mg base := df_law_is_pull B fx.law_is_pull D_law_numbers D_law_pull D_law_heights
  have D_law_is_within : Q_law_is_within P w K mg base := df_law_is_within B fx.law_is_within D_law_is_pull
  have D_law_ring : Q_law_ring P w K mg base := df_law_ring B fx.law_ring
  have D_are_amounts : Q_are_amounts P w K mg base := df_are_amounts B fx.are_amounts D_is_tuple_of D_is_integer
  have D_heights_by : Q_heights_by P w K mg base := df_heights_by B fx.heights_by
  have D_is_pull_of : Q_is_pull_of P w K mg base := df_is_pull_of fx.is_pull_of D_are_amounts D_pull_by D_heights_by
  have D_is_pull_within : Q_is_pull_within P w K mg base := df_is_pull_within B fx.is_pull_within D_check_web D_check_bounds D_is_pull_of
  have D_excess_of : Q_excess_of P w K mg base := df_excess_of B fx.excess_of
  have D_is_flow_of : Q_is_flow_of P w K mg base := df_is_flow_of B fx.is_flow_of D_are_amounts D_excess_of
  have D_is_ring_of : Q_is_ring_of P w K mg base := df_is_ring_of B fx.is_ring_of
  have D_weigh : Q_weigh P w K mg base := df_weigh B fx.weigh
  have D_bars_pulls : Q_bars_pulls P w K mg base := df_bars_pulls fx.bars_pulls D_check_web D_check_bounds D_is_flow_of D_is_ring_of D_weigh
  have D_law_values_right : Q_law_values_right P w K mg base := df_law_values_right B fx.law_values_right D_law_grind D_law_ring D_law_is_within D_law_bars D_is_pull_within D_bars_pulls
  exact df_law B fx.law D_law_mill D_law_great D_law_small D_law_pull_bounds D_law_sums D_law_told D_law_grind D_law_bars D_law_is_within D_law_values_right
theorem fun_uniq {x q : Str} {st : Stmt} {fd fd' : FuncData} (F : Fun K x q st f fd) (G : Fun K x q st f fd') : fd = fd' := by
  obtain ⟨oc, od, kV, doc, pm, an, cdv, ct, osl, e, lk, _⟩ := F.ex
  obtain ⟨oc', od', kV', doc', pm', an', cdv', ct', osl', e', lk', _⟩ := G.ex
  have z := congrArg Obj.data (Option.some.inj (lk.symm.trans lk'))
  exact Data.func.inj z
theorem law_end {fa : Addr} (X : K.In h) (G : h.Ns mainGlobals mg) (hfa : mg "law" = some (.ref fa)) (B : Bl mg) (Cc : Cn mg) (NT : NoTxt K mg P C fI) (NI : NoIs K C) (hIB : mg "InvalidBounds" = some (.ref CB)) (hkit : PySem.W.kitOne K (.ref C) (.ref CB) = some false) (fx : AllFx K mg) :
    ∃ fd : FuncData, (∀ (s : Shared) (u : Value), BindsTo s fd ⟨[u], []⟩ [(("_law_script" : Str), u)]) ∧ ∀ base : Heap, K.In base → base.Ns mainGlobals mg → FnG P w K mg base 8 fa fd ["_law_script"] (SpLaw K) := by
  obtain ⟨f, fd, F, hm⟩ := fx.law.ex
  have e := hfa.symm.trans hm
  cases e
  refine ⟨fd, fun s u => ?_, fun base _ _ => ?_⟩
  · obtain ⟨oc, od, kV, doc, pm, an, cdv, ct, osl, e, lk, _⟩ := F.ex
    rw [e]
    exact .of_eq rfl
  · obtain ⟨f2, fd2, FG, F2, hm2, _⟩ := (law_all (P := P) (w := w) (base := base) B Cc NT NI hIB hkit fx).ex
    have e := hm.symm.trans hm2
    cases e
    rw [fun_uniq F F2]
    exact FG
theorem cn_mk {v1 v2 v3 : Value} {t1 t2 t3 : Tok} (X : K.In h) (G : h.Ns mainGlobals mg) (a : PySem.W.nsIn K mainGlobals "MOST_ARROWS" = some (some v1)) (b : PySem.W.nsIn K mainGlobals "MOST_BOUND" = some (some v2)) (c : PySem.W.nsIn K mainGlobals "MOST_PLACES" = some (some v3))
    (e1 : v1 = .int 15 t1) (e2 : v2 = .int 1000000 t2) (e3 : v3 = .int 10 t3) : Cn mg := by
  subst e1 e2 e3
  exact ⟨⟨_, PySem.W.mg_of X G a⟩, ⟨_, PySem.W.mg_of X G b⟩, ⟨_, PySem.W.mg_of X G c⟩⟩
theorem fx_mk {x : Str} {st : Stmt} {f : Addr} {oc : Value} {od an : Option Addr} {osl : Array (Option Value)} {kV doc pm cdv ct : Value} (X : K.In h) (G : h.Ns mainGlobals mg) (a : PySem.W.nsIn K mainGlobals x = some (some (.ref f)))
    (l : K.lookup f = some ⟨oc, od, .func (PySem.W.fnOf x x (defArgs st) (defBody st) (defScope st) .none kV doc pm an cdv ct), osl⟩) (c : PySem.W.codeIn K cdv x = true) (k : PySem.W.keepIn K (.ref f) = true) : Fx K mg x st :=
  ⟨f, _, fun_mk l c k, PySem.W.mg_of X G a⟩
theorem no_mk {nm q : Str} {N cda cc : Addr} {bs bm : List Value} {sn : List Str} {sub : List Value} {ab : Bool} {col : Option Bool} {dd : Option Addr} {k0 k1 k2 k3 k5 : Option Value} {oc : Value} {od : Option Addr} {kV doc pm : Value} {an : Option Addr} {ct : Value} {osl : Array (Option Value)}
    {ccl : Value} {cdd : Option Addr} {vs : Array Value} {ccs : Array (Option Value)} {file : Str} {tf : Tok} {cl : Value} {cld : Option Addr} {csl : Array (Option Value)} (X : K.In h) (G : h.Ns mainGlobals mg)
    (aC : PySem.W.nsIn K mainGlobals "NoPull" = some (some (.ref C)))
    (xC : K.lookup C = some (excClassObj nm q C N bs bm true sn sub ab col dd k0 k1 k2 k3 k5 "ValueError.__new__")) (rC : PySem.HandSPX.refsVE bm = true)
    (sa : PySem.W.findIn K (.ref C) "__setattr__" = some (some (.builtin "object.__setattr__"))) (ga : PySem.W.findIn K (.ref C) "__getattribute__" = some (some (.builtin "BaseException.__getattribute__"))) (gg : PySem.W.findIn K (.ref C) "__getattr__" = some none) (nb : PySem.W.findIn K (.ref C) "bar" = some none)
    (iC : PySem.W.findIn K (.ref C) "__init__" = some (some (.ref fI))) (tC : PySem.W.typeIn K (.ref fI) = some (.type "function")) (kC : PySem.W.keepIn K (.ref C) = true) (exC : PySem.W.subIn K (.ref C) (.type "BaseException") = some true) (veC : PySem.W.subIn K (.ref C) (.type "ValueError") = some true)
    (tyC : PySem.W.typeIn K (.ref C) = some (.type "type")) (hdC : PySem.W.hasDictIn K C = true) (te : PySem.W.exmOne K (.ref C) (.ref C) = some true) (mro : PySem.W.mroIn K C (.ref C) = some true) (sup : PySem.W.ks_superIn K C C "__init__" = some (some (.builtin "ValueError.__init__")))
    (tp : PySem.W.nsIn K cStatics "thirdparty.any" = some none) (su : PySem.W.nsIn K mainGlobals "super" = some none)
    (lI : K.lookup fI = some ⟨oc, od, .func (PySem.W.ksFn "__init__" "NoPull.__init__" (L2.defArgs sInit) (L2.defBody sInit) (L2.defScope sInit) .none kV doc pm an (.ref cda) ct cc), osl⟩) (cI : PySem.W.codeIn K (.ref cda) "NoPull.__init__" = true)
    (lc : K.lookup cda = some ⟨ccl, cdd, .fields vs, ccs⟩) (vf : vs[2]? = some (.str file tf)) (fl : ((P.main.file : Str) == file) = true) (lcc : K.lookup cc = some ⟨cl, cld, .cell (some (.ref C)), csl⟩) (top : (P.main.scope.names.lookup ("super" : Str)).isSome = false) : NoTxt K mg P C fI where
  gC := PySem.W.mg_of X G aC
  cls := ⟨_, _, _, _, _, _, _, _, _, _, _, _, _, _, _, xC, rC⟩
  sa := sa
  ga := ga
  gg := gg
  noN := nb
  iC := iC
  tC := tC
  kC := kC
  exC := exC
  veC := veC
  tyC := tyC
  hdC := hdC
  te := te
  mro := mro
  sup := sup
  tp := tp
  su := PySem.W.mg_none_of X G su
  fn := ⟨_, _, _, _, _, _, _, _, _, _, lI, cI, ⟨_, _, _, _, _, _, lc, vf, fl⟩, _, _, _, lcc⟩
  top := top
end
end EW
open PySem PySem.W PyProof.Rows
set_option maxHeartbeats 0 in
theorem PySem.Challenge.cw_everyflow_k76_whole_pulls_within_or_a_ba_holds : PySem.Challenge.rw_everyflow_k76_whole_pulls_within_or_a_ba.Holds := by
  w_on; o_law; k_head; (case hw => w_witness2)
  k_fill
  refine EW.walkG (l := PySem.Challenge.rw_everyflow_k76_whole_pulls_within_or_a_ba) (n := 63) (k := 8) (x := "_law_script") (sp := fun w => EW.SpLaw _) rfl (by decide) rfl ⟨rfl, by decide, by decide⟩ (fun w h Y => PySem.W.kIn_of Y) ?F (fun w H a ns hl hb hO hS => ⟨[], a, ns, rfl, (fun b h => nomatch h), (by rw [show EW.off H [] = H from funext fun a => if_neg (by simp)]; exact hS), hl, hb, fun _ => rfl⟩)
  case F =>
    intro w mg fa h KX G hmg
    have B : EW.Bl mg := by
      constructor
      all_goals (refine' PySem.W.mg_none_of KX G ?a; (case a => k_is))
    have Cc : EW.Cn mg := by
      refine' EW.cn_mk KX G ?a ?b ?c ?ea ?eb ?ec
      (case a => k_is); (case b => k_is); (case c => k_is); (case ea => rfl); (case eb => rfl); (case ec => rfl)
    refine' EW.law_end KX G hmg B Cc (EW.no_mk KX G ?aC ?xC ?rC ?sa ?ga ?gg ?nb ?iC ?tC ?kC ?exC ?veC ?tyC ?hdC ?te ?mro ?sup ?tp ?su ?lI ?cI ?lc ?vf ?fl ?lcc ?top) ⟨?ncl, ?nhg, ?nhk, ?nhs, ?nha, ?nhn, ?nht, ?nhm⟩ (PySem.W.mg_of KX G ?aB) ?kit ⟨?F_law_mill, ?F_law_grind, ?F_law_row, ?F_law_web, ?F_law_great, ?F_law_small, ?F_law_pull_bounds, ?F_law_sums, ?F_is_integer, ?F_is_between, ?F_is_tuple_of, ?F_is_web, ?F_check_web, ?F_are_bounds, ?F_check_bounds, ?F_pull_by, ?F_lowered, ?F_steps_by, ?F_bar_at, ?F_heights_or_bar, ?F_some_heights, ?F_pull_within, ?F_check_arrow, ?F_least_weight, ?F_difference_bounds, ?F_law_told, ?F_law_number, ?F_law_numbers, ?F_law_excess, ?F_law_is_flow, ?F_law_come, ?F_law_is_single, ?F_law_bars, ?F_law_pull, ?F_law_heights, ?F_law_is_pull, ?F_law_is_within, ?F_law_ring, ?F_are_amounts, ?F_heights_by, ?F_is_pull_of, ?F_is_pull_within, ?F_excess_of, ?F_is_flow_of, ?F_is_ring_of, ?F_weigh, ?F_bars_pulls, ?F_law_values_right, ?F_law⟩
    (case F_law_mill => refine' EW.fx_mk KX G ?a ?l ?c ?k; (case a => k_is); (case l => k_is); (case c => k_is); (case k => k_is))
    (case F_law_grind => refine' EW.fx_mk KX G ?a ?l ?c ?k; (case a => k_is); (case l => k_is); (case c => k_is); (case k => k_is))
    (case F_law_row => refine' EW.fx_mk KX G ?a ?l ?c ?k; (case a => k_is); (case l => k_is); (case c => k_is); (case k => k_is))
    (case F_law_web => refine' EW.fx_mk KX G ?a ?l ?c ?k; (case a => k_is); (case l => k_is); (case c => k_is); (case k => k_is))
    (case F_law_great => refine' EW.fx_mk KX G ?a ?l ?c ?k; (case a => k_is); (case l => k_is); (case c => k_is); (case k => k_is))
    (case F_law_small => refine' EW.fx_mk KX G ?a ?l ?c ?k; (case a => k_is); (case l => k_is); (case c => k_is); (case k => k_is))
    (case F_law_pull_bounds => refine' EW.fx_mk KX G ?a ?l ?c ?k; (case a => k_is); (case l => k_is); (case c => k_is); (case k => k_is))
    (case F_law_sums => refine' EW.fx_mk KX G ?a ?l ?c ?k; (case a => k_is); (case l => k_is); (case c => k_is); (case k => k_is))
    (case F_is_integer => refine' EW.fx_mk KX G ?a ?l ?c ?k; (case a => k_is); (case l => k_is); (case c => k_is); (case k => k_is))
    (case F_is_between => refine' EW.fx_mk KX G ?a ?l ?c ?k; (case a => k_is); (case l => k_is); (case c => k_is); (case k => k_is))
    (case F_is_tuple_of => refine' EW.fx_mk KX G ?a ?l ?c ?k; (case a => k_is); (case l => k_is); (case c => k_is); (case k => k_is))
    (case F_is_web => refine' EW.fx_mk KX G ?a ?l ?c ?k; (case a => k_is); (case l => k_is); (case c => k_is); (case k => k_is))
    (case F_check_web => refine' EW.fx_mk KX G ?a ?l ?c ?k; (case a => k_is); (case l => k_is); (case c => k_is); (case k => k_is))
    (case F_are_bounds => refine' EW.fx_mk KX G ?a ?l ?c ?k; (case a => k_is); (case l => k_is); (case c => k_is); (case k => k_is))
    (case F_check_bounds => refine' EW.fx_mk KX G ?a ?l ?c ?k; (case a => k_is); (case l => k_is); (case c => k_is); (case k => k_is))
    (case F_pull_by => refine' EW.fx_mk KX G ?a ?l ?c ?k; (case a => k_is); (case l => k_is); (case c => k_is); (case k => k_is))
    (case F_lowered => refine' EW.fx_mk KX G ?a ?l ?c ?k; (case a => k_is); (case l => k_is); (case c => k_is); (case k => k_is))
    (case F_steps_by => refine' EW.fx_mk KX G ?a ?l ?c ?k; (case a => k_is); (case l => k_is); (case c => k_is); (case k => k_is))
    (case F_bar_at => refine' EW.fx_mk KX G ?a ?l ?c ?k; (case a => k_is); (case l => k_is); (case c => k_is); (case k => k_is))
    (case F_heights_or_bar => refine' EW.fx_mk KX G ?a ?l ?c ?k; (case a => k_is); (case l => k_is); (case c => k_is); (case k => k_is))
    (case F_some_heights => refine' EW.fx_mk KX G ?a ?l ?c ?k; (case a => k_is); (case l => k_is); (case c => k_is); (case k => k_is))
    (case F_pull_within => refine' EW.fx_mk KX G ?a ?l ?c ?k; (case a => k_is); (case l => k_is); (case c => k_is); (case k => k_is))
    (case F_check_arrow => refine' EW.fx_mk KX G ?a ?l ?c ?k; (case a => k_is); (case l => k_is); (case c => k_is); (case k => k_is))
    (case F_least_weight => refine' EW.fx_mk KX G ?a ?l ?c ?k; (case a => k_is); (case l => k_is); (case c => k_is); (case k => k_is))
    (case F_difference_bounds => refine' EW.fx_mk KX G ?a ?l ?c ?k; (case a => k_is); (case l => k_is); (case c => k_is); (case k => k_is))
    (case F_law_told => refine' EW.fx_mk KX G ?a ?l ?c ?k; (case a => k_is); (case l => k_is); (case c => k_is); (case k => k_is))
    (case F_law_number => refine' EW.fx_mk KX G ?a ?l ?c ?k; (case a => k_is); (case l => k_is); (case c => k_is); (case k => k_is))
    (case F_law_numbers => refine' EW.fx_mk KX G ?a ?l ?c ?k; (case a => k_is); (case l => k_is); (case c => k_is); (case k => k_is))
    (case F_law_excess => refine' EW.fx_mk KX G ?a ?l ?c ?k; (case a => k_is); (case l => k_is); (case c => k_is); (case k => k_is))
    (case F_law_is_flow => refine' EW.fx_mk KX G ?a ?l ?c ?k; (case a => k_is); (case l => k_is); (case c => k_is); (case k => k_is))
    (case F_law_come => refine' EW.fx_mk KX G ?a ?l ?c ?k; (case a => k_is); (case l => k_is); (case c => k_is); (case k => k_is))
    (case F_law_is_single => refine' EW.fx_mk KX G ?a ?l ?c ?k; (case a => k_is); (case l => k_is); (case c => k_is); (case k => k_is))
    (case F_law_bars => refine' EW.fx_mk KX G ?a ?l ?c ?k; (case a => k_is); (case l => k_is); (case c => k_is); (case k => k_is))
    (case F_law_pull => refine' EW.fx_mk KX G ?a ?l ?c ?k; (case a => k_is); (case l => k_is); (case c => k_is); (case k => k_is))
    (case F_law_heights => refine' EW.fx_mk KX G ?a ?l ?c ?k; (case a => k_is); (case l => k_is); (case c => k_is); (case k => k_is))
    (case F_law_is_pull => refine' EW.fx_mk KX G ?a ?l ?c ?k; (case a => k_is); (case l => k_is); (case c => k_is); (case k => k_is))
    (case F_law_is_within => refine' EW.fx_mk KX G ?a ?l ?c ?k; (case a => k_is); (case l => k_is); (case c => k_is); (case k => k_is))
    (case F_law_ring => refine' EW.fx_mk KX G ?a ?l ?c ?k; (case a => k_is); (case l => k_is); (case c => k_is); (case k => k_is))
    (case F_are_amounts => refine' EW.fx_mk KX G ?a ?l ?c ?k; (case a => k_is); (case l => k_is); (case c => k_is); (case k => k_is))
    (case F_heights_by => refine' EW.fx_mk KX G ?a ?l ?c ?k; (case a => k_is); (case l => k_is); (case c => k_is); (case k => k_is))
    (case F_is_pull_of => refine' EW.fx_mk KX G ?a ?l ?c ?k; (case a => k_is); (case l => k_is); (case c => k_is); (case k => k_is))
    (case F_is_pull_within => refine' EW.fx_mk KX G ?a ?l ?c ?k; (case a => k_is); (case l => k_is); (case c => k_is); (case k => k_is))
    (case F_excess_of => refine' EW.fx_mk KX G ?a ?l ?c ?k; (case a => k_is); (case l => k_is); (case c => k_is); (case k => k_is))
    (case F_is_flow_of => refine' EW.fx_mk KX G ?a ?l ?c ?k; (case a => k_is); (case l => k_is); (case c => k_is); (case k => k_is))
    (case F_is_ring_of => refine' EW.fx_mk KX G ?a ?l ?c ?k; (case a => k_is); (case l => k_is); (case c => k_is); (case k => k_is))
    (case F_weigh => refine' EW.fx_mk KX G ?a ?l ?c ?k; (case a => k_is); (case l => k_is); (case c => k_is); (case k => k_is))
    (case F_bars_pulls => refine' EW.fx_mk KX G ?a ?l ?c ?k; (case a => k_is); (case l => k_is); (case c => k_is); (case k => k_is))
    (case F_law_values_right => refine' EW.fx_mk KX G ?a ?l ?c ?k; (case a => k_is); (case l => k_is); (case c => k_is); (case k => k_is))
    (case F_law => refine' EW.fx_mk KX G ?a ?l ?c ?k; (case a => k_is); (case l => k_is); (case c => k_is); (case k => k_is))
    (case aC => k_is)
    (case aB => k_is)
    (case xC => k_is)
    (case rC => decide +kernel)
    (case sa => k_is)
    (case ga => k_is)
    (case gg => k_is)
    (case nb => k_is)
    (case iC => k_is)
    (case tC => k_is)
    (case kC => k_is)
    (case exC => k_is)
    (case veC => k_is)
    (case tyC => k_is)
    (case hdC => k_is)
    (case te => kernel_rfl)
    (case mro => k_is)
    (case sup => kernel_rfl)
    (case tp => k_is)
    (case su => k_is)
    (case lI => k_is)
    (case cI => k_is)
    (case lc => k_is)
    (case vf => rfl)
    (case fl => rfl)
    (case lcc => k_is)
    (case top => decide +kernel)
    (case ncl => kernel_rfl)
    (case nhg => k_is)
    (case nhk => k_is)
    (case nhs => k_is)
    (case nha => k_is)
    (case nhn => k_is)
    (case nht => k_is)
    (case nhm => k_is)
    (case kit => kernel_rfl)
