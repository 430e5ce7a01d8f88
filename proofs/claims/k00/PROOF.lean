import PyProof.Rows.All
import Wide.All
import OpenK.AllK
import Wide.FinOn
import HandS.ForMost
import HandS.IsInst
import HandS.TupAny
import HandS.Zip
import HandS.Walk
import HandS.Deep
import HandS.Strs
import HandS.Style
import HandS.TupLe
import HandS.Flow
import HandS.SortOrd
import HandS.Conv
import PySem.Challenge.RW_nocases_k00_terms_sizes_parts_and_order
import HandS.SortRule
import KE.LtSeq
import PyProof.Rows.SortKeyStr
set_option Elab.async false
set_option linter.all false
set_option maxRecDepth 100000
set_option maxHeartbeats 4000000
namespace N0
open PySem L2

inductive Tm where
  | yes | no | letter (s : Str) | not (a : Tm) | and (a b : Tm) | or (a b : Tm)
  deriving DecidableEq
namespace Tm
def kids : Tm → List Tm
  | .not a => [a]
  | .and a b => [a, b]
  | .or a b => [a, b]
  | _ => []
def kd : Tm → Nat
  | .yes => 0 | .no => 1 | .letter _ => 2 | .not _ => 3 | .and _ _ => 4 | .or _ _ => 5
def size : Tm → Nat
  | .not a => a.size + 1
  | .and a b => a.size + b.size + 1
  | .or a b => a.size + b.size + 1
  | _ => 1
def dep : Tm → Nat
  | .not a => a.dep + 1
  | .and a b => max a.dep b.dep + 1
  | .or a b => max a.dep b.dep + 1
  | _ => 0
def k2 (t : Tm) : Nat := t.size * 6 + t.kd
theorem kd_lt (t : Tm) : t.kd < 6 := by cases t <;> simp [kd]
theorem size_pos (t : Tm) : 0 < t.size := by cases t <;> simp [size]
end Tm
def slt (a b : Str) : Bool := decide (a.cps.toList < b.cps.toList)
theorem slt_irr (a : Str) : slt a a = false := decide_eq_false (List.lt_irrefl _)
theorem slt_trans {a b c : Str} (h1 : slt a b = true) (h2 : slt b c = true) : slt a c = true :=
  decide_eq_true (List.lt_trans (of_decide_eq_true h1) (of_decide_eq_true h2))
theorem str_ext {a b : Str} (h : a.cps.toList = b.cps.toList) : a = b := by
  cases a; cases b; congr; exact Array.ext' h
theorem slt_tri {a b : Str} (h : a ≠ b) : slt a b = true ∨ slt b a = true := by
  by_cases h1 : a.cps.toList < b.cps.toList
  · exact .inl (decide_eq_true h1)
  · by_cases h2 : b.cps.toList < a.cps.toList
    · exact .inr (decide_eq_true h2)
    · exact absurd (str_ext (List.le_antisymm (List.not_lt.mp h2) (List.not_lt.mp h1))) h
namespace Tm
def lt (a b : Tm) : Bool :=
  if a.k2 ≠ b.k2 then decide (a.k2 < b.k2) else
  match a, b with
  | .letter s, .letter r => slt s r
  | .not x, .not y => if x = y then false else lt x y
  | .and x x', .and y y' => if x = y then (if x' = y' then false else lt x' y') else lt x y
  | .or x x', .or y y' => if x = y then (if x' = y' then false else lt x' y') else lt x y
  | _, _ => false
theorem k2_kd {a b : Tm} (h : a.k2 = b.k2) : a.kd = b.kd ∧ a.size = b.size := by
  have h1 := kd_lt a; have h2 := kd_lt b
  unfold k2 at h; omega
theorem lt_ne {a b : Tm} (h : a.k2 ≠ b.k2) : lt a b = decide (a.k2 < b.k2) := by
  unfold lt; rw [if_pos h]
theorem lt_letter {s r : Str} : lt (.letter s) (.letter r) = slt s r := by
  unfold lt; rw [if_neg (by simp [k2, size, kd])]
theorem lt_not {x y : Tm} (h : x.k2 = y.k2) : lt (.not x) (.not y) = if x = y then false else lt x y := by
  have e := (k2_kd h).2
  rw [lt]; rw [if_neg (by simp [k2, size, kd, e])]
theorem lt_and {x x' y y' : Tm} (h : (Tm.and x x').k2 = (Tm.and y y').k2) : lt (.and x x') (.and y y') = if x = y then (if x' = y' then false else lt x' y') else lt x y := by
  rw [lt]; rw [if_neg (by simp [h])]
theorem lt_or {x x' y y' : Tm} (h : (Tm.or x x').k2 = (Tm.or y y').k2) : lt (.or x x') (.or y y') = if x = y then (if x' = y' then false else lt x' y') else lt x y := by
  rw [lt]; rw [if_neg (by simp [h])]
theorem lt_not' {x y : Tm} (h : (Tm.not x).k2 = (Tm.not y).k2) : lt (.not x) (.not y) = if x = y then false else lt x y := by
  rw [lt]; rw [if_neg (by simp [h])]
theorem lt_irr (a : Tm) : lt a a = false := by
  cases a with
  | yes => rfl
  | no => rfl
  | letter s => rw [lt_letter, slt_irr]
  | not x => rw [lt_not' rfl, if_pos rfl]
  | and x y => rw [lt_and rfl, if_pos rfl, if_pos rfl]
  | or x y => rw [lt_or rfl, if_pos rfl, if_pos rfl]
theorem lt_k2 {a b : Tm} (h : a.k2 < b.k2) : lt a b = true := by rw [lt_ne (by omega)]; exact decide_eq_true h
theorem k2_le {a b : Tm} (h : lt a b = true) : a.k2 ≤ b.k2 := by
  by_cases e : a.k2 = b.k2
  · omega
  · rw [lt_ne e] at h; exact Nat.le_of_lt (of_decide_eq_true h)
theorem lt_tri : ∀ {a b : Tm}, a ≠ b → lt a b = true ∨ lt b a = true := by
  intro a
  induction a with
  | yes =>
    intro b h
    rcases Nat.lt_trichotomy (Tm.yes).k2 b.k2 with e | e | e
    · exact .inl (lt_k2 e)
    · have := (k2_kd e).1; cases b <;> simp [kd] at this; exact absurd rfl h
    · exact .inr (lt_k2 e)
  | no =>
    intro b h
    rcases Nat.lt_trichotomy (Tm.no).k2 b.k2 with e | e | e
    · exact .inl (lt_k2 e)
    · have := (k2_kd e).1; cases b <;> simp [kd] at this; exact absurd rfl h
    · exact .inr (lt_k2 e)
  | letter s =>
    intro b h
    rcases Nat.lt_trichotomy (Tm.letter s).k2 b.k2 with e | e | e
    · exact .inl (lt_k2 e)
    · have := (k2_kd e).1; cases b <;> simp [kd] at this
      rw [lt_letter, lt_letter]
      exact slt_tri (fun q => h (by rw [q]))
    · exact .inr (lt_k2 e)
  | not x ih =>
    intro b h
    rcases Nat.lt_trichotomy (Tm.not x).k2 b.k2 with e | e | e
    · exact .inl (lt_k2 e)
    · have := (k2_kd e).1; cases b <;> simp [kd] at this
      rename_i y
      have hxy : x ≠ y := fun q => h (by rw [q])
      rw [lt_not' e, lt_not' e.symm, if_neg hxy, if_neg (Ne.symm hxy)]
      exact ih hxy
    · exact .inr (lt_k2 e)
  | and x x' ih ih' =>
    intro b h
    rcases Nat.lt_trichotomy (Tm.and x x').k2 b.k2 with e | e | e
    · exact .inl (lt_k2 e)
    · have := (k2_kd e).1; cases b <;> simp [kd] at this
      rename_i y y'
      rw [lt_and e, lt_and e.symm]
      by_cases q : x = y
      · have q' : x' ≠ y' := fun r => h (by rw [q, r])
        rw [if_pos q, if_pos q.symm, if_neg q', if_neg (Ne.symm q')]
        exact ih' q'
      · rw [if_neg q, if_neg (Ne.symm q)]
        exact ih q
    · exact .inr (lt_k2 e)
  | or x x' ih ih' =>
    intro b h
    rcases Nat.lt_trichotomy (Tm.or x x').k2 b.k2 with e | e | e
    · exact .inl (lt_k2 e)
    · have := (k2_kd e).1; cases b <;> simp [kd] at this
      rename_i y y'
      rw [lt_or e, lt_or e.symm]
      by_cases q : x = y
      · have q' : x' ≠ y' := fun r => h (by rw [q, r])
        rw [if_pos q, if_pos q.symm, if_neg q', if_neg (Ne.symm q')]
        exact ih' q'
      · rw [if_neg q, if_neg (Ne.symm q)]
        exact ih q
    · exact .inr (lt_k2 e)
/-- what both pairs give, given transitivity below -/
theorem pair_trans {x x' y y' z z' : Tm} (t1 : ∀ {b c}, lt x b = true → lt b c = true → lt x c = true) (t2 : ∀ {b c}, lt x' b = true → lt b c = true → lt x' c = true)
    (as : ∀ {b}, lt x b = true → lt b x = true → False)
    (h1 : (if x = y then (if x' = y' then false else lt x' y') else lt x y) = true) (h2 : (if y = z then (if y' = z' then false else lt y' z') else lt y z) = true)
    (as' : ∀ {b}, lt x' b = true → lt b x' = true → False) :
    (if x = z then (if x' = z' then false else lt x' z') else lt x z) = true := by
  by_cases q : x = y
  · subst q
    rw [if_pos rfl] at h1
    by_cases r : x = z
    · subst r
      rw [if_pos rfl] at h2 ⊢
      by_cases a : x' = y'
      · rw [if_pos a] at h1; cases h1
      · rw [if_neg a] at h1
        by_cases b : y' = z'
        · rw [if_pos b] at h2; cases h2
        · rw [if_neg b] at h2
          by_cases c : x' = z'
          · subst c; exact absurd h2 (fun w => as' h1 w)
          · rw [if_neg c]; exact t2 h1 h2
    · rw [if_neg r] at h2 ⊢; exact h2
  · rw [if_neg q] at h1
    by_cases r : y = z
    · subst r; rw [if_neg q]; exact h1
    · rw [if_neg r] at h2
      by_cases s : x = z
      · subst s; exact absurd h2 (fun w => as h1 w)
      · rw [if_neg s]; exact t1 h1 h2
theorem lt_trans : ∀ {a b c : Tm}, lt a b = true → lt b c = true → lt a c = true := by
  intro a
  induction a with
  | yes =>
    intro b c h1 h2
    have e1 := k2_le h1; have e2 := k2_le h2
    by_cases e : (Tm.yes).k2 < c.k2
    · exact lt_k2 e
    · have e3 : (Tm.yes).k2 = b.k2 := by omega
      have := (k2_kd e3).1; cases b <;> simp [kd] at this
      rw [lt_irr] at h1; cases h1
  | no =>
    intro b c h1 h2
    have e1 := k2_le h1; have e2 := k2_le h2
    by_cases e : (Tm.no).k2 < c.k2
    · exact lt_k2 e
    · have e3 : (Tm.no).k2 = b.k2 := by omega
      have := (k2_kd e3).1; cases b <;> simp [kd] at this
      rw [lt_irr] at h1; cases h1
  | letter s =>
    intro b c h1 h2
    have e1 := k2_le h1; have e2 := k2_le h2
    by_cases e : (Tm.letter s).k2 < c.k2
    · exact lt_k2 e
    · have e3 : (Tm.letter s).k2 = b.k2 := by omega
      have e4 : (Tm.letter s).k2 = c.k2 := by omega
      have q := (k2_kd e3).1; cases b <;> simp [kd] at q
      have q := (k2_kd e4).1; cases c <;> simp [kd] at q
      rw [lt_letter] at h1 h2 ⊢
      exact slt_trans h1 h2
  | not x ih =>
    intro b c h1 h2
    have e1 := k2_le h1; have e2 := k2_le h2
    by_cases e : (Tm.not x).k2 < c.k2
    · exact lt_k2 e
    · have e3 : (Tm.not x).k2 = b.k2 := by omega
      have e4 : (Tm.not x).k2 = c.k2 := by omega
      obtain ⟨y, rfl⟩ : ∃ y, b = .not y := by
        have q := (k2_kd e3).1
        cases b <;> simp [kd] at q
        exact ⟨_, rfl⟩
      obtain ⟨z, rfl⟩ : ∃ z, c = .not z := by
        have q := (k2_kd e4).1
        cases c <;> simp [kd] at q
        exact ⟨_, rfl⟩
      rw [lt_not' e3] at h1
      rw [lt_not' (e3.symm.trans e4)] at h2
      rw [lt_not' e4]
      have as : ∀ {b}, lt x b = true → lt b x = true → False := fun p q => by have := ih p q; rw [lt_irr] at this; cases this
      by_cases a : x = y
      · rw [if_pos a] at h1; cases h1
      · rw [if_neg a] at h1
        by_cases b : y = z
        · rw [if_pos b] at h2; cases h2
        · rw [if_neg b] at h2
          by_cases c : x = z
          · subst c; exact absurd h2 (fun w => as h1 w)
          · rw [if_neg c]; exact ih h1 h2
  | and x x' ih ih' =>
    intro b c h1 h2
    have e1 := k2_le h1; have e2 := k2_le h2
    by_cases e : (Tm.and x x').k2 < c.k2
    · exact lt_k2 e
    · have e3 : (Tm.and x x').k2 = b.k2 := by omega
      have e4 : (Tm.and x x').k2 = c.k2 := by omega
      have q := (k2_kd e3).1; cases b <;> simp [kd] at q
      have q := (k2_kd e4).1; cases c <;> simp [kd] at q
      rw [lt_and e3] at h1
      rw [lt_and (e3.symm.trans e4)] at h2
      rw [lt_and e4]
      exact pair_trans ih ih' (fun p q => by have := ih p q; rw [lt_irr] at this; cases this) h1 h2 (fun p q => by have := ih' p q; rw [lt_irr] at this; cases this)
  | or x x' ih ih' =>
    intro b c h1 h2
    have e1 := k2_le h1; have e2 := k2_le h2
    by_cases e : (Tm.or x x').k2 < c.k2
    · exact lt_k2 e
    · have e3 : (Tm.or x x').k2 = b.k2 := by omega
      have e4 : (Tm.or x x').k2 = c.k2 := by omega
      have q := (k2_kd e3).1; cases b <;> simp [kd] at q
      have q := (k2_kd e4).1; cases c <;> simp [kd] at q
      rw [lt_or e3] at h1
      rw [lt_or (e3.symm.trans e4)] at h2
      rw [lt_or e4]
      exact pair_trans ih ih' (fun p q => by have := ih p q; rw [lt_irr] at this; cases this) h1 h2 (fun p q => by have := ih' p q; rw [lt_irr] at this; cases this)
theorem lt_asym {a b : Tm} (h : lt a b = true) : lt b a = false := by
  cases e : lt b a with
  | false => rfl
  | true => have := lt_trans h e; rw [lt_irr] at this; cases this
end Tm

/-! ### sorted lists, counts -/
/-- in a list sorted by a strict order the k-th item has just k lesser ones -/
theorem countP_sorted {α : Type} {r : α → α → Bool} (irr : ∀ a, r a a = false) (as : ∀ a b, r a b = true → r b a = false) :
    ∀ {l : List α}, l.Pairwise (fun a b => r a b = true) → ∀ {k : Nat} {x : α}, l[k]? = some x → l.countP (fun y => r y x) = k
  | [], _, k, x, h => by simp at h
  | a :: l, hp, k, x, h => by
    rw [List.pairwise_cons] at hp
    cases k with
    | zero =>
      simp at h; subst h
      rw [List.countP_cons, irr]
      have : l.countP (fun y => r y a) = 0 := List.countP_eq_zero.mpr fun y hy => by rw [as _ _ (hp.1 y hy)]; simp
      simp [this]
    | succ k =>
      have h' : l[k]? = some x := by simpa using h
      have hx : x ∈ l := List.mem_of_getElem? h'
      rw [List.countP_cons, countP_sorted irr as hp.2 h', hp.1 x hx]; simp
def rk (ts : List Tm) (t : Tm) : Nat := ts.countP fun u => Tm.lt u t
theorem countP_imp {α : Type} {p q : α → Bool} : ∀ {l : List α}, (∀ x ∈ l, p x = true → q x = true) → l.countP p ≤ l.countP q
  | [], _ => Nat.le_refl _
  | a :: l, h => by
    have ih := countP_imp (l := l) fun x hx => h x (List.mem_cons_of_mem _ hx)
    rw [List.countP_cons, List.countP_cons]
    have := h a (List.mem_cons_self ..)
    cases ep : p a <;> cases eq : q a <;> simp_all <;> omega
theorem rk_lt {ts : List Tm} {a b : Tm} (ha : a ∈ ts) (h : Tm.lt a b = true) : rk ts a < rk ts b := by
  unfold rk
  induction ts with
  | nil => cases ha
  | cons u r ih =>
    rw [List.countP_cons, List.countP_cons]
    have mono : ∀ x, Tm.lt x a = true → Tm.lt x b = true := fun x q => Tm.lt_trans q h
    rcases List.mem_cons.mp ha with e | e
    · subst e
      rw [Tm.lt_irr, h]
      have := countP_imp (l := r) fun x _ => mono x
      simp; omega
    · have := ih e
      by_cases q : Tm.lt u a = true
      · rw [q, mono u q]; simp; omega
      · simp at q; rw [q]
        by_cases z : Tm.lt u b = true <;> simp [z] <;> omega
theorem rk_inj {ts : List Tm} {a b : Tm} (ha : a ∈ ts) (hb : b ∈ ts) (h : rk ts a = rk ts b) : a = b := by
  by_cases e : a = b
  · exact e
  · rcases Tm.lt_tri e with q | q
    · have := rk_lt ha q; omega
    · have := rk_lt hb q; omega
theorem rk_iff {ts : List Tm} {a b : Tm} (ha : a ∈ ts) (hb : b ∈ ts) : (rk ts a < rk ts b) ↔ Tm.lt a b = true := by
  constructor
  · intro h
    have e : a ≠ b := fun q => by rw [q] at h; exact Nat.lt_irrefl _ h
    rcases Tm.lt_tri e with q | q
    · exact q
    · have := rk_lt hb q; omega
  · exact rk_lt ha
theorem rk_bound {ts : List Tm} {a : Tm} (ha : a ∈ ts) : rk ts a < ts.length := by
  unfold rk
  have h : ts.countP (fun u => Tm.lt u a) ≠ ts.length := fun h => by
    have := List.countP_eq_length.mp h a ha
    rw [Tm.lt_irr] at this; cases this
  have := List.countP_le_length (p := fun u => Tm.lt u a) (l := ts)
  omega
end N0

namespace N0
open PySem L2

/-! ### terms by their lines -/
def put (ts : List Tm) (t : Tm) : List Tm := if t ∈ ts then ts else ts ++ [t]
def addP (ts : List Tm) : Tm → List Tm
  | .not a => put (addP ts a) (.not a)
  | .and a b => put (addP (addP ts a) b) (.and a b)
  | .or a b => put (addP (addP ts a) b) (.or a b)
  | t => put ts t
namespace Tm
def subs : Tm → List Tm
  | .not a => subs a ++ [.not a]
  | .and a b => subs a ++ subs b ++ [.and a b]
  | .or a b => subs a ++ subs b ++ [.or a b]
  | t => [t]
theorem self_subs (t : Tm) : t ∈ t.subs := by cases t <;> simp [subs]
end Tm
theorem put_mem {ts : List Tm} {t x : Tm} : x ∈ put ts t ↔ x ∈ ts ∨ x = t := by
  unfold put; split
  · exact ⟨.inl, fun h => h.elim id fun e => e ▸ ‹_›⟩
  · simp
theorem put_nodup {ts : List Tm} {t : Tm} (h : ts.Nodup) : (put ts t).Nodup := by
  unfold put; split
  · exact h
  · rw [List.nodup_append]
    refine ⟨h, by simp, fun a ha b hb e => ?_⟩
    simp at hb; subst hb; subst e; contradiction
theorem put_pre {ts : List Tm} {t : Tm} : ∃ r, put ts t = ts ++ r := by
  unfold put; split
  · exact ⟨[], by simp⟩
  · exact ⟨_, rfl⟩
theorem put_len {ts : List Tm} {t : Tm} : (put ts t).length ≤ ts.length + 1 := by
  unfold put; split <;> simp
theorem addP_pre : ∀ (t : Tm) (ts : List Tm), ∃ r, addP ts t = ts ++ r := by
  intro t
  induction t with
  | yes => intro ts; exact put_pre
  | no => intro ts; exact put_pre
  | letter s => intro ts; exact put_pre
  | not a ih =>
    intro ts
    obtain ⟨r, e⟩ := ih ts
    obtain ⟨r', e'⟩ := put_pre (ts := addP ts a) (t := .not a)
    exact ⟨r ++ r', by show put (addP ts a) _ = _; rw [e', e, List.append_assoc]⟩
  | and a b iha ihb =>
    intro ts
    obtain ⟨r, e⟩ := iha ts
    obtain ⟨r1, e1⟩ := ihb (addP ts a)
    obtain ⟨r', e'⟩ := put_pre (ts := addP (addP ts a) b) (t := .and a b)
    exact ⟨r ++ r1 ++ r', by show put _ _ = _; rw [e', e1, e]; simp⟩
  | or a b iha ihb =>
    intro ts
    obtain ⟨r, e⟩ := iha ts
    obtain ⟨r1, e1⟩ := ihb (addP ts a)
    obtain ⟨r', e'⟩ := put_pre (ts := addP (addP ts a) b) (t := .or a b)
    exact ⟨r ++ r1 ++ r', by show put _ _ = _; rw [e', e1, e]; simp⟩
theorem addP_mem : ∀ (t : Tm) (ts : List Tm) (x : Tm), x ∈ addP ts t ↔ x ∈ ts ∨ x ∈ t.subs := by
  intro t
  induction t with
  | yes => intro ts x; show x ∈ put ts _ ↔ _; rw [put_mem]; simp [Tm.subs]
  | no => intro ts x; show x ∈ put ts _ ↔ _; rw [put_mem]; simp [Tm.subs]
  | letter s => intro ts x; show x ∈ put ts _ ↔ _; rw [put_mem]; simp [Tm.subs]
  | not a ih => intro ts x; show x ∈ put _ _ ↔ _; rw [put_mem, ih]; simp [Tm.subs, or_assoc]
  | and a b iha ihb => intro ts x; show x ∈ put _ _ ↔ _; rw [put_mem, ihb, iha]; simp [Tm.subs, or_assoc]
  | or a b iha ihb => intro ts x; show x ∈ put _ _ ↔ _; rw [put_mem, ihb, iha]; simp [Tm.subs, or_assoc]
theorem addP_self (t : Tm) (ts : List Tm) : t ∈ addP ts t := (addP_mem t ts t).mpr (.inr t.self_subs)
theorem addP_nodup : ∀ (t : Tm) {ts : List Tm}, ts.Nodup → (addP ts t).Nodup := by
  intro t
  induction t with
  | yes => intro ts h; exact put_nodup h
  | no => intro ts h; exact put_nodup h
  | letter s => intro ts h; exact put_nodup h
  | not a ih => intro ts h; exact put_nodup (ih h)
  | and a b iha ihb => intro ts h; exact put_nodup (ihb (iha h))
  | or a b iha ihb => intro ts h; exact put_nodup (ihb (iha h))
theorem addP_len : ∀ (t : Tm) (ts : List Tm), (addP ts t).length ≤ ts.length + t.size := by
  intro t
  induction t with
  | yes => intro ts; exact put_len
  | no => intro ts; exact put_len
  | letter s => intro ts; exact put_len
  | not a ih => intro ts; have := ih ts; have := put_len (ts := addP ts a) (t := .not a); show (put _ _).length ≤ _; simp only [Tm.size]; omega
  | and a b iha ihb => intro ts; have := iha ts; have := ihb (addP ts a); have := put_len (ts := addP (addP ts a) b) (t := .and a b); show (put _ _).length ≤ _; simp only [Tm.size]; omega
  | or a b iha ihb => intro ts; have := iha ts; have := ihb (addP ts a); have := put_len (ts := addP (addP ts a) b) (t := .or a b); show (put _ _).length ≤ _; simp only [Tm.size]; omega
/-- kids stand ahead -/
def Cl (ts : List Tm) : Prop := ∀ (i : Nat) (t : Tm), ts[i]? = some t → ∀ k ∈ t.kids, ∃ j : Nat, j < i ∧ ts[j]? = some k
theorem Cl.nil : Cl [] := fun i t h => by simp at h
theorem put_cl {ts : List Tm} {t : Tm} (h : Cl ts) (hk : ∀ k ∈ t.kids, k ∈ ts) : Cl (put ts t) := by
  unfold put; split
  · exact h
  · intro i u hu k hk'
    by_cases hi : i < ts.length
    · rw [List.getElem?_append_left hi] at hu
      obtain ⟨j, h1, h2⟩ := h i u hu k hk'
      exact ⟨j, h1, by rw [List.getElem?_append_left (by omega)]; exact h2⟩
    · have hi2 : i < (ts ++ [t]).length := (List.getElem?_eq_some_iff.mp hu).1
      simp at hi2
      have e : i = ts.length := by omega
      subst e
      rw [List.getElem?_append_right (Nat.le_refl _)] at hu
      simp at hu; subst hu
      obtain ⟨j, hj, e⟩ := List.getElem_of_mem (hk k hk')
      exact ⟨j, hj, by rw [List.getElem?_append_left hj, List.getElem?_eq_getElem hj, e]⟩
theorem addP_cl : ∀ (t : Tm) {ts : List Tm}, Cl ts → Cl (addP ts t) := by
  intro t
  induction t with
  | yes => intro ts h; exact put_cl h (by simp [Tm.kids])
  | no => intro ts h; exact put_cl h (by simp [Tm.kids])
  | letter s => intro ts h; exact put_cl h (by simp [Tm.kids])
  | not a ih => intro ts h; exact put_cl (ih h) (by simp [Tm.kids]; exact addP_self _ _)
  | and a b iha ihb =>
    intro ts h
    refine put_cl (ihb (iha h)) ?_
    simp only [Tm.kids, List.mem_cons, List.not_mem_nil, or_false]
    rintro k (rfl | rfl)
    · exact (addP_mem _ _ _).mpr (.inl (addP_self _ _))
    · exact addP_self _ _
  | or a b iha ihb =>
    intro ts h
    refine put_cl (ihb (iha h)) ?_
    simp only [Tm.kids, List.mem_cons, List.not_mem_nil, or_false]
    rintro k (rfl | rfl)
    · exact (addP_mem _ _ _).mpr (.inl (addP_self _ _))
    · exact addP_self _ _
/-- the place of a term -/
def ix (ts : List Tm) (t : Tm) : Nat := ts.idxOf t
theorem ix_lt {ts : List Tm} {t : Tm} (h : t ∈ ts) : ix ts t < ts.length := List.idxOf_lt_length_of_mem h
theorem ix_get {ts : List Tm} {t : Tm} (h : t ∈ ts) : ts[ix ts t]? = some t := by
  rw [List.getElem?_eq_getElem (ix_lt h)]; exact congrArg some (List.getElem_idxOf (ix_lt h))
theorem ix_of {ts : List Tm} {t : Tm} {i : Nat} (hn : ts.Nodup) (h : ts[i]? = some t) : ix ts t = i := by
  obtain ⟨hi, e⟩ := List.getElem?_eq_some_iff.mp h
  subst e
  exact hn.idxOf_getElem i hi
theorem ix_app {ts r : List Tm} {t : Tm} (h : t ∈ ts) : ix (ts ++ r) t = ix ts t := by
  unfold ix; rw [List.idxOf_append, if_pos h]
theorem ix_new {ts : List Tm} {t : Tm} (h : t ∉ ts) : ix (ts ++ [t]) t = ts.length := by
  unfold ix; rw [List.idxOf_append, if_neg h]; simp
theorem put_ix {ts : List Tm} {t u : Tm} (h : u ∈ ts) : ix (put ts t) u = ix ts u := by
  obtain ⟨r, e⟩ := put_pre (ts := ts) (t := t); rw [e]; exact ix_app h
theorem addP_ix {ts : List Tm} {t u : Tm} (h : u ∈ ts) : ix (addP ts t) u = ix ts u := by
  obtain ⟨r, e⟩ := addP_pre t ts; rw [e]; exact ix_app h

/-! ### a cut of the sorted rows -/
def Cut (k : Nat → Nat) (J : List Nat) (b : Nat) : Prop := ∀ p q i j, p < b → b ≤ q → J[p]? = some i → J[q]? = some j → k i < k j
def lt3 (k : Nat → Nat) (i j : Nat) : Prop := k i < k j ∨ (k i = k j ∧ i < j)
theorem Cut.zero {k : Nat → Nat} {J : List Nat} : Cut k J 0 := fun p q i j h => absurd h (Nat.not_lt_zero p)
theorem Cut.next {k : Nat → Nat} {J : List Nat} {b e : Nat} (hJ : J.Pairwise (lt3 k)) (c : Cut k J b) (hbe : b < e) (hg : ∀ p i j, b ≤ p → p < e → J[p]? = some i → J[b]? = some j → k i = k j)
    (he : ∀ i j, J[e]? = some i → J[b]? = some j → k i ≠ k j) : Cut k J e := by
  intro p q i j hp hq hi hj
  have hlen : q < J.length := (List.getElem?_eq_some_iff.mp hj).1
  obtain ⟨ib, hib⟩ : ∃ x, J[b]? = some x := ⟨J[b], List.getElem?_eq_getElem (by omega)⟩
  obtain ⟨ie, hie⟩ : ∃ x, J[e]? = some x := ⟨J[e], List.getElem?_eq_getElem (by omega)⟩
  have pw : ∀ {x y i j : Nat}, x < y → J[x]? = some i → J[y]? = some j → lt3 k i j := by
    intro x y i j hxy h1 h2
    obtain ⟨l1, e1⟩ := List.getElem?_eq_some_iff.mp h1
    obtain ⟨l2, e2⟩ := List.getElem?_eq_some_iff.mp h2
    have := (List.pairwise_iff_getElem.mp hJ) x y l1 l2 hxy
    rw [e1, e2] at this; exact this
  have b_e : k ib < k ie := by
    rcases pw hbe hib hie with h | h
    · exact h
    · exact absurd h.1.symm (he ie ib hie hib)
  have e_q : k ie ≤ k j := by
    by_cases h : e = q
    · subst h; rw [hie] at hj; cases hj; exact Nat.le_refl _
    · rcases pw (show e < q by omega) hie hj with h | h
      · omega
      · omega
  have p_b : k i ≤ k ib := by
    by_cases h : p < b
    · exact Nat.le_of_lt (c p b i ib h (Nat.le_refl _) hi hib)
    · exact Nat.le_of_eq (hg p i ib (by omega) hp hi hib)
  omega
theorem rk_group {ts : List Tm} {J O : List Nat} {b e q i : Nat} (hp : J.Perm (List.range ts.length)) (c1 : Cut (fun i => (ts.getD i .yes).k2) J b) (c2 : Cut (fun i => (ts.getD i .yes).k2) J e) (hbe : b ≤ e) (hel : e ≤ J.length)
    (hO : O.Perm ((J.drop b).take (e - b))) (hs : O.Pairwise fun i j => Tm.lt (ts.getD i .yes) (ts.getD j .yes) = true) (hi : O[q]? = some i) : rk ts (ts.getD i .yes) = b + q := by
  have h0 : ts = (List.range ts.length).map fun j => ts.getD j .yes := by
    apply List.ext_getElem (by simp)
    intro j h1 h2
    simp [List.getD_eq_getElem?_getD, List.getElem?_eq_getElem h1]
  have h1' : ∀ t0 : Tm, ts.countP (fun u => Tm.lt u t0) = J.countP fun j => Tm.lt (ts.getD j .yes) t0 := by
    intro t0
    conv => lhs; rw [h0]
    rw [List.countP_map, hp.countP_eq]
    rfl
  have h1 : rk ts (ts.getD i .yes) = J.countP fun j => Tm.lt (ts.getD j .yes) (ts.getD i .yes) := h1' _
  have hJ : J = J.take b ++ ((J.drop b).take (e - b) ++ J.drop e) := by
    have : J.drop e = (J.drop b).drop (e - b) := by rw [List.drop_drop]; congr 1; omega
    rw [this, List.take_append_drop, List.take_append_drop]
  have hiG : i ∈ (J.drop b).take (e - b) := hO.mem_iff.mp (List.mem_of_getElem? hi)
  obtain ⟨g, hg⟩ : ∃ g : Nat, b ≤ g ∧ g < e ∧ J[g]? = some i := by
    obtain ⟨x, hx, ex⟩ := List.getElem_of_mem hiG
    rw [List.getElem_take, List.getElem_drop] at ex
    rw [List.length_take, List.length_drop] at hx
    exact ⟨b + x, by omega, by omega, by rw [List.getElem?_eq_getElem (by omega), ex]⟩
  rw [h1]
  conv => lhs; rw [hJ]
  rw [List.countP_append, List.countP_append]
  have n1 : (J.take b).countP (fun j => Tm.lt (ts.getD j .yes) (ts.getD i .yes)) = b := by
    have hl : (J.take b).length = b := by rw [List.length_take]; omega
    refine Eq.trans (List.countP_eq_length.mpr fun j hj => ?_) hl
    obtain ⟨x, hx, ex⟩ := List.getElem_of_mem hj
    rw [List.getElem_take] at ex
    rw [List.length_take] at hx
    exact Tm.lt_k2 (c1 x g j i (by omega) hg.1 (by rw [List.getElem?_eq_getElem (by omega), ex]) hg.2.2)
  have n3 : (J.drop e).countP (fun j => Tm.lt (ts.getD j .yes) (ts.getD i .yes)) = 0 := by
    refine List.countP_eq_zero.mpr fun j hj => ?_
    obtain ⟨x, hx, ex⟩ := List.getElem_of_mem hj
    rw [List.getElem_drop] at ex
    rw [List.length_drop] at hx
    have := c2 g (e + x) i j hg.2.1 (by omega) hg.2.2 (by rw [List.getElem?_eq_getElem (by omega), ex])
    rw [Tm.lt_asym (Tm.lt_k2 this)]; simp
  have n2 : ((J.drop b).take (e - b)).countP (fun j => Tm.lt (ts.getD j .yes) (ts.getD i .yes)) = q := by
    rw [← hO.countP_eq]
    exact countP_sorted (r := fun i j => Tm.lt (ts.getD i .yes) (ts.getD j .yes)) (fun a => Tm.lt_irr _) (fun a b h => Tm.lt_asym h) hs hi
  rw [n1, n2, n3]; omega

/-! ### the law's own order -/
def ins (S : List Tm) (x : Tm) : List Tm := S.take (S.countP fun u => Tm.lt u x) ++ [x] ++ S.drop (S.countP fun u => Tm.lt u x)
def Inc (S : List Tm) : Prop := S.Pairwise fun a b => Tm.lt a b = true
theorem inc_prefix : ∀ {S : List Tm} {x : Tm}, Inc S → (∀ u ∈ S.take (S.countP fun u => Tm.lt u x), Tm.lt u x = true) ∧ (∀ u ∈ S.drop (S.countP fun u => Tm.lt u x), Tm.lt u x = false)
  | [], x, _ => ⟨by simp, by simp⟩
  | a :: S, x, h => by
    have h' := List.pairwise_cons.mp h
    have ih := inc_prefix (S := S) (x := x) h'.2
    by_cases e : Tm.lt a x = true
    · rw [List.countP_cons, e]
      simp only [if_true]
      refine ⟨fun u hu => ?_, fun u hu => ih.2 u (by simpa using hu)⟩
      rw [List.take_succ_cons] at hu
      rcases List.mem_cons.mp hu with rfl | q
      · exact e
      · exact ih.1 u q
    · have hz : ∀ u ∈ a :: S, Tm.lt u x = false := by
        intro u hu
        cases hq : Tm.lt u x with
        | false => rfl
        | true =>
          rcases List.mem_cons.mp hu with rfl | q
          · exact absurd hq e
          · exact absurd (Tm.lt_trans (h'.1 u q) hq) e
      have : (a :: S).countP (fun u => Tm.lt u x) = 0 := List.countP_eq_zero.mpr fun u hu => by rw [hz u hu]; simp
      rw [this]
      exact ⟨by simp, fun u hu => hz u (by simpa using hu)⟩
theorem ins_inc {S : List Tm} {x : Tm} (h : Inc S) (hx : x ∉ S) : Inc (ins S x) := by
  obtain ⟨h1, h2⟩ := inc_prefix (x := x) h
  unfold ins Inc
  generalize S.countP (fun u => Tm.lt u x) = k at h1 h2 ⊢
  have hd : ∀ u ∈ S.drop k, Tm.lt x u = true := fun u hu => by
    have hn : x ≠ u := fun e => hx (e ▸ List.mem_of_mem_drop hu)
    rcases Tm.lt_tri hn with q | q
    · exact q
    · rw [h2 u hu] at q; cases q
  rw [List.append_assoc, List.pairwise_append]
  refine ⟨List.Pairwise.sublist (List.take_sublist ..) h, ?_, fun a ha b hb => ?_⟩
  · rw [List.singleton_append, List.pairwise_cons]
    exact ⟨hd, List.Pairwise.sublist (List.drop_sublist ..) h⟩
  · rw [List.singleton_append] at hb
    rcases List.mem_cons.mp hb with rfl | q
    · exact h1 a ha
    · exact Tm.lt_trans (h1 a ha) (hd b q)
theorem ins_mem {S : List Tm} {x u : Tm} : u ∈ ins S x ↔ u ∈ S ∨ u = x := by
  unfold ins
  generalize S.countP (fun u => Tm.lt u x) = k
  conv => rhs; rw [← List.take_append_drop k S]
  simp only [List.mem_append, List.mem_singleton]
  constructor
  · rintro ((h | h) | h)
    · exact .inl (.inl h)
    · exact .inr h
    · exact .inl (.inr h)
  · rintro ((h | h) | h)
    · exact .inl (.inl h)
    · exact .inr h
    · exact .inl (.inr h)
theorem ins_len {S : List Tm} {x : Tm} : (ins S x).length = S.length + 1 := by
  unfold ins
  rw [List.length_append, List.length_append, List.length_take, List.length_drop, List.length_singleton]
  have := List.countP_le_length (p := fun u => Tm.lt u x) (l := S)
  omega
def ord (l : List Tm) : List Tm := l.foldl ins []
theorem ord_snoc (l : List Tm) (x : Tm) : ord (l ++ [x]) = ins (ord l) x := by unfold ord; rw [List.foldl_append]; rfl
theorem ord_mem : ∀ (l : List Tm) (S : List Tm) (u : Tm), u ∈ l.foldl ins S ↔ u ∈ S ∨ u ∈ l
  | [], S, u => by simp
  | x :: l, S, u => by rw [List.foldl_cons, ord_mem l, ins_mem, List.mem_cons, or_assoc]
theorem ord_inc : ∀ (l : List Tm) (S : List Tm), Inc S → (∀ u ∈ l, u ∉ S) → l.Nodup → Inc (l.foldl ins S)
  | [], S, h, _, _ => h
  | x :: l, S, h, hd, hn => by
    rw [List.nodup_cons] at hn
    rw [List.foldl_cons]
    refine ord_inc l _ (ins_inc h (hd x (List.mem_cons_self ..))) (fun u hu => ?_) hn.2
    rw [ins_mem]
    rintro (q | q)
    · exact hd u (List.mem_cons_of_mem _ hu) q
    · exact hn.1 (q ▸ hu)
theorem Inc.nodup {S : List Tm} (h : Inc S) : S.Nodup := List.Pairwise.imp (fun q e => by subst e; rw [Tm.lt_irr] at q; cases q) h
theorem inc_ext {S R : List Tm} (h1 : Inc S) (h2 : Inc R) (h : ∀ u, u ∈ S ↔ u ∈ R) : S = R := by
  have hp : S.Perm R := (List.perm_ext_iff_of_nodup h1.nodup h2.nodup).mpr h
  exact hp.eq_of_pairwise (fun a b _ _ q r => by have := Tm.lt_asym q; rw [r] at this; cases this) h1 h2
/-- in a sorted list the place is the number of lesser ones -/
theorem inc_rk {S ts : List Tm} (h : Inc S) (hm : S.Perm ts) {k : Nat} {x : Tm} (hx : S[k]? = some x) : rk ts x = k := by
  unfold rk
  rw [← hm.countP_eq]
  exact countP_sorted (r := Tm.lt) Tm.lt_irr (fun a b h => Tm.lt_asym h) h hx
end N0

namespace N0
open PySem L2 PySem.Spec PyProof.Rows

/-! ### what is kept -/
structure Kp (S : List Addr) (H H' : Hp) : Prop where
  k : ∀ b o, b ∉ S → H b = some o → H' b = some o
  t : ∀ b xs, H b = some (.tup xs) → H' b = some (.tup xs)
  n : ∀ b, H' b = none → H b = none
namespace Kp
variable {S S' : List Addr} {H H1 H2 : Hp} {p l : Addr} {o u : HO}
theorem refl (S : List Addr) (H : Hp) : Kp S H H := ⟨fun _ _ _ h => h, fun _ _ h => h, fun _ h => h⟩
theorem trans (a : Kp S H H1) (b : Kp S H1 H2) : Kp S H H2 := ⟨fun c o hc h => b.k c o hc (a.k c o hc h), fun c xs h => b.t c xs (a.t c xs h), fun c h => a.n c (b.n c h)⟩
theorem mono (a : Kp S H H1) (h : ∀ x ∈ S, x ∈ S') : Kp S' H H1 := ⟨fun c o hc => a.k c o fun q => hc (h c q), a.t, a.n⟩
theorem mono0 (a : Kp [] H H1) : Kp S H H1 := a.mono fun x q => by cases q
theorem same (a : Kp [] H H1) : Same H H1 := fun b o h => a.k b o (by simp) h
theorem add (a : Kp S H H1) (hp : H1 p = none) : Kp S H (upd H1 p o) :=
  ⟨fun b v hb h => by have q := a.k b v hb h; rw [upd_ne (ne_of_none q hp)]; exact q, fun b xs h => by have q := a.t b xs h; rw [upd_ne (ne_of_none q hp)]; exact q,
   fun b h => by
    by_cases e : b = p
    · subst e; rw [upd_same] at h; cases h
    · rw [upd_ne e] at h; exact a.n b h⟩
theorem new (hp : H p = none) : Kp S H (upd H p o) := (refl S H).add hp
/-- a store to an object that is new since H -/
theorem put (a : Kp S H H1) (hl : H l = none) : Kp S H (upd H1 l o) :=
  ⟨fun b v hb h => by rw [upd_ne (ne_of_none h hl)]; exact a.k b v hb h, fun b xs h => by rw [upd_ne (ne_of_none h hl)]; exact a.t b xs h,
   fun b h => by
    by_cases e : b = l
    · subst e; exact hl
    · rw [upd_ne e] at h; exact a.n b h⟩
/-- a store to an object of S -/
theorem wr (a : Kp S H H1) (hl : l ∈ S) (hu : H1 l = some u) (nt : ∀ xs, u ≠ .tup xs) : Kp S H (upd H1 l o) :=
  ⟨fun b v hb h => by
    have e : b ≠ l := fun q => hb (q ▸ hl)
    rw [upd_ne e]; exact a.k b v hb h,
   fun b xs h => by
    have q := a.t b xs h
    have e : b ≠ l := fun z => by subst z; rw [hu] at q; cases q; exact nt xs rfl
    rw [upd_ne e]; exact q,
   fun b h => by
    by_cases e : b = l
    · subst e; rw [upd_same] at h; cases h
    · rw [upd_ne e] at h; exact a.n b h⟩
end Kp

/-! ### the built-ins' names, the constants of the top -/
structure Txt (K : PySem.W.Frag) (mg : Str → Option Value) : Prop where
  isinstance : mg "isinstance" = none
  len : mg "len" = none
  str : mg "str" = none
  tuple : mg "tuple" = none
  list : mg "list" = none
  int : mg "int" = none
  bool : mg "bool" = none
  all : mg "all" = none
  range : mg "range" = none
  max : mg "max" = none
  min : mg "min" = none
  sum : mg "sum" = none
  sorted : mg "sorted" = none
  enumerate : mg "enumerate" = none
  zip : mg "zip" = none
  MOST_NAME : ∃ u, mg "MOST_NAME" = some u ∧ RelV (.int 8) u
  MOST_DEEP : ∃ u, mg "MOST_DEEP" = some u ∧ RelV (.int 40) u
  MOST_SIZE : ∃ u, mg "MOST_SIZE" = some u ∧ RelV (.int 2000) u
  MOST_KEPT : ∃ u, mg "MOST_KEPT" = some u ∧ RelV (.int 1000000) u
  SMALL_LETTERS : ∃ u, mg "SMALL_LETTERS" = some u ∧ RelV (.str "abcdefghijklmnopqrstuvwxyz") u
  WORDS : ∃ a : Addr, mg "WORDS" = some (.ref a) ∧ ∀ H, SqT K H a [.str "and", .str "or", .str "not", .str "yes", .str "no"]
  KINDS : ∃ a : Addr, mg "KINDS" = some (.ref a) ∧ (∀ H, SqT K H a ([("yes" : Str), "no", "letter", "not", "and", "or"].map V.str)) ∧ ∃ o : Obj, K.lookup a = some o ∧ o.cls = .type "tuple" ∧ o.dict = none

section
variable {X : Cx} {e e1 : Expr} {es : List Expr} {pos p : Pos} {t t1 : TE} {ta : TA}
variable {es' : List Expr}
theorem e_len (T : Txt X.K X.mg) (h : PA X (e :: es) ta) (hg : Gl X "len" := by rfl) (he : starEach (e :: es) X.env = (false, eval e X.env) :: starEach es X.env := by rfl) (hpl : (backTo pos (starEach es X.env)).any (·.1) = false := by rfl) : PE X (.Call (.Name "len" p) (e :: es) [] pos) (tCB (fun xs H Q => ∃ p ys, xs = [.ref p] ∧ (SqL X.K H p ys ∨ SqT X.K H p ys) ∧ Q (.int ys.length) H) ta) :=
  pe_callB call_len_seq hg T.len PySem.boot_len h (he := he) (hpl := hpl)
theorem e_lenS (T : Txt X.K X.mg) (h : PA X (e :: es) ta) (hg : Gl X "len" := by rfl) (he : starEach (e :: es) X.env = (false, eval e X.env) :: starEach es X.env := by rfl) (hpl : (backTo pos (starEach es X.env)).any (·.1) = false := by rfl) : PE X (.Call (.Name "len" p) (e :: es) [] pos) (tCB (fun xs H Q => ∃ z, xs = [.str z] ∧ z.length ≤ sizeLine ∧ Q (.int z.length) H) ta) :=
  pe_callB call_len_str hg T.len PySem.boot_len h (he := he) (hpl := hpl)
theorem e_isi (T : Txt X.K X.mg) (h : PA X (e :: es) ta) (hg : Gl X "isinstance" := by rfl) (he : starEach (e :: es) X.env = (false, eval e X.env) :: starEach es X.env := by rfl) (hpl : (backTo pos (starEach es X.env)).any (·.1) = false := by rfl) :
    PE X (.Call (.Name "isinstance" p) (e :: es) [] pos) (tCB (rIsi X.K) ta) :=
  pe_callB call_isi hg T.isinstance (by decide +kernel) h (he := he) (hpl := hpl)
theorem e_ty {x : Str} {n : String} (hm : X.mg x = none) (hv : bootBuiltins x = some (.type n)) (hg : Gl X x := by rfl) (hn : x ≠ "__name__" := by decide) (hd : (x == ("__debug__" : Str)) = false := by decide) : PE X (.Name x pos) (tC (.ty n)) :=
  pe_bltn hg hm hv rfl hn hd
theorem e_const {x : Str} {v : V} (h : ∃ u, X.mg x = some u ∧ RelV v u) (hg : Gl X x := by rfl) (hd : (x == ("__debug__" : Str)) = false := by decide) : PE X (.Name x pos) (tC v) := by
  obtain ⟨u, h1, h2⟩ := h
  exact pe_glob hg h1 h2 hd
/-- a written tuple of the top: any value that is a tuple of these -/
theorem e_ktup {x : Str} {xs : List V} (h : ∃ a : Addr, X.mg x = some (.ref a) ∧ ∀ H, SqT X.K H a xs) (hg : Gl X x := by rfl) (hd : (x == ("__debug__" : Str)) = false := by decide) :
    PE X (.Name x pos) (fun _ H Q => ∀ a, SqT X.K H a xs → Q (.ref a) H) := by
  obtain ⟨a, h1, h2⟩ := h
  have q : PE X (.Name x pos) (tC (.ref a)) := pe_glob hg h1 (v := .ref a) rfl hd
  exact ⟨fun pins s σ H Q I h => q.run pins s σ H Q I (h a (h2 H))⟩
/-- a def of the text that keeps its promise -/
structure Def (P : Program) (w : World) (K : PySem.W.Frag) (mg : Str → Option Value) (base : Heap) (x : Str) (k : Nat) (ps : List Str) (sp : Sp) : Prop where
  ex : ∃ (f : Addr) (fd : FuncData), FnOk P w K mg base CX0 k f fd ps sp ∧ mg x = some (.ref f) ∧ PySem.W.keepIn K (.ref f) = true ∧ Binds K fd ps []
theorem e_fn {x : Str} {k : Nat} {ps : List Str} {sp : Sp} (D : Def X.prog X.w X.K X.mg X.base x k ps sp) (hr : Room k X.A) (ha : PA X (e :: es) ta) (hg : Gl X x := by rfl) (hd : (x == ("__debug__" : Str)) = false := by decide)
    (he : starEach (e :: es) X.env = (false, eval e X.env) :: starEach es X.env := by rfl) (hpl : (backTo pos (starEach es X.env)).any (·.1) = false := by rfl) : PE X (.Call (.Name x p) (e :: es) [] pos) (tCall sp [] E0 ta) := by
  obtain ⟨f, fd, F, hm, hk, hb⟩ := D.ex
  exact pe_call F hr hg hm hk hb .nil pass0 ha hd he hpl
end

/-! ### data -/
def tyD : PyData → String
  | .none => "NoneType" | .bool _ => "bool" | .int _ => "int" | .str _ => "str" | .list _ => "list" | .tuple _ => "tuple" | .dict _ => "dict"
def isTupD : PyData → Bool | .tuple _ => true | _ => false
def isStrD : PyData → Bool | .str _ => true | _ => false
def isLstD : PyData → Bool | .list _ => true | _ => false
def isBoolD : PyData → Bool | .bool _ => true | _ => false
def isIntD : PyData → Bool | .bool _ => true | .int _ => true | _ => false
theorem kit_tuple : ∀ d : PyData, kitB (tyD d) "tuple" = some (isTupD d)
  | .none => (show kitB "NoneType" "tuple" = some false by decide +kernel)
  | .bool _ => (show kitB "bool" "tuple" = some false by decide +kernel)
  | .int _ => (show kitB "int" "tuple" = some false by decide +kernel)
  | .str _ => (show kitB "str" "tuple" = some false by decide +kernel)
  | .list _ => (show kitB "list" "tuple" = some false by decide +kernel)
  | .tuple _ => (show kitB "tuple" "tuple" = some true by decide +kernel)
  | .dict _ => (show kitB "dict" "tuple" = some false by decide +kernel)
theorem kit_str : ∀ d : PyData, kitB (tyD d) "str" = some (isStrD d)
  | .none => (show kitB "NoneType" "str" = some false by decide +kernel)
  | .bool _ => (show kitB "bool" "str" = some false by decide +kernel)
  | .int _ => (show kitB "int" "str" = some false by decide +kernel)
  | .str _ => (show kitB "str" "str" = some true by decide +kernel)
  | .list _ => (show kitB "list" "str" = some false by decide +kernel)
  | .tuple _ => (show kitB "tuple" "str" = some false by decide +kernel)
  | .dict _ => (show kitB "dict" "str" = some false by decide +kernel)
theorem kit_list : ∀ d : PyData, kitB (tyD d) "list" = some (isLstD d)
  | .none => (show kitB "NoneType" "list" = some false by decide +kernel)
  | .bool _ => (show kitB "bool" "list" = some false by decide +kernel)
  | .int _ => (show kitB "int" "list" = some false by decide +kernel)
  | .str _ => (show kitB "str" "list" = some false by decide +kernel)
  | .list _ => (show kitB "list" "list" = some true by decide +kernel)
  | .tuple _ => (show kitB "tuple" "list" = some false by decide +kernel)
  | .dict _ => (show kitB "dict" "list" = some false by decide +kernel)
theorem kit_bool : ∀ d : PyData, kitB (tyD d) "bool" = some (isBoolD d)
  | .none => (show kitB "NoneType" "bool" = some false by decide +kernel)
  | .bool _ => (show kitB "bool" "bool" = some true by decide +kernel)
  | .int _ => (show kitB "int" "bool" = some false by decide +kernel)
  | .str _ => (show kitB "str" "bool" = some false by decide +kernel)
  | .list _ => (show kitB "list" "bool" = some false by decide +kernel)
  | .tuple _ => (show kitB "tuple" "bool" = some false by decide +kernel)
  | .dict _ => (show kitB "dict" "bool" = some false by decide +kernel)
theorem kit_int : ∀ d : PyData, kitB (tyD d) "int" = some (isIntD d)
  | .none => (show kitB "NoneType" "int" = some false by decide +kernel)
  | .bool _ => (show kitB "bool" "int" = some true by decide +kernel)
  | .int _ => (show kitB "int" "int" = some true by decide +kernel)
  | .str _ => (show kitB "str" "int" = some false by decide +kernel)
  | .list _ => (show kitB "list" "int" = some false by decide +kernel)
  | .tuple _ => (show kitB "tuple" "int" = some false by decide +kernel)
  | .dict _ => (show kitB "dict" "int" = some false by decide +kernel)
theorem Dp.ty {K : PySem.W.Frag} {H : Hp} {v : V} {d : PyData} (h : Dp K H v d) : TyX K H v (.type (tyD d)) := by
  cases h with
  | non => exact .base .non
  | bl b => exact .base (.bl b)
  | int i => exact .base (.int i)
  | str x => exact .base (.str x)
  | lst hs _ =>
    rcases hs with (h | ⟨o, h⟩) | ⟨o, its, n, h1, h2, _⟩
    · exact .base (.lst h)
    · exact .base (.frz h)
    · exact .kList h1 h2
  | tup hs _ =>
    rcases hs with (h | ⟨o, h⟩) | ⟨o, its, n, h1, h2, _⟩
    · exact .base (.tup h)
    · exact .fTuple h
    · exact .kTuple h1 h2
theorem SqT.kp {K : PySem.W.Frag} {H H' : Hp} {a : Addr} {xs : List V} (e : Kp [] H H') (h : SqT K H a xs) : SqT K H' a xs := by
  rcases h with (h | ⟨o, h⟩) | h
  · exact .inl (.inl (e.same _ _ h))
  · exact .inl (.inr ⟨o, e.same _ _ h⟩)
  · exact .inr h
mutual
theorem Dp.kp {K : PySem.W.Frag} {H H' : Hp} (e : Kp [] H H') : ∀ {v : V} {d : PyData}, Dp K H v d → Dp K H' v d
  | _, _, .non => .non
  | _, _, .bl b => .bl b
  | _, _, .int i => .int i
  | _, _, .str x => .str x
  | _, _, .lst hs ha => .lst (e.same.seq hs) (DpAll.kp e ha)
  | _, _, .tup hs ha => .tup (N0.SqT.kp e hs) (DpAll.kp e ha)
theorem DpAll.kp {K : PySem.W.Frag} {H H' : Hp} (e : Kp [] H H') : ∀ {vs : List V} {ds : List PyData}, DpAll K H vs ds → DpAll K H' vs ds
  | _, _, .nil => .nil
  | _, _, .cons h t => .cons (Dp.kp e h) (DpAll.kp e t)
end
theorem bt_str : bootBuiltins "str" = some (.type "str") := by decide +kernel
theorem bt_tuple : bootBuiltins "tuple" = some (.type "tuple") := by decide +kernel
theorem bt_list : bootBuiltins "list" = some (.type "list") := by decide +kernel
theorem bt_int : bootBuiltins "int" = some (.type "int") := by decide +kernel
theorem bt_bool : bootBuiltins "bool" = some (.type "bool") := by decide +kernel
theorem bt_all : bootBuiltins "all" = some (.builtin "all") := by decide +kernel
theorem bt_max : bootBuiltins "max" = some (.builtin "max") := by decide +kernel
theorem bt_min : bootBuiltins "min" = some (.builtin "min") := by decide +kernel
theorem bt_sum : bootBuiltins "sum" = some (.builtin "sum") := by decide +kernel
theorem bt_sorted : bootBuiltins "sorted" = some (.builtin "sorted") := by decide +kernel
end N0

namespace N0
open PySem L2
def top (i : Nat) : Stmt := PySem.Challenge.pw_nocases_k00_terms_sizes_parts_and_order.main.body.getD i (.Pass ⟨0, 0, 0, 0⟩)
abbrev s_is_name : Stmt := top 12
abbrev N_is_name : List Str := ["value", "sign"]
theorem sc_is_name : FnScope N_is_name ["value"] (defScope s_is_name) := ⟨rfl, rfl, rfl, by decide +kernel, rfl, by decide +kernel, by decide +kernel⟩
abbrev s_is_node : Stmt := top 13
abbrev N_is_node : List Str := ["value"]
theorem sc_is_node : FnScope N_is_node ["value"] (defScope s_is_node) := ⟨rfl, rfl, rfl, by decide +kernel, rfl, by decide +kernel, by decide +kernel⟩
abbrev s_terms_of : Stmt := top 14
abbrev N_terms_of : List Str := ["term"]
theorem sc_terms_of : FnScope N_terms_of ["term"] (defScope s_terms_of) := ⟨rfl, rfl, rfl, by decide +kernel, rfl, by decide +kernel, by decide +kernel⟩
abbrev s_wrong_place : Stmt := top 15
abbrev N_wrong_place : List Str := ["value", "waiting", "here", "place", "inner", "number"]
theorem sc_wrong_place : FnScope N_wrong_place ["value"] (defScope s_wrong_place) := ⟨rfl, rfl, rfl, by decide +kernel, rfl, by decide +kernel, by decide +kernel⟩
abbrev s_size_and_depth : Stmt := top 16
abbrev N_size_and_depth : List Str := ["term", "size", "deep", "waiting", "here", "at", "inner"]
theorem sc_size_and_depth : FnScope N_size_and_depth ["term"] (defScope s_size_and_depth) := ⟨rfl, rfl, rfl, by decide +kernel, rfl, by decide +kernel, by decide +kernel⟩
abbrev s_need_small : Stmt := top 17
abbrev N_need_small : List Str := ["size", "deep"]
theorem sc_need_small : FnScope N_need_small ["size", "deep"] (defScope s_need_small) := ⟨rfl, rfl, rfl, by decide +kernel, rfl, by decide +kernel, by decide +kernel⟩
abbrev s_need_term_at : Stmt := top 18
abbrev N_need_term_at : List Str := ["term", "place", "wrong", "size", "deep"]
theorem sc_need_term_at : FnScope N_need_term_at ["term", "place"] (defScope s_need_term_at) := ⟨rfl, rfl, rfl, by decide +kernel, rfl, by decide +kernel, by decide +kernel⟩
abbrev s_need_term : Stmt := top 19
abbrev N_need_term : List Str := ["term"]
theorem sc_need_term : FnScope N_need_term ["term"] (defScope s_need_term) := ⟨rfl, rfl, rfl, by decide +kernel, rfl, by decide +kernel, by decide +kernel⟩
abbrev s_is_term : Stmt := top 20
abbrev N_is_term : List Str := ["value", "size", "deep"]
theorem sc_is_term : FnScope N_is_term ["value"] (defScope s_is_term) := ⟨rfl, rfl, rfl, by decide +kernel, rfl, by decide +kernel, by decide +kernel⟩
abbrev s_term_size : Stmt := top 21
abbrev N_term_size : List Str := ["term"]
theorem sc_term_size : FnScope N_term_size ["term"] (defScope s_term_size) := ⟨rfl, rfl, rfl, by decide +kernel, rfl, by decide +kernel, by decide +kernel⟩
abbrev s_term_depth : Stmt := top 22
abbrev N_term_depth : List Str := ["term"]
theorem sc_term_depth : FnScope N_term_depth ["term"] (defScope s_term_depth) := ⟨rfl, rfl, rfl, by decide +kernel, rfl, by decide +kernel, by decide +kernel⟩
abbrev s_TermLines___init__ : Stmt := inClass (top 23) 0
abbrev N_TermLines___init__ : List Str := ["self"]
theorem sc_TermLines___init__ : FnScope N_TermLines___init__ ["self"] (defScope s_TermLines___init__) := ⟨rfl, rfl, rfl, by decide +kernel, rfl, by decide +kernel, by decide +kernel⟩
abbrev s_TermLines_line_number : Stmt := inClass (top 23) 1
abbrev N_TermLines_line_number : List Str := ["self", "line", "size", "one"]
theorem sc_TermLines_line_number : FnScope N_TermLines_line_number ["self", "line"] (defScope s_TermLines_line_number) := ⟨rfl, rfl, rfl, by decide +kernel, rfl, by decide +kernel, by decide +kernel⟩
abbrev s_TermLines_term_number : Stmt := inClass (top 23) 2
abbrev N_TermLines_term_number : List Str := ["self", "term", "inner"]
theorem sc_TermLines_term_number : FnScope N_TermLines_term_number ["self", "term"] (defScope s_TermLines_term_number) := ⟨rfl, rfl, rfl, by decide +kernel, rfl, by decide +kernel, by decide +kernel⟩
abbrev s_told_terms : Stmt := top 24
abbrev N_told_terms : List Str := ["lines", "found", "line", "one"]
theorem sc_told_terms : FnScope N_told_terms ["lines"] (defScope s_told_terms) := ⟨rfl, rfl, rfl, by decide +kernel, rfl, by decide +kernel, by decide +kernel⟩
abbrev s_number_parts : Stmt := top 25
abbrev N_number_parts : List Str := ["term", "made"]
theorem sc_number_parts : FnScope N_number_parts ["term"] (defScope s_number_parts) := ⟨rfl, rfl, rfl, by decide +kernel, rfl, by decide +kernel, by decide +kernel⟩
abbrev s_rank_lines : Stmt := top 26
abbrev N_rank_lines : List Str := ["lines", "sizes", "ranks", "rows", "begun", "end", "lot", "order", "place", "pair", "number", "line", "row", "one"]
theorem sc_rank_lines : FnScope N_rank_lines ["lines", "sizes"] (defScope s_rank_lines) := ⟨rfl, rfl, rfl, by decide +kernel, rfl, by decide +kernel, by decide +kernel⟩
abbrev s_parts_of : Stmt := top 27
abbrev N_parts_of : List Str := ["term", "made", "terms", "ranks", "found", "number", "part"]
theorem sc_parts_of : FnScope N_parts_of ["term"] (defScope s_parts_of) := ⟨rfl, rfl, rfl, by decide +kernel, rfl, by decide +kernel, by decide +kernel⟩
abbrev s_term_parts : Stmt := top 28
abbrev N_term_parts : List Str := ["term"]
theorem sc_term_parts : FnScope N_term_parts ["term"] (defScope s_term_parts) := ⟨rfl, rfl, rfl, by decide +kernel, rfl, by decide +kernel, by decide +kernel⟩
abbrev s_letters_in : Stmt := top 29
abbrev N_letters_in : List Str := ["term", "line"]
theorem sc_letters_in : FnScope N_letters_in ["term"] (defScope s_letters_in) := ⟨rfl, rfl, rfl, by decide +kernel, rfl, by decide +kernel, by decide +kernel⟩
abbrev s_term_letters : Stmt := top 30
abbrev N_term_letters : List Str := ["term"]
theorem sc_term_letters : FnScope N_term_letters ["term"] (defScope s_term_letters) := ⟨rfl, rfl, rfl, by decide +kernel, rfl, by decide +kernel, by decide +kernel⟩
abbrev s_is_lesser_one : Stmt := top 31
abbrev N_is_lesser_one : List Str := ["term", "other", "made", "one", "two", "ranks"]
theorem sc_is_lesser_one : FnScope N_is_lesser_one ["term", "other"] (defScope s_is_lesser_one) := ⟨rfl, rfl, rfl, by decide +kernel, rfl, by decide +kernel, by decide +kernel⟩
abbrev s_is_lesser : Stmt := top 32
abbrev N_is_lesser : List Str := ["term", "other"]
theorem sc_is_lesser : FnScope N_is_lesser ["term", "other"] (defScope s_is_lesser) := ⟨rfl, rfl, rfl, by decide +kernel, rfl, by decide +kernel, by decide +kernel⟩
abbrev s_law_begun : Stmt := top 34
abbrev N_law_begun : List Str := ["script", "turn", "cells", "great", "mixing", "cell"]
theorem sc_law_begun : FnScope N_law_begun ["script", "turn"] (defScope s_law_begun) := ⟨rfl, rfl, rfl, by decide +kernel, rfl, by decide +kernel, by decide +kernel⟩
abbrev s_law_draw : Stmt := top 35
abbrev N_law_draw : List Str := ["m", "limit", "found", "spot", "cells", "extra", "cell", "blend"]
theorem sc_law_draw : FnScope N_law_draw ["m", "limit"] (defScope s_law_draw) := ⟨rfl, rfl, rfl, by decide +kernel, rfl, by decide +kernel, by decide +kernel⟩
abbrev s_law_of : Stmt := top 36
abbrev N_law_of : List Str := ["m", "some"]
theorem sc_law_of : FnScope N_law_of ["m", "some"] (defScope s_law_of) := ⟨rfl, rfl, rfl, by decide +kernel, rfl, by decide +kernel, by decide +kernel⟩
abbrev s_law_same : Stmt := top 37
abbrev N_law_same : List Str := ["told", "due", "one", "far"]
theorem sc_law_same : FnScope N_law_same ["told", "due"] (defScope s_law_same) := ⟨rfl, rfl, rfl, by decide +kernel, rfl, by decide +kernel, by decide +kernel⟩
abbrev s_law_letters : Stmt := top 38
abbrev N_law_letters : List Str := ["m", "wide", "found", "n", "turn"]
theorem sc_law_letters : FnScope N_law_letters ["m", "wide"] (defScope s_law_letters) := ⟨rfl, rfl, rfl, by decide +kernel, rfl, by decide +kernel, by decide +kernel⟩
abbrev s_law_term : Stmt := top 39
abbrev N_law_term : List Str := ["m", "letters_so", "deep", "kind", "leaf"]
theorem sc_law_term : FnScope N_law_term ["m", "letters_so", "deep"] (defScope s_law_term) := ⟨rfl, rfl, rfl, by decide +kernel, rfl, by decide +kernel, by decide +kernel⟩
abbrev s_law_inner : Stmt := top 40
abbrev N_law_inner : List Str := ["node"]
theorem sc_law_inner : FnScope N_law_inner ["node"] (defScope s_law_inner) := ⟨rfl, rfl, rfl, by decide +kernel, rfl, by decide +kernel, by decide +kernel⟩
abbrev s_law_size : Stmt := top 41
abbrev N_law_size : List Str := ["node", "one"]
theorem sc_law_size : FnScope N_law_size ["node"] (defScope s_law_size) := ⟨rfl, rfl, rfl, by decide +kernel, rfl, by decide +kernel, by decide +kernel⟩
abbrev s_law_deep : Stmt := top 42
abbrev N_law_deep : List Str := ["node", "one"]
theorem sc_law_deep : FnScope N_law_deep ["node"] (defScope s_law_deep) := ⟨rfl, rfl, rfl, by decide +kernel, rfl, by decide +kernel, by decide +kernel⟩
abbrev s_law_names_in : Stmt := top 43
abbrev N_law_names_in : List Str := ["node", "found", "one"]
theorem sc_law_names_in : FnScope N_law_names_in ["node"] (defScope s_law_names_in) := ⟨rfl, rfl, rfl, by decide +kernel, rfl, by decide +kernel, by decide +kernel⟩
abbrev s_law_all_parts : Stmt := top 44
abbrev N_law_all_parts : List Str := ["node", "found", "one", "piece"]
theorem sc_law_all_parts : FnScope N_law_all_parts ["node"] (defScope s_law_all_parts) := ⟨rfl, rfl, rfl, by decide +kernel, rfl, by decide +kernel, by decide +kernel⟩
abbrev s_law_is_less : Stmt := top 45
abbrev N_law_is_less : List Str := ["one", "far", "near", "late", "here", "there"]
theorem sc_law_is_less : FnScope N_law_is_less ["one", "far"] (defScope s_law_is_less) := ⟨rfl, rfl, rfl, by decide +kernel, rfl, by decide +kernel, by decide +kernel⟩
abbrev s_law_ordered : Stmt := top 46
abbrev N_law_ordered : List Str := ["some", "found", "one", "spot", "far"]
theorem sc_law_ordered : FnScope N_law_ordered ["some"] (defScope s_law_ordered) := ⟨rfl, rfl, rfl, by decide +kernel, rfl, by decide +kernel, by decide +kernel⟩
abbrev s_law_altered : Stmt := top 47
abbrev N_law_altered : List Str := ["m", "node", "inner", "spot"]
theorem sc_law_altered : FnScope N_law_altered ["m", "node"] (defScope s_law_altered) := ⟨rfl, rfl, rfl, by decide +kernel, rfl, by decide +kernel, by decide +kernel⟩
abbrev s_law_one_right : Stmt := top 48
abbrev N_law_one_right : List Str := ["m", "node", "told", "parts_so", "one", "far"]
theorem sc_law_one_right : FnScope N_law_one_right ["m", "node"] (defScope s_law_one_right) := ⟨rfl, rfl, rfl, by decide +kernel, rfl, by decide +kernel, by decide +kernel⟩
abbrev s_law_two_right : Stmt := top 49
abbrev N_law_two_right : List Str := ["m", "node", "late", "told", "due"]
theorem sc_law_two_right : FnScope N_law_two_right ["m", "node", "late"] (defScope s_law_two_right) := ⟨rfl, rfl, rfl, by decide +kernel, rfl, by decide +kernel, by decide +kernel⟩
abbrev s_law : Stmt := top 50
abbrev N_law : List Str := ["script", "turn", "m", "letters_so", "node", "late", "bent", "odd"]
theorem sc_law : FnScope N_law ["script"] (defScope s_law) := ⟨rfl, rfl, rfl, by decide +kernel, rfl, by decide +kernel, by decide +kernel⟩
end N0

namespace N0
open PySem L2 PySem.Spec PyProof.Rows
/-- a test comes to b; what stood stands -/
def EvT (t : TT) (σ : L2.St) (H : Hp) (b : Bool) : Prop := ∀ Q : Bool → Hp → Prop, (∀ H', Kp [] H H' → Q b H') → t σ H Q
/-- an expression comes to the value v; what stood stands -/
def EvE (t : TE) (σ : L2.St) (H : Hp) (v : V) : Prop := ∀ Q : VK, (∀ H', Kp [] H H' → Q v H') → t σ H Q
section
variable {t u : TT} {e f g : TE} {σ : L2.St} {H : Hp} {b b1 b2 : Bool} {v : V} {D : Ends} {s s' : TS}
theorem EvT.or (h : EvT t σ H b1) (h2 : b1 = false → ∀ H', Kp [] H H' → EvT u σ H' b2) : EvT (tOr t u) σ H (b1 || b2) := by
  intro Q q
  refine h _ fun H1 k1 => ?_
  cases b1 with
  | true => exact iteT (q H1 k1)
  | false => exact iteF (h2 rfl H1 k1 Q fun H2 k2 => q H2 (k1.trans k2))
theorem EvT.and (h : EvT t σ H b1) (h2 : b1 = true → ∀ H', Kp [] H H' → EvT u σ H' b2) : EvT (tAnd t u) σ H (b1 && b2) := by
  intro Q q
  refine h _ fun H1 k1 => ?_
  cases b1 with
  | true => exact iteT (h2 rfl H1 k1 Q fun H2 k2 => q H2 (k1.trans k2))
  | false => exact iteF (q H1 k1)
theorem EvT.not (h : EvT t σ H b) : EvT (tNot t) σ H (!b) := fun Q q => h _ fun H1 k1 => q H1 k1
theorem EvE.vb (h : EvE e σ H (.bl b)) : EvT (tB e) σ H b := fun Q q => h _ fun H1 k1 => ⟨b, rfl, q H1 k1⟩
theorem EvE.test (h : EvE e σ H (.bl b)) : EvT (tTest e) σ H b := fun Q q => h _ fun H1 k1 => ⟨b, rfl, q H1 k1⟩
theorem EvE.orV (h : EvE e σ H (.bl b1)) (h2 : b1 = false → ∀ H', Kp [] H H' → EvE f σ H' (.bl b2)) : EvE (tOrV e f) σ H (.bl (b1 || b2)) := by
  intro Q q
  refine h _ fun H1 k1 => ⟨b1, rfl, ?_⟩
  cases b1 with
  | true => exact iteT (q H1 k1)
  | false => exact iteF (h2 rfl H1 k1 Q fun H2 k2 => q H2 (k1.trans k2))
theorem EvE.andV (h : EvE e σ H (.bl b1)) (h2 : b1 = true → ∀ H', Kp [] H H' → EvE f σ H' (.bl b2)) : EvE (tAndV e f) σ H (.bl (b1 && b2)) := by
  intro Q q
  refine h _ fun H1 k1 => ⟨b1, rfl, ?_⟩
  cases b1 with
  | true => exact iteT (h2 rfl H1 k1 Q fun H2 k2 => q H2 (k1.trans k2))
  | false => exact iteF (q H1 k1)
theorem EvE.notV (h : EvE e σ H (.bl b)) : EvE (tNotV e) σ H (.bl (!b)) := fun Q q => h _ fun H1 k1 => ⟨b, rfl, q H1 k1⟩
theorem EvE.if {w : V} (h : EvT t σ H b) (h1 : b = true → ∀ H', Kp [] H H' → EvE e σ H' v) (h2 : b = false → ∀ H', Kp [] H H' → EvE f σ H' w) : EvE (tIf t e f) σ H (if b = true then v else w) := by
  intro Q q
  refine h _ fun H1 k1 => ?_
  cases b with
  | true => exact iteT (h1 rfl H1 k1 Q fun H2 k2 => q H2 (k1.trans k2))
  | false => exact iteF (h2 rfl H1 k1 Q fun H2 k2 => q H2 (k1.trans k2))
theorem EvT.ifS (h : EvT t σ H b) (h1 : b = true → ∀ H', Kp [] H H' → s D σ H') (h2 : b = false → ∀ H', Kp [] H H' → s' D σ H') : tIfS t s s' D σ H := by
  refine h _ fun H1 k1 => ?_
  cases b with
  | true => exact iteT (h1 rfl H1 k1)
  | false => exact iteF (h2 rfl H1 k1)
theorem EvT.ifE {Q : VK} (h : EvT t σ H b) (h1 : b = true → ∀ H', Kp [] H H' → e σ H' Q) (h2 : b = false → ∀ H', Kp [] H H' → f σ H' Q) : tIf t e f σ H Q := by
  refine h _ fun H1 k1 => ?_
  cases b with
  | true => exact iteT (h1 rfl H1 k1)
  | false => exact iteF (h2 rfl H1 k1)
theorem EvE.ret {Q : VK} (h : EvE e σ H v) (hq : ∀ H', Kp [] H H' → D.rt v H') : tRet e D σ H := h _ hq
theorem EvE.asg {g : TG} (h : EvE e σ H v) (k : ∀ H', Kp [] H H' → g v σ H' D.nx) : tAsg e g D σ H := h _ k
theorem EvE.asgS {g : TG} {u : TS} (h : EvE e σ H v) (k : ∀ H', Kp [] H H' → g v σ H' (u D)) : tSeq (tAsg e g) u D σ H := h _ k
theorem EvT.of {t : TT} (h : ∀ Q : Bool → Hp → Prop, Q b H → t σ H Q) : EvT t σ H b := fun Q q => h Q (q H (Kp.refl _ _))
theorem EvE.of {t : TE} (h : ∀ Q : VK, Q v H → t σ H Q) : EvE t σ H v := fun Q q => h Q (q H (Kp.refl _ _))
theorem EvT.cast (h : EvT t σ H b1) (e : b1 = b2) : EvT t σ H b2 := e ▸ h
theorem EvE.cast {w : V} (h : EvE e σ H v) (q : v = w) : EvE e σ H w := q ▸ h
theorem EvE.iB (h : EvE e σ H (.bl b)) (q : b = b1) : EvE e σ H (.bl b1) := q ▸ h
end
end N0

namespace N0
open PySem L2 PySem.Spec PyProof.Rows
section
variable {X : Cx}
/-- xs != [] of any list -/
def rNeNil (K : PySem.W.Frag) : R2 := fun x y H Q => ∃ a b xs, x = .ref a ∧ y = .ref b ∧ SqL K H a xs ∧ SqL K H b [] ∧ Q (.bl (!xs.isEmpty)) H
theorem op_neNil (hu : X.A.units < cLine) : OpR X (compareOp .NotEq) (rNeNil X.K) := by
  intro pins s σ H x y v u Q I rx ry h
  obtain ⟨a, b, xs, rfl, rfl, ha, hb, q⟩ := h
  cases rx
  cases ry
  obtain ⟨its, r1, p1, _⟩ := I.list ha
  obtain ⟨its2, r2, p2, _⟩ := I.list hb
  have e2 : its2 = [] := by cases r2; rfl
  subst e2
  cases xs with
  | nil =>
    have e1 : its = [] := by cases r1; rfl
    subst e1
    exact SeqAt.RcNeAt.lists (e := fun _ => true) p1.isList p2.isList rfl hu (fun j h => absurd h (by simp)) _ _ _ _ ⟨.bl false, H, I, rfl, q⟩
  | cons z zs =>
    cases r1 with
    | cons r1 r1' =>
    exact SeqAt.RcNeAt.lists_lengths p1.isList p2.isList (by simp) hu _ _ _ _ ⟨.bl true, H, I, rfl, q⟩
/-- t == () of any tuple -/
def rEqNilT (K : PySem.W.Frag) : R2 := fun x y H Q => ∃ a b xs, x = .ref a ∧ y = .ref b ∧ SqT K H a xs ∧ SqT K H b [] ∧ Q (.bl xs.isEmpty) H
theorem op_eqNilT (hu : X.A.units < cLine) : OpR X (compareOp .Eq) (rEqNilT X.K) := by
  intro pins s σ H x y v u Q I rx ry h
  obtain ⟨a, b, xs, rfl, rfl, ha, hb, q⟩ := h
  cases rx
  cases ry
  obtain ⟨its, r1, p1, _⟩ := I.tuple ha
  obtain ⟨its2, r2, p2, _⟩ := I.tuple hb
  have e2 : its2 = [] := by cases r2; rfl
  subst e2
  have k := SeqAt.RcAt.tuples (A := X.A) (s := s) (e := fun _ => true) (show s.heap.IsTuple a its.toArray from p1) (show s.heap.IsTuple b #[] from p2) hu (fun j _ h2 => absurd h2 (by simp))
  cases xs with
  | nil =>
    have e1 : its = [] := by cases r1; rfl
    subst e1
    exact k _ _ _ _ ⟨.bl true, H, I, rfl, q⟩
  | cons z zs =>
    cases r1 with
    | cons r1 r1' => exact k _ _ _ _ ⟨.bl false, H, I, by simp [L2.RelV], q⟩
end
end N0

namespace N0
open PySem L2 PySem.Spec PyProof.Rows
section
variable {X : Cx}
/-- a new tuple, its object known -/
def tTupF (t : TA) : TE := fun σ H Q => t σ H fun xs H1 => xs.length ≤ sizeLine ∧ ∀ (p : Addr) (o : Obj), H1 p = none → o.cls = .type "tuple" → o.dict = none → Q (.ref p) (upd H1 p (.frz o (.tup xs)))
theorem pe_tupF {es : List Expr} {t : TA} {pos : Pos} {x1} (h : PA X es t) : PE X (.Tuple es x1 pos) (tTupF t) := by
  refine ⟨fun pins s σ H Q I hq => ?_⟩
  refine wpAny_Tuple_spliced (thn (h.run pos pins s σ H _ I hq) fun us s1 ⟨xs, H1, I1, r, z, q⟩ => ⟨by rw [← r.length]; exact z, ?_⟩)
  have hf : H1 s1.heap.objs.size = none := I1.hok.fresh (Nat.le_refl _)
  refine ⟨.ref s1.heap.objs.size, upd H1 s1.heap.objs.size (.frz { cls := Value.type "tuple", data := Data.seq us.toArray } (.tup xs)), I1.laid (t' := s1.toks) (fun b u e => Heap.get?_push_of_some _ e) (Nat.le_refl _) ?_, rfl, q _ _ hf ?_ ?_⟩
  · exact ⟨Heap.get?_push_size _ rfl, z, us, r, ⟨_, Heap.get?_push_size _ rfl, rfl, _, rfl⟩⟩
  · rfl
  · rfl
/-- a method of a tuple whose object is known -/
def TupO (K : PySem.W.Frag) (x : V) (H : Hp) : Prop := ∃ (p : Addr) (o : Obj), x = .ref p ∧ o.cls = .type "tuple" ∧ o.dict = none ∧ ((∃ u, H p = some (.frz o u)) ∨ K.lookup p = some o)
def tBMT (K : PySem.W.Frag) (r : V → List V → Hp → VK → Prop) (to : TE) (t : TA) : TE := fun σ H Q => to σ H fun x H1 => TupO K x H1 ∧ t σ H1 fun xs H2 => r x xs H2 Q
variable {o e : Expr} {es : List Expr} {to : TE} {t : TA} {name : Str} {apos cpos : Pos} {id : String} {r : V → List V → Hp → VK → Prop}
theorem pe_bmT (K : PySem.W.Frag) (slot : Slot "tuple" name id) (hty : typeOf (.builtin id) = pure (.type "method_descriptor")) (hm : MtR X id r) (ho : PE X o to) (ha : PA X (e :: es) t) (hK : X.K = K := by rfl)
    (hbase : attributeBase o name X.env (eval o X.env) = eval o X.env := by rfl)
    (hfew : ((backTo cpos (starEach (e :: es) X.env)).all (fun x => !x.1) && (backToKw cpos (keywordEach [] X.env)).all (fun x => x.1.isSome)
      && decide ((e :: es).length + ([] : List Keyword).length + (if ([] : List Keyword).isEmpty then 0 else 1) < 30)) = true := by rfl)
    (hline : (apos.endLine == cpos.line) = true := by rfl) (hs : starEach (e :: es) X.env = (false, eval e X.env) :: starEach es X.env := by rfl) (hplain : (backTo cpos (starEach es X.env)).any (·.1) = false := by rfl) :
    PE X (.Call (.Attribute o name apos) (e :: es) [] cpos) (tBMT K r to t) := by
  subst hK
  refine ⟨fun pins s σ H Q I h => ?_⟩
  refine wpAny_Call_method_late hbase hfew hline rfl (thn (ho.run pins s σ H _ I h) fun v s1 ⟨x, H1, I1, r1, ty, q1⟩ => ?_)
  obtain ⟨p, ob, rfl, hc, hd, hk⟩ := ty
  cases r1
  have hg : s1.heap.get? p = some ob := by
    rcases hk with ⟨u, hk⟩ | hk
    · exact (I1.hok p _ hk).1
    · exact I1.kIn p ob hk
  have h1 : s1.TypeIs (.ref p) "tuple" := ⟨ob, hg, hc⟩
  have h2 : ∀ a, Value.ref p = .ref a → ∃ ob, s1.heap.get? a = some ob ∧ ob.dict = none := fun a e => by cases e; exact ⟨ob, hg, hd⟩
  refine ⟨"tuple", id, PySem.F.plainAttrs_tuple, slot, hty, h1, h2, ?_⟩
  have hA := ha.run cpos pins s1 σ H1 _ I1 q1
  rw [hs] at hA ⊢
  refine Calls.callWith_builtin (by show (false || (backTo cpos (starEach es X.env)).any (·.1)) = false; rw [hplain] <;> rfl) (Calls.evalArgs_plain ?_)
  exact thn hA fun us s2 ⟨vs, H2, I2, r2, q2⟩ => hm pins s2 σ H2 (.ref p) vs (.ref p) us Q I2 (show L2.RelV (.ref p) (.ref p) from rfl) r2 q2
theorem mt_tup_indexk (K : PySem.W.Frag) (h : X.K = K := by rfl) : MtR X "tuple.index" (fun x xs H Q => ∃ p, ∃ ys : List Str, ∃ z j, x = .ref p ∧ xs = [.str z] ∧ SqT K H p (ys.map V.str) ∧ ys[j]? = some z ∧ (∀ m, m < j → ys[m]? ≠ some z) ∧ Q (.int (j : Nat)) H) := h ▸ mt_tup_index
/-- a written tuple of the top whose object is known -/
theorem e_kinds (K : PySem.W.Frag) {x : Str} {xs : List V} {pos : Pos} (h : ∃ a : Addr, X.mg x = some (.ref a) ∧ (∀ H, SqT K H a xs) ∧ ∃ o : Obj, K.lookup a = some o ∧ o.cls = .type "tuple" ∧ o.dict = none) (hg : Gl X x := by rfl) (hd : (x == ("__debug__" : Str)) = false := by decide) :
    PE X (.Name x pos) (fun _ H Q => ∀ a, SqT K H a xs → TupO K (.ref a) H → Q (.ref a) H) := by
  obtain ⟨a, h1, h2, o, h3, h4, h5⟩ := h
  have q : PE X (.Name x pos) (tC (.ref a)) := pe_glob hg h1 (v := .ref a) rfl hd
  exact ⟨fun pins s σ H Q I h => q.run pins s σ H Q I (h a (h2 H) ⟨a, o, rfl, h4, h5, .inr h3⟩)⟩
end
end N0

namespace N0
open PySem L2 PySem.Spec PyProof.Rows
/-! ### sorted of tuples: whole numbers, texts, tuples of whole numbers -/
inductive SI where
  | i (n : Int) | s (x : Str) | t (ns : List Int)
namespace SI
def kind : SI → Nat | .i _ => 0 | .s _ => 1 | .t _ => 2
def enc : SI → List Int
  | .i n => [0, n]
  | .s x => 1 :: x.cps.toList.map Int.ofNat
  | .t ns => 2 :: ns
end SI
def SIV (h : Heap) : SI → Value → Prop
  | .i n, v => ∃ tk, v = .int n tk
  | .s x, v => ∃ tk, v = .str x tk
  | .t ns, v => ∃ (a : Addr) (its : List Value), v = .ref a ∧ h.IsTuple a its.toArray ∧ IntsAre its ns
theorem map_ofNat_lt : ∀ {a b : List Nat}, (a.map Int.ofNat < b.map Int.ofNat) ↔ a < b
  | [], [] => by simp
  | [], _ :: _ => by simp
  | _ :: _, [] => by simp
  | x :: a, y :: b => by
    have e : Int.ofNat x = Int.ofNat y ↔ x = y := ⟨Int.ofNat.inj, congrArg _⟩
    have l : Int.ofNat x < Int.ofNat y ↔ x < y := Int.ofNat_lt
    rw [List.map_cons, List.map_cons, List.cons_lt_cons_iff, List.cons_lt_cons_iff, map_ofNat_lt, e, l]
theorem map_ofNat_inj : ∀ {a b : List Nat}, a.map Int.ofNat = b.map Int.ofNat ↔ a = b
  | [], [] => by simp
  | [], _ :: _ => by simp
  | _ :: _, [] => by simp
  | x :: a, y :: b => by
    have e : Int.ofNat x = Int.ofNat y ↔ x = y := ⟨Int.ofNat.inj, congrArg _⟩
    rw [List.map_cons, List.map_cons, List.cons.injEq, List.cons.injEq, map_ofNat_inj, e]
theorem firstLt_map (e r : Nat → Bool) (fin : Bool) (f : Nat → Nat) : ∀ l : List Nat, SeqAt.firstLt e r fin (l.map f) = SeqAt.firstLt (e ∘ f) (r ∘ f) fin l
  | [] => rfl
  | j :: l => by
    rw [List.map_cons]
    cases h : e (f j) with
    | true => rw [SeqAt.firstLt_yes h, SeqAt.firstLt_yes (e := e ∘ f) h, firstLt_map e r fin f l]
    | false => rw [SeqAt.firstLt_no h, SeqAt.firstLt_no (e := e ∘ f) h]; rfl
theorem firstLt_ints : ∀ (ns ms : List Int), SeqAt.firstLt (fun j => decide (ns.getD j 0 = ms.getD j 0)) (fun j => decide (ns.getD j 0 < ms.getD j 0)) (decide (ns.length < ms.length)) (List.range (min ns.length ms.length)) = decide (ns < ms)
  | [], [] => by simp [SeqAt.firstLt]
  | [], _ :: _ => by simp [SeqAt.firstLt]
  | _ :: _, [] => by simp [SeqAt.firstLt]
  | x :: ns, y :: ms => by
    have e1 : min (x :: ns).length (y :: ms).length = min ns.length ms.length + 1 := by simp only [List.length_cons]; omega
    rw [e1, List.range_succ_eq_map]
    by_cases h : x = y
    · subst h
      rw [SeqAt.firstLt_yes (by simp), firstLt_map]
      have ih := firstLt_ints ns ms
      have e2 : decide ((x :: ns).length < (x :: ms).length) = decide (ns.length < ms.length) := by simp
      rw [e2]
      have e3 : decide (x :: ns < x :: ms) = decide (ns < ms) := by rw [decide_eq_decide, List.cons_lt_cons_iff]; simp
      rw [e3, ← ih]
      rfl
    · rw [SeqAt.firstLt_no (by simp [h])]
      rw [decide_eq_decide, List.cons_lt_cons_iff]
      simp [h]
theorem all_ints : ∀ (ns ms : List Int), ((List.range (min ns.length ms.length)).all (fun j => decide (ns.getD j 0 = ms.getD j 0)) && ns.length == ms.length) = decide (ns = ms)
  | [], [] => by simp
  | [], _ :: _ => by simp
  | _ :: _, [] => by simp
  | x :: ns, y :: ms => by
    have e1 : min (x :: ns).length (y :: ms).length = min ns.length ms.length + 1 := by simp only [List.length_cons]; omega
    have ih := all_ints ns ms
    rw [e1, List.range_succ_eq_map, List.all_cons, List.all_map]
    have e2 : ((x :: ns).length == (y :: ms).length) = (ns.length == ms.length) := by simp
    rw [e2, Bool.and_assoc]
    have e3 : ((List.range (min ns.length ms.length)).all ((fun j => decide ((x :: ns).getD j 0 = (y :: ms).getD j 0)) ∘ Nat.succ) && ns.length == ms.length) = decide (ns = ms) := by
      rw [← ih]; rfl
    rw [e3]
    by_cases h : x = y <;> simp [h]
section
variable {prog : Program} {w : World} {A : Around} {s : Shared}
theorem ints_at {its : List Value} {ns : List Int} (h : IntsAre its ns) : ∀ j (h1 : j < its.toArray.size), ∃ tk, its.toArray[j] = .int (ns.getD j 0) tk := by
  induction h with
  | nil => intro j h1; simp at h1
  | cons n t _ ih =>
    intro j h1
    cases j with
    | zero => exact ⟨t, rfl⟩
    | succ j =>
      obtain ⟨tk, e⟩ := ih j (by simpa using h1)
      exact ⟨tk, by simpa using e⟩
theorem eq_si {x y : SI} {v u : Value} (hu : A.units < cLine) (hx : SIV s.heap x v) (hy : SIV s.heap y u) (hk : x.kind = y.kind) : SeqAt.EqAt A s v u (decide (x.enc = y.enc)) := by
  cases x <;> cases y <;> simp [SI.kind] at hk
  · obtain ⟨t1, rfl⟩ := hx
    obtain ⟨t2, rfl⟩ := hy
    rename_i a b
    have e : decide ((SI.i a).enc = (SI.i b).enc) = (a == b) := by
      simp [SI.enc]; rfl
    rw [e]; exact SeqAt.EqAt.int_int _ _ _ _
  · obtain ⟨t1, rfl⟩ := hx
    obtain ⟨t2, rfl⟩ := hy
    rename_i a b
    have e : decide ((SI.s a).enc = (SI.s b).enc) = (a == b) := by
      rw [← SeqAt.str_beq]
      simp only [SI.enc, List.cons.injEq, true_and, map_ofNat_inj]
      by_cases h : a.cps.toList = b.cps.toList
      · simp [h]
      · rw [decide_eq_false h]
        exact (beq_eq_false_iff_ne.mpr h).symm
    rw [e]; exact SeqAt.EqAt.str_str _ _ _ _
  · obtain ⟨a, i1, rfl, h1, j1⟩ := hx
    obtain ⟨b, i2, rfl, h2, j2⟩ := hy
    rename_i ns ms
    have e : decide ((SI.t ns).enc = (SI.t ms).enc) = decide (ns = ms) := by simp [SI.enc]
    rw [e]
    by_cases hab : a = b
    · subst hab
      obtain ⟨o, e1, c1, n1, d1⟩ := h1
      obtain ⟨o', e2, c2, n2, d2⟩ := h2
      rw [e1] at e2; cases e2
      rw [d1] at d2
      have ei : i1 = i2 := by injection d2 with d3; exact List.toArray_inj d3
      subst ei
      have : ns = ms := by
        have l1 := j1.length; have l2 := j2.length
        apply List.ext_getElem (by omega)
        intro j p q
        obtain ⟨t1, q1⟩ := ints_at j1 j (by simp; omega)
        obtain ⟨t2, q2⟩ := ints_at j2 j (by simp; omega)
        rw [q1] at q2
        injection q2 with q3
        simpa [List.getD_eq_getElem?_getD, p, q] using q3
      rw [decide_eq_true this]; exact SeqAt.EqAt.same _
    · refine SeqAt.EqAt.of_refs hab ?_
      have l1 := j1.length; have l2 := j2.length
      have k := SeqAt.RcAt.tuples (A := A) (s := s) (e := fun j => decide (ns.getD j 0 = ms.getD j 0)) h1 h2 hu (fun j p q => by
        obtain ⟨t1, q1⟩ := ints_at j1 j p
        obtain ⟨t2, q2⟩ := ints_at j2 j q
        rw [q1, q2]
        have := SeqAt.EqAt.int_int (A := A.in1) (s := s) (ns.getD j 0) t1 (ms.getD j 0) t2
        exact this)
      rw [List.size_toArray, List.size_toArray, l1, l2, all_ints] at k
      exact k
theorem lt_si {c : Bool} {x y : SI} {v u : Value} {Q : Bool → Shared → Prop} {E : Value → Shared → Prop} (hu : A.units < cLine) (hx : SIV s.heap x v) (hy : SIV s.heap y u) (hk : x.kind = y.kind) (hc : c = true → x.kind ≠ 2) (h : Q (decide (x.enc < y.enc)) s) :
    wpAny (model prog w) A (oneLt' c v u) Q E s := by
  cases x <;> cases y <;> simp [SI.kind] at hk
  · obtain ⟨t1, rfl⟩ := hx
    obtain ⟨t2, rfl⟩ := hy
    rename_i a b
    have e : decide ((SI.i a).enc < (SI.i b).enc) = decide (a < b) := by
      simp only [SI.enc, List.cons_lt_cons_iff, decide_eq_decide]; simp
    rw [e] at h
    cases c with
    | true => exact oneLt_int h
    | false => exact PySem.W.kat_one _ _ (PyProof.Rows.lt_int (Q := PySem.W.BoolBack Q) h)
  · obtain ⟨t1, rfl⟩ := hx
    obtain ⟨t2, rfl⟩ := hy
    rename_i a b
    have e : decide ((SI.s a).enc < (SI.s b).enc) = decide (a.cps.toList < b.cps.toList) := by
      simp only [SI.enc, List.cons_lt_cons_iff, map_ofNat_lt, decide_eq_decide]; simp
    rw [e] at h
    cases c with
    | true => exact oneLt_str h
    | false => exact PySem.W.kat_one _ _ (lt_str (Q := PySem.W.BoolBack Q) h)
  · obtain ⟨a, i1, rfl, h1, j1⟩ := hx
    obtain ⟨b, i2, rfl, h2, j2⟩ := hy
    rename_i ns ms
    have e : decide ((SI.t ns).enc < (SI.t ms).enc) = decide (ns < ms) := by
      simp only [SI.enc, List.cons_lt_cons_iff, decide_eq_decide]; simp
    rw [e] at h
    cases c with
    | true => exact absurd rfl (hc rfl)
    | false =>
      have l1 := j1.length; have l2 := j2.length
      have k := SeqAt.RcLt.tuples (A := A) (s := s) (e := fun j => decide (ns.getD j 0 = ms.getD j 0)) (r := fun j => decide (ns.getD j 0 < ms.getD j 0)) h1 h2 hu (fun j p q => by
        obtain ⟨t1, q1⟩ := ints_at j1 j p
        obtain ⟨t2, q2⟩ := ints_at j2 j q
        rw [q1, q2]
        exact SeqAt.EqAt.int_int (A := A.in1) (s := s) (ns.getD j 0) t1 (ms.getD j 0) t2) (fun j p q _ prog w E Q hq => by
        obtain ⟨t1, q1⟩ := ints_at j1 j p
        obtain ⟨t2, q2⟩ := ints_at j2 j q
        rw [q1, q2]
        exact lt_int hq)
      rw [List.size_toArray, List.size_toArray, l1, l2, firstLt_ints] at k
      exact PySem.W.kat_one _ _ (k prog w E (PySem.W.BoolBack Q) h)
/-- the rows, item by item -/
def SIVs (h : Heap) : List SI → List Value → Prop
  | [], [] => True
  | x :: xs, v :: vs => SIV h x v ∧ SIVs h xs vs
  | _, _ => False
theorem lex_si {b : Bool} (hu : A.units < cLine) : ∀ {p q : List SI} {xs ys : List Value} {i : Nat} {Q : Bool → Shared → Prop}, SIVs s.heap p xs → SIVs s.heap q ys → p.map SI.kind = q.map SI.kind → (b = true → i = 0 → ∀ x, p.head? = some x → x.kind ≠ 2) →
    Q (decide (p.map SI.enc < q.map SI.enc)) s → PySem.W.KatLex prog w A b false Q (xs.zip ys) i s
  | [], [], [], [], _, _, _, _, _, _, h => PySem.W.kat_nil (by simpa using h)
  | x :: p, y :: q, v :: xs, u :: ys, i, Q, ⟨hx, hxs⟩, ⟨hy, hys⟩, hk, hb, h => by
    simp only [List.map_cons, List.cons.injEq] at hk
    refine PySem.W.kat_cons (eq_si hu hx hy hk.1 prog w _ _ ?_)
    refine PySem.W.kat_go (fun e => ?_) (fun e => ?_)
    · have e' := of_decide_eq_true e
      refine PySem.W.kat_yes (lex_si hu hxs hys hk.2 (fun _ z => by omega) ?_)
      have : decide ((x :: p).map SI.enc < (y :: q).map SI.enc) = decide (p.map SI.enc < q.map SI.enc) := by
        simp only [List.map_cons, List.cons_lt_cons_iff, e', decide_eq_decide]
        exact ⟨fun z => z.elim (fun z => absurd z (List.lt_irrefl _)) fun z => z.2, fun z => .inr ⟨trivial, z⟩⟩
      rw [this] at h; exact h
    · have e' := of_decide_eq_false e
      refine PySem.W.kat_no (lt_si hu hx hy hk.1 (fun z => ?_) ?_)
      · have z' : b = true ∧ i = 0 := by simpa using z
        exact hb z'.1 z'.2 x rfl
      · have : decide ((x :: p).map SI.enc < (y :: q).map SI.enc) = decide (x.enc < y.enc) := by
          simp only [List.map_cons, List.cons_lt_cons_iff, decide_eq_decide]
          simp [e']
        rw [this] at h; exact h
  | _ :: _, [], _, _, _, _, _, _, hk, _, _ => by simp at hk
  | [], _ :: _, _, _, _, _, _, _, hk, _, _ => by simp at hk
  | _ :: _, _, [], _, _, _, h, _, _, _, _ => h.elim
  | [], _, _ :: _, _, _, _, h, _, _, _, _ => h.elim
  | _, _ :: _, _, [], _, _, _, h, _, _, _ => h.elim
  | _, [], _, _ :: _, _, _, _, h, _, _, _ => h.elim
end
def rowLt (k : V → List SI) (x y : V) : Bool := decide ((k x).map SI.enc < (k y).map SI.enc)
theorem rowLt_swo (k : V → List SI) : SrtO.Swo (rowLt k) :=
  ⟨fun x y h => decide_eq_false (List.lt_asymm (of_decide_eq_true h)), fun x y z h1 h2 => decide_eq_false fun h => absurd h (List.not_lt.mpr (List.le_trans (List.not_lt.mp (of_decide_eq_false h1)) (List.not_lt.mp (of_decide_eq_false h2))))⟩
/-- the items of a row as values -/
def SIR (H : Hp) : SI → V → Prop
  | .i n, y => y = .int n
  | .s x, y => y = .str x
  | .t ns, y => ∃ b, y = .ref b ∧ H b = some (.tup (ns.map V.int))
def SIRs (H : Hp) : List SI → List V → Prop
  | [], [] => True
  | x :: xs, v :: vs => SIR H x v ∧ SIRs H xs vs
  | _, _ => False
/-- sorted(xs), xs a list of tuples of one shape: a new list, in order -/
def rSortSI (K : PySem.W.Frag) : List V → Hp → VK → Prop := fun vs H Q => ∃ (a : Addr) (xs : List V) (k : V → List SI) (ks : List Nat), vs = [V.ref a] ∧ SqL K H a xs ∧ ks ≠ [] ∧
  (∀ x ∈ xs, ∃ t ys, x = V.ref t ∧ H t = some (.tup ys) ∧ SIRs H (k x) ys ∧ (k x).map SI.kind = ks) ∧
  ∀ ys p, ys.Pairwise (fun x y => rowLt k y x = false) → ys.Perm xs → H p = none → Q (.ref p) (upd H p (.lst ys))
section
variable {X : Cx}
theorem SIR.val {P : Program} {w : World} {H : Hp} {h : Heap} (ok : HOk P w H h) {x : SI} {y : V} {u : Value} (r : SIR H x y) (ru : L2.RelV y u) : SIV h x u := by
  cases x with
  | i n => cases (show y = .int n from r); exact ru
  | s x => cases (show y = .str x from r); exact ru
  | t ns =>
    obtain ⟨b, rfl, hb⟩ := r
    cases ru
    obtain ⟨_, its, rv, p⟩ := ok b _ hb
    exact ⟨b, its, rfl, p, rv.ints⟩
theorem SIRs.val {P : Program} {w : World} {H : Hp} {h : Heap} (ok : HOk P w H h) : ∀ {xs : List SI} {ys : List V} {us : List Value}, SIRs H xs ys → Vals ys us → SIVs h xs us
  | [], [], _, _, .nil => trivial
  | _ :: _, _ :: _, _, ⟨h1, h2⟩, .cons r t => ⟨SIR.val ok h1 r, SIRs.val ok h2 t⟩
theorem SIV.keeps {h h' : Heap} (k : ∀ b o, h.get? b = some o → o.cls = .type "tuple" → h'.get? b = some o) {x : SI} {u : Value} (r : SIV h x u) : SIV h' x u := by
  cases x with
  | i n => exact r
  | s x => exact r
  | t ns =>
    obtain ⟨a, its, e, ⟨o, h1, h2, h3⟩, h4⟩ := r
    exact ⟨a, its, e, ⟨o, k _ _ h1 h2, h2, h3⟩, h4⟩
theorem SIVs.keeps {h h' : Heap} (k : ∀ b o, h.get? b = some o → o.cls = .type "tuple" → h'.get? b = some o) : ∀ {xs : List SI} {us : List Value}, SIVs h xs us → SIVs h' xs us
  | [], [], _ => trivial
  | _ :: _, _ :: _, ⟨h1, h2⟩ => ⟨SIV.keeps k h1, SIVs.keeps k h2⟩
/-- a row on the heap -/
def RowH (h : Heap) (row : List SI) (v : Value) : Prop := ∃ (t : Addr) (o : Obj) (its : List Value) (n : Nat), v = .ref t ∧ h.get? t = some o ∧ o.cls = .type "tuple" ∧ o.data = .seq its.toArray n ∧ SIVs h row its
theorem RowH.keeps {h h' : Heap} (k : ∀ b o, h.get? b = some o → o.cls = .type "tuple" → h'.get? b = some o) {row : List SI} {v : Value} : RowH h row v → RowH h' row v
  | ⟨t, o, its, n, e, h1, h2, h3, h4⟩ => ⟨t, o, its, n, e, k _ _ h1 h2, h2, h3, SIVs.keeps k h4⟩
theorem rows_firsts {h : Heap} {k : Value → List SI} {c : Nat} {ks : List Nat} : ∀ {vs : List Value}, (∀ v ∈ vs, RowH h (k v) v ∧ (k v).map SI.kind = c :: ks) → ∃ fs : List Value, PySem.W.KatTups h vs fs ∧ fs.length = vs.length ∧ ∀ f ∈ fs, ∃ x : SI, x.kind = c ∧ SIV h x f
  | [], _ => ⟨[], PySem.W.KatTups.nil, rfl, fun _ hm => by simp at hm⟩
  | v :: vs, hv => by
    obtain ⟨fs, h1, h2, h3⟩ := rows_firsts (vs := vs) fun u hu => hv u (List.mem_cons_of_mem _ hu)
    obtain ⟨⟨t, o, its, n, e, g1, g2, g3, g4⟩, hk⟩ := hv v (List.mem_cons_self ..)
    cases hr : k v with
    | nil => rw [hr] at hk; cases hk
    | cons x r =>
      rw [hr] at hk g4
      cases its with
      | nil => exact g4.elim
      | cons f its =>
        subst e
        refine ⟨f :: fs, PySem.W.KatTups.cons g1 g2 g3 rfl h1, by simp [h2], fun z hz => ?_⟩
        rcases List.mem_cons.mp hz with rfl | q
        · exact ⟨x, (List.cons.inj hk).1, g4.1⟩
        · exact h3 z q
theorem cr_sortSI (hu : X.A.units + 64 < cLine) : CallR X (.builtin "sorted") (rSortSI X.K) := by
  intro pins s σ H vs us Q I r h
  obtain ⟨a, xs, k, ks, rfl, hs, hks, hx, q⟩ := h
  obtain ⟨its, rv, hl, hz⟩ := I.list hs
  obtain ⟨u, rfl, ru⟩ := vals1 r
  obtain rfl : u = Value.ref a := ru
  obtain ⟨e1, e2⟩ := refs_back rv fun x m => by
    obtain ⟨t, _, e, _⟩ := hx x m
    exact ⟨t, e⟩
  obtain ⟨c, kr, rfl⟩ : ∃ c kr, ks = c :: kr := by
    cases ks with
    | nil => exact absurd rfl hks
    | cons c kr => exact ⟨c, kr, rfl⟩
  have rows : ∀ v ∈ its, RowH s.heap (k (backV v)) v ∧ (k (backV v)).map SI.kind = c :: kr := fun v hv => by
    obtain ⟨t, rfl⟩ := e2 v hv
    have hm : V.ref t ∈ xs := by rw [e1]; exact List.mem_map.mpr ⟨_, hv, rfl⟩
    obtain ⟨t', ys, e, ht, hr, hk⟩ := hx _ hm
    cases e
    obtain ⟨_, its2, r2, o, ho, hc, n, hd⟩ := I.hok _ _ ht
    exact ⟨⟨t, o, its2, n, rfl, ho, hc, hd, SIRs.val I.hok hr r2⟩, hk⟩
  refine SrtO.sorted_ord (ltv := fun u v => rowLt k (backV u) (backV v)) ⟨fun x y => (rowLt_swo k).asym _ _, fun x y z => (rowLt_swo k).tr _ _ _⟩ hl.isList (by rw [← rv.length]; exact hz) (fun h2 h₁ b hb kk => ?_) fun out h1 h2 => ?_
  · intro h' keep
    have keep2 : ∀ d o, s.heap.get? d = some o → o.cls = .type "tuple" → h'.get? d = some o := fun d o e hc => by
      obtain ⟨hne, e'⟩ := kk d o e
      exact keep d o hne e'
    have rows' : ∀ v ∈ its, RowH h' (k (backV v)) v ∧ (k (backV v)).map SI.kind = c :: kr := fun v hv => ⟨(rows v hv).1.keeps keep2, (rows v hv).2⟩
    obtain ⟨fs, f1, f2, f3⟩ := rows_firsts rows'
    have hty : ∃ T : String, (∀ f ∈ fs, PySem.W.Looks (model X.prog X.w) h' (typeOf f) (.type T)) ∧ ((Value.type T != Value.type "tuple") = true → c ≠ 2) := by
      by_cases c0 : c = 0
      · refine ⟨"int", fun f hf => ?_, fun _ => by omega⟩
        obtain ⟨x, hx, hv⟩ := f3 f hf
        cases x <;> simp [SI.kind] at hx <;> first | (exfalso; omega) | skip
        obtain ⟨t, rfl⟩ := hv
        exact PySem.W.Looks.now
      · by_cases c1 : c = 1
        · refine ⟨"str", fun f hf => ?_, fun _ => by omega⟩
          obtain ⟨x, hx, hv⟩ := f3 f hf
          cases x <;> simp [SI.kind] at hx <;> first | (exfalso; omega) | skip
          obtain ⟨t, rfl⟩ := hv
          exact PySem.W.Looks.now
        · refine ⟨"tuple", fun f hf => ?_, fun z => absurd z (by decide +kernel)⟩
          obtain ⟨x, hx, hv⟩ := f3 f hf
          cases x <;> simp [SI.kind] at hx <;> first | (exfalso; omega) | skip
          obtain ⟨d, its3, rfl, ⟨o, g1, g2, g3⟩, _⟩ := hv
          have this : PySem.W.Looks (model X.prog X.w) h' (typeOf (.ref d)) o.cls := (PySem.W.Looks.ld g1).andThen .now
          rw [g2] at this
          exact this
    obtain ⟨T, hT, hT2⟩ := hty
    refine ⟨tuples' (Value.type T != Value.type "tuple"), fun Q E hq => ?_, fun p p' hm hm' => ?_⟩
    · refine PySem.W.kat_kind (T := .type T) f1 (by omega) hT (beq_self_eq_true _) hq
    · obtain ⟨⟨t, o, i1, n, e, g1, g2, g3, g4⟩, hk⟩ := rows' _ hm
      obtain ⟨⟨t', o', i2, n', e', g1', g2', g3', g4'⟩, hk'⟩ := rows' _ hm'
      show wpAny _ _ (keyLt' _ p.1 p'.1) (fun r s' => s' = _ ∧ r = rowLt k (backV p.1) (backV p'.1)) _ _
      rw [e] at g4 hk ⊢
      rw [e'] at g4' hk' ⊢
      refine PySem.W.kat_lt g1 g3 g1' g3' ?_
      have el : i1.toArray.size = i2.toArray.size := by
        have l1 : ∀ {p : List SI} {xs : List Value}, SIVs h' p xs → p.length = xs.length := by
          intro p
          induction p with
          | nil => intro xs h; cases xs with | nil => rfl | cons _ _ => exact h.elim
          | cons x p ih => intro xs h; cases xs with | nil => exact h.elim | cons _ _ => simp [ih h.2]
        have a1 := l1 g4; have a2 := l1 g4'
        have a3 := congrArg List.length hk; have a4 := congrArg List.length hk'
        simp at a3 a4
        simp; omega
      rw [el, decide_eq_false (Nat.lt_irrefl _)]
      refine lex_si (by show X.A.units + 1 + 1 < cLine; omega) g4 g4' (hk.trans hk'.symm) (fun z _ x hx => ?_) ⟨rfl, rfl⟩
      have hxc : x.kind = c := by
        cases hr : k (backV (.ref t)) with
        | nil => rw [hr] at hx; cases hx
        | cons y r =>
          rw [hr] at hx hk
          cases hx
          exact (List.cons.inj hk).1
      rw [hxc]; exact hT2 z
  · have h3 : ∀ u ∈ out, ∃ a, u = Value.ref a := fun u hu => e2 u (h2.perm.mem_iff.mp hu)
    obtain ⟨n, hn⟩ := PyProof.Rows.sortedAll_at s.heap its out.toArray
    have hp : (out.map backV).Perm xs := by rw [e1]; exact h2.perm.map _
    refine ⟨.ref _, upd H (s.heap.objs.size + 1) (.lst (out.map backV)), I.laid (t' := s.toks) (fun _ _ => PyProof.Rows.sortedAll_old) (Nat.le_succ _) ⟨?_, out, n, vals_back h3, by simpa using hn⟩, rfl, q _ _ ?_ hp (I.hok.fresh (Nat.le_succ _))⟩
    · rw [hp.length_eq]; exact hz
    · exact List.pairwise_map.mpr h1
end
end N0

namespace N0
open PySem L2 PySem.Spec PyProof.Rows
/-! the rules with the written part named: within a comprehension -/
section
variable {X : Cx} (K : PySem.W.Frag)
theorem ix_listk (h : X.K = K := by rfl) : IxR X (rIxL K) := h ▸ ix_list
theorem ix_tupk (h : X.K = K := by rfl) : IxR X (rIxT K) := h ▸ ix_tup
theorem sl_listk (h : X.K = K := by rfl) : SlR X (rSlL K) := h ▸ sl_list
theorem sl_tupAk (h : X.K = K := by rfl) : SlR X (rSlA K) := h ▸ sl_tupA
theorem op_catAk (h : X.K = K := by rfl) : OpR X (binaryOp .Add) (rCatA K) := h ▸ op_catA
theorem op_eqDk (hu : X.A.units + 64 < cLine) (h : X.K = K := by rfl) : OpR X (compareOp .Eq) (rEqD K) := h ▸ op_eqD hu
theorem op_neDk (hu : X.A.units + 64 < cLine) (h : X.K = K := by rfl) : OpR X (compareOp .NotEq) (rNeD K) := h ▸ op_neD hu
theorem op_in_seqk (h : X.K = K := by rfl) : OpR X (compareOp .In) (rIn K false) := h ▸ op_in_seq
theorem op_notIn_seqk (h : X.K = K := by rfl) : OpR X (compareOp .NotIn) (rIn K true) := h ▸ op_notIn_seq
theorem call_tuple_ofk (h : X.K = K := by rfl) : CallR X (.type "tuple") (fun xs H Q => ∃ p ys, xs = [.ref p] ∧ ((SqL K H p ys ∧ ∀ l, H l = none → Q (.ref l) (upd H l (.tup ys))) ∨ (SqT K H p ys ∧ Q (.ref p) H))) := h ▸ call_tuple_of
theorem cr_allk (hc : X.calm = true) (h : X.K = K := by rfl) : CallR X (.builtin "all") (rAll K) := h ▸ cr_all hc
theorem cr_sumk (hc : X.calm = true) (h : X.K = K := by rfl) : CallR X (.builtin "sum") (rSum K) := h ▸ cr_sum hc
variable {tg l e : Expr} {tl : TE} {ta : TA} {f : Str} {pos : Pos}
theorem pi_tupk (hl : PI X tg l (iTup X.K tl)) (h : X.K = K := by rfl) : PI X tg l (iTup K tl) := h ▸ hl
theorem pi_listk (hl : PI X tg l (iList X.K tl)) (h : X.K = K := by rfl) : PI X tg l (iList K tl) := h ▸ hl
theorem pe_fldk (he : PE X (.Attribute e f pos) (tFld X.K tl f)) (h : X.K = K := by rfl) : PE X (.Attribute e f pos) (tFld K tl f) := h ▸ he
theorem e_lenk {r : TA} {es : List Expr} {p : Pos} (he : PE X (.Call (.Name "len" p) es [] pos) (tCB (fun xs H Q => ∃ p ys, xs = [.ref p] ∧ (SqL X.K H p ys ∨ SqT X.K H p ys) ∧ Q (.int ys.length) H) ta)) (h : X.K = K := by rfl) :
    PE X (.Call (.Name "len" p) es [] pos) (tCB (fun xs H Q => ∃ p ys, xs = [.ref p] ∧ (SqL K H p ys ∨ SqT K H p ys) ∧ Q (.int ys.length) H) ta) := h ▸ he
end
end N0

namespace N0
open PySem L2 PySem.Spec PyProof.Rows
def small : Str := "abcdefghijklmnopqrstuvwxyz"
def words : List Str := ["and", "or", "not", "yes", "no"]
def nmOk (s : Str) : Bool := decide (1 ≤ s.length) && decide (s.length ≤ 8) && !(inV (.str s) (words.map V.str)) && s.cps.toList.all fun c => decide (c ∈ small.cps.toList)
def isNameD : PyData → Bool
  | .str s => nmOk s
  | _ => false
def spIsName (K : PySem.W.Frag) : Sp := fun vs H Q _ => ∃ (v : V) (d : PyData), vs = [v] ∧ Dp K H v d ∧ (∀ s, d = .str s → s.length ≤ 1000) ∧ ∀ H', Kp [] H H' → Q (.bl (isNameD d)) H'
section
variable {P : Program} {w : World} {K : PySem.W.Frag} {mg : Str → Option Value} {base : Heap} {f : Addr} {fd : FuncData}
theorem ok_is_name (F : Fun K "is_name" "is_name" s_is_name f fd) (T : Txt K mg) : FnOk P w K mg base CX0 1 f fd ["value"] (spIsName K) := by
  refine F.ok sc_is_name (fun vs H Q E h => ?_) (fun cdv A outer s H vs Q E hr h => ?_)
  · obtain ⟨v, d, rfl, _⟩ := h
    rfl
  obtain ⟨v, d, rfl, hd, hs, q⟩ := h
  have nd := sc_is_name.nd
  refine ⟨_, (pss_cons (ps_if (PW.pt (pw_or (pt_not (pt_val (e_isi T (pa_cons (pv 0) (pa_cons (e_ty T.str bt_str) pa_nil))))) (pw_or (pt_not (pt_chain op_le op_le pe_int (e_lenS T (pa_cons (pv 0) pa_nil)) (e_const T.MOST_NAME))) (pw_or1 (pt_cmpR op_in_seq (pv 0) (e_ktup T.WORDS) rfl))))) (pss_one (ps_ret pe_bl)) pss_nil)
      (pss_one (ps_ret (pe_callB (cr_all rfl) (by rfl) T.all bt_all (pa_cons (pe_lc (own := [("sign", 1)]) (g := gName 1) (tt := tYes) rfl nd (pi_str (pv 0)) (blkOk_by (N := N_is_name) (sc := defScope s_is_name) (by decide +kernel)) (fun _ _ _ _ _ => pg_name (i := 1) nd rfl (Or.inl rfl)) (fun _ _ _ _ _ => pts_nil) (fun _ _ _ _ _ => (pe_cmpR op_in_sign (pv 1) (e_const T.SMALL_LETTERS) rfl))) pa_nil))))), ?_⟩
  have h1 : ∀ t : TE, t = tCB (rIsi K) (tCons (tVar 0) (tCons (tC (.ty "str")) tNil)) → EvT (tB t) (L2.start N_is_name [v]) H (isStrD d) := by
    rintro t rfl
    exact EvE.vb (.of fun Q k => ⟨_, rfl, _, _, _, _, _, rfl, .ty _, Dp.ty hd, kit_ty (kit_str d), k⟩)
  by_cases hc : isStrD d = true
  · obtain ⟨x, rfl⟩ : ∃ x, d = .str x := by cases d <;> simp [isStrD] at hc; exact ⟨_, rfl⟩
    cases hd
    have hx := hs x rfl
    refine EvT.ifS (b := !(decide (1 ≤ x.length) && decide (x.length ≤ 8) && !(inV (.str x) (words.map V.str)))) (EvT.cast (EvT.or (h1 _ rfl).not fun _ H1 k1 => EvT.or (b1 := !(decide (1 ≤ x.length) && decide (x.length ≤ 8))) (EvT.not (.of fun Q k => ?_)) fun _ H2 k2 => EvE.test (b := inV (.str x) (words.map V.str)) (.of fun Q k => ?_)) ?_) (fun e H1 k1 => ?_) (fun e H1 k1 => ?_)
    · refine ⟨_, rfl, x, rfl, Nat.le_of_lt (small1000 hx), _, _, rfl, rfl, _, rfl, ?_⟩
      refine ite2 (fun c => ?_) (fun c => ?_)
      · refine ⟨_, _, rfl, rfl, _, rfl, ?_⟩
        have c' : 1 ≤ x.length := by have := of_decide_eq_true c; omega
        have e : decide ((x.length : Int) ≤ 8) = (decide (1 ≤ x.length) && decide (x.length ≤ 8)) := by simp [c']; omega
        rw [e]; exact k
      · have c' : ¬ 1 ≤ x.length := by intro z; exact c (decide_eq_true (by omega))
        refine ⟨_, rfl, ?_⟩
        simp only [c', decide_false, Bool.false_and] at k; exact k
    · refine ⟨_, rfl, fun a ha => ⟨a, _, rfl, .inr ha, rfl, rfl, k⟩⟩
    · simp [isStrD]
    · have e' : isNameD (.str x) = false := by
        simp only [isNameD, nmOk]
        simp only [Bool.not_eq_true'] at e
        rw [e]; rfl
      have := q H1 k1
      rw [e'] at this; exact this
    · simp only [Bool.not_eq_false'] at e
      have e' : isNameD (.str x) = x.cps.toList.all fun c => decide (c ∈ small.cps.toList) := by
        simp only [isNameD, nmOk]
        rw [e]; rfl
      refine ⟨_, rfl, _, rfl, fun L hL => lc_it (n := x.cps.size) walk_str (fun i H' => Kp [] H H' ∧ H' L = some (.lst (((x.cps.toList.take i).map fun c => decide (c ∈ small.cps.toList)).map V.bl))) ⟨k1.add hL, upd_same⟩ (fun _ _ _ _ => trivial) ?_ ?_⟩
      · rintro i y H2 _ hi ⟨k2, hL2⟩ ⟨rfl, c, hc, rfl⟩
        refine ⟨rfl, ?_⟩
        refine ⟨_, rfl, c, _, rfl, rfl, _, hL2, ?_, k2.put (k1.n _ hL), ?_⟩
        · simp only [List.length_map, List.length_take, Array.length_toList]
          have : x.cps.size ≤ 1000 := hx
          exact small1000 (by omega)
        · rw [upd_same]
          have hc' : x.cps.toList[i]? = some c := by rw [Array.getElem?_toList]; exact hc
          rw [List.take_add_one, hc']
          simp; rfl
      · rintro H2 ⟨k2, hL2⟩
        have e2 : x.cps.toList.take x.cps.size = x.cps.toList := List.take_of_length_le (by simp)
        rw [e2] at hL2
        refine ⟨L, _, rfl, SqL.of hL2, ?_⟩
        have := q H2 k2
        rw [e'] at this
        rw [List.all_map]; exact this
  · refine EvT.ifS (b := true) (EvT.cast (EvT.or (b2 := true) (h1 _ rfl).not fun e => ?_) ?_) (fun e H1 k1 => ?_) (fun e => by cases e)
    · simp [hc] at e
    · simp [hc]
    · have e' : isNameD d = false := by cases d <;> simp [isStrD] at hc <;> rfl
      have := q H1 k1
      rw [e'] at this; exact this
end
end N0

namespace N0
open PySem L2 PySem.Spec PyProof.Rows
mutual
def strsOk : PyData → Bool
  | .str s => decide (s.length ≤ 1000)
  | .list xs => strsOkAll xs
  | .tuple xs => strsOkAll xs
  | _ => true
def strsOkAll : List PyData → Bool
  | [] => true
  | d :: ds => strsOk d && strsOkAll ds
end
def isNodeL : List PyData → Bool
  | .str k :: r =>
    if inV (.str k) [.str "yes", .str "no"] = true then decide (V.int ((r.length + 1 : Nat) : Int) = .int 1)
    else if decide (V.str k = .str "letter") = true then decide (V.int ((r.length + 1 : Nat) : Int) = .int 2) && isNameD (r.headD .none)
    else (decide (V.str k = .str "not") && decide (V.int ((r.length + 1 : Nat) : Int) = .int 2)) || (inV (.str k) [.str "and", .str "or"] && decide (V.int ((r.length + 1 : Nat) : Int) = .int 3))
  | _ => false
def isNodeD : PyData → Bool
  | .tuple ds => isNodeL ds
  | _ => false
def hasKids (k : Str) : Bool := inV (.str k) [.str "not", .str "and", .str "or"]
def spIsNode (K : PySem.W.Frag) : Sp := fun vs H Q _ => ∃ (v : V) (d : PyData), vs = [v] ∧ Dp K H v d ∧ strsOk d = true ∧ ∀ H', Kp [] H H' → Q (.bl (isNodeD d)) H'
/-- the terms of which a node is made: a tuple of what stands behind its kind, or an empty one -/
def spTermsOf (K : PySem.W.Frag) : Sp := fun vs H Q _ => ∃ (a : Addr) (k : Str) (xs : List V), vs = [.ref a] ∧ SqT K H a (.str k :: xs) ∧
  ∀ H' b, Kp [] H H' → SqT K H' b (if hasKids k = true then xs else []) → Q (.ref b) H'
theorem dpAll_len {K : PySem.W.Frag} {H : Hp} : ∀ {xs : List V} {ds : List PyData}, DpAll K H xs ds → xs.length = ds.length
  | _, _, .nil => rfl
  | _, _, .cons _ t => by rw [List.length_cons, List.length_cons, dpAll_len t]
section
variable {P : Program} {w : World} {K : PySem.W.Frag} {mg : Str → Option Value} {base : Heap} {f : Addr} {fd : FuncData}
/-- x in (two or three written words), the tuple being new -/
theorem in_words {te : TE} {σ : L2.St} {H : Hp} {k : Str} {ws : List V} {ta : TA} (hk : EvE te σ H (.str k)) (hw : ws.all flatV = true) (hl : ws.length ≤ 100) (ha : ∀ (σ : L2.St) (H : Hp) (Q : List V → Hp → Prop), Q ws H → ta σ H Q) :
    EvE (tOp (rIn K false) te (tTup ta)) σ H (.bl (inV (.str k) ws)) := by
  intro Q q
  refine hk _ fun H1 k1 => ?_
  refine ha _ _ _ ⟨Nat.le_of_lt (small1000 (by omega)), fun p hp => ?_⟩
  exact ⟨p, ws, rfl, .inr (.inl (.inl upd_same)), rfl, hw, q _ (k1.add hp)⟩
theorem ok_is_node (F : Fun K "is_node" "is_node" s_is_node f fd) (T : Txt K mg) (D_is_name : Def P w K mg base "is_name" 1 ["value"] (spIsName K)) : FnOk P w K mg base CX0 2 f fd ["value"] (spIsNode K) := by
  refine F.ok sc_is_node (fun vs H Q E h => ?_) (fun cdv A outer s H vs Q E hr h => ?_)
  · obtain ⟨v, d, rfl, _⟩ := h
    rfl
  obtain ⟨v, d, rfl, hd, hs, q⟩ := h
  have nd := sc_is_node.nd
  refine ⟨_, (pss_cons (ps_if (PW.pt (pw_or (pt_not (pt_val (e_isi T (pa_cons (pv 0) (pa_cons (e_ty T.tuple bt_tuple) pa_nil))))) (pw_or (pt_cmpR op_eq (e_len T (pa_cons (pv 0) pa_nil)) pe_int (nomark _)) (pw_or1 (pt_not (pt_val (e_isi T (pa_cons (pe_ix ix_tup (pv 0) pe_int (fun _ _ => rfl)) (pa_cons (e_ty T.str bt_str) pa_nil))))))))) (pss_one (ps_ret pe_bl)) pss_nil)
      (pss_cons (ps_if (pt_cmpR op_in_seq (pe_ix ix_tup (pv 0) pe_int (fun _ _ => rfl)) (pe_tup (pa_cons pe_str (pa_cons pe_str pa_nil))) rfl) (pss_one (ps_ret (pe_cmpR op_eq (e_len T (pa_cons (pv 0) pa_nil)) pe_int (nomark _)))) pss_nil)
      (pss_cons (ps_if (pt_cmpR op_eq (pe_ix ix_tup (pv 0) pe_int (fun _ _ => rfl)) pe_str (nomark _)) (pss_one (ps_ret (pe_and (pe_cmpR op_eq (e_len T (pa_cons (pv 0) pa_nil)) pe_int (nomark _)) (pe_one (e_fn D_is_name (hr.mono (by omega)) (pa_cons (pe_ix ix_tup (pv 0) pe_int (fun _ _ => rfl)) pa_nil)))))) pss_nil)
      (pss_one (ps_ret (pe_or (pe_and (pe_cmpR op_eq (pe_ix ix_tup (pv 0) pe_int (fun _ _ => rfl)) pe_str (nomark _)) (pe_one (pe_cmpR op_eq (e_len T (pa_cons (pv 0) pa_nil)) pe_int (nomark _)))) (pe_one (pe_and (pe_cmpR op_in_seq (pe_ix ix_tup (pv 0) pe_int (fun _ _ => rfl)) (pe_tup (pa_cons pe_str (pa_cons pe_str pa_nil))) rfl) (pe_one (pe_cmpR op_eq (e_len T (pa_cons (pv 0) pa_nil)) pe_int (nomark _))))))))))), ?_⟩
  have h1 : ∀ t : TE, t = tCB (rIsi K) (tCons (tVar 0) (tCons (tC (.ty "tuple")) tNil)) → EvT (tB t) (L2.start N_is_node [v]) H (isTupD d) := by
    rintro t rfl
    exact EvE.vb (.of fun Q k => ⟨_, rfl, _, _, _, _, _, rfl, .ty _, Dp.ty hd, kit_ty (kit_tuple d), k⟩)
  by_cases hc : isTupD d = true
  · obtain ⟨ds, rfl⟩ : ∃ ds, d = .tuple ds := by cases d <;> simp [isTupD] at hc; exact ⟨_, rfl⟩
    cases hd with
    | @tup a xs _ ht ha =>
    have hlen := dpAll_len ha
    have hL : ∀ H1 : Hp, Kp [] H H1 → ∀ t : TE, t = tCB (fun xs H Q => ∃ p ys, xs = [.ref p] ∧ (SqL K H p ys ∨ SqT K H p ys) ∧ Q (.int ys.length) H) (tCons (tVar 0) tNil) → EvE t (L2.start N_is_node [.ref a]) H1 (.int (ds.length : Int)) := by
      rintro H1 k1 t rfl
      exact .of fun Q k => ⟨_, rfl, a, xs, rfl, .inr (N0.SqT.kp k1 ht), by rw [hlen]; exact k⟩
    cases ds with
    | nil =>
      refine EvT.ifS (b := true) (EvT.cast (EvT.or (b2 := true) (h1 _ rfl).not fun _ H1 k1 => EvT.cast (EvT.or (b1 := true) (b2 := true) (EvE.test fun Q k => hL H1 k1 _ rfl _ fun H2 k2 => ⟨rfl, k H2 k2⟩) (fun e => by cases e)) rfl) (by simp)) (fun e H1 k1 => ?_) (fun e => by cases e)
      exact q H1 k1
    | cons d0 r =>
      cases ha with
      | @cons x0 xr _ _ h0 hr0 =>
      have hI : ∀ H1 : Hp, Kp [] H H1 → ∀ t : TE, t = tOp (rIxT K) (tVar 0) (tC (.int 0)) → EvE t (L2.start N_is_node [.ref a]) H1 x0 := by
        rintro H1 k1 t rfl
        exact .of fun Q k => ⟨_, rfl, a, _, 0, x0, rfl, rfl, N0.SqT.kp k1 ht, atI_nat (j := 0) rfl, k⟩
      have h3 : ∀ H1 : Hp, Kp [] H H1 → ∀ t : TE, t = tCB (rIsi K) (tCons (tOp (rIxT K) (tVar 0) (tC (.int 0))) (tCons (tC (.ty "str")) tNil)) → EvT (tB t) (L2.start N_is_node [.ref a]) H1 (isStrD d0) := by
        rintro H1 k1 t rfl
        exact EvE.vb fun Q k => hI H1 k1 _ rfl _ fun H2 k2 => ⟨_, _, _, _, _, rfl, .ty _, Dp.ty (Dp.kp (k1.trans k2) h0), kit_ty (kit_str d0), k H2 k2⟩
      have hC : ∀ (H1 : Hp) (n : Int), Kp [] H H1 → ∀ t : TE, t = tOp rEq (tCB (fun xs H Q => ∃ p ys, xs = [.ref p] ∧ (SqL K H p ys ∨ SqT K H p ys) ∧ Q (.int ys.length) H) (tCons (tVar 0) tNil)) (tC (.int n)) →
          EvE t (L2.start N_is_node [.ref a]) H1 (.bl (decide (V.int ((r.length + 1 : Nat) : Int) = .int n))) := by
        rintro H1 n k1 t rfl
        exact fun Q k => hL H1 k1 _ rfl _ fun H2 k2 => ⟨rfl, k H2 k2⟩
      refine EvT.ifS (b := !(isStrD d0)) (EvT.cast (EvT.or (h1 _ rfl).not fun _ H1 k1 => EvT.or (b1 := false) (EvT.cast (EvE.test (hC H1 0 k1 _ rfl)) (by simp; omega)) fun _ H2 k2 => (h3 H2 (k1.trans k2) _ rfl).not) (by simp [isTupD])) (fun e H1 k1 => ?_) (fun e H1 k1 => ?_)
      · have e' : isNodeD (.tuple (d0 :: r)) = false := by
          cases d0 <;> simp [isStrD] at e <;> rfl
        have := q H1 k1
        rw [e'] at this; exact this
      · obtain ⟨k, rfl⟩ : ∃ k, d0 = .str k := by cases d0 <;> simp [isStrD] at e; exact ⟨_, rfl⟩
        cases h0
        have hE : ∀ (H1 : Hp) (z : Str), Kp [] H H1 → ∀ t : TE, t = tOp rEq (tOp (rIxT K) (tVar 0) (tC (.int 0))) (tC (.str z)) → EvE t (L2.start N_is_node [.ref a]) H1 (.bl (decide (V.str k = .str z))) := by
          rintro H1 z k1 t rfl
          exact fun Q q => hI H1 k1 _ rfl _ fun H2 k2 => ⟨rfl, q H2 k2⟩
        refine EvT.ifS (b := inV (.str k) [.str "yes", .str "no"]) (EvE.test (in_words (hI H1 k1 _ rfl) rfl (by decide) fun σ H Q q => q)) (fun e2 H2 k2 => ?_) (fun e2 H2 k2 => ?_)
        · refine hC H2 1 (k1.trans k2) _ rfl _ fun H3 k3 => ?_
          have := q H3 (k1.trans (k2.trans k3))
          simp only [isNodeD, isNodeL, e2, if_true] at this
          exact this
        · have k12 := k1.trans k2
          refine EvT.ifS (b := decide (V.str k = .str "letter")) (EvE.test (hE H2 _ k12 _ rfl)) (fun e3 H3 k3 => ?_) (fun e3 H3 k3 => ?_)
          · have k13 := k12.trans k3
            refine EvE.andV (hC H3 2 k13 _ rfl) (b2 := isNameD (r.headD .none)) (fun e4 H4 k4 => ?_) _ fun H4 k4 => ?_
            · have hr1 : r.length = 1 := by simp at e4; omega
              obtain ⟨d1, rfl⟩ := List.length_eq_one_iff.mp hr1
              cases hr0 with
              | @cons x1 _ _ _ h1 hr1 =>
              cases hr1
              intro Q1 q1
              refine ⟨_, rfl, a, _, 1, x1, rfl, rfl, N0.SqT.kp (k13.trans k4) ht, atI_nat (j := 1) rfl, ?_⟩
              refine ⟨x1, d1, rfl, Dp.kp (k13.trans k4) h1, fun s es => ?_, fun H5 k5 => q1 H5 k5⟩
              subst es
              simp [strsOk, strsOkAll] at hs
              exact hs.2
            · have := q H4 (k13.trans k4)
              simp only [isNodeD, isNodeL, e2, e3, if_true, Bool.false_eq_true, if_false] at this
              exact this
          · have k13 := k12.trans k3
            refine EvE.orV (EvE.andV (hE H3 _ k13 _ rfl) fun _ H4 k4 => hC H4 2 (k13.trans k4) _ rfl)
              (fun _ H4 k4 => EvE.andV (in_words (hI H4 (k13.trans k4) _ rfl) rfl (by decide) fun σ H Q q => q) fun _ H5 k5 => hC H5 3 (k13.trans (k4.trans k5)) _ rfl) _ fun H4 k4 => ?_
            have := q H4 (k13.trans k4)
            simp only [isNodeD, isNodeL, e2, e3, Bool.false_eq_true, if_false] at this
            exact this
  · refine EvT.ifS (b := true) (EvT.cast (EvT.or (b2 := true) (h1 _ rfl).not fun e => ?_) ?_) (fun e H1 k1 => ?_) (fun e => by cases e)
    · simp [hc] at e
    · simp [hc]
    · have e' : isNodeD d = false := by cases d <;> simp [isTupD] at hc <;> rfl
      have := q H1 k1
      rw [e'] at this; exact this
end
end N0

namespace N0
open PySem L2 PySem.Spec PyProof.Rows
theorem cut_tail (x : V) (xs : List V) : cutV (x :: xs) (some 1) none = xs ∧ ¬ (HT.sIx (x :: xs).length 0 (some 1) = 0 ∧ HT.sIx (x :: xs).length (x :: xs).length none = (x :: xs).length) := by
  have h1 : HT.sIx (x :: xs).length 0 (some ((1 : Nat) : Int)) = 1 := by rw [HT.sIx_nat]; simp
  have h1' : HT.sIx (x :: xs).length 0 (some 1) = 1 := h1
  have h2 : HT.sIx (x :: xs).length (x :: xs).length none = (x :: xs).length := rfl
  refine ⟨?_, fun h => by rw [h1'] at h; exact absurd h.1 (by decide)⟩
  unfold cutV
  rw [h1', h2]
  simp
section
variable {P : Program} {w : World} {K : PySem.W.Frag} {mg : Str → Option Value} {base : Heap} {f : Addr} {fd : FuncData}
theorem ok_terms_of (F : Fun K "terms_of" "terms_of" s_terms_of f fd) (T : Txt K mg) : FnOk P w K mg base CX0 1 f fd ["term"] (spTermsOf K) := by
  refine F.ok sc_terms_of (fun vs H Q E h => ?_) (fun cdv A outer s H vs Q E hr h => ?_)
  · obtain ⟨a, k, xs, rfl, _⟩ := h
    rfl
  obtain ⟨a, k, xs, rfl, ht, q⟩ := h
  have nd := sc_terms_of.nd
  refine ⟨_, (pss_one (ps_ret (pe_ifExp (pt_cmpR op_in_seq (pe_ix ix_tup (pv 0) pe_int (fun _ _ => rfl)) (pe_tup (pa_cons pe_str (pa_cons pe_str (pa_cons pe_str pa_nil)))) rfl) (pe_slice sl_tupA (pv 0) (po_some pe_int) po_none) (pe_tup pa_nil)))), ?_⟩
  have hI : ∀ H1 : Hp, Kp [] H H1 → ∀ t : TE, t = tOp (rIxT K) (tVar 0) (tC (.int 0)) → EvE t (L2.start N_terms_of [.ref a]) H1 (.str k) := by
    rintro H1 k1 t rfl
    exact .of fun Q k => ⟨_, rfl, a, _, 0, _, rfl, rfl, N0.SqT.kp k1 ht, atI_nat (j := 0) rfl, k⟩
  refine EvT.ifE (b := hasKids k) (EvE.test (in_words (hI H (Kp.refl _ _) _ rfl) rfl (by decide) fun σ H Q q => q)) (fun e H1 k1 => ?_) (fun e H1 k1 => ?_)
  · refine ⟨_, rfl, _, rfl, a, _, rfl, N0.SqT.kp k1 ht, fun z => absurd z (cut_tail _ xs).2, fun _ p hp => q _ p (k1.add hp) ?_⟩
    rw [if_pos e, (cut_tail _ xs).1]
    exact .inl (.inl upd_same)
  · refine ⟨Nat.zero_le _, fun p hp => q _ p (k1.add hp) ?_⟩
    rw [if_neg (by rw [e]; decide)]
    exact .inl (.inl upd_same)
end

/-! ### data, going down -/
mutual
def nsz : PyData → Nat
  | .list xs => nszAll xs + 1
  | .tuple xs => nszAll xs + 1
  | _ => 1
def nszAll : List PyData → Nat
  | [] => 0
  | d :: ds => nsz d + nszAll ds
end
def kidsD : PyData → List PyData
  | .tuple (.str k :: r) => if hasKids k = true then r else []
  | _ => []
mutual
def wfD : PyData → Bool
  | .tuple xs => isNodeL xs && wfL xs
  | _ => false
def wfL : List PyData → Bool
  | .str k :: r => if hasKids k = true then wfAll r else true
  | _ => true
def wfAll : List PyData → Bool
  | [] => true
  | d :: ds => wfD d && wfAll ds
end
theorem wfD_eq (d : PyData) : wfD d = (isNodeD d && wfAll (kidsD d)) := by
  cases d with
  | tuple xs =>
    cases xs with
    | nil => rfl
    | cons x r =>
      cases x with
      | str k =>
        rw [wfD]
        have e1 : isNodeD (.tuple (.str k :: r)) = isNodeL (.str k :: r) := rfl
        have e2 : wfL (.str k :: r) = wfAll (kidsD (.tuple (.str k :: r))) := by
          rw [wfL, kidsD]
          split <;> rfl
        rw [e1, e2]
      | _ => rw [wfD]; rfl
  | _ => rfl
theorem kids_nsz (d : PyData) : nszAll (kidsD d) < nsz d := by
  cases d with
  | tuple xs =>
    cases xs with
    | nil => simp [kidsD, nszAll, nsz]
    | cons x r =>
      cases x <;> simp only [kidsD, nszAll, nsz] <;> try omega
      split
      · omega
      · simp only [nszAll]; omega
  | list xs => simp [kidsD, nszAll, nsz]
  | _ => simp [kidsD, nszAll, nsz]
theorem nszAll_app : ∀ (a b : List PyData), nszAll (a ++ b) = nszAll a + nszAll b
  | [], b => by simp [nszAll]
  | x :: a, b => by rw [List.cons_append, nszAll, nszAll, nszAll_app a b]; omega
theorem wfAll_app : ∀ (a b : List PyData), wfAll (a ++ b) = (wfAll a && wfAll b)
  | [], b => by simp [wfAll]
  | x :: a, b => by rw [List.cons_append, wfAll, wfAll, wfAll_app a b, Bool.and_assoc]
theorem strsAll_iff : ∀ (ds : List PyData), strsOkAll ds = true ↔ ∀ d ∈ ds, strsOk d = true
  | [] => by simp [strsOkAll]
  | d :: ds => by rw [strsOkAll, Bool.and_eq_true, strsAll_iff ds]; simp
theorem wfAll_iff : ∀ (ds : List PyData), wfAll ds = true ↔ ∀ d ∈ ds, wfD d = true
  | [] => by simp [wfAll]
  | d :: ds => by rw [wfAll, Bool.and_eq_true, wfAll_iff ds]; simp
theorem kids_strs {d : PyData} (h : strsOk d = true) : ∀ k ∈ kidsD d, strsOk k = true := by
  intro k hk
  cases d with
  | tuple xs =>
    cases xs with
    | nil => cases hk
    | cons x r =>
      cases x <;> simp only [kidsD] at hk <;> try cases hk
      split at hk
      · simp only [strsOk, strsOkAll, Bool.and_eq_true] at h
        exact (strsAll_iff r).mp h.2 k hk
      · cases hk
  | _ => simp [kidsD] at hk
theorem dpAll_get {K : PySem.W.Frag} {H : Hp} : ∀ {xs : List V} {ds : List PyData} {i : Nat} {d : PyData}, DpAll K H xs ds → ds[i]? = some d → ∃ x, xs[i]? = some x ∧ Dp K H x d
  | _, _, _, _, .nil, h => by simp at h
  | _, _, 0, _, .cons h t, e => by simp at e; subst e; exact ⟨_, rfl, h⟩
  | _, _, i + 1, _, .cons h t, e => by
    obtain ⟨x, h1, h2⟩ := dpAll_get (i := i) t (by simpa using e)
    exact ⟨x, by simpa using h1, h2⟩
end N0

namespace N0
open PySem L2 PySem.Spec PyProof.Rows
/-- a pair awaited: data of the heap H0, its place -/
def Wt (K : PySem.W.Frag) (H0 H : Hp) (v : V) (d : PyData) (n : Nat) : Prop := ∃ (p : Addr) (x : V) (a : Addr) (pl : List V), v = .ref p ∧ H p = some (.tup [x, .ref a]) ∧ Dp K H0 x d ∧ H a = some (.tup pl) ∧ pl.length + nsz d ≤ n
theorem Wt.kp {K : PySem.W.Frag} {H0 H H' : Hp} {S : List Addr} {v : V} {d : PyData} {n : Nat} (k : Kp S H H') : Wt K H0 H v d n → Wt K H0 H' v d n
  | ⟨p, x, a, pl, e, h1, h2, h3, h4⟩ => ⟨p, x, a, pl, e, k.t _ _ h1, h2, k.t _ _ h3, h4⟩
inductive Wts (K : PySem.W.Frag) (H0 H : Hp) (n : Nat) : List V → List PyData → Prop
  | nil : Wts K H0 H n [] []
  | snoc {vs : List V} {ds : List PyData} {v : V} {d : PyData} : Wts K H0 H n vs ds → Wt K H0 H v d n → Wts K H0 H n (vs ++ [v]) (ds ++ [d])
theorem Wts.kp {K : PySem.W.Frag} {H0 H H' : Hp} {S : List Addr} {n : Nat} (k : Kp S H H') {vs : List V} {ds : List PyData} (h : Wts K H0 H n vs ds) : Wts K H0 H' n vs ds := by
  induction h with
  | nil => exact .nil
  | snoc _ h2 ih => exact .snoc ih (h2.kp k)
theorem Wts.len {K : PySem.W.Frag} {H0 H : Hp} {n : Nat} {vs : List V} {ds : List PyData} (h : Wts K H0 H n vs ds) : vs.length = ds.length := by
  induction h with
  | nil => rfl
  | snoc _ _ ih => simp [ih]
theorem nsz_pos (d : PyData) : 1 ≤ nsz d := by cases d <;> simp [nsz]
theorem nszAll_len : ∀ ds : List PyData, ds.length ≤ nszAll ds
  | [] => Nat.zero_le _
  | d :: ds => by have := nszAll_len ds; have := nsz_pos d; rw [List.length_cons, nszAll]; omega
theorem nszAll_mem : ∀ {ds : List PyData} {d : PyData}, d ∈ ds → nsz d ≤ nszAll ds
  | x :: ds, d, h => by
    rcases List.mem_cons.mp h with rfl | q
    · rw [nszAll]; omega
    · have := nszAll_mem q; rw [nszAll]; omega
theorem nszAll_perm {a b : List PyData} (h : a.Perm b) : nszAll a = nszAll b := by
  induction h with
  | nil => rfl
  | cons x _ ih => simp only [nszAll, ih]
  | swap x y l => simp only [nszAll]; omega
  | trans _ _ h1 h2 => rw [h1, h2]
theorem wts_pop {K : PySem.W.Frag} {H0 H : Hp} {n : Nat} {vs : List V} {ds : List PyData} (h : Wts K H0 H n vs ds) (hne : vs ≠ []) : ∃ v d vs' ds', vs = vs' ++ [v] ∧ ds = ds' ++ [d] ∧ Wt K H0 H v d n ∧ Wts K H0 H n vs' ds' := by
  cases h with
  | nil => exact absurd rfl hne
  | snoc h1 h2 => exact ⟨_, _, _, _, rfl, rfl, h2, h1⟩
def spWrong (K : PySem.W.Frag) : Sp := fun vs H Q _ => ∃ (v : V) (d : PyData), vs = [v] ∧ Dp K H v d ∧ strsOk d = true ∧ nsz d ≤ 10000 ∧
  ∀ H' r, Kp [] H H' → (wfD d = true → r = .non) → (wfD d = false → ∃ a, r = .ref a) → Q r H'
theorem small_le {n : Nat} (h : n ≤ 1000000) : n ≤ sizeLine := Nat.le_trans h (by rw [sizeLine_eq]; decide)
theorem small_lt {n : Nat} (h : n ≤ 1000000) : n < sizeLine := Nat.lt_of_le_of_lt h (by rw [sizeLine_eq]; decide)
theorem tupT {K : PySem.W.Frag} {H : Hp} {a : Addr} {xs : List V} (h : H a = some (.tup xs)) : SqT K H a xs := .inl (.inl h)
/-- the sum of two tracked tuples is a tracked tuple -/
theorem catT {K : PySem.W.Frag} {H : Hp} {a b : Addr} {xs ys : List V} {Q : VK} (ha : H a = some (.tup xs)) (hb : H b = some (.tup ys)) (hl : xs.length + ys.length ≤ 1000000)
    (q : ∀ p H', Kp [] H H' → H' p = some (.tup (xs ++ ys)) → Q (.ref p) H') : rCatA K (.ref a) (.ref b) H Q := by
  refine ⟨a, b, xs, ys, rfl, rfl, tupT ha, tupT hb, small_le hl, fun e => ?_, fun _ e => ?_, fun _ _ p hp => q p _ (Kp.new hp) upd_same⟩
  · subst e; exact q b H (Kp.refl _ _) hb
  · subst e; exact q a H (Kp.refl _ _) (by rw [List.append_nil]; exact ha)
section
variable {P : Program} {w : World} {K : PySem.W.Frag} {mg : Str → Option Value} {base : Heap} {f : Addr} {fd : FuncData}
theorem ok_wrong_place (F : Fun K "wrong_place" "wrong_place" s_wrong_place f fd) (T : Txt K mg) (D_is_node : Def P w K mg base "is_node" 2 ["value"] (spIsNode K)) (D_terms_of : Def P w K mg base "terms_of" 1 ["term"] (spTermsOf K)) :
    FnOk P w K mg base CX0 3 f fd ["value"] (spWrong K) := by
  refine F.ok sc_wrong_place (fun vs H Q E h => ?_) (fun cdv A outer s H vs Q E hr h => ?_)
  · obtain ⟨v, d, rfl, _⟩ := h
    rfl
  obtain ⟨v, d, rfl, hd, hs, hn, q⟩ := h
  have nd := sc_wrong_place.nd
  refine ⟨_, (pss_cons (ps_set (i := 1) nd rfl (Or.inl rfl) (pe_lst (pa_cons (pe_tup (pa_cons (pv 0) (pa_cons (pe_tup pa_nil) pa_nil))) pa_nil)))
      (pss_cons (ps_while PassesOwn.never (pt_cmpR (op_neNil hr.units0) (pv 1) (pe_lst pa_nil) (nomark _)) (pss_cons (ps_asg (pe_bm0 PySem.F.plainAttrs_list PySem.F.slot_list_pop PySem.F.type_list_pop mt_pop (pv 1)) (pg_tup rfl (pgs_cons (pg_name (i := 2) nd rfl (Or.inl rfl)) (pgs_cons (pg_name (i := 3) nd rfl (Or.inl rfl)) pgs_nil))))
      (pss_cons (ps_if (pt_not (pt_val (e_fn D_is_node (hr.mono (by omega)) (pa_cons (pv 2) pa_nil)))) (pss_one (ps_ret (pv 3))) pss_nil)
      (pss_cons (ps_set (i := 4) nd rfl (Or.inl rfl) (e_fn D_terms_of (hr.mono (by omega)) (pa_cons (pv 2) pa_nil)))
      (pss_one (ps_for PassesOwn.never rfl (pi_range3 rfl T.range (pa_cons (pe_op op_sub (e_len T (pa_cons (pv 4) pa_nil)) pe_int) (pa_cons (pe_un un_neg pe_int) (pa_cons (pe_un un_neg pe_int) pa_nil)))) (pg_name (i := 5) nd rfl (Or.inl rfl)) (pss_one (ps_expr (pe_bm PySem.F.plainAttrs_list PySem.F.slot_list_append PySem.F.type_list_append mt_append (pv 1) (pa_cons (pe_tup (pa_cons (pe_ix ix_tup (pv 4) (pv 5) (fun _ _ => rfl)) (pa_cons (pe_op op_catA (pv 3) (pe_tup (pa_cons (pv 5) pa_nil))) pa_nil))) pa_nil))))))))))
      (pss_one (ps_ret pe_non)))), ?_⟩
  refine ⟨_, rfl, Nat.zero_le _, fun e0 he => ⟨small_le (by simp), fun p0 hp => ⟨small_le (by simp), fun L hL => ?_⟩⟩⟩
  have k0 : Kp [] H (upd (upd (upd H e0 (.tup [])) p0 (.tup [v, .ref e0])) L (.lst [.ref p0])) := ((Kp.new he).add hp).add hL
  have hp0 : (upd (upd (upd H e0 (.tup [])) p0 (.tup [v, .ref e0])) L (.lst [.ref p0])) p0 = some (.tup [v, .ref e0]) := by
    rw [upd_ne (ne_of_none upd_same hL)]; exact upd_same
  have he0 : (upd (upd (upd H e0 (.tup [])) p0 (.tup [v, .ref e0])) L (.lst [.ref p0])) e0 = some (.tup []) := by
    have h1 : (upd (upd H e0 (.tup [])) p0 (.tup [v, .ref e0])) e0 = some (.tup []) := by rw [upd_ne (ne_of_none upd_same hp)]; exact upd_same
    rw [upd_ne (ne_of_none h1 hL)]; exact h1
  have hLn : H L = none := ((Kp.new (S := []) he).add hp).n _ hL
  refine ⟨fun m σ H' => ∃ (ws : List V) (ds : List PyData) (o2 o3 o4 o5 : Option V), σ = [some v, some (.ref L), o2, o3, o4, o5] ∧ Kp [] H H' ∧ H' L = some (.lst ws) ∧ Wts K H H' (nsz d) ws ds ∧ (∀ x ∈ ds, strsOk x = true) ∧ wfD d = wfAll ds ∧ nszAll ds ≤ nsz d ∧ m = nszAll ds,
    ⟨_, [.ref p0], [d], none, none, none, none, rfl, k0, upd_same, .snoc .nil ⟨p0, v, e0, [], rfl, hp0, hd, he0, by simp⟩, by simpa using hs, by simp [wfAll], by simp [nszAll], rfl⟩, ?_⟩
  rintro m σ H1 ⟨ws, ds, o2, o3, o4, o5, rfl, k1, hL1, hW, hS, hwf, hsz, rfl⟩
  have hlen : ws.length ≤ 10000 := by have := hW.len; have := nszAll_len ds; omega
  refine ⟨_, rfl, Nat.zero_le _, fun e1 he1 => ?_⟩
  have k2 : Kp [] H1 (upd H1 e1 (.lst [])) := Kp.new he1
  have hL2 : upd H1 e1 (.lst []) L = some (.lst ws) := k2.k _ _ (by simp) hL1
  refine ⟨L, e1, ws, rfl, rfl, SqL.of hL2, SqL.of upd_same, _, rfl, ?_⟩
  refine ite2 (fun c => ?_) (fun c => ?_)
  · have hne : ws ≠ [] := by intro e; subst e; cases c
    obtain ⟨x, d0, ws', ds', rfl, rfl, hx, hW'⟩ := wts_pop hW hne
    obtain ⟨p, y, a, pl, rfl, hp1, hy, ha1, hpl⟩ := hx.kp k2
    refine ⟨fun σ' H' => ∃ m', m' < nszAll (ds' ++ [d0]) ∧ ∃ (ws : List V) (ds : List PyData) (o2 o3 o4 o5 : Option V), σ' = [some v, some (.ref L), o2, o3, o4, o5] ∧ Kp [] H H' ∧ H' L = some (.lst ws) ∧ Wts K H H' (nsz d) ws ds ∧ (∀ x ∈ ds, strsOk x = true) ∧ wfD d = wfAll ds ∧ nszAll ds ≤ nsz d ∧ m' = nszAll ds, fun σ' H' h => h, ?_⟩
    refine ⟨_, rfl, .inl ⟨rfl, _, SqL.of hL2⟩, L, _, .ref p, rfl, rfl, hL2, by simp, ?_⟩
    rw [List.dropLast_concat]
    have k3 : Kp [] H (upd (upd H1 e1 (.lst [])) L (.lst ws')) := (k1.trans k2).put hLn
    have kL : Kp [L] (upd H1 e1 (.lst [])) (upd (upd H1 e1 (.lst [])) L (.lst ws')) := (Kp.refl _ _).wr (by simp) hL2 (by intro xs z; cases z)
    have hp3 := kL.t _ _ hp1
    have ha3 := kL.t _ _ ha1
    have hW3 := (hW'.kp k2).kp kL
    generalize hH3 : upd (upd H1 e1 (.lst [])) L (.lst ws') = H3 at k3 hp3 ha3 hW3 ⊢
    have hL3 : H3 L = some (.lst ws') := by rw [← hH3]; exact upd_same
    refine ⟨p, _, rfl, tupT hp3, rfl, _, _, rfl, _, _, rfl, rfl, ?_⟩
    have hs0 : strsOk d0 = true := hS d0 (by simp)
    refine ⟨_, rfl, y, d0, rfl, Dp.kp k3 hy, hs0, fun H4 k4 => ⟨_, rfl, ?_⟩⟩
    have k04 := k3.trans k4
    rw [nszAll_app, nszAll, nszAll] at hsz
    rw [wfAll_app, wfAll, wfAll, Bool.and_true] at hwf
    refine ite2 (fun c2 => ?_) (fun c2 => ?_)
    · -- not a node: its place
      have hw0 : wfD d = false := by
        rw [hwf, wfD_eq d0]
        simp only [Bool.not_eq_true'] at c2
        rw [c2]; simp
      refine ⟨_, rfl, q _ _ k04 (fun z => by rw [hw0] at z; cases z) (fun _ => ⟨a, rfl⟩)⟩
    · simp only [Bool.not_eq_true', Bool.not_eq_false] at c2
      obtain ⟨k, r, rfl⟩ : ∃ k r, d0 = .tuple (.str k :: r) := by
        cases d0 <;> try simp [isNodeD] at c2
        rename_i zs
        cases zs with
        | nil => simp [isNodeD, isNodeL] at c2
        | cons z zs => cases z <;> simp [isNodeD, isNodeL] at c2; exact ⟨_, _, rfl⟩
      cases hy with
      | @tup ay xs _ hty hay =>
      cases hay with
      | @cons x0 xr _ _ hx0 hxr =>
      cases hx0
      refine ⟨_, rfl, ay, k, xr, rfl, N0.SqT.kp k04 hty, fun H5 b k5 hb => ?_⟩
      have k05 := k04.trans k5
      have hW5 := (hW3.kp k4).kp k5
      have hL5 : H5 L = some (.lst ws') := k5.k _ _ (by simp) (k4.k _ _ (by simp) hL3)
      have ha5 := k5.t _ _ (k4.t _ _ ha3)
      -- the kids
      obtain ⟨ks, hks, hkd⟩ : ∃ ks, (if hasKids k = true then xr else []) = ks ∧ DpAll K H ks (kidsD (.tuple (.str k :: r))) := by
        refine ⟨_, rfl, ?_⟩
        rw [kidsD]
        split
        · exact hxr
        · exact .nil
      rw [hks] at hb
      have hkl := dpAll_len hkd
      have hkn := kids_nsz (.tuple (.str k :: r))
      have hkk := nszAll_len (kidsD (.tuple (.str k :: r)))
      refine ⟨_, rfl, b, _, rfl, .inr hb, _, _, rfl, rfl, _, rfl, _, rfl, _, _, _, _, rfl, RgC.neg (by omega) (by omega) (by decide) (by decide), ?_⟩
      have hn' : ((ks.length : Int) - 1 - (-1)).toNat = ks.length := by omega
      rw [hn']
      refine for_rangeC (lo := (ks.length : Int) - 1) (c := -1) (n := ks.length) (fun i σ H' => ∃ (ws : List V) (o5 : Option V), σ = [some v, some (.ref L), some (.ref ay), some (.ref a), some (.ref b), o5] ∧ Kp [] H H' ∧ Kp [L] H5 H' ∧ H' L = some (.lst ws) ∧ Wts K H H' (nsz d) ws (ds' ++ (kidsD (.tuple (.str k :: r))).reverse.take i))
        ⟨ws', _, rfl, k05, Kp.refl _ _, hL5, by simpa using hW5⟩ ?_ ?_
      · rintro i σ H6 hi ⟨ws6, o5, rfl, k6, k56, hL6, hW6⟩
        obtain ⟨dk, hdk⟩ : ∃ dk, (kidsD (.tuple (.str k :: r)))[ks.length - 1 - i]? = some dk := ⟨_, List.getElem?_eq_getElem (by omega)⟩
        obtain ⟨xk, hxk, hxd⟩ := dpAll_get hkd hdk
        have ha6 := k56.t _ _ ha5
        have hb6 : SqT K H6 b ks := by
          rcases hb with (hb | ⟨o, hb⟩) | hb
          · exact .inl (.inl (k56.t _ _ hb))
          · refine .inl (.inr ⟨o, k56.k _ _ ?_ hb⟩)
            intro z
            simp only [List.mem_singleton] at z
            rw [z, hL5] at hb; cases hb
          · exact .inr hb
        have hnum : (ks.length : Int) - 1 + (i : Int) * -1 = ((ks.length - 1 - i : Nat) : Int) := by omega
        refine ⟨_, rfl, .inl ⟨rfl, _, SqL.of hL6⟩, _, rfl, _, rfl, b, ks, _, xk, rfl, rfl, hb6, by rw [hnum]; exact atI_nat hxk, _, rfl, _, rfl, small_le (by simp), fun p7 hp7 => ?_⟩
        have k7 : Kp [] H6 (upd H6 p7 (.tup [.int ((ks.length : Int) - 1 + (i : Int) * -1)])) := Kp.new hp7
        refine catT (k7.t _ _ ha6) upd_same (by simp; omega) fun p8 H8 k8 hp8 => ⟨small_le (by simp), fun p9 hp9 => ?_⟩
        have k69 := (k7.trans k8).add hp9 (o := .tup [xk, .ref p8])
        have hL9 := k69.k _ _ (by simp) hL6
        refine ⟨L, ws6, _, rfl, rfl, hL9, ?_, ?_⟩
        · have h1 := hW6.len
          have h2 := nszAll_len ds'
          refine small_lt ?_
          rw [h1, List.length_append, List.length_take, List.length_reverse]
          omega
        · have kw : Kp [L] (upd H8 p9 (.tup [xk, .ref p8])) (upd (upd H8 p9 (.tup [xk, .ref p8])) L (.lst (ws6 ++ [.ref p9]))) := (Kp.refl _ _).wr (by simp) hL9 (by intro xs z; cases z)
          refine ⟨_, _, rfl, (k6.trans k69).put hLn, (k56.trans k69.mono0).trans kw, upd_same, ?_⟩
          have e9 : (kidsD (.tuple (.str k :: r))).reverse.take (i + 1) = (kidsD (.tuple (.str k :: r))).reverse.take i ++ [dk] := by
            rw [List.take_add_one]
            have : (kidsD (.tuple (.str k :: r))).reverse[i]? = some dk := by
              rw [List.getElem?_reverse (by omega), ← hkl]; exact hdk
            rw [this]; rfl
          rw [e9, ← List.append_assoc]
          refine .snoc ((hW6.kp k69).kp kw) ⟨p9, xk, p8, _, rfl, kw.t _ _ upd_same, hxd, kw.t _ _ (((Kp.refl [] _).add hp9).t _ _ hp8), ?_⟩
          have := nszAll_mem (List.mem_of_getElem? hdk)
          simp only [List.length_append, List.length_singleton]
          omega
      · rintro σ H6 ⟨ws6, o5, rfl, k6, k56, hL6, hW6⟩
        rw [List.take_of_length_le (by simp; omega)] at hW6
        have hrev : nszAll (kidsD (.tuple (.str k :: r))).reverse = nszAll (kidsD (.tuple (.str k :: r))) := nszAll_perm (List.reverse_perm _)
        refine ⟨nszAll (ds' ++ (kidsD (.tuple (.str k :: r))).reverse), ?_, ws6, _, _, _, _, _, rfl, k6, hL6, hW6, ?_, ?_, ?_, rfl⟩
        · rw [nszAll_app, nszAll_app, hrev]; simp only [nszAll]; omega
        · intro x hx
          rcases List.mem_append.mp hx with h | h
          · exact hS x (by simp [h])
          · exact kids_strs hs0 x (by simpa using h)
        · have e1 : wfAll (kidsD (.tuple (.str k :: r))).reverse = wfAll (kidsD (.tuple (.str k :: r))) := by
            rw [Bool.eq_iff_iff, wfAll_iff, wfAll_iff]; simp
          rw [hwf, wfAll_app, e1, wfD_eq (.tuple (.str k :: r)), c2]; simp
        · rw [nszAll_app, hrev]; omega
  · have e : ws = [] := by
      cases ws with
      | nil => rfl
      | cons z zs => exact absurd rfl c
    subst e
    have : ds = [] := by have := hW.len; exact List.length_eq_zero_iff.mp this.symm
    subst this
    exact q _ _ (k1.trans k2) (fun _ => rfl) (fun z => by rw [hwf] at z; cases z)
end
end N0

namespace N0
open PySem L2 PySem.Spec PyProof.Rows
namespace Tm
def wd : Tm → Str
  | .yes => "yes" | .no => "no" | .letter _ => "letter" | .not _ => "not" | .and _ _ => "and" | .or _ _ => "or"
def nok : Tm → Bool
  | .letter s => nmOk s
  | .not a => a.nok
  | .and a b => a.nok && b.nok
  | .or a b => a.nok && b.nok
  | _ => true
def toD : Tm → PyData
  | .yes => .tuple [.str "yes"]
  | .no => .tuple [.str "no"]
  | .letter s => .tuple [.str "letter", .str s]
  | .not a => .tuple [.str "not", a.toD]
  | .and a b => .tuple [.str "and", a.toD, b.toD]
  | .or a b => .tuple [.str "or", a.toD, b.toD]
end Tm
/-- the term stands at the value -/
def TmV (H : Hp) : Tm → V → Prop
  | .yes, v => ∃ a, v = .ref a ∧ H a = some (.tup [.str "yes"])
  | .no, v => ∃ a, v = .ref a ∧ H a = some (.tup [.str "no"])
  | .letter s, v => ∃ a, v = .ref a ∧ H a = some (.tup [.str "letter", .str s])
  | .not t, v => ∃ a x, v = .ref a ∧ H a = some (.tup [.str "not", x]) ∧ TmV H t x
  | .and t u, v => ∃ a x y, v = .ref a ∧ H a = some (.tup [.str "and", x, y]) ∧ TmV H t x ∧ TmV H u y
  | .or t u, v => ∃ a x y, v = .ref a ∧ H a = some (.tup [.str "or", x, y]) ∧ TmV H t x ∧ TmV H u y
def TmVs (H : Hp) : List Tm → List V → Prop
  | [], [] => True
  | t :: ts, v :: vs => TmV H t v ∧ TmVs H ts vs
  | _, _ => False
theorem TmV.kp {S : List Addr} {H H' : Hp} (k : Kp S H H') : ∀ {t : Tm} {v : V}, TmV H t v → TmV H' t v
  | .yes, _, ⟨a, e, h⟩ => ⟨a, e, k.t _ _ h⟩
  | .no, _, ⟨a, e, h⟩ => ⟨a, e, k.t _ _ h⟩
  | .letter s, _, ⟨a, e, h⟩ => ⟨a, e, k.t _ _ h⟩
  | .not t, _, ⟨a, x, e, h, h1⟩ => ⟨a, x, e, k.t _ _ h, TmV.kp k h1⟩
  | .and t u, _, ⟨a, x, y, e, h, h1, h2⟩ => ⟨a, x, y, e, k.t _ _ h, TmV.kp k h1, TmV.kp k h2⟩
  | .or t u, _, ⟨a, x, y, e, h, h1, h2⟩ => ⟨a, x, y, e, k.t _ _ h, TmV.kp k h1, TmV.kp k h2⟩
theorem TmVs.kp {S : List Addr} {H H' : Hp} (k : Kp S H H') : ∀ {ts : List Tm} {vs : List V}, TmVs H ts vs → TmVs H' ts vs
  | [], [], _ => trivial
  | _ :: _, _ :: _, ⟨h, r⟩ => ⟨TmV.kp k h, TmVs.kp k r⟩
theorem TmVs.len {H : Hp} : ∀ {ts : List Tm} {vs : List V}, TmVs H ts vs → vs.length = ts.length
  | [], [], _ => rfl
  | _ :: ts, _ :: vs, ⟨_, r⟩ => by rw [List.length_cons, List.length_cons, TmVs.len r]
theorem TmVs.get {H : Hp} : ∀ {ts : List Tm} {vs : List V} {i : Nat} {v : V}, TmVs H ts vs → vs[i]? = some v → ∃ t, ts[i]? = some t ∧ TmV H t v
  | [], [], _, _, _, h => by simp at h
  | t :: _, v :: _, 0, _, ⟨h, _⟩, e => by simp at e; subst e; exact ⟨t, rfl, h⟩
  | _ :: ts, _ :: vs, i + 1, _, ⟨_, r⟩, e => by
    obtain ⟨t, h1, h2⟩ := TmVs.get (i := i) r (by simpa using e)
    exact ⟨t, by simpa using h1, h2⟩
theorem TmVs.at {H : Hp} : ∀ {ts : List Tm} {vs : List V} {i : Nat} {t : Tm}, TmVs H ts vs → ts[i]? = some t → ∃ v, vs[i]? = some v ∧ TmV H t v
  | [], [], _, _, _, h => by simp at h
  | _ :: _, v :: _, 0, _, ⟨h, _⟩, e => by simp at e; subst e; exact ⟨v, rfl, h⟩
  | _ :: ts, _ :: vs, i + 1, _, ⟨_, r⟩, e => by
    obtain ⟨t, h1, h2⟩ := TmVs.at (i := i) r (by simpa using e)
    exact ⟨t, by simpa using h1, h2⟩
theorem TmVs.snoc {H : Hp} : ∀ {ts : List Tm} {vs : List V} {t : Tm} {v : V}, TmVs H ts vs → TmV H t v → TmVs H (ts ++ [t]) (vs ++ [v])
  | [], [], _, _, _, h => ⟨h, trivial⟩
  | _ :: _, _ :: _, _, _, ⟨h1, r⟩, h => ⟨h1, TmVs.snoc r h⟩
theorem TmV.dp {K : PySem.W.Frag} {H : Hp} : ∀ {t : Tm} {v : V}, TmV H t v → Dp K H v t.toD
  | .yes, _, ⟨a, e, h⟩ => by subst e; exact .tup (tupT h) (.cons (.str _) .nil)
  | .no, _, ⟨a, e, h⟩ => by subst e; exact .tup (tupT h) (.cons (.str _) .nil)
  | .letter s, _, ⟨a, e, h⟩ => by subst e; exact .tup (tupT h) (.cons (.str _) (.cons (.str _) .nil))
  | .not t, _, ⟨a, x, e, h, h1⟩ => by subst e; exact .tup (tupT h) (.cons (.str _) (.cons (TmV.dp h1) .nil))
  | .and t u, _, ⟨a, x, y, e, h, h1, h2⟩ => by subst e; exact .tup (tupT h) (.cons (.str _) (.cons (TmV.dp h1) (.cons (TmV.dp h2) .nil)))
  | .or t u, _, ⟨a, x, y, e, h, h1, h2⟩ => by subst e; exact .tup (tupT h) (.cons (.str _) (.cons (TmV.dp h1) (.cons (TmV.dp h2) .nil)))
theorem hk_letter : ¬ hasKids "letter" = true := by decide +kernel
theorem hk_not : hasKids "not" = true := by decide +kernel
theorem hk_and : hasKids "and" = true := by decide +kernel
theorem hk_or : hasKids "or" = true := by decide +kernel
/-- a node: its word, what stands behind it, its kids -/
theorem TmV.node {H : Hp} : ∀ {t : Tm} {v : V}, TmV H t v → ∃ a xs ks, v = .ref a ∧ H a = some (.tup (.str t.wd :: xs)) ∧ (if hasKids t.wd = true then xs else []) = ks ∧ TmVs H t.kids ks
  | .yes, _, ⟨a, e, h⟩ => ⟨a, [], [], e, h, rfl, trivial⟩
  | .no, _, ⟨a, e, h⟩ => ⟨a, [], [], e, h, rfl, trivial⟩
  | .letter s, _, ⟨a, e, h⟩ => ⟨a, [.str s], [], e, h, if_neg hk_letter, trivial⟩
  | .not t, _, ⟨a, x, e, h, h1⟩ => ⟨a, [x], [x], e, h, if_pos hk_not, h1, trivial⟩
  | .and t u, _, ⟨a, x, y, e, h, h1, h2⟩ => ⟨a, [x, y], [x, y], e, h, if_pos hk_and, h1, h2, trivial⟩
  | .or t u, _, ⟨a, x, y, e, h, h1, h2⟩ => ⟨a, [x, y], [x, y], e, h, if_pos hk_or, h1, h2, trivial⟩
theorem nm8 {s : Str} (h : nmOk s = true) : s.length ≤ 8 := by
  unfold nmOk at h
  simp only [Bool.and_eq_true, decide_eq_true_eq] at h
  exact h.1.1.2
theorem wf_toD : ∀ t : Tm, wfD t.toD = t.nok
  | .yes => by decide +kernel
  | .no => by decide +kernel
  | .letter s => by
    rw [wfD_eq]
    have e : kidsD (Tm.toD (.letter s)) = [] := by
      show (if hasKids "letter" = true then [PyData.str s] else []) = []
      exact if_neg hk_letter
    rw [e]
    have e2 : isNodeD (Tm.toD (.letter s)) = isNodeL [.str "letter", .str s] := rfl
    rw [e2]
    simp only [isNodeL]
    rw [if_neg (by decide +kernel), if_pos (by simp)]
    simp [isNameD, wfAll, Tm.nok]
  | .not a => by
    rw [wfD_eq]
    have e : kidsD (Tm.toD (.not a)) = [a.toD] := by
      show (if hasKids "not" = true then [a.toD] else []) = [a.toD]
      exact if_pos hk_not
    have e2 : isNodeD (Tm.toD (.not a)) = true := by
      show isNodeL [.str "not", a.toD] = true
      simp only [isNodeL]
      rw [if_neg (by decide +kernel), if_neg (by decide +kernel)]
      simp
    rw [e, e2, wfAll, wfAll, wf_toD a]; simp [Tm.nok]
  | .and a b => by
    rw [wfD_eq]
    have e : kidsD (Tm.toD (.and a b)) = [a.toD, b.toD] := by
      show (if hasKids "and" = true then [a.toD, b.toD] else []) = [a.toD, b.toD]
      exact if_pos hk_and
    have e2 : isNodeD (Tm.toD (.and a b)) = true := by
      show isNodeL [.str "and", a.toD, b.toD] = true
      simp only [isNodeL]
      rw [if_neg (by decide +kernel), if_neg (by decide +kernel)]
      have : inV (V.str "and") [.str "and", .str "or"] = true := by decide +kernel
      rw [this]; simp
    rw [e, e2, wfAll, wfAll, wfAll, wf_toD a, wf_toD b]; simp [Tm.nok]
  | .or a b => by
    rw [wfD_eq]
    have e : kidsD (Tm.toD (.or a b)) = [a.toD, b.toD] := by
      show (if hasKids "or" = true then [a.toD, b.toD] else []) = [a.toD, b.toD]
      exact if_pos hk_or
    have e2 : isNodeD (Tm.toD (.or a b)) = true := by
      show isNodeL [.str "or", a.toD, b.toD] = true
      simp only [isNodeL]
      rw [if_neg (by decide +kernel), if_neg (by decide +kernel)]
      have : inV (V.str "or") [.str "and", .str "or"] = true := by decide +kernel
      rw [this]; simp
    rw [e, e2, wfAll, wfAll, wfAll, wf_toD a, wf_toD b]; simp [Tm.nok]
theorem strs_toD : ∀ t : Tm, t.nok = true → strsOk t.toD = true
  | .yes, _ => by decide +kernel
  | .no, _ => by decide +kernel
  | .letter s, h => by
    have := nm8 (show nmOk s = true from h)
    simp only [Tm.toD, strsOk, strsOkAll, Bool.and_true, Bool.and_eq_true, decide_eq_true_eq]
    exact ⟨by decide +kernel, by omega⟩
  | .not a, h => by
    simp only [Tm.toD, strsOk, strsOkAll, Bool.and_true, Bool.and_eq_true, decide_eq_true_eq]
    exact ⟨by decide +kernel, strs_toD a h⟩
  | .and a b, h => by
    simp only [Tm.nok, Bool.and_eq_true] at h
    simp only [Tm.toD, strsOk, strsOkAll, Bool.and_true, Bool.and_eq_true, decide_eq_true_eq]
    exact ⟨by decide +kernel, strs_toD a h.1, strs_toD b h.2⟩
  | .or a b, h => by
    simp only [Tm.nok, Bool.and_eq_true] at h
    simp only [Tm.toD, strsOk, strsOkAll, Bool.and_true, Bool.and_eq_true, decide_eq_true_eq]
    exact ⟨by decide +kernel, strs_toD a h.1, strs_toD b h.2⟩
theorem nsz_toD : ∀ t : Tm, nsz t.toD ≤ 3 * t.size
  | .yes => by decide +kernel
  | .no => by decide +kernel
  | .letter s => by simp [Tm.toD, nsz, nszAll, Tm.size]
  | .not a => by have := nsz_toD a; simp only [Tm.toD, nsz, nszAll, Tm.size]; omega
  | .and a b => by have := nsz_toD a; have := nsz_toD b; simp only [Tm.toD, nsz, nszAll, Tm.size]; omega
  | .or a b => by have := nsz_toD a; have := nsz_toD b; simp only [Tm.toD, nsz, nszAll, Tm.size]; omega
end N0

namespace N0
open PySem L2 PySem.Spec PyProof.Rows
/-! ### size and depth by a pile -/
def szA : List (Tm × Nat) → Nat
  | [] => 0
  | p :: r => p.1.size + szA r
def mxA : List (Tm × Nat) → Nat
  | [] => 0
  | p :: r => max (p.2 + p.1.dep) (mxA r)
theorem szA_app : ∀ a b, szA (a ++ b) = szA a + szA b
  | [], b => by simp [szA]
  | p :: a, b => by rw [List.cons_append, szA, szA, szA_app a b]; omega
theorem mxA_app : ∀ a b, mxA (a ++ b) = max (mxA a) (mxA b)
  | [], b => by simp [mxA]
  | p :: a, b => by rw [List.cons_append, mxA, mxA, mxA_app a b]; omega
theorem szA_len : ∀ a, a.length ≤ szA a
  | [] => Nat.zero_le _
  | p :: a => by have := szA_len a; have := p.1.size_pos; rw [List.length_cons, szA]; omega
theorem kids_sz (t : Tm) (n : Nat) : szA (t.kids.map fun u => (u, n)) + 1 = t.size := by
  cases t <;> simp [Tm.kids, szA, Tm.size]
  all_goals omega
theorem kids_mx (t : Tm) (n : Nat) : max n (mxA (t.kids.map fun u => (u, n + 1))) = n + t.dep := by
  cases t <;> simp [Tm.kids, mxA, Tm.dep]
  all_goals omega
def WtT (H0 H : Hp) (v : V) (p : Tm × Nat) : Prop := ∃ (a : Addr) (x : V), v = .ref a ∧ H a = some (.tup [x, .int (p.2 : Int)]) ∧ TmV H0 p.1 x
theorem WtT.kp {H0 H H' : Hp} {S : List Addr} {v : V} {p : Tm × Nat} (k : Kp S H H') : WtT H0 H v p → WtT H0 H' v p
  | ⟨a, x, e, h1, h2⟩ => ⟨a, x, e, k.t _ _ h1, h2⟩
inductive WtTs (H0 H : Hp) : List V → List (Tm × Nat) → Prop
  | nil : WtTs H0 H [] []
  | snoc {vs : List V} {ds : List (Tm × Nat)} {v : V} {d : Tm × Nat} : WtTs H0 H vs ds → WtT H0 H v d → WtTs H0 H (vs ++ [v]) (ds ++ [d])
theorem WtTs.kp {H0 H H' : Hp} {S : List Addr} (k : Kp S H H') {vs : List V} {ds : List (Tm × Nat)} (h : WtTs H0 H vs ds) : WtTs H0 H' vs ds := by
  induction h with
  | nil => exact .nil
  | snoc _ h2 ih => exact .snoc ih (h2.kp k)
theorem WtTs.len {H0 H : Hp} {vs : List V} {ds : List (Tm × Nat)} (h : WtTs H0 H vs ds) : vs.length = ds.length := by
  induction h with
  | nil => rfl
  | snoc _ _ ih => simp [ih]
theorem WtTs.app {H0 H : Hp} {vs vs' : List V} {ds ds' : List (Tm × Nat)} (h : WtTs H0 H vs ds) (h' : WtTs H0 H vs' ds') : WtTs H0 H (vs ++ vs') (ds ++ ds') := by
  induction h' with
  | nil => simpa using h
  | snoc _ h2 ih => rw [← List.append_assoc, ← List.append_assoc]; exact .snoc ih h2
theorem wtT_pop {H0 H : Hp} {vs : List V} {ds : List (Tm × Nat)} (h : WtTs H0 H vs ds) (hne : vs ≠ []) : ∃ v d vs' ds', vs = vs' ++ [v] ∧ ds = ds' ++ [d] ∧ WtT H0 H v d ∧ WtTs H0 H vs' ds' := by
  cases h with
  | nil => exact absurd rfl hne
  | snoc h1 h2 => exact ⟨_, _, _, _, rfl, rfl, h2, h1⟩
def spSD : Sp := fun vs H Q _ => ∃ (v : V) (t : Tm), vs = [v] ∧ TmV H t v ∧ t.size ≤ 10000 ∧
  ∀ H' a, Kp [] H H' → H' a = some (.tup [.int (t.size : Int), .int (t.dep : Int)]) → Q (.ref a) H'
section
variable {P : Program} {w : World} {K : PySem.W.Frag} {mg : Str → Option Value} {base : Heap} {f : Addr} {fd : FuncData}
theorem ok_size_and_depth (F : Fun K "size_and_depth" "size_and_depth" s_size_and_depth f fd) (T : Txt K mg) (D_terms_of : Def P w K mg base "terms_of" 1 ["term"] (spTermsOf K)) :
    FnOk P w K mg base CX0 2 f fd ["term"] spSD := by
  refine F.ok sc_size_and_depth (fun vs H Q E h => ?_) (fun cdv A outer s H vs Q E hr h => ?_)
  · obtain ⟨v, d, rfl, _⟩ := h
    rfl
  obtain ⟨v, t, rfl, ht, hn, q⟩ := h
  have nd := sc_size_and_depth.nd
  refine ⟨_, (pss_cons (ps_par3 (i := 1) (j := 2) (l := 3) rfl nd rfl rfl rfl (by decide) (by decide) (by decide) rfl rfl rfl (pa_cons pe_int (pa_cons pe_int (pa_cons (pe_lst (pa_cons (pe_tup (pa_cons (pv 0) (pa_cons pe_int pa_nil))) pa_nil)) pa_nil))) rfl)
      (pss_cons (ps_while PassesOwn.never (pt_cmpR (op_neNil hr.units0) (pv 3) (pe_lst pa_nil) (nomark _)) (pss_cons (ps_asg (pe_bm0 PySem.F.plainAttrs_list PySem.F.slot_list_pop PySem.F.type_list_pop mt_pop (pv 3)) (pg_tup rfl (pgs_cons (pg_name (i := 4) nd rfl (Or.inl rfl)) (pgs_cons (pg_name (i := 5) nd rfl (Or.inr rfl)) pgs_nil))))
      (pss_cons (ps_par (i := 1) (j := 2) rfl nd rfl rfl (by decide) rfl rfl (pa_cons (pe_op op_add (pv 1) pe_int) (pa_cons (pe_callB (call_max2 rfl) (by rfl) T.max bt_max (pa_cons (pv 2) (pa_cons (pv 5) pa_nil))) pa_nil)) rfl)
      (pss_one (ps_expr (pe_bm PySem.F.plainAttrs_list PySem.F.slot_list_extend PySem.F.type_list_extend mt_extend (pv 3) (pa_cons (pe_lc (own := [("inner", 6)]) (g := gName 6) (tt := tYes) rfl nd (pi_tup (e_fn D_terms_of (hr.mono (by omega)) (pa_cons (pv 4) pa_nil))) (blkOk_by (N := N_size_and_depth) (sc := defScope s_size_and_depth) (by decide +kernel)) (fun _ _ _ _ _ => pg_name (i := 6) nd rfl (Or.inl rfl)) (fun _ _ _ _ _ => pts_nil) (fun _ _ _ _ _ => (pe_tup (pa_cons (pv 6) (pa_cons (pe_op op_add (pv 5) pe_int) pa_nil))))) pa_nil)))))))
      (pss_one (ps_ret (pe_tup (pa_cons (pv 1) (pa_cons (pv 2) pa_nil))))))), ?_⟩
  refine ⟨_, rfl, small_le (by simp), fun p0 hp => ⟨small_le (by simp), fun L hL => ⟨_, _, _, rfl, ?_⟩⟩⟩
  have k0 : Kp [] H (upd (upd H p0 (.tup [v, .int 0])) L (.lst [.ref p0])) := (Kp.new hp).add hL
  have hp0 : (upd (upd H p0 (.tup [v, .int 0])) L (.lst [.ref p0])) p0 = some (.tup [v, .int 0]) := by
    rw [upd_ne (ne_of_none upd_same hL)]; exact upd_same
  have hLn : H L = none := (Kp.new (S := []) hp).n _ hL
  refine ⟨fun m σ H' => ∃ (ws : List V) (ds : List (Tm × Nat)) (z dp : Nat) (o4 o5 o6 : Option V), σ = [some v, some (.int (z : Int)), some (.int (dp : Int)), some (.ref L), o4, o5, o6] ∧ Kp [] H H' ∧ H' L = some (.lst ws) ∧ WtTs H H' ws ds ∧ z + szA ds = t.size ∧ max dp (mxA ds) = t.dep ∧ m = szA ds,
    ⟨_, [.ref p0], [(t, 0)], 0, 0, none, none, none, rfl, k0, upd_same, .snoc .nil ⟨p0, v, rfl, hp0, ht⟩, by simp [szA], by simp [mxA], rfl⟩, ?_⟩
  rintro m σ H1 ⟨ws, ds, z, dp, o4, o5, o6, rfl, k1, hL1, hW, hsz, hmx, rfl⟩
  have hlen : ws.length ≤ 10000 := by have := hW.len; have := szA_len ds; omega
  refine ⟨_, rfl, Nat.zero_le _, fun e1 he1 => ?_⟩
  have k2 : Kp [] H1 (upd H1 e1 (.lst [])) := Kp.new he1
  have hL2 : upd H1 e1 (.lst []) L = some (.lst ws) := k2.k _ _ (by simp) hL1
  refine ⟨L, e1, ws, rfl, rfl, SqL.of hL2, SqL.of upd_same, _, rfl, ?_⟩
  refine ite2 (fun c => ?_) (fun c => ?_)
  · have hne : ws ≠ [] := by intro e; subst e; cases c
    obtain ⟨x, ⟨u, at'⟩, ws', ds', rfl, rfl, hx, hW'⟩ := wtT_pop hW hne
    obtain ⟨p, y, rfl, hp1, hy⟩ := hx.kp k2
    refine ⟨fun σ' H' => ∃ m', m' < szA (ds' ++ [(u, at')]) ∧ ∃ (ws : List V) (ds : List (Tm × Nat)) (z dp : Nat) (o4 o5 o6 : Option V), σ' = [some v, some (.int (z : Int)), some (.int (dp : Int)), some (.ref L), o4, o5, o6] ∧ Kp [] H H' ∧ H' L = some (.lst ws) ∧ WtTs H H' ws ds ∧ z + szA ds = t.size ∧ max dp (mxA ds) = t.dep ∧ m' = szA ds, fun σ' H' h => h, ?_⟩
    refine ⟨_, rfl, .inl ⟨rfl, _, SqL.of hL2⟩, L, _, .ref p, rfl, rfl, hL2, by simp, ?_⟩
    rw [List.dropLast_concat]
    have k3 : Kp [] H (upd (upd H1 e1 (.lst [])) L (.lst ws')) := (k1.trans k2).put hLn
    have kL : Kp [L] (upd H1 e1 (.lst [])) (upd (upd H1 e1 (.lst [])) L (.lst ws')) := (Kp.refl _ _).wr (by simp) hL2 (by intro xs z; cases z)
    have hp3 := kL.t _ _ hp1
    have hW3 := (hW'.kp k2).kp kL
    generalize hH3 : upd (upd H1 e1 (.lst [])) L (.lst ws') = H3 at k3 hp3 hW3 ⊢
    have hL3 : H3 L = some (.lst ws') := by rw [← hH3]; exact upd_same
    refine ⟨p, _, rfl, tupT hp3, rfl, _, _, rfl, _, _, rfl, rfl, ?_⟩
    refine ⟨_, rfl, _, _, rfl, rfl, _, rfl, _, rfl, _, _, rfl, _, _, rfl, ?_⟩
    obtain ⟨a, xs, ks, rfl, ha0, hks, hkd0⟩ := TmV.node hy
    have ha := k3.t _ _ ha0
    have hkd0 : TmVs H u.kids ks := hkd0
    have hkd := hkd0.kp k3
    refine ⟨_, rfl, .inl ⟨rfl, _, SqL.of hL3⟩, _, rfl, a, u.wd, xs, rfl, tupT ha, fun H4 b k4 hb => ?_⟩
    rw [hks] at hb
    refine ⟨b, rfl, ⟨ks, hb⟩, fun D hD => ?_⟩
    have hL4 := k4.k _ _ (by simp) hL3
    have hkl := hkd.len
    have hksz := kids_sz u (at' + 1)
    have hkll := szA_len (u.kids.map fun u => (u, at' + 1))
    rw [List.length_map] at hkll
    rw [szA_app, szA, szA] at hsz
    rw [mxA_app, mxA, mxA] at hmx
    change z + (szA ds' + (u.size + 0)) = t.size at hsz
    change max dp (max (mxA ds') (max (at' + u.dep) 0)) = t.dep at hmx
    refine lc_it (n := ks.length) walk_tup (fun i H' => Kp [] H4 H' ∧ ∃ ys, H' D = some (.lst ys) ∧ WtTs H H' ys ((u.kids.map fun u => (u, at' + 1)).take i)) ⟨Kp.new hD, [], upd_same, .nil⟩ (fun i H' _ h => N0.SqT.kp h.1 hb) ?_ ?_
    · rintro i y _ H5 hi ⟨k5, ys, hD5, hy5⟩ ⟨rfl, hyi⟩
      obtain ⟨ti, hti, htv⟩ := hkd0.get hyi
      refine ⟨rfl, ?_⟩
      refine ⟨_, rfl, _, rfl, _, _, rfl, rfl, small_le (by simp), fun p6 hp6 => ?_⟩
      have k6 : Kp [] H5 (upd H5 p6 (.tup [y, .int ((at' : Int) + 1)])) := Kp.new hp6
      have hD6 := k6.k _ _ (by simp) hD5
      refine ⟨ys, hD6, small_lt (by have := hy5.len; rw [this, List.length_take, List.length_map]; omega), (k5.trans k6).put hD, ys ++ [.ref p6], upd_same, ?_⟩
      have kD : Kp [D] (upd H5 p6 (.tup [y, .int ((at' : Int) + 1)])) (upd (upd H5 p6 (.tup [y, .int ((at' : Int) + 1)])) D (.lst (ys ++ [.ref p6]))) := (Kp.refl _ _).wr (by simp) hD6 (by intro xs z; cases z)
      rw [List.take_add_one, List.getElem?_map, hti]
      refine .snoc ((hy5.kp k6).kp kD) ⟨p6, y, rfl, kD.t _ _ ?_, ?_⟩
      · show _ = some (HO.tup [y, .int ((at' + 1 : Nat) : Int)])
        rw [Int.natCast_add]; exact upd_same
      · exact htv
    · rintro H5 ⟨k5, ys, hD5, hy5⟩
      rw [List.take_of_length_le (by rw [List.length_map]; omega)] at hy5
      have k35 := k4.trans k5
      have hL5 := k5.k _ _ (by simp) hL4
      refine ⟨L, D, ws', ys, rfl, rfl, hL5, hD5, small_le ?_, ?_⟩
      · have h1 := hW'.len; have h2 := hy5.len; have h3 := szA_len ds'
        rw [List.length_map] at h2; omega
      · have kw : Kp [L] H5 (upd H5 L (.lst (ws' ++ ys))) := (Kp.refl _ _).wr (by simp) hL5 (by intro xs z; cases z)
        have hmk := kids_mx u at'
        refine ⟨szA (ds' ++ u.kids.map fun u => (u, at' + 1)), ?_, ws' ++ ys, _, z + 1, max dp at', some (.ref a), some (.int (at' : Int)), o6, ?_, (k3.trans k35).put hLn, upd_same, ((hW3.kp k35).kp kw).app (hy5.kp kw), ?_, ?_, rfl⟩
        · rw [szA_app, szA_app, szA, szA]; show szA ds' + _ < szA ds' + (u.size + 0); omega
        · show [some v, some (V.int ((z : Int) + 1)), some (V.int (if (at' : Int) > (dp : Int) then (at' : Int) else (dp : Int))), some (V.ref L), some (.ref a), some (.int (at' : Int)), o6] = _
          have e1 : (z : Int) + 1 = ((z + 1 : Nat) : Int) := by omega
          have e2 : (if (at' : Int) > (dp : Int) then (at' : Int) else (dp : Int)) = ((max dp at' : Nat) : Int) := by split <;> omega
          rw [e1, e2]
        · rw [szA_app]; omega
        · rw [mxA_app]; omega
  · have e : ws = [] := by
      cases ws with
      | nil => rfl
      | cons z zs => exact absurd rfl c
    subst e
    have : ds = [] := by have := hW.len; exact List.length_eq_zero_iff.mp this.symm
    subst this
    simp only [szA, mxA] at hsz hmx
    refine ⟨_, rfl, _, rfl, small_le (by simp), fun a ha => q _ a ((k1.trans k2).add ha) ?_⟩
    have e1 : z = t.size := by omega
    have e2 : dp = t.dep := by omega
    rw [← e1, ← e2]; exact upd_same
end
end N0

namespace N0
open PySem L2 PySem.Spec PyProof.Rows
def Small (t : Tm) : Prop := t.nok = true ∧ t.size ≤ 1000 ∧ t.dep ≤ 40
def spNS : Sp := fun vs H Q _ => ∃ z d : Int, vs = [.int z, .int d] ∧ z ≤ 2000 ∧ d ≤ 40 ∧ ∀ H', Kp [] H H' → Q .non H'
def spNTA : Sp := fun vs H Q _ => ∃ (v x : V) (t : Tm), vs = [v, x] ∧ TmV H t v ∧ Small t ∧ ∀ H', Kp [] H H' → Q .non H'
def spNT : Sp := fun vs H Q _ => ∃ (v : V) (t : Tm), vs = [v] ∧ TmV H t v ∧ Small t ∧ ∀ H', Kp [] H H' → Q v H'
def spIsTerm (K : PySem.W.Frag) : Sp := fun vs H Q _ => ∃ (v : V) (d : PyData), vs = [v] ∧ Dp K H v d ∧ strsOk d = true ∧ nsz d ≤ 10000 ∧
  ((wfD d = false ∧ ∀ H', Kp [] H H' → Q (.bl false) H') ∨ ∃ t : Tm, TmV H t v ∧ Small t ∧ d = t.toD ∧ ∀ H', Kp [] H H' → Q (.bl true) H')
def spTS (f : Tm → Nat) : Sp := fun vs H Q _ => ∃ (v : V) (t : Tm), vs = [v] ∧ TmV H t v ∧ Small t ∧ ∀ H', Kp [] H H' → Q (.int (f t : Int)) H'
theorem Small.nsz {t : Tm} (h : Small t) : nsz t.toD ≤ 10000 := by have := nsz_toD t; have := h.2.1; omega
section
variable {P : Program} {w : World} {K : PySem.W.Frag} {mg : Str → Option Value} {base : Heap} {f : Addr} {fd : FuncData}
theorem ok_need_small (F : Fun K "need_small" "need_small" s_need_small f fd) (T : Txt K mg) : FnOk P w K mg base CX0 1 f fd ["size", "deep"] spNS := by
  refine F.ok sc_need_small (fun vs H Q E h => ?_) (fun cdv A outer s H vs Q E hr h => ?_)
  · obtain ⟨z, d, rfl, _⟩ := h
    rfl
  obtain ⟨z, d, rfl, hz, hd, q⟩ := h
  refine ⟨_, (pss_cons (ps_if (pt_cmpR op_gt (pv 1) (e_const T.MOST_DEEP) (nomark _)) pss_never pss_nil)
      (pss_one (ps_if (pt_cmpR op_gt (pv 0) (e_const T.MOST_SIZE) (nomark _)) pss_never pss_nil))), ?_⟩
  refine ⟨_, rfl, _, _, rfl, rfl, _, rfl, ?_⟩
  refine ite2 (fun c => absurd (of_decide_eq_true c) (by omega)) (fun _ => ?_)
  refine ⟨_, rfl, _, _, rfl, rfl, _, rfl, ?_⟩
  refine ite2 (fun c => absurd (of_decide_eq_true c) (by omega)) (fun _ => q _ (Kp.refl _ _))
theorem ok_need_term_at (F : Fun K "need_term_at" "need_term_at" s_need_term_at f fd) (T : Txt K mg) (D_wrong_place : Def P w K mg base "wrong_place" 3 ["value"] (spWrong K)) (D_size_and_depth : Def P w K mg base "size_and_depth" 2 ["term"] spSD)
    (D_need_small : Def P w K mg base "need_small" 1 ["size", "deep"] spNS) : FnOk P w K mg base CX0 4 f fd ["term", "place"] spNTA := by
  refine F.ok sc_need_term_at (fun vs H Q E h => ?_) (fun cdv A outer s H vs Q E hr h => ?_)
  · obtain ⟨v, x, t, rfl, _⟩ := h
    rfl
  obtain ⟨v, x, t, rfl, ht, hs, q⟩ := h
  have nd := sc_need_term_at.nd
  refine ⟨_, (pss_cons (ps_set (i := 2) nd rfl (Or.inl rfl) (e_fn D_wrong_place (hr.mono (by omega)) (pa_cons (pv 0) pa_nil)))
      (pss_cons (ps_if (pt_cmpR op_notN (pv 2) pe_non (nomark _)) pss_never pss_nil)
      (pss_cons (ps_asg (e_fn D_size_and_depth (hr.mono (by omega)) (pa_cons (pv 0) pa_nil)) (pg_tup rfl (pgs_cons (pg_name (i := 3) nd rfl (Or.inl rfl)) (pgs_cons (pg_name (i := 4) nd rfl (Or.inl rfl)) pgs_nil))))
      (pss_one (ps_expr (e_fn D_need_small (hr.mono (by omega)) (pa_cons (pv 3) (pa_cons (pv 4) pa_nil)))))))), ?_⟩
  refine ⟨_, rfl, v, t.toD, rfl, ht.dp, strs_toD t hs.1, hs.nsz, fun H1 r k1 h1 _ => ?_⟩
  have hr1 := h1 ((wf_toD t).trans hs.1)
  subst hr1
  refine ⟨_, rfl, rfl, _, rfl, iteF ?_⟩
  refine ⟨_, rfl, v, t, rfl, ht.kp k1, by have := hs.2.1; omega, fun H2 a k2 ha => ?_⟩
  refine ⟨a, _, rfl, tupT ha, rfl, _, _, rfl, _, _, rfl, rfl, ?_⟩
  refine ⟨_, rfl, _, rfl, _, _, rfl, by have := hs.2.1; omega, by have := hs.2.2; omega, fun H3 k3 => q _ (k1.trans (k2.trans k3))⟩
theorem ok_need_term (F : Fun K "need_term" "need_term" s_need_term f fd) (T : Txt K mg) (D_need_term_at : Def P w K mg base "need_term_at" 4 ["term", "place"] spNTA) : FnOk P w K mg base CX0 5 f fd ["term"] spNT := by
  refine F.ok sc_need_term (fun vs H Q E h => ?_) (fun cdv A outer s H vs Q E hr h => ?_)
  · obtain ⟨v, t, rfl, _⟩ := h
    rfl
  obtain ⟨v, t, rfl, ht, hs, q⟩ := h
  have nd := sc_need_term.nd
  refine ⟨_, (pss_cons (ps_expr (e_fn D_need_term_at (hr.mono (by omega)) (pa_cons (pv 0) (pa_cons (pe_tup pa_nil) pa_nil))))
      (pss_one (ps_ret (pv 0)))), ?_⟩
  refine ⟨_, rfl, Nat.zero_le _, fun e he => ⟨v, .ref e, t, rfl, ht.kp (Kp.new (S := []) he), hs, fun H1 k1 => ⟨_, rfl, q _ ((Kp.new he).trans k1)⟩⟩⟩
theorem ok_is_term (F : Fun K "is_term" "is_term" s_is_term f fd) (T : Txt K mg) (D_wrong_place : Def P w K mg base "wrong_place" 3 ["value"] (spWrong K)) (D_size_and_depth : Def P w K mg base "size_and_depth" 2 ["term"] spSD) :
    FnOk P w K mg base CX0 4 f fd ["value"] (spIsTerm K) := by
  refine F.ok sc_is_term (fun vs H Q E h => ?_) (fun cdv A outer s H vs Q E hr h => ?_)
  · obtain ⟨v, d, rfl, _⟩ := h
    rfl
  obtain ⟨v, d, rfl, hd, hst, hn, h⟩ := h
  have nd := sc_is_term.nd
  refine ⟨_, (pss_cons (ps_if (pt_cmpR op_notN (e_fn D_wrong_place (hr.mono (by omega)) (pa_cons (pv 0) pa_nil)) pe_non (nomark _)) (pss_one (ps_ret pe_bl)) pss_nil)
      (pss_cons (ps_asg (e_fn D_size_and_depth (hr.mono (by omega)) (pa_cons (pv 0) pa_nil)) (pg_tup rfl (pgs_cons (pg_name (i := 1) nd rfl (Or.inl rfl)) (pgs_cons (pg_name (i := 2) nd rfl (Or.inl rfl)) pgs_nil))))
      (pss_one (ps_ret (pe_and (pe_cmpR op_le (pv 2) (e_const T.MOST_DEEP) (nomark _)) (pe_one (pe_cmpR op_le (pv 1) (e_const T.MOST_SIZE) (nomark _)))))))), ?_⟩
  refine ⟨_, rfl, v, d, rfl, hd, hst, hn, fun H1 r k1 h1 h2 => ⟨rfl, _, rfl, ?_⟩⟩
  rcases h with ⟨hw, q⟩ | ⟨t, ht, hs, rfl, q⟩
  · obtain ⟨a, rfl⟩ := h2 hw
    exact iteT (q _ k1)
  · have hr1 := h1 ((wf_toD t).trans hs.1)
    subst hr1
    refine iteF ?_
    refine ⟨_, rfl, v, t, rfl, ht.kp k1, by have := hs.2.1; omega, fun H2 a k2 ha => ?_⟩
    refine ⟨a, _, rfl, tupT ha, rfl, _, _, rfl, _, _, rfl, rfl, ?_⟩
    refine ⟨_, rfl, _, _, rfl, rfl, _, rfl, ?_⟩
    have e1 : decide ((t.dep : Int) ≤ 40) = true := decide_eq_true (by have := hs.2.2; omega)
    have e2 : decide ((t.size : Int) ≤ 2000) = true := decide_eq_true (by have := hs.2.1; omega)
    rw [e1]
    refine iteT ⟨_, rfl, _, _, rfl, rfl, ?_⟩
    have := q _ (k1.trans k2)
    rw [← e2] at this; exact this
theorem ok_term_size (F : Fun K "term_size" "term_size" s_term_size f fd) (T : Txt K mg) (D_need_term : Def P w K mg base "need_term" 5 ["term"] spNT) (D_size_and_depth : Def P w K mg base "size_and_depth" 2 ["term"] spSD) :
    FnOk P w K mg base CX0 6 f fd ["term"] (spTS Tm.size) := by
  refine F.ok sc_term_size (fun vs H Q E h => ?_) (fun cdv A outer s H vs Q E hr h => ?_)
  · obtain ⟨v, t, rfl, _⟩ := h
    rfl
  obtain ⟨v, t, rfl, ht, hs, q⟩ := h
  refine ⟨_, (pss_one (ps_ret (pe_ix ix_tup (e_fn D_size_and_depth (hr.mono (by omega)) (pa_cons (e_fn D_need_term (hr.mono (by omega)) (pa_cons (pv 0) pa_nil)) pa_nil)) pe_int (fun _ _ => rfl)))), ?_⟩
  refine ⟨_, rfl, v, t, rfl, ht, hs, fun H1 k1 => ⟨v, t, rfl, ht.kp k1, by have := hs.2.1; omega, fun H2 a k2 ha => ⟨a, _, 0, _, rfl, rfl, tupT ha, atI_nat (j := 0) rfl, q _ (k1.trans k2)⟩⟩⟩
theorem ok_term_depth (F : Fun K "term_depth" "term_depth" s_term_depth f fd) (T : Txt K mg) (D_need_term : Def P w K mg base "need_term" 5 ["term"] spNT) (D_size_and_depth : Def P w K mg base "size_and_depth" 2 ["term"] spSD) :
    FnOk P w K mg base CX0 6 f fd ["term"] (spTS Tm.dep) := by
  refine F.ok sc_term_depth (fun vs H Q E h => ?_) (fun cdv A outer s H vs Q E hr h => ?_)
  · obtain ⟨v, t, rfl, _⟩ := h
    rfl
  obtain ⟨v, t, rfl, ht, hs, q⟩ := h
  refine ⟨_, (pss_one (ps_ret (pe_ix ix_tup (e_fn D_size_and_depth (hr.mono (by omega)) (pa_cons (e_fn D_need_term (hr.mono (by omega)) (pa_cons (pv 0) pa_nil)) pa_nil)) pe_int (fun _ _ => rfl)))), ?_⟩
  refine ⟨_, rfl, v, t, rfl, ht, hs, fun H1 k1 => ⟨v, t, rfl, ht.kp k1, by have := hs.2.1; omega, fun H2 a k2 ha => ⟨a, _, 1, _, rfl, rfl, tupT ha, atI_nat (j := 1) rfl, q _ (k1.trans k2)⟩⟩⟩
end
end N0

namespace N0
open PySem L2 PySem.Spec PyProof.Rows
/-! ### the lines of terms -/
def lineK (ts : List Tm) : Tm → List Key
  | .letter s => [.inr "letter", .inr s]
  | t => .inr t.wd :: t.kids.map fun k => .inl (ix ts k : Int)
def tlf (l n s : Addr) : List (Str × V) := [("lines", .ref l), ("numbers", .ref n), ("sizes", .ref s)]
theorem tlf_l (l n s : Addr) : (tlf l n s).lookup ("lines" : Str) = some (.ref l) := by with_unfolding_all rfl
theorem tlf_n (l n s : Addr) : (tlf l n s).lookup ("numbers" : Str) = some (.ref n) := by with_unfolding_all rfl
theorem tlf_s (l n s : Addr) : (tlf l n s).lookup ("sizes" : Str) = some (.ref s) := by with_unfolding_all rfl
theorem tlf_ln (l n s : Addr) : (tlf l n s).lookup ("line_number" : Str) = none := by with_unfolding_all rfl
theorem tlf_tn (l n s : Addr) : (tlf l n s).lookup ("term_number" : Str) = none := by with_unfolding_all rfl
structure TLAt (C : Addr) (H : Hp) (p l n s : Addr) (ts : List Tm) : Prop where
  dx : ∃ dx, H p = some (.ins C dx (tlf l n s))
  ls : ∃ lv : List V, H l = some (.lst lv) ∧ lv.length = ts.length ∧ ∀ (i : Nat) (t : Tm), ts[i]? = some t → ∃ a, lv[i]? = some (.ref a) ∧ H a = some (.tup ((lineK ts t).map kV))
  ns : ∃ kvs : List (List Key × V), H n = some (.dT kvs) ∧ kvs.length = ts.length ∧ ∀ (i : Nat) (t : Tm), ts[i]? = some t → kvs[i]? = some (lineK ts t, .int (i : Int))
  ss : H s = some (.lst (ts.map fun t => .int (t.size : Int)))
  ne : l ≠ s
  nd : ts.Nodup
  cl : Cl ts
  big : ts.length ≤ 1000 ∧ ∀ t ∈ ts, t.size ≤ 1000
theorem TLAt.kp {C : Addr} {H H' : Hp} {S : List Addr} {p l n s : Addr} {ts : List Tm} (k : Kp S H H') (h : TLAt C H p l n s ts) (hS : p ∉ S ∧ l ∉ S ∧ n ∉ S ∧ s ∉ S) : TLAt C H' p l n s ts where
  dx := let ⟨dx, e⟩ := h.dx; ⟨dx, k.k _ _ hS.1 e⟩
  ls := let ⟨lv, e, h1, h2⟩ := h.ls; ⟨lv, k.k _ _ hS.2.1 e, h1, fun i t ht => let ⟨a, e1, e2⟩ := h2 i t ht; ⟨a, e1, k.t _ _ e2⟩⟩
  ns := let ⟨kvs, e, h1, h2⟩ := h.ns; ⟨kvs, k.k _ _ hS.2.2.1 e, h1, h2⟩
  ss := k.k _ _ hS.2.2.2 h.ss
  ne := h.ne
  nd := h.nd
  cl := h.cl
  big := h.big
theorem wd_inj {t u : Tm} (h : t.wd = u.wd) : t.kd = u.kd := by
  cases t <;> cases u <;> first | rfl | exact absurd h (by decide +kernel) | exact absurd (show _ = _ from h) (by simp only [Tm.wd]; decide +kernel)
theorem ix_inj {ts : List Tm} {a b : Tm} (ha : a ∈ ts) (hb : b ∈ ts) (h : (Sum.inl (ix ts a : Int) : Key) = .inl (ix ts b : Int)) : a = b := by
  have e : ix ts a = ix ts b := by have := Sum.inl.inj h; omega
  have h1 := ix_get ha
  rw [e, ix_get hb] at h1
  exact (Option.some.inj h1).symm
theorem lineK_inj {ts : List Tm} {t u : Tm} (ht : ∀ k ∈ t.kids, k ∈ ts) (hu : ∀ k ∈ u.kids, k ∈ ts) (h : lineK ts t = lineK ts u) : t = u := by
  have hw : t.wd = u.wd := by
    cases t <;> cases u <;> simp only [lineK] at h <;> first | exact Sum.inr.inj (List.cons.inj h).1 | rfl
  have hk := wd_inj hw
  cases t <;> cases u <;> simp only [Tm.kd] at hk <;> first | rfl | (exfalso; omega) | skip
  · simp only [lineK] at h
    have := Sum.inr.inj (List.cons.inj (List.cons.inj h).2).1
    rw [this]
  · simp only [lineK, Tm.kids, List.map_cons, List.map_nil] at h
    rw [ix_inj (ht _ (by simp [Tm.kids])) (hu _ (by simp [Tm.kids])) (List.cons.inj (List.cons.inj h).2).1]
  · simp only [lineK, Tm.kids, List.map_cons, List.map_nil] at h
    rw [ix_inj (ht _ (by simp [Tm.kids])) (hu _ (by simp [Tm.kids])) (List.cons.inj (List.cons.inj h).2).1,
      ix_inj (ht _ (by simp [Tm.kids])) (hu _ (by simp [Tm.kids])) (List.cons.inj (List.cons.inj (List.cons.inj h).2).2).1]
  · simp only [lineK, Tm.kids, List.map_cons, List.map_nil] at h
    rw [ix_inj (ht _ (by simp [Tm.kids])) (hu _ (by simp [Tm.kids])) (List.cons.inj (List.cons.inj h).2).1,
      ix_inj (ht _ (by simp [Tm.kids])) (hu _ (by simp [Tm.kids])) (List.cons.inj (List.cons.inj (List.cons.inj h).2).2).1]
theorem lineK_ext {ts ts' : List Tm} {t : Tm} (h : ∀ k ∈ t.kids, ix ts' k = ix ts k) : lineK ts' t = lineK ts t := by
  cases t <;> simp only [lineK, Tm.kids, List.map_cons, List.map_nil] <;> simp only [Tm.kids, List.mem_cons, List.not_mem_nil, or_false] at h
  · rw [h _ rfl]
  · rw [h _ (.inl rfl), h _ (.inr rfl)]
  · rw [h _ (.inl rfl), h _ (.inr rfl)]
theorem Cl.mem {ts : List Tm} (h : Cl ts) {t : Tm} (ht : t ∈ ts) : ∀ k ∈ t.kids, k ∈ ts := by
  intro k hk
  obtain ⟨i, hi⟩ := List.getElem?_of_mem ht
  obtain ⟨j, _, hj⟩ := h i t hi k hk
  exact List.mem_of_getElem? hj
theorem valV_ix {κ : Type} [DecidableEq κ] : ∀ {kvs : List (κ × V)} {i : Nat} {k : κ} {v : V}, kvs[i]? = some (k, v) → (∀ (j : Nat) (q : κ × V), j < i → kvs[j]? = some q → q.1 ≠ k) → valV kvs k = some v
  | [], _, _, _, h, _ => by simp at h
  | p :: r, 0, k, v, h, _ => by
    simp at h; subst h; exact valV_pos rfl
  | p :: r, i + 1, k, v, h, hn => by
    rw [valV_neg (hn 0 p (by omega) rfl)]
    exact valV_ix (i := i) (by simpa using h) fun j q hj hq => hn (j + 1) q (by omega) (by simpa using hq)
theorem valV_no {κ : Type} [DecidableEq κ] : ∀ {kvs : List (κ × V)} {k : κ}, (∀ (j : Nat) (q : κ × V), kvs[j]? = some q → q.1 ≠ k) → valV kvs k = none
  | [], _, _ => rfl
  | p :: r, k, hn => by
    rw [valV_neg (hn 0 p rfl)]
    exact valV_no fun j q hq => hn (j + 1) q (by simpa using hq)
section
variable {ts : List Tm} {kvs : List (List Key × V)} {t : Tm}
theorem kvs_old (hl : kvs.length = ts.length) (hk : ∀ (i : Nat) (t : Tm), ts[i]? = some t → kvs[i]? = some (lineK ts t, .int (i : Int))) (nd : ts.Nodup) (cl : Cl ts) (ht : t ∈ ts) : valV kvs (lineK ts t) = some (.int (ix ts t : Int)) := by
  refine valV_ix (hk _ _ (ix_get ht)) fun j q hj hq e => ?_
  have hj2 : j < ts.length := by have := ix_lt ht; omega
  have hu := hk j ts[j] (List.getElem?_eq_getElem hj2)
  rw [hq] at hu
  have eq := Option.some.inj hu
  rw [eq] at e
  have := lineK_inj (cl.mem (List.getElem_mem hj2)) (cl.mem ht) e
  have h2 := ix_of nd (List.getElem?_eq_getElem hj2)
  rw [this] at h2; omega
theorem kvs_new (hl : kvs.length = ts.length) (hk : ∀ (i : Nat) (t : Tm), ts[i]? = some t → kvs[i]? = some (lineK ts t, .int (i : Int))) (cl : Cl ts) (hkid : ∀ k ∈ t.kids, k ∈ ts) (ht : t ∉ ts) : valV kvs (lineK ts t) = none := by
  refine valV_no fun j q hq e => ?_
  have hj2 : j < ts.length := by rw [← hl]; exact (List.getElem?_eq_some_iff.mp hq).1
  have hu := hk j ts[j] (List.getElem?_eq_getElem hj2)
  rw [hq] at hu
  have eq := Option.some.inj hu
  rw [eq] at e
  have := lineK_inj (cl.mem (List.getElem_mem hj2)) hkid e
  exact ht (this ▸ List.getElem_mem hj2)
end
end N0

namespace N0
open PySem L2 PySem.Spec PyProof.Rows
structure TLc (K : PySem.W.Frag) (mg : Str → Option Value) (C : Addr) : Prop where
  cl : Cls K C
  nl : NoAttr K C "lines"
  nn : NoAttr K C "numbers"
  ns : NoAttr K C "sizes"
  mgC : mg "TermLines" = some (.ref C)
structure MDef (P : Program) (w : World) (K : PySem.W.Frag) (mg : Str → Option Value) (base : Heap) (C : Addr) (m : Str) (k : Nat) (ps : List Str) (sp : Sp) : Prop where
  ex : ∃ (f : Addr) (fd : FuncData), FnOk P w K mg base CX0 k f fd ps sp ∧ Meth K C m f ∧ Binds K fd ps []
structure IDef (P : Program) (w : World) (K : PySem.W.Frag) (mg : Str → Option Value) (base : Heap) (C : Addr) (k : Nat) (ps : List Str) (sp : Sp) : Prop where
  ex : ∃ (f : Addr) (fd : FuncData), FnOk P w K mg base CX0 k f fd ps sp ∧ Mk K C f ∧ Binds K fd ps []
def spInit (C : Addr) : Sp := fun vs H Q _ => ∃ (p dx : Addr), vs = [.ref p] ∧ H p = some (.ins C dx []) ∧
  ∀ H' l n s, Kp [p] H H' → H l = none → H n = none → H s = none → TLAt C H' p l n s [] → Q .non H'
def tMkTL (C : Addr) : TE := fun _ H Q => ∀ H' p l n s, Kp [] H H' → H p = none → H l = none → H n = none → H s = none → TLAt C H' p l n s [] → Q (.ref p) H'
section
variable {X : Cx} {e : Expr} {es : List Expr} {o : Expr} {m : Str} {pos p apos : Pos} {t ta : TE} {tA : TA} {C : Addr}
theorem e_meth {k : Nat} {ps : List Str} {sp : Sp} {pl : Sem Bool} (c : Cls X.K C) (M : MDef X.prog X.w X.K X.mg X.base C m k ps sp) (hr : Room k X.A) (he : PE X o ta) (ha : PA X (e :: es) tA)
    (hst : starEach (e :: es) X.env = (false, eval e X.env) :: starEach es X.env := by rfl) (hpl : (backTo pos (starEach es X.env)).any (·.1) = false := by rfl)
    (ht : eval (.Call (.Attribute o m apos) (e :: es) [] pos) X.env = (do
      let ov ← eval o X.env
      standAt apos.atName
      let (f, first) ← holding [ov] (getMethod ov m pl)
      callWith pos f first (backTo pos (starEach (e :: es) X.env)) (backToKw pos (keywordEach [] X.env))) := by rfl) : PE X (.Call (.Attribute o m apos) (e :: es) [] pos) (tMeth C m sp [] E0 ta tA) := by
  obtain ⟨f, fd, F, hm, hb⟩ := M.ex
  exact pe_meth he c hm F hr hb .nil pass0 ha hst hpl ht
theorem e_mkTL (c : TLc X.K X.mg C) (M : IDef X.prog X.w X.K X.mg X.base C 1 ["self"] (spInit C)) (hr : Room 2 X.A) (hg : Gl X "TermLines" := by rfl) : PE X (.Call (.Name "TermLines" p) [] [] pos) (tMkTL C) := by
  obtain ⟨f, fd, F, hm, hb⟩ := M.ex
  have q := pe_make0 (pos := pos) (p := p) hm F hr hg c.mgC hb .nil (pass0 (X := X))
  refine ⟨fun pins s σ H Q I h => q.run pins s σ H Q I ?_⟩
  intro x dx nx ndx nex
  have k0 : Kp [] H (upd (upd H dx (.own x)) x (.ins C dx [])) := (Kp.new ndx).add (by rw [upd_ne (Ne.symm nex)]; exact nx)
  refine ⟨x, dx, rfl, upd_same, fun H' l n s k hl hn hs ht => ⟨rfl, h H' x l n s ?_ nx (k0.n _ hl) (k0.n _ hn) (k0.n _ hs) ht⟩⟩
  refine ⟨fun b o' _ hb => k.k _ _ ?_ (k0.k _ _ (by simp) hb), fun b xs hb => k.t _ _ (k0.t _ _ hb), fun b hb => k0.n _ (k.n _ hb)⟩
  intro z
  simp only [List.mem_singleton] at z
  rw [z, nx] at hb; cases hb
end
/-- a line: it is there, or it is new -/
def spLN (C : Addr) : Sp := fun vs H Q _ => ∃ (p b l n s : Addr) (ts : List Tm) (t : Tm), vs = [.ref p, .ref b] ∧ TLAt C H p l n s ts ∧ H b = some (.tup ((lineK ts t).map kV)) ∧ (∀ k ∈ t.kids, k ∈ ts) ∧ t.size ≤ 1000 ∧ ts.length < 1000 ∧
  ∀ H', Kp [l, n, s] H H' → TLAt C H' p l n s (put ts t) → Q (.int (ix (put ts t) t : Int)) H'
/-- a term: all its parts -/
def spTN (C : Addr) (d : Nat) : Sp := fun vs H Q _ => ∃ (p l n s : Addr) (v : V) (ts : List Tm) (t : Tm), vs = [.ref p, v] ∧ TLAt C H p l n s ts ∧ TmV H t v ∧ t.dep < d ∧ t.size ≤ 1000 ∧ ts.length + t.size ≤ 1000 ∧
  ∀ H', Kp [l, n, s] H H' → TLAt C H' p l n s (addP ts t) → Q (.int (ix (addP ts t) t : Int)) H'
theorem lineK_head (ts : List Tm) (t : Tm) : ∃ r, lineK ts t = .inr t.wd :: r ∧ (t.kd ≠ 2 → r = t.kids.map fun k => .inl (ix ts k : Int)) := by
  cases t <;> exact ⟨_, rfl, fun h => by first | rfl | exact absurd rfl h⟩
theorem wl_yes : ¬ (decide (V.str ("yes" : Str) = V.str "letter") = true) := by decide +kernel
theorem wl_no : ¬ (decide (V.str ("no" : Str) = V.str "letter") = true) := by decide +kernel
theorem wl_not : ¬ (decide (V.str ("not" : Str) = V.str "letter") = true) := by decide +kernel
theorem wl_and : ¬ (decide (V.str ("and" : Str) = V.str "letter") = true) := by decide +kernel
theorem wl_or : ¬ (decide (V.str ("or" : Str) = V.str "letter") = true) := by decide +kernel
theorem wd_letter {t : Tm} : (decide (V.str t.wd = V.str "letter") = true) ↔ t.kd = 2 := by
  cases t with
  | yes => exact ⟨fun h => absurd h wl_yes, fun h => by cases h⟩
  | no => exact ⟨fun h => absurd h wl_no, fun h => by cases h⟩
  | letter s => exact ⟨fun _ => rfl, fun _ => decide_eq_true rfl⟩
  | not a => exact ⟨fun h => absurd h wl_not, fun h => by cases h⟩
  | and a b => exact ⟨fun h => absurd h wl_and, fun h => by cases h⟩
  | or a b => exact ⟨fun h => absurd h wl_or, fun h => by cases h⟩
theorem size_kids {t : Tm} (h : t.kd ≠ 2) : (1 : Int) + (t.kids.map fun k => (k.size : Int)).sum = (t.size : Int) := by
  cases t <;> simp only [Tm.kids, Tm.size, List.map_cons, List.map_nil, List.sum_cons, List.sum_nil] <;> omega
section
variable {P : Program} {w : World} {K : PySem.W.Frag} {mg : Str → Option Value} {base : Heap} {f C : Addr} {fd : FuncData}
theorem ok_init (F : Fun K "__init__" "TermLines.__init__" s_TermLines___init__ f fd) (T : Txt K mg) (TC : TLc K mg C) : FnOk P w K mg base CX0 1 f fd ["self"] (spInit C) := by
  refine F.ok sc_TermLines___init__ (fun vs H Q E h => ?_) (fun cdv A outer s H vs Q E hr h => ?_)
  · obtain ⟨p, dx, rfl, _⟩ := h
    rfl
  obtain ⟨p, dx, rfl, hp, q⟩ := h
  have nd := sc_TermLines___init__.nd
  refine ⟨_, (pss_cons (ps_fld (pv 0) (pe_lst pa_nil) rfl)
      (pss_cons (ps_fld (pv 0) pe_dnewT rfl)
      (pss_one (ps_fld (pv 0) (pe_lst pa_nil) rfl)))), ?_⟩
  refine ⟨Nat.zero_le _, fun l hl => ?_⟩
  have npl : p ≠ l := ne_of_none hp hl
  have h1 : upd H l (.lst []) p = some (.ins C dx []) := by rw [upd_ne npl]; exact hp
  refine ⟨_, rfl, p, C, dx, [], rfl, h1, TC.cl, TC.nl, (by decide), ?_⟩
  intro n hn
  have npn : p ≠ n := fun z => by rw [← z, upd_same] at hn; cases hn
  have nln : l ≠ n := fun z => by rw [← z, upd_ne (Ne.symm npl), upd_same] at hn; cases hn
  have hn0 : H n = none := by rw [upd_ne (Ne.symm npn), upd_ne (Ne.symm nln)] at hn; exact hn
  refine ⟨_, rfl, p, C, dx, _, rfl, by rw [upd_ne npn]; exact upd_same, TC.cl, TC.nn, (by rw [show putF "lines" (V.ref l) [] = [(("lines" : Str), V.ref l)] from by with_unfolding_all rfl]; simp), ?_⟩
  refine ⟨Nat.zero_le _, fun s' hs => ?_⟩
  have nps : p ≠ s' := fun z => by rw [← z, upd_same] at hs; cases hs
  have nls : l ≠ s' := fun z => by rw [← z, upd_ne (Ne.symm npl), upd_ne nln, upd_ne (Ne.symm npl), upd_same] at hs; cases hs
  have nns : n ≠ s' := fun z => by rw [← z, upd_ne (Ne.symm npn), upd_same] at hs; cases hs
  have hs0 : H s' = none := by rw [upd_ne (Ne.symm nps), upd_ne (Ne.symm nns), upd_ne (Ne.symm nps), upd_ne (Ne.symm nls)] at hs; exact hs
  refine ⟨_, rfl, p, C, dx, _, rfl, by rw [upd_ne nps]; exact upd_same, TC.cl, TC.ns, (by rw [show putF "numbers" (V.ref n) (putF "lines" (V.ref l) []) = [(("lines" : Str), V.ref l), (("numbers" : Str), V.ref n)] from by with_unfolding_all rfl]; simp), ?_⟩
  have hf : putF "sizes" (.ref s') (putF "numbers" (.ref n) (putF "lines" (.ref l) [])) = tlf l n s' := by with_unfolding_all rfl
  rw [hf]
  refine q _ l n s' ?_ hl hn0 hs0 ?_
  · have k1 : Kp [p] H (upd H l (.lst [])) := Kp.new hl
    have k2 := k1.wr (l := p) (by simp) h1 (o := .ins C dx (putF "lines" (.ref l) [])) (by intro xs z; cases z)
    have k3 := k2.add hn (o := .dT [])
    have k4 := k3.wr (l := p) (by simp) (by rw [upd_ne npn]; exact upd_same) (o := .ins C dx (putF "numbers" (.ref n) (putF "lines" (.ref l) []))) (by intro xs z; cases z)
    have k5 := k4.add hs (o := .lst [])
    exact k5.wr (l := p) (by simp) (by rw [upd_ne nps]; exact upd_same) (by intro xs z; cases z)
  · refine ⟨⟨dx, upd_same⟩, ⟨[], ?_, rfl, fun i t h => by simp at h⟩, ⟨[], ?_, rfl, fun i t h => by simp at h⟩, ?_, nls, List.nodup_nil, Cl.nil, by simp⟩
    · rw [upd_ne (Ne.symm npl), upd_ne nls, upd_ne (Ne.symm npl), upd_ne nln, upd_ne (Ne.symm npl), upd_same]
    · rw [upd_ne (Ne.symm npn), upd_ne nns, upd_ne (Ne.symm npn), upd_same]
    · rw [upd_ne (Ne.symm nps), upd_same]; rfl
theorem ok_line_number (F : Fun K "line_number" "TermLines.line_number" s_TermLines_line_number f fd) (T : Txt K mg) (TC : TLc K mg C) : FnOk P w K mg base CX0 1 f fd ["self", "line"] (spLN C) := by
  refine F.ok sc_TermLines_line_number (fun vs H Q E h => ?_) (fun cdv A outer s H vs Q E hr h => ?_)
  · obtain ⟨p, b, l, n, s, ts, t, rfl, _⟩ := h
    rfl
  obtain ⟨p, b, l, n, s', ts, t, rfl, hT, hb, hk, hsz, hlen, q⟩ := h
  have nd := sc_TermLines_line_number.nd
  refine ⟨_, (pss_cons (ps_if (pt_cmp (pc_dnotin (hu_of hr) (pv 1) (pe_fld (pv 0) rfl))) (pss_cons (ps_dput (hu_of hr) (pe_fld (pv 0) rfl) (pv 1) (e_len T (pa_cons (pe_fld (pv 0) rfl) pa_nil)) rfl)
      (pss_cons (ps_expr (pe_bm PySem.F.plainAttrs_list PySem.F.slot_list_append PySem.F.type_list_append mt_append (pe_fld (pv 0) rfl) (pa_cons (pv 1) pa_nil)))
      (pss_cons (ps_set (i := 2) nd rfl (Or.inl rfl) (pe_ifExp (pt_cmpR op_eq (pe_ix ix_tup (pv 1) pe_int (fun _ _ => rfl)) pe_str (nomark _)) pe_int (pe_op op_add pe_int (pe_callB (cr_sum rfl) (by rfl) T.sum bt_sum (pa_cons (pe_lc (own := [("one", 3)]) (g := gName 3) (tt := tYes) rfl nd (pi_tup (pe_slice sl_tupA (pv 1) (po_some pe_int) po_none)) (blkOk_by (N := N_TermLines_line_number) (sc := defScope s_TermLines_line_number) (by decide +kernel)) (fun _ _ _ _ _ => pg_name (i := 3) nd rfl (Or.inl rfl)) (fun _ _ _ _ _ => pts_nil) (fun _ _ _ _ _ => (pe_ix (ix_listk K) (pe_fldk K (pe_fld (pv 0) rfl)) (pv 3) (fun _ _ => rfl)))) pa_nil)))))
      (pss_one (ps_expr (pe_bm PySem.F.plainAttrs_list PySem.F.slot_list_append PySem.F.type_list_append mt_append (pe_fld (pv 0) rfl) (pa_cons (pe_callB (call_min2 rfl) (by rfl) T.min bt_min (pa_cons (pv 2) (pa_cons (e_const T.MOST_KEPT) pa_nil))) pa_nil))))))) pss_nil)
      (pss_one (ps_ret (pe_dget (hu_of hr) (pe_fld (pv 0) rfl) (pv 1) (fun _ _ => rfl))))), ?_⟩
  obtain ⟨dx, hp⟩ := hT.dx
  obtain ⟨lv, hl, hlv, hla⟩ := hT.ls
  obtain ⟨kvs, hn, hkl, hka⟩ := hT.ns
  have hs := hT.ss
  refine ⟨_, rfl, _, rfl, p, C, dx, _, _, rfl, hp, TC.cl, TC.nn, tlf_n _ _ _, n, _, rfl, DGet.t hn hb, _, rfl, ?_⟩
  by_cases ht : t ∈ ts
  · rw [kvs_old hkl hka hT.nd hT.cl ht]
    refine iteF ?_
    refine ⟨_, rfl, p, C, dx, _, _, rfl, hp, TC.cl, TC.nn, tlf_n _ _ _, _, rfl, n, .int (ix ts t : Int), rfl, ?_, ?_⟩
    · have := DGet.t (k := lineK ts t) hn hb
      rw [kvs_old hkl hka hT.nd hT.cl ht] at this; exact this
    · have e : put ts t = ts := if_pos ht
      have := q H (Kp.refl _ _) (by rw [e]; exact hT)
      rw [e] at this; exact this
  · have hno := kvs_new hkl hka hT.cl hk ht
    rw [hno]
    refine iteT ?_
    have e : put ts t = ts ++ [t] := if_neg ht
    -- self.numbers[line] = len(self.lines)
    refine ⟨_, rfl, p, C, dx, _, _, rfl, hp, TC.cl, TC.nl, tlf_l _ _ _, l, lv, rfl, .inl (SqL.of hl), ?_⟩
    refine ⟨_, rfl, p, C, dx, _, _, rfl, hp, TC.cl, TC.nn, tlf_n _ _ _, _, rfl, n, _, rfl, DPut.t hn hb (small_lt (by omega)), ?_⟩
    have hput : putK kvs (lineK ts t) (.int (lv.length : Int)) = kvs ++ [(lineK ts t, .int (lv.length : Int))] := by
      unfold putK; rw [valV_any, hno]; rfl
    rw [hput]
    have npn : p ≠ n := ne_of hp hn (by intro z; cases z)
    have nln : l ≠ n := ne_of hl hn (by intro z; cases z)
    have nsn : s' ≠ n := ne_of hs hn (by intro z; cases z)
    have npl : p ≠ l := ne_of hp hl (by intro z; cases z)
    have nps : p ≠ s' := ne_of hp hs (by intro z; cases z)
    have k1 : Kp [l, n, s'] H (upd H n (.dT (kvs ++ [(lineK ts t, .int (lv.length : Int))]))) := (Kp.refl _ _).wr (by simp) hn (by intro xs z; cases z)
    have hp1 := k1.k p _ (by simp [npl, npn, nps]) hp
    have hl1 : upd H n (.dT (kvs ++ [(lineK ts t, .int (lv.length : Int))])) l = some (.lst lv) := by rw [upd_ne nln]; exact hl
    have hs1 : upd H n (.dT (kvs ++ [(lineK ts t, .int (lv.length : Int))])) s' = _ := Eq.trans (upd_ne nsn) hs
    have hn1 : upd H n (.dT (kvs ++ [(lineK ts t, .int (lv.length : Int))])) n = some (.dT (kvs ++ [(lineK ts t, .int (lv.length : Int))])) := upd_same
    generalize upd H n (.dT (kvs ++ [(lineK ts t, .int (lv.length : Int))])) = H1 at k1 hp1 hl1 hs1 hn1 ⊢
    -- self.lines.append(line)
    refine ⟨_, rfl, p, C, dx, _, _, rfl, hp1, TC.cl, TC.nl, tlf_l _ _ _, .inl ⟨rfl, _, SqL.of hl1⟩, _, rfl, l, lv, _, rfl, rfl, hl1, small_lt (by omega), ?_⟩
    have k2 : Kp [l, n, s'] H (upd H1 l (.lst (lv ++ [.ref b]))) := k1.wr (by simp) hl1 (by intro xs z; cases z)
    have hp2 := k2.k p _ (by simp [npl, npn, nps]) hp
    have hl2 : upd H1 l (.lst (lv ++ [.ref b])) l = some (.lst (lv ++ [.ref b])) := upd_same
    have hs2 : upd H1 l (.lst (lv ++ [.ref b])) s' = _ := Eq.trans (upd_ne (Ne.symm hT.ne)) hs1
    have hn2 : upd H1 l (.lst (lv ++ [.ref b])) n = _ := Eq.trans (upd_ne (Ne.symm nln)) hn1
    have hb2 := k2.t _ _ hb
    generalize upd H1 l (.lst (lv ++ [.ref b])) = H2 at k2 hp2 hl2 hs2 hn2 hb2 ⊢
    obtain ⟨r, hr0, hrk⟩ := lineK_head ts t
    rw [hr0, List.map_cons] at hb2
    have hI : ∀ e : TE, e = tOp (rIxT K) (tVar 1) (tC (.int 0)) → EvE e (L2.start N_TermLines_line_number [.ref p, .ref b]) H2 (.str t.wd) := by
      rintro e rfl
      exact .of fun Q k => ⟨_, rfl, b, _, 0, _, rfl, rfl, tupT hb2, atI_nat (j := 0) rfl, k⟩
    dsimp only
    refine EvE.asgS (v := .int (t.size : Int)) (EvE.cast (EvE.if (b := decide (V.str t.wd = V.str "letter")) (v := .int 1) (w := .int (1 + (t.kids.map fun k => (k.size : Int)).sum)) ?_ ?_ (fun he H3 k3 Q1 q1 => ?_)) ?_) (fun H3 k3 => ?_)
    · exact EvE.test fun Q k => hI _ rfl _ fun H3 k3 => ⟨rfl, k H3 k3⟩
    · exact fun _ H3 k3 => .of fun Q k => k
    · have hkd : t.kd ≠ 2 := fun z => by rw [wd_letter.mpr z] at he; cases he
      have hr := hrk hkd
      refine ⟨_, rfl, _, rfl, b, _, rfl, tupT (k3.t _ _ hb2), fun z => absurd z (cut_tail _ _).2, fun _ pt hpt => ?_⟩
      rw [(cut_tail _ _).1]
      refine ⟨pt, rfl, ⟨_, tupT upd_same⟩, fun D hD => ?_⟩
      have k4 : Kp [] H3 (upd H3 pt (.tup (r.map kV))) := Kp.new hpt
      have kk := k3.trans k4
      have hrl : r.length = t.kids.length := by rw [hr, List.length_map]
      have hp4 : upd H3 pt (.tup (r.map kV)) p = _ := kk.k _ _ (by simp) hp2
      have hs4 : upd H3 pt (.tup (r.map kV)) s' = _ := kk.k _ _ (by simp) hs2
      have ht4 : upd H3 pt (.tup (r.map kV)) pt = some (.tup (r.map kV)) := upd_same
      generalize upd H3 pt (.tup (r.map kV)) = H4 at k4 kk hD hp4 hs4 ht4 ⊢
      refine lc_it (n := (r.map kV).length) walk_tup (fun i H' => Kp [] H4 H' ∧ H' D = some (.lst (((t.kids.take i).map fun k => (k.size : Int)).map V.int))) ⟨Kp.new hD, upd_same⟩ (fun i H' _ h => tupT (h.1.t _ _ ht4)) ?_ ?_
      · rintro i y _ H5 hi ⟨k5, hD5⟩ ⟨rfl, hyi⟩
        have hi2 : i < t.kids.length := by rw [List.length_map, hrl] at hi; exact hi
        have hye : y = .int (ix ts t.kids[i] : Int) := by
          rw [hr, List.map_map, List.getElem?_map, List.getElem?_eq_getElem hi2] at hyi
          exact (Option.some.inj hyi).symm
        subst hye
        have hkm := hk _ (List.getElem_mem hi2)
        refine ⟨rfl, ?_⟩
        refine ⟨_, rfl, p, C, dx, _, _, rfl, k5.k _ _ (by simp) hp4, TC.cl, TC.ns, tlf_s _ _ _, _, rfl, s', _, _, .int (t.kids[i].size : Int), rfl, rfl, SqL.of (k5.k _ _ (by simp) hs4), atI_nat (by rw [List.getElem?_map, ix_get hkm]; rfl), _, hD5, ?_, k5.put hD, ?_⟩
        · rw [List.length_map, List.length_map, List.length_take]
          have : t.kids.length ≤ 2 := by cases t <;> simp [Tm.kids]
          exact small_lt (by omega)
        · rw [upd_same, List.take_add_one, List.getElem?_eq_getElem hi2, List.map_append, List.map_append]; rfl
      · rintro H5 ⟨k5, hD5⟩
        rw [List.take_of_length_le (by rw [List.length_map]; omega)] at hD5
        exact ⟨D, _, rfl, SqL.of hD5, _, _, rfl, rfl, q1 _ (k4.trans k5)⟩
    · by_cases hkd : t.kd = 2
      · rw [if_pos (wd_letter.mpr hkd)]
        cases t <;> simp [Tm.kd] at hkd
        rfl
      · rw [if_neg (fun z => hkd (wd_letter.mp z)), size_kids hkd]
    · -- self.sizes.append(min(size, MOST_KEPT)); return self.numbers[line]
      have k23 := k2.trans k3.mono0
      have hp3 := k3.k _ _ (by simp) hp2
      have hs3 := k3.k _ _ (by simp) hs2
      have hl3 := k3.k _ _ (by simp) hl2
      have hn3 := k3.k _ _ (by simp) hn2
      have hb3 := k3.t _ _ hb2
      refine ⟨_, rfl, p, C, dx, _, _, rfl, hp3, TC.cl, TC.ns, tlf_s _ _ _, .inl ⟨rfl, _, SqL.of hs3⟩, _, rfl, _, _, rfl, s', _, _, rfl, rfl, hs3, small_lt (by rw [List.length_map]; omega), ?_⟩
      have hmin : (if (1000000 : Int) < (t.size : Int) then (1000000 : Int) else (t.size : Int)) = (t.size : Int) := if_neg (by omega)
      rw [hmin]
      have k4 : Kp [l, n, s'] H (upd H3 s' (.lst ((ts.map fun t => .int (t.size : Int)) ++ [.int (t.size : Int)]))) := k23.wr (by simp) hs3 (by intro xs z; cases z)
      have hp4 := k4.k p _ (by simp [npl, npn, nps]) hp
      have hl4 : upd H3 s' (.lst ((ts.map fun t => .int (t.size : Int)) ++ [.int (t.size : Int)])) l = _ := Eq.trans (upd_ne hT.ne) hl3
      have hn4 : upd H3 s' (.lst ((ts.map fun t => .int (t.size : Int)) ++ [.int (t.size : Int)])) n = _ := Eq.trans (upd_ne (Ne.symm nsn)) hn3
      have hs4 : upd H3 s' (.lst ((ts.map fun t => .int (t.size : Int)) ++ [.int (t.size : Int)])) s' = _ := upd_same
      have hb4 := k4.t _ _ hb
      generalize upd H3 s' (.lst ((ts.map fun t => .int (t.size : Int)) ++ [.int (t.size : Int)])) = H4 at k4 hp4 hl4 hn4 hs4 hb4 ⊢
      have hkey : ∀ u : Tm, (∀ k ∈ u.kids, k ∈ ts) → lineK (ts ++ [t]) u = lineK ts u := fun u hu => lineK_ext fun k hk => ix_app (hu k hk)
      have hT4 : TLAt C H4 p l n s' (put ts t) := by
        rw [e]
        refine ⟨⟨dx, hp4⟩, ⟨_, hl4, by simp [hlv], fun i u hu => ?_⟩, ⟨_, hn4, by simp [hkl], fun i u hu => ?_⟩, ?_, hT.ne, ?_, ?_, ⟨by simp; omega, fun u hu => ?_⟩⟩
        · by_cases hi : i < ts.length
          · rw [List.getElem?_append_left hi] at hu
            obtain ⟨a, h1, h2⟩ := hla i u hu
            refine ⟨a, by rw [List.getElem?_append_left (by omega)]; exact h1, ?_⟩
            rw [hkey u (hT.cl.mem (List.mem_of_getElem? hu))]
            exact k4.t _ _ h2
          · have hi2 := (List.getElem?_eq_some_iff.mp hu).1
            simp at hi2
            have ei : i = ts.length := by omega
            subst ei
            rw [List.getElem?_append_right (Nat.le_refl _)] at hu
            simp at hu; subst hu
            refine ⟨b, by rw [List.getElem?_append_right (by omega)]; simp [hlv], ?_⟩
            rw [hkey t hk]; exact hb4
        · by_cases hi : i < ts.length
          · rw [List.getElem?_append_left hi] at hu
            rw [List.getElem?_append_left (by omega), hka i u hu, hkey u (hT.cl.mem (List.mem_of_getElem? hu))]
          · have hi2 := (List.getElem?_eq_some_iff.mp hu).1
            simp at hi2
            have ei : i = ts.length := by omega
            subst ei
            rw [List.getElem?_append_right (Nat.le_refl _)] at hu
            simp at hu; subst hu
            rw [List.getElem?_append_right (by omega), hkey t hk]
            simp [hkl, hlv]
        · rw [hs4, List.map_append]; rfl
        · have := put_nodup (t := t) hT.nd; rw [e] at this; exact this
        · have := put_cl (t := t) hT.cl hk; rw [e] at this; exact this
        · rcases List.mem_append.mp hu with h | h
          · exact hT.big.2 u h
          · simp at h; subst h; exact hsz
      refine ⟨_, rfl, p, C, dx, _, _, rfl, hp4, TC.cl, TC.nn, tlf_n _ _ _, _, rfl, n, .int (ix (put ts t) t : Int), rfl, ?_, q _ k4 hT4⟩
      obtain ⟨kvs4, hn4', hkl4, hka4⟩ := hT4.ns
      have hkt : lineK (put ts t) t = lineK ts t := by rw [e]; exact hkey t hk
      have g := DGet.t (k := lineK (put ts t) t) hn4' (b := b) (by rw [hkt]; exact hb4)
      rw [kvs_old hkl4 hka4 hT4.nd hT4.cl (put_mem.mpr (.inr rfl))] at g
      exact g
end
end N0

namespace N0
open PySem L2 PySem.Spec PyProof.Rows
/-- all kids in turn -/
def addKids (ts : List Tm) : List Tm → List Tm
  | [] => ts
  | k :: ks => addKids (addP ts k) ks
theorem addKids_app : ∀ (a : List Tm) (ts : List Tm) (x : Tm), addKids ts (a ++ [x]) = addP (addKids ts a) x
  | [], ts, x => rfl
  | k :: a, ts, x => addKids_app a (addP ts k) x
theorem addP_eq (ts : List Tm) (t : Tm) : addP ts t = put (addKids ts t.kids) t := by cases t <;> rfl
theorem addKids_mem : ∀ (ks ts : List Tm), (∀ u ∈ ts, u ∈ addKids ts ks) ∧ ∀ k ∈ ks, k ∈ addKids ts ks
  | [], ts => ⟨fun u h => h, fun k h => by cases h⟩
  | k :: ks, ts => by
    obtain ⟨h1, h2⟩ := addKids_mem ks (addP ts k)
    refine ⟨fun u h => h1 u ((addP_mem _ _ _).mpr (.inl h)), fun x hx => ?_⟩
    rcases List.mem_cons.mp hx with rfl | q
    · exact h1 _ (addP_self _ _)
    · exact h2 x q
theorem addKids_ix : ∀ (ks ts : List Tm) {u : Tm}, u ∈ ts → ix (addKids ts ks) u = ix ts u
  | [], _, _, _ => rfl
  | k :: ks, ts, u, h => by
    show ix (addKids (addP ts k) ks) u = _
    rw [addKids_ix ks _ ((addP_mem _ _ _).mpr (.inl h)), addP_ix h]
theorem addKids_len : ∀ (ks ts : List Tm), (addKids ts ks).length ≤ ts.length + (ks.map Tm.size).sum
  | [], ts => by simp [addKids]
  | k :: ks, ts => by
    have := addKids_len ks (addP ts k)
    have := addP_len k ts
    show (addKids (addP ts k) ks).length ≤ _
    rw [List.map_cons, List.sum_cons]; omega
theorem kids_sizes (t : Tm) : (t.kids.map Tm.size).sum + 1 = t.size := by
  cases t <;> simp [Tm.kids, Tm.size] <;> omega
theorem kids_dep {t : Tm} : ∀ k ∈ t.kids, k.dep < t.dep := by
  cases t <;> simp [Tm.kids, Tm.dep] <;> omega
theorem sum_take_le : ∀ (l : List Nat) (i : Nat), (l.take i).sum ≤ l.sum
  | [], _ => by simp
  | _ :: _, 0 => by simp
  | x :: l, i + 1 => by rw [List.take_succ_cons, List.sum_cons, List.sum_cons]; have := sum_take_le l i; omega
theorem cut_head (x : V) (xs : List V) : cutV (x :: xs) none (some 1) = [x] := by
  have h1 : HT.sIx (x :: xs).length (x :: xs).length (some ((1 : Nat) : Int)) = 1 := by rw [HT.sIx_nat]; simp
  have h1' : HT.sIx (x :: xs).length (x :: xs).length (some 1) = 1 := h1
  unfold cutV
  rw [h1']
  rfl
/-- x[:1] of a tuple that is not empty -/
theorem sliceHead {K : PySem.W.Frag} {H : Hp} {a : Addr} {x : V} {xs : List V} {Q : VK} (ha : H a = some (.tup (x :: xs))) (q : ∀ p H', Kp [] H H' → H' p = some (.tup [x]) → Q (.ref p) H') : rSlA K (.ref a) none (some 1) H Q := by
  refine ⟨a, _, rfl, tupT ha, fun z => ?_, fun _ p hp => q p _ (Kp.new hp) (by rw [upd_same, cut_head])⟩
  have h1 : HT.sIx (x :: xs).length (x :: xs).length (some ((1 : Nat) : Int)) = 1 := by rw [HT.sIx_nat]; simp
  have h2 : (1 : Nat) = (x :: xs).length := h1.symm.trans z.2
  have e : xs = [] := by
    cases xs with
    | nil => rfl
    | cons _ _ => simp at h2
  subst e
  exact q a H (Kp.refl _ _) ha
section
variable {P : Program} {w : World} {K : PySem.W.Frag} {mg : Str → Option Value} {base : Heap} {f C : Addr} {fd : FuncData}
theorem ok_term_number {d : Nat} (F : Fun K "term_number" "TermLines.term_number" s_TermLines_term_number f fd) (T : Txt K mg) (TC : TLc K mg C) (D_line_number : MDef P w K mg base C "line_number" 1 ["self", "line"] (spLN C))
    (D_terms_of : Def P w K mg base "terms_of" 1 ["term"] (spTermsOf K)) (D_term_number : MDef P w K mg base C "term_number" (d + 1) ["self", "term"] (spTN C d)) : FnOk P w K mg base CX0 (d + 2) f fd ["self", "term"] (spTN C (d + 1)) := by
  refine F.ok sc_TermLines_term_number (fun vs H Q E h => ?_) (fun cdv A outer s H vs Q E hr h => ?_)
  · obtain ⟨p, l, n, s, v, ts, t, rfl, _⟩ := h
    rfl
  obtain ⟨p, l, n, s', v, ts, t, rfl, hT, ht, hd, hsz, hlen, q⟩ := h
  have nd := sc_TermLines_term_number.nd
  refine ⟨_, (pss_cons (ps_if (pt_cmpR op_eq (pe_ix ix_tup (pv 1) pe_int (fun _ _ => rfl)) pe_str (nomark _)) (pss_one (ps_ret (e_meth TC.cl D_line_number (hr.mono (by omega)) (pv 0) (pa_cons (pv 1) pa_nil)))) pss_nil)
      (pss_one (ps_ret (e_meth TC.cl D_line_number (hr.mono (by omega)) (pv 0) (pa_cons (pe_op op_catA (pe_slice sl_tupA (pv 1) po_none (po_some pe_int)) (pe_callTy call_tuple_of (by rfl) T.tuple bt_tuple (pa_cons (pe_lc (own := [("inner", 2)]) (g := gName 2) (tt := tYes) rfl nd (pi_tup (e_fn D_terms_of (hr.mono (by omega)) (pa_cons (pv 1) pa_nil))) (blkOk_by (N := N_TermLines_term_number) (sc := defScope s_TermLines_term_number) (by decide +kernel)) (fun _ _ _ _ _ => pg_name (i := 2) nd rfl (Or.inl rfl)) (fun _ _ _ _ _ => pts_nil) (fun _ _ _ _ _ => (e_meth TC.cl D_term_number (hr.mono (by omega)) (pv 0) (pa_cons (pv 2) pa_nil)))) pa_nil))) pa_nil))))), ?_⟩
  obtain ⟨a, xs, ks, rfl, ha, hks, hkd⟩ := ht.node
  have hI : ∀ e : TE, e = tOp (rIxT K) (tVar 1) (tC (.int 0)) → EvE e (L2.start N_TermLines_term_number [.ref p, .ref a]) H (.str t.wd) := by
    rintro e rfl
    exact .of fun Q k => ⟨_, rfl, a, _, 0, _, rfl, rfl, tupT ha, atI_nat (j := 0) rfl, k⟩
  obtain ⟨dx, hp⟩ := hT.dx
  refine EvT.ifS (b := decide (V.str t.wd = V.str "letter")) (EvE.test fun Q k => hI _ rfl _ fun H3 k3 => ⟨rfl, k H3 k3⟩) (fun he H1 k1 => ?_) (fun he H1 k1 => ?_)
  · have hkd2 := wd_letter.mp he
    obtain ⟨z, rfl⟩ : ∃ z, t = .letter z := by cases t <;> simp [Tm.kd] at hkd2; exact ⟨_, rfl⟩
    obtain ⟨a', e', ha'⟩ := ht
    cases e'
    refine ⟨_, rfl, p, dx, _, rfl, k1.k _ _ (by simp) hp, tlf_ln _ _ _, _, rfl, ?_⟩
    have hlen' : ts.length < 1000 := by have := Tm.size_pos (.letter z); omega
    refine ⟨p, a, l, n, s', ts, .letter z, rfl, hT.kp k1 (by simp), k1.t _ _ ha', by simp [Tm.kids], hsz, hlen', fun H' k' hT' => q _ (k1.mono0.trans k') hT'⟩
  · have hkd2 : t.kd ≠ 2 := fun z => by rw [wd_letter.mpr z] at he; cases he
    have hp1 := k1.k _ _ (by simp) hp
    refine ⟨_, rfl, p, dx, _, rfl, hp1, tlf_ln _ _ _, ?_⟩
    -- term[:1]
    have ha1 := k1.t _ _ ha
    refine ⟨_, rfl, _, rfl, sliceHead ha1 fun ph H2 k2 hph => ?_⟩
    have k12 := k1.trans k2
    refine ⟨_, rfl, a, t.wd, xs, rfl, tupT (k12.t _ _ ha), fun H3 b k3 hb => ⟨b, rfl, ⟨_, hb⟩, fun D hD => ?_⟩⟩
    rw [hks] at hb
    have k13 := k12.trans k3
    have hT3 := hT.kp k13 (by simp)
    have hkd3 := hkd.kp k13
    have hph3 := k3.t _ _ hph
    have hp3 := k13.k _ _ (by simp) hp
    obtain ⟨lv, hl3, _⟩ := hT3.ls
    obtain ⟨kvs, hn3, _⟩ := hT3.ns
    have hs3 := hT3.ss
    have hDS : D ∉ [l, n, s'] := by
      simp only [List.mem_cons, List.not_mem_nil, or_false]
      rintro (z | z | z)
      · rw [z, hl3] at hD; cases hD
      · rw [z, hn3] at hD; cases hD
      · rw [z, hs3] at hD; cases hD
    have hpS : p ∉ [l, n, s'] := by
      simp only [List.mem_cons, List.not_mem_nil, or_false]
      rintro (z | z | z)
      · rw [z, hl3] at hp3; cases hp3
      · rw [z, hn3] at hp3; cases hp3
      · rw [z, hs3] at hp3; cases hp3
    have hpD : p ≠ D := ne_of_none hp3 hD
    have hkl := hkd.len
    have hkk : t.kids.length ≤ 2 := by cases t <;> simp [Tm.kids]
    have hsum := kids_sizes t
    have hbk : ∀ H', Kp [l, n, s'] H3 H' → SqT K H' b ks := fun H' k => by
      rcases hb with (hb | ⟨o, hb⟩) | hb
      · exact .inl (.inl (k.t _ _ hb))
      · refine .inl (.inr ⟨o, k.k _ _ ?_ hb⟩)
        simp only [List.mem_cons, List.not_mem_nil, or_false]
        rintro (z | z | z)
        · rw [z, hl3] at hb; cases hb
        · rw [z, hn3] at hb; cases hb
        · rw [z, hs3] at hb; cases hb
      · exact .inr hb
    refine lc_it (n := ks.length) walk_tup (fun i H' => Kp [l, n, s'] H3 H' ∧ TLAt C H' p l n s' (addKids ts (t.kids.take i)) ∧ H' D = some (.lst ((t.kids.take i).map fun k => V.int (ix (addKids ts (t.kids.take i)) k : Int))))
      ⟨Kp.new hD, hT3.kp (Kp.new (S := []) hD) (by simp), upd_same⟩ (fun i H' _ h => hbk H' h.1) ?_ ?_
    · rintro i y _ H4 hi ⟨k4, hT4, hD4⟩ ⟨rfl, hyi⟩
      have hi2 : i < t.kids.length := by omega
      obtain ⟨ti, hti, htv⟩ := hkd3.get hyi
      have htie : t.kids[i] = ti := by rw [List.getElem?_eq_getElem hi2] at hti; exact Option.some.inj hti
      have htm : ti ∈ t.kids := htie ▸ List.getElem_mem hi2
      have hlk := addKids_len (t.kids.take i) ts
      have hst : ((t.kids.take i).map Tm.size).sum + ti.size ≤ (t.kids.map Tm.size).sum := by
        have h1 : (t.kids.take (i + 1)).map Tm.size = (t.kids.take i).map Tm.size ++ [ti.size] := by
          rw [List.take_add_one, List.getElem?_eq_getElem hi2, htie]; simp
        have h2 := sum_take_le (t.kids.map Tm.size) (i + 1)
        rw [← List.map_take, h1, List.sum_append] at h2
        simpa using h2
      refine ⟨rfl, ?_⟩
      refine ⟨_, rfl, p, dx, _, rfl, k4.k _ _ hpS hp3, tlf_tn _ _ _, _, rfl, ?_⟩
      refine ⟨p, l, n, s', y, _, ti, rfl, hT4, htv.kp k4, by have := kids_dep ti htm; omega, by omega, by omega, fun H5 k5 hT5 => ?_⟩
      have hD5 := k5.k _ _ hDS hD4
      have e1 : addKids ts (t.kids.take (i + 1)) = addP (addKids ts (t.kids.take i)) ti := by
        rw [List.take_add_one, List.getElem?_eq_getElem hi2, htie]; exact addKids_app _ _ _
      refine ⟨_, hD5, small_lt (by rw [List.length_map, List.length_take]; omega), (k4.trans k5).put hD, ?_, ?_⟩
      · rw [e1]
        have kD : Kp [D] H5 (upd H5 D (.lst (((t.kids.take i).map fun k => V.int (ix (addKids ts (t.kids.take i)) k : Int)) ++ [V.int (ix (addP (addKids ts (t.kids.take i)) ti) ti : Int)]))) := (Kp.refl _ _).wr (by simp) hD5 (by intro xs z; cases z)
        refine hT5.kp kD ?_
        simp only [List.mem_cons, List.not_mem_nil, or_false, not_or] at hDS ⊢
        exact ⟨hpD, Ne.symm hDS.1, Ne.symm hDS.2.1, Ne.symm hDS.2.2⟩
      · rw [upd_same, e1, List.take_add_one, List.getElem?_eq_getElem hi2, htie]
        rw [show (some ti).toList = [ti] from rfl, List.map_append]
        have e2 : ((t.kids.take i).map fun k => V.int (ix (addP (addKids ts (t.kids.take i)) ti) k : Int)) = (t.kids.take i).map fun k => V.int (ix (addKids ts (t.kids.take i)) k : Int) := by
          refine List.map_congr_left fun k hk => ?_
          rw [addP_ix ((addKids_mem _ _).2 k hk)]
        rw [e2]; rfl
    · rintro H4 ⟨k4, hT4, hD4⟩
      rw [List.take_of_length_le (by omega)] at hT4 hD4
      refine ⟨D, _, rfl, .inl ⟨SqL.of hD4, fun pt hpt => ?_⟩⟩
      have k5 : Kp [] H4 (upd H4 pt (.tup (t.kids.map fun k => V.int (ix (addKids ts t.kids) k : Int)))) := Kp.new hpt
      refine catT (k5.t _ _ (k4.t _ _ hph3)) upd_same (by simp; omega) fun pl H6 k6 hpl => ?_
      have k46 := k5.trans k6
      have hT6 := hT4.kp k46 (by simp)
      have hlk := addKids_len t.kids ts
      have hkey : (lineK (addKids ts t.kids) t).map kV = [V.str t.wd] ++ t.kids.map fun k => V.int (ix (addKids ts t.kids) k : Int) := by
        obtain ⟨r, h1, h2⟩ := lineK_head (addKids ts t.kids) t
        rw [h1, h2 hkd2, List.map_cons, List.map_map]
        rfl
      refine ⟨p, pl, l, n, s', addKids ts t.kids, t, rfl, hT6, by rw [hkey]; exact hpl, (addKids_mem _ _).2, hsz, by omega, fun H7 k7 hT7 => ?_⟩
      rw [addP_eq ts t] at q
      exact q _ (((k13.mono0).trans k4).trans (k46.mono0.trans k7)) hT7
end
end N0

namespace N0
open PySem L2 PySem.Spec PyProof.Rows
/-- a list of the lines of terms -/
def LinesV (H : Hp) (ts : List Tm) (lv : List V) : Prop := lv.length = ts.length ∧ ∀ (i : Nat) (t : Tm), ts[i]? = some t → ∃ a, lv[i]? = some (.ref a) ∧ H a = some (.tup ((lineK ts t).map kV))
theorem LinesV.kp {S : List Addr} {H H' : Hp} {ts : List Tm} {lv : List V} (k : Kp S H H') : LinesV H ts lv → LinesV H' ts lv
  | ⟨h1, h2⟩ => ⟨h1, fun i t ht => let ⟨a, e1, e2⟩ := h2 i t ht; ⟨a, e1, k.t _ _ e2⟩⟩
theorem TmV.mk {H : Hp} {t : Tm} {a : Addr} {vs : List V} (ha : H a = some (.tup (.str t.wd :: vs))) (hv : TmVs H t.kids vs) (hk : t.kd ≠ 2) : TmV H t (.ref a) := by
  cases t with
  | yes => cases vs with
    | nil => exact ⟨a, rfl, ha⟩
    | cons _ _ => exact hv.elim
  | no => cases vs with
    | nil => exact ⟨a, rfl, ha⟩
    | cons _ _ => exact hv.elim
  | letter s => exact absurd rfl hk
  | not u => match vs, hv with
    | [x], hv => exact ⟨a, x, rfl, ha, hv.1⟩
  | and u w => match vs, hv with
    | [x, y], hv => exact ⟨a, x, y, rfl, ha, hv.1, hv.2.1⟩
  | or u w => match vs, hv with
    | [x, y], hv => exact ⟨a, x, y, rfl, ha, hv.1, hv.2.1⟩
def spTold : Sp := fun vs H Q _ => ∃ (l : Addr) (ts : List Tm) (lv : List V), vs = [.ref l] ∧ H l = some (.lst lv) ∧ LinesV H ts lv ∧ Cl ts ∧ ts.Nodup ∧ ts.length ≤ 1000 ∧
  ∀ H' a vs', Kp [] H H' → H a = none → H' a = some (.lst vs') → TmVs H' ts vs' → Q (.ref a) H'
section
variable {P : Program} {w : World} {K : PySem.W.Frag} {mg : Str → Option Value} {base : Heap} {f C : Addr} {fd : FuncData}
theorem ok_told_terms (F : Fun K "told_terms" "told_terms" s_told_terms f fd) (T : Txt K mg) : FnOk P w K mg base CX0 1 f fd ["lines"] spTold := by
  refine F.ok sc_told_terms (fun vs H Q E h => ?_) (fun cdv A outer s H vs Q E hr h => ?_)
  · obtain ⟨l, ts, lv, rfl, _⟩ := h
    rfl
  obtain ⟨l, ts, lv, rfl, hl, hL, hcl, hnd, hlen, q⟩ := h
  have nd := sc_told_terms.nd
  refine ⟨_, (pss_cons (ps_set (i := 1) nd rfl (Or.inr rfl) (pe_lst pa_nil))
      (pss_cons (ps_for PassesOwn.never rfl (pi_list (pv 0)) (pg_name (i := 2) nd rfl (Or.inl rfl)) (pss_one (ps_expr (pe_bm PySem.F.plainAttrs_list PySem.F.slot_list_append PySem.F.type_list_append mt_append (pv 1) (pa_cons (pe_ifExp (pt_cmpR op_eq (pe_ix ix_tup (pv 2) pe_int (fun _ _ => rfl)) pe_str (nomark _)) (pv 2) (pe_op op_catA (pe_slice sl_tupA (pv 2) po_none (po_some pe_int)) (pe_callTy call_tuple_of (by rfl) T.tuple bt_tuple (pa_cons (pe_lc (own := [("one", 3)]) (g := gName 3) (tt := tYes) rfl nd (pi_tup (pe_slice sl_tupA (pv 2) (po_some pe_int) po_none)) (blkOk_by (N := N_told_terms) (sc := defScope s_told_terms) (by decide +kernel)) (fun _ _ _ _ _ => pg_name (i := 3) nd rfl (Or.inl rfl)) (fun _ _ _ _ _ => pts_nil) (fun _ _ _ _ _ => (pe_ix (ix_listk K) (pv 1) (pv 3) (fun _ _ => rfl)))) pa_nil)))) pa_nil)))))
      (pss_one (ps_ret (pv 1))))), ?_⟩
  refine ⟨Nat.zero_le _, fun F0 hF => ?_⟩
  have kF : Kp [] H (upd H F0 (.lst [])) := Kp.new hF
  refine ⟨_, rfl, l, rfl, ⟨lv, SqL.of (kF.k _ _ (by simp) hl)⟩, for_it (n := lv.length) walk_list (fun i σ H' => ∃ (vs' : List V) (o2 o3 : Option V), σ = [some (.ref l), some (.ref F0), o2, o3] ∧ Kp [] H H' ∧ H' F0 = some (.lst vs') ∧ TmVs H' (ts.take i) vs')
    ⟨[], none, none, rfl, kF, upd_same, trivial⟩ (fun i σ H' _ ⟨_, _, _, _, k, _⟩ => SqL.of (k.k _ _ (by simp) hl)) ?_ ?_⟩
  · rintro i y σ _ H1 hi ⟨vs', o2, o3, rfl, k1, hF1, hV1⟩ ⟨rfl, hyi⟩
    have hi2 : i < ts.length := by rw [← hL.1]; exact hi
    obtain ⟨a, ha, haT⟩ := (hL.kp k1).2 i ts[i] (List.getElem?_eq_getElem hi2)
    rw [ha] at hyi; cases hyi
    generalize hte : ts[i] = t at ha haT
    have htm : t ∈ ts := hte ▸ List.getElem_mem hi2
    have hti : ts[i]? = some t := by rw [List.getElem?_eq_getElem hi2, hte]
    have etk : ts.take (i + 1) = ts.take i ++ [t] := by rw [List.take_add_one, hti]; rfl
    obtain ⟨r, hr0, hrk⟩ := lineK_head ts t
    have haT' := haT
    rw [hr0, List.map_cons] at haT'
    have hvl := hV1.len
    rw [List.length_take] at hvl
    have hI : ∀ e : TE, e = tOp (rIxT K) (tVar 2) (tC (.int 0)) → EvE e [some (.ref l), some (.ref F0), some (.ref a), o3] H1 (.str t.wd) := by
      rintro e rfl
      exact .of fun Q k => ⟨_, rfl, a, _, 0, _, rfl, rfl, tupT haT', atI_nat (j := 0) rfl, k⟩
    refine ⟨_, rfl, .inl ⟨rfl, _, SqL.of hF1⟩, ?_⟩
    refine EvT.ifE (b := decide (V.str t.wd = V.str "letter")) (EvE.test fun Q k => hI _ rfl _ fun H3 k3 => ⟨rfl, k H3 k3⟩) (fun he H2 k2 => ?_) (fun he H2 k2 => ?_)
    · have hkd := wd_letter.mp he
      obtain ⟨z, rfl⟩ : ∃ z, t = .letter z := by cases t <;> simp [Tm.kd] at hkd; exact ⟨_, rfl⟩
      have hF2 := k2.k _ _ (by simp) hF1
      refine ⟨_, rfl, F0, vs', _, rfl, rfl, hF2, small_lt (by omega), ?_⟩
      have kw : Kp [F0] H2 (upd H2 F0 (.lst (vs' ++ [.ref a]))) := (Kp.refl _ _).wr (by simp) hF2 (by intro xs z; cases z)
      refine ⟨_, _, _, rfl, (k1.trans k2).put hF, upd_same, ?_⟩
      rw [etk]
      exact ((hV1.kp k2).kp kw).snoc ⟨a, rfl, kw.t _ _ (k2.t _ _ haT)⟩
    · have hkd : t.kd ≠ 2 := fun z => by rw [wd_letter.mpr z] at he; cases he
      have hrr := hrk hkd
      refine ⟨_, rfl, _, rfl, sliceHead (k2.t _ _ haT') fun ph H3 k3 hph => ?_⟩
      have k23 := k2.trans k3
      refine ⟨_, rfl, _, rfl, a, _, rfl, tupT (k23.t _ _ haT'), fun z => absurd z (cut_tail _ _).2, fun _ pt hpt => ?_⟩
      rw [(cut_tail _ _).1]
      have k4 : Kp [] H3 (upd H3 pt (.tup (r.map kV))) := Kp.new hpt
      refine ⟨pt, rfl, ⟨_, tupT upd_same⟩, fun D hD => ?_⟩
      have ht4 : upd H3 pt (.tup (r.map kV)) pt = some (.tup (r.map kV)) := upd_same
      have k24 := k23.trans k4
      generalize upd H3 pt (.tup (r.map kV)) = H4 at k4 k24 hD ht4 ⊢
      have hF4 := k24.k _ _ (by simp) hF1
      have hV4 := hV1.kp k24
      have hrl : r.length = t.kids.length := by rw [hrr, List.length_map]
      have hkk : t.kids.length ≤ 2 := by cases t <;> simp [Tm.kids]
      refine lc_it (n := (r.map kV).length) walk_tup (fun j H' => Kp [] H4 H' ∧ ∃ ys, H' D = some (.lst ys) ∧ TmVs H' (t.kids.take j) ys) ⟨Kp.new hD, [], upd_same, trivial⟩ (fun j H' _ h => tupT (h.1.t _ _ ht4)) ?_ ?_
      · rintro j y _ H5 hj ⟨k5, ys, hD5, hV5⟩ ⟨rfl, hyj⟩
        have hj2 : j < t.kids.length := by rw [List.length_map, hrl] at hj; exact hj
        have hye : y = .int (ix ts t.kids[j] : Int) := by
          rw [hrr, List.map_map, List.getElem?_map, List.getElem?_eq_getElem hj2] at hyj
          exact (Option.some.inj hyj).symm
        subst hye
        obtain ⟨jj, hjj, hjt⟩ := hcl i t hti _ (List.getElem_mem hj2)
        have hix : ix ts t.kids[j] = jj := ix_of hnd hjt
        obtain ⟨v, hv, hvT⟩ := hV4.at (i := ix ts t.kids[j]) (t := t.kids[j]) (by rw [hix, List.getElem?_take_of_lt hjj]; exact hjt)
        have hyl := hV5.len
        rw [List.length_take] at hyl
        refine ⟨rfl, _, rfl, _, rfl, F0, vs', _, v, rfl, rfl, SqL.of (k5.k _ _ (by simp) hF4), atI_nat hv, ys, hD5, small_lt (by omega), k5.put hD, ys ++ [v], upd_same, ?_⟩
        have kD : Kp [D] H5 (upd H5 D (.lst (ys ++ [v]))) := (Kp.refl _ _).wr (by simp) hD5 (by intro xs z; cases z)
        rw [List.take_add_one, List.getElem?_eq_getElem hj2]
        exact (hV5.kp kD).snoc (hvT.kp (k5.mono0.trans kD))
      · rintro H5 ⟨k5, ys, hD5, hV5⟩
        rw [List.take_of_length_le (by rw [List.length_map, hrl]; omega)] at hV5
        refine ⟨D, ys, rfl, .inl ⟨SqL.of hD5, fun pu hpu => ?_⟩⟩
        have k6 : Kp [] H5 (upd H5 pu (.tup ys)) := Kp.new hpu
        have hyl := hV5.len
        refine catT (k6.t _ _ (k5.t _ _ (k4.t _ _ hph))) upd_same (by simp; omega) fun pl H7 k7 hpl => ?_
        have k57 := (k5.trans k6).trans k7
        have hF7 := k57.k _ _ (by simp) hF4
        refine ⟨F0, vs', _, rfl, rfl, hF7, small_lt (by omega), ?_⟩
        have kw : Kp [F0] H7 (upd H7 F0 (.lst (vs' ++ [.ref pl]))) := (Kp.refl _ _).wr (by simp) hF7 (by intro xs z; cases z)
        refine ⟨_, _, _, rfl, ((k1.trans k24).trans k57).put hF, upd_same, ?_⟩
        rw [etk]
        refine ((hV4.kp k57).kp kw).snoc (TmV.mk (kw.t _ _ hpl) ?_ hkd)
        exact ((hV5.kp k6).kp k7).kp kw
  · rintro σ H1 ⟨vs', o2, o3, rfl, k1, hF1, hV1⟩
    rw [List.take_of_length_le (by rw [hL.1]; exact Nat.le_refl _)] at hV1
    exact ⟨_, rfl, q _ F0 vs' k1 hF hF1 hV1⟩
end
end N0

namespace N0
open PySem L2 PySem.Spec PyProof.Rows
def Tm.nm : Tm → Option Str | .letter s => some s | _ => none
def lets (ts : List Tm) : List Str := ts.filterMap Tm.nm
theorem lets_len : ∀ ts : List Tm, (lets ts).length ≤ ts.length := fun ts => List.length_filterMap_le _ _
def spNP : Sp := fun vs H Q _ => ∃ (v : V) (t : Tm), vs = [v] ∧ TmV H t v ∧ t.dep < 40 ∧ t.size ≤ 1000 ∧
  ∀ H' l lv, Kp [] H H' → H' l = some (.lst lv) → LinesV H' (addP [] t) lv → Q (.ref l) H'
def spLI (tup : Bool) : Sp := fun vs H Q _ => ∃ (v : V) (t : Tm), vs = [v] ∧ TmV H t v ∧ t.dep < 40 ∧ Small t ∧ (lets (addP [] t)).length < 64 ∧
  ∀ H' a ys, Kp [] H H' → H' a = some (if tup = true then .tup (ys.map V.str) else .lst (ys.map V.str)) → ys.Perm (lets (addP [] t)) → sortedS ys = true → Q (.ref a) H'
section
variable {P : Program} {w : World} {K : PySem.W.Frag} {mg : Str → Option Value} {base : Heap} {f C : Addr} {fd : FuncData}
theorem ok_number_parts (F : Fun K "number_parts" "number_parts" s_number_parts f fd) (T : Txt K mg) (TC : TLc K mg C) (D_init : IDef P w K mg base C 1 ["self"] (spInit C)) (D_term_number : MDef P w K mg base C "term_number" 41 ["self", "term"] (spTN C 40)) :
    FnOk P w K mg base CX0 42 f fd ["term"] spNP := by
  refine F.ok sc_number_parts (fun vs H Q E h => ?_) (fun cdv A outer s H vs Q E hr h => ?_)
  · obtain ⟨v, t, rfl, _⟩ := h
    rfl
  obtain ⟨v, t, rfl, ht, hd, hsz, q⟩ := h
  have nd := sc_number_parts.nd
  refine ⟨_, (pss_cons (ps_set (i := 1) nd rfl (Or.inl rfl) (e_mkTL TC D_init (hr.mono (by omega))))
      (pss_cons (ps_expr (e_meth TC.cl D_term_number (hr.mono (by omega)) (pv 1) (pa_cons (pv 0) pa_nil)))
      (pss_one (ps_ret (pe_fld (pv 1) rfl))))), ?_⟩
  intro H1 p l n s' k1 hp hl hn hs hT
  obtain ⟨dx, hp1⟩ := hT.dx
  refine ⟨_, rfl, p, dx, _, rfl, hp1, tlf_tn _ _ _, _, rfl, ?_⟩
  refine ⟨p, l, n, s', v, [], t, rfl, hT, ht.kp k1, hd, hsz, by simpa using hsz, fun H2 k2 hT2 => ?_⟩
  obtain ⟨dx2, hp2⟩ := hT2.dx
  obtain ⟨lv, hl2, hL1, hL2⟩ := hT2.ls
  refine ⟨_, rfl, p, C, dx2, _, _, rfl, hp2, TC.cl, TC.nl, tlf_l _ _ _, q _ l lv ?_ hl2 ⟨hL1, hL2⟩⟩
  refine ⟨fun b o _ hb => k2.k _ _ ?_ (k1.k _ _ (by simp) hb), fun b xs hb => k2.t _ _ (k1.t _ _ hb), fun b hb => k1.n _ (k2.n _ hb)⟩
  simp only [List.mem_cons, List.not_mem_nil, or_false]
  rintro (z | z | z)
  · rw [z, hl] at hb; cases hb
  · rw [z, hn] at hb; cases hb
  · rw [z, hs] at hb; cases hb
theorem ok_letters_in (F : Fun K "letters_in" "letters_in" s_letters_in f fd) (T : Txt K mg) (D_number_parts : Def P w K mg base "number_parts" 42 ["term"] spNP) : FnOk P w K mg base CX0 43 f fd ["term"] (spLI false) := by
  refine F.ok sc_letters_in (fun vs H Q E h => ?_) (fun cdv A outer s H vs Q E hr h => ?_)
  · obtain ⟨v, t, rfl, _⟩ := h
    rfl
  obtain ⟨v, t, rfl, ht, hd, hsm, h64, q⟩ := h
  have nd := sc_letters_in.nd
  refine ⟨_, (pss_one (ps_ret (pe_callB cr_sortedS (by rfl) T.sorted bt_sorted (pa_cons (pe_lc (own := [("line", 1)]) (g := gName 1) rfl nd (pi_list (e_fn D_number_parts (hr.mono (by omega)) (pa_cons (pv 0) pa_nil))) (blkOk_by (N := N_letters_in) (sc := defScope s_letters_in) (by decide +kernel)) (fun _ _ _ _ _ => pg_name (i := 1) nd rfl (Or.inl rfl)) (fun _ _ _ _ _ => pts_one (pt_cmpR op_eq (pe_ix (ix_tupk K) (pv 1) pe_int (fun _ _ => rfl)) pe_str (nomark _))) (fun _ _ _ _ _ => (pe_ix (ix_tupk K) (pv 1) pe_int (fun _ _ => rfl)))) pa_nil)))), ?_⟩
  refine ⟨_, rfl, v, t, rfl, ht, hd, hsm.2.1, fun H1 l lv k1 hl hL => ⟨l, rfl, ⟨lv, SqL.of hl⟩, fun D hD => ?_⟩⟩
  have hlen : (addP [] t).length ≤ 1000 := by have h1 := addP_len t []; have := hsm.2.1; simp only [List.length_nil] at h1; omega
  generalize addP [] t = ts at h64 q hL hlen
  refine lc_it (n := lv.length) walk_list (fun i H' => Kp [] H1 H' ∧ H' D = some (.lst ((lets (ts.take i)).map V.str))) ⟨Kp.new hD, upd_same⟩ (fun i H' _ h => SqL.of (h.1.k _ _ (by simp) hl)) ?_ ?_
  · rintro i y _ H2 hi ⟨k2, hD2⟩ ⟨rfl, hyi⟩
    have hi2 : i < ts.length := by rw [← hL.1]; exact hi
    obtain ⟨a, ha, haT⟩ := (hL.kp k2).2 i ts[i] (List.getElem?_eq_getElem hi2)
    rw [ha] at hyi; cases hyi
    generalize hte : ts[i] = u at ha haT
    have hti : ts[i]? = some u := by rw [List.getElem?_eq_getElem hi2, hte]
    have etk : ts.take (i + 1) = ts.take i ++ [u] := by rw [List.take_add_one, hti]; rfl
    obtain ⟨r, hr0, hrk⟩ := lineK_head ts u
    have haT' := haT
    rw [hr0, List.map_cons] at haT'
    refine ⟨rfl, ?_⟩
    refine ⟨_, rfl, a, _, 0, _, rfl, rfl, tupT haT', atI_nat (j := 0) rfl, rfl, _, rfl, ?_⟩
    refine ite2 (fun c => ?_) (fun c => ?_)
    · have hkd := wd_letter.mp c
      obtain ⟨z, rfl⟩ : ∃ z, u = .letter z := by cases u <;> simp [Tm.kd] at hkd; exact ⟨_, rfl⟩
      refine ⟨_, rfl, a, _, 1, _, rfl, rfl, tupT haT, atI_nat (j := 1) rfl, _, hD2, ?_, k2.put hD, ?_⟩
      · rw [List.length_map]; have := lets_len (ts.take i); rw [List.length_take] at this; exact small_lt (by omega)
      · rw [upd_same, etk]; unfold lets; rw [List.filterMap_append, List.map_append]; rfl
    · refine ⟨k2, ?_⟩
      have hn : u.nm = none := by
        cases u <;> first | rfl | exact absurd (wd_letter.mpr rfl) c
      rw [hD2, etk]; unfold lets; rw [List.filterMap_append, List.filterMap_cons, hn]; simp
  · rintro H2 ⟨k2, hD2⟩
    rw [List.take_of_length_le (by rw [hL.1]; exact Nat.le_refl _)] at hD2
    refine ⟨D, lets ts, rfl, SqL.of hD2, h64, fun ys p hp hso hfr => q _ p ys ((k1.trans k2).add hfr) upd_same hp hso⟩
theorem ok_term_letters (F : Fun K "term_letters" "term_letters" s_term_letters f fd) (T : Txt K mg) (D_letters_in : Def P w K mg base "letters_in" 43 ["term"] (spLI false)) (D_need_term : Def P w K mg base "need_term" 5 ["term"] spNT) :
    FnOk P w K mg base CX0 44 f fd ["term"] (spLI true) := by
  refine F.ok sc_term_letters (fun vs H Q E h => ?_) (fun cdv A outer s H vs Q E hr h => ?_)
  · obtain ⟨v, t, rfl, _⟩ := h
    rfl
  obtain ⟨v, t, rfl, ht, hd, hsm, h64, q⟩ := h
  have nd := sc_term_letters.nd
  refine ⟨_, (pss_one (ps_ret (pe_callTy call_tuple_of (by rfl) T.tuple bt_tuple (pa_cons (e_fn D_letters_in (hr.mono (by omega)) (pa_cons (e_fn D_need_term (hr.mono (by omega)) (pa_cons (pv 0) pa_nil)) pa_nil)) pa_nil)))), ?_⟩
  refine ⟨_, rfl, v, t, rfl, ht, hsm, fun H1 k1 => ⟨v, t, rfl, ht.kp k1, hd, hsm, h64, fun H2 a ys k2 ha hp hso => ⟨a, _, rfl, .inl ⟨SqL.of ha, fun p hp' => q _ p ys ((k1.trans k2).add hp') upd_same hp hso⟩⟩⟩⟩
end
end N0

namespace N0
open PySem L2 PySem.Spec PyProof.Rows
/-! ### rows to be sorted -/
def RowAt (H : Hp) (row : List SI) (x : V) : Prop := ∃ t ys, x = V.ref t ∧ H t = some (.tup ys) ∧ SIRs H row ys
def RowsAt (H : Hp) : List (List SI) → List V → Prop
  | [], [] => True
  | r :: rs, v :: vs => RowAt H r v ∧ RowsAt H rs vs
  | _, _ => False
theorem SIR.kp {S : List Addr} {H H' : Hp} (k : Kp S H H') {x : SI} {y : V} (h : SIR H x y) : SIR H' x y := by
  cases x with
  | i n => exact h
  | s x => exact h
  | t ns => obtain ⟨b, e, hb⟩ := h; exact ⟨b, e, k.t _ _ hb⟩
theorem SIRs.kp {S : List Addr} {H H' : Hp} (k : Kp S H H') : ∀ {xs : List SI} {ys : List V}, SIRs H xs ys → SIRs H' xs ys
  | [], [], _ => trivial
  | _ :: _, _ :: _, ⟨h1, h2⟩ => ⟨SIR.kp k h1, SIRs.kp k h2⟩
theorem RowAt.kp {S : List Addr} {H H' : Hp} (k : Kp S H H') {row : List SI} {x : V} : RowAt H row x → RowAt H' row x
  | ⟨t, ys, e, h1, h2⟩ => ⟨t, ys, e, k.t _ _ h1, SIRs.kp k h2⟩
theorem RowsAt.kp {S : List Addr} {H H' : Hp} (k : Kp S H H') : ∀ {rs : List (List SI)} {vs : List V}, RowsAt H rs vs → RowsAt H' rs vs
  | [], [], _ => trivial
  | _ :: _, _ :: _, ⟨h1, h2⟩ => ⟨RowAt.kp k h1, RowsAt.kp k h2⟩
theorem RowsAt.len {H : Hp} : ∀ {rs : List (List SI)} {vs : List V}, RowsAt H rs vs → vs.length = rs.length
  | [], [], _ => rfl
  | _ :: rs, _ :: vs, ⟨_, h⟩ => by rw [List.length_cons, List.length_cons, RowsAt.len h]
theorem RowsAt.snoc {H : Hp} : ∀ {rs : List (List SI)} {vs : List V} {r : List SI} {v : V}, RowsAt H rs vs → RowAt H r v → RowsAt H (rs ++ [r]) (vs ++ [v])
  | [], [], _, _, _, h => ⟨h, trivial⟩
  | _ :: _, _ :: _, _, _, ⟨h1, h2⟩, h => ⟨h1, RowsAt.snoc h2 h⟩
theorem RowsAt.at {H : Hp} : ∀ {rs : List (List SI)} {vs : List V} {i : Nat} {r : List SI}, RowsAt H rs vs → rs[i]? = some r → ∃ v, vs[i]? = some v ∧ RowAt H r v
  | [], [], _, _, _, h => by simp at h
  | _ :: _, v :: _, 0, _, ⟨h, _⟩, e => by simp at e; subst e; exact ⟨v, rfl, h⟩
  | _ :: rs, _ :: vs, i + 1, _, ⟨_, h⟩, e => by
    obtain ⟨v, h1, h2⟩ := RowsAt.at (i := i) h (by simpa using e)
    exact ⟨v, by simpa using h1, h2⟩
theorem RowsAt.take {H : Hp} : ∀ {rs : List (List SI)} {vs : List V} (n : Nat), RowsAt H rs vs → RowsAt H (rs.take n) (vs.take n)
  | _, _, 0, _ => trivial
  | [], [], _ + 1, _ => trivial
  | _ :: _, _ :: _, n + 1, ⟨h1, h2⟩ => ⟨h1, RowsAt.take n h2⟩
theorem RowsAt.drop {H : Hp} : ∀ {rs : List (List SI)} {vs : List V} (n : Nat), RowsAt H rs vs → RowsAt H (rs.drop n) (vs.drop n)
  | _, _, 0, h => h
  | [], [], _ + 1, _ => trivial
  | _ :: _, _ :: _, n + 1, ⟨_, h2⟩ => RowsAt.drop n h2
theorem map_int_inj : ∀ {a b : List Int}, a.map V.int = b.map V.int → a = b
  | [], [], _ => rfl
  | [], _ :: _, h => by simp at h
  | _ :: _, [], h => by simp at h
  | x :: a, y :: b, h => by
    rw [List.map_cons, List.map_cons, List.cons.injEq] at h
    rw [V.int.inj h.1, map_int_inj h.2]
theorem SIR.uniq {H : Hp} {x y : SI} {v : V} (h1 : SIR H x v) (h2 : SIR H y v) : x = y := by
  cases x <;> cases y
  · have a : v = .int _ := h1; have b : v = .int _ := h2; rw [a] at b; cases b; rfl
  · have a : v = .int _ := h1; have b : v = .str _ := h2; rw [a] at b; cases b
  · have a : v = .int _ := h1; obtain ⟨b, e, _⟩ := h2; rw [a] at e; cases e
  · have a : v = .str _ := h1; have b : v = .int _ := h2; rw [a] at b; cases b
  · have a : v = .str _ := h1; have b : v = .str _ := h2; rw [a] at b; cases b; rfl
  · have a : v = .str _ := h1; obtain ⟨b, e, _⟩ := h2; rw [a] at e; cases e
  · obtain ⟨b, e, _⟩ := h1; have a : v = .int _ := h2; rw [a] at e; cases e
  · obtain ⟨b, e, _⟩ := h1; have a : v = .str _ := h2; rw [a] at e; cases e
  · obtain ⟨b, e, p⟩ := h1; obtain ⟨c, e', p'⟩ := h2
    rw [e] at e'; cases e'
    rw [p] at p'
    have := Option.some.inj p'
    injection this with z
    rw [map_int_inj z]
theorem SIRs.uniq {H : Hp} : ∀ {xs ys : List SI} {vs : List V}, SIRs H xs vs → SIRs H ys vs → xs = ys
  | [], [], [], _, _ => rfl
  | _ :: _, _ :: _, _ :: _, ⟨a, b⟩, ⟨c, d⟩ => by rw [SIR.uniq a c, SIRs.uniq b d]
  | [], _ :: _, [], _, h => h.elim
  | _ :: _, [], [], h, _ => h.elim
  | [], _, _ :: _, h, _ => h.elim
  | _ :: _, [], _ :: _, _, h => h.elim
theorem RowAt.uniq {H : Hp} {r r' : List SI} {v : V} : RowAt H r v → RowAt H r' v → r = r'
  | ⟨t, ys, e, h1, h2⟩, ⟨t', ys', e', h1', h2'⟩ => by
    rw [e] at e'; cases e'
    rw [h1] at h1'; cases h1'
    exact SIRs.uniq h2 h2'
/-- sorted of rows -/
theorem sortRows {K : PySem.W.Frag} {H : Hp} {a : Addr} {xs : List V} {rows : List (List SI)} {ks : List Nat} {Q : VK} (hs : SqL K H a xs) (hr : RowsAt H rows xs) (hks : ks ≠ []) (hk : ∀ r ∈ rows, r.map SI.kind = ks)
    (q : ∀ ys rows' p, RowsAt H rows' ys → rows'.Perm rows → rows'.Pairwise (fun r r' => ¬ (r'.map SI.enc < r.map SI.enc)) → H p = none → Q (.ref p) (upd H p (.lst ys))) : rSortSI K [.ref a] H Q := by
  have key : ∀ x : V, ∃ r : List SI, ∀ r', RowAt H r' x → r = r' := fun x => by
    by_cases h : ∃ r, RowAt H r x
    · obtain ⟨r, hr⟩ := h
      exact ⟨r, fun r' h' => hr.uniq h'⟩
    · exact ⟨[], fun r' h' => absurd ⟨r', h'⟩ h⟩
  have ek : ∃ k : V → List SI, ∀ x r, RowAt H r x → k x = r := ⟨fun x => (key x).choose, fun x r h => (key x).choose_spec r h⟩
  obtain ⟨k, hkx⟩ := ek
  have hrows : ∀ {xs : List V} {rows : List (List SI)}, RowsAt H rows xs → rows = xs.map k ∧ ∀ x ∈ xs, RowAt H (k x) x := by
    intro xs
    induction xs with
    | nil => intro rows h; cases rows with
      | nil => exact ⟨rfl, fun x hx => by cases hx⟩
      | cons _ _ => exact h.elim
    | cons x xs ih => intro rows h; cases rows with
      | nil => exact h.elim
      | cons r rows =>
        obtain ⟨h1, h2⟩ := ih h.2
        have e := hkx x r h.1
        refine ⟨by rw [h1, List.map_cons, e], fun y hy => ?_⟩
        rcases List.mem_cons.mp hy with rfl | z
        · rw [e]; exact h.1
        · exact h2 y z
  obtain ⟨e1, e2⟩ := hrows hr
  refine ⟨a, xs, k, ks, rfl, hs, hks, fun x hx => ?_, fun ys p hp hperm hfr => ?_⟩
  · obtain ⟨t, ys, e, h1, h2⟩ := e2 x hx
    exact ⟨t, ys, e, h1, h2, hk _ (by rw [e1]; exact List.mem_map.mpr ⟨x, hx, rfl⟩)⟩
  · refine q ys (ys.map k) p ?_ (by rw [e1]; exact hperm.map k) ?_ hfr
    · have : ∀ {zs : List V}, (∀ z ∈ zs, z ∈ xs) → RowsAt H (zs.map k) zs := by
        intro zs
        induction zs with
        | nil => intro _; trivial
        | cons z zs ih => intro h; exact ⟨e2 z (h z (List.mem_cons_self ..)), ih fun y hy => h y (List.mem_cons_of_mem _ hy)⟩
      exact this fun z hz => hperm.mem_iff.mp hz
    · exact List.pairwise_map.mpr (hp.imp fun h => of_decide_eq_false h)
theorem perm_map_inv {α β : Type} {f : α → β} {g : β → α} (hg : ∀ a, g (f a) = a) {l' : List β} {l : List α} (h : l'.Perm (l.map f)) : ∃ J : List α, J.Perm l ∧ l' = J.map f := by
  refine ⟨l'.map g, ?_, ?_⟩
  · have := h.map g
    rw [List.map_map] at this
    have e : l.map (g ∘ f) = l := (List.map_congr_left (f := g ∘ f) (g := id) fun a _ => hg a).trans (List.map_id l)
    rw [e] at this; exact this
  · rw [List.map_map]
    have : ∀ b ∈ l', (f ∘ g) b = b := fun b hb => by
      obtain ⟨a, _, rfl⟩ := List.mem_map.mp (h.mem_iff.mp hb)
      show f (g (f a)) = f a
      rw [hg]
    exact ((List.map_congr_left (f := f ∘ g) (g := id) this).trans (List.map_id l')).symm
/-- the three orders -/
def rowA (ts : List Tm) (i : Nat) : List SI := [.i (ts.getD i .yes).size, .i (ts.getD i .yes).kd, .i i]
def rowNo : List SI → Nat
  | [_, _, .i z] => z.toNat
  | [_, .i z] => z.toNat
  | _ => 0
theorem rowA_no (ts : List Tm) (i : Nat) : rowNo (rowA ts i) = i := rfl
theorem enc_i {a b : Int} : ((SI.i a).enc < (SI.i b).enc) ↔ a < b := by simp only [SI.enc, List.cons_lt_cons_iff]; simp
theorem enc_i_eq {a b : Int} : ((SI.i a).enc = (SI.i b).enc) ↔ a = b := by simp [SI.enc]
theorem rowA_lt {ts : List Tm} {i j : Nat} (h : ¬ ((rowA ts j).map SI.enc < (rowA ts i).map SI.enc)) (hij : i ≠ j) : lt3 (fun i => (ts.getD i .yes).k2) i j := by
  simp only [rowA, List.map_cons, List.map_nil, List.cons_lt_cons_iff, enc_i, enc_i_eq] at h
  have h1 := (ts.getD i .yes).kd_lt
  have h2 := (ts.getD j .yes).kd_lt
  simp only [not_or, not_and] at h
  simp only [lt3, Tm.k2]
  omega
def rowL (ts : List Tm) (i : Nat) : List SI := [.s ((ts.getD i .yes).nm.getD "x"), .i i]
theorem rowL_no (ts : List Tm) (i : Nat) : rowNo (rowL ts i) = i := rfl
theorem rowL_lt {ts : List Tm} {i j : Nat} (h : ¬ ((rowL ts j).map SI.enc < (rowL ts i).map SI.enc)) (hi : (ts.getD i .yes).kd = 2) (hj : (ts.getD j .yes).kd = 2) (hne : ts.getD i .yes ≠ ts.getD j .yes) : Tm.lt (ts.getD i .yes) (ts.getD j .yes) = true := by
  obtain ⟨a, ha⟩ : ∃ a, ts.getD i .yes = .letter a := by generalize ts.getD i .yes = t at hi; cases t <;> simp [Tm.kd] at hi; exact ⟨_, rfl⟩
  obtain ⟨b, hb⟩ : ∃ b, ts.getD j .yes = .letter b := by generalize ts.getD j .yes = t at hj; cases t <;> simp [Tm.kd] at hj; exact ⟨_, rfl⟩
  simp only [rowL, ha, hb, Tm.nm, Option.getD_some, List.map_cons, List.map_nil, List.cons_lt_cons_iff] at h
  rw [ha, hb, Tm.lt_letter]
  have hab : a ≠ b := fun e => hne (by rw [ha, hb, e])
  rcases slt_tri hab with q | q
  · exact q
  · have e : (SI.s b).enc < (SI.s a).enc := by
      simp only [SI.enc, List.cons_lt_cons_iff, map_ofNat_lt]
      exact .inr ⟨trivial, of_decide_eq_true q⟩
    exact absurd (.inl e) h
/-- kids by their ranks -/
def rowK (ts : List Tm) (i : Nat) : List SI := [.t ((ts.getD i .yes).kids.map fun k => (rk ts k : Int)), .i i]
theorem rowK_no (ts : List Tm) (i : Nat) : rowNo (rowK ts i) = i := rfl
theorem rk_int {ts : List Tm} {a b : Tm} (ha : a ∈ ts) (hb : b ∈ ts) : ((rk ts a : Int) < (rk ts b : Int)) ↔ Tm.lt a b = true := by
  rw [← rk_iff ha hb]; omega
theorem rowK_lt {ts : List Tm} {i j : Nat} (h : ¬ ((rowK ts j).map SI.enc < (rowK ts i).map SI.enc)) (hk2 : (ts.getD i .yes).k2 = (ts.getD j .yes).k2) (hi : (ts.getD i .yes).kd ≠ 2) (mi : ∀ k ∈ (ts.getD i .yes).kids, k ∈ ts) (mj : ∀ k ∈ (ts.getD j .yes).kids, k ∈ ts)
    (hne : ts.getD i .yes ≠ ts.getD j .yes) : Tm.lt (ts.getD i .yes) (ts.getD j .yes) = true := by
  have hnr : ¬ (((ts.getD j .yes).kids.map fun k => (rk ts k : Int)) < ((ts.getD i .yes).kids.map fun k => (rk ts k : Int))) := fun z => h (by
    simp only [rowK, List.map_cons, List.map_nil, List.cons_lt_cons_iff]
    left
    simp only [SI.enc, List.cons_lt_cons_iff]
    exact .inr ⟨trivial, z⟩)
  generalize ts.getD i .yes = t at *
  generalize ts.getD j .yes = u at *
  rcases Tm.lt_tri hne with q | q
  · exact q
  · exfalso
    apply hnr
    have hkd := (Tm.k2_kd hk2).1
    cases t <;> cases u <;> simp only [Tm.kd] at hkd hi <;> first | (exfalso; omega) | (exact absurd rfl hne) | skip
    · rename_i x y
      rw [Tm.lt_not' hk2.symm] at q
      simp only [Tm.kids, List.map_cons, List.map_nil, List.cons_lt_cons_iff] at *
      by_cases e : y = x
      · rw [if_pos e] at q; cases q
      · rw [if_neg e] at q
        exact .inl ((rk_int (mj _ (by simp)) (mi _ (by simp))).mpr q)
    · rename_i x x' y y'
      rw [Tm.lt_and hk2.symm] at q
      simp only [Tm.kids, List.map_cons, List.map_nil, List.cons_lt_cons_iff] at *
      by_cases e : y = x
      · rw [if_pos e] at q
        by_cases e' : y' = x'
        · rw [if_pos e'] at q; cases q
        · rw [if_neg e'] at q
          exact .inr ⟨by rw [e], .inl ((rk_int (mj _ (by simp)) (mi _ (by simp))).mpr q)⟩
      · rw [if_neg e] at q
        exact .inl ((rk_int (mj _ (by simp)) (mi _ (by simp))).mpr q)
    · rename_i x x' y y'
      rw [Tm.lt_or hk2.symm] at q
      simp only [Tm.kids, List.map_cons, List.map_nil, List.cons_lt_cons_iff] at *
      by_cases e : y = x
      · rw [if_pos e] at q
        by_cases e' : y' = x'
        · rw [if_pos e'] at q; cases q
        · rw [if_neg e'] at q
          exact .inr ⟨by rw [e], .inl ((rk_int (mj _ (by simp)) (mi _ (by simp))).mpr q)⟩
      · rw [if_neg e] at q
        exact .inl ((rk_int (mj _ (by simp)) (mi _ (by simp))).mpr q)
end N0

namespace N0
open PySem L2 PySem.Spec PyProof.Rows
theorem Kp.cut {S : List Addr} {H H1 H2 : Hp} (a : Kp [] H H1) (b : Kp S H1 H2) (h : ∀ x ∈ S, H x = none) : Kp [] H H2 :=
  ⟨fun c o _ hc => b.k c o (fun z => by rw [h c z] at hc; cases hc) (a.k c o (by simp) hc), fun c xs hc => b.t c xs (a.t c xs hc), fun c hc => a.n c (b.n c hc)⟩
theorem seqJ {a b : TS} {D : Ends} {σ : L2.St} {H : Hp} (Post : L2.St → Hp → Prop) (h1 : ∀ D' : Ends, (∀ σ H, Post σ H → D'.nx σ H) → a D' σ H) (h2 : ∀ σ H, Post σ H → b D σ H) : tSeq a b D σ H := h1 _ h2
theorem sliceTwo {K : PySem.W.Frag} {H : Hp} {a : Addr} {x y u : V} {Q : VK} (ha : H a = some (.tup [x, y, u])) (q : ∀ p H', Kp [] H H' → H' p = some (.tup [x, y]) → Q (.ref p) H') : rSlA K (.ref a) none (some 2) H Q :=
  ⟨a, _, rfl, tupT ha, fun z => absurd z.2 (by show ¬ (2 = 3); decide), fun _ p hp => q p _ (Kp.new hp) upd_same⟩
theorem shaped2 (a b : Int) : SeqAt.shaped (.tuple [.int a, .int b]) = true := rfl
theorem eqv2 (a b c d : Int) : PyData.eqv (.tuple [.int a, .int b]) (.tuple [.int c, .int d]) = true ↔ a = c ∧ b = d := by
  simp [PyData.eqv, PyData.eqvAll]
theorem kid_k2 {t k : Tm} (h : k ∈ t.kids) : k.k2 < t.k2 := by
  have hk := k.kd_lt
  cases t <;> simp [Tm.kids] at h
  · subst h; simp only [Tm.k2, Tm.size]; omega
  · rcases h with rfl | rfl <;> simp only [Tm.k2, Tm.size] <;> omega
  · rcases h with rfl | rfl <;> simp only [Tm.k2, Tm.size] <;> omega
def KDS : List Str := ["yes", "no", "letter", "not", "and", "or"]
theorem kds_at (t : Tm) : KDS[t.kd]? = some t.wd := by cases t <;> rfl
theorem kds_ne (t : Tm) : ∀ m, m < t.kd → KDS[m]? ≠ some t.wd := by
  cases t <;> simp only [Tm.kd, Tm.wd] <;> decide
/-- the ranks that are told -/
def Done (ts : List Tm) (S : List Nat) (R : List V) : Prop := R.length = ts.length ∧ ∀ i ∈ S, ∀ t, ts[i]? = some t → R[i]? = some (.int (rk ts t))
theorem Done.set {ts : List Tm} {S : List Nat} {R : List V} {i : Nat} (h : Done ts S R) (hi : i < ts.length) : Done ts (S ++ [i]) (R.set i (.int (rk ts (ts.getD i .yes)))) := by
  refine ⟨by rw [List.length_set]; exact h.1, fun j hj t ht => ?_⟩
  by_cases e : j = i
  · subst e
    rw [List.getElem?_set_self (by rw [h.1]; exact hi), List.getD_eq_getElem?_getD, ht]; rfl
  · rw [List.getElem?_set_ne (fun z => e z.symm)]
    rcases List.mem_append.mp hj with z | z
    · exact h.2 j z t ht
    · exact absurd (List.mem_singleton.mp z) e
theorem Done.mono {ts : List Tm} {S S' : List Nat} {R : List V} (h : Done ts S R) (hs : ∀ i ∈ S', i ∈ S) : Done ts S' R := ⟨h.1, fun i hi => h.2 i (hs i hi)⟩
theorem Done.all {ts : List Tm} {S : List Nat} {R : List V} (h : Done ts S R) (hs : ∀ i, i < ts.length → i ∈ S) : R = ts.map fun t => V.int (rk ts t) := by
  apply List.ext_getElem?
  intro i
  by_cases hi : i < ts.length
  · rw [h.2 i (hs i hi) ts[i] (List.getElem?_eq_getElem hi), List.getElem?_map, List.getElem?_eq_getElem hi]; rfl
  · rw [List.getElem?_eq_none (by rw [h.1]; omega), List.getElem?_eq_none (by rw [List.length_map]; omega)]
def spRL : Sp := fun vs H Q _ => ∃ (l s : Addr) (ts : List Tm) (lv : List V), vs = [.ref l, .ref s] ∧ H l = some (.lst lv) ∧ LinesV H ts lv ∧ H s = some (.lst (ts.map fun t => .int t.size)) ∧ Cl ts ∧ ts.Nodup ∧ ts.length ≤ 1000 ∧
  ∀ H' a, Kp [] H H' → H a = none → H' a = some (.lst (ts.map fun t => V.int (rk ts t))) → Q (.ref a) H'
section
variable {P : Program} {w : World} {K : PySem.W.Frag} {mg : Str → Option Value} {base : Heap} {f C : Addr} {fd : FuncData}
theorem ok_rank_lines (F : Fun K "rank_lines" "rank_lines" s_rank_lines f fd) (T : Txt K mg) : FnOk P w K mg base CX0 1 f fd ["lines", "sizes"] spRL := by
  refine F.ok sc_rank_lines (fun vs H Q E h => ?_) (fun cdv A outer s H vs Q E hr h => ?_)
  · obtain ⟨l, z, ts, lv, rfl, _⟩ := h
    rfl
  obtain ⟨l, z, ts, lv, rfl, hl, hL, hz, hcl, hnd, hlen, q⟩ := h
  have nd := sc_rank_lines.nd
  refine ⟨_, (pss_cons (ps_set (i := 2) nd rfl (Or.inr rfl) (pe_op op_rep (pe_lst (pa_cons pe_int pa_nil)) (e_len T (pa_cons (pv 0) pa_nil))))
      (pss_cons (ps_set (i := 3) nd rfl (Or.inl rfl) (pe_callB (cr_sortSI hr.units) (by rfl) T.sorted bt_sorted (pa_cons (pe_lc (own := [("number", 10), ("line", 11)]) (g := gTup K 2 (gCons (gName 10) (gCons (gName 11) gNil))) (tt := tYes) rfl nd (pi_enum (by rfl) T.enumerate (pa_cons (pv 0) pa_nil)) (blkOk_by (N := N_rank_lines) (sc := defScope s_rank_lines) (by decide +kernel)) (fun _ _ _ _ _ => pg_tup rfl (pgs_cons (pg_name (i := 10) nd rfl (Or.inl rfl)) (pgs_cons (pg_name (i := 11) nd rfl (Or.inl rfl)) pgs_nil))) (fun _ _ _ _ _ => pts_nil) (fun _ _ _ _ _ => (pe_tup (pa_cons (pe_ix (ix_listk K) (pv 1) (pv 10) (fun _ _ => rfl)) (pa_cons (pe_bmT K PySem.F.slot_tuple_index PySem.F.type_tuple_index (mt_tup_indexk K) (e_kinds K T.KINDS) (pa_cons (pe_ix (ix_tupk K) (pv 11) pe_int (fun _ _ => rfl)) pa_nil)) (pa_cons (pv 10) pa_nil)))))) pa_nil)))
      (pss_cons (ps_set (i := 4) nd rfl (Or.inl rfl) pe_int)
      (pss_cons (ps_while PassesOwn.never (pt_cmpR op_lt (pv 4) (e_len T (pa_cons (pv 3) pa_nil)) (nomark _)) (pss_cons (ps_set (i := 5) nd rfl (Or.inl rfl) (pv 4))
      (pss_cons (ps_while PassesOwn.never (PW.pt (pw_and (pt_cmpR op_lt (pv 5) (e_len T (pa_cons (pv 3) pa_nil)) (nomark _)) (pw_and1 (pt_cmpR (op_eqD hr.units) (pe_slice sl_tupA (pe_ix ix_list (pv 3) (pv 5) (fun _ _ => rfl)) po_none (po_some pe_int)) (pe_slice sl_tupA (pe_ix ix_list (pv 3) (pv 4) (fun _ _ => rfl)) po_none (po_some pe_int)) (nomark _))))) (pss_one (ps_aug (i := 5) nd rfl (Or.inl rfl) pe_int ip_add)))
      (pss_cons (ps_setLc (i := 6) (own := [("row", 12)]) (g := gName 12) (tt := tYes) rfl nd rfl rfl (sw_true rfl rfl rfl (by decide +kernel)) (pi_list (pe_slice sl_list (pv 3) (po_some (pv 4)) (po_some (pv 5)))) (blkOk_by (N := N_rank_lines) (sc := defScope s_rank_lines) (by decide +kernel)) (fun _ _ _ _ _ => pg_name (i := 12) nd rfl (Or.inl rfl)) (fun _ _ _ _ _ => pts_nil) (fun _ _ _ _ _ => (pe_ix (ix_tupk K) (pv 12) pe_int (fun _ _ => rfl))))
      (pss_cons (ps_if (pt_cmpR op_eq (pe_ix ix_tup (pe_ix ix_list (pv 0) (pe_ix ix_list (pv 6) pe_int (fun _ _ => rfl)) (fun _ _ => rfl)) pe_int (fun _ _ => rfl)) pe_str (nomark _)) (pss_one (ps_set (i := 7) nd rfl (Or.inl rfl) (pe_callB (cr_sortSI hr.units) (by rfl) T.sorted bt_sorted (pa_cons (pe_lc (own := [("number", 10)]) (g := gName 10) (tt := tYes) rfl nd (pi_list (pv 6)) (blkOk_by (N := N_rank_lines) (sc := defScope s_rank_lines) (by decide +kernel)) (fun _ _ _ _ _ => pg_name (i := 10) nd rfl (Or.inl rfl)) (fun _ _ _ _ _ => pts_nil) (fun _ _ _ _ _ => (pe_tup (pa_cons (pe_ix (ix_tupk K) (pe_ix (ix_listk K) (pv 0) (pv 10) (fun _ _ => rfl)) pe_int (fun _ _ => rfl)) (pa_cons (pv 10) pa_nil))))) pa_nil)))) (pss_one (ps_set (i := 7) nd rfl (Or.inl rfl) (pe_callB (cr_sortSI hr.units) (by rfl) T.sorted bt_sorted (pa_cons (pe_lc (own := [("number", 10)]) (g := gName 10) (tt := tYes) rfl nd (pi_list (pv 6)) (blkOk_by (N := N_rank_lines) (sc := defScope s_rank_lines) (by decide +kernel)) (fun _ _ _ _ _ => pg_name (i := 10) nd rfl (Or.inl rfl)) (fun _ _ _ _ _ => pts_nil) (fun _ _ _ _ _ => (pe_tup (pa_cons (pe_callTy (call_tuple_ofk K) (by rfl) T.tuple bt_tuple (pa_cons (pe_lc (own := [("one", 13)]) (g := gName 13) (tt := tYes) rfl nd (pi_tupk K (pi_tup (pe_slice (sl_tupAk K) (pe_ix (ix_listk K) (pv 0) (pv 10) (fun _ _ => rfl)) (po_some pe_int) po_none))) (blkOk_by (N := N_rank_lines) (sc := { kind := .function, names := [(".0", .local), ("number", .local), ("tuple", .globalImplicit), ("lines", .cell), ("ranks", .cell)], isGenerator := false, isCoroutine := false }) (by decide +kernel)) (fun _ _ _ _ _ => pg_name (i := 13) nd rfl (Or.inl rfl)) (fun _ _ _ _ _ => pts_nil) (fun _ _ _ _ _ => (pe_ix (ix_listk K) (pv 2) (pv 13) (fun _ _ => rfl)))) pa_nil)) (pa_cons (pv 10) pa_nil))))) pa_nil)))))
      (pss_cons (ps_for PassesOwn.never rfl (pi_enum (by rfl) T.enumerate (pa_cons (pv 7) pa_nil)) (pg_tup rfl (pgs_cons (pg_name (i := 8) nd rfl (Or.inl rfl)) (pgs_cons (pg_name (i := 9) nd rfl (Or.inl rfl)) pgs_nil))) (pss_one (ps_asg (pe_op op_add (pv 4) (pv 8)) (pg_sub (pv 2) (pe_ix ix_tup (pv 9) pe_int (fun _ _ => rfl)) set_list))))
      (pss_one (ps_set (i := 4) nd rfl (Or.inl rfl) (pv 5)))))))))
      (pss_one (ps_ret (pv 2))))))), ?_⟩
  refine ⟨small_le (by simp), fun z0 hz0 => ?_⟩
  have kz : Kp [] H (upd H z0 (.lst [.int 0])) := Kp.new hz0
  refine ⟨_, rfl, l, lv, rfl, .inl (SqL.of (kz.k _ _ (by simp) hl)), z0, _, _, rfl, rfl, upd_same, by omega, by have := hL.1; omega, ?_, fun F0 hF => ?_⟩
  · simp; exact small_le (by have := hL.1; omega)
  have k0 : Kp [] H (upd (upd H z0 (.lst [.int 0])) F0 (.lst (List.replicate (lv.length : Int).toNat [V.int 0]).flatten)) := kz.add hF
  have hFn : H F0 = none := kz.n _ hF
  have hF0 : upd (upd H z0 (.lst [.int 0])) F0 (.lst (List.replicate (lv.length : Int).toNat [V.int 0]).flatten) F0 = some (.lst (List.replicate (lv.length : Int).toNat [V.int 0]).flatten) := upd_same
  generalize upd (upd H z0 (.lst [.int 0])) F0 (.lst (List.replicate (lv.length : Int).toNat [V.int 0]).flatten) = H1 at k0 hF0
  have hR0 : (List.replicate (lv.length : Int).toNat [V.int 0]).flatten.length = ts.length := by simp [hL.1]
  generalize (List.replicate (lv.length : Int).toNat [V.int 0]).flatten = R0 at hF0 hR0
  refine ⟨_, rfl, l, lv, rfl, SqL.of (k0.k _ _ (by simp) hl), fun D hD => ?_⟩
  have kD : Kp [] H1 (upd H1 D (.lst [])) := Kp.new hD
  refine lc_it (n := lv.length) walk_enum (fun i H' => Kp [] H1 H' ∧ ∃ ys, H' D = some (.lst ys) ∧ RowsAt H' ((List.range i).map (rowA ts)) ys) ⟨kD, [], upd_same, trivial⟩ (fun i H' _ h => SqL.of ((k0.trans h.1).k _ _ (by simp) hl)) ?_ ?_
  · rintro i y H2 _ hi ⟨k2, ys, hD2, hR2⟩ ⟨Tp, x, y, rfl, hTp, rfl, hx, hy⟩
    have hi2 : i < ts.length := by rw [← hL.1]; exact hi
    cases hx
    have kT : Kp [] H2 (upd H2 Tp (.tup [.int i, y])) := Kp.new hTp
    have k02 := (k0.trans k2).trans kT
    obtain ⟨a, ha, haT⟩ := (hL.kp k02).2 i ts[i] (List.getElem?_eq_getElem hi2)
    dsimp only at hy
    rw [ha] at hy; cases hy
    have hti : ts[i]? = some ts[i] := List.getElem?_eq_getElem hi2
    have htd : ts.getD i .yes = ts[i] := by rw [List.getD_eq_getElem?_getD, hti]; rfl
    generalize hte : ts[i] = t at ha haT hti htd
    obtain ⟨r, hr0, hrk⟩ := lineK_head ts t
    have haT' := haT
    rw [hr0, List.map_cons] at haT'
    refine ⟨Tp, _, rfl, tupT upd_same, rfl, _, _, rfl, _, _, rfl, rfl, rfl, ?_⟩
    generalize hH3 : upd H2 Tp (.tup [V.int i, V.ref a]) = H3 at kT k02 haT haT'
    have hD3 := kT.k _ _ (by simp) hD2
    have hlr := hR2.len
    rw [List.length_map, List.length_range] at hlr
    refine ⟨_, rfl, _, rfl, z, _, _, _, rfl, rfl, SqL.of (k02.k _ _ (by simp) hz), atI_nat (by rw [List.getElem?_map, hti]; rfl), fun ka hqa hta => ⟨hta, _, rfl, a, _, 0, _, rfl, rfl, tupT haT', atI_nat (j := 0) rfl, ka, KDS, t.wd, t.kd, rfl, rfl, hqa, kds_at t, kds_ne t, _, rfl, small_le (by simp), fun pt hpt => ?_⟩⟩
    have k4 : Kp [] H3 (upd H3 pt (.tup [.int t.size, .int t.kd, .int i])) := Kp.new hpt
    have hD4 := k4.k _ _ (by simp) hD3
    have kw : Kp [D] (upd H3 pt (.tup [.int t.size, .int t.kd, .int i])) (upd (upd H3 pt (.tup [.int t.size, .int t.kd, .int i])) D (.lst (ys ++ [.ref pt]))) := (Kp.refl _ _).wr (by simp) hD4 (by intro xs z; cases z)
    refine ⟨ys, hD4, small_lt (by omega), ((k2.trans kT).trans k4).put hD, _, upd_same, ?_⟩
    rw [List.range_succ, List.map_append, List.map_cons, List.map_nil]
    refine (((hR2.kp kT).kp k4).kp kw).snoc ⟨pt, _, rfl, kw.t _ _ upd_same, ?_⟩
    unfold rowA
    rw [htd]
    exact ⟨rfl, rfl, rfl, trivial⟩
  rintro H2 ⟨k2, ys0, hD2, hR2⟩
  rw [hL.1] at hR2
  dsimp only [tNil]
  refine sortRows (ks := [0, 0, 0]) (SqL.of hD2) hR2 (by simp) (fun r hr => ?_) fun ys rows' p hys hpm hpw hp => ?_
  · obtain ⟨i, _, rfl⟩ := List.mem_map.mp hr
    rfl
  obtain ⟨J, hJ, rfl⟩ := perm_map_inv (rowA_no ts) hpm
  have hJl : J.length = ts.length := by rw [hJ.length_eq, List.length_range]
  have hJn : J.Nodup := hJ.nodup_iff.mpr List.nodup_range
  have hJm : ∀ i, i ∈ J ↔ i < ts.length := fun i => by rw [hJ.mem_iff, List.mem_range]
  have hJw : J.Pairwise (lt3 fun i => (ts.getD i .yes).k2) := by
    rw [List.pairwise_map] at hpw
    exact List.Pairwise.imp_of_mem (fun {a b} _ _ h => rowA_lt h.1 h.2) (hpw.and hJn)
  have hpF : p ≠ F0 := fun e => by
    rw [e, k2.k _ _ (by simp) hF0] at hp; cases hp
  have kp : Kp [] H2 (upd H2 p (.lst ys)) := Kp.new hp
  have hys := hys.kp kp
  have k3 := (k0.trans k2).trans kp
  have hF3 := (k2.trans kp).k _ _ (by simp) hF0
  have hp3 : upd H2 p (.lst ys) p = some (.lst ys) := upd_same
  generalize upd H2 p (.lst ys) = H3 at k3 hF3 hp3 hys
  clear hD2 hR2 k2 kp hp hpw hpm kD hD hF0 hF
  have hlF : l ≠ F0 := ne_of_none hl hFn
  have hRy := hys.len
  rw [List.length_map, hJl] at hRy
  refine ⟨fun m σ H' => ∃ (b : Nat) (R : List V) (o5 o6 o7 o8 o9 : Option V), σ = [some (.ref l), some (.ref z), some (.ref F0), some (.ref p), some (.int (b : Int)), o5, o6, o7, o8, o9, none, none, none, none] ∧ Kp [F0] H3 H' ∧ H' F0 = some (.lst R) ∧
      b ≤ ts.length ∧ Cut (fun i => (ts.getD i .yes).k2) J b ∧ Done ts (J.take b) R ∧ m = ts.length - b,
    ⟨_, 0, R0, none, none, none, none, none, rfl, Kp.refl _ _, hF3, Nat.zero_le _, Cut.zero, ⟨hR0, fun i hi => by simp at hi⟩, rfl⟩, ?_⟩
  rintro m σ H4 ⟨b, R, o5, o6, o7, o8, o9, rfl, k4, hF4, hb, hcut, hdone, rfl⟩
  have hp4 := k4.k _ _ (by simp [hpF]) hp3
  refine ⟨_, rfl, _, rfl, p, ys, rfl, .inl (SqL.of hp4), _, _, rfl, rfl, _, rfl, ?_⟩
  dsimp only
  refine ite2 (fun hlt => ?_) (fun hlt => ?_)
  · have hbn : b < ts.length := by have := of_decide_eq_true hlt; omega
    refine ⟨_, fun σ' H' h' => h', ?_⟩
    have hxs : ∀ q, q < ts.length → ∃ i, J[q]? = some i ∧ i < ts.length := fun q hq => by
      have := List.getElem?_eq_getElem (l := J) (i := q) (by omega)
      exact ⟨_, this, (hJm _).mp (List.getElem_mem _)⟩
    refine ⟨_, rfl, ?_⟩
    obtain ⟨ib, hib, hib2⟩ := hxs b hbn
    show tSeq (tWhile _ _) _ _ _ _
    refine seqJ (fun σ H' => ∃ e : Nat, σ = [some (.ref l), some (.ref z), some (.ref F0), some (.ref p), some (.int (b : Int)), some (.int (e : Int)), o6, o7, o8, o9, none, none, none, none] ∧ Kp [] H4 H' ∧
        b < e ∧ e ≤ ts.length ∧ Cut (fun i => (ts.getD i .yes).k2) J e ∧ (∀ q i, b ≤ q → q < e → J[q]? = some i → (ts.getD i .yes).k2 = (ts.getD ib .yes).k2)) (fun D' hD' => ?_) ?_
    · refine ⟨fun m σ H' => ∃ e : Nat, σ = [some (.ref l), some (.ref z), some (.ref F0), some (.ref p), some (.int (b : Int)), some (.int (e : Int)), o6, o7, o8, o9, none, none, none, none] ∧ Kp [] H4 H' ∧
          b ≤ e ∧ e ≤ ts.length ∧ (∀ q i, b ≤ q → q < e → J[q]? = some i → (ts.getD i .yes).k2 = (ts.getD ib .yes).k2) ∧ m = ts.length - e,
        ⟨_, b, rfl, Kp.refl _ _, Nat.le_refl _, hb, fun q i h1 h2 => absurd h2 (by omega), rfl⟩, ?_⟩
      rintro m σ H5 ⟨e, rfl, k5, hbe, hen, hgrp, rfl⟩
      have fin : ∀ H5, Kp [] H4 H5 → b < e → (∀ i, J[e]? = some i → (ts.getD i .yes).k2 ≠ (ts.getD ib .yes).k2) →
          D'.nx [some (.ref l), some (.ref z), some (.ref F0), some (.ref p), some (.int (b : Int)), some (.int (e : Int)), o6, o7, o8, o9, none, none, none, none] H5 := fun H5 k5 hb1 hne =>
        hD' _ _ ⟨e, rfl, k5, hb1, hen, hcut.next hJw hb1 (fun q i j h1 h2 h3 h4 => by rw [hib] at h4; cases h4; exact hgrp q i h1 h2 h3) (fun i j h3 h4 => by rw [hib] at h4; cases h4; exact hne i h3), hgrp⟩
      have hp5 := k5.k _ _ (by simp) hp4
      have k45 := k4.trans k5.mono0
      have hys5 := hys.kp k45
      refine ⟨_, rfl, _, rfl, p, ys, rfl, .inl (SqL.of hp5), _, _, rfl, rfl, _, rfl, ?_⟩
      refine ite2 (fun c => ?_) (fun c => ?_)
      · have hen2 : e < ts.length := by have := of_decide_eq_true c; omega
        obtain ⟨ie, hie, hie2⟩ := hxs e hen2
        obtain ⟨ve, hve, te, yse, rfl, hte, hre⟩ := hys5.at (i := e) (r := rowA ts ie) (by rw [List.getElem?_map, hie]; rfl)
        obtain ⟨vb, hvb, tb, ysb, rfl, htb, hrb⟩ := hys5.at (i := b) (r := rowA ts ib) (by rw [List.getElem?_map, hib]; rfl)
        match yse, hre with
        | [_, _, _], ⟨he1, he2, he3, _⟩ =>
        cases he1; cases he2; cases he3
        match ysb, hrb with
        | [_, _, _], ⟨hb1, hb2, hb3, _⟩ =>
        cases hb1; cases hb2; cases hb3
        refine ⟨_, rfl, _, rfl, p, ys, _, _, rfl, rfl, SqL.of hp5, atI_nat hve, _, rfl, sliceTwo hte fun p1 H6 k6 hp1 => ?_⟩
        have k56 := k5.trans k6
        refine ⟨_, rfl, _, rfl, p, ys, _, _, rfl, rfl, SqL.of (k56.k _ _ (by simp) hp4), atI_nat hvb, _, rfl, sliceTwo (k6.t _ _ htb) fun p2 H7 k7 hp2 => ?_⟩
        have k57 := k56.trans k7
        refine ⟨_, _, .tup (tupT (k7.t _ _ hp1)) (.cons (.int _) (.cons (.int _) .nil)), .tup (tupT hp2) (.cons (.int _) (.cons (.int _) .nil)), shaped2 _ _, shaped2 _ _, _, rfl, ?_⟩
        refine ite2 (fun c2 => ?_) (fun c2 => ?_)
        · refine ⟨_, fun σ' H' h' => h', _, rfl, _, _, rfl, rfl, ?_⟩
          rw [eqv2] at c2
          refine ⟨ts.length - (e + 1), by omega, e + 1, rfl, k57, by omega, by omega, fun q i h1 h2 h3 => ?_, rfl⟩
          by_cases hq : q = e
          · subst hq
            rw [hie] at h3; cases h3
            simp only [Tm.k2]; omega
          · exact hgrp q i h1 (by omega) h3
        · have hbe2 : b ≠ e := fun z => by
            subst z
            rw [hib] at hie; cases hie
            exact c2 ((eqv2 _ _ _ _).mpr ⟨rfl, rfl⟩)
          refine fin _ k57 (by omega) fun i hi hk => c2 ?_
          rw [hie] at hi; cases hi
          obtain ⟨h1, h2⟩ := Tm.k2_kd hk
          exact (eqv2 _ _ _ _).mpr ⟨by omega, by omega⟩
      · have : e = ts.length := by have : ¬ ((e : Int) < (ys.length : Int)) := fun z => c (decide_eq_true z); omega
        refine fin _ k5 (by omega) fun i hi => ?_
        rw [List.getElem?_eq_none (by omega)] at hi; cases hi
    · rintro σ H5 ⟨e, rfl, k5, hbe, hen, hcut2, hgrp⟩
      have k45 := k4.trans k5.mono0
      have hp5 := k5.k _ _ (by simp) hp4
      have hF5 := k5.k _ _ (by simp) hF4
      have hys5 := hys.kp k45
      have hL5 : LinesV H5 ts lv := (hL.kp k3).kp k45
      have hl5 : H5 l = some (.lst lv) := k45.k _ _ (by simp [hlF]) (k3.k _ _ (by simp) hl)
      have hinj : ∀ i j, i < ts.length → j < ts.length → ts.getD i .yes = ts.getD j .yes → i = j := fun i j hi hj z => by
        have e1 : ts.getD i .yes = ts[i] := by rw [List.getD_eq_getElem?_getD, List.getElem?_eq_getElem hi]; rfl
        have e2 : ts.getD j .yes = ts[j] := by rw [List.getD_eq_getElem?_getD, List.getElem?_eq_getElem hj]; rfl
        have h1 := ix_of hnd (List.getElem?_eq_getElem hi)
        have h2 := ix_of hnd (List.getElem?_eq_getElem hj)
        rw [← e1, z, e2, h2] at h1
        exact h1.symm
      have hGm : ∀ i, i ∈ (J.drop b).take (e - b) → i < ts.length ∧ (ts.getD i .yes).k2 = (ts.getD ib .yes).k2 := fun i hi => by
        obtain ⟨x, hx, ex⟩ := List.getElem_of_mem hi
        rw [List.getElem_take, List.getElem_drop] at ex
        rw [List.length_take, List.length_drop] at hx
        have hg : J[b + x]? = some i := by rw [List.getElem?_eq_getElem (by omega), ex]
        exact ⟨(hJm i).mp (List.mem_of_getElem? hg), hgrp _ _ (by omega) (by omega) hg⟩
      have hG0 : ((J.drop b).take (e - b))[0]? = some ib := by
        rw [List.getElem?_take_of_lt (by omega), List.getElem?_drop]; exact hib
      have hGd : ((J.drop b).take (e - b)).Nodup := (hJn.sublist ((List.take_sublist _ _).trans (List.drop_sublist _ _)))
      have hGR : RowsAt H5 (((J.drop b).take (e - b)).map (rowA ts)) ((ys.drop b).take (e - b)) := by
        rw [List.map_take, List.map_drop]; exact (hys5.drop b).take (e - b)
      have hcv : cutV ys (some (b : Int)) (some (e : Int)) = (ys.drop b).take (e - b) := by
        unfold cutV
        rw [HT.sIx_nat, HT.sIx_nat, Nat.min_eq_left (by omega), Nat.min_eq_left (by omega)]
      have hGl : ((J.drop b).take (e - b)).length = e - b := by rw [List.length_take, List.length_drop]; omega
      generalize hGg : (J.drop b).take (e - b) = G at hGm hG0 hGd hGR hGl
      refine ⟨_, rfl, _, rfl, _, rfl, _, rfl, _, rfl, p, ys, rfl, SqL.of hp5, fun pc hpc => ⟨pc, rfl, ⟨_, SqL.of upd_same⟩, fun D hD => ?_⟩⟩
      rw [hcv] at hD ⊢
      have kpc : Kp [] H5 (upd H5 pc (.lst ((ys.drop b).take (e - b)))) := Kp.new hpc
      have hpc6 : upd H5 pc (.lst ((ys.drop b).take (e - b))) pc = some (.lst ((ys.drop b).take (e - b))) := upd_same
      have hGR6 := hGR.kp kpc
      have hyl : ((ys.drop b).take (e - b)).length = G.length := by rw [hGR.len, List.length_map]
      generalize (ys.drop b).take (e - b) = cs at kpc hpc6 hGR6 hyl hD ⊢
      generalize upd H5 pc (.lst cs) = H6 at kpc hpc6 hGR6 hD ⊢
      refine lc_it (n := cs.length) walk_list (fun i H' => Kp [] H6 H' ∧ H' D = some (.lst ((G.take i).map fun j : Nat => V.int j))) ⟨Kp.new hD, upd_same⟩ (fun i H' _ h => SqL.of (h.1.k _ _ (by simp) hpc6)) ?_ ?_
      · rintro i y _ H7 hi ⟨k7, hD7⟩ ⟨rfl, hyi⟩
        have hi2 : i < G.length := by omega
        obtain ⟨v, hv, t, vs, rfl, ht, hvs⟩ := (hGR6.kp k7).at (i := i) (r := rowA ts G[i]) (by rw [List.getElem?_map, List.getElem?_eq_getElem hi2]; rfl)
        rw [hv] at hyi; cases hyi
        match vs, hvs with
        | [_, _, _], ⟨he1, he2, he3, _⟩ =>
        cases he1; cases he2; cases he3
        refine ⟨rfl, _, rfl, t, _, 2, _, rfl, rfl, tupT ht, atI_nat (j := 2) rfl, _, hD7, ?_, k7.put hD, ?_⟩
        · rw [List.length_map, List.length_take]; exact small_lt (by omega)
        · rw [upd_same, List.take_add_one, List.getElem?_eq_getElem hi2, List.map_append]; rfl
      rintro H7 ⟨k7, hD7⟩
      rw [List.take_of_length_le (by omega)] at hD7
      have k57 := kpc.trans k7
      have hL7 := hL5.kp k57
      have hl7 := k57.k _ _ (by simp) hl5
      have hF7 := k57.k _ _ (by simp) hF5
      obtain ⟨a0, ha0, haT0⟩ := hL7.2 ib ts[ib] (List.getElem?_eq_getElem hib2)
      have htd0 : ts.getD ib .yes = ts[ib] := by rw [List.getD_eq_getElem?_getD, List.getElem?_eq_getElem hib2]; rfl
      rw [← htd0] at haT0
      obtain ⟨r0, hr0, hrk0⟩ := lineK_head ts (ts.getD ib .yes)
      rw [hr0, List.map_cons] at haT0
      dsimp only [gName]
      show tSeq (tIfS _ _ _) _ _ _ _
      refine seqJ (fun σ H' => ∃ (pO : Addr) (ys2 : List V) (g : Nat → List SI) (O : List Nat), σ = [some (.ref l), some (.ref z), some (.ref F0), some (.ref p), some (.int (b : Int)), some (.int (e : Int)), some (.ref D), some (.ref pO), o8, o9, none, none, none, none] ∧ Kp [] H7 H' ∧
        H' pO = some (.lst ys2) ∧ pO ≠ F0 ∧ RowsAt H' (O.map g) ys2 ∧ (∀ i, ∃ x, g i = [x, .i i]) ∧ O.Perm G ∧ O.Pairwise fun i j => Tm.lt (ts.getD i .yes) (ts.getD j .yes) = true) (fun D' hD' => ?_) ?_
      · refine ⟨_, rfl, _, rfl, D, _, 0, _, rfl, rfl, SqL.of hD7, atI_nat (j := 0) (by rw [List.getElem?_map, hG0]; rfl), l, lv, _, _, rfl, rfl, SqL.of hl7, atI_nat ha0, a0, _, 0, _, rfl, rfl, tupT haT0, atI_nat (j := 0) rfl, rfl, _, rfl, ?_⟩
        refine ite2 (fun c => ?_) (fun c => ?_)
        · have hkd := wd_letter.mp c
          have hlet : ∀ i ∈ G, ∃ s, ts.getD i .yes = .letter s := fun i hi => by
            have := (Tm.k2_kd (hGm i hi).2).1
            rw [hkd] at this
            generalize ts.getD i .yes = t at this
            cases t <;> simp [Tm.kd] at this
            exact ⟨_, rfl⟩
          refine ⟨_, rfl, D, rfl, ⟨_, SqL.of hD7⟩, fun D2 hD2 => ?_⟩
          refine lc_it (n := (G.map fun j : Nat => V.int j).length) walk_list (fun i H' => Kp [] H7 H' ∧ ∃ ys, H' D2 = some (.lst ys) ∧ RowsAt H' ((G.take i).map (rowL ts)) ys) ⟨Kp.new hD2, [], upd_same, trivial⟩ (fun i H' _ h => SqL.of (h.1.k _ _ (by simp) hD7)) ?_ ?_
          · rintro i y _ H8 hi ⟨k8, ys8, hD8, hR8⟩ ⟨rfl, hyi⟩
            have hi2 : i < G.length := by rw [List.length_map] at hi; exact hi
            have hgi : G[i]? = some G[i] := List.getElem?_eq_getElem hi2
            have hgm : G[i] ∈ G := List.getElem_mem hi2
            generalize G[i] = j at hgi hgm
            rw [List.getElem?_map, hgi] at hyi; cases hyi
            obtain ⟨hj1, hj2⟩ := hGm j hgm
            obtain ⟨sj, hsj⟩ := hlet j hgm
            have htj : ts[j]? = some (.letter sj) := by rw [List.getD_eq_getElem?_getD, List.getElem?_eq_getElem hj1] at hsj; rw [List.getElem?_eq_getElem hj1]; exact congrArg some hsj
            obtain ⟨a, ha, haT⟩ := (hL7.kp k8).2 j _ htj
            refine ⟨rfl, _, rfl, _, rfl, l, lv, _, _, rfl, rfl, SqL.of (k8.k _ _ (by simp) hl7), atI_nat ha, a, _, 1, _, rfl, rfl, tupT haT, atI_nat (j := 1) rfl, _, rfl, small_le (by simp), fun pt hpt => ?_⟩
            have kt : Kp [] H8 (upd H8 pt (.tup [.str sj, .int j])) := Kp.new hpt
            have hD9 := kt.k _ _ (by simp) hD8
            have kw : Kp [D2] (upd H8 pt (.tup [.str sj, .int j])) (upd (upd H8 pt (.tup [.str sj, .int j])) D2 (.lst (ys8 ++ [.ref pt]))) := (Kp.refl _ _).wr (by simp) hD9 (by intro xs z; cases z)
            have hl8 := hR8.len
            rw [List.length_map, List.length_take] at hl8
            refine ⟨ys8, hD9, small_lt (by omega), (k8.trans kt).put hD2, _, upd_same, ?_⟩
            rw [List.take_add_one, hgi]
            show RowsAt _ (List.map (rowL ts) (G.take i ++ [j])) _
            rw [List.map_append]
            refine ((hR8.kp kt).kp kw).snoc ⟨pt, _, rfl, kw.t _ _ upd_same, ?_⟩
            unfold rowL
            rw [hsj]
            exact ⟨rfl, rfl, trivial⟩
          rintro H8 ⟨k8, ys8, hD8, hR8⟩
          rw [List.length_map, List.take_of_length_le (Nat.le_refl _)] at hR8
          dsimp only [tNil]
          refine sortRows (ks := [1, 0]) (SqL.of hD8) hR8 (by simp) (fun r hr => ?_) fun ys9 rows' pO hR9 hpm hpw hpO => ?_
          · obtain ⟨i, _, rfl⟩ := List.mem_map.mp hr
            rfl
          obtain ⟨O, hO, rfl⟩ := perm_map_inv (rowL_no ts) hpm
          refine hD' _ _ ⟨pO, ys9, rowL ts, O, rfl, k8.trans (Kp.new hpO), upd_same, (fun z => by rw [z, k8.k _ _ (by simp) hF7] at hpO; cases hpO), hR9.kp (Kp.new (S := []) hpO), fun i => ⟨_, rfl⟩, hO, ?_⟩
          rw [List.pairwise_map] at hpw
          refine List.Pairwise.imp_of_mem (fun {i j} hi hj h => rowL_lt h.1 ?_ ?_ ?_) (hpw.and (hO.nodup_iff.mpr hGd))
          · obtain ⟨s, hs⟩ := hlet i (hO.mem_iff.mp hi); rw [hs]; rfl
          · obtain ⟨s, hs⟩ := hlet j (hO.mem_iff.mp hj); rw [hs]; rfl
          · exact fun z => h.2 (hinj i j (hGm i (hO.mem_iff.mp hi)).1 (hGm j (hO.mem_iff.mp hj)).1 z)
        · have hkd : (ts.getD ib .yes).kd ≠ 2 := fun z => c (wd_letter.mpr z)
          have hkm : ∀ j, j < ts.length → ∀ k ∈ (ts.getD j .yes).kids, k ∈ ts := fun j hj k hk => by
            have e1 : ts.getD j .yes = ts[j] := by rw [List.getD_eq_getElem?_getD, List.getElem?_eq_getElem hj]; rfl
            rw [e1] at hk
            obtain ⟨x, _, hx⟩ := hcl j ts[j] (List.getElem?_eq_getElem hj) k hk
            exact List.mem_of_getElem? hx
          have hkb : ∀ j ∈ G, ∀ k ∈ (ts.getD j .yes).kids, R[ix ts k]? = some (.int (rk ts k : Int)) := fun j hj k hk => by
            have hkt := hkm j (hGm j hj).1 k hk
            refine hdone.2 (ix ts k) ?_ k (ix_get hkt)
            have hmem := (hJm (ix ts k)).mpr (ix_lt hkt)
            obtain ⟨x, hx, ex⟩ := List.getElem_of_mem hmem
            have hdk : ts.getD (ix ts k) .yes = k := by rw [List.getD_eq_getElem?_getD, ix_get hkt]; rfl
            have hlt2 : k.k2 < (ts.getD ib .yes).k2 := by rw [← (hGm j hj).2]; exact kid_k2 hk
            by_cases hxb : x < b
            · exact List.mem_of_getElem? (by rw [List.getElem?_take_of_lt hxb, List.getElem?_eq_getElem hx, ex])
            · exfalso
              have hib3 : J[b]'(by omega) = ib := by rw [List.getElem?_eq_getElem (by omega)] at hib; exact Option.some.inj hib
              by_cases hxe : x = b
              · subst hxe
                rw [← hib3, ex, hdk] at hlt2; exact Nat.lt_irrefl _ hlt2
              · have := List.pairwise_iff_getElem.mp hJw b x (by omega) hx (by omega)
                rw [hib3, ex] at this
                simp only [lt3, hdk] at this
                omega
          refine ⟨_, rfl, D, rfl, ⟨_, SqL.of hD7⟩, fun D2 hD2 => ?_⟩
          refine lc_it (n := (G.map fun j : Nat => V.int j).length) walk_list (fun i H' => Kp [] H7 H' ∧ ∃ ys, H' D2 = some (.lst ys) ∧ RowsAt H' ((G.take i).map (rowK ts)) ys) ⟨Kp.new hD2, [], upd_same, trivial⟩ (fun i H' _ h => SqL.of (h.1.k _ _ (by simp) hD7)) ?_ ?_
          · rintro i y _ H8 hi ⟨k8, ys8, hD8, hR8⟩ ⟨rfl, hyi⟩
            have hi2 : i < G.length := by rw [List.length_map] at hi; exact hi
            have hgi : G[i]? = some G[i] := List.getElem?_eq_getElem hi2
            have hgm : G[i] ∈ G := List.getElem_mem hi2
            generalize G[i] = j at hgi hgm
            rw [List.getElem?_map, hgi] at hyi; cases hyi
            obtain ⟨hj1, hj2⟩ := hGm j hgm
            have htj : ts[j]? = some (ts.getD j .yes) := by rw [List.getD_eq_getElem?_getD, List.getElem?_eq_getElem hj1]; rfl
            obtain ⟨a, ha, haT⟩ := (hL7.kp k8).2 j _ htj
            obtain ⟨r, hr0, hrk⟩ := lineK_head ts (ts.getD j .yes)
            have hrr := hrk (by rw [(Tm.k2_kd hj2).1]; exact hkd)
            rw [hr0, List.map_cons] at haT
            refine ⟨rfl, _, rfl, _, rfl, l, lv, _, _, rfl, rfl, SqL.of (k8.k _ _ (by simp) hl7), atI_nat ha, _, rfl, a, _, rfl, tupT haT, fun z => absurd z (cut_tail _ _).2, fun _ pt hpt => ?_⟩
            rw [(cut_tail _ _).1]
            have kt : Kp [] H8 (upd H8 pt (.tup (r.map kV))) := Kp.new hpt
            refine ⟨pt, rfl, ⟨_, tupT upd_same⟩, fun D3 hD3 => ?_⟩
            have ht9 : upd H8 pt (.tup (r.map kV)) pt = some (.tup (r.map kV)) := upd_same
            generalize upd H8 pt (.tup (r.map kV)) = H9 at kt hD3 ht9 ⊢
            have k89 := k8.trans kt
            have hrl : r.length = (ts.getD j .yes).kids.length := by rw [hrr, List.length_map]
            have hkk : (ts.getD j .yes).kids.length ≤ 2 := by cases (ts.getD j .yes) <;> simp [Tm.kids]
            refine lc_it (n := (r.map kV).length) walk_tup (fun x H' => Kp [] H9 H' ∧ H' D3 = some (.lst (((ts.getD j .yes).kids.take x).map fun k => V.int (rk ts k : Int)))) ⟨Kp.new hD3, upd_same⟩ (fun x H' _ h => tupT (h.1.t _ _ ht9)) ?_ ?_
            · rintro x y _ H10 hx ⟨k10, hD10⟩ ⟨rfl, hyx⟩
              have hx2 : x < (ts.getD j .yes).kids.length := by rw [List.length_map, hrl] at hx; exact hx
              have hkx : (ts.getD j .yes).kids[x]? = some (ts.getD j .yes).kids[x] := List.getElem?_eq_getElem hx2
              have hkmem : (ts.getD j .yes).kids[x] ∈ (ts.getD j .yes).kids := List.getElem_mem hx2
              generalize (ts.getD j .yes).kids[x] = u at hkx hkmem
              have hye : y = .int (ix ts u : Int) := by
                rw [hrr, List.map_map, List.getElem?_map, hkx] at hyx
                exact (Option.some.inj hyx).symm
              subst hye
              refine ⟨rfl, _, rfl, _, rfl, F0, R, _, _, rfl, rfl, SqL.of ((k89.trans k10).k _ _ (by simp) hF7), atI_nat (hkb j hgm u hkmem), _, hD10, ?_, k10.put hD3, ?_⟩
              · rw [List.length_map, List.length_take]; exact small_lt (by omega)
              · rw [upd_same, List.take_add_one, hkx, List.map_append]; rfl
            rintro H10 ⟨k10, hD10⟩
            rw [List.length_map, hrl, List.take_of_length_le (Nat.le_refl _)] at hD10
            refine ⟨D3, _, rfl, .inl ⟨SqL.of hD10, fun pu hpu => ?_⟩⟩
            have ku : Kp [] H10 (upd H10 pu (.tup ((ts.getD j .yes).kids.map fun k => V.int (rk ts k : Int)))) := Kp.new hpu
            refine ⟨_, rfl, small_le (by simp), fun pv hpv => ?_⟩
            have hpu0 : upd H10 pu (.tup ((ts.getD j .yes).kids.map fun k => V.int (rk ts k : Int))) pu = _ := upd_same
            generalize upd H10 pu (.tup ((ts.getD j .yes).kids.map fun k => V.int (rk ts k : Int))) = H11 at ku hpu0 hpv ⊢
            have kv : Kp [] H11 (upd H11 pv (.tup [.ref pu, .int j])) := Kp.new hpv
            have k8v := (((kt.trans k10).trans ku).trans kv)
            have hD12 := k8v.k _ _ (by simp) hD8
            have kw : Kp [D2] (upd H11 pv (.tup [.ref pu, .int j])) (upd (upd H11 pv (.tup [.ref pu, .int j])) D2 (.lst (ys8 ++ [.ref pv]))) := (Kp.refl _ _).wr (by simp) hD12 (by intro xs z; cases z)
            have hl8 := hR8.len
            rw [List.length_map, List.length_take] at hl8
            refine ⟨ys8, hD12, small_lt (by omega), (k8.trans k8v).put hD2, _, upd_same, ?_⟩
            rw [List.take_add_one, hgi]
            show RowsAt _ (List.map (rowK ts) (G.take i ++ [j])) _
            rw [List.map_append]
            refine ((hR8.kp k8v).kp kw).snoc ⟨pv, _, rfl, kw.t _ _ upd_same, ⟨pu, rfl, ?_⟩, rfl, trivial⟩
            refine kw.t _ _ (kv.t _ _ ?_)
            rw [hpu0, List.map_map]; rfl
          rintro H8 ⟨k8, ys8, hD8, hR8⟩
          rw [List.length_map, List.take_of_length_le (Nat.le_refl _)] at hR8
          dsimp only [tNil]
          refine sortRows (ks := [2, 0]) (SqL.of hD8) hR8 (by simp) (fun r hr => ?_) fun ys9 rows' pO hR9 hpm hpw hpO => ?_
          · obtain ⟨i, _, rfl⟩ := List.mem_map.mp hr
            rfl
          obtain ⟨O, hO, rfl⟩ := perm_map_inv (rowK_no ts) hpm
          refine hD' _ _ ⟨pO, ys9, rowK ts, O, rfl, k8.trans (Kp.new hpO), upd_same, (fun z => by rw [z, k8.k _ _ (by simp) hF7] at hpO; cases hpO), hR9.kp (Kp.new (S := []) hpO), fun i => ⟨_, rfl⟩, hO, ?_⟩
          rw [List.pairwise_map] at hpw
          refine List.Pairwise.imp_of_mem (fun {i j} hi hj h => ?_) (hpw.and (hO.nodup_iff.mpr hGd))
          have gi := hGm i (hO.mem_iff.mp hi)
          have gj := hGm j (hO.mem_iff.mp hj)
          exact rowK_lt h.1 (gi.2.trans gj.2.symm) (by rw [(Tm.k2_kd gi.2).1]; exact hkd) (hkm i gi.1) (hkm j gj.1) fun z => h.2 (hinj i j gi.1 gj.1 z)
      · rintro σ H8 ⟨pO, ys2, g, O, rfl, k8, hO8, hpO, hR8, hg, hOp, hOw⟩
        have hOl : O.length = G.length := hOp.length_eq
        have hyl2 := hR8.len
        rw [List.length_map] at hyl2
        have k48 : Kp [F0] H4 H8 := ((k5.trans k57).trans k8).mono0
        have hF8 := k8.k _ _ (by simp) hF7
        show tSeq (tFor _ _ _) _ _ _ _
        refine seqJ (fun σ H' => ∃ (R' : List V) (o8 o9 : Option V), σ = [some (.ref l), some (.ref z), some (.ref F0), some (.ref p), some (.int (b : Int)), some (.int (e : Int)), some (.ref D), some (.ref pO), o8, o9, none, none, none, none] ∧ Kp [F0] H8 H' ∧ H' F0 = some (.lst R') ∧ Done ts (J.take b ++ O) R') (fun D' hD' => ?_) ?_
        · refine ⟨_, rfl, pO, ys2, rfl, SqL.of hO8, for_it (n := ys2.length) walk_enum (fun i σ H' => ∃ (R' : List V) (o8 o9 : Option V), σ = [some (.ref l), some (.ref z), some (.ref F0), some (.ref p), some (.int (b : Int)), some (.int (e : Int)), some (.ref D), some (.ref pO), o8, o9, none, none, none, none] ∧ Kp [F0] H8 H' ∧ H' F0 = some (.lst R') ∧ Done ts (J.take b ++ O.take i) R')
            ⟨R, o8, o9, rfl, Kp.refl _ _, hF8, by simpa using hdone⟩ (fun i σ H' _ ⟨_, _, _, _, k, _⟩ => SqL.of (k.k _ _ (by simp [hpO]) hO8)) ?_ ?_⟩
          · rintro i y σ H9 _ hi ⟨R', o8, o9, rfl, k9, hF9, hd9⟩ ⟨Tp, x, y, rfl, hTp, rfl, hx, hy⟩
            cases hx
            have hi2 : i < O.length := by omega
            have hoi : O[i]? = some O[i] := List.getElem?_eq_getElem hi2
            have hom : O[i] ∈ O := List.getElem_mem hi2
            generalize O[i] = j at hoi hom
            have hj := (hGm j (hOp.mem_iff.mp hom)).1
            have kT : Kp [F0] H9 (upd H9 Tp (.tup [.int i, y])) := Kp.new hTp
            have hF10 : upd H9 Tp (.tup [.int i, y]) F0 = some (.lst R') := by rw [upd_ne (ne_of_none hF9 hTp)]; exact hF9
            obtain ⟨v, hv, t, vs, rfl, ht, hvs⟩ := ((hR8.kp k9).kp kT).at (i := i) (r := g j) (by rw [List.getElem?_map, hoi]; rfl)
            dsimp only at hy
            rw [hv] at hy; cases hy
            obtain ⟨x0, hx0⟩ := hg j
            rw [hx0] at hvs
            match vs, hvs with
            | [_, _], ⟨_, he2, _⟩ =>
            cases he2
            refine ⟨Tp, _, rfl, tupT upd_same, rfl, _, _, rfl, _, _, rfl, rfl, _, rfl, _, rfl, _, _, rfl, rfl, ?_⟩
            have hrk : rk ts (ts.getD j .yes) = b + i := rk_group hJ hcut hcut2 (by omega) (by omega) (hGg ▸ hOp) hOw hoi
            refine ⟨_, rfl, _, rfl, t, _, 1, _, rfl, rfl, tupT ht, atI_nat (j := 1) rfl, F0, R', _, j, rfl, rfl, hF10, ?_, ?_⟩
            · unfold ixN
              rw [if_pos (by omega), if_pos (by have := hd9.1; omega)]; simp
            · have hset := hd9.set hj
              have eqv : (V.int ((b : Int) + (i : Int))) = V.int (rk ts (ts.getD j .yes) : Int) := by rw [hrk]; simp
              dsimp only
              rw [eqv]
              refine ⟨_, _, _, rfl, (k9.trans kT).wr (by simp) hF10 (by intro xs z; cases z), upd_same, ?_⟩
              rw [List.take_add_one, hoi]
              rw [List.append_assoc] at hset
              exact hset
          · rintro σ H9 ⟨R', o8, o9, rfl, k9, hF9, hd9⟩
            rw [List.take_of_length_le (l := O) (by omega)] at hd9
            exact hD' _ _ ⟨R', o8, o9, rfl, k9, hF9, hd9⟩
        · rintro σ H9 ⟨R', o8, o9, rfl, k9, hF9, hd9⟩
          refine ⟨_, rfl, ?_⟩
          refine ⟨ts.length - e, by omega, e, R', _, _, _, _, _, rfl, k48.trans k9 |> k4.trans, hF9, hen, hcut2, hd9.mono fun i hi => ?_, rfl⟩
          have : J.take e = J.take b ++ G := by
            rw [← hGg, ← List.take_add]; congr 1; omega
          rw [this] at hi
          rcases List.mem_append.mp hi with h | h
          · exact List.mem_append_left _ h
          · exact List.mem_append_right _ (hOp.mem_iff.mpr h)
  · exact ⟨_, rfl, q H4 F0 (k3.cut k4 (by simp [hFn])) hFn (by
      have e : b = ts.length := by have : ¬ ((b : Int) < (ys.length : Int)) := fun z => hlt (decide_eq_true z); omega
      subst e
      rw [List.take_of_length_le (by omega)] at hdone
      rw [hF4, hdone.all fun i hi => (hJm i).mpr hi])⟩
end
end N0

namespace N0
open PySem L2 PySem.Spec PyProof.Rows
theorem TmVs.of {H : Hp} : ∀ {ts : List Tm} {vs : List V}, vs.length = ts.length → (∀ (i : Nat) (t : Tm), ts[i]? = some t → ∃ v, vs[i]? = some v ∧ TmV H t v) → TmVs H ts vs
  | [], [], _, _ => trivial
  | [], _ :: _, h, _ => by simp at h
  | _ :: _, [], h, _ => by simp at h
  | t :: ts, v :: vs, h, q => by
    refine ⟨?_, TmVs.of (by simpa using h) fun i u hu => ?_⟩
    · obtain ⟨x, hx, hx2⟩ := q 0 t rfl
      cases hx; exact hx2
    · obtain ⟨x, hx, hx2⟩ := q (i + 1) u hu
      exact ⟨x, hx, hx2⟩
theorem ord_perm {ts : List Tm} (h : ts.Nodup) : (ord ts).Perm ts ∧ Inc (ord ts) := by
  have hi : Inc (ord ts) := ord_inc ts [] List.Pairwise.nil (fun u _ z => by cases z) h
  refine ⟨(List.perm_ext_iff_of_nodup hi.nodup h).mpr fun u => ?_, hi⟩
  unfold ord
  rw [ord_mem]; simp
def spPO (tup : Bool) : Sp := fun vs H Q _ => ∃ (v : V) (t : Tm), vs = [v] ∧ TmV H t v ∧ t.dep < 40 ∧ Small t ∧
  ∀ H' a lv, Kp [] H H' → H' a = some (if tup = true then .tup lv else .lst lv) → TmVs H' (ord (addP [] t)) lv → Q (.ref a) H'
def spLO : Sp := fun vs H Q _ => ∃ (v w : V) (t u : Tm), vs = [v, w] ∧ TmV H t v ∧ TmV H u w ∧ t.dep < 40 ∧ u.dep < 40 ∧ Small t ∧ Small u ∧ t.size + u.size ≤ 1000 ∧
  ∀ H', Kp [] H H' → Q (.bl (Tm.lt t u)) H'
section
variable {P : Program} {w : World} {K : PySem.W.Frag} {mg : Str → Option Value} {base : Heap} {f C : Addr} {fd : FuncData}
theorem ok_parts_of (F : Fun K "parts_of" "parts_of" s_parts_of f fd) (T : Txt K mg) (TC : TLc K mg C) (D_init : IDef P w K mg base C 1 ["self"] (spInit C)) (D_term_number : MDef P w K mg base C "term_number" 41 ["self", "term"] (spTN C 40))
    (D_told_terms : Def P w K mg base "told_terms" 1 ["lines"] spTold) (D_rank_lines : Def P w K mg base "rank_lines" 1 ["lines", "sizes"] spRL) :
    FnOk P w K mg base CX0 42 f fd ["term"] (spPO false) := by
  refine F.ok sc_parts_of (fun vs H Q E h => ?_) (fun cdv A outer s H vs Q E hr h => ?_)
  · obtain ⟨v, t, rfl, _⟩ := h
    rfl
  obtain ⟨v, t, rfl, ht, hd, hsm, q⟩ := h
  have nd := sc_parts_of.nd
  refine ⟨_, (pss_cons (ps_set (i := 1) nd rfl (Or.inl rfl) (e_mkTL TC D_init (hr.mono (by omega))))
      (pss_cons (ps_expr (e_meth TC.cl D_term_number (hr.mono (by omega)) (pv 1) (pa_cons (pv 0) pa_nil)))
      (pss_cons (ps_par (i := 2) (j := 3) rfl nd rfl rfl (by decide) rfl rfl (pa_cons (e_fn D_told_terms (hr.mono (by omega)) (pa_cons (pe_fld (pv 1) rfl) pa_nil)) (pa_cons (e_fn D_rank_lines (hr.mono (by omega)) (pa_cons (pe_fld (pv 1) rfl) (pa_cons (pe_fld (pv 1) rfl) pa_nil))) pa_nil)) rfl)
      (pss_cons (ps_set (i := 4) nd rfl (Or.inl rfl) (pe_op op_rep (pe_lst (pa_cons (pv 0) pa_nil)) (e_len T (pa_cons (pv 2) pa_nil))))
      (pss_cons (ps_for PassesOwn.never rfl (pi_enum (by rfl) T.enumerate (pa_cons (pv 2) pa_nil)) (pg_tup rfl (pgs_cons (pg_name (i := 5) nd rfl (Or.inl rfl)) (pgs_cons (pg_name (i := 6) nd rfl (Or.inl rfl)) pgs_nil))) (pss_one (ps_asg (pv 6) (pg_sub (pv 4) (pe_ix ix_list (pv 3) (pv 5) (fun _ _ => rfl)) set_list))))
      (pss_one (ps_ret (pv 4)))))))), ?_⟩
  intro H1 p l n s' k1 hp hl hn hs hT
  obtain ⟨dx, hp1⟩ := hT.dx
  refine ⟨_, rfl, p, dx, _, rfl, hp1, tlf_tn _ _ _, _, rfl, ?_⟩
  refine ⟨p, l, n, s', v, [], t, rfl, hT, ht.kp k1, hd, hsm.2.1, by simpa using hsm.2.1, fun H2 k2 hT2 => ?_⟩
  have k02 : Kp [] H H2 := by
    refine k1.cut k2 ?_
    simp [hl, hn, hs]
  obtain ⟨dx2, hp2⟩ := hT2.dx
  obtain ⟨lv, hl2, hL1, hL2⟩ := hT2.ls
  have hlen := hT2.big.1
  have hnd := hT2.nd
  have hcl := hT2.cl
  have hss := hT2.ss
  generalize addP [] t = ts at *
  refine ⟨_, rfl, p, C, dx2, _, _, rfl, hp2, TC.cl, TC.nl, tlf_l _ _ _, ?_⟩
  refine ⟨l, ts, lv, rfl, hl2, ⟨hL1, hL2⟩, hcl, hnd, hlen, fun H3 a vs k3 ha0 ha hV => ?_⟩
  refine ⟨_, rfl, p, C, dx2, _, _, rfl, k3.k _ _ (by simp) hp2, TC.cl, TC.nl, tlf_l _ _ _, _, rfl, p, C, dx2, _, _, rfl, k3.k _ _ (by simp) hp2, TC.cl, TC.ns, tlf_s _ _ _, ?_⟩
  refine ⟨l, s', ts, lv, rfl, k3.k _ _ (by simp) hl2, LinesV.kp k3 ⟨hL1, hL2⟩, k3.k _ _ (by simp) hss, hcl, hnd, hlen, fun H4 r k4 hr0 hr => ?_⟩
  refine ⟨_, _, rfl, ?_⟩
  have k24 := k3.trans k4
  have ha4 := k4.k _ _ (by simp) ha
  have hV4 := hV.kp k4
  have hvl := hV4.len
  refine ⟨_, rfl, small_le (by simp), fun z0 hz0 => ?_⟩
  have kz : Kp [] H4 (upd H4 z0 (.lst [v])) := Kp.new hz0
  refine ⟨_, rfl, a, vs, rfl, .inl (SqL.of (kz.k _ _ (by simp) ha4)), z0, _, _, rfl, rfl, upd_same, by omega, by omega, ?_, fun F0 hF => ?_⟩
  · simp; exact small_le (by omega)
  have kzF : Kp [] H4 (upd (upd H4 z0 (.lst [v])) F0 (.lst (List.replicate (vs.length : Int).toNat [v]).flatten)) := kz.add hF
  have hFn4 : H4 F0 = none := kz.n _ hF
  have hFn : H F0 = none := (k02.trans k24).n _ hFn4
  have hF0 : upd (upd H4 z0 (.lst [v])) F0 (.lst (List.replicate (vs.length : Int).toNat [v]).flatten) F0 = some (.lst (List.replicate (vs.length : Int).toNat [v]).flatten) := upd_same
  have hR0 : (List.replicate (vs.length : Int).toNat [v]).flatten.length = ts.length := by simp [hvl]
  generalize (List.replicate (vs.length : Int).toNat [v]).flatten = R0 at hF0 hR0 kzF
  generalize upd (upd H4 z0 (.lst [v])) F0 (.lst R0) = H5 at kzF hF0
  have ha5 := kzF.k _ _ (by simp) ha4
  have hr5 := kzF.k _ _ (by simp) hr
  have hV5 := hV4.kp kzF
  have haF : a ≠ F0 := ne_of_none ha4 hFn4
  have hrF : r ≠ F0 := ne_of_none hr hFn4
  refine ⟨_, rfl, a, vs, rfl, SqL.of ha5, for_it (n := vs.length) walk_enum (fun i σ H' => ∃ (R : List V) (o5 o6 : Option V), σ = [some v, some (.ref p), some (.ref a), some (.ref r), some (.ref F0), o5, o6] ∧ Kp [F0] H5 H' ∧ H' F0 = some (.lst R) ∧ R.length = ts.length ∧
      ∀ j u, j < i → ts[j]? = some u → ∃ x, R[rk ts u]? = some x ∧ TmV H' u x)
    ⟨R0, none, none, rfl, Kp.refl _ _, hF0, hR0, fun j u h => absurd h (Nat.not_lt_zero _)⟩ (fun i σ H' _ ⟨_, _, _, _, k, _⟩ => SqL.of (k.k _ _ (by simp [haF]) ha5)) ?_ ?_⟩
  · rintro i y σ H6 _ hi ⟨R, o5, o6, rfl, k6, hF6, hRl, hR⟩ ⟨Tp, x, y, rfl, hTp, rfl, hx, hy⟩
    cases hx
    have hi2 : i < ts.length := by omega
    have hti : ts[i]? = some ts[i] := List.getElem?_eq_getElem hi2
    have htm : ts[i] ∈ ts := List.getElem_mem hi2
    generalize ts[i] = u at hti htm
    have kT : Kp [F0] H6 (upd H6 Tp (.tup [.int i, y])) := Kp.new hTp
    have hF7 : upd H6 Tp (.tup [.int i, y]) F0 = some (.lst R) := by rw [upd_ne (ne_of_none hF6 hTp)]; exact hF6
    obtain ⟨v', hv', hvT⟩ := hV5.at hti
    dsimp only at hy
    rw [hv'] at hy; cases hy
    have hb := rk_bound htm
    refine ⟨Tp, _, rfl, tupT upd_same, rfl, _, _, rfl, _, _, rfl, rfl, _, rfl, _, rfl, ?_⟩
    generalize upd H6 Tp (.tup [.int i, y]) = H7 at kT hF7
    have k57 := k6.trans kT
    refine ⟨_, rfl, _, rfl, r, _, _, _, rfl, rfl, SqL.of (k57.k _ _ (by simp [hrF]) hr5), atI_nat (by rw [List.getElem?_map, hti]; rfl), F0, R, _, rk ts u, rfl, rfl, hF7, ?_, ?_⟩
    · unfold ixN
      rw [if_pos (by omega), if_pos (by omega)]; simp
    · have kw : Kp [F0] H7 (upd H7 F0 (.lst (R.set (rk ts u) y))) := (Kp.refl _ _).wr (by simp) hF7 (by intro xs z; cases z)
      refine ⟨_, _, _, rfl, k57.trans kw, upd_same, by rw [List.length_set]; exact hRl, fun j u' hj hu' => ?_⟩
      by_cases e : rk ts u' = rk ts u
      · have : u' = u := rk_inj (List.mem_of_getElem? hu') htm e
        subst this
        exact ⟨y, List.getElem?_set_self (by omega), (hvT.kp k57).kp kw⟩
      · have hji : j ≠ i := fun z => by subst z; rw [hti] at hu'; cases hu'; exact e rfl
        obtain ⟨x, hx, hxT⟩ := hR j u' (by omega) hu'
        exact ⟨x, by rw [List.getElem?_set_ne (fun z => e z.symm)]; exact hx, (hxT.kp kT).kp kw⟩
  · rintro σ H6 ⟨R, o5, o6, rfl, k6, hF6, hRl, hR⟩
    obtain ⟨hop, hoi⟩ := ord_perm hnd
    refine ⟨_, rfl, q H6 F0 R (((k02.trans k24).trans kzF).cut k6 (by simp [hFn])) hF6 (TmVs.of (by rw [hRl, hop.length_eq]) fun i u hu => ?_)⟩
    have hum : u ∈ ts := hop.mem_iff.mp (List.mem_of_getElem? hu)
    have hrk := inc_rk hoi hop hu
    obtain ⟨x, hx, hxT⟩ := hR (ix ts u) u (by have := ix_lt hum; omega) (ix_get hum)
    exact ⟨x, by rw [← hrk]; exact hx, hxT⟩
theorem ok_term_parts (F : Fun K "term_parts" "term_parts" s_term_parts f fd) (T : Txt K mg) (D_parts_of : Def P w K mg base "parts_of" 42 ["term"] (spPO false)) (D_need_term : Def P w K mg base "need_term" 5 ["term"] spNT) :
    FnOk P w K mg base CX0 43 f fd ["term"] (spPO true) := by
  refine F.ok sc_term_parts (fun vs H Q E h => ?_) (fun cdv A outer s H vs Q E hr h => ?_)
  · obtain ⟨v, t, rfl, _⟩ := h
    rfl
  obtain ⟨v, t, rfl, ht, hd, hsm, q⟩ := h
  have nd := sc_term_parts.nd
  refine ⟨_, (pss_one (ps_ret (pe_callTy call_tuple_of (by rfl) T.tuple bt_tuple (pa_cons (e_fn D_parts_of (hr.mono (by omega)) (pa_cons (e_fn D_need_term (hr.mono (by omega)) (pa_cons (pv 0) pa_nil)) pa_nil)) pa_nil)))), ?_⟩
  refine ⟨_, rfl, v, t, rfl, ht, hsm, fun H1 k1 => ⟨v, t, rfl, ht.kp k1, hd, hsm, fun H2 a lv k2 ha hV => ⟨a, lv, rfl, .inl ⟨SqL.of ha, fun p hp => q _ p lv ((k1.trans k2).add hp) upd_same (hV.kp (Kp.new (S := []) hp))⟩⟩⟩⟩
theorem ok_is_lesser_one (F : Fun K "is_lesser_one" "is_lesser_one" s_is_lesser_one f fd) (T : Txt K mg) (TC : TLc K mg C) (D_init : IDef P w K mg base C 1 ["self"] (spInit C)) (D_term_number : MDef P w K mg base C "term_number" 41 ["self", "term"] (spTN C 40))
    (D_rank_lines : Def P w K mg base "rank_lines" 1 ["lines", "sizes"] spRL) :
    FnOk P w K mg base CX0 42 f fd ["term", "other"] spLO := by
  refine F.ok sc_is_lesser_one (fun vs H Q E h => ?_) (fun cdv A outer s H vs Q E hr h => ?_)
  · obtain ⟨v, x, t, u, rfl, _⟩ := h
    rfl
  obtain ⟨v, x, t, u, rfl, ht, hu, hdt, hdu, hst, hsu, hsz, q⟩ := h
  have nd := sc_is_lesser_one.nd
  refine ⟨_, (pss_cons (ps_set (i := 2) nd rfl (Or.inl rfl) (e_mkTL TC D_init (hr.mono (by omega))))
      (pss_cons (ps_par (i := 3) (j := 4) rfl nd rfl rfl (by decide) rfl rfl (pa_cons (e_meth TC.cl D_term_number (hr.mono (by omega)) (pv 2) (pa_cons (pv 0) pa_nil)) (pa_cons (e_meth TC.cl D_term_number (hr.mono (by omega)) (pv 2) (pa_cons (pv 1) pa_nil)) pa_nil)) rfl)
      (pss_cons (ps_set (i := 5) nd rfl (Or.inl rfl) (e_fn D_rank_lines (hr.mono (by omega)) (pa_cons (pe_fld (pv 2) rfl) (pa_cons (pe_fld (pv 2) rfl) pa_nil))))
      (pss_one (ps_ret (pe_cmpR op_lt (pe_ix ix_list (pv 5) (pv 3) (fun _ _ => rfl)) (pe_ix ix_list (pv 5) (pv 4) (fun _ _ => rfl)) (nomark _))))))), ?_⟩
  intro H1 p l n s' k1 hp hl hn hs hT
  obtain ⟨dx, hp1⟩ := hT.dx
  refine ⟨_, rfl, p, dx, _, rfl, hp1, tlf_tn _ _ _, _, rfl, ?_⟩
  refine ⟨p, l, n, s', v, [], t, rfl, hT, ht.kp k1, hdt, hst.2.1, by simpa using hst.2.1, fun H2 k2 hT2 => ?_⟩
  obtain ⟨dx2, hp2⟩ := hT2.dx
  have hl1 := addP_len t []
  simp only [List.length_nil, Nat.zero_add] at hl1
  refine ⟨_, rfl, p, dx2, _, rfl, hp2, tlf_tn _ _ _, _, rfl, p, l, n, s', x, addP [] t, u, rfl, hT2, (hu.kp k1).kp k2, hdu, hsu.2.1, by omega, fun H3 k3 hT3 => ?_⟩
  have k03 : Kp [] H H3 := by
    refine k1.cut (k2.trans k3) ?_
    simp [hl, hn, hs]
  refine ⟨_, _, rfl, ?_⟩
  obtain ⟨dx3, hp3⟩ := hT3.dx
  obtain ⟨lv, hl3, hL1, hL2⟩ := hT3.ls
  have htm : t ∈ addP (addP [] t) u := (addP_mem u _ t).mpr (.inl (addP_self t []))
  have hum : u ∈ addP (addP [] t) u := addP_self u _
  have hix : ix (addP (addP [] t) u) t = ix (addP [] t) t := addP_ix (addP_self t [])
  rw [← hix]
  generalize addP (addP [] t) u = ts at *
  refine ⟨_, rfl, p, C, dx3, _, _, rfl, hp3, TC.cl, TC.nl, tlf_l _ _ _, _, rfl, p, C, dx3, _, _, rfl, hp3, TC.cl, TC.ns, tlf_s _ _ _, ?_⟩
  refine ⟨l, s', ts, lv, rfl, hl3, ⟨hL1, hL2⟩, hT3.ss, hT3.cl, hT3.nd, hT3.big.1, fun H4 r k4 hr0 hr => ?_⟩
  refine ⟨_, rfl, _, rfl, r, _, _, _, rfl, rfl, SqL.of hr, atI_nat (by rw [List.getElem?_map, ix_get htm]; rfl), _, rfl, _, rfl, r, _, _, _, rfl, rfl, SqL.of hr, atI_nat (by rw [List.getElem?_map, ix_get hum]; rfl), _, _, rfl, rfl, ?_⟩
  have e : (decide ((rk ts t : Int) < (rk ts u : Int))) = Tm.lt t u := by
    rw [Bool.eq_iff_iff, decide_eq_true_iff, rk_int htm hum]
  dsimp only
  rw [e]
  exact q _ (k03.trans k4)
theorem ok_is_lesser (F : Fun K "is_lesser" "is_lesser" s_is_lesser f fd) (T : Txt K mg) (D_need_term : Def P w K mg base "need_term" 5 ["term"] spNT) (D_is_lesser_one : Def P w K mg base "is_lesser_one" 42 ["term", "other"] spLO) :
    FnOk P w K mg base CX0 43 f fd ["term", "other"] spLO := by
  refine F.ok sc_is_lesser (fun vs H Q E h => ?_) (fun cdv A outer s H vs Q E hr h => ?_)
  · obtain ⟨v, x, t, u, rfl, _⟩ := h
    rfl
  obtain ⟨v, x, t, u, rfl, ht, hu, hdt, hdu, hst, hsu, hsz, q⟩ := h
  have nd := sc_is_lesser.nd
  refine ⟨_, (pss_cons (ps_expr (e_fn D_need_term (hr.mono (by omega)) (pa_cons (pv 0) pa_nil)))
      (pss_cons (ps_expr (e_fn D_need_term (hr.mono (by omega)) (pa_cons (pv 1) pa_nil)))
      (pss_one (ps_ret (e_fn D_is_lesser_one (hr.mono (by omega)) (pa_cons (pv 0) (pa_cons (pv 1) pa_nil))))))), ?_⟩
  refine ⟨_, rfl, v, t, rfl, ht, hst, fun H1 k1 => ⟨_, rfl, x, u, rfl, hu.kp k1, hsu, fun H2 k2 => ?_⟩⟩
  have k12 := k1.trans k2
  exact ⟨_, rfl, _, rfl, v, x, t, u, rfl, ht.kp k12, hu.kp k12, hdt, hdu, hst, hsu, hsz, fun H3 k3 => q _ (k12.trans k3)⟩
end
end N0

namespace N0
open PySem L2 PySem.Spec PyProof.Rows
def kDraw (w x s : Int) (c : Addr) : List (Key × V) := [(.inr "whole", .int w), (.inr "mixing", .int x), (.inr "cells", .ref c), (.inr "spot", .int s)]
theorem kDraw_w (w x s : Int) (c : Addr) : valV (kDraw w x s c) (.inr "whole") = some (.int w) := by with_unfolding_all rfl
theorem kDraw_x (w x s : Int) (c : Addr) : valV (kDraw w x s c) (.inr "mixing") = some (.int x) := by with_unfolding_all rfl
theorem kDraw_c (w x s : Int) (c : Addr) : valV (kDraw w x s c) (.inr "cells") = some (.ref c) := by with_unfolding_all rfl
theorem kDraw_s (w x s : Int) (c : Addr) : valV (kDraw w x s c) (.inr "spot") = some (.int s) := by with_unfolding_all rfl
theorem kDraw_pw (w x s w' : Int) (c : Addr) : putK (kDraw w x s c) (.inr "whole") (.int w') = kDraw w' x s c := by with_unfolding_all rfl
theorem kDraw_ps (w x s s' : Int) (c : Addr) : putK (kDraw w x s c) (.inr "spot") (.int s') = kDraw w x s' c := by with_unfolding_all rfl
def DrawAt (H : Hp) (m c : Addr) (b : Nat) : Prop := ∃ (w x : Int) (s : Nat) (cs : List Int), H m = some (.dK (kDraw w x s c)) ∧ H c = some (.lst (cs.map V.int)) ∧ cs ≠ [] ∧ cs.length ≤ 1000 ∧ -(2 ^ 63) < x ∧ x < 2 ^ 63 ∧ s ≤ b
theorem DrawAt.mono {H : Hp} {m c : Addr} {b b' : Nat} (h : DrawAt H m c b) (hb : b ≤ b') : DrawAt H m c b' := by
  obtain ⟨w, x, s, cs, h1, h2, h3, h4, h5, h6, h7⟩ := h
  exact ⟨w, x, s, cs, h1, h2, h3, h4, h5, h6, Nat.le_trans h7 hb⟩
theorem DrawAt.kp {H H' : Hp} {m c : Addr} {b : Nat} (k : Kp [] H H') (h : DrawAt H m c b) : DrawAt H' m c b := by
  obtain ⟨w, x, s, cs, h1, h2, h3⟩ := h
  exact ⟨w, x, s, cs, k.k _ _ (by simp) h1, k.k _ _ (by simp) h2, h3⟩
theorem DrawAt.put {H : Hp} {m c l : Addr} {b : Nat} {o : HO} (h : DrawAt H m c b) (h1 : l ≠ m ∧ l ≠ c) : DrawAt (upd H l o) m c b := by
  obtain ⟨w, x, s, cs, g1, g2, g3⟩ := h
  exact ⟨w, x, s, cs, by rw [upd_ne (fun z => h1.1 z.symm)]; exact g1, by rw [upd_ne (fun z => h1.2 z.symm)]; exact g2, g3⟩
theorem DrawAt.ne {H : Hp} {m c l : Addr} {b : Nat} (h : DrawAt H m c b) (hl : H l = none) : l ≠ m ∧ l ≠ c := by
  obtain ⟨w, x, s, cs, g1, g2, g3⟩ := h
  exact ⟨(fun z => by rw [z, g1] at hl; cases hl), (fun z => by rw [z, g2] at hl; cases hl)⟩
theorem DrawAt.neK {H H0 : Hp} {m c l : Addr} {b : Nat} {S : List Addr} (h : DrawAt H0 m c b) (hl : H l = none) (k : Kp S H0 H) : l ≠ m ∧ l ≠ c := h.ne (k.n _ hl)
theorem SqT.frz {K : PySem.W.Frag} {H : Hp} {a : Addr} {xs : List V} {o : Obj} (h : H a = some (.frz o (.tup xs))) : SqT K H a xs := .inl (.inr ⟨o, h⟩)
theorem _root_.L2.SqL.kpm {K : PySem.W.Frag} {H H' : Hp} {m a : Addr} {xs : List V} {kvs : List (Key × V)} (k : Kp [m] H H') (hm : H m = some (.dK kvs)) (h : SqL K H a xs) : SqL K H' a xs := by
  rcases h with (h | ⟨o, h⟩) | h
  · exact .inl (.inl (k.k _ _ (by simp; intro z; subst z; rw [hm] at h; cases h) h))
  · exact .inl (.inr ⟨o, k.k _ _ (by simp; intro z; subst z; rw [hm] at h; cases h) h⟩)
  · exact .inr h
theorem _root_.L2.SqT.kpm {K : PySem.W.Frag} {H H' : Hp} {m a : Addr} {xs : List V} {kvs : List (Key × V)} (k : Kp [m] H H') (hm : H m = some (.dK kvs)) (h : SqT K H a xs) : SqT K H' a xs := by
  rcases h with (h | ⟨o, h⟩) | h
  · exact .inl (.inl (k.t _ _ h))
  · exact .inl (.inr ⟨o, k.k _ _ (by simp; intro z; subst z; rw [hm] at h; cases h) h⟩)
  · exact .inr h
def spDraw : Sp := fun vs H Q _ => ∃ (m c : Addr) (n b : Nat), vs = [.ref m, .int (n : Int)] ∧ DrawAt H m c b ∧ 0 < n ∧ n < 1000 ∧ b ≤ 1000000 ∧
  ∀ H' (i : Nat), Kp [m] H H' → DrawAt H' m c (b + 1) → i < n → Q (.int (i : Int)) H'
section
variable {P : Program} {w : World} {K : PySem.W.Frag} {mg : Str → Option Value} {base : Heap} {f C : Addr} {fd : FuncData}
theorem ok_law_draw (F : Fun K "_law_draw" "_law_draw" s_law_draw f fd) (T : Txt K mg) : FnOk P w K mg base CX0 1 f fd ["m", "limit"] spDraw := by
  refine F.ok sc_law_draw (fun vs H Q E h => ?_) (fun cdv A outer s H vs Q E hr h => ?_)
  · obtain ⟨m, c, n, b, rfl, _⟩ := h
    rfl
  obtain ⟨m, c, n, b, rfl, hm, hn, hn2, hb, q⟩ := h
  have nd := sc_law_draw.nd
  refine ⟨_, (pss_cons (ps_if (pt_cmpR op_gt (pe_dget (hu_of hr) (pv 0) pe_str (fun _ _ => rfl)) pe_int (nomark _)) (pss_cons (ps_set (i := 2) nd rfl (Or.inl rfl) (pe_op op_mod (pe_callTy call_int1 (by rfl) T.int bt_int (pa_cons (pe_dget (hu_of hr) (pv 0) pe_str (fun _ _ => rfl)) pa_nil)) (pv 1)))
      (pss_cons (ps_dput (hu_of hr) (pv 0) pe_str (pe_op op_fdiv (pe_dget (hu_of hr) (pv 0) pe_str (fun _ _ => rfl)) (pv 1)) rfl)
      (pss_one (ps_ret (pv 2))))) pss_nil)
      (pss_cons (ps_set (i := 3) nd rfl (Or.inl rfl) (pe_dget (hu_of hr) (pv 0) pe_str (fun _ _ => rfl)))
      (pss_cons (ps_dput (hu_of hr) (pv 0) pe_str (pe_op op_add (pv 3) pe_int) rfl)
      (pss_cons (ps_par (i := 4) (j := 5) rfl nd rfl rfl (by decide) rfl rfl (pa_cons (pe_dget (hu_of hr) (pv 0) pe_str (fun _ _ => rfl)) (pa_cons (pe_op op_add (pe_dget (hu_of hr) (pv 0) pe_str (fun _ _ => rfl)) (pe_op op_mul (pe_op op_mul pe_int (pv 3)) (pv 3))) pa_nil)) rfl)
      (pss_cons (ps_set (i := 6) nd rfl (Or.inl rfl) (pe_ix ix_list (pv 4) (pe_op op_mod (pe_callTy call_int1 (by rfl) T.int bt_int (pa_cons (pv 3) pa_nil)) (e_len T (pa_cons (pv 4) pa_nil))) (fun _ _ => rfl)))
      (pss_cons (ps_set (i := 7) nd rfl (Or.inl rfl) (pe_op op_mod (pe_callTy call_int1 (by rfl) T.int bt_int (pa_cons (pe_op op_add (pe_op op_mul (pv 6) (pe_op op_add (pe_op op_mul pe_int (pv 3)) pe_int)) (pv 5)) pa_nil)) pe_int))
      (pss_cons (ps_set (i := 7) nd rfl (Or.inl rfl) (pe_op op_mod (pe_callTy call_int1 (by rfl) T.int bt_int (pa_cons (pe_op op_add (pe_op op_add (pe_op op_mul (pv 7) (pv 7)) (pe_op op_mul pe_int (pv 3))) (pe_dget (hu_of hr) (pv 0) pe_str (fun _ _ => rfl))) pa_nil)) pe_int))
      (pss_one (ps_ret (pe_op op_mod (pe_op op_fdiv (pe_op op_mod (pe_callTy call_int1 (by rfl) T.int bt_int (pa_cons (pe_op op_add (pe_op op_mul (pv 7) pe_int) (pv 3)) pa_nil)) pe_int) pe_int) (pv 1))))))))))), ?_⟩
  obtain ⟨w, x, sp, cs, h1, h2, h3, h4, h5, h6, h7⟩ := hm
  have gw : DGet H m (.str "whole") (some (.int w)) := by rw [← kDraw_w w x sp c]; exact DGet.k (k := .inr "whole") h1
  refine ⟨_, rfl, m, _, rfl, gw, _, _, rfl, rfl, _, rfl, ?_⟩
  refine ite2 (fun hc => ?_) (fun hc => ?_)
  · have hw : 0 < w := of_decide_eq_true hc
    refine ⟨_, rfl, m, _, rfl, gw, .inl ⟨_, rfl, _, rfl, _, _, rfl, rfl, by omega, ?_⟩⟩
    have hp : DPut H m (.str "whole") (.int (w / n)) (upd H m (.dK (kDraw (w / n) x sp c))) := by
      rw [← kDraw_pw w x sp (w / n) c]; exact DPut.k (k := .inr "whole") h1 (small_lt (by simp [kDraw]))
    have kw : Kp [m] H (upd H m (.dK (kDraw (w / n) x sp c))) := (Kp.refl _ _).wr (by simp) h1 (by intro xs z; cases z)
    refine ⟨_, rfl, m, _, rfl, gw, _, rfl, _, _, rfl, rfl, ⟨by omega, by omega⟩, _, rfl, m, _, rfl, hp, _, rfl, ?_⟩
    have hi := Int.emod_nonneg w (show (n : Int) ≠ 0 by omega)
    have hi2 := Int.emod_lt_of_pos w (show (0 : Int) < n by omega)
    have := q _ (w % n).toNat kw ⟨w / n, x, sp, cs, upd_same, by rw [upd_ne (fun z => by subst z; rw [h1] at h2; cases h2)]; exact h2, h3, h4, h5, h6, by omega⟩ (by omega)
    rw [Int.toNat_of_nonneg hi] at this
    exact this
  · have gs : DGet H m (.str "spot") (some (.int sp)) := by rw [← kDraw_s w x sp c]; exact DGet.k (k := .inr "spot") h1
    refine ⟨_, rfl, m, _, rfl, gs, ?_⟩
    have hp : DPut H m (.str "spot") (.int ((sp : Int) + 1)) (upd H m (.dK (kDraw w x ((sp : Int) + 1) c))) := by
      rw [← kDraw_ps w x sp ((sp : Int) + 1) c]; exact DPut.k (k := .inr "spot") h1 (small_lt (by simp [kDraw]))
    have kw : Kp [m] H (upd H m (.dK (kDraw w x ((sp : Int) + 1) c))) := (Kp.refl _ _).wr (by simp) h1 (by intro xs z; cases z)
    refine ⟨_, rfl, _, _, rfl, rfl, _, rfl, m, _, rfl, hp, ?_⟩
    have hcm : c ≠ m := fun z => by subst z; rw [h1] at h2; cases h2
    have g1 : upd H m (.dK (kDraw w x ((sp : Int) + 1) c)) m = some (.dK (kDraw w x ((sp : Int) + 1) c)) := upd_same
    have g2 : upd H m (.dK (kDraw w x ((sp : Int) + 1) c)) c = some (.lst (cs.map V.int)) := by rw [upd_ne hcm]; exact h2
    have q' := fun i => q _ i kw ⟨w, x, sp + 1, cs, g1, g2, h3, h4, h5, h6, by omega⟩
    generalize upd H m (.dK (kDraw w x ((sp : Int) + 1) c)) = H1 at kw g1 g2 q' ⊢
    have gc : DGet H1 m (.str "cells") (some (.ref c)) := by rw [← kDraw_c w x ((sp : Int) + 1) c]; exact DGet.k (k := .inr "cells") g1
    have gx : DGet H1 m (.str "mixing") (some (.int x)) := by rw [← kDraw_x w x ((sp : Int) + 1) c]; exact DGet.k (k := .inr "mixing") g1
    have cl : 0 < cs.length := List.length_pos_iff.mpr h3
    have hmod := Int.emod_nonneg (sp : Int) (show (cs.length : Int) ≠ 0 by omega)
    have hmod2 := Int.emod_lt_of_pos (sp : Int) (show (0 : Int) < cs.length by omega)
    obtain ⟨cell, hcell⟩ : ∃ cell, cs[((sp : Int) % cs.length).toNat]? = some cell := ⟨_, List.getElem?_eq_getElem (by omega)⟩
    have hat : atI (cs.map V.int) ((sp : Int) % ((cs.map V.int).length : Int)) = some (.int cell) := by
      have e : (sp : Int) % ((cs.map V.int).length : Int) = ((((sp : Int) % cs.length).toNat : Nat) : Int) := by rw [List.length_map]; omega
      rw [e]
      exact atI_nat (by rw [List.getElem?_map, hcell]; rfl)
    refine ⟨_, rfl, m, _, rfl, gc, _, rfl, m, _, rfl, gx, _, rfl, _, _, rfl, rfl, .inr ⟨by omega, by omega⟩, _, rfl, _, _, rfl, rfl, .inr ⟨by omega, by omega⟩, _, _, rfl, rfl, _, _, rfl, ?_⟩
    refine ⟨_, rfl, _, rfl, .inl ⟨_, rfl, _, rfl, c, _, rfl, .inl (SqL.of g2), _, _, rfl, rfl, by rw [List.length_map]; omega, c, _, _, _, rfl, rfl, SqL.of g2, hat, ?_⟩⟩
    generalize hx2 : x + 40503 * (sp : Int) * (sp : Int) = ex
    refine ⟨_, rfl, _, rfl, _, _, rfl, rfl, .inr ⟨by omega, by omega⟩, _, _, rfl, rfl, _, _, rfl, rfl, .inr ⟨by omega, by omega⟩, _, rfl, _, _, rfl, rfl, .inl ⟨_, rfl, _, _, rfl, rfl, (show (0 : Int) < _ by decide), ?_⟩⟩
    have hb1 := Int.emod_nonneg (cell * (2 * (sp : Int) + 3) + ex) (show (2147483647 : Int) ≠ 0 by decide)
    have hb2 := Int.emod_lt_of_pos (cell * (2 * (sp : Int) + 3) + ex) (show (0 : Int) < 2147483647 by decide)
    generalize (cell * (2 * (sp : Int) + 3) + ex) % 2147483647 = b1 at hb1 hb2 ⊢
    refine ⟨_, rfl, _, rfl, _, _, rfl, rfl, .inr ⟨by omega, by omega⟩, _, rfl, _, _, rfl, rfl, .inr ⟨by omega, by omega⟩, _, _, rfl, rfl, _, rfl, m, _, rfl, gx, _, _, rfl, rfl, .inl ⟨_, rfl, _, _, rfl, rfl, (show (0 : Int) < _ by decide), ?_⟩⟩
    have hb3 := Int.emod_nonneg (b1 * b1 + 69621 * (sp : Int) + x) (show (2147483629 : Int) ≠ 0 by decide)
    have hb4 := Int.emod_lt_of_pos (b1 * b1 + 69621 * (sp : Int) + x) (show (0 : Int) < 2147483629 by decide)
    generalize (b1 * b1 + 69621 * (sp : Int) + x) % 2147483629 = b2 at hb3 hb4 ⊢
    refine ⟨_, rfl, _, _, rfl, rfl, .inr ⟨by decide, by decide⟩, _, rfl, _, _, rfl, rfl, .inl ⟨_, rfl, _, _, rfl, rfl, (show (0 : Int) < 2147483647 by decide), _, _, rfl, rfl, ⟨by decide, by decide⟩, _, rfl, _, _, rfl, rfl, by omega, ?_⟩⟩
    subst hx2
    dsimp only
    generalize (((cell * (2 * (sp : Int) + 3) + (x + 40503 * (sp : Int) * (sp : Int))) % 2147483647 * ((cell * (2 * (sp : Int) + 3) + (x + 40503 * (sp : Int) * (sp : Int))) % 2147483647) + 69621 * (sp : Int) + x) % 2147483629 * 48271 + (sp : Int)) % 2147483647 / 11 = z
    have hi := Int.emod_nonneg z (show (n : Int) ≠ 0 by omega)
    have hi2 := Int.emod_lt_of_pos z (show (0 : Int) < n by omega)
    have := q' (z % n).toNat (by omega)
    rw [Int.toNat_of_nonneg hi] at this
    exact this
def spOf (K : PySem.W.Frag) : Sp := fun vs H Q _ => ∃ (m c l : Addr) (xs : List V) (b : Nat), vs = [.ref m, .ref l] ∧ DrawAt H m c b ∧ (SqL K H l xs ∨ SqT K H l xs) ∧ 0 < xs.length ∧ xs.length < 1000 ∧ b ≤ 1000000 ∧
  ∀ H' (i : Nat) v, Kp [m] H H' → DrawAt H' m c (b + 1) → xs[i]? = some v → Q v H'
theorem ok_law_of (F : Fun K "_law_of" "_law_of" s_law_of f fd) (T : Txt K mg) (D_law_draw : Def P w K mg base "_law_draw" 1 ["m", "limit"] spDraw) : FnOk P w K mg base CX0 2 f fd ["m", "some"] (spOf K) := by
  refine F.ok sc_law_of (fun vs H Q E h => ?_) (fun cdv A outer s H vs Q E hr h => ?_)
  · obtain ⟨m, c, l, xs, b, rfl, _⟩ := h
    rfl
  obtain ⟨m, c, l, xs, b, rfl, hm, hl, h0, h1, hb, q⟩ := h
  have nd := sc_law_of.nd
  refine ⟨_, (pss_one (ps_ret (pe_ix ix_seq (pv 1) (e_fn D_law_draw (hr.mono (by omega)) (pa_cons (pv 0) (pa_cons (e_len T (pa_cons (pv 1) pa_nil)) pa_nil))) (fun _ _ => rfl)))), ?_⟩
  refine ⟨_, rfl, _, rfl, _, rfl, l, xs, rfl, hl, m, c, xs.length, b, rfl, hm, h0, h1, hb, fun H' i k hm' hi => ?_⟩
  have hv := List.getElem?_eq_getElem hi
  obtain ⟨w0, x0, s0, cs0, g1, _⟩ := hm
  rcases hl with hl | hl
  · exact .inl ⟨l, xs, _, _, rfl, rfl, hl.kpm k g1, atI_nat hv, q H' i _ k hm' hv⟩
  · exact .inr (.inl ⟨l, xs, _, _, rfl, rfl, hl.kpm k g1, atI_nat hv, q H' i _ k hm' hv⟩)
end
end N0

namespace N0
open PySem L2 PySem.Spec PyProof.Rows
mutual
/-- bools, ints, texts, tuples of such -/
def pl : PyData → Bool
  | .tuple ds => decide (ds.length ≤ 1000) && plAll ds
  | .bool _ => true
  | .int _ => true
  | .str _ => true
  | _ => false
def plAll : List PyData → Bool
  | [] => true
  | d :: ds => pl d && plAll ds
end
theorem plAll_at : ∀ {ds : List PyData} {i : Nat} {d : PyData}, plAll ds = true → ds[i]? = some d → pl d = true
  | d :: ds, 0, e, h, q => by simp at q; subst q; rw [plAll, Bool.and_eq_true] at h; exact h.1
  | d :: ds, i + 1, e, h, q => by rw [plAll, Bool.and_eq_true] at h; exact plAll_at (i := i) h.2 (by simpa using q)
theorem depthAll_at : ∀ {ds : List PyData} {i : Nat} {d : PyData}, ds[i]? = some d → d.depth ≤ PyData.depthAll ds
  | d :: ds, 0, e, q => by simp at q; subst q; rw [PyData.depthAll]; omega
  | d :: ds, i + 1, e, q => by have := depthAll_at (ds := ds) (i := i) (d := e) (by simpa using q); rw [PyData.depthAll]; omega
theorem DpAll.at {K : PySem.W.Frag} {H : Hp} : ∀ {vs : List V} {ds : List PyData} {i : Nat} {v : V} {d : PyData}, DpAll K H vs ds → vs[i]? = some v → ds[i]? = some d → Dp K H v d
  | _, _, 0, _, _, .cons h _, e1, e2 => by simp at e1 e2; subst e1; subst e2; exact h
  | _, _, i + 1, _, _, .cons _ h, e1, e2 => DpAll.at (i := i) h (by simpa using e1) (by simpa using e2)
theorem walk_zipT {K : PySem.W.Frag} {a b : Addr} {xs ys : List V} {n : Nat} (hn : n = min xs.length ys.length) : Walk (RZ.ItzT K a b) n (fun H => SqT K H a xs ∧ SqT K H b ys) (YPair (fun i => xs[i]?) (fun i => ys[i]?)) := by
  subst hn
  refine ⟨fun i _ hi q => ?_, fun _ q => ⟨xs, ys, q.1, q.2, by omega⟩, fun i H v H' _ q y => ?_⟩
  · have h1 : i < xs.length := by omega
    have h2 : i < ys.length := by omega
    exact ⟨xs, ys, xs[i], ys[i], q.1, q.2, by simp [h1], by simp [h2]⟩
  · obtain ⟨T, x, z, h1, h2, h3, h4, h5⟩ := y
    exact ⟨T, x, z, h1, h2, h3, h4 xs q.1, h5 ys q.2⟩
theorem iteF' {b : Bool} {A B : Prop} (hb : b = false) (h : B) : if b = true then A else B := by subst hb; exact iteF h
def spSame (K : PySem.W.Frag) (n : Nat) : Sp := fun vs H Q _ => ∃ (v w : V) (d : PyData), vs = [v, w] ∧ Dp K H v d ∧ Dp K H w d ∧ pl d = true ∧ d.depth < n ∧ ∀ H', Kp [] H H' → Q (.bl true) H'
section
variable {P : Program} {w : World} {K : PySem.W.Frag} {mg : Str → Option Value} {base : Heap} {f C : Addr} {fd : FuncData}
theorem ok_law_same {n : Nat} (F : Fun K "_law_same" "_law_same" s_law_same f fd) (T : Txt K mg) (D_law_same : Def P w K mg base "_law_same" n ["told", "due"] (spSame K n)) : FnOk P w K mg base CX0 (n + 1) f fd ["told", "due"] (spSame K (n + 1)) := by
  refine F.ok sc_law_same (fun vs H Q E h => ?_) (fun cdv A outer s H vs Q E hr h => ?_)
  · obtain ⟨v, u, d, rfl, _⟩ := h
    rfl
  obtain ⟨v, u, d, rfl, hv, hu, hp, hd, q⟩ := h
  have nd := sc_law_same.nd
  refine ⟨_, (pss_cons (ps_if (pt_val (e_isi T (pa_cons (pv 1) (pa_cons (e_ty T.tuple bt_tuple) pa_nil)))) (pss_cons (ps_if (PW.pt (pw_or (pt_not (pt_val (e_isi T (pa_cons (pv 0) (pa_cons (e_ty T.tuple bt_tuple) pa_nil))))) (pw_or1 (pt_cmpR op_ne (e_len T (pa_cons (pv 0) pa_nil)) (e_len T (pa_cons (pv 1) pa_nil)) (nomark _))))) (pss_one (ps_ret pe_bl)) pss_nil)
      (pss_one (ps_ret (pe_callB (cr_all rfl) (by rfl) T.all bt_all (pa_cons (pe_lc (own := [("one", 2), ("far", 3)]) (g := gTup K 2 (gCons (gName 2) (gCons (gName 3) gNil))) (tt := tYes) rfl nd (RZ.pi_zipA (by rfl) T.zip (pa_cons (pv 0) (pa_cons (pv 1) pa_nil))) (blkOk_by (N := N_law_same) (sc := defScope s_law_same) (by decide +kernel)) (fun _ _ _ _ _ => pg_tup rfl (pgs_cons (pg_name (i := 2) nd rfl (Or.inl rfl)) (pgs_cons (pg_name (i := 3) nd rfl (Or.inl rfl)) pgs_nil))) (fun _ _ _ _ _ => pts_nil) (fun _ _ _ _ _ => (e_fn D_law_same (hr.mono (by omega)) (pa_cons (pv 2) (pa_cons (pv 3) pa_nil))))) pa_nil))))) pss_nil)
      (pss_cons (ps_if (pt_val (e_isi T (pa_cons (pv 1) (pa_cons (e_ty T.list bt_list) pa_nil)))) (pss_cons (ps_if (PW.pt (pw_or (pt_not (pt_val (e_isi T (pa_cons (pv 0) (pa_cons (e_ty T.list bt_list) pa_nil))))) (pw_or1 (pt_cmpR op_ne (e_len T (pa_cons (pv 0) pa_nil)) (e_len T (pa_cons (pv 1) pa_nil)) (nomark _))))) (pss_one (ps_ret pe_bl)) pss_nil)
      (pss_one (ps_ret (pe_callB (cr_all rfl) (by rfl) T.all bt_all (pa_cons (pe_lc (own := [("one", 2), ("far", 3)]) (g := gTup K 2 (gCons (gName 2) (gCons (gName 3) gNil))) (tt := tYes) rfl nd (RZ.pi_zipA (by rfl) T.zip (pa_cons (pv 0) (pa_cons (pv 1) pa_nil))) (blkOk_by (N := N_law_same) (sc := defScope s_law_same) (by decide +kernel)) (fun _ _ _ _ _ => pg_tup rfl (pgs_cons (pg_name (i := 2) nd rfl (Or.inl rfl)) (pgs_cons (pg_name (i := 3) nd rfl (Or.inl rfl)) pgs_nil))) (fun _ _ _ _ _ => pts_nil) (fun _ _ _ _ _ => (e_fn D_law_same (hr.mono (by omega)) (pa_cons (pv 2) (pa_cons (pv 3) pa_nil))))) pa_nil))))) pss_nil)
      (pss_cons (ps_if (pt_val (e_isi T (pa_cons (pv 1) (pa_cons (e_ty T.bool bt_bool) pa_nil)))) (pss_one (ps_ret (pe_and (e_isi T (pa_cons (pv 0) (pa_cons (e_ty T.bool bt_bool) pa_nil))) (pe_one (pe_cmpR op_eq (pv 0) (pv 1) (nomark _)))))) pss_nil)
      (pss_cons (ps_if (pt_val (e_isi T (pa_cons (pv 1) (pa_cons (e_ty T.int bt_int) pa_nil)))) (pss_one (ps_ret (pe_and (e_isi T (pa_cons (pv 0) (pa_cons (e_ty T.int bt_int) pa_nil))) (pe_and (pe_not (e_isi T (pa_cons (pv 0) (pa_cons (e_ty T.bool bt_bool) pa_nil)))) (pe_one (pe_cmpR op_eq (pv 0) (pv 1) (nomark _))))))) pss_nil)
      (pss_cons (ps_if (pt_val (e_isi T (pa_cons (pv 1) (pa_cons (e_ty T.str bt_str) pa_nil)))) (pss_one (ps_ret (pe_and (e_isi T (pa_cons (pv 0) (pa_cons (e_ty T.str bt_str) pa_nil))) (pe_one (pe_cmpR op_eq (pv 0) (pv 1) (nomark _)))))) pss_nil)
      (pss_one (ps_ret (pe_and (pe_cmpR op_isN (pv 0) pe_non (nomark _)) (pe_one (pe_cmpR op_isN (pv 1) pe_non (nomark _))))))))))), ?_⟩
  refine ⟨_, rfl, _, _, _, _, _, rfl, .ty _, Dp.ty hu, kit_ty (kit_tuple d), _, rfl, ?_⟩
  cases d with
  | tuple ds =>
    refine iteT ?_
    cases hv with
    | @tup a xs _ ha hxs =>
    cases hu with
    | @tup b ys _ hb hys =>
    rw [pl, Bool.and_eq_true, decide_eq_true_iff] at hp
    obtain ⟨hp1, hp2⟩ := hp
    have l1 := dpAll_len hxs
    have l2 := dpAll_len hys
    refine ⟨_, rfl, _, _, _, _, _, rfl, .ty _, Dp.ty (.tup ha hxs), kit_ty (kit_tuple (.tuple ds)), _, rfl, ?_⟩
    refine iteF ?_
    refine ⟨_, rfl, a, xs, rfl, .inr ha, _, rfl, b, ys, rfl, .inr hb, rfl, _, rfl, ?_⟩
    refine iteF' (by rw [l1, l2]; simp) ?_
    refine ⟨_, rfl, _, rfl, a, b, xs, ys, rfl, .inr ⟨ha, hb, fun D hD => ?_⟩⟩
    refine lc_it (n := ds.length) (walk_zipT (xs := xs) (ys := ys) (n := ds.length) (by rw [l1, l2]; simp)) (fun i H' => Kp [] H H' ∧ H' D = some (.lst ((List.replicate i true).map V.bl))) ⟨Kp.new hD, upd_same⟩ (fun i H' _ h => ⟨N0.SqT.kp h.1 ha, N0.SqT.kp h.1 hb⟩) ?_ ?_
    · rintro i y H2 _ hi ⟨k2, hD2⟩ ⟨Tp, x, y, rfl, hTp, rfl, hx, hy⟩
      have k3 : Kp [] H2 (upd H2 Tp (.tup [x, y])) := Kp.new hTp
      have hdi := List.getElem?_eq_getElem hi
      have hx' : xs[i]? = some x := hx
      have hy' : ys[i]? = some y := hy
      refine ⟨Tp, _, rfl, tupT upd_same, rfl, _, _, rfl, _, _, rfl, rfl, rfl, ?_⟩
      have hD3 := k3.k _ _ (by simp) hD2
      generalize upd H2 Tp (.tup [x, y]) = H3 at k3 hD3 ⊢
      have k23 := k2.trans k3
      refine ⟨_, rfl, _, rfl, x, y, ds[i], rfl, Dp.kp k23 (DpAll.at hxs hx' hdi), Dp.kp k23 (DpAll.at hys hy' hdi), plAll_at hp2 hdi, ?_, fun H4 k4 => ?_⟩
      · have := depthAll_at hdi
        rw [PyData.depth] at hd; omega
      · refine ⟨_, k4.k _ _ (by simp) hD3, ?_, (k23.trans k4).put hD, ?_⟩
        · rw [List.length_map, List.length_replicate]
          exact small_lt (by omega)
        · rw [upd_same, List.replicate_succ', List.map_append]; rfl
    · rintro H2 ⟨k2, hD2⟩
      refine ⟨D, _, rfl, SqL.of hD2, ?_⟩
      have : (List.replicate ds.length true).all id = true := by simp
      rw [this]
      exact q _ k2
  | bool c =>
    refine iteF ⟨_, rfl, _, _, _, _, _, rfl, .ty _, Dp.ty hu, kit_ty (kit_list (.bool c)), _, rfl, iteF ⟨_, rfl, _, _, _, _, _, rfl, .ty _, Dp.ty hu, kit_ty (kit_bool (.bool c)), _, rfl, iteT ?_⟩⟩
    cases hv; cases hu
    refine ⟨_, rfl, _, _, _, _, _, rfl, .ty _, .base (.bl c), kit_ty (kit_bool (.bool c)), _, rfl, iteT ⟨_, rfl, _, rfl, rfl, ?_⟩⟩
    rw [decide_eq_true rfl]
    exact q _ (Kp.refl _ _)
  | int c =>
    refine iteF ⟨_, rfl, _, _, _, _, _, rfl, .ty _, Dp.ty hu, kit_ty (kit_list (.int c)), _, rfl, iteF ⟨_, rfl, _, _, _, _, _, rfl, .ty _, Dp.ty hu, kit_ty (kit_bool (.int c)), _, rfl, iteF ⟨_, rfl, _, _, _, _, _, rfl, .ty _, Dp.ty hu, kit_ty (kit_int (.int c)), _, rfl, iteT ?_⟩⟩⟩
    cases hv; cases hu
    refine ⟨_, rfl, _, _, _, _, _, rfl, .ty _, .base (.int c), kit_ty (kit_int (.int c)), _, rfl, iteT ⟨_, rfl, _, _, _, _, _, rfl, .ty _, .base (.int c), kit_ty (kit_bool (.int c)), _, rfl, _, rfl, iteT ⟨_, rfl, _, rfl, rfl, ?_⟩⟩⟩
    rw [decide_eq_true rfl]
    exact q _ (Kp.refl _ _)
  | str c =>
    refine iteF ⟨_, rfl, _, _, _, _, _, rfl, .ty _, Dp.ty hu, kit_ty (kit_list (.str c)), _, rfl, iteF ⟨_, rfl, _, _, _, _, _, rfl, .ty _, Dp.ty hu, kit_ty (kit_bool (.str c)), _, rfl, iteF ⟨_, rfl, _, _, _, _, _, rfl, .ty _, Dp.ty hu, kit_ty (kit_int (.str c)), _, rfl, iteF ⟨_, rfl, _, _, _, _, _, rfl, .ty _, Dp.ty hu, kit_ty (kit_str (.str c)), _, rfl, iteT ?_⟩⟩⟩⟩
    cases hv; cases hu
    refine ⟨_, rfl, _, _, _, _, _, rfl, .ty _, .base (.str c), kit_ty (kit_str (.str c)), _, rfl, iteT ⟨_, rfl, _, rfl, rfl, ?_⟩⟩
    rw [decide_eq_true rfl]
    exact q _ (Kp.refl _ _)
  | none => exact absurd hp (by simp [pl])
  | list _ => exact absurd hp (by simp [pl])
  | dict _ => exact absurd hp (by simp [pl])
end
end N0

namespace N0
open PySem L2 PySem.Spec PyProof.Rows
theorem joinL_nil : ∀ ps : List (List Nat), TL.joinL [] ps = ps.flatten
  | [] => rfl
  | [p] => by simp [TL.joinL]
  | p :: q :: r => by
    have := joinL_nil (q :: r)
    rw [TL.joinL, this]; simp
theorem join_tl (ys : List Str) : (Txt.join ("" : Str) ys).cps.toList = (ys.map fun y => y.cps.toList).flatten := by
  have e := TL.tl_join ("" : Str) ys
  rw [← TL.join_eq] at e
  have e0 : TL.tl ("" : Str) = [] := rfl
  rw [e0, joinL_nil] at e
  exact e
def sgn (c : Nat) : Bool := decide (c ∈ [97, 110, 111, 116, 122, 114])
theorem nm_name {s : Str} {c0 : Nat} {cs : List Nat} (h : s.cps.toList = c0 :: cs) (h0 : c0 < 101 ∧ 97 ≤ c0) (hc : ∀ c ∈ cs, sgn c = true) (hl : cs.length ≤ 3) : nmOk s = true := by
  have hlen : s.length = cs.length + 1 := by
    show s.cps.size = _
    rw [← Array.length_toList, h, List.length_cons]
  have hne : ∀ z : Str, s = z → z.cps.toList = c0 :: cs := fun z e => e ▸ h
  have h1 : ¬ s = "and" := fun e => by
    have := hne _ e
    rw [show ("and" : Str).cps.toList = [97, 110, 100] by decide +kernel] at this
    injection this with _ b
    have := hc 100 (by rw [← b]; simp)
    revert this; decide
  have hx : ∀ (z : Str) (c : Nat) (r : List Nat), z.cps.toList = c :: r → 101 ≤ c → ¬ s = z := fun z c r hz hc e => by
    have := hne _ e
    rw [hz] at this
    injection this with a _
    omega
  have h2 : ¬ s = "or" := hx _ 111 [114] (by decide +kernel) (by decide)
  have h3 : ¬ s = "not" := hx _ 110 [111, 116] (by decide +kernel) (by decide)
  have h4 : ¬ s = "yes" := hx _ 121 [101, 115] (by decide +kernel) (by decide)
  have h5 : ¬ s = "no" := hx _ 110 [111] (by decide +kernel) (by decide)
  have hin : inV (.str s) (words.map V.str) = false := by
    unfold inV
    rw [List.any_eq_false]
    intro y hy
    obtain ⟨z, hz, rfl⟩ := List.mem_map.mp hy
    have hq : ∀ z : Str, ¬ s = z → ¬ eqV (V.str z) (V.str s) = true := fun z hz e => hz (eq_of_beq (show (z == s) = true from e)).symm
    simp only [words, List.mem_cons, List.not_mem_nil, or_false] at hz
    rcases hz with rfl | rfl | rfl | rfl | rfl
    · exact hq _ h1
    · exact hq _ h2
    · exact hq _ h3
    · exact hq _ h4
    · exact hq _ h5
  have hsm : ∀ c, (97 ≤ c ∧ c ≤ 122) → c ∈ small.cps.toList := fun c hc => by
    have e : small.cps.toList = (List.range 26).map (97 + ·) := by decide +kernel
    rw [e]
    exact List.mem_map.mpr ⟨c - 97, List.mem_range.mpr (by omega), by omega⟩
  unfold nmOk
  rw [hin, hlen, h]
  simp only [Bool.and_eq_true, decide_eq_true_iff, Bool.not_false, List.all_eq_true]
  refine ⟨⟨⟨by omega, by omega⟩, trivial⟩, fun c hc' => hsm c ?_⟩
  rcases List.mem_cons.mp hc' with rfl | z
  · omega
  · have := hc c z
    simp [sgn] at this
    omega
theorem abc_at : ∀ n, n < 8 → ("abcdefgh" : Str).cps.toList[n]? = some (97 + n) := by decide +kernel
def SgS (z : Str) : Prop := ∃ c, z.cps.toList = [c] ∧ sgn c = true
theorem sg_at : ∀ {i : Nat} {v : V}, ([V.str "a", .str "n", .str "o", .str "t", .str "z", .str "r"] : List V)[i]? = some v → ∃ z, v = .str z ∧ SgS z
  | 0, _, h => by cases h; exact ⟨_, rfl, 97, by decide +kernel, rfl⟩
  | 1, _, h => by cases h; exact ⟨_, rfl, 110, by decide +kernel, rfl⟩
  | 2, _, h => by cases h; exact ⟨_, rfl, 111, by decide +kernel, rfl⟩
  | 3, _, h => by cases h; exact ⟨_, rfl, 116, by decide +kernel, rfl⟩
  | 4, _, h => by cases h; exact ⟨_, rfl, 122, by decide +kernel, rfl⟩
  | 5, _, h => by cases h; exact ⟨_, rfl, 114, by decide +kernel, rfl⟩
  | _ + 6, _, h => by simp at h
theorem sg_flat : ∀ {ws : List Str}, (∀ z ∈ ws, SgS z) → (∀ c ∈ (ws.map fun y => y.cps.toList).flatten, sgn c = true) ∧ ((ws.map fun y => y.cps.toList).flatten).length = ws.length ∧ (ws.map (·.length)).sum = ws.length
  | [], _ => ⟨fun c h => by simp at h, rfl, rfl⟩
  | z :: ws, h => by
    obtain ⟨h1, h2, h3⟩ := sg_flat fun y hy => h y (List.mem_cons_of_mem _ hy)
    obtain ⟨c, hz, hs⟩ := h z (List.mem_cons_self ..)
    have hl : z.length = 1 := by
      show z.cps.size = 1
      rw [← Array.length_toList, hz]; rfl
    rw [List.map_cons, List.flatten_cons, hz]
    refine ⟨fun d hd => ?_, by rw [List.length_append, h2, List.length_cons]; simp; omega, by rw [List.map_cons, List.sum_cons, h3, List.length_cons, hl]; omega⟩
    rcases List.mem_append.mp hd with q | q
    · rw [List.mem_singleton.mp q]; exact hs
    · exact h1 d q
def spLetters : Sp := fun vs H Q _ => ∃ (m c : Addr) (wide b : Nat), vs = [.ref m, .int (wide : Int)] ∧ DrawAt H m c b ∧ wide ≤ 4 ∧ b ≤ 900000 ∧
  ∀ H' a (ns : List Str), Kp [m] H H' → DrawAt H' m c (b + 4 * wide) → H' a = some (.tup (ns.map V.str)) → ns.length = wide → (∀ z ∈ ns, nmOk z = true) → Q (.ref a) H'
section
variable {P : Program} {w : World} {K : PySem.W.Frag} {mg : Str → Option Value} {base : Heap} {f C : Addr} {fd : FuncData}
theorem ok_law_letters (F : Fun K "_law_letters" "_law_letters" s_law_letters f fd) (T : Txt K mg) (D_law_draw : Def P w K mg base "_law_draw" 1 ["m", "limit"] spDraw) (D_law_of : Def P w K mg base "_law_of" 2 ["m", "some"] (spOf K)) :
    FnOk P w K mg base CX0 3 f fd ["m", "wide"] spLetters := by
  refine F.ok sc_law_letters (fun vs H Q E h => ?_) (fun cdv A outer s H vs Q E hr h => ?_)
  · obtain ⟨m, c, wide, b, rfl, _⟩ := h
    rfl
  obtain ⟨m, c, wide, b, rfl, hm, hw, hb, q⟩ := h
  have nd := sc_law_letters.nd
  refine ⟨_, (pss_cons (ps_set (i := 2) nd rfl (Or.inl rfl) (pe_lst pa_nil))
      (pss_cons (ps_for PassesOwn.never rfl (pi_range1 rfl T.range (pa_cons (pv 1) pa_nil)) (pg_name (i := 3) nd rfl (Or.inl rfl)) (pss_one (ps_expr (pe_bm PySem.F.plainAttrs_list PySem.F.slot_list_append PySem.F.type_list_append mt_append (pv 2) (pa_cons (pe_op op_add_str (pe_ix ix_str pe_str (pv 3) (fun _ _ => rfl)) (pe_join pe_str (pe_lc (own := [("turn", 4)]) (g := gName 4) (tt := tYes) rfl nd (pi_range1 rfl T.range (pa_cons (e_fn D_law_draw (hr.mono (by omega)) (pa_cons (pv 0) (pa_cons pe_int pa_nil))) pa_nil)) (blkOk_by (N := N_law_letters) (sc := defScope s_law_letters) (by decide +kernel)) (fun _ _ _ _ _ => pg_name (i := 4) nd rfl (Or.inl rfl)) (fun _ _ _ _ _ => pts_nil) (fun _ _ _ _ _ => (e_fn D_law_of (hr.mono (by omega)) (pa_cons (pv 0) (pa_cons (pe_lst (pa_cons pe_str (pa_cons pe_str (pa_cons pe_str (pa_cons pe_str (pa_cons pe_str (pa_cons pe_str pa_nil))))))) pa_nil))))))) pa_nil)))))
      (pss_one (ps_ret (pe_callTy call_tuple_of (by rfl) T.tuple bt_tuple (pa_cons (pv 2) pa_nil)))))), ?_⟩
  refine ⟨Nat.zero_le _, fun F0 hF => ?_⟩
  have kF : Kp [m] H (upd H F0 (.lst [])) := Kp.new hF
  have nF := hm.ne hF
  refine ⟨_, rfl, wide, rfl, by omega, by omega, for_it (n := wide) walk_range (fun i σ H' => ∃ (ns : List Str) (o3 : Option V), σ = [some (.ref m), some (.int (wide : Int)), some (.ref F0), o3, none] ∧ Kp [m] H H' ∧ DrawAt H' m c (b + 4 * i) ∧ H' F0 = some (.lst (ns.map V.str)) ∧ ns.length = i ∧ ∀ z ∈ ns, nmOk z = true)
    ⟨[], none, rfl, kF, hm.put nF, upd_same, rfl, fun z h => by cases h⟩ (fun _ _ _ _ _ => trivial) ?_ ?_⟩
  · rintro i y σ _ H1 hi ⟨ns, o3, rfl, k1, hm1, hF1, hns, hok⟩ ⟨rfl, rfl⟩
    have e0 : (0 : Int) + (i : Int) = (i : Int) := by omega
    dsimp only [gName]
    rw [e0]
    refine ⟨_, rfl, .inl ⟨rfl, _, SqL.of hF1⟩, _, rfl, _, (i : Int), 97 + i, rfl, rfl, small_le (by decide +kernel), atI_nat (abc_at i (by omega)), ⟨_, rfl⟩, _, rfl, m, c, 4, b + 4 * i, rfl, hm1, by decide, by decide, by omega, fun H2 j k2 hm2 hj => ⟨(j : Int), rfl, by omega, by omega, fun D hD => ?_⟩⟩
    have nD := hm2.ne hD
    refine lc_it (n := j) walk_range (fun t H' => Kp [m] H2 H' ∧ DrawAt H' m c (b + 4 * i + 1 + t) ∧ ∃ ws : List Str, H' D = some (.lst (ws.map V.str)) ∧ ws.length = t ∧ ∀ z ∈ ws, SgS z) ⟨Kp.new hD, hm2.put nD, [], upd_same, rfl, fun z h => by cases h⟩ (fun _ _ _ _ => trivial) ?_ ?_
    · rintro t y _ H3 ht ⟨k3, hm3, ws, hD3, hws, hsg⟩ ⟨rfl, rfl⟩
      refine ⟨rfl, _, rfl, small_le (by simp), fun l hl => ?_⟩
      have k4 : Kp [m] H3 (upd H3 l (.lst [V.str "a", .str "n", .str "o", .str "t", .str "z", .str "r"])) := Kp.new hl
      have hm4 := hm3.put (o := .lst [V.str "a", .str "n", .str "o", .str "t", .str "z", .str "r"]) (hm3.ne hl)
      have hD4 := k4.k _ _ (by simp [nD.1]) hD3
      refine ⟨m, c, l, _, b + 4 * i + 1 + t, rfl, hm4, .inl (SqL.of upd_same), by simp, by simp, by omega, fun H5 u v k5 hm5 hv => ?_⟩
      obtain ⟨z, rfl, hz⟩ := sg_at hv
      have k35 := (k3.trans k4).trans k5
      have hD5 := k5.k _ _ (by simp [nD.1]) hD4
      refine ⟨_, hD5, by rw [List.length_map]; exact small_lt (by omega), k35.put hD, hm5.put nD, ws ++ [z], ?_, by simp [hws], fun x hx => ?_⟩
      · rw [upd_same, List.map_append]; rfl
      · rcases List.mem_append.mp hx with h | h
        · exact hsg x h
        · rw [List.mem_singleton.mp h]; exact hz
    · rintro H3 ⟨k3, hm3, ws, hD3, hws, hsg⟩
      obtain ⟨g1, g2, g3⟩ := sg_flat hsg
      have hzz : (⟨#[97 + i]⟩ ++ Txt.join "" ws : Str).cps.toList = (97 + i) :: (ws.map fun y => y.cps.toList).flatten := by
        show (#[97 + i] ++ (Txt.join "" ws).cps).toList = _
        rw [Array.toList_append, join_tl]; rfl
      have hjl : (Txt.join "" ws).length ≤ 3 := by
        show (Txt.join "" ws).cps.size ≤ 3
        rw [← Array.length_toList, join_tl, g2]; omega
      refine ⟨_, D, ws, rfl, rfl, .inl (SqL.of hD3), ?_, _, _, rfl, rfl, ?_, ?_⟩
      · rw [g3]; simp only [show ("" : Str).length = 0 from rfl]; omega
      · exact small_le (by show 1 + _ ≤ _; omega)
      · have kF3 := (k2.trans k3).k _ _ (by simp [nF.1]) hF1
        refine ⟨F0, _, _, rfl, rfl, kF3, by rw [List.length_map]; exact small_lt (by omega), ?_⟩
        refine ⟨ns ++ [⟨#[97 + i]⟩ ++ Txt.join "" ws], _, rfl, ((k1.trans k2).trans k3).put hF, ?_, ?_, by simp [hns], fun z hz => ?_⟩
        · exact (hm3.put nF).mono (by omega)
        · rw [upd_same, List.map_append]; rfl
        · rcases List.mem_append.mp hz with h | h
          · exact hok z h
          · rw [List.mem_singleton.mp h]
            exact nm_name hzz (by omega) g1 (by omega)
  · rintro σ H1 ⟨ns, o3, rfl, k1, hm1, hF1, hns, hok⟩
    refine ⟨_, rfl, F0, _, rfl, .inl ⟨SqL.of hF1, fun p hp => q _ p ns (k1.add hp) (hm1.put (hm1.ne hp)) upd_same hns hok⟩⟩
end
end N0

namespace N0
open PySem L2 PySem.Spec PyProof.Rows
def szm : Nat → Nat
  | 0 => 1
  | d + 1 => 1 + 2 * szm d
theorem szm_pos (d : Nat) : 1 ≤ szm d := by cases d <;> simp [szm]
def spTerm (n : Nat) : Sp := fun vs H Q _ => ∃ (m c ls : Addr) (ns : List Str) (d b : Nat), vs = [.ref m, .ref ls, .int (d : Int)] ∧ DrawAt H m c b ∧ H ls = some (.tup (ns.map V.str)) ∧ 0 < ns.length ∧ ns.length < 1000 ∧ (∀ z ∈ ns, nmOk z = true) ∧ d < n ∧ b + 3 * szm d ≤ 900000 ∧
  ∀ H' v (t : Tm), Kp [m] H H' → DrawAt H' m c (b + 3 * szm d) → TmV H' t v → t.nok = true → t.dep ≤ d → t.size ≤ szm d → Q v H'
section
variable {P : Program} {w : World} {K : PySem.W.Frag} {mg : Str → Option Value} {base : Heap} {f C : Addr} {fd : FuncData}
theorem ok_law_term {n k : Nat} (hk : 2 ≤ k) (F : Fun K "_law_term" "_law_term" s_law_term f fd) (T : Txt K mg) (D_law_draw : Def P w K mg base "_law_draw" 1 ["m", "limit"] spDraw) (D_law_of : Def P w K mg base "_law_of" 2 ["m", "some"] (spOf K))
    (D_law_term : Def P w K mg base "_law_term" k ["m", "letters_so", "deep"] (spTerm n)) : FnOk P w K mg base CX0 (k + 1) f fd ["m", "letters_so", "deep"] (spTerm (n + 1)) := by
  refine F.ok sc_law_term (fun vs H Q E h => ?_) (fun cdv A outer s H vs Q E hr h => ?_)
  · obtain ⟨m, c, ls, ns, d, b, rfl, _⟩ := h
    rfl
  obtain ⟨m, c, ls, ns, d, b, rfl, hm, hls, hn0, hn1, hns, hd, hb, q⟩ := h
  have nd := sc_law_term.nd
  refine ⟨_, (pss_cons (ps_set (i := 3) nd rfl (Or.inl rfl) (pe_ifExp (pt_cmpR op_gt (pv 2) pe_int (nomark _)) (e_fn D_law_draw (hr.mono (by omega)) (pa_cons (pv 0) (pa_cons pe_int pa_nil))) pe_int))
      (pss_cons (ps_if (pt_cmpR op_lt (pv 3) pe_int (nomark _)) (pss_one (ps_ret (pe_tup (pa_cons pe_str (pa_cons (e_fn D_law_term (hr.mono (by omega)) (pa_cons (pv 0) (pa_cons (pv 1) (pa_cons (pe_op op_sub (pv 2) pe_int) pa_nil)))) pa_nil))))) pss_nil)
      (pss_cons (ps_if (pt_cmpR op_lt (pv 3) pe_int (nomark _)) (pss_one (ps_ret (pe_tup (pa_cons (pe_ifExp (pt_cmpR op_lt (pv 3) pe_int (nomark _)) pe_str pe_str) (pa_cons (e_fn D_law_term (hr.mono (by omega)) (pa_cons (pv 0) (pa_cons (pv 1) (pa_cons (pe_op op_sub (pv 2) pe_int) pa_nil)))) (pa_cons (e_fn D_law_term (hr.mono (by omega)) (pa_cons (pv 0) (pa_cons (pv 1) (pa_cons (pe_op op_sub (pv 2) pe_int) pa_nil)))) pa_nil)))))) pss_nil)
      (pss_cons (ps_set (i := 4) nd rfl (Or.inl rfl) (e_fn D_law_draw (hr.mono (by omega)) (pa_cons (pv 0) (pa_cons pe_int pa_nil))))
      (pss_one (ps_ret (pe_ifExp (pt_cmpR op_lt (pv 4) pe_int (nomark _)) (pe_ix ix_tup (pe_tup (pa_cons (pe_tup (pa_cons pe_str pa_nil)) (pa_cons (pe_tup (pa_cons pe_str pa_nil)) pa_nil))) (pv 4) (fun _ _ => rfl)) (pe_tup (pa_cons pe_str (pa_cons (e_fn D_law_of (hr.mono (by omega)) (pa_cons (pv 0) (pa_cons (pv 1) pa_nil))) pa_nil)))))))))), ?_⟩
  refine seqJ (fun σ H' => ∃ (kd b1 : Nat), σ = [some (.ref m), some (.ref ls), some (.int (d : Int)), some (.int (kd : Int)), none] ∧ Kp [m] H H' ∧ DrawAt H' m c b1 ∧ b1 ≤ b + 1 ∧ (d = 0 → b1 = b ∧ kd = 7)) (fun D' hD' => ?_) ?_
  · refine ⟨_, rfl, _, _, rfl, rfl, _, rfl, ?_⟩
    refine ite2 (fun hc => ?_) (fun hc => ?_)
    · have hd0 : 0 < d := by have := of_decide_eq_true hc; omega
      refine ⟨_, rfl, m, c, 8, b, rfl, hm, by decide, by decide, by have := szm_pos d; omega, fun H1 i k1 hm1 hi => ?_⟩
      exact hD' _ _ ⟨i, b + 1, rfl, k1, hm1, by omega, fun z => by omega⟩
    · have hd0 : d = 0 := by have : ¬ ((0 : Int) < (d : Int)) := fun z => hc (decide_eq_true z); omega
      exact hD' _ _ ⟨7, b, rfl, Kp.refl _ _, hm, by omega, fun _ => ⟨rfl, rfl⟩⟩
  rintro σ H1 ⟨kd, b1, rfl, k1, hm1, hb1, hd0⟩
  have hls1 := k1.t _ _ hls
  refine ⟨_, rfl, _, _, rfl, rfl, _, rfl, ?_⟩
  refine ite2 (fun hc => ?_) (fun hc => ?_)
  · have hk2 : kd < 2 := by have := of_decide_eq_true hc; omega
    cases d with
    | zero => exfalso; have := (hd0 rfl).2; omega
    | succ d =>
    have e1 : ((d + 1 : Nat) : Int) - 1 = (d : Int) := by omega
    refine ⟨_, rfl, _, rfl, _, rfl, _, _, rfl, rfl, ?_⟩
    dsimp only
    rw [e1]
    rw [szm] at hb q
    refine ⟨m, c, ls, ns, d, b1, rfl, hm1, hls1, hn0, hn1, hns, by omega, by omega, fun H2 v t k2 hm2 ht hok hdp hsz => ⟨small_le (by simp), fun p hp => ?_⟩⟩
    have kp : Kp [m] H2 (upd H2 p (.tup [.str "not", v])) := Kp.new hp
    refine q _ _ (.not t) ((k1.trans k2).trans kp) ((hm2.put (hm2.ne hp)).mono (by omega)) ⟨p, v, rfl, upd_same, ht.kp kp⟩ hok ?_ ?_
    · simp only [Tm.dep]; omega
    · simp only [Tm.size]; omega
  refine ⟨_, rfl, _, _, rfl, rfl, _, rfl, ?_⟩
  refine ite2 (fun hc2 => ?_) (fun hc2 => ?_)
  · have hk2 : kd < 7 := by have := of_decide_eq_true hc2; omega
    cases d with
    | zero => exfalso; have := (hd0 rfl).2; omega
    | succ d =>
    have e1 : ((d + 1 : Nat) : Int) - 1 = (d : Int) := by omega
    rw [szm] at hb q
    have fin : ∀ (wd : Str) (mk : Tm → Tm → Tm), (∀ H a x y t u, H a = some (.tup [.str wd, x, y]) → TmV H t x → TmV H u y → TmV H (mk t u) (.ref a)) → (∀ t u, (mk t u).nok = (t.nok && u.nok) ∧ (mk t u).dep = 1 + max t.dep u.dep ∧ (mk t u).size = 1 + t.size + u.size) →
        ∀ e : TE, (e = fun σ H Q => tCons (tCall (spTerm n) [] E0 (tCons (tVar 0) (tCons (tVar 1) (tCons (tOp (rI0 fun i j => .int (i - j)) (tVar 2) (tC (.int 1))) tNil)))) (tCons (tCall (spTerm n) [] E0 (tCons (tVar 0) (tCons (tVar 1) (tCons (tOp (rI0 fun i j => .int (i - j)) (tVar 2) (tC (.int 1))) tNil)))) tNil) σ H fun xs H2 =>
          (V.str wd :: xs).length ≤ sizeLine ∧ ∀ p, H2 p = none → Q (.ref p) (upd H2 p (.tup (V.str wd :: xs)))) →
        e [some (.ref m), some (.ref ls), some (.int ((d + 1 : Nat) : Int)), some (.int (kd : Int)), none] H1 Q := by
      rintro wd mk hmk hpr e rfl
      refine ⟨_, rfl, _, rfl, _, rfl, _, _, rfl, rfl, ?_⟩
      dsimp only
      rw [e1]
      refine ⟨m, c, ls, ns, d, b1, rfl, hm1, hls1, hn0, hn1, hns, by omega, by omega, fun H2 v t k2 hm2 ht hok hdp hsz => ?_⟩
      refine ⟨_, rfl, _, rfl, _, rfl, _, _, rfl, rfl, ?_⟩
      dsimp only
      rw [e1]
      refine ⟨m, c, ls, ns, d, b1 + 3 * szm d, rfl, hm2, k2.t _ _ hls1, hn0, hn1, hns, by omega, by omega, fun H3 v2 t2 k3 hm3 ht2 hok2 hdp2 hsz2 => ⟨small_le (by simp), fun p hp => ?_⟩⟩
      have kp : Kp [m] H3 (upd H3 p (.tup [.str wd, v, v2])) := Kp.new hp
      obtain ⟨p1, p2, p3⟩ := hpr t t2
      refine q _ _ (mk t t2) (((k1.trans k2).trans k3).trans kp) ((hm3.put (hm3.ne hp)).mono (by omega)) (hmk _ _ _ _ _ _ upd_same ((ht.kp k3).kp kp) (ht2.kp kp)) ?_ ?_ ?_
      · rw [p1, hok, hok2]; rfl
      · rw [p2]; omega
      · rw [p3]; omega
    refine ⟨_, rfl, _, _, rfl, rfl, _, rfl, ?_⟩
    refine ite2 (fun hc3 => ?_) (fun hc3 => ?_)
    · exact fin "and" .and (fun H a x y t u h h1 h2 => ⟨a, x, y, rfl, h, h1, h2⟩) (fun t u => ⟨rfl, by simp only [Tm.dep]; omega, by simp only [Tm.size]; omega⟩) _ rfl
    · exact fin "or" .or (fun H a x y t u h h1 h2 => ⟨a, x, y, rfl, h, h1, h2⟩) (fun t u => ⟨rfl, by simp only [Tm.dep]; omega, by simp only [Tm.size]; omega⟩) _ rfl
  have hsp := szm_pos d
  have hb2 : b1 + 2 ≤ b + 3 := by omega
  refine ⟨_, rfl, m, c, 9, b1, rfl, hm1, by decide, by decide, by omega, fun H2 i k2 hm2 hi => ?_⟩
  refine ⟨_, rfl, _, _, rfl, rfl, _, rfl, ?_⟩
  refine ite2 (fun hc4 => ?_) (fun hc4 => ?_)
  · have hi2 : i < 2 := by have := of_decide_eq_true hc4; omega
    refine ⟨small_le (by simp), fun p1 hp1 => ⟨small_le (by simp), fun p2 hp2 => ⟨small_le (by simp), fun p3 hp3 => ?_⟩⟩⟩
    have ky : Kp [m] H2 (upd H2 p1 (.tup [.str "yes"])) := Kp.new hp1
    have g1 : upd H2 p1 (.tup [.str "yes"]) p1 = some (.tup [.str "yes"]) := upd_same
    have hm3 := hm2.put (o := .tup [.str "yes"]) (hm2.ne hp1)
    generalize upd H2 p1 (.tup [.str "yes"]) = H3 at ky g1 hm3 hp2 hp3 ⊢
    have kn : Kp [m] H3 (upd H3 p2 (.tup [.str "no"])) := Kp.new hp2
    have g2 : upd H3 p2 (.tup [.str "no"]) p2 = some (.tup [.str "no"]) := upd_same
    have hm4 := hm3.put (o := .tup [.str "no"]) (hm3.ne hp2)
    have g1' := kn.t _ _ g1
    generalize upd H3 p2 (.tup [.str "no"]) = H4 at kn g1' g2 hm4 hp3 ⊢
    have kt : Kp [m] H4 (upd H4 p3 (.tup [.ref p1, .ref p2])) := Kp.new hp3
    have hm5 := hm4.put (o := .tup [.ref p1, .ref p2]) (hm4.ne hp3)
    have kk := (((k1.trans k2).trans ky).trans kn).trans kt
    rcases (show i = 0 ∨ i = 1 by omega) with rfl | rfl
    · exact ⟨_, rfl, p3, _, 0, _, rfl, rfl, tupT upd_same, atI_nat (j := 0) rfl, q _ _ .yes kk (hm5.mono (by omega)) ⟨p1, rfl, kt.t _ _ g1'⟩ rfl (Nat.zero_le _) hsp⟩
    · exact ⟨_, rfl, p3, _, 1, _, rfl, rfl, tupT upd_same, atI_nat (j := 1) rfl, q _ _ .no kk (hm5.mono (by omega)) ⟨p2, rfl, kt.t _ _ g2⟩ rfl (Nat.zero_le _) hsp⟩
  · refine ⟨_, rfl, _, rfl, m, c, ls, ns.map V.str, b1 + 1, rfl, hm2, .inr (tupT (k2.t _ _ hls1)), by rw [List.length_map]; exact hn0, by rw [List.length_map]; exact hn1, by omega, fun H3 j v k3 hm3 hv => ⟨small_le (by simp), fun p hp => ?_⟩⟩
    rw [List.getElem?_map] at hv
    obtain ⟨z, hz, rfl⟩ := Option.map_eq_some_iff.mp hv
    have kp : Kp [m] H3 (upd H3 p (.tup [.str "letter", .str z])) := Kp.new hp
    exact q _ _ (.letter z) (((k1.trans k2).trans k3).trans kp) ((hm3.put (hm3.ne hp)).mono (by omega)) ⟨p, rfl, upd_same⟩ (hns z (List.mem_of_getElem? hz)) (Nat.zero_le _) hsp
end
end N0

namespace N0
open PySem L2 PySem.Spec PyProof.Rows
theorem nm_strOk {s : Str} (h : nmOk s = true) : PyData.strOk s = true := by
  unfold nmOk at h
  simp only [Bool.and_eq_true, List.all_eq_true, decide_eq_true_eq] at h
  have e : small.cps.toList = (List.range 26).map (97 + ·) := by decide +kernel
  unfold PyData.strOk
  rw [← Array.all_toList, List.all_eq_true]
  intro c hc
  have := h.2 c hc
  rw [e] at this
  obtain ⟨i, hi, rfl⟩ := List.mem_map.mp this
  have := List.mem_range.mp hi
  exact decide_eq_true (by omega)
theorem lay_toD : ∀ t : Tm, t.nok = true → t.toD.canLay0 = true
  | .yes, _ => by simp only [Tm.toD, PyData.canLay0, PyData.canLayAll0]; decide +kernel
  | .no, _ => by simp only [Tm.toD, PyData.canLay0, PyData.canLayAll0]; decide +kernel
  | .letter s, h => by
    have := nm_strOk (s := s) h
    simp only [Tm.toD, PyData.canLay0, PyData.canLayAll0, this]; decide +kernel
  | .not a, h => by
    have := lay_toD a h
    simp only [Tm.toD, PyData.canLay0, PyData.canLayAll0, this]; decide +kernel
  | .and a b, h => by
    simp only [Tm.nok, Bool.and_eq_true] at h
    have h1 := lay_toD a h.1
    have h2 := lay_toD b h.2
    simp only [Tm.toD, PyData.canLay0, PyData.canLayAll0, h1, h2]; decide +kernel
  | .or a b, h => by
    simp only [Tm.nok, Bool.and_eq_true] at h
    have h1 := lay_toD a h.1
    have h2 := lay_toD b h.2
    simp only [Tm.toD, PyData.canLay0, PyData.canLayAll0, h1, h2]; decide +kernel
theorem depth_toD : ∀ t : Tm, t.toD.depth ≤ t.dep + 1
  | .yes => by simp [Tm.toD, PyData.depth, PyData.depthAll]
  | .no => by simp [Tm.toD, PyData.depth, PyData.depthAll]
  | .letter s => by simp [Tm.toD, PyData.depth, PyData.depthAll]
  | .not a => by
    have := depth_toD a
    simp only [Tm.toD, PyData.depth, PyData.depthAll, Tm.dep]; omega
  | .and a b => by
    have := depth_toD a
    have := depth_toD b
    simp only [Tm.toD, PyData.depth, PyData.depthAll, Tm.dep]; omega
  | .or a b => by
    have := depth_toD a
    have := depth_toD b
    simp only [Tm.toD, PyData.depth, PyData.depthAll, Tm.dep]; omega
def tlD : Tm → List PyData
  | .letter s => [.str s]
  | t => t.kids.map Tm.toD
theorem toD_tl (t : Tm) : t.toD = .tuple (.str t.wd :: tlD t) := by cases t <;> rfl
theorem eqv_toD : ∀ t u : Tm, PyData.eqv t.toD u.toD = decide (t = u) := by
  intro t
  induction t with
  | yes => intro u; by_cases h : Tm.kd .yes = u.kd
           · cases u <;> simp only [Tm.kd] at h <;> first | (exfalso; omega) | rfl | decide +kernel
           · rw [toD_tl, toD_tl u, PyData.eqv, PyData.eqvAll, PyData.eqv, beq_false_of_ne (fun e => h (wd_inj e)), Bool.false_and, decide_eq_false (fun e => h (congrArg Tm.kd e))]
  | no => intro u; by_cases h : Tm.kd .no = u.kd
          · cases u <;> simp only [Tm.kd] at h <;> first | (exfalso; omega) | rfl | decide +kernel
          · rw [toD_tl, toD_tl u, PyData.eqv, PyData.eqvAll, PyData.eqv, beq_false_of_ne (fun e => h (wd_inj e)), Bool.false_and, decide_eq_false (fun e => h (congrArg Tm.kd e))]
  | letter s =>
    intro u
    by_cases h : Tm.kd (.letter s) = u.kd
    · cases u <;> simp only [Tm.kd] at h <;> try (exfalso; omega)
      rename_i r
      simp only [Tm.toD, PyData.eqv, PyData.eqvAll, beq_self_eq_true, Bool.true_and, Bool.and_true, Tm.letter.injEq]
      by_cases e : s = r
      · subst e; simp
      · rw [beq_false_of_ne e, decide_eq_false e]
    · rw [toD_tl, toD_tl u, PyData.eqv, PyData.eqvAll, PyData.eqv, beq_false_of_ne (fun e => h (wd_inj e)), Bool.false_and, decide_eq_false (fun e => h (congrArg Tm.kd e))]
  | not a ih =>
    intro u
    by_cases h : Tm.kd (.not a) = u.kd
    · cases u <;> simp only [Tm.kd] at h <;> try (exfalso; omega)
      simp only [Tm.toD, PyData.eqv, PyData.eqvAll, beq_self_eq_true, Bool.true_and, Bool.and_true, ih, Tm.not.injEq]
    · rw [toD_tl, toD_tl u, PyData.eqv, PyData.eqvAll, PyData.eqv, beq_false_of_ne (fun e => h (wd_inj e)), Bool.false_and, decide_eq_false (fun e => h (congrArg Tm.kd e))]
  | and a b iha ihb =>
    intro u
    by_cases h : Tm.kd (.and a b) = u.kd
    · cases u <;> simp only [Tm.kd] at h <;> try (exfalso; omega)
      simp only [Tm.toD, PyData.eqv, PyData.eqvAll, beq_self_eq_true, Bool.true_and, Bool.and_true, iha, ihb, Tm.and.injEq, Bool.decide_and]
    · rw [toD_tl, toD_tl u, PyData.eqv, PyData.eqvAll, PyData.eqv, beq_false_of_ne (fun e => h (wd_inj e)), Bool.false_and, decide_eq_false (fun e => h (congrArg Tm.kd e))]
  | or a b iha ihb =>
    intro u
    by_cases h : Tm.kd (.or a b) = u.kd
    · cases u <;> simp only [Tm.kd] at h <;> try (exfalso; omega)
      simp only [Tm.toD, PyData.eqv, PyData.eqvAll, beq_self_eq_true, Bool.true_and, Bool.and_true, iha, ihb, Tm.or.injEq, Bool.decide_and]
    · rw [toD_tl, toD_tl u, PyData.eqv, PyData.eqvAll, PyData.eqv, beq_false_of_ne (fun e => h (wd_inj e)), Bool.false_and, decide_eq_false (fun e => h (congrArg Tm.kd e))]
def Good (t : Tm) : Prop := t.nok = true ∧ t.dep ≤ 40
theorem Good.sh {t : Tm} (h : Good t) : SeqAt.shaped t.toD = true := by
  unfold SeqAt.shaped
  rw [lay_toD t h.1, Bool.true_and]
  have := depth_toD t
  have := h.2
  exact decide_eq_true (by omega)
theorem shs : ∀ {ts : List Tm}, (∀ t ∈ ts, Good t) → PyData.canLayAll0 (ts.map Tm.toD) = true ∧ PyData.depthAll (ts.map Tm.toD) ≤ 41
  | [], _ => ⟨by simp [PyData.canLayAll0], by simp [PyData.depthAll]⟩
  | t :: ts, h => by
    obtain ⟨h1, h2⟩ := shs fun u hu => h u (List.mem_cons_of_mem _ hu)
    have g := h t (List.mem_cons_self ..)
    have := depth_toD t
    have := g.2
    rw [List.map_cons, PyData.canLayAll0, PyData.depthAll, lay_toD t g.1, h1]
    exact ⟨rfl, by omega⟩
theorem sh_list {ts : List Tm} (h : ∀ t ∈ ts, Good t) : SeqAt.shaped (.list (ts.map Tm.toD)) = true := by
  obtain ⟨h1, h2⟩ := shs h
  unfold SeqAt.shaped
  rw [PyData.canLay0, PyData.depth, h1, Bool.true_and]
  exact decide_eq_true (by omega)
theorem any_toD (ts : List Tm) (t : Tm) : ((ts.map Tm.toD).any fun z => PyData.eqv z t.toD) = decide (t ∈ ts) := by
  rw [List.any_map]
  by_cases h : t ∈ ts
  · rw [decide_eq_true h, List.any_eq_true]
    exact ⟨t, h, by show PyData.eqv t.toD t.toD = true; rw [eqv_toD]; exact decide_eq_true rfl⟩
  · rw [decide_eq_false h, List.any_eq_false]
    intro u hu
    show ¬ PyData.eqv u.toD t.toD = true
    rw [eqv_toD, decide_eq_true_iff]
    exact fun e => h (e ▸ hu)
theorem TmVs.dp {K : PySem.W.Frag} {H : Hp} : ∀ {ts : List Tm} {vs : List V}, TmVs H ts vs → DpAll K H vs (ts.map Tm.toD)
  | [], [], _ => .nil
  | _ :: _, _ :: _, ⟨h1, h2⟩ => .cons h1.dp (TmVs.dp h2)
theorem kid_dep {t k : Tm} (h : k ∈ t.kids) : k.dep < t.dep ∧ (t.nok = true → k.nok = true) ∧ k.size < t.size := by
  cases t <;> simp [Tm.kids] at h
  · subst h; simp only [Tm.dep, Tm.nok, Tm.size]; exact ⟨by omega, id, by omega⟩
  · simp only [Tm.dep, Tm.nok, Tm.size, Bool.and_eq_true]
    rcases h with rfl | rfl
    · exact ⟨by omega, fun z => z.1, by omega⟩
    · exact ⟨by omega, fun z => z.2, by omega⟩
  · simp only [Tm.dep, Tm.nok, Tm.size, Bool.and_eq_true]
    rcases h with rfl | rfl
    · exact ⟨by omega, fun z => z.1, by omega⟩
    · exact ⟨by omega, fun z => z.2, by omega⟩
theorem kids_size (t : Tm) : 1 + (t.kids.map fun k => (k.size : Int)).sum = (t.size : Int) := by
  cases t <;> simp only [Tm.kids, Tm.size, List.map_cons, List.map_nil, List.sum_cons, List.sum_nil] <;> omega
theorem subs_good {t : Tm} (h : Good t) : ∀ u ∈ t.subs, Good u := by
  induction t with
  | yes => intro u hu; simp [Tm.subs] at hu; subst hu; exact h
  | no => intro u hu; simp [Tm.subs] at hu; subst hu; exact h
  | letter s => intro u hu; simp [Tm.subs] at hu; subst hu; exact h
  | not a ih =>
    intro u hu
    have g : Good a := ⟨h.1, by have := h.2; simp only [Tm.dep] at this; omega⟩
    simp only [Tm.subs, List.mem_append, List.mem_cons, List.not_mem_nil, or_false] at hu
    rcases hu with hu | hu <;> first | exact ih g u hu | (subst hu; exact h)
  | and a b iha ihb =>
    intro u hu
    have h1 := h.1
    simp only [Tm.nok, Bool.and_eq_true] at h1
    have g : Good a := ⟨h1.1, by have := h.2; simp only [Tm.dep] at this; omega⟩
    have g' : Good b := ⟨h1.2, by have := h.2; simp only [Tm.dep] at this; omega⟩
    simp only [Tm.subs, List.mem_append, List.mem_cons, List.not_mem_nil, or_false] at hu
    rcases hu with (hu | hu) | hu <;> first | exact iha g u hu | exact ihb g' u hu | (subst hu; exact h)
  | or a b iha ihb =>
    intro u hu
    have h1 := h.1
    simp only [Tm.nok, Bool.and_eq_true] at h1
    have g : Good a := ⟨h1.1, by have := h.2; simp only [Tm.dep] at this; omega⟩
    have g' : Good b := ⟨h1.2, by have := h.2; simp only [Tm.dep] at this; omega⟩
    simp only [Tm.subs, List.mem_append, List.mem_cons, List.not_mem_nil, or_false] at hu
    rcases hu with (hu | hu) | hu <;> first | exact iha g u hu | exact ihb g' u hu | (subst hu; exact h)
def spKids : Sp := fun vs H Q _ => ∃ (v : V) (t : Tm), vs = [v] ∧ TmV H t v ∧ ∀ H' a ks, Kp [] H H' → H' a = some (.tup ks) → TmVs H' t.kids ks → Q (.ref a) H'
def spZ (f : Tm → Nat) (n : Nat) : Sp := fun vs H Q _ => ∃ (v : V) (t : Tm), vs = [v] ∧ TmV H t v ∧ t.dep < n ∧ ∀ H', Kp [] H H' → Q (.int (f t : Int)) H'
section
variable {P : Program} {w : World} {K : PySem.W.Frag} {mg : Str → Option Value} {base : Heap} {f C : Addr} {fd : FuncData}
theorem ok_law_inner (F : Fun K "_law_inner" "_law_inner" s_law_inner f fd) (T : Txt K mg) : FnOk P w K mg base CX0 1 f fd ["node"] spKids := by
  refine F.ok sc_law_inner (fun vs H Q E h => ?_) (fun cdv A outer s H vs Q E hr h => ?_)
  · obtain ⟨v, t, rfl, _⟩ := h
    rfl
  obtain ⟨v, t, rfl, ht, q⟩ := h
  have nd := sc_law_inner.nd
  refine ⟨_, (pss_one (ps_ret (pe_ifExp (pt_cmpR op_in_seq (pe_ix ix_tup (pv 0) pe_int (fun _ _ => rfl)) (pe_tup (pa_cons pe_str (pa_cons pe_str (pa_cons pe_str pa_nil)))) rfl) (pe_slice sl_tupA (pv 0) (po_some pe_int) po_none) (pe_tup pa_nil)))), ?_⟩
  obtain ⟨a, xs, ks, rfl, ha, hks, hkd⟩ := ht.node
  have hI : ∀ H1 : Hp, Kp [] H H1 → ∀ e : TE, e = tOp (rIxT K) (tVar 0) (tC (.int 0)) → EvE e (L2.start N_law_inner [.ref a]) H1 (.str t.wd) := by
    rintro H1 k1 e rfl
    exact .of fun Q k => ⟨_, rfl, a, _, 0, _, rfl, rfl, tupT (k1.t _ _ ha), atI_nat (j := 0) rfl, k⟩
  refine EvT.ifE (b := hasKids t.wd) (EvE.test (in_words (hI H (Kp.refl _ _) _ rfl) rfl (by decide) fun σ H Q q => q)) (fun e H1 k1 => ?_) (fun e H1 k1 => ?_)
  · rw [if_pos e] at hks
    subst hks
    refine ⟨_, rfl, _, rfl, a, _, rfl, tupT (k1.t _ _ ha), fun z => absurd z (cut_tail _ xs).2, fun _ p hp => q _ p xs (k1.add hp) ?_ ((hkd.kp k1).kp (Kp.new (S := []) hp))⟩
    rw [(cut_tail _ xs).1]
    exact upd_same
  · rw [if_neg (by rw [e]; decide)] at hks
    subst hks
    exact ⟨Nat.zero_le _, fun p hp => q _ p [] (k1.add hp) upd_same ((hkd.kp k1).kp (Kp.new (S := []) hp))⟩
theorem ok_law_size {n k : Nat} (hk : 1 ≤ k) (F : Fun K "_law_size" "_law_size" s_law_size f fd) (T : Txt K mg) (D_law_inner : Def P w K mg base "_law_inner" 1 ["node"] spKids) (D_law_size : Def P w K mg base "_law_size" k ["node"] (spZ Tm.size n)) :
    FnOk P w K mg base CX0 (k + 1) f fd ["node"] (spZ Tm.size (n + 1)) := by
  refine F.ok sc_law_size (fun vs H Q E h => ?_) (fun cdv A outer s H vs Q E hr h => ?_)
  · obtain ⟨v, t, rfl, _⟩ := h
    rfl
  obtain ⟨v, t, rfl, ht, hd, q⟩ := h
  have nd := sc_law_size.nd
  refine ⟨_, (pss_one (ps_ret (pe_op op_add pe_int (pe_callB (cr_sum rfl) (by rfl) T.sum bt_sum (pa_cons (pe_lc (own := [("one", 1)]) (g := gName 1) (tt := tYes) rfl nd (pi_tup (e_fn D_law_inner (hr.mono (by omega)) (pa_cons (pv 0) pa_nil))) (blkOk_by (N := N_law_size) (sc := defScope s_law_size) (by decide +kernel)) (fun _ _ _ _ _ => pg_name (i := 1) nd rfl (Or.inl rfl)) (fun _ _ _ _ _ => pts_nil) (fun _ _ _ _ _ => (e_fn D_law_size (hr.mono (by omega)) (pa_cons (pv 1) pa_nil)))) pa_nil))))), ?_⟩
  refine ⟨_, rfl, v, t, rfl, ht, fun H1 a ks k1 ha hV => ⟨a, rfl, ⟨_, tupT ha⟩, fun D hD => ?_⟩⟩
  have hl := hV.len
  have hkk : t.kids.length ≤ 2 := by cases t <;> simp [Tm.kids]
  refine lc_it (n := ks.length) walk_tup (fun i H' => Kp [] H1 H' ∧ H' D = some (.lst (((t.kids.take i).map fun k : Tm => (k.size : Int)).map V.int))) ⟨Kp.new hD, upd_same⟩ (fun i H' _ h => tupT (h.1.t _ _ ha)) ?_ ?_
  · rintro i y _ H2 hi ⟨k2, hD2⟩ ⟨rfl, hyi⟩
    obtain ⟨u, hu, huT⟩ := hV.get hyi
    have hum := List.mem_of_getElem? hu
    refine ⟨rfl, _, rfl, y, u, rfl, huT.kp k2, by have := (kid_dep hum).1; omega, fun H3 k3 => ⟨_, k3.k _ _ (by simp) hD2, ?_, (k2.trans k3).put hD, ?_⟩⟩
    · rw [List.length_map, List.length_map, List.length_take]; exact small_lt (by omega)
    · rw [upd_same, List.take_add_one, hu, List.map_append, List.map_append]; rfl
  · rintro H2 ⟨k2, hD2⟩
    rw [List.take_of_length_le (by omega)] at hD2
    refine ⟨D, _, rfl, SqL.of hD2, _, _, rfl, rfl, ?_⟩
    have := q _ (k1.trans k2)
    rw [← kids_size] at this
    exact this
theorem ok_law_deep {n k : Nat} (hk : 1 ≤ k) (F : Fun K "_law_deep" "_law_deep" s_law_deep f fd) (T : Txt K mg) (D_law_inner : Def P w K mg base "_law_inner" 1 ["node"] spKids) (D_law_deep : Def P w K mg base "_law_deep" k ["node"] (spZ Tm.dep n)) :
    FnOk P w K mg base CX0 (k + 1) f fd ["node"] (spZ Tm.dep (n + 1)) := by
  refine F.ok sc_law_deep (fun vs H Q E h => ?_) (fun cdv A outer s H vs Q E hr h => ?_)
  · obtain ⟨v, t, rfl, _⟩ := h
    rfl
  obtain ⟨v, t, rfl, ht, hd, q⟩ := h
  have nd := sc_law_deep.nd
  refine ⟨_, (pss_one (ps_ret (pe_ifExp (pt_cmpR (op_eqNilT hr.units0) (e_fn D_law_inner (hr.mono (by omega)) (pa_cons (pv 0) pa_nil)) (pe_tup pa_nil) (nomark _)) pe_int (pe_op op_add pe_int (pe_callB (cr_max rfl) (by rfl) T.max bt_max (pa_cons (pe_lc (own := [("one", 1)]) (g := gName 1) (tt := tYes) rfl nd (pi_tup (e_fn D_law_inner (hr.mono (by omega)) (pa_cons (pv 0) pa_nil))) (blkOk_by (N := N_law_deep) (sc := defScope s_law_deep) (by decide +kernel)) (fun _ _ _ _ _ => pg_name (i := 1) nd rfl (Or.inl rfl)) (fun _ _ _ _ _ => pts_nil) (fun _ _ _ _ _ => (e_fn D_law_deep (hr.mono (by omega)) (pa_cons (pv 1) pa_nil)))) pa_nil)))))), ?_⟩
  refine ⟨_, rfl, v, t, rfl, ht, fun H1 a ks k1 ha hV => ⟨Nat.zero_le _, fun p hp => ?_⟩⟩
  have kp : Kp [] H1 (upd H1 p (.tup [])) := Kp.new hp
  have hl := hV.len
  refine ⟨a, p, ks, rfl, rfl, tupT (kp.t _ _ ha), tupT upd_same, _, rfl, ?_⟩
  generalize upd H1 p (.tup []) = H2 at kp
  have k12 := k1.trans kp
  by_cases hn : ks = []
  · subst hn
    refine iteT ?_
    have h0 : t.dep = 0 := by cases t <;> simp [Tm.kids] at hl <;> rfl
    have := q _ k12
    rw [h0] at this
    exact this
  · refine iteF' (by cases ks <;> simp at hn ⊢) ?_
    refine ⟨_, rfl, v, t, rfl, ht.kp k12, fun H3 a2 ks2 k3 ha2 hV2 => ⟨a2, rfl, ⟨_, tupT ha2⟩, fun D hD => ?_⟩⟩
    have hl2 := hV2.len
    have hkk : t.kids.length ≤ 2 := by cases t <;> simp [Tm.kids]
    refine lc_it (n := ks2.length) walk_tup (fun i H' => Kp [] H3 H' ∧ H' D = some (.lst (((t.kids.take i).map fun k : Tm => (k.dep : Int)).map V.int))) ⟨Kp.new hD, upd_same⟩ (fun i H' _ h => tupT (h.1.t _ _ ha2)) ?_ ?_
    · rintro i y _ H4 hi ⟨k4, hD4⟩ ⟨rfl, hyi⟩
      obtain ⟨u, hu, huT⟩ := hV2.get hyi
      have hum := List.mem_of_getElem? hu
      refine ⟨rfl, _, rfl, y, u, rfl, huT.kp k4, by have := (kid_dep hum).1; omega, fun H5 k5 => ⟨_, k5.k _ _ (by simp) hD4, ?_, (k4.trans k5).put hD, ?_⟩⟩
      · rw [List.length_map, List.length_map, List.length_take]; exact small_lt (by omega)
      · rw [upd_same, List.take_add_one, hu, List.map_append, List.map_append]; rfl
    · rintro H4 ⟨k4, hD4⟩
      rw [List.take_of_length_le (by omega)] at hD4
      have hkne : t.kids ≠ [] := fun z => hn (by rw [z] at hl; exact List.length_eq_zero_iff.mp hl)
      refine ⟨D, _, rfl, SqL.of hD4, by rw [List.length_map]; exact List.length_pos_iff.mpr hkne, fun m hm hmx => ⟨_, _, rfl, rfl, ?_⟩⟩
      have e : (1 : Int) + m = (t.dep : Int) := by
        cases t with
        | yes => exact absurd rfl hkne
        | no => exact absurd rfl hkne
        | letter s => exact absurd rfl hkne
        | not a => simp [Tm.kids] at hm; simp only [Tm.dep]; omega
        | and a b =>
          simp only [Tm.kids, List.map_cons, List.map_nil, List.mem_cons, List.not_mem_nil, or_false] at hm hmx
          have h1 := hmx _ (.inl rfl)
          have h2 := hmx _ (.inr rfl)
          simp only [Tm.dep]; omega
        | or a b =>
          simp only [Tm.kids, List.map_cons, List.map_nil, List.mem_cons, List.not_mem_nil, or_false] at hm hmx
          have h1 := hmx _ (.inl rfl)
          have h2 := hmx _ (.inr rfl)
          simp only [Tm.dep]; omega
      have := q _ ((k12.trans k3).trans k4)
      dsimp only
      rw [e]
      exact this
end
end N0

namespace N0
open PySem L2 PySem.Spec PyProof.Rows
theorem subs_kids (t u : Tm) : u ∈ t.subs ↔ (∃ k ∈ t.kids, u ∈ k.subs) ∨ u = t := by
  cases t <;> simp [Tm.subs, Tm.kids, or_assoc]
theorem parts_len {ts : List Tm} {t : Tm} (hn : ts.Nodup) (hm : ∀ u, u ∈ ts ↔ u ∈ t.subs) : ts.Perm (addP [] t) ∧ ts.length ≤ t.size := by
  have hp : ts.Perm (addP [] t) := (List.perm_ext_iff_of_nodup hn (addP_nodup t List.nodup_nil)).mpr fun u => by
    rw [hm, addP_mem]; simp
  refine ⟨hp, ?_⟩
  have := addP_len t []
  rw [hp.length_eq]
  simpa using this
theorem subs_len : ∀ t : Tm, t.subs.length = t.size
  | .yes => rfl
  | .no => rfl
  | .letter _ => rfl
  | .not a => by simp only [Tm.subs, Tm.size, List.length_append, subs_len a, List.length_cons, List.length_nil] <;> omega
  | .and a b => by simp only [Tm.subs, Tm.size, List.length_append, subs_len a, subs_len b, List.length_cons, List.length_nil] <;> omega
  | .or a b => by simp only [Tm.subs, Tm.size, List.length_append, subs_len a, subs_len b, List.length_cons, List.length_nil] <;> omega
theorem nodup_le {α : Type} [DecidableEq α] {l l' : List α} (h : l.Nodup) (hs : ∀ u ∈ l, u ∈ l') : l.length ≤ l'.length := by
  induction l generalizing l' with
  | nil => exact Nat.zero_le _
  | cons a l ih =>
    rw [List.nodup_cons] at h
    have ha := hs a (List.mem_cons_self ..)
    have := ih (l' := l'.erase a) h.2 fun u hu => by
      have hne : u ≠ a := fun e => h.1 (e ▸ hu)
      exact (List.mem_erase_of_ne hne).mpr (hs u (List.mem_cons_of_mem _ hu))
    rw [List.length_erase_of_mem ha] at this
    have := List.length_pos_of_mem ha
    rw [List.length_cons]; omega
theorem hu65 {A : Around} {k : Nat} (hr : Room k A) : A.units + 65 < cLine := by have := hr.un; omega
def spAP (n : Nat) : Sp := fun vs H Q _ => ∃ (v : V) (t : Tm), vs = [v] ∧ TmV H t v ∧ t.dep < n ∧ Good t ∧ t.size ≤ 1000 ∧
  ∀ H' a lv (ts : List Tm), Kp [] H H' → H a = none → H' a = some (.lst lv) → TmVs H' ts lv → ts.Nodup → (∀ u, u ∈ ts ↔ u ∈ t.subs) → Q (.ref a) H'
section
variable {P : Program} {w : World} {K : PySem.W.Frag} {mg : Str → Option Value} {base : Heap} {f C : Addr} {fd : FuncData}
theorem ok_law_all_parts {n k : Nat} (hk : 1 ≤ k) (F : Fun K "_law_all_parts" "_law_all_parts" s_law_all_parts f fd) (T : Txt K mg) (D_law_inner : Def P w K mg base "_law_inner" 1 ["node"] spKids) (D_law_all_parts : Def P w K mg base "_law_all_parts" k ["node"] (spAP n)) :
    FnOk P w K mg base CX0 (k + 1) f fd ["node"] (spAP (n + 1)) := by
  refine F.ok sc_law_all_parts (fun vs H Q E h => ?_) (fun cdv A outer s H vs Q E hr h => ?_)
  · obtain ⟨v, t, rfl, _⟩ := h
    rfl
  obtain ⟨v, t, rfl, ht, hd, hg, hz, q⟩ := h
  have nd := sc_law_all_parts.nd
  refine ⟨_, (pss_cons (ps_set (i := 1) nd rfl (Or.inl rfl) (pe_lst pa_nil))
      (pss_cons (ps_for PassesOwn.never rfl (pi_tup (e_fn D_law_inner (hr.mono (by omega)) (pa_cons (pv 0) pa_nil))) (pg_name (i := 2) nd rfl (Or.inl rfl)) (pss_one (ps_for PassesOwn.never rfl (pi_list (e_fn D_law_all_parts (hr.mono (by omega)) (pa_cons (pv 2) pa_nil))) (pg_name (i := 3) nd rfl (Or.inl rfl)) (pss_one (ps_if (pt_cmpR (op_notInD (hu65 hr)) (pv 3) (pv 1) rfl) (pss_one (ps_expr (pe_bm PySem.F.plainAttrs_list PySem.F.slot_list_append PySem.F.type_list_append mt_append (pv 1) (pa_cons (pv 3) pa_nil)))) pss_nil)))))
      (pss_one (ps_ret (pe_op op_cat (pv 1) (pe_ifExp (pt_cmpR (op_notInD (hu65 hr)) (pv 0) (pv 1) rfl) (pe_lst (pa_cons (pv 0) pa_nil)) (pe_lst pa_nil))))))), ?_⟩
  refine ⟨Nat.zero_le _, fun F0 hF => ?_⟩
  have kF : Kp [] H (upd H F0 (.lst [])) := Kp.new hF
  refine ⟨_, rfl, v, t, rfl, ht.kp kF, fun H1 a ks k1 ha hV => ⟨a, rfl, ⟨_, tupT ha⟩, ?_⟩⟩
  have k01 := kF.trans k1
  have hF1 := k1.k _ _ (by simp) (show upd H F0 (.lst []) F0 = some (.lst []) from upd_same)
  generalize upd H F0 (.lst []) = H0 at kF k1
  have hl := hV.len
  have hfs : ∀ fs : List Tm, fs.Nodup → (∀ u ∈ fs, u ∈ t.subs) → fs.length ≤ 1000 := fun fs h1 h2 => by
    have := nodup_le h1 h2
    rw [subs_len] at this; omega
  refine for_it (n := ks.length) walk_tup (fun i σ H' => ∃ (lv : List V) (fs : List Tm) (o2 o3 : Option V), σ = [some v, some (.ref F0), o2, o3] ∧ Kp [] H H' ∧ H' a = some (.tup ks) ∧ TmVs H' t.kids ks ∧ H' F0 = some (.lst lv) ∧ TmVs H' fs lv ∧ fs.Nodup ∧ (∀ u, u ∈ fs ↔ ∃ k ∈ t.kids.take i, u ∈ k.subs))
    ⟨[], [], none, none, rfl, k01, ha, hV, hF1, trivial, List.nodup_nil, fun u => by simp⟩ (fun i σ H' _ ⟨_, _, _, _, _, _, h, _⟩ => tupT h) ?_ ?_
  · rintro i y σ _ H2 hi ⟨lv, fs, o2, o3, rfl, k2, ha2, hV2, hF2, hfV, hfn, hfm⟩ ⟨rfl, hyi⟩
    obtain ⟨u, hu, huT⟩ := hV2.get hyi
    have hum := List.mem_of_getElem? hu
    obtain ⟨hkd, hkn, hks⟩ := kid_dep hum
    have hug : Good u := ⟨hkn hg.1, by have := hg.2; omega⟩
    have husub : ∀ x ∈ u.subs, x ∈ t.subs := fun x hx => (subs_kids t x).mpr (.inl ⟨u, hum, hx⟩)
    refine ⟨_, rfl, y, u, rfl, huT, by omega, hug, by omega, fun H3 b pv ps k3 hb0 hb hpV hpn hpm => ⟨b, rfl, ⟨_, SqL.of hb⟩, ?_⟩⟩
    have hbF : b ≠ F0 := fun z => by rw [z, hF2] at hb0; cases hb0
    have hpl := hpV.len
    refine for_it (n := pv.length) walk_list (fun j σ H' => ∃ (lv : List V) (fs' : List Tm) (o3 : Option V), σ = [some v, some (.ref F0), some y, o3] ∧ Kp [] H H' ∧ H' a = some (.tup ks) ∧ TmVs H' t.kids ks ∧ H' b = some (.lst pv) ∧ TmVs H' ps pv ∧ H' F0 = some (.lst lv) ∧ TmVs H' fs' lv ∧ fs'.Nodup ∧ (∀ u, u ∈ fs' ↔ u ∈ fs ∨ u ∈ ps.take j))
      ⟨lv, fs, o3, rfl, k2.trans k3, k3.t _ _ ha2, hV2.kp k3, hb, hpV, k3.k _ _ (by simp) hF2, hfV.kp k3, hfn, fun u => by simp⟩ (fun j σ H' _ ⟨_, _, _, _, _, _, _, h, _⟩ => SqL.of h) ?_ ?_
    · rintro j x σ _ H4 hj ⟨lv4, fs4, o3, rfl, k4, ha4, hV4, hb4, hpV4, hF4, hfV4, hfn4, hfm4⟩ ⟨rfl, hxj⟩
      obtain ⟨u4, hu4, hu4T⟩ := hpV4.get hxj
      have hu4m := List.mem_of_getElem? hu4
      have hu4s := (hpm u4).mp hu4m
      have hfsub : ∀ z ∈ fs4, z ∈ t.subs := fun z hz => by
        rcases (hfm4 z).mp hz with h | h
        · obtain ⟨k', hk', hzk⟩ := (hfm z).mp h
          exact (subs_kids t z).mpr (.inl ⟨k', List.mem_of_mem_take hk', hzk⟩)
        · exact husub z ((hpm z).mp (List.mem_of_mem_take h))
      have etk : ps.take (j + 1) = ps.take j ++ [u4] := by rw [List.take_add_one, hu4]; rfl
      refine ⟨_, rfl, _, rfl, u4.toD, fs4.map Tm.toD, hu4T.dp, .lst (SqL.of hF4) hfV4.dp, (subs_good hug u4 hu4s).sh, sh_list fun z hz => subs_good hg z (hfsub z hz), _, rfl, ?_⟩
      rw [any_toD]
      refine ite2 (fun hc => ?_) (fun hc => ?_)
      · have hni : u4 ∉ fs4 := by simpa using hc
        refine ⟨_, rfl, .inl ⟨rfl, _, SqL.of hF4⟩, _, rfl, F0, lv4, _, rfl, rfl, hF4, ?_, ?_⟩
        · have := hfV4.len; have := hfs _ hfn4 hfsub; exact small_lt (by omega)
        · have kw : Kp [F0] H4 (upd H4 F0 (.lst (lv4 ++ [x]))) := (Kp.refl _ _).wr (by simp) hF4 (by intro xs z; cases z)
          refine ⟨_, fs4 ++ [u4], _, rfl, k4.put hF, kw.t _ _ ha4, hV4.kp kw, by rw [upd_ne hbF]; exact hb4, hpV4.kp kw, upd_same, (hfV4.kp kw).snoc (hu4T.kp kw), ?_, fun z => ?_⟩
          · rw [List.nodup_append]
            exact ⟨hfn4, List.nodup_cons.mpr ⟨by simp, List.nodup_nil⟩, fun z hz w hw => by rw [List.mem_singleton.mp hw]; exact fun e => hni (e ▸ hz)⟩
          · rw [etk, List.mem_append, List.mem_append, hfm4, List.mem_singleton, or_assoc]
      · have hin : u4 ∈ fs4 := by simpa using hc
        refine ⟨lv4, fs4, _, rfl, k4, ha4, hV4, hb4, hpV4, hF4, hfV4, hfn4, fun z => ?_⟩
        rw [etk, List.mem_append, ← or_assoc, ← hfm4, List.mem_singleton]
        exact ⟨.inl, fun h => h.elim id fun e => e ▸ hin⟩
    · rintro σ H4 ⟨lv4, fs4, o3, rfl, k4, ha4, hV4, hb4, hpV4, hF4, hfV4, hfn4, hfm4⟩
      refine ⟨lv4, fs4, _, _, rfl, k4, ha4, hV4, hF4, hfV4, hfn4, fun z => ?_⟩
      rw [hfm4, List.take_of_length_le (by omega), hpm, hfm, List.take_add_one, hu]
      constructor
      · rintro (⟨k', h1, h2⟩ | h)
        · exact ⟨k', List.mem_append_left _ h1, h2⟩
        · exact ⟨u, List.mem_append_right _ (List.mem_singleton.mpr rfl), h⟩
      · rintro ⟨k', h1, h2⟩
        rcases List.mem_append.mp h1 with h | h
        · exact .inl ⟨k', h, h2⟩
        · rw [List.mem_singleton.mp h] at h2
          exact .inr h2
  · rintro σ H2 ⟨lv, fs, o2, o3, rfl, k2, ha2, hV2, hF2, hfV, hfn, hfm⟩
    rw [List.take_of_length_le (by omega)] at hfm
    have hfsub : ∀ z ∈ fs, z ∈ t.subs := fun z hz => (subs_kids t z).mpr (.inl ((hfm z).mp hz))
    have ht2 := ht.kp k2
    refine ⟨_, rfl, _, rfl, _, rfl, t.toD, fs.map Tm.toD, ht2.dp, .lst (SqL.of hF2) hfV.dp, hg.sh, sh_list fun z hz => subs_good hg z (hfsub z hz), _, rfl, ?_⟩
    have hlen := hfV.len
    have hle := hfs _ hfn hfsub
    rw [any_toD]
    refine ite2 (fun hc => ?_) (fun hc => ?_)
    · have hni : t ∉ fs := by simpa using hc
      refine ⟨_, rfl, small_le (by simp), fun l hl2 => ?_⟩
      have kl : Kp [] H2 (upd H2 l (.lst [v])) := Kp.new hl2
      refine ⟨F0, l, lv, [v], rfl, rfl, kl.k _ _ (by simp) hF2, upd_same, small_le (by simp; omega), fun p hp => ?_⟩
      have kp : Kp [] (upd H2 l (.lst [v])) (upd (upd H2 l (.lst [v])) p (.lst (lv ++ [v]))) := Kp.new hp
      refine q _ p _ (fs ++ [t]) ((k2.trans kl).trans kp) ((k2.trans kl).n _ hp) upd_same (((hfV.kp kl).kp kp).snoc ((ht2.kp kl).kp kp)) ?_ fun u => ?_
      · rw [List.nodup_append]
        exact ⟨hfn, List.nodup_cons.mpr ⟨by simp, List.nodup_nil⟩, fun z hz w hw => by rw [List.mem_singleton.mp hw]; exact fun e => hni (e ▸ hz)⟩
      · rw [List.mem_append, List.mem_singleton, subs_kids, hfm]
    · have hin : t ∈ fs := by simpa using hc
      refine ⟨Nat.zero_le _, fun l hl2 => ?_⟩
      have kl : Kp [] H2 (upd H2 l (.lst [])) := Kp.new hl2
      refine ⟨F0, l, lv, [], rfl, rfl, kl.k _ _ (by simp) hF2, upd_same, small_le (by simp; omega), fun p hp => ?_⟩
      have kp : Kp [] (upd H2 l (.lst [])) (upd (upd H2 l (.lst [])) p (.lst (lv ++ []))) := Kp.new hp
      refine q _ p lv fs ((k2.trans kl).trans kp) ((k2.trans kl).n _ hp) (by rw [upd_same, List.append_nil]) ((hfV.kp kl).kp kp) hfn fun u => ?_
      rw [subs_kids, hfm]
      exact ⟨.inl, fun h => h.elim id fun e => by rw [e]; exact (hfm t).mp hin⟩
def spNms : Sp := fun vs H Q _ => ∃ (v : V) (t : Tm), vs = [v] ∧ TmV H t v ∧ t.dep < 8 ∧ Good t ∧ t.size ≤ 1000 ∧ (lets (addP [] t)).length < 64 ∧
  ∀ H' a ys, Kp [] H H' → H' a = some (.tup (ys.map V.str)) → ys.Perm (lets (addP [] t)) → sortedS ys = true → Q (.ref a) H'
theorem ok_law_names_in {k : Nat} (hk : 1 ≤ k) (F : Fun K "_law_names_in" "_law_names_in" s_law_names_in f fd) (T : Txt K mg) (D_law_all_parts : Def P w K mg base "_law_all_parts" k ["node"] (spAP 8)) :
    FnOk P w K mg base CX0 (k + 1) f fd ["node"] spNms := by
  refine F.ok sc_law_names_in (fun vs H Q E h => ?_) (fun cdv A outer s H vs Q E hr h => ?_)
  · obtain ⟨v, t, rfl, _⟩ := h
    rfl
  obtain ⟨v, t, rfl, ht, hd, hg, hz, h64, q⟩ := h
  have nd := sc_law_names_in.nd
  refine ⟨_, (pss_cons (ps_set (i := 1) nd rfl (Or.inl rfl) (pe_lst pa_nil))
      (pss_cons (ps_for PassesOwn.never rfl (pi_list (e_fn D_law_all_parts (hr.mono (by omega)) (pa_cons (pv 0) pa_nil))) (pg_name (i := 2) nd rfl (Or.inl rfl)) (pss_one (ps_if (pt_cmpR op_eq (pe_ix ix_tup (pv 2) pe_int (fun _ _ => rfl)) pe_str (nomark _)) (pss_one (ps_expr (pe_bm PySem.F.plainAttrs_list PySem.F.slot_list_append PySem.F.type_list_append mt_append (pv 1) (pa_cons (pe_ix ix_tup (pv 2) pe_int (fun _ _ => rfl)) pa_nil)))) pss_nil)))
      (pss_one (ps_ret (pe_callTy call_tuple_of (by rfl) T.tuple bt_tuple (pa_cons (pe_callB cr_sortedS (by rfl) T.sorted bt_sorted (pa_cons (pv 1) pa_nil)) pa_nil)))))), ?_⟩
  refine ⟨Nat.zero_le _, fun F0 hF => ?_⟩
  have kF : Kp [] H (upd H F0 (.lst [])) := Kp.new hF
  have hF0 : upd H F0 (.lst []) F0 = some (.lst []) := upd_same
  generalize upd H F0 (.lst []) = H0 at kF hF0
  refine ⟨_, rfl, v, t, rfl, ht.kp kF, hd, hg, hz, fun H1 a lv ts k1 ha0 ha hV hn hm => ⟨a, rfl, ⟨_, SqL.of ha⟩, ?_⟩⟩
  have hF1 := k1.k _ _ (by simp) hF0
  have haF : a ≠ F0 := fun z => by rw [z, hF0] at ha0; cases ha0
  obtain ⟨hperm, htl⟩ := parts_len hn hm
  have hl := hV.len
  refine for_it (n := lv.length) walk_list (fun i σ H' => ∃ (o2 : Option V), σ = [some v, some (.ref F0), o2] ∧ Kp [F0] H1 H' ∧ H' F0 = some (.lst ((lets (ts.take i)).map V.str)))
    ⟨none, rfl, Kp.refl _ _, hF1⟩ (fun i σ H' _ ⟨_, _, k, _⟩ => SqL.of (k.k _ _ (by simp [haF]) ha)) ?_ ?_
  · rintro i y σ _ H2 hi ⟨o2, rfl, k2, hF2⟩ ⟨rfl, hyi⟩
    obtain ⟨u, hu, huT⟩ := (hV.kp k2).get hyi
    obtain ⟨b, xs, ks, rfl, hb, _, _⟩ := huT.node
    have etk : ts.take (i + 1) = ts.take i ++ [u] := by rw [List.take_add_one, hu]; rfl
    refine ⟨_, rfl, b, _, 0, _, rfl, rfl, tupT hb, atI_nat (j := 0) rfl, rfl, _, rfl, ?_⟩
    refine ite2 (fun hc => ?_) (fun hc => ?_)
    · have hkd := wd_letter.mp hc
      obtain ⟨z, rfl⟩ : ∃ z, u = .letter z := by cases u <;> simp [Tm.kd] at hkd; exact ⟨_, rfl⟩
      obtain ⟨b', e', hb'⟩ := huT
      cases e'
      refine ⟨_, rfl, .inl ⟨rfl, _, SqL.of hF2⟩, _, rfl, b, _, 1, _, rfl, rfl, tupT hb', atI_nat (j := 1) rfl, F0, _, _, rfl, rfl, hF2, ?_, _, rfl, k2.wr (by simp) hF2 (by intro xs z; cases z), ?_⟩
      · rw [List.length_map]; have := lets_len (ts.take i); rw [List.length_take] at this; exact small_lt (by omega)
      · rw [upd_same, etk]; unfold lets; rw [List.filterMap_append, List.map_append]; rfl
    · refine ⟨_, rfl, k2, ?_⟩
      have hnn : u.nm = none := by
        cases u <;> first | rfl | exact absurd (wd_letter.mpr rfl) hc
      rw [hF2, etk]; unfold lets; rw [List.filterMap_append, List.filterMap_cons, hnn]; simp
  · rintro σ H2 ⟨o2, rfl, k2, hF2⟩
    rw [List.take_of_length_le (by omega)] at hF2
    have hlp : (lets ts).Perm (lets (addP [] t)) := hperm.filterMap _
    have k02 : Kp [] H H2 := (kF.trans k1).cut k2 (by simp [hF])
    exact ⟨_, rfl, F0, lets ts, rfl, SqL.of hF2, by rw [hlp.length_eq]; exact h64, fun ys p hp hso hfr => ⟨p, _, rfl, .inl ⟨SqL.of upd_same, fun p2 hp2 => q _ p2 ys ((k02.add hfr).add hp2) upd_same (hp.trans hlp) hso⟩⟩⟩
end
end N0

namespace N0
open PySem L2 PySem.Spec PyProof.Rows
theorem lt_at {t u x y : Tm} {i : Nat} (hk : t.k2 = u.k2) (h2 : t.kd ≠ 2) (hx : t.kids[i]? = some x) (hy : u.kids[i]? = some y) (hpre : ∀ j, j < i → t.kids[j]? = u.kids[j]?) (hne : x ≠ y) : Tm.lt t u = Tm.lt x y := by
  have hkd := (Tm.k2_kd hk).1
  cases t <;> cases u <;> simp only [Tm.kd] at hkd h2 <;> first | (exfalso; omega) | (simp [Tm.kids] at hx; done) | skip
  · rename_i a b
    cases i with
    | zero =>
      simp [Tm.kids] at hx hy; subst hx; subst hy
      rw [Tm.lt_not' hk, if_neg hne]
    | succ i => simp [Tm.kids] at hx
  · rename_i a a' b b'
    rw [Tm.lt_and hk]
    match i, hx, hy, hpre with
    | 0, hx, hy, _ =>
      simp [Tm.kids] at hx hy; subst hx; subst hy
      rw [if_neg hne]
    | 1, hx, hy, hpre =>
      have := hpre 0 (by decide)
      simp [Tm.kids] at hx hy this; subst hx; subst hy
      rw [if_pos this, if_neg hne]
    | i + 2, hx, _, _ => simp [Tm.kids] at hx
  · rename_i a a' b b'
    rw [Tm.lt_or hk]
    match i, hx, hy, hpre with
    | 0, hx, hy, _ =>
      simp [Tm.kids] at hx hy; subst hx; subst hy
      rw [if_neg hne]
    | 1, hx, hy, hpre =>
      have := hpre 0 (by decide)
      simp [Tm.kids] at hx hy this; subst hx; subst hy
      rw [if_pos this, if_neg hne]
    | i + 2, hx, _, _ => simp [Tm.kids] at hx
theorem lt_all {t u : Tm} (hk : t.k2 = u.k2) (h2 : t.kd ≠ 2) (hpre : ∀ j, j < t.kids.length → t.kids[j]? = u.kids[j]?) : Tm.lt t u = false := by
  have hkd := (Tm.k2_kd hk).1
  have e : t = u := by
    cases t <;> cases u <;> simp only [Tm.kd] at hkd h2 <;> first | (exfalso; omega) | rfl | skip
    · have := hpre 0 (by simp [Tm.kids])
      simp [Tm.kids] at this; rw [this]
    · have h0 := hpre 0 (by simp [Tm.kids])
      have h1 := hpre 1 (by simp [Tm.kids])
      simp [Tm.kids] at h0 h1; rw [h0, h1]
    · have h0 := hpre 0 (by simp [Tm.kids])
      have h1 := hpre 1 (by simp [Tm.kids])
      simp [Tm.kids] at h0 h1; rw [h0, h1]
  rw [e, Tm.lt_irr]
theorem kids_len {t u : Tm} (hk : t.k2 = u.k2) : t.kids.length = u.kids.length := by
  have hkd := (Tm.k2_kd hk).1
  cases t <;> cases u <;> simp only [Tm.kd] at hkd <;> first | (exfalso; omega) | rfl
def spIL (n : Nat) : Sp := fun vs H Q _ => ∃ (v w : V) (t u : Tm), vs = [v, w] ∧ TmV H t v ∧ TmV H u w ∧ t.dep < n ∧ t.dep < 8 ∧ u.dep < 8 ∧ Good t ∧ Good u ∧ ∀ H', Kp [] H H' → Q (.bl (Tm.lt t u)) H'
theorem lex_k2 (t u : Tm) (hne : t.k2 ≠ u.k2) : HT.lexLt [(t.size : Int), (t.kd : Int)] [(u.size : Int), (u.kd : Int)] = Tm.lt t u := by
  rw [Tm.lt_ne hne, HT.lexLt_cons, HT.lexLt_cons, HT.lexLt_nil_nil]
  have h1 := t.kd_lt
  have h2 := u.kd_lt
  simp only [Tm.k2] at hne ⊢
  by_cases e : (t.size : Int) = u.size
  · rw [if_pos e]
    by_cases e2 : (t.kd : Int) = u.kd
    · exfalso; omega
    · rw [if_neg e2]
      exact decide_eq_decide.mpr (by omega)
  · rw [if_neg e]
    exact decide_eq_decide.mpr (by omega)
section
variable {P : Program} {w : World} {K : PySem.W.Frag} {mg : Str → Option Value} {base : Heap} {f C : Addr} {fd : FuncData}
theorem ok_law_is_less {n k : Nat} (hk : 9 ≤ k) (F : Fun K "_law_is_less" "_law_is_less" s_law_is_less f fd) (T : Txt K mg) (D_law_inner : Def P w K mg base "_law_inner" 1 ["node"] spKids) (D_law_size : Def P w K mg base "_law_size" 9 ["node"] (spZ Tm.size 8))
    (D_law_is_less : Def P w K mg base "_law_is_less" k ["one", "far"] (spIL n)) :
    FnOk P w K mg base CX0 (k + 1) f fd ["one", "far"] (spIL (n + 1)) := by
  refine F.ok sc_law_is_less (fun vs H Q E h => ?_) (fun cdv A outer s H vs Q E hr h => ?_)
  · obtain ⟨v, x, t, u, rfl, _⟩ := h
    rfl
  obtain ⟨v, x, t, u, rfl, ht, hu, hd, hd8, hu8, hgt, hgu, q⟩ := h
  have nd := sc_law_is_less.nd
  refine ⟨_, (pss_cons (ps_par (i := 2) (j := 3) rfl nd rfl rfl (by decide) rfl rfl (pa_cons (pe_tup (pa_cons (e_fn D_law_size (hr.mono (by omega)) (pa_cons (pv 0) pa_nil)) (pa_cons (pe_bmT K PySem.F.slot_tuple_index PySem.F.type_tuple_index (mt_tup_indexk K) (pe_tupF (pa_cons pe_str (pa_cons pe_str (pa_cons pe_str (pa_cons pe_str (pa_cons pe_str (pa_cons pe_str pa_nil))))))) (pa_cons (pe_ix ix_tup (pv 0) pe_int (fun _ _ => rfl)) pa_nil)) pa_nil))) (pa_cons (pe_tup (pa_cons (e_fn D_law_size (hr.mono (by omega)) (pa_cons (pv 1) pa_nil)) (pa_cons (pe_bmT K PySem.F.slot_tuple_index PySem.F.type_tuple_index (mt_tup_indexk K) (pe_tupF (pa_cons pe_str (pa_cons pe_str (pa_cons pe_str (pa_cons pe_str (pa_cons pe_str (pa_cons pe_str pa_nil))))))) (pa_cons (pe_ix ix_tup (pv 1) pe_int (fun _ _ => rfl)) pa_nil)) pa_nil))) pa_nil)) rfl)
      (pss_cons (ps_if (pt_cmpR (op_neD hr.units) (pv 2) (pv 3) (nomark _)) (pss_one (ps_ret (pe_cmpR (op_ltT hr.units0) (pv 2) (pv 3) (nomark _)))) pss_nil)
      (pss_cons (ps_if (pt_cmpR op_eq (pe_ix ix_tup (pv 0) pe_int (fun _ _ => rfl)) pe_str (nomark _)) (pss_one (ps_ret (pe_cmpR op_lt_str (pe_ix ix_tup (pv 0) pe_int (fun _ _ => rfl)) (pe_ix ix_tup (pv 1) pe_int (fun _ _ => rfl)) (nomark _)))) pss_nil)
      (pss_cons (ps_for PassesOwn.never rfl (RZ.pi_zipA (by rfl) T.zip (pa_cons (e_fn D_law_inner (hr.mono (by omega)) (pa_cons (pv 0) pa_nil)) (pa_cons (e_fn D_law_inner (hr.mono (by omega)) (pa_cons (pv 1) pa_nil)) pa_nil))) (pg_tup rfl (pgs_cons (pg_name (i := 4) nd rfl (Or.inl rfl)) (pgs_cons (pg_name (i := 5) nd rfl (Or.inl rfl)) pgs_nil))) (pss_one (ps_if (pt_cmpR (op_neD hr.units) (pv 4) (pv 5) (nomark _)) (pss_one (ps_ret (e_fn D_law_is_less (hr.mono (by omega)) (pa_cons (pv 4) (pa_cons (pv 5) pa_nil))))) pss_nil)))
      (pss_one (ps_ret pe_bl)))))), ?_⟩
  obtain ⟨a, xs, ks, rfl, ha, -, -⟩ := ht.node
  obtain ⟨b, ys, ls, rfl, hb, -, -⟩ := hu.node
  refine ⟨_, rfl, _, t, rfl, ht, hd8, fun H1 k1 => ⟨small_le (by simp), fun p1 o1 hp1 hc1 hd1 => ⟨⟨p1, o1, rfl, hc1, hd1, .inl ⟨_, upd_same⟩⟩, ?_⟩⟩⟩
  have k2 : Kp [] H1 (upd H1 p1 (.frz o1 (.tup (KDS.map V.str)))) := Kp.new hp1
  have g2 : SqT K (upd H1 p1 (.frz o1 (.tup (KDS.map V.str)))) p1 (KDS.map V.str) := N0.SqT.frz upd_same
  change tCons _ _ _ (upd H1 p1 (.frz o1 (.tup (KDS.map V.str)))) _
  generalize upd H1 p1 (.frz o1 (.tup (KDS.map V.str))) = H2 at k2 g2 ⊢
  have k02 := k1.trans k2
  refine ⟨_, rfl, a, _, 0, _, rfl, rfl, tupT (k02.t _ _ ha), atI_nat (j := 0) rfl, p1, KDS, t.wd, t.kd, rfl, rfl, g2, kds_at t, kds_ne t, small_le (by simp), fun q1 hq1 => ?_⟩
  have k3 : Kp [] H2 (upd H2 q1 (.tup [.int t.size, .int t.kd])) := Kp.new hq1
  have g3 : upd H2 q1 (.tup [.int t.size, .int t.kd]) q1 = some (.tup [.int t.size, .int t.kd]) := upd_same
  generalize upd H2 q1 (.tup [.int t.size, .int t.kd]) = H3 at k3 g3 ⊢
  have k03 := k02.trans k3
  refine ⟨_, rfl, _, u, rfl, hu.kp k03, hu8, fun H4 k4 => ⟨small_le (by simp), fun p2 o2 hp2 hc2 hd2 => ⟨⟨p2, o2, rfl, hc2, hd2, .inl ⟨_, upd_same⟩⟩, ?_⟩⟩⟩
  have k5 : Kp [] H4 (upd H4 p2 (.frz o2 (.tup (KDS.map V.str)))) := Kp.new hp2
  have g5 : SqT K (upd H4 p2 (.frz o2 (.tup (KDS.map V.str)))) p2 (KDS.map V.str) := N0.SqT.frz upd_same
  change tCons _ _ _ (upd H4 p2 (.frz o2 (.tup (KDS.map V.str)))) _
  generalize upd H4 p2 (.frz o2 (.tup (KDS.map V.str))) = H5 at k5 g5 ⊢
  have k05 := (k03.trans k4).trans k5
  refine ⟨_, rfl, b, _, 0, _, rfl, rfl, tupT (k05.t _ _ hb), atI_nat (j := 0) rfl, p2, KDS, u.wd, u.kd, rfl, rfl, g5, kds_at u, kds_ne u, small_le (by simp), fun q2 hq2 => ?_⟩
  have k6 : Kp [] H5 (upd H5 q2 (.tup [.int u.size, .int u.kd])) := Kp.new hq2
  have g6 : upd H5 q2 (.tup [.int u.size, .int u.kd]) q2 = some (.tup [.int u.size, .int u.kd]) := upd_same
  have g3' := ((k4.trans k5).trans k6).t _ _ g3
  generalize upd H5 q2 (.tup [.int u.size, .int u.kd]) = H6 at k6 g6 g3' ⊢
  have k06 := k05.trans k6
  refine ⟨_, _, rfl, _, rfl, _, rfl, .tuple [.int t.size, .int t.kd], .tuple [.int u.size, .int u.kd], .tup (tupT g3') (.cons (.int _) (.cons (.int _) .nil)), .tup (tupT g6) (.cons (.int _) (.cons (.int _) .nil)), shaped2 _ _, shaped2 _ _, _, rfl, ?_⟩
  refine ite2 (fun hc => ?_) (fun hc => ?_)
  · have hne : t.k2 ≠ u.k2 := fun z => by
      obtain ⟨z1, z2⟩ := Tm.k2_kd z
      rw [(eqv2 _ _ _ _).mpr ⟨by omega, by omega⟩] at hc
      cases hc
    refine ⟨_, rfl, _, rfl, q1, q2, [(t.size : Int), (t.kd : Int)], [(u.size : Int), (u.kd : Int)], rfl, rfl, tupT g3', tupT g6, ?_⟩
    rw [lex_k2 t u hne]
    exact q _ k06
  have hk2 : t.k2 = u.k2 := by
    have : PyData.eqv (.tuple [.int t.size, .int t.kd]) (.tuple [.int u.size, .int u.kd]) = true := by
      revert hc; cases PyData.eqv (.tuple [.int t.size, .int t.kd]) (.tuple [.int u.size, .int u.kd]) <;> simp
    obtain ⟨z1, z2⟩ := (eqv2 _ _ _ _).mp this
    simp only [Tm.k2]; omega
  obtain ⟨hkd, hsz⟩ := Tm.k2_kd hk2
  refine ⟨_, rfl, a, _, 0, _, rfl, rfl, tupT (k06.t _ _ ha), atI_nat (j := 0) rfl, rfl, _, rfl, ?_⟩
  refine ite2 (fun hc2 => ?_) (fun hc2 => ?_)
  · have h2 := wd_letter.mp hc2
    obtain ⟨z, rfl⟩ : ∃ z, t = .letter z := by cases t <;> simp [Tm.kd] at h2; exact ⟨_, rfl⟩
    obtain ⟨r, rfl⟩ : ∃ r, u = .letter r := by rw [h2] at hkd; cases u <;> simp [Tm.kd] at hkd; exact ⟨_, rfl⟩
    obtain ⟨a', e', ha'⟩ := ht
    cases e'
    obtain ⟨b', e', hb'⟩ := hu
    cases e'
    refine ⟨_, rfl, a, _, 1, _, rfl, rfl, tupT (k06.t _ _ ha'), atI_nat (j := 1) rfl, _, rfl, b, _, 1, _, rfl, rfl, tupT (k06.t _ _ hb'), atI_nat (j := 1) rfl, z, r, rfl, rfl, ?_⟩
    have := q _ k06
    rw [Tm.lt_letter] at this
    exact this
  have h2 : t.kd ≠ 2 := fun z => hc2 (wd_letter.mpr z)
  refine ⟨_, rfl, _, t, rfl, ht.kp k06, fun H7 a7 ks7 k7 ha7 hV7 => ⟨_, rfl, _, u, rfl, (hu.kp k06).kp k7, fun H8 b8 ls8 k8 hb8 hW8 => ⟨a7, b8, ks7, ls8, rfl, .inr ⟨tupT (k8.t _ _ ha7), tupT hb8, ?_⟩⟩⟩⟩
  have hV8 := hV7.kp k8
  have ha8 := k8.t _ _ ha7
  have k08 := (k06.trans k7).trans k8
  have l1 := hV8.len
  have l2 := hW8.len
  have l3 := kids_len hk2
  refine for_it (n := ks7.length) (walk_zipT (xs := ks7) (ys := ls8) (by omega)) (fun i σ H' => ∃ (o4 o5 : Option V), σ = [some (.ref a), some (.ref b), some (.ref q1), some (.ref q2), o4, o5] ∧ Kp [] H8 H' ∧ ∀ j, j < i → t.kids[j]? = u.kids[j]?)
    ⟨none, none, rfl, Kp.refl _ _, fun j h => absurd h (Nat.not_lt_zero _)⟩ (fun i σ H' _ ⟨_, _, _, k, _⟩ => ⟨tupT (k.t _ _ ha8), tupT (k.t _ _ hb8)⟩) ?_ ?_
  · rintro i y σ H9 _ hi ⟨o4, o5, rfl, k9, hpre⟩ ⟨Tp, x, y, rfl, hTp, rfl, hx, hy⟩
    have kT : Kp [] H9 (upd H9 Tp (.tup [x, y])) := Kp.new hTp
    obtain ⟨t', ht', htT⟩ := hV8.get hx
    obtain ⟨u', hu', huT⟩ := hW8.get hy
    refine ⟨Tp, _, rfl, tupT upd_same, rfl, _, _, rfl, _, _, rfl, rfl, ?_⟩
    generalize upd H9 Tp (.tup [x, y]) = H10 at kT ⊢
    have k810 := k9.trans kT
    have ht10 := htT.kp k810
    have hu10 := huT.kp k810
    obtain ⟨d1, d2, _⟩ := kid_dep (List.mem_of_getElem? ht')
    obtain ⟨e1, e2, _⟩ := kid_dep (List.mem_of_getElem? hu')
    have gt' : Good t' := ⟨d2 hgt.1, by have := hgt.2; omega⟩
    have gu' : Good u' := ⟨e2 hgu.1, by have := hgu.2; omega⟩
    refine ⟨_, rfl, _, rfl, t'.toD, u'.toD, ht10.dp, hu10.dp, gt'.sh, gu'.sh, _, rfl, ?_⟩
    rw [eqv_toD]
    refine ite2 (fun hc3 => ?_) (fun hc3 => ?_)
    · have hne : t' ≠ u' := by simpa using hc3
      refine ⟨_, rfl, _, rfl, x, y, t', u', rfl, ht10, hu10, by omega, by omega, by omega, gt', gu', fun H11 k11 => ?_⟩
      have := q _ ((k08.trans k810).trans k11)
      rw [lt_at hk2 h2 ht' hu' hpre hne] at this
      exact this
    · have he : t' = u' := by simpa using hc3
      refine ⟨_, _, rfl, k810, fun j hj => ?_⟩
      by_cases hji : j = i
      · subst hji; rw [ht', hu', he]
      · exact hpre j (by omega)
  · rintro σ H9 ⟨o4, o5, rfl, k9, hpre⟩
    have := q _ (k08.trans k9)
    rw [lt_all hk2 h2 (fun j hj => hpre j (by omega))] at this
    exact this
end
end N0

namespace N0
open PySem L2 PySem.Spec PyProof.Rows
theorem TmVs.take {H : Hp} : ∀ {ts : List Tm} {vs : List V} (n : Nat), TmVs H ts vs → TmVs H (ts.take n) (vs.take n)
  | _, _, 0, _ => trivial
  | [], [], _ + 1, _ => trivial
  | _ :: _, _ :: _, n + 1, ⟨h1, h2⟩ => ⟨h1, TmVs.take n h2⟩
theorem TmVs.drop {H : Hp} : ∀ {ts : List Tm} {vs : List V} (n : Nat), TmVs H ts vs → TmVs H (ts.drop n) (vs.drop n)
  | _, _, 0, h => h
  | [], [], _ + 1, _ => trivial
  | _ :: _, _ :: _, n + 1, ⟨_, h2⟩ => TmVs.drop n h2
theorem TmVs.app {H : Hp} : ∀ {ts us : List Tm} {vs ws : List V}, TmVs H ts vs → TmVs H us ws → TmVs H (ts ++ us) (vs ++ ws)
  | [], _, [], _, _, h => h
  | _ :: _, _, _ :: _, _, ⟨h1, h2⟩, h => ⟨h1, TmVs.app h2 h⟩
theorem cut_take (xs : List V) (n : Nat) : cutV xs none (some (n : Int)) = xs.take n := by
  unfold cutV
  rw [HT.sIx_nat, HT.sIx_none]
  simp
theorem cut_drop (xs : List V) (n : Nat) : cutV xs (some (n : Int)) none = xs.drop n := by
  unfold cutV
  rw [HT.sIx_nat, HT.sIx_none]
  by_cases h : n ≤ xs.length
  · rw [Nat.min_eq_left h]
    exact List.take_of_length_le (by simp)
  · rw [Nat.min_eq_right (by omega), List.drop_of_length_le (Nat.le_refl _), List.drop_of_length_le (by omega)]; simp
def G8 (t : Tm) : Prop := Good t ∧ t.dep < 8
def spOrd : Sp := fun vs H Q _ => ∃ (a : Addr) (lv : List V) (ts : List Tm), vs = [.ref a] ∧ H a = some (.lst lv) ∧ TmVs H ts lv ∧ (∀ t ∈ ts, G8 t) ∧ ts.length ≤ 1000 ∧
  ∀ H' b rv, Kp [] H H' → H' b = some (.lst rv) → TmVs H' (ord ts) rv → Q (.ref b) H'
section
variable {P : Program} {w : World} {K : PySem.W.Frag} {mg : Str → Option Value} {base : Heap} {f C : Addr} {fd : FuncData}
theorem ok_law_ordered {k : Nat} (F : Fun K "_law_ordered" "_law_ordered" s_law_ordered f fd) (T : Txt K mg) (D_law_is_less : Def P w K mg base "_law_is_less" k ["one", "far"] (spIL 8)) :
    FnOk P w K mg base CX0 (k + 1) f fd ["some"] spOrd := by
  refine F.ok sc_law_ordered (fun vs H Q E h => ?_) (fun cdv A outer s H vs Q E hr h => ?_)
  · obtain ⟨a, lv, ts, rfl, _⟩ := h
    rfl
  obtain ⟨a, lv, ts, rfl, ha, hV, hg, hlen, q⟩ := h
  have nd := sc_law_ordered.nd
  refine ⟨_, (pss_cons (ps_set (i := 1) nd rfl (Or.inl rfl) (pe_lst pa_nil))
      (pss_cons (ps_for PassesOwn.never rfl (pi_list (pv 0)) (pg_name (i := 2) nd rfl (Or.inr rfl)) (pss_cons (ps_set (i := 3) nd rfl (Or.inl rfl) (e_len T (pa_cons (pe_lc (own := [("far", 4)]) (g := gName 4) rfl nd (pi_list (pv 1)) (blkOk_by (N := N_law_ordered) (sc := defScope s_law_ordered) (by decide +kernel)) (fun _ _ _ _ _ => pg_name (i := 4) nd rfl (Or.inl rfl)) (fun _ _ _ _ _ => pts_one (pt_val (e_fn D_law_is_less (hr.mono (by omega)) (pa_cons (pv 4) (pa_cons (pv 2) pa_nil))))) (fun _ _ _ _ _ => (pv 4))) pa_nil)))
      (pss_one (ps_set (i := 1) nd rfl (Or.inl rfl) (pe_op op_cat (pe_op op_cat (pe_slice sl_list (pv 1) po_none (po_some (pv 3))) (pe_lst (pa_cons (pv 2) pa_nil))) (pe_slice sl_list (pv 1) (po_some (pv 3)) po_none))))))
      (pss_one (ps_ret (pv 1))))), ?_⟩
  have hl := hV.len
  refine ⟨Nat.zero_le _, fun F0 hF => ?_⟩
  have kF : Kp [] H (upd H F0 (.lst [])) := Kp.new hF
  refine ⟨_, rfl, a, rfl, ⟨_, SqL.of (kF.k _ _ (by simp) ha)⟩, ?_⟩
  refine for_it (n := lv.length) walk_list (fun i σ H' => ∃ (o2 o3 : Option V) (fa : Addr) (rv : List V), σ = [some (.ref a), some (.ref fa), o2, o3, none] ∧ Kp [] H H' ∧ H' fa = some (.lst rv) ∧ TmVs H' (ord (ts.take i)) rv)
    ⟨none, none, F0, [], rfl, kF, upd_same, trivial⟩ (fun i σ H' _ ⟨_, _, _, _, _, k, _⟩ => SqL.of (k.k _ _ (by simp) ha)) ?_ ?_
  · rintro i y σ _ H1 hi ⟨o2, o3, fa, rv, rfl, k1, hf1, hR1⟩ ⟨rfl, hyi⟩
    obtain ⟨x, hx, hxT⟩ := (hV.kp k1).get hyi
    have hgx := hg x (List.mem_of_getElem? hx)
    have etk : ts.take (i + 1) = ts.take i ++ [x] := by rw [List.take_add_one, hx]; rfl
    have hrl := hR1.len
    have hSm : ∀ u ∈ ord (ts.take i), G8 u := fun u hu => by
      unfold ord at hu
      rw [ord_mem] at hu
      exact hg u (List.mem_of_mem_take (hu.elim (fun z => by cases z) id))
    have hSl : (ord (ts.take i)).length ≤ 1000 := by
      have : ∀ l S : List Tm, (l.foldl ins S).length = S.length + l.length := by
        intro l
        induction l with
        | nil => intro S; rfl
        | cons z l ih => intro S; rw [List.foldl_cons, ih, ins_len, List.length_cons]; omega
      unfold ord
      rw [this, List.length_take]; simp; omega
    rw [etk, ord_snoc]
    generalize ord (ts.take i) = S at *
    refine ⟨_, rfl, fa, rfl, ⟨_, SqL.of hf1⟩, fun D hD => ?_⟩
    refine lc_it (n := rv.length) walk_list (fun j H' => Kp [] H1 H' ∧ ∃ acc, H' D = some (.lst acc) ∧ acc.length = (S.take j).countP fun u => Tm.lt u x) ⟨Kp.new hD, [], upd_same, rfl⟩ (fun j H' _ h => SqL.of (h.1.k _ _ (by simp) hf1)) ?_ ?_
    · rintro j z _ H2 hj ⟨k2, acc, hD2, hacc⟩ ⟨rfl, hzj⟩
      obtain ⟨u, hu, huT⟩ := (hR1.kp k2).get hzj
      have hgu := hSm u (List.mem_of_getElem? hu)
      have esk : S.take (j + 1) = S.take j ++ [u] := by rw [List.take_add_one, hu]; rfl
      have hcl : acc.length ≤ 1000 := by
        rw [hacc]; have := List.countP_le_length (p := fun u => Tm.lt u x) (l := S.take j); rw [List.length_take] at this; omega
      refine ⟨rfl, _, rfl, _, rfl, z, y, u, x, rfl, huT, hxT.kp k2, hgu.2, hgu.2, hgx.2, hgu.1, hgx.1, fun H3 k3 => ⟨_, rfl, ?_⟩⟩
      refine ite2 (fun hc => ?_) (fun hc => ?_)
      · refine ⟨_, rfl, acc, k3.k _ _ (by simp) hD2, small_lt (by omega), (k2.trans k3).put hD, _, upd_same, ?_⟩
        rw [esk, List.countP_append, List.length_append, hacc, List.countP_cons, if_pos hc]; simp
      · refine ⟨k2.trans k3, acc, k3.k _ _ (by simp) hD2, ?_⟩
        rw [esk, List.countP_append, hacc, List.countP_cons, if_neg hc]; simp
    · rintro H2 ⟨k2, acc, hD2, hacc⟩
      rw [List.take_of_length_le (by omega)] at hacc
      refine ⟨D, acc, rfl, .inl (SqL.of hD2), ?_⟩
      rw [hacc]
      have hf2 := k2.k _ _ (by simp) hf1
      have hn : (S.countP fun u => Tm.lt u x) ≤ 1000 := Nat.le_trans List.countP_le_length hSl
      refine ⟨_, rfl, _, rfl, _, rfl, fa, rv, rfl, SqL.of hf2, fun p1 hp1 => ?_⟩
      rw [cut_take]
      have k3 : Kp [] H2 (upd H2 p1 (.lst (rv.take (S.countP fun u => Tm.lt u x)))) := Kp.new hp1
      have g1 : upd H2 p1 (.lst (rv.take (S.countP fun u => Tm.lt u x))) p1 = some (.lst (rv.take (S.countP fun u => Tm.lt u x))) := upd_same
      generalize upd H2 p1 (.lst (rv.take (S.countP fun u => Tm.lt u x))) = H3 at k3 g1 ⊢
      refine ⟨_, rfl, small_le (by simp), fun p2 hp2 => ?_⟩
      have k4 : Kp [] H3 (upd H3 p2 (.lst [y])) := Kp.new hp2
      have g2 : upd H3 p2 (.lst [y]) p2 = some (.lst [y]) := upd_same
      generalize upd H3 p2 (.lst [y]) = H4 at k4 g2 ⊢
      refine ⟨p1, p2, _, _, rfl, rfl, k4.k _ _ (by simp) g1, g2, small_le (by rw [List.length_take]; simp; omega), fun p3 hp3 => ?_⟩
      have k5 : Kp [] H4 (upd H4 p3 (.lst (rv.take (S.countP fun u => Tm.lt u x) ++ [y]))) := Kp.new hp3
      have g3 : upd H4 p3 (.lst (rv.take (S.countP fun u => Tm.lt u x) ++ [y])) p3 = some (.lst (rv.take (S.countP fun u => Tm.lt u x) ++ [y])) := upd_same
      generalize upd H4 p3 (.lst (rv.take (S.countP fun u => Tm.lt u x) ++ [y])) = H5 at k5 g3 ⊢
      have k25 := (k3.trans k4).trans k5
      refine ⟨_, rfl, _, rfl, _, rfl, fa, rv, rfl, SqL.of (k25.k _ _ (by simp) hf2), fun p4 hp4 => ?_⟩
      rw [cut_drop]
      have k6 : Kp [] H5 (upd H5 p4 (.lst (rv.drop (S.countP fun u => Tm.lt u x)))) := Kp.new hp4
      have g4 : upd H5 p4 (.lst (rv.drop (S.countP fun u => Tm.lt u x))) p4 = some (.lst (rv.drop (S.countP fun u => Tm.lt u x))) := upd_same
      generalize upd H5 p4 (.lst (rv.drop (S.countP fun u => Tm.lt u x))) = H6 at k6 g4 ⊢
      refine ⟨p3, p4, _, _, rfl, rfl, k6.k _ _ (by simp) g3, g4, small_le (by rw [List.length_append, List.length_take, List.length_drop]; simp; omega), fun p5 hp5 => ?_⟩
      have k7 : Kp [] H6 (upd H6 p5 (.lst (rv.take (S.countP fun u => Tm.lt u x) ++ [y] ++ rv.drop (S.countP fun u => Tm.lt u x)))) := Kp.new hp5
      have kk := ((k2.trans k25).trans k6).trans k7
      refine ⟨_, _, p5, _, rfl, k1.trans kk, upd_same, ?_⟩
      unfold ins
      have hx1 : TmVs _ [x] [y] := ⟨hxT.kp kk, trivial⟩
      exact (((hR1.kp kk).take _).app hx1).app ((hR1.kp kk).drop _)
  · rintro σ H1 ⟨o2, o3, fa, rv, rfl, k1, hf1, hR1⟩
    rw [List.take_of_length_le (by omega)] at hR1
    exact ⟨_, rfl, q _ fa rv k1 hf1 hR1⟩
end
end N0

namespace N0
open PySem L2 PySem.Spec PyProof.Rows
theorem ifS2 {t : TT} {s s' : TS} {D : Ends} {σ : L2.St} {H : Hp} (J1 J2 : Hp → Prop) (ht : ∀ Q : Bool → Hp → Prop, (∀ H', J1 H' → Q true H') → (∀ H', J2 H' → Q false H') → t σ H Q)
    (h1 : ∀ H', J1 H' → s D σ H') (h2 : ∀ H', J2 H' → s' D σ H') : tIfS t s s' D σ H :=
  ht _ (fun H' j => iteT (h1 H' j)) (fun H' j => iteF (h2 H' j))
theorem ifS2q {t : TT} {s s' r : TS} {D : Ends} {σ : L2.St} {H : Hp} (J1 J2 : Hp → Prop) (ht : ∀ Q : Bool → Hp → Prop, (∀ H', J1 H' → Q true H') → (∀ H', J2 H' → Q false H') → t σ H Q)
    (h1 : ∀ H', J1 H' → s { D with nx := r D } σ H') (h2 : ∀ H', J2 H' → s' { D with nx := r D } σ H') : tSeq (tIfS t s s') r D σ H := ifS2 J1 J2 ht h1 h2
theorem rep_ex {t k k' : Tm} {i : Nat} (hk : t.kids[i]? = some k) (hn : t.nok = true) (hn' : k'.nok = true) (hd : k'.dep ≤ k.dep + 1) (hs : k'.size ≤ k.size + 1) :
    ∃ t' : Tm, t'.wd = t.wd ∧ t'.kids = t.kids.take i ++ [k'] ++ t.kids.drop (i + 1) ∧ t'.kd ≠ 2 ∧ t'.nok = true ∧ t'.dep ≤ t.dep + 1 ∧ t'.size ≤ t.size + 1 := by
  cases t with
  | yes => simp [Tm.kids] at hk
  | no => simp [Tm.kids] at hk
  | letter s => simp [Tm.kids] at hk
  | not a =>
    match i, hk with
    | 0, hk =>
      simp [Tm.kids] at hk; subst hk
      refine ⟨.not k', rfl, rfl, by simp [Tm.kd], hn', ?_, ?_⟩
      · simp only [Tm.dep]; omega
      · simp only [Tm.size]; omega
    | i + 1, hk => simp [Tm.kids] at hk
  | and a b =>
    simp only [Tm.nok, Bool.and_eq_true] at hn
    match i, hk with
    | 0, hk =>
      simp [Tm.kids] at hk; subst hk
      refine ⟨.and k' b, rfl, rfl, by simp [Tm.kd], by simp only [Tm.nok, hn', hn.2]; rfl, ?_, ?_⟩
      · simp only [Tm.dep]; omega
      · simp only [Tm.size]; omega
    | 1, hk =>
      simp [Tm.kids] at hk; subst hk
      refine ⟨.and a k', rfl, rfl, by simp [Tm.kd], by simp only [Tm.nok, hn', hn.1]; rfl, ?_, ?_⟩
      · simp only [Tm.dep]; omega
      · simp only [Tm.size]; omega
    | i + 2, hk => simp [Tm.kids] at hk
  | or a b =>
    simp only [Tm.nok, Bool.and_eq_true] at hn
    match i, hk with
    | 0, hk =>
      simp [Tm.kids] at hk; subst hk
      refine ⟨.or k' b, rfl, rfl, by simp [Tm.kd], by simp only [Tm.nok, hn', hn.2]; rfl, ?_, ?_⟩
      · simp only [Tm.dep]; omega
      · simp only [Tm.size]; omega
    | 1, hk =>
      simp [Tm.kids] at hk; subst hk
      refine ⟨.or a k', rfl, rfl, by simp [Tm.kd], by simp only [Tm.nok, hn', hn.1]; rfl, ?_, ?_⟩
      · simp only [Tm.dep]; omega
      · simp only [Tm.size]; omega
    | i + 2, hk => simp [Tm.kids] at hk
theorem zz_ok : nmOk "zz" = true := by decide +kernel
def spAlt (n : Nat) : Sp := fun vs H Q _ => ∃ (m c : Addr) (v : V) (t : Tm) (b : Nat), vs = [.ref m, v] ∧ DrawAt H m c b ∧ TmV H t v ∧ t.nok = true ∧ t.dep < n ∧ b + 4 * (t.dep + 1) ≤ 900000 ∧
  ∀ H' v' (t' : Tm), Kp [m] H H' → DrawAt H' m c (b + 4 * (t.dep + 1)) → TmV H' t' v' → t'.nok = true → t'.dep ≤ t.dep + 1 → t'.size ≤ t.size + 1 → Q v' H'
section
variable {P : Program} {w : World} {K : PySem.W.Frag} {mg : Str → Option Value} {base : Heap} {f C : Addr} {fd : FuncData}
theorem ok_law_altered {n k : Nat} (hk : 2 ≤ k) (F : Fun K "_law_altered" "_law_altered" s_law_altered f fd) (T : Txt K mg) (D_law_inner : Def P w K mg base "_law_inner" 1 ["node"] spKids) (D_law_draw : Def P w K mg base "_law_draw" 1 ["m", "limit"] spDraw) (D_law_of : Def P w K mg base "_law_of" 2 ["m", "some"] (spOf K))
    (D_law_altered : Def P w K mg base "_law_altered" k ["m", "node"] (spAlt n)) : FnOk P w K mg base CX0 (k + 1) f fd ["m", "node"] (spAlt (n + 1)) := by
  refine F.ok sc_law_altered (fun vs H Q E h => ?_) (fun cdv A outer s H vs Q E hr h => ?_)
  · obtain ⟨m, c, v, t, b, rfl, _⟩ := h
    rfl
  obtain ⟨m, c, v, t, b, rfl, hm, ht, hok, hd, hb, q⟩ := h
  have nd := sc_law_altered.nd
  refine ⟨_, (pss_cons (ps_set (i := 2) nd rfl (Or.inl rfl) (e_fn D_law_inner (hr.mono (by omega)) (pa_cons (pv 1) pa_nil)))
      (pss_cons (ps_if (PW.pt (pw_or (pt_cmpR (op_eqNilT hr.units0) (pv 2) (pe_tup pa_nil) (nomark _)) (pw_or1 (pt_cmpR op_eq (e_fn D_law_draw (hr.mono (by omega)) (pa_cons (pv 0) (pa_cons pe_int pa_nil))) pe_int (nomark _))))) (pss_one (ps_ret (e_fn D_law_of (hr.mono (by omega)) (pa_cons (pv 0) (pa_cons (pe_lst (pa_cons (pe_tup (pa_cons pe_str (pa_cons (pv 1) pa_nil))) (pa_cons (pe_tup (pa_cons pe_str (pa_cons pe_str pa_nil))) (pa_cons (pe_tup (pa_cons pe_str pa_nil)) (pa_cons (pe_tup (pa_cons pe_str pa_nil)) pa_nil))))) pa_nil))))) pss_nil)
      (pss_cons (ps_if (PW.pt (pw_and (pt_cmpR op_eq (e_len T (pa_cons (pv 2) pa_nil)) pe_int (nomark _)) (pw_and1 (pt_cmpR op_eq (e_fn D_law_draw (hr.mono (by omega)) (pa_cons (pv 0) (pa_cons pe_int pa_nil))) pe_int (nomark _))))) (pss_one (ps_ret (pe_tup (pa_cons (e_fn D_law_of (hr.mono (by omega)) (pa_cons (pv 0) (pa_cons (pe_lst (pa_cons pe_str (pa_cons pe_str pa_nil))) pa_nil))) (pa_cons (pe_ix ix_tup (pv 2) pe_int (fun _ _ => rfl)) (pa_cons (pe_ix ix_tup (pv 2) pe_int (fun _ _ => rfl)) pa_nil)))))) pss_nil)
      (pss_cons (ps_set (i := 3) nd rfl (Or.inl rfl) (e_fn D_law_draw (hr.mono (by omega)) (pa_cons (pv 0) (pa_cons (e_len T (pa_cons (pv 2) pa_nil)) pa_nil))))
      (pss_one (ps_ret (pe_op op_catA (pe_op op_catA (pe_op op_catA (pe_slice sl_tupA (pv 1) po_none (po_some pe_int)) (pe_slice sl_tupA (pv 2) po_none (po_some (pv 3)))) (pe_tup (pa_cons (e_fn D_law_altered (hr.mono (by omega)) (pa_cons (pv 0) (pa_cons (pe_ix ix_tup (pv 2) (pv 3) (fun _ _ => rfl)) pa_nil))) pa_nil))) (pe_slice sl_tupA (pv 2) (po_some (pe_op op_add (pv 3) pe_int)) po_none)))))))), ?_⟩
  obtain ⟨a, xs, ks0, rfl, ha, -, -⟩ := ht.node
  refine ⟨_, rfl, _, t, rfl, ht, fun H1 ia ks k1 hia hV => ?_⟩
  have hm1 := hm.kp k1
  have hl := hV.len
  have k1m : Kp [m] H H1 := k1.mono0
  dsimp only [gName]
  show tSeq (tIfS _ _ _) _ _ _ _
  refine ifS2q (fun H' => ∃ b2, Kp [m] H1 H' ∧ DrawAt H' m c b2 ∧ b2 ≤ b + 1) (fun H' => ∃ b2, Kp [m] H1 H' ∧ DrawAt H' m c b2 ∧ b2 ≤ b + 1 ∧ ks ≠ []) (fun Q1 j1 j2 => ?_) (fun H2 h2 => ?_) (fun H2 h2 => ?_)
  · refine ⟨_, rfl, Nat.zero_le _, fun p hp => ?_⟩
    have kp : Kp [] H1 (upd H1 p (.tup [])) := Kp.new hp
    refine ⟨ia, p, ks, rfl, rfl, tupT (kp.t _ _ hia), tupT upd_same, _, rfl, ?_⟩
    have hm2 := hm1.kp kp
    generalize upd H1 p (.tup []) = H2 at kp hm2 ⊢
    by_cases hn : ks = []
    · subst hn
      exact iteT (j1 _ ⟨b, kp.mono0, hm2, by omega⟩)
    · refine iteF' (by cases ks <;> simp at hn ⊢) ?_
      refine ⟨_, rfl, m, c, 3, b, rfl, hm2, by decide, by decide, by omega, fun H3 i k3 hm3 hi => ⟨rfl, _, rfl, ?_⟩⟩
      by_cases h0 : V.int (i : Int) = V.int 0
      · rw [decide_eq_true h0]
        exact j1 _ ⟨b + 1, kp.mono0.trans k3, hm3, by omega⟩
      · rw [decide_eq_false h0]
        exact j2 _ ⟨b + 1, kp.mono0.trans k3, hm3, by omega, hn⟩
  · obtain ⟨b2, k2, hm2, hb2⟩ := h2
    have ht2 := (ht.kp k1).kp k2
    refine ⟨_, rfl, _, rfl, small_le (by simp), fun p1 hp1 => ⟨small_le (by simp), fun p2 hp2 => ⟨small_le (by simp), fun p3 hp3 => ⟨small_le (by simp), fun p4 hp4 => ⟨small_le (by simp), fun l hl2 => ?_⟩⟩⟩⟩⟩
    have e1 : Kp [m] H2 (upd H2 p1 (.tup [.str "not", .ref a])) := Kp.new hp1
    have g1 : upd H2 p1 (.tup [.str "not", .ref a]) p1 = some (.tup [.str "not", .ref a]) := upd_same
    have m1 := hm2.put (o := .tup [.str "not", .ref a]) (hm2.ne hp1)
    generalize upd H2 p1 (.tup [.str "not", .ref a]) = G1 at e1 g1 m1 hp2 hp3 hp4 hl2 ⊢
    have e2 : Kp [m] G1 (upd G1 p2 (.tup [.str "letter", .str "zz"])) := Kp.new hp2
    have g2 : upd G1 p2 (.tup [.str "letter", .str "zz"]) p2 = some (.tup [.str "letter", .str "zz"]) := upd_same
    have m2 := m1.put (o := .tup [.str "letter", .str "zz"]) (m1.ne hp2)
    generalize upd G1 p2 (.tup [.str "letter", .str "zz"]) = G2 at e2 g2 m2 hp3 hp4 hl2 ⊢
    have e3 : Kp [m] G2 (upd G2 p3 (.tup [.str "yes"])) := Kp.new hp3
    have g3 : upd G2 p3 (.tup [.str "yes"]) p3 = some (.tup [.str "yes"]) := upd_same
    have m3 := m2.put (o := .tup [.str "yes"]) (m2.ne hp3)
    generalize upd G2 p3 (.tup [.str "yes"]) = G3 at e3 g3 m3 hp4 hl2 ⊢
    have e4 : Kp [m] G3 (upd G3 p4 (.tup [.str "no"])) := Kp.new hp4
    have g4 : upd G3 p4 (.tup [.str "no"]) p4 = some (.tup [.str "no"]) := upd_same
    have m4 := m3.put (o := .tup [.str "no"]) (m3.ne hp4)
    generalize upd G3 p4 (.tup [.str "no"]) = G4 at e4 g4 m4 hl2 ⊢
    have e5 : Kp [m] G4 (upd G4 l (.lst [.ref p1, .ref p2, .ref p3, .ref p4])) := Kp.new hl2
    have g5 : upd G4 l (.lst [.ref p1, .ref p2, .ref p3, .ref p4]) l = some (.lst [.ref p1, .ref p2, .ref p3, .ref p4]) := upd_same
    have m5 := m4.put (o := .lst [.ref p1, .ref p2, .ref p3, .ref p4]) (m4.ne hl2)
    generalize upd G4 l (.lst [.ref p1, .ref p2, .ref p3, .ref p4]) = G5 at e5 g5 m5 ⊢
    refine ⟨m, c, l, _, b2, rfl, m5, .inl (SqL.of g5), by simp, by simp, by omega, fun H6 i v6 k6 hm6 hv => ?_⟩
    have k56 := e5.trans k6
    have kk := k1m.trans (k2.trans ((((e1.trans e2).trans e3).trans e4).trans k56))
    have hm7 : DrawAt H6 m c (b + 4 * (t.dep + 1)) := hm6.mono (by omega)
    match i, hv with
    | 0, hv =>
      cases hv
      have k16 := ((e2.trans e3).trans e4).trans k56
      refine q _ _ (.not t) kk hm7 ⟨p1, _, rfl, k16.t _ _ g1, (ht2.kp e1).kp k16⟩ hok ?_ ?_
      · simp only [Tm.dep]; omega
      · simp only [Tm.size]; omega
    | 1, hv =>
      cases hv
      exact q _ _ (.letter "zz") kk hm7 ⟨p2, rfl, ((e3.trans e4).trans k56).t _ _ g2⟩ zz_ok (Nat.zero_le _) (by have := t.size_pos; simp only [Tm.size]; omega)
    | 2, hv =>
      cases hv
      exact q _ _ .yes kk hm7 ⟨p3, rfl, (e4.trans k56).t _ _ g3⟩ rfl (Nat.zero_le _) (by have := t.size_pos; simp only [Tm.size]; omega)
    | 3, hv =>
      cases hv
      exact q _ _ .no kk hm7 ⟨p4, rfl, k56.t _ _ g4⟩ rfl (Nat.zero_le _) (by have := t.size_pos; simp only [Tm.size]; omega)
    | i + 4, hv => simp at hv
  obtain ⟨b2, k2, hm2, hb2, hne⟩ := h2
  have hia2 := k2.t _ _ hia
  dsimp only [tNext]
  show tSeq (tIfS _ _ _) _ _ _ _
  refine ifS2q (fun H' => ∃ b3, Kp [m] H2 H' ∧ DrawAt H' m c b3 ∧ b3 ≤ b + 2 ∧ ks.length = 2) (fun H' => ∃ b3, Kp [m] H2 H' ∧ DrawAt H' m c b3 ∧ b3 ≤ b + 2) (fun Q1 j1 j2 => ?_) (fun H3 h3 => ?_) (fun H3 h3 => ?_)
  · refine ⟨_, rfl, ia, ks, rfl, .inr (tupT hia2), rfl, _, rfl, ?_⟩
    by_cases h2 : V.int (ks.length : Int) = V.int 2
    · rw [decide_eq_true h2]
      have h2' : ks.length = 2 := by injection h2 with z; omega
      refine iteT ⟨_, rfl, m, c, 3, b2, rfl, hm2, by decide, by decide, by omega, fun H3 i k3 hm3 hi => ⟨rfl, _, rfl, ?_⟩⟩
      by_cases h0 : V.int (i : Int) = V.int 0
      · rw [decide_eq_true h0]
        exact j1 _ ⟨b2 + 1, k3, hm3, by omega, h2'⟩
      · rw [decide_eq_false h0]
        exact j2 _ ⟨b2 + 1, k3, hm3, by omega⟩
    · rw [decide_eq_false h2]
      exact iteF (j2 _ ⟨b2, Kp.refl _ _, hm2, by omega⟩)
  · obtain ⟨b3, k3, hm3, hb3, h2⟩ := h3
    have hia3 := k3.t _ _ hia2
    have hV3 := (hV.kp k2).kp k3
    refine ⟨_, rfl, small_le (by simp), fun l hl2 => ?_⟩
    have e1 : Kp [m] H3 (upd H3 l (.lst [.str "and", .str "or"])) := Kp.new hl2
    have m1 := hm3.put (o := .lst [.str "and", .str "or"]) (hm3.ne hl2)
    have g1 : upd H3 l (.lst [.str "and", .str "or"]) l = some (.lst [.str "and", .str "or"]) := upd_same
    generalize upd H3 l (.lst [.str "and", .str "or"]) = H4 at e1 m1 g1 ⊢
    refine ⟨m, c, l, _, b3, rfl, m1, .inl (SqL.of g1), by simp, by simp, by omega, fun H5 i v5 k5 hm5 hv => ?_⟩
    have k35 := e1.trans k5
    have hia5 := k35.t _ _ hia3
    obtain ⟨x, y, rfl⟩ : ∃ x y, ks = [x, y] := by
      match ks, h2 with
      | [x, y], _ => exact ⟨x, y, rfl⟩
    refine ⟨_, rfl, ia, _, 1, _, rfl, rfl, tupT hia5, atI_nat (j := 1) rfl, _, rfl, ia, _, 0, _, rfl, rfl, tupT hia5, atI_nat (j := 0) rfl, small_le (by simp), fun p hp => ?_⟩
    have kp : Kp [m] H5 (upd H5 p (.tup [v5, y, x])) := Kp.new hp
    have gp : upd H5 p (.tup [v5, y, x]) p = some (.tup [v5, y, x]) := upd_same
    have m6 := (hm5.put (o := .tup [v5, y, x]) (hm5.ne hp)).mono (show b3 + 1 ≤ b + 4 * (t.dep + 1) by omega)
    generalize upd H5 p (.tup [v5, y, x]) = H6 at kp gp m6 ⊢
    have hV6 := (hV3.kp k35).kp kp
    have kk := k1m.trans ((k2.trans k3).trans (k35.trans kp))
    obtain ⟨tx, ty, hkk, hxx, hyy⟩ : ∃ tx ty, t.kids = [tx, ty] ∧ TmV H6 tx x ∧ TmV H6 ty y := by
      generalize t.kids = tk at hV6
      match tk, hV6 with
      | [tx, ty], h => exact ⟨tx, ty, rfl, h.1, h.2.1⟩
    obtain ⟨tn1, tn2, td, tz⟩ : tx.nok = true ∧ ty.nok = true ∧ t.dep = 1 + max tx.dep ty.dep ∧ t.size = 1 + tx.size + ty.size := by
      cases t <;> simp [Tm.kids] at hkk
      · obtain ⟨rfl, rfl⟩ := hkk
        simp only [Tm.nok, Bool.and_eq_true] at hok
        exact ⟨hok.1, hok.2, by simp only [Tm.dep]; omega, by simp only [Tm.size]; omega⟩
      · obtain ⟨rfl, rfl⟩ := hkk
        simp only [Tm.nok, Bool.and_eq_true] at hok
        exact ⟨hok.1, hok.2, by simp only [Tm.dep]; omega, by simp only [Tm.size]; omega⟩
    match i, hv with
    | 0, hv =>
      cases hv
      refine q _ _ (.and ty tx) kk m6 ⟨p, _, _, rfl, gp, hyy, hxx⟩ (by simp only [Tm.nok, tn1, tn2]; rfl) ?_ ?_
      · simp only [Tm.dep]; omega
      · simp only [Tm.size]; omega
    | 1, hv =>
      cases hv
      refine q _ _ (.or ty tx) kk m6 ⟨p, _, _, rfl, gp, hyy, hxx⟩ (by simp only [Tm.nok, tn1, tn2]; rfl) ?_ ?_
      · simp only [Tm.dep]; omega
      · simp only [Tm.size]; omega
    | i + 2, hv => simp at hv
  obtain ⟨b3, k3, hm3, hb3⟩ := h3
  have hia3 := k3.t _ _ hia2
  have hkl : 0 < ks.length := List.length_pos_iff.mpr hne
  have hkk : t.kids.length ≤ 2 := by cases t <;> simp [Tm.kids]
  refine ⟨_, rfl, _, rfl, ia, ks, rfl, .inr (tupT hia3), m, c, ks.length, b3, rfl, hm3, hkl, by omega, by omega, fun H4 i k4 hm4 hi => ?_⟩
  have k04 := k1m.trans ((k2.trans k3).trans k4)
  have ha4 := k04.t _ _ ha
  have hia4 := k4.t _ _ hia3
  have hV4 := ((hV.kp k2).kp k3).kp k4
  refine ⟨_, rfl, _, rfl, sliceHead ha4 fun p1 H5 k5 hp1 => ?_⟩
  have hcond : ¬ (HT.sIx ks.length 0 none = 0 ∧ HT.sIx ks.length ks.length (some (i : Int)) = ks.length) := fun z => by
    have := z.2
    rw [HT.sIx_nat] at this; omega
  refine ⟨_, rfl, _, rfl, _, rfl, ia, ks, rfl, tupT (k5.t _ _ hia4), fun z => absurd z hcond, fun _ p2 hp2 => ?_⟩
  rw [cut_take]
  have k6 : Kp [] H5 (upd H5 p2 (.tup (ks.take i))) := Kp.new hp2
  have g2 : upd H5 p2 (.tup (ks.take i)) p2 = some (.tup (ks.take i)) := upd_same
  generalize upd H5 p2 (.tup (ks.take i)) = H6 at k6 g2 ⊢
  refine catT (k6.t _ _ hp1) g2 (by rw [List.length_take]; simp; omega) fun p3 H7 k7 hp3 => ?_
  have k47 := (k5.trans k6).trans k7
  obtain ⟨tk, htk, hkV⟩ : ∃ tk, t.kids[i]? = some tk ∧ ∃ x, ks[i]? = some x ∧ TmV H4 tk x := by
    have h1 : t.kids[i]? = some t.kids[i] := List.getElem?_eq_getElem (by omega)
    exact ⟨_, h1, hV4.at h1⟩
  obtain ⟨x, hx, hxT⟩ := hkV
  have hkm := List.mem_of_getElem? htk
  obtain ⟨kd1, kd2, kd3⟩ := kid_dep hkm
  refine ⟨_, rfl, _, rfl, _, rfl, ia, ks, _, _, rfl, rfl, tupT (k47.t _ _ hia4), atI_nat hx, m, c, x, tk, b3 + 1, rfl, hm4.kp k47, hxT.kp k47, kd2 hok, by omega, by omega, fun H8 v8 t8 k8 hm8 ht8 hok8 hd8 hs8 => ?_⟩
  refine ⟨small_le (by simp), fun p4 hp4 => ?_⟩
  have k9 : Kp [m] H8 (upd H8 p4 (.tup [v8])) := Kp.new hp4
  have g4 : upd H8 p4 (.tup [v8]) p4 = some (.tup [v8]) := upd_same
  have m9 := hm8.put (o := .tup [v8]) (hm8.ne hp4)
  generalize upd H8 p4 (.tup [v8]) = H9 at k9 g4 m9 ⊢
  have k79 := k8.trans k9
  refine catT (k79.t _ _ hp3) g4 (by simp; omega) fun p5 H10 k10 hp5 => ?_
  have k49 : Kp [m] H4 H10 := (k47.mono0.trans k79).trans k10.mono0
  have hcond2 : ¬ (HT.sIx ks.length 0 (some ((i : Int) + 1)) = 0 ∧ HT.sIx ks.length ks.length none = ks.length) := fun z => by
    have e : ((i : Int) + 1) = ((i + 1 : Nat) : Int) := by omega
    have := z.1
    rw [e, HT.sIx_nat] at this; omega
  refine ⟨_, rfl, _, rfl, _, _, rfl, rfl, _, rfl, ia, ks, rfl, tupT (k49.t _ _ hia4), fun z => absurd z hcond2, fun _ p6 hp6 => ?_⟩
  have e : ((i : Int) + 1) = ((i + 1 : Nat) : Int) := by omega
  dsimp only
  rw [e, cut_drop]
  have k11 : Kp [] H10 (upd H10 p6 (.tup (ks.drop (i + 1)))) := Kp.new hp6
  have g6 : upd H10 p6 (.tup (ks.drop (i + 1))) p6 = some (.tup (ks.drop (i + 1))) := upd_same
  generalize upd H10 p6 (.tup (ks.drop (i + 1))) = H11 at k11 g6 ⊢
  refine catT (k11.t _ _ hp5) g6 (by rw [List.length_drop]; simp; omega) fun p7 H12 k12 hp7 => ?_
  obtain ⟨t', w1, w2, w3, w4, w5, w6⟩ := rep_ex htk hok hok8 hd8 hs8
  have k412 : Kp [m] H4 H12 := (k49.trans k11.mono0).trans k12.mono0
  have k1012 := k11.trans k12
  refine q _ _ t' (k04.trans k412) (((m9.kp k10).kp k1012).mono (by omega)) (TmV.mk (vs := ks.take i ++ [v8] ++ ks.drop (i + 1)) ?_ ?_ w3) w4 w5 w6
  · rw [hp7, w1]; simp
  · rw [w2]
    have h8 : TmVs H12 [t8] [v8] := ⟨((ht8.kp k9).kp k10).kp k1012, trivial⟩
    exact (((hV4.kp k412).take i).app h8).app ((hV4.kp k412).drop (i + 1))
end
end N0

namespace N0
open PySem L2 PySem.Spec PyProof.Rows
theorem merge_kDraw (w x s : Int) (c : Addr) : mergeK [] (kDraw w x s c) = kDraw w x s c := by with_unfolding_all rfl
def spBegun (K : PySem.W.Frag) : Sp := fun vs H Q _ => ∃ (a : Addr) (ns : List Int) (t : Nat), vs = [.ref a, .int (t : Int)] ∧ SqL K H a (ns.map V.int) ∧ ns.length ≤ 63 ∧ t ≤ 3 ∧
  ∀ H' m c, Kp [] H H' → H m = none → DrawAt H' m c 0 → Q (.ref m) H'
section
variable {P : Program} {w : World} {K : PySem.W.Frag} {mg : Str → Option Value} {base : Heap} {f C : Addr} {fd : FuncData}
theorem ok_law_begun (F : Fun K "_law_begun" "_law_begun" s_law_begun f fd) (T : Txt K mg) : FnOk P w K mg base CX0 1 f fd ["script", "turn"] (spBegun K) := by
  refine F.ok sc_law_begun (fun vs H Q E h => ?_) (fun cdv A outer s H vs Q E hr h => ?_)
  · obtain ⟨a, ns, t, rfl, _⟩ := h
    rfl
  obtain ⟨a, ns, t, rfl, ha, hn, ht, q⟩ := h
  have nd := sc_law_begun.nd
  refine ⟨_, (pss_cons (ps_set (i := 2) nd rfl (Or.inl rfl) (pe_op op_cat (pe_slice sl_list (pv 0) (po_some (pv 1)) po_none) (pe_slice sl_list (pv 0) po_none (po_some (pv 1)))))
      (pss_cons (ps_setLc (i := 3) (own := [("cell", 5)]) (g := gName 5) rfl nd rfl rfl (sw_true rfl rfl rfl (by decide +kernel)) (pi_list (pv 2)) (blkOk_by (N := N_law_begun) (sc := defScope s_law_begun) (by decide +kernel)) (fun _ _ _ _ _ => pg_name (i := 5) nd rfl (Or.inl rfl)) (fun _ _ _ _ _ => pts_one (pt_cmpR op_ge (pv 5) (pe_op op_pow pe_int pe_int) (nomark _))) (fun _ _ _ _ _ => (pv 5)))
      (pss_cons (ps_set (i := 4) nd rfl (Or.inl rfl) (pe_op op_add pe_int (pe_op op_mul pe_int (pv 1))))
      (pss_cons (ps_for PassesOwn.never rfl (pi_list (pv 2)) (pg_name (i := 5) nd rfl (Or.inl rfl)) (pss_one (ps_set (i := 4) nd rfl (Or.inl rfl) (pe_op op_mod (pe_callTy call_int1 (by rfl) T.int bt_int (pa_cons (pe_op op_add (pe_op op_mul (pv 4) pe_int) (pv 5)) pa_nil)) pe_int))))
      (pss_one (ps_ret (pe_disp (pps_cons pe_str (pe_ifExp (pt_cmpR (op_neNil hr.units0) (pv 3) (pe_lst pa_nil) (nomark _)) (pe_ix ix_list (pv 3) pe_int (fun _ _ => rfl)) pe_int) (pps_cons pe_str (pv 4) (pps_cons pe_str (pe_op op_cat (pv 2) (pe_lst (pa_cons (pe_op op_add (pe_op op_mul pe_int (pv 1)) pe_int) pa_nil))) (pps_cons pe_str pe_int pps_nil)))) (by rfl) (by rfl) (fun z => by cases z) (by decide)))))))), ?_⟩
  refine ⟨_, rfl, _, rfl, _, rfl, a, _, rfl, ha, fun p1 hp1 => ?_⟩
  rw [cut_drop]
  have k1 : Kp [] H (upd H p1 (.lst ((ns.map V.int).drop t))) := Kp.new hp1
  have g1 : upd H p1 (.lst ((ns.map V.int).drop t)) p1 = some (.lst ((ns.map V.int).drop t)) := upd_same
  generalize upd H p1 (.lst ((ns.map V.int).drop t)) = H1 at k1 g1 ⊢
  refine ⟨_, rfl, _, rfl, _, rfl, a, _, rfl, k1.same.seq ha, fun p2 hp2 => ?_⟩
  rw [cut_take]
  have k2 : Kp [] H1 (upd H1 p2 (.lst ((ns.map V.int).take t))) := Kp.new hp2
  have g2 : upd H1 p2 (.lst ((ns.map V.int).take t)) p2 = some (.lst ((ns.map V.int).take t)) := upd_same
  generalize upd H1 p2 (.lst ((ns.map V.int).take t)) = H2 at k2 g2 ⊢
  refine ⟨p1, p2, _, _, rfl, rfl, k2.k _ _ (by simp) g1, g2, small_le (by rw [List.length_drop, List.length_take, List.length_map]; omega), fun p3 hp3 => ?_⟩
  rw [← List.map_drop, ← List.map_take, ← List.map_append]
  have hcl : (ns.drop t ++ ns.take t).length ≤ 126 := by rw [List.length_append, List.length_drop, List.length_take]; omega
  generalize ns.drop t ++ ns.take t = cs at hcl ⊢
  have k3 : Kp [] H2 (upd H2 p3 (.lst (cs.map V.int))) := Kp.new hp3
  have g3 : upd H2 p3 (.lst (cs.map V.int)) p3 = some (.lst (cs.map V.int)) := upd_same
  generalize upd H2 p3 (.lst (cs.map V.int)) = H3 at k3 g3 ⊢
  have k03 := (k1.trans k2).trans k3
  refine ⟨_, rfl, p3, rfl, ⟨_, SqL.of g3⟩, fun D hD => ?_⟩
  refine lc_it (n := (cs.map V.int).length) walk_list (fun i H' => Kp [] H3 H' ∧ ∃ gs : List Int, H' D = some (.lst (gs.map V.int)) ∧ gs.length ≤ i) ⟨Kp.new hD, [], upd_same, Nat.le_refl _⟩ (fun i H' _ h => SqL.of (h.1.k _ _ (by simp) g3)) ?_ ?_
  · rintro i y _ H4 hi ⟨k4, gs, hD4, hgl⟩ ⟨rfl, hyi⟩
    rw [List.getElem?_map] at hyi
    obtain ⟨cell, hcell, rfl⟩ := Option.map_eq_some_iff.mp hyi
    rw [List.length_map] at hi
    refine ⟨rfl, _, rfl, _, _, rfl, rfl, ⟨by decide, by decide, by decide⟩, _, _, rfl, rfl, _, rfl, ?_⟩
    refine ite2 (fun hc => ?_) (fun hc => ?_)
    · refine ⟨_, rfl, _, hD4, by rw [List.length_map]; exact small_lt (by omega), k4.put hD, gs ++ [cell], ?_, by simp; omega⟩
      rw [upd_same, List.map_append]; rfl
    · exact ⟨k4, gs, hD4, by omega⟩
  rintro H4 ⟨k4, gs, hD4, hgl⟩
  rw [List.length_map] at hgl
  refine ⟨_, rfl, _, _, rfl, rfl, .inl ⟨by decide, by decide⟩, _, _, rfl, rfl, ?_⟩
  have k04 := k03.trans k4
  have g4 := k4.k _ _ (by simp) g3
  refine ⟨_, rfl, p3, rfl, ⟨_, SqL.of g4⟩, ?_⟩
  refine for_it (n := (cs.map V.int).length) walk_list (fun i σ H' => ∃ (x : Int) (o5 : Option V), σ = [some (.ref a), some (.int (t : Int)), some (.ref p3), some (.ref D), some (.int x), o5] ∧ H' = H4 ∧ -(2 ^ 63) < x ∧ x < 2 ^ 63)
    ⟨83 + 7 * (t : Int), none, rfl, rfl, by omega, by omega⟩ (fun i σ H' _ ⟨_, _, _, e, _⟩ => by rw [e]; exact SqL.of g4) ?_ ?_
  · rintro i y σ _ H5 hi ⟨x, o5, rfl, rfl, hx1, hx2⟩ ⟨rfl, hyi⟩
    rw [List.getElem?_map] at hyi
    obtain ⟨cell, hcell, rfl⟩ := Option.map_eq_some_iff.mp hyi
    refine ⟨_, rfl, _, _, rfl, rfl, .inr ⟨by decide, by decide⟩, _, rfl, _, _, rfl, rfl, .inl ⟨_, rfl, _, _, rfl, rfl, (show (0 : Int) < 2147483647 by decide), ?_⟩⟩
    have hb1 := Int.emod_nonneg (x * 48271 + cell) (show (2147483647 : Int) ≠ 0 by decide)
    have hb2 := Int.emod_lt_of_pos (x * 48271 + cell) (show (0 : Int) < 2147483647 by decide)
    exact ⟨(x * 48271 + cell) % 2147483647, _, rfl, rfl, by omega, by omega⟩
  · rintro σ H5 ⟨x, o5, rfl, rfl, hx1, hx2⟩
    intro m hm
    have k5 : Kp [] H5 (upd H5 m (.dK [])) := Kp.new hm
    have gm : upd H5 m (.dK []) m = some (.dK []) := upd_same
    have hm4 : H m = none := k04.n _ hm
    generalize upd H5 m (.dK []) = H6 at k5 gm ⊢
    have hD6 := k5.k _ _ (by simp) hD4
    have g6 := k5.k _ _ (by simp) g4
    refine ⟨_, rfl, Nat.zero_le _, fun l hl => ?_⟩
    have k7 : Kp [] H6 (upd H6 l (.lst [])) := Kp.new hl
    have gl : upd H6 l (.lst []) l = some (.lst []) := upd_same
    generalize upd H6 l (.lst []) = H7 at k7 gl ⊢
    have hD7 := k7.k _ _ (by simp) hD6
    have g7 := k7.k _ _ (by simp) g6
    have gm7 := k7.k _ _ (by simp) gm
    refine ⟨D, l, _, rfl, rfl, SqL.of hD7, SqL.of gl, _, rfl, ?_⟩
    have h59 : (59 : Int) * (t : Int) + 23 = (59 * t + 23 : Nat) := by omega
    cases gs with
    | nil =>
      refine iteF ?_
      refine ⟨_, rfl, _, rfl, _, rfl, _, _, rfl, rfl, .inl ⟨by decide, by decide⟩, _, _, rfl, rfl, small_le (by simp), fun l2 hl2 => ?_⟩
      have k8 : Kp [] H7 (upd H7 l2 (.lst [.int (59 * (t : Int) + 23)])) := Kp.new hl2
      have g8 : upd H7 l2 (.lst [.int (59 * (t : Int) + 23)]) l2 = some (.lst [.int (59 * (t : Int) + 23)]) := upd_same
      refine ⟨p3, l2, _, _, rfl, rfl, k8.k _ _ (by simp) g7, g8, small_le (by simp; omega), fun p5 hp5 => ?_⟩
      have k9 := k8.add (o := .lst (cs.map V.int ++ [.int (59 * (t : Int) + 23)])) hp5
      refine ⟨k9.k _ _ (by simp) gm7, kDraw 0 x 0 p5, rfl, (show 4 ≤ 15 by decide), ?_⟩
      rw [merge_kDraw]
      have hmm : m ≠ p5 := fun z => by rw [← z, k8.k _ _ (by simp) gm7] at hp5; cases hp5
      refine q _ m p5 (((k04.trans k5).trans (k7.trans k9)).put hm4) hm4 ⟨0, x, 0, cs ++ [59 * (t : Int) + 23], upd_same, ?_, by simp, by simp; omega, hx1, hx2, Nat.le_refl _⟩
      rw [upd_ne (fun z => hmm z.symm), upd_same, List.map_append]; rfl
    | cons wh r =>
      refine iteT ?_
      refine ⟨_, rfl, D, _, _, _, rfl, rfl, SqL.of hD7, atI_nat (j := 0) rfl, ?_⟩
      refine ⟨_, rfl, _, rfl, _, rfl, _, _, rfl, rfl, .inl ⟨by decide, by decide⟩, _, _, rfl, rfl, small_le (by simp), fun l2 hl2 => ?_⟩
      have k8 : Kp [] H7 (upd H7 l2 (.lst [.int (59 * (t : Int) + 23)])) := Kp.new hl2
      have g8 : upd H7 l2 (.lst [.int (59 * (t : Int) + 23)]) l2 = some (.lst [.int (59 * (t : Int) + 23)]) := upd_same
      refine ⟨p3, l2, _, _, rfl, rfl, k8.k _ _ (by simp) g7, g8, small_le (by simp; omega), fun p5 hp5 => ?_⟩
      have k9 := k8.add (o := .lst (cs.map V.int ++ [.int (59 * (t : Int) + 23)])) hp5
      refine ⟨k9.k _ _ (by simp) gm7, kDraw wh x 0 p5, rfl, (show 4 ≤ 15 by decide), ?_⟩
      rw [merge_kDraw]
      have hmm : m ≠ p5 := fun z => by rw [← z, k8.k _ _ (by simp) gm7] at hp5; cases hp5
      refine q _ m p5 (((k04.trans k5).trans (k7.trans k9)).put hm4) hm4 ⟨wh, x, 0, cs ++ [59 * (t : Int) + 23], upd_same, ?_, by simp, by simp; omega, hx1, hx2, Nat.le_refl _⟩
      rw [upd_ne (fun z => hmm z.symm), upd_same, List.map_append]; rfl
end
end N0

namespace N0
open PySem L2 PySem.Spec PyProof.Rows
/-- a call with keywords alone -/
structure KB0 (fd : FuncData) (ps ks : List Str) (g : List Value → List Value) (gV : List V → List V) : Prop where
  to : ∀ (s : Shared) (ws : List Value), (g ws).length = ps.length → BindsTo s fd ⟨[], ks.zip ws⟩ (ps.zip (g ws))
  rel : ∀ {zs : List V} {ws : List Value}, Vals zs ws → Vals (gV zs) (g ws)
def tCallK0 (sp : Sp) (gV : List V → List V) (E : XK) (tk : TA) : TE := fun σ H Q => tk σ H fun zs H2 => sp (gV zs) H2 Q E
structure DefK (P : Program) (w : World) (K : PySem.W.Frag) (mg : Str → Option Value) (base : Heap) (x : Str) (k : Nat) (ps ks : List Str) (g : List Value → List Value) (gV : List V → List V) (sp : Sp) : Prop where
  ex : ∃ (f : Addr) (fd : FuncData), FnOk P w K mg base CX0 k f fd ps sp ∧ mg x = some (.ref f) ∧ PySem.W.keepIn K (.ref f) = true ∧ KB0 fd ps ks g gV
section
variable {X : Cx} {k : Nat} {ps ks : List Str} {sp : Sp} {x : Str} {p pos : Pos} {kws : List Keyword} {tk : TA} {g : List Value → List Value} {gV : List V → List V}
theorem e_fnK0 (D : DefK X.prog X.w X.K X.mg X.base x k ps ks g gV sp) (hr : Room k X.A) (hkw : PK X kws tk) (hg : Gl X x := by rfl) (hdb : (x == ("__debug__" : Str)) = false := by decide)
    (hall : (backToKw pos (keywordEach kws X.env)).all (·.1.isSome) = true := by rfl) (hks : (backToKw pos (keywordEach kws X.env)).filterMap (·.1) = ks := by rfl)
    (hpl : ((backTo pos (starEach [] X.env)).any (·.1) || (backToKw pos (keywordEach kws X.env)).any (·.1.isNone)) = false := by rfl) :
    PE X (.Call (.Name x p) [] kws pos) (tCallK0 sp gV E0 tk) := by
  obtain ⟨f, fd, F, hm, hk, hb⟩ := D.ex
  refine ⟨fun pins s σ H Q I h => ?_⟩
  refine wpAny_Call_Name_kw (ld_glob I hg hm ?_ hdb)
  refine PySem.W.callWith_KW0 (h₀ := X.base) I.ok.mod.kin hk hall (thn (hkw.run pos pins s σ H _ I h) fun ws s2 ⟨zs, H2, I2, rz, q2⟩ => ⟨I2.kIn, ?_⟩) hpl
  rw [hks]
  have r2 := hb.rel rz
  have hl : (g ws).length = ps.length := by rw [← r2.length]; exact F.len _ _ _ _ q2
  refine wpAny_call (codeAny_mono (F.run X.A X.stack s2 H2 ⟨[], ks.zip ws⟩ (g ws) (gV zs) Q E0 hr I2.env0 (hb.to s2 ws hl) r2 q2) fun r s' hq => ?_)
  cases r with
  | error e => exact pass0 pins σ H2 s2 e s' I2 hq
  | ok fl =>
    cases fl with
    | ret u => exact I2.after hq
    | next => exact False.elim hq
    | brk => exact False.elim hq
    | cont => exact False.elim hq
end
def rev2 {α : Type} : List α → List α
  | [a, b] => [b, a]
  | l => l
theorem rev2_rel {zs : List V} {ws : List Value} (h : Vals zs ws) : Vals (rev2 zs) (rev2 ws) := by
  cases h with
  | nil => exact .nil
  | cons h1 t1 => cases t1 with
    | nil => exact .cons h1 .nil
    | cons h2 t2 => cases t2 with
      | nil => exact .cons h2 (.cons h1 .nil)
      | cons h3 t3 => exact .cons h1 (.cons h2 (.cons h3 t3))
end N0

namespace N0
open PySem L2 PySem.Spec PyProof.Rows
theorem sle_trans {x y z : Str} (h1 : slt y x = false) (h2 : slt z y = false) : slt z x = false := by
  cases h : slt z x with
  | false => rfl
  | true =>
    exfalso
    by_cases e : x = y
    · subst e; rw [h] at h2; cases h2
    · rcases slt_tri e with q | q
      · rw [slt_trans h q] at h2; cases h2
      · rw [q] at h1; cases h1
theorem rising_pair : ∀ (l : List Str) (p : Str), risingS p l = true → (p :: l).Pairwise fun a b => slt b a = false
  | [], p, _ => List.pairwise_singleton _ _
  | x :: r, p, h => by
    rw [risingS, Bool.and_eq_true, ltCps_eq] at h
    have h1 : slt x p = false := by
      have := h.1
      revert this
      unfold slt
      cases decide (x.cps.toList < p.cps.toList) <;> simp
    have ih := rising_pair r x h.2
    refine List.pairwise_cons.mpr ⟨fun y hy => ?_, ih⟩
    rcases List.mem_cons.mp hy with rfl | z
    · exact h1
    · exact sle_trans h1 ((List.pairwise_cons.mp ih).1 y z)
theorem sorted_pair : ∀ {l : List Str}, sortedS l = true → l.Pairwise fun a b => slt b a = false
  | [], _ => List.Pairwise.nil
  | x :: r, h => rising_pair r x h
theorem sorted_uniq : ∀ {l m : List Str}, l.Perm m → (l.Pairwise fun a b => slt b a = false) → (m.Pairwise fun a b => slt b a = false) → l = m
  | [], m, h, _, _ => (List.nil_perm.mp h).symm
  | a :: l, [], h, _, _ => absurd h.length_eq (by simp)
  | a :: l, b :: m, h, h1, h2 => by
    have p1 := List.pairwise_cons.mp h1
    have p2 := List.pairwise_cons.mp h2
    have e : a = b := by
      by_cases e : a = b
      · exact e
      · exfalso
        have ha : a ∈ m := by
          rcases List.mem_cons.mp (h.mem_iff.mp (List.mem_cons_self ..)) with z | z
          · exact absurd z e
          · exact z
        have hb : b ∈ l := by
          rcases List.mem_cons.mp (h.mem_iff.mpr (List.mem_cons_self ..)) with z | z
          · exact absurd z.symm e
          · exact z
        rcases slt_tri e with q | q
        · rw [p2.1 a ha] at q; cases q
        · rw [p1.1 b hb] at q; cases q
    subst e
    rw [sorted_uniq (List.Perm.cons_inv h) p1.2 p2.2]
theorem pl_toD : ∀ t : Tm, pl t.toD = true
  | .yes => by simp [Tm.toD, pl, plAll]
  | .no => by simp [Tm.toD, pl, plAll]
  | .letter s => by simp [Tm.toD, pl, plAll]
  | .not a => by simp [Tm.toD, pl, plAll, pl_toD a]
  | .and a b => by simp [Tm.toD, pl, plAll, pl_toD a, pl_toD b]
  | .or a b => by simp [Tm.toD, pl, plAll, pl_toD a, pl_toD b]
theorem pl_map : ∀ ts : List Tm, plAll (ts.map Tm.toD) = true
  | [] => by simp [plAll]
  | t :: ts => by rw [List.map_cons, plAll, pl_toD, pl_map ts]; rfl
theorem pl_strs : ∀ ns : List Str, plAll (ns.map PyData.str) = true ∧ PyData.depthAll (ns.map PyData.str) = 0
  | [] => by simp [plAll, PyData.depthAll]
  | s :: ns => by
    obtain ⟨h1, h2⟩ := pl_strs ns
    rw [List.map_cons, plAll, PyData.depthAll, h1, h2]; simp [pl, PyData.depth]
theorem dp_strs {K : PySem.W.Frag} {H : Hp} : ∀ ns : List Str, DpAll K H (ns.map V.str) (ns.map PyData.str)
  | [] => .nil
  | s :: ns => .cons (.str s) (dp_strs ns)
theorem depth_map : ∀ {ts : List Tm} {n : Nat}, (∀ t ∈ ts, t.dep ≤ n) → PyData.depthAll (ts.map Tm.toD) ≤ n + 1
  | [], n, _ => by simp [PyData.depthAll]
  | t :: ts, n, h => by
    have := depth_map fun u hu => h u (List.mem_cons_of_mem _ hu)
    have h1 := depth_toD t
    have h2 := h t (List.mem_cons_self ..)
    rw [List.map_cons, PyData.depthAll]; omega
theorem subs_dep : ∀ {t u : Tm}, u ∈ t.subs → u.dep ≤ t.dep ∧ u.size ≤ t.size := by
  intro t
  induction t with
  | yes => intro u hu; simp [Tm.subs] at hu; subst hu; exact ⟨Nat.le_refl _, Nat.le_refl _⟩
  | no => intro u hu; simp [Tm.subs] at hu; subst hu; exact ⟨Nat.le_refl _, Nat.le_refl _⟩
  | letter s => intro u hu; simp [Tm.subs] at hu; subst hu; exact ⟨Nat.le_refl _, Nat.le_refl _⟩
  | not a ih =>
    intro u hu
    rcases (subs_kids _ _).mp hu with ⟨k, hk, hq⟩ | rfl
    · simp [Tm.kids] at hk; subst hk
      have := ih hq
      simp only [Tm.dep, Tm.size]; omega
    · exact ⟨Nat.le_refl _, Nat.le_refl _⟩
  | and a b iha ihb =>
    intro u hu
    rcases (subs_kids _ _).mp hu with ⟨k, hk, hq⟩ | rfl
    · simp [Tm.kids] at hk
      rcases hk with rfl | rfl
      · have := iha hq
        simp only [Tm.dep, Tm.size]; omega
      · have := ihb hq
        simp only [Tm.dep, Tm.size]; omega
    · exact ⟨Nat.le_refl _, Nat.le_refl _⟩
  | or a b iha ihb =>
    intro u hu
    rcases (subs_kids _ _).mp hu with ⟨k, hk, hq⟩ | rfl
    · simp [Tm.kids] at hk
      rcases hk with rfl | rfl
      · have := iha hq
        simp only [Tm.dep, Tm.size]; omega
      · have := ihb hq
        simp only [Tm.dep, Tm.size]; omega
    · exact ⟨Nat.le_refl _, Nat.le_refl _⟩
def spOne : Sp := fun vs H Q _ => ∃ (x v : V) (t : Tm), vs = [x, v] ∧ TmV H t v ∧ t.nok = true ∧ t.dep ≤ 6 ∧ t.size ≤ 63 ∧ ∀ H', Kp [] H H' → Q (.bl true) H'
section
variable {P : Program} {w : World} {K : PySem.W.Frag} {mg : Str → Option Value} {base : Heap} {f C : Addr} {fd : FuncData}
theorem ok_law_one_right {k k2 k3 k4 k5 : Nat} (hk : k2 ≤ k ∧ k3 ≤ k ∧ k4 ≤ k ∧ k5 ≤ k ∧ 44 ≤ k) (F : Fun K "_law_one_right" "_law_one_right" s_law_one_right f fd) (T : Txt K mg)
    (DK_term_size : DefK P w K mg base "term_size" 6 ["term"] ["term"] id id (spTS Tm.size)) (DK_term_depth : DefK P w K mg base "term_depth" 6 ["term"] ["term"] id id (spTS Tm.dep))
    (DK_term_letters : DefK P w K mg base "term_letters" 44 ["term"] ["term"] id id (spLI true)) (DK_need_term : DefK P w K mg base "need_term" 5 ["term"] ["term"] id id spNT)
    (DK_is_term : DefK P w K mg base "is_term" 4 ["value"] ["value"] id id (spIsTerm K)) (DK_term_parts : DefK P w K mg base "term_parts" 43 ["term"] ["term"] id id (spPO true))
    (D_is_lesser : Def P w K mg base "is_lesser" 43 ["term", "other"] spLO)
    (D_law_same : Def P w K mg base "_law_same" k2 ["told", "due"] (spSame K 12)) (D_law_size : Def P w K mg base "_law_size" 9 ["node"] (spZ Tm.size 8)) (D_law_deep : Def P w K mg base "_law_deep" 9 ["node"] (spZ Tm.dep 8))
    (D_law_names_in : Def P w K mg base "_law_names_in" k3 ["node"] spNms) (D_law_all_parts : Def P w K mg base "_law_all_parts" k4 ["node"] (spAP 8)) (D_law_ordered : Def P w K mg base "_law_ordered" k5 ["some"] spOrd) :
    FnOk P w K mg base CX0 (k + 1) f fd ["m", "node"] spOne := by
  refine F.ok sc_law_one_right (fun vs H Q E h => ?_) (fun cdv A outer s H vs Q E hr h => ?_)
  · obtain ⟨x, v, t, rfl, _⟩ := h
    rfl
  obtain ⟨x, v, t, rfl, ht, hok, hd, hz, q⟩ := h
  have nd := sc_law_one_right.nd
  refine ⟨_, (pss_cons (ps_set (i := 2) nd rfl (Or.inl rfl) (pe_tup (pa_cons (e_fnK0 DK_term_size (hr.mono (by omega)) (pk_cons (pv 1) pk_nil)) (pa_cons (e_fnK0 DK_term_depth (hr.mono (by omega)) (pk_cons (pv 1) pk_nil)) (pa_cons (e_fnK0 DK_term_letters (hr.mono (by omega)) (pk_cons (pv 1) pk_nil)) (pa_cons (e_fnK0 DK_need_term (hr.mono (by omega)) (pk_cons (pv 1) pk_nil)) (pa_cons (e_fnK0 DK_is_term (hr.mono (by omega)) (pk_cons (pv 1) pk_nil)) pa_nil)))))))
      (pss_cons (ps_if (pt_not (pt_val (e_fn D_law_same (hr.mono (by omega)) (pa_cons (pv 2) (pa_cons (pe_tup (pa_cons (e_fn D_law_size (hr.mono (by omega)) (pa_cons (pv 1) pa_nil)) (pa_cons (e_fn D_law_deep (hr.mono (by omega)) (pa_cons (pv 1) pa_nil)) (pa_cons (e_fn D_law_names_in (hr.mono (by omega)) (pa_cons (pv 1) pa_nil)) (pa_cons (pv 1) (pa_cons pe_bl pa_nil)))))) pa_nil))))) (pss_one (ps_ret pe_bl)) pss_nil)
      (pss_cons (ps_set (i := 3) nd rfl (Or.inl rfl) (e_fn D_law_ordered (hr.mono (by omega)) (pa_cons (e_fn D_law_all_parts (hr.mono (by omega)) (pa_cons (pv 1) pa_nil)) pa_nil)))
      (pss_cons (ps_if (pt_not (pt_val (e_fn D_law_same (hr.mono (by omega)) (pa_cons (e_fnK0 DK_term_parts (hr.mono (by omega)) (pk_cons (pv 1) pk_nil)) (pa_cons (pe_callTy call_tuple_of (by rfl) T.tuple bt_tuple (pa_cons (pv 3) pa_nil)) pa_nil))))) (pss_one (ps_ret pe_bl)) pss_nil)
      (pss_cons (ps_for PassesOwn.never rfl (RZ.pi_zipA (by rfl) T.zip (pa_cons (pv 3) (pa_cons (pe_slice sl_list (pv 3) (po_some pe_int) po_none) pa_nil))) (pg_tup rfl (pgs_cons (pg_name (i := 4) nd rfl (Or.inl rfl)) (pgs_cons (pg_name (i := 5) nd rfl (Or.inl rfl)) pgs_nil))) (pss_one (ps_if (PW.pt (pw_or (pt_cmpR op_isnot_bl (e_fn D_is_lesser (hr.mono (by omega)) (pa_cons (pv 4) (pa_cons (pv 5) pa_nil))) pe_bl (nomark _)) (pw_or1 (pt_cmpR op_isnot_bl (e_fn D_is_lesser (hr.mono (by omega)) (pa_cons (pv 5) (pa_cons (pv 4) pa_nil))) pe_bl (nomark _))))) (pss_one (ps_ret pe_bl)) pss_nil)))
      (pss_one (ps_ret (pe_cmpR op_is_bl (e_fn D_is_lesser (hr.mono (by omega)) (pa_cons (pv 1) (pa_cons (pv 1) pa_nil))) pe_bl (nomark _))))))))), ?_⟩
  have hsm : Small t := ⟨hok, by omega, by omega⟩
  have hg : Good t := ⟨hok, by omega⟩
  have h64 : (lets (addP [] t)).length < 64 := by
    have h1 := lets_len (addP [] t)
    have h2 := addP_len t []
    simp only [List.length_nil] at h2; omega
  refine ⟨_, rfl, v, t, rfl, ht, hsm, fun H1 k1 => ⟨_, rfl, v, t, rfl, ht.kp k1, hsm, fun H2 k2 => ?_⟩⟩
  have k02 := k1.trans k2
  refine ⟨_, rfl, v, t, rfl, ht.kp k02, by omega, hsm, h64, fun H3 la ns k3 hla hnp hns => ?_⟩
  have k03 := k02.trans k3
  refine ⟨_, rfl, v, t, rfl, ht.kp k03, hsm, fun H4 k4 => ?_⟩
  have k04 := k03.trans k4
  refine ⟨_, rfl, v, t.toD, rfl, (ht.kp k04).dp, strs_toD t hok, hsm.nsz, .inr ⟨t, ht.kp k04, hsm, rfl, fun H5 k5 => ⟨small_le (by simp), fun p hp => ?_⟩⟩⟩
  have k05 := k04.trans k5
  have kp : Kp [] H5 (upd H5 p (.tup [.int t.size, .int t.dep, .ref la, v, .bl true])) := Kp.new hp
  have gp : upd H5 p (.tup [.int t.size, .int t.dep, .ref la, v, .bl true]) p = some (.tup [.int t.size, .int t.dep, .ref la, v, .bl true]) := upd_same
  generalize upd H5 p (.tup [.int t.size, .int t.dep, .ref la, v, .bl true]) = H6 at kp gp ⊢
  have k06 := k05.trans kp
  refine ⟨_, rfl, _, rfl, v, t, rfl, ht.kp k06, by omega, fun H7 k7 => ⟨_, rfl, v, t, rfl, (ht.kp k06).kp k7, by omega, fun H8 k8 => ?_⟩⟩
  have k08 := (k06.trans k7).trans k8
  refine ⟨_, rfl, v, t, rfl, ht.kp k08, by omega, hg, by omega, h64, fun H9 nb ms k9 hnb hmp hms => ?_⟩
  have k09 := k08.trans k9
  have ems : ms = ns := sorted_uniq (hmp.trans hnp.symm) (sorted_pair hms) (sorted_pair hns)
  subst ems
  refine ⟨_, rfl, small_le (by simp), fun p2 hp2 => ?_⟩
  have kp2 : Kp [] H9 (upd H9 p2 (.tup [.int t.size, .int t.dep, .ref nb, v, .bl true])) := Kp.new hp2
  have gp2 : upd H9 p2 (.tup [.int t.size, .int t.dep, .ref nb, v, .bl true]) p2 = some (.tup [.int t.size, .int t.dep, .ref nb, v, .bl true]) := upd_same
  generalize upd H9 p2 (.tup [.int t.size, .int t.dep, .ref nb, v, .bl true]) = H10 at kp2 gp2 ⊢
  have k010 := k09.trans kp2
  have k610 := ((k7.trans k8).trans k9).trans kp2
  have k310 := (((k4.trans k5).trans kp).trans k610)
  have ht10 := ht.kp k010
  have hml : ms.length ≤ 63 := by rw [hmp.length_eq]; omega
  refine ⟨_, _, .tuple [.int t.size, .int t.dep, .tuple (ms.map PyData.str), t.toD, .bool true], rfl,
    .tup (tupT (k610.t _ _ gp)) (.cons (.int _) (.cons (.int _) (.cons (.tup (tupT (k310.t _ _ hla)) (dp_strs ms)) (.cons ht10.dp (.cons (.bl true) .nil))))),
    .tup (tupT gp2) (.cons (.int _) (.cons (.int _) (.cons (.tup (tupT (kp2.t _ _ hnb)) (dp_strs ms)) (.cons ht10.dp (.cons (.bl true) .nil))))), ?_, ?_, fun H11 k11 => ?_⟩
  · simp only [pl, plAll, pl_toD, (pl_strs ms).1, List.length_map, List.length_cons, List.length_nil, Bool.and_true, Bool.true_and]
    have hml2 : ms.length ≤ 1000 := by omega
    simp [hml2]
  · have := depth_toD t
    simp only [PyData.depth, PyData.depthAll, (pl_strs ms).2]; omega
  refine ⟨_, rfl, iteF ?_⟩
  have k011 := k010.trans k11
  refine ⟨_, rfl, v, t, rfl, ht.kp k011, by omega, hg, by omega, fun H12 pa lv ts k12 hpa0 hpa hV hn hm => ?_⟩
  have k012 := k011.trans k12
  obtain ⟨hperm, htl⟩ := parts_len hn hm
  have hgs : ∀ u ∈ ts, G8 u := fun u hu => ⟨subs_good hg u ((hm u).mp hu), by have := (subs_dep ((hm u).mp hu)).1; omega⟩
  refine ⟨pa, lv, ts, rfl, hpa, hV, hgs, by omega, fun H13 ob rv k13 hob hR => ?_⟩
  have k013 := k012.trans k13
  have hS : ord ts = ord (addP [] t) := by
    have h1 := ord_perm hn
    have h2 := ord_perm (addP_nodup t List.nodup_nil)
    refine inc_ext h1.2 h2.2 fun u => ?_
    rw [h1.1.mem_iff, h2.1.mem_iff, hperm.mem_iff]
  have hSm : ∀ u ∈ ord ts, u ∈ t.subs := fun u hu => (hm u).mp ((ord_perm hn).1.mem_iff.mp hu)
  have hSi := (ord_perm hn).2
  have hSl : (ord ts).length ≤ 63 := by rw [(ord_perm hn).1.length_eq]; omega
  rw [hS] at hR hSm hSi hSl
  clear hS
  refine ⟨_, rfl, v, t, rfl, ht.kp k013, by omega, hsm, fun H14 qa qv k14 hqa hq => ?_⟩
  have k014 := k013.trans k14
  generalize ord (addP [] t) = S at *
  have hrl := hR.len
  have hob14 := k14.k _ _ (by simp) hob
  refine ⟨_, rfl, ob, rv, rfl, .inl ⟨SqL.of hob14, fun p3 hp3 => ?_⟩⟩
  have kp3 : Kp [] H14 (upd H14 p3 (.tup rv)) := Kp.new hp3
  have gp3 : upd H14 p3 (.tup rv) p3 = some (.tup rv) := upd_same
  generalize upd H14 p3 (.tup rv) = H15 at kp3 gp3 ⊢
  have k015 := k014.trans kp3
  have hR15 := (hR.kp k14).kp kp3
  refine ⟨_, _, .tuple (S.map Tm.toD), rfl, .tup (tupT (kp3.t _ _ hqa)) (hq.kp kp3).dp, .tup (tupT gp3) hR15.dp, ?_, ?_, fun H16 k16 => ?_⟩
  · rw [pl, pl_map, List.length_map, decide_eq_true (by omega)]; rfl
  · have := depth_map (ts := S) (n := 6) fun u hu => by have := (subs_dep (hSm u hu)).1; omega
    rw [PyData.depth]; omega
  refine ⟨_, rfl, iteF ?_⟩
  have hob16 := (kp3.trans k16).k _ _ (by simp) hob14
  have k016 := k015.trans k16
  have hR16 := hR15.kp k16
  refine ⟨_, rfl, _, rfl, _, rfl, ob, rv, rfl, SqL.of hob16, fun p4 hp4 => ?_⟩
  have kp4 : Kp [] H16 (upd H16 p4 (.lst (cutV rv (some 1) none))) := Kp.new hp4
  have e1 : cutV rv (some 1) none = rv.drop 1 := cut_drop rv 1
  rw [e1] at kp4 ⊢
  have gp4 : upd H16 p4 (.lst (rv.drop 1)) p4 = some (.lst (rv.drop 1)) := upd_same
  generalize upd H16 p4 (.lst (rv.drop 1)) = H17 at kp4 gp4 ⊢
  have hob17 := kp4.k _ _ (by simp) hob16
  have k017 := k016.trans kp4
  have hR17 := hR16.kp kp4
  have hpos : ∀ u ∈ S, TmV H17 u x → True := fun _ _ _ => trivial
  refine ⟨ob, p4, rv, rv.drop 1, rfl, .inl ⟨SqL.of hob17, SqL.of gp4, ?_⟩⟩
  refine for_it (n := rv.length - 1) (walk_zip (xs := rv) (ys := rv.drop 1) (by rw [List.length_drop]; omega)) (fun i σ H' => ∃ (a0 a1 a2 a3 a4 a5 : Option V), σ = [some x, some v, a2, a3, a4, a5] ∧ Kp [] H17 H')
    ⟨none, none, _, _, none, none, rfl, Kp.refl _ _⟩ (fun i σ H' _ ⟨_, _, _, _, _, _, _, k⟩ => ⟨SqL.of (k.k _ _ (by simp) hob17), SqL.of (k.k _ _ (by simp) gp4)⟩) ?_ ?_
  · rintro i y σ H18 _ hi ⟨a0, a1, a2, a3, a4, a5, rfl, k18⟩ ⟨Tp, y1, y2, rfl, hTp, rfl, h1, h2⟩
    have kT : Kp [] H18 (upd H18 Tp (.tup [y1, y2])) := Kp.new hTp
    have h1' : rv[i]? = some y1 := h1
    have h2' : rv[i + 1]? = some y2 := by have := h2; dsimp only at this; rw [List.getElem?_drop, Nat.add_comm] at this; exact this
    obtain ⟨u1, hu1, hu1T⟩ := hR17.get h1'
    obtain ⟨u2, hu2, hu2T⟩ := hR17.get h2'
    have hs1 := hSm u1 (List.mem_of_getElem? hu1)
    have hs2 := hSm u2 (List.mem_of_getElem? hu2)
    have hlt : Tm.lt u1 u2 = true := by
      have hp := List.pairwise_iff_getElem.mp hSi i (i + 1) (List.getElem?_eq_some_iff.mp hu1).1 (List.getElem?_eq_some_iff.mp hu2).1 (by omega)
      rw [(List.getElem?_eq_some_iff.mp hu1).2, (List.getElem?_eq_some_iff.mp hu2).2] at hp
      exact hp
    have d1 := subs_dep hs1
    have d2 := subs_dep hs2
    have s1 : Small u1 := ⟨(subs_good hg u1 hs1).1, by omega, by omega⟩
    have s2 : Small u2 := ⟨(subs_good hg u2 hs2).1, by omega, by omega⟩
    refine ⟨Tp, _, rfl, tupT upd_same, rfl, _, _, rfl, _, _, rfl, rfl, ?_⟩
    generalize upd H18 Tp (.tup [y1, y2]) = H19 at kT ⊢
    have k19 := k18.trans kT
    refine ⟨_, rfl, _, rfl, y1, y2, u1, u2, rfl, hu1T.kp k19, hu2T.kp k19, by omega, by omega, s1, s2, by omega, fun H20 k20 => ⟨_, _, rfl, rfl, _, rfl, ?_⟩⟩
    rw [hlt]
    refine iteF ⟨_, rfl, _, rfl, y2, y1, u2, u1, rfl, (hu2T.kp k19).kp k20, (hu1T.kp k19).kp k20, by omega, by omega, s2, s1, by omega, fun H21 k21 => ⟨_, _, rfl, rfl, _, rfl, ?_⟩⟩
    rw [Tm.lt_asym hlt]
    exact iteF ⟨none, none, _, _, _, _, rfl, (k19.trans k20).trans k21⟩
  · rintro σ H18 ⟨a0, a1, a2, a3, a4, a5, rfl, k18⟩
    have k018 := k017.trans k18
    refine ⟨_, rfl, _, rfl, v, v, t, t, rfl, ht.kp k018, ht.kp k018, by omega, by omega, hsm, hsm, by omega, fun H19 k19 => ⟨_, _, rfl, rfl, ?_⟩⟩
    rw [Tm.lt_irr]
    exact q _ (k018.trans k19)
end
end N0

namespace N0
open PySem L2 PySem.Spec PyProof.Rows
theorem shapedB (a b : Bool) : SeqAt.shaped (.tuple [.bool a, .bool b]) = true := rfl
theorem eqvB (a b c d : Bool) : PyData.eqv (.tuple [.bool a, .bool b]) (.tuple [.bool c, .bool d]) = (a == c && b == d) := by
  simp [PyData.eqv, PyData.eqvAll]
def spTwo : Sp := fun vs H Q _ => ∃ (x v w : V) (t u : Tm), vs = [x, v, w] ∧ TmV H t v ∧ TmV H u w ∧ t.nok = true ∧ u.nok = true ∧ t.dep < 8 ∧ u.dep < 8 ∧ t.size ≤ 100 ∧ u.size ≤ 100 ∧ ∀ H', Kp [] H H' → Q (.bl true) H'
section
variable {P : Program} {w : World} {K : PySem.W.Frag} {mg : Str → Option Value} {base : Heap} {f C : Addr} {fd : FuncData}
theorem ok_law_two_right {k k2 k3 : Nat} (hk : k2 ≤ k ∧ k3 ≤ k ∧ 43 ≤ k) (F : Fun K "_law_two_right" "_law_two_right" s_law_two_right f fd) (T : Txt K mg)
    (DK_is_lesser : DefK P w K mg base "is_lesser" 43 ["term", "other"] ["other", "term"] rev2 rev2 spLO)
    (D_law_same : Def P w K mg base "_law_same" k2 ["told", "due"] (spSame K 12)) (D_law_is_less : Def P w K mg base "_law_is_less" k3 ["one", "far"] (spIL 8)) :
    FnOk P w K mg base CX0 (k + 1) f fd ["m", "node", "late"] spTwo := by
  refine F.ok sc_law_two_right (fun vs H Q E h => ?_) (fun cdv A outer s H vs Q E hr h => ?_)
  · obtain ⟨x, v, z, t, u, rfl, _⟩ := h
    rfl
  obtain ⟨x, v, z, t, u, rfl, ht, hu, hto, huo, htd, hud, hts, hus, q⟩ := h
  have nd := sc_law_two_right.nd
  refine ⟨_, (pss_cons (ps_set (i := 3) nd rfl (Or.inl rfl) (pe_tup (pa_cons (e_fnK0 DK_is_lesser (hr.mono (by omega)) (pk_cons (pv 2) (pk_cons (pv 1) pk_nil))) (pa_cons (e_fnK0 DK_is_lesser (hr.mono (by omega)) (pk_cons (pv 1) (pk_cons (pv 2) pk_nil))) pa_nil))))
      (pss_cons (ps_set (i := 4) nd rfl (Or.inl rfl) (pe_tup (pa_cons (e_fn D_law_is_less (hr.mono (by omega)) (pa_cons (pv 1) (pa_cons (pv 2) pa_nil))) (pa_cons (e_fn D_law_is_less (hr.mono (by omega)) (pa_cons (pv 2) (pa_cons (pv 1) pa_nil))) pa_nil))))
      (pss_one (ps_ret (pe_and (e_fn D_law_same (hr.mono (by omega)) (pa_cons (pv 3) (pa_cons (pv 4) pa_nil))) (pe_and (pe_cmpR op_eq (pe_cmpR (op_eqD hr.units) (pv 1) (pv 2) (nomark _)) (pe_cmpR (op_eqD hr.units) (pv 4) (pe_tup (pa_cons pe_bl (pa_cons pe_bl pa_nil))) (nomark _)) (nomark _)) (pe_one (pe_cmpR (op_neD hr.units) (pv 4) (pe_tup (pa_cons pe_bl (pa_cons pe_bl pa_nil))) (nomark _))))))))), ?_⟩
  have hst : Small t := ⟨hto, by omega, by omega⟩
  have hsu : Small u := ⟨huo, by omega, by omega⟩
  have hgt : Good t := ⟨hto, by omega⟩
  have hgu : Good u := ⟨huo, by omega⟩
  refine ⟨_, rfl, _, rfl, v, z, t, u, rfl, ht, hu, by omega, by omega, hst, hsu, by omega, fun H1 k1 => ⟨_, rfl, _, rfl, z, v, u, t, rfl, hu.kp k1, ht.kp k1, by omega, by omega, hsu, hst, by omega, fun H2 k2 => ⟨small_le (by simp), fun p hp => ?_⟩⟩⟩
  have kp : Kp [] H2 (upd H2 p (.tup [.bl (Tm.lt t u), .bl (Tm.lt u t)])) := Kp.new hp
  have gp : upd H2 p (.tup [.bl (Tm.lt t u), .bl (Tm.lt u t)]) p = some (.tup [.bl (Tm.lt t u), .bl (Tm.lt u t)]) := upd_same
  generalize upd H2 p (.tup [.bl (Tm.lt t u), .bl (Tm.lt u t)]) = H3 at kp gp ⊢
  have k03 := (k1.trans k2).trans kp
  refine ⟨_, rfl, _, rfl, v, z, t, u, rfl, ht.kp k03, hu.kp k03, by omega, by omega, by omega, hgt, hgu, fun H4 k4 => ⟨_, rfl, _, rfl, z, v, u, t, rfl, (hu.kp k03).kp k4, (ht.kp k03).kp k4, by omega, by omega, by omega, hgu, hgt, fun H5 k5 => ⟨small_le (by simp), fun p2 hp2 => ?_⟩⟩⟩
  have kp2 : Kp [] H5 (upd H5 p2 (.tup [.bl (Tm.lt t u), .bl (Tm.lt u t)])) := Kp.new hp2
  have gp2 : upd H5 p2 (.tup [.bl (Tm.lt t u), .bl (Tm.lt u t)]) p2 = some (.tup [.bl (Tm.lt t u), .bl (Tm.lt u t)]) := upd_same
  generalize upd H5 p2 (.tup [.bl (Tm.lt t u), .bl (Tm.lt u t)]) = H6 at kp2 gp2 ⊢
  have k36 := (k4.trans k5).trans kp2
  have k06 := k03.trans k36
  refine ⟨_, rfl, _, rfl, _, _, .tuple [.bool (Tm.lt t u), .bool (Tm.lt u t)], rfl, .tup (tupT (k36.t _ _ gp)) (.cons (.bl _) (.cons (.bl _) .nil)), .tup (tupT gp2) (.cons (.bl _) (.cons (.bl _) .nil)), by simp [pl, plAll], ?_, fun H7 k7 => ?_⟩
  · simp only [PyData.depth, PyData.depthAll]; omega
  have k07 := k06.trans k7
  have gp7 := k7.t _ _ gp2
  refine ⟨_, rfl, iteT ?_⟩
  refine ⟨_, rfl, _, rfl, t.toD, u.toD, (ht.kp k07).dp, (hu.kp k07).dp, hgt.sh, hgu.sh, ?_⟩
  refine ⟨_, rfl, small_le (by simp), fun p3 hp3 => ?_⟩
  have kp3 : Kp [] H7 (upd H7 p3 (.tup [.bl false, .bl false])) := Kp.new hp3
  have gp3 : upd H7 p3 (.tup [.bl false, .bl false]) p3 = some (.tup [.bl false, .bl false]) := upd_same
  have gp8 := kp3.t _ _ gp7
  generalize upd H7 p3 (.tup [.bl false, .bl false]) = H8 at kp3 gp3 gp8 ⊢
  refine ⟨.tuple [.bool (Tm.lt t u), .bool (Tm.lt u t)], .tuple [.bool false, .bool false], .tup (tupT gp8) (.cons (.bl _) (.cons (.bl _) .nil)), .tup (tupT gp3) (.cons (.bl _) (.cons (.bl _) .nil)), shapedB _ _, shapedB _ _, rfl, ?_⟩
  have key : decide (V.bl (PyData.eqv t.toD u.toD) = V.bl (PyData.eqv (.tuple [.bool (Tm.lt t u), .bool (Tm.lt u t)]) (.tuple [.bool false, .bool false]))) = true := by
    rw [eqv_toD, eqvB]
    apply decide_eq_true
    congr 1
    by_cases e : t = u
    · subst e
      rw [decide_eq_true rfl, Tm.lt_irr]; rfl
    · rw [decide_eq_false e]
      rcases Tm.lt_tri e with h | h
      · rw [h]; rfl
      · rw [h]; simp
  rw [key]
  refine ⟨_, rfl, iteT ?_⟩
  refine ⟨_, rfl, small_le (by simp), fun p4 hp4 => ?_⟩
  have kp4 : Kp [] H8 (upd H8 p4 (.tup [.bl true, .bl true])) := Kp.new hp4
  have gp4 : upd H8 p4 (.tup [.bl true, .bl true]) p4 = some (.tup [.bl true, .bl true]) := upd_same
  refine ⟨.tuple [.bool (Tm.lt t u), .bool (Tm.lt u t)], .tuple [.bool true, .bool true], .tup (tupT (kp4.t _ _ gp8)) (.cons (.bl _) (.cons (.bl _) .nil)), .tup (tupT gp4) (.cons (.bl _) (.cons (.bl _) .nil)), shapedB _ _, shapedB _ _, ?_⟩
  have key2 : (!PyData.eqv (.tuple [.bool (Tm.lt t u), .bool (Tm.lt u t)]) (.tuple [.bool true, .bool true])) = true := by
    rw [eqvB]
    cases h : Tm.lt t u with
    | false => rfl
    | true => rw [Tm.lt_asym h]; rfl
  rw [key2]
  exact q _ ((k07.trans kp3).trans kp4)
end
end N0

namespace N0
open PySem L2 PySem.Spec PyProof.Rows
def OddOk (d : PyData) : Prop := wfD d = false ∧ strsOk d = true ∧ nsz d ≤ 10000
theorem wf_node {d : PyData} (h : isNodeD d = false) : wfD d = false := by rw [wfD_eq, h, Bool.false_and]
theorem TmV.raw {K : PySem.W.Frag} {H : Hp} : ∀ {t : Tm} {v : V}, TmV H t v → ∃ a xs, v = .ref a ∧ H a = some (.tup (.str t.wd :: xs)) ∧ DpAll K H xs (tlD t) ∧ xs.length ≤ 2
  | .yes, _, ⟨a, e, h⟩ => ⟨a, [], e, h, .nil, by simp⟩
  | .no, _, ⟨a, e, h⟩ => ⟨a, [], e, h, .nil, by simp⟩
  | .letter s, _, ⟨a, e, h⟩ => ⟨a, [.str s], e, h, .cons (.str _) .nil, by simp⟩
  | .not t, _, ⟨a, x, e, h, h1⟩ => ⟨a, [x], e, h, .cons h1.dp .nil, by simp⟩
  | .and t u, _, ⟨a, x, y, e, h, h1, h2⟩ => ⟨a, [x, y], e, h, .cons h1.dp (.cons h2.dp .nil), by simp⟩
  | .or t u, _, ⟨a, x, y, e, h, h1, h2⟩ => ⟨a, [x, y], e, h, .cons h1.dp (.cons h2.dp .nil), by simp⟩
theorem strsAll_app : ∀ (a b : List PyData), strsOkAll (a ++ b) = (strsOkAll a && strsOkAll b)
  | [], b => by simp [strsOkAll]
  | x :: a, b => by rw [List.cons_append, strsOkAll, strsOkAll, strsAll_app a b, Bool.and_assoc]
theorem node_strs {t : Tm} (h : t.nok = true) : strsOk (.str t.wd) = true ∧ strsOkAll (tlD t) = true := by
  have := strs_toD t h
  rw [toD_tl, strsOk, strsOkAll, Bool.and_eq_true] at this
  exact this
theorem nsz_str (s : Str) : nsz (.str s) = 1 := by simp [nsz]
theorem node_nsz (t : Tm) : nszAll (tlD t) + 2 = nsz t.toD := by
  rw [toD_tl, nsz, nszAll, nsz_str]; omega
theorem odd1 {t : Tm} (h : t.nok = true) (hs : t.size ≤ 100) : OddOk (.tuple (.str t.wd :: (tlD t ++ [t.toD]))) := by
  refine ⟨wf_node ?_, ?_, ?_⟩
  · cases t <;> simp only [tlD, Tm.kids, Tm.wd, List.map_cons, List.map_nil, List.cons_append, List.nil_append, isNodeD, isNodeL, List.length_cons, List.length_nil, List.headD] <;>
      first
      | decide +kernel
      | (simp; decide +kernel)
      | rfl
  · rw [strsOk, strsOkAll, strsAll_app, (node_strs h).1, (node_strs h).2, strsOkAll, strsOkAll, strs_toD t h]; rfl
  · have h1 := node_nsz t
    have h2 := nsz_toD t
    rw [nsz, nszAll, nszAll_app, nszAll, nszAll, nsz_str]
    omega
theorem odd2 {t : Tm} (h : t.nok = true) (hs : t.size ≤ 100) : OddOk (.list (.str t.wd :: tlD t)) := by
  refine ⟨rfl, ?_, ?_⟩
  · rw [strsOk, strsOkAll, (node_strs h).1, (node_strs h).2]; rfl
  · have h1 := node_nsz t
    have h2 := nsz_toD t
    rw [nsz, nszAll, nsz_str]
    omega
theorem odd3 {t : Tm} (h : t.nok = true) (hs : t.size ≤ 100) : OddOk (.tuple [t.toD]) := by
  refine ⟨wf_node ?_, ?_, ?_⟩
  · rw [toD_tl]; rfl
  · rw [strsOk, strsOkAll, strs_toD t h, strsOkAll]; rfl
  · have h2 := nsz_toD t
    rw [nsz, nszAll, nszAll]
    omega
theorem not3 (a b : PyData) : isNodeL [.str "not", a, b] = false := by
  rw [isNodeL]
  have e1 : decide (V.int (([a, b].length + 1 : Nat) : Int) = .int 2) = false := by simp
  have e2 : inV (.str "not") [.str "and", .str "or"] = false := by decide +kernel
  rw [if_neg (by decide +kernel), if_neg (by decide +kernel), e1, e2]; simp
theorem odd4 {t u : Tm} (h : t.nok = true) (hs : t.size ≤ 100) (hu : u.nok = true) (hus : u.size ≤ 100) : OddOk (.tuple [.str "not", t.toD, u.toD]) := by
  refine ⟨wf_node ?_, ?_, ?_⟩
  · exact not3 t.toD u.toD
  · rw [strsOk, strsOkAll, strsOkAll, strs_toD t h, strsOkAll, strs_toD u hu, strsOkAll]; decide +kernel
  · have h2 := nsz_toD t
    have h3 := nsz_toD u
    rw [nsz, nszAll, nszAll, nszAll, nszAll, nsz_str]
    omega
theorem odd5 {t : Tm} (h : t.nok = true) : OddOk (.tuple [.str t.wd, .none]) := by
  refine ⟨?_, ?_, ?_⟩
  · cases t <;> simp only [Tm.wd] <;> decide +kernel
  · rw [strsOk, strsOkAll, (node_strs h).1, strsOkAll, strsOkAll, strsOk]; rfl
    all_goals simp
  · simp [nsz, nszAll]
theorem odd6 : OddOk (.tuple [.str "letter", .str "Aa"]) := ⟨by decide +kernel, by decide +kernel, by decide +kernel⟩
theorem odd7 : OddOk .none := ⟨rfl, rfl, by decide +kernel⟩
end N0

namespace N0
open PySem L2 PySem.Spec PyProof.Rows
theorem szm5 : ∀ d, d < 6 → szm d ≤ 63 := by decide
def spLaw (K : PySem.W.Frag) : Sp := fun vs H Q _ => ∃ (a : Addr) (ns : List Int), vs = [.ref a] ∧ SqL K H a (ns.map V.int) ∧ ns.length ≤ 63 ∧ ∀ H', Q (.bl true) H'
theorem TmV.isT {H : Hp} {t : Tm} {v : V} (h : TmV H t v) : ∃ a xs, v = .ref a ∧ H a = some (.tup xs) := by
  obtain ⟨a, xs, ks, e, h, _⟩ := h.node
  exact ⟨a, _, e, h⟩
section
variable {P : Program} {w : World} {K : PySem.W.Frag} {mg : Str → Option Value} {base : Heap} {f C : Addr} {fd : FuncData}
theorem ok_law {k k1 k2 k3 k4 : Nat} (hk : k1 ≤ k ∧ k2 ≤ k ∧ k3 ≤ k ∧ k4 ≤ k ∧ 4 ≤ k) (F : Fun K "law" "law" s_law f fd) (T : Txt K mg)
    (D_law_begun : Def P w K mg base "_law_begun" 1 ["script", "turn"] (spBegun K)) (D_law_draw : Def P w K mg base "_law_draw" 1 ["m", "limit"] spDraw) (D_law_letters : Def P w K mg base "_law_letters" 3 ["m", "wide"] spLetters)
    (D_law_term : Def P w K mg base "_law_term" k1 ["m", "letters_so", "deep"] (spTerm 8)) (D_law_altered : Def P w K mg base "_law_altered" k2 ["m", "node"] (spAlt 8))
    (D_law_one_right : Def P w K mg base "_law_one_right" k3 ["m", "node"] spOne) (D_law_two_right : Def P w K mg base "_law_two_right" k4 ["m", "node", "late"] spTwo) (D_is_term : Def P w K mg base "is_term" 4 ["value"] (spIsTerm K)) :
    FnOk P w K mg base CX0 (k + 1) f fd ["script"] (spLaw K) := by
  refine F.ok sc_law (fun vs H Q E h => ?_) (fun cdv A outer s H vs Q E hr h => ?_)
  · obtain ⟨a, ns, rfl, _⟩ := h
    rfl
  obtain ⟨a, ns, rfl, ha, hn, q⟩ := h
  have nd := sc_law.nd
  refine ⟨_, (pss_cons (ps_for PassesOwn.never rfl (pi_range1 rfl T.range (pa_cons (pe_op op_add pe_int (pe_callB (call_min2 rfl) (by rfl) T.min bt_min (pa_cons pe_int (pa_cons (e_len T (pa_cons (pv 0) pa_nil)) pa_nil)))) pa_nil)) (pg_name (i := 1) nd rfl (Or.inl rfl)) (pss_cons (ps_set (i := 2) nd rfl (Or.inl rfl) (e_fn D_law_begun (hr.mono (by omega)) (pa_cons (pv 0) (pa_cons (pv 1) pa_nil))))
      (pss_cons (ps_set (i := 3) nd rfl (Or.inl rfl) (e_fn D_law_letters (hr.mono (by omega)) (pa_cons (pv 2) (pa_cons (pe_op op_add pe_int (e_fn D_law_draw (hr.mono (by omega)) (pa_cons (pv 2) (pa_cons pe_int pa_nil)))) pa_nil))))
      (pss_cons (ps_par (i := 4) (j := 5) rfl nd rfl rfl (by decide) rfl rfl (pa_cons (e_fn D_law_term (hr.mono (by omega)) (pa_cons (pv 2) (pa_cons (pv 3) (pa_cons (pe_op op_add pe_int (e_fn D_law_draw (hr.mono (by omega)) (pa_cons (pv 2) (pa_cons pe_int pa_nil)))) pa_nil)))) (pa_cons (e_fn D_law_term (hr.mono (by omega)) (pa_cons (pv 2) (pa_cons (pv 3) (pa_cons (pe_op op_add pe_int (e_fn D_law_draw (hr.mono (by omega)) (pa_cons (pv 2) (pa_cons pe_int pa_nil)))) pa_nil)))) pa_nil)) rfl)
      (pss_cons (ps_set (i := 6) nd rfl (Or.inl rfl) (e_fn D_law_altered (hr.mono (by omega)) (pa_cons (pv 2) (pa_cons (pv 4) pa_nil))))
      (pss_cons (ps_if (PW.pt (pw_or (pt_not (pt_val (e_fn D_law_one_right (hr.mono (by omega)) (pa_cons (pv 2) (pa_cons (pv 4) pa_nil))))) (pw_or (pt_not (pt_val (e_fn D_law_two_right (hr.mono (by omega)) (pa_cons (pv 2) (pa_cons (pv 4) (pa_cons (pv 5) pa_nil)))))) (pw_or1 (pt_not (pt_val (e_fn D_law_two_right (hr.mono (by omega)) (pa_cons (pv 2) (pa_cons (pv 4) (pa_cons (pv 6) pa_nil)))))))))) (pss_one (ps_ret pe_bl)) pss_nil)
      (pss_one (ps_for PassesOwn.never rfl (pi_tup (pe_tup (pa_cons (pe_op op_catA (pv 4) (pe_tup (pa_cons (pv 4) pa_nil))) (pa_cons (pe_callTy call_list_of (by rfl) T.list bt_list (pa_cons (pv 4) pa_nil)) (pa_cons (pe_tup (pa_cons (pv 4) pa_nil)) (pa_cons (pe_op op_catA (pe_tup (pa_cons pe_str pa_nil)) (pe_tup (pa_cons (pv 4) (pa_cons (pv 5) pa_nil)))) (pa_cons (pe_op op_catA (pe_slice sl_tupA (pv 4) po_none (po_some pe_int)) (pe_tup (pa_cons pe_non pa_nil))) (pa_cons (pe_tup (pa_cons pe_str (pa_cons pe_str pa_nil))) (pa_cons pe_non pa_nil))))))))) (pg_name (i := 7) nd rfl (Or.inl rfl)) (pss_one (ps_if (pt_cmpR op_isnot_bl (e_fn D_is_term (hr.mono (by omega)) (pa_cons (pv 7) pa_nil)) pe_bl (nomark _)) (pss_one (ps_ret pe_bl)) pss_nil))))))))))
      (pss_one (ps_ret pe_bl))), ?_⟩
  refine ⟨_, rfl, a, _, rfl, .inl ha, 3, _, rfl, _, _, rfl, rfl, _, rfl, ?_, ?_, ?_⟩
  · rw [List.length_map]; split <;> omega
  · rw [List.length_map]; split <;> omega
  have hj : (1 + (if ((ns.map V.int).length : Int) < 3 then ((ns.map V.int).length : Int) else 3)).toNat ≤ 4 := by
    rw [List.length_map]; split <;> omega
  generalize (1 + (if ((ns.map V.int).length : Int) < 3 then ((ns.map V.int).length : Int) else 3)).toNat = J at hj
  refine for_it (n := J) walk_range (fun i σ H' => ∃ (o1 o2 o3 o4 o5 o6 o7 : Option V), σ = [some (.ref a), o1, o2, o3, o4, o5, o6, o7] ∧ Kp [] H H')
    ⟨none, none, none, none, none, none, none, rfl, Kp.refl _ _⟩ (fun _ _ _ _ _ => trivial) ?_ ?_
  · rintro i y σ _ H0 hi ⟨o1, o2, o3, o4, o5, o6, o7, rfl, k0⟩ ⟨rfl, rfl⟩
    have e0 : (0 : Int) + (i : Int) = (i : Int) := by omega
    dsimp only [gName]
    rw [e0]
    refine ⟨_, rfl, _, rfl, a, ns, i, rfl, k0.same.seq ha, hn, by omega, fun H1 m c k1 hm0 hm1 => ?_⟩
    refine ⟨_, rfl, _, rfl, m, c, 4, 0, rfl, hm1, by decide, by decide, by decide, fun H2 i2 k2 hm2 hi2 => ⟨_, _, rfl, rfl, ?_⟩⟩
    refine ⟨m, c, 1 + i2, 1, rfl, hm2, by omega, by decide, fun H3 la nm k3 hm3 hla hnl hnk => ?_⟩
    have hm3 := hm3.mono (show 1 + 4 * (1 + i2) ≤ 20 by omega)
    refine ⟨_, rfl, _, rfl, _, rfl, m, c, 5, 20, rfl, hm3, by decide, by decide, by decide, fun H4 d1 k4 hm4 hd1 => ⟨_, _, rfl, rfl, ?_⟩⟩
    have z1 := szm5 (1 + d1) (by omega)
    refine ⟨m, c, la, nm, 1 + d1, 21, rfl, hm4, k4.t _ _ hla, by omega, by omega, hnk, by omega, by omega, fun H5 nv t k5 hm5 ht htok htd hts => ?_⟩
    have hm5 := hm5.mono (show 21 + 3 * szm (1 + d1) ≤ 220 by omega)
    refine ⟨_, rfl, _, rfl, _, rfl, m, c, 3, 220, rfl, hm5, by decide, by decide, by decide, fun H6 d2 k6 hm6 hd2 => ⟨_, _, rfl, rfl, ?_⟩⟩
    have z2 := szm5 (1 + d2) (by omega)
    refine ⟨m, c, la, nm, 1 + d2, 221, rfl, hm6, ((k4.trans k5).trans k6).t _ _ hla, by omega, by omega, hnk, by omega, by omega, fun H7 lv u k7 hm7 hu huok hud hus => ?_⟩
    have hm7 := hm7.mono (show 221 + 3 * szm (1 + d2) ≤ 420 by omega)
    have ht7 := (ht.kp k6).kp k7
    refine ⟨_, _, rfl, ?_⟩
    refine ⟨_, rfl, _, rfl, m, c, nv, t, 420, rfl, hm7, ht7, htok, by omega, by omega, fun H8 bv b k8 hm8 hb hbok hbd hbs => ?_⟩
    have ht8 := ht7.kp k8
    have hu8 := hu.kp k8
    have k18 : Kp [m] H1 H8 := (((((k2.trans k3).trans k4).trans k5).trans k6).trans k7).trans k8
    have k08 : Kp [] H H8 := k0.trans (k1.cut k18 (by simp [hm0]))
    refine ⟨_, rfl, _, rfl, _, _, t, rfl, ht8, htok, by omega, by omega, fun H9 k9 => ⟨_, rfl, iteF ?_⟩⟩
    refine ⟨_, rfl, _, rfl, _, rfl, _, _, _, t, u, rfl, ht8.kp k9, hu8.kp k9, htok, huok, by omega, by omega, by omega, by omega, fun H10 k10 => ⟨_, rfl, iteF ?_⟩⟩
    have k810 := k9.trans k10
    refine ⟨_, rfl, _, rfl, _, rfl, _, _, _, t, b, rfl, ht8.kp k810, hb.kp k810, htok, hbok, by omega, by omega, by omega, by omega, fun H11 k11 => ⟨_, rfl, iteF ?_⟩⟩
    have k811 := k810.trans k11
    have k011 := k08.trans k811
    have ht11 := ht8.kp k811
    have hu11 := hu8.kp k811
    obtain ⟨a4, xs, rfl, h4, hxs, hxl⟩ := ht11.raw (K := K)
    -- node + (node,)
    refine ⟨_, rfl, _, rfl, small_le (by simp), fun p1 hp1 => ?_⟩
    have j1 : Kp [] H11 (upd H11 p1 (.tup [.ref a4])) := Kp.new hp1
    have g1 : upd H11 p1 (.tup [.ref a4]) p1 = some (.tup [.ref a4]) := upd_same
    generalize upd H11 p1 (.tup [.ref a4]) = G1 at j1 g1 ⊢
    refine catT (j1.t _ _ h4) g1 (by simp; omega) fun c1 G2 j2 hc1 => ?_
    -- list(node)
    have w2 := j1.trans j2
    refine ⟨_, rfl, a4, _, rfl, .inr (tupT (w2.t _ _ h4)), fun l2 hl2 => ?_⟩
    have j3 : Kp [] G2 (upd G2 l2 (.lst (.str t.wd :: xs))) := Kp.new hl2
    have g3 : upd G2 l2 (.lst (.str t.wd :: xs)) l2 = some (.lst (.str t.wd :: xs)) := upd_same
    generalize upd G2 l2 (.lst (.str t.wd :: xs)) = G3 at j3 g3 ⊢
    have w3 := w2.trans j3
    -- (node,)
    refine ⟨_, rfl, small_le (by simp), fun p3 hp3 => ?_⟩
    have j4 : Kp [] G3 (upd G3 p3 (.tup [.ref a4])) := Kp.new hp3
    have g4 : upd G3 p3 (.tup [.ref a4]) p3 = some (.tup [.ref a4]) := upd_same
    generalize upd G3 p3 (.tup [.ref a4]) = G4 at j4 g4 ⊢
    have w4 := w3.trans j4
    -- ('not',) + (node, late)
    refine ⟨small_le (by simp), fun p4 hp4 => ?_⟩
    have j5 : Kp [] G4 (upd G4 p4 (.tup [.str "not"])) := Kp.new hp4
    have g5 : upd G4 p4 (.tup [.str "not"]) p4 = some (.tup [.str "not"]) := upd_same
    generalize upd G4 p4 (.tup [.str "not"]) = G5 at j5 g5 ⊢
    refine ⟨_, rfl, _, rfl, small_le (by simp), fun p5 hp5 => ?_⟩
    have j6 : Kp [] G5 (upd G5 p5 (.tup [.ref a4, lv])) := Kp.new hp5
    have g6 : upd G5 p5 (.tup [.ref a4, lv]) p5 = some (.tup [.ref a4, lv]) := upd_same
    generalize upd G5 p5 (.tup [.ref a4, lv]) = G6 at j6 g6 ⊢
    refine catT (j6.t _ _ g5) g6 (by simp) fun c4 G7 j7 hc4 => ?_
    have w7 := ((w4.trans j5).trans j6).trans j7
    -- node[:1] + (None,)
    refine ⟨_, rfl, _, rfl, sliceHead (w7.t _ _ h4) fun s5 G8 j8 hs5 => ?_⟩
    refine ⟨small_le (by simp), fun p6 hp6 => ?_⟩
    have j9 : Kp [] G8 (upd G8 p6 (.tup [.non])) := Kp.new hp6
    have g9 : upd G8 p6 (.tup [.non]) p6 = some (.tup [.non]) := upd_same
    generalize upd G8 p6 (.tup [.non]) = G9 at j9 g9 ⊢
    refine catT (j9.t _ _ hs5) g9 (by simp) fun c5 G10 j10 hc5 => ?_
    have w10 := ((w7.trans j8).trans j9).trans j10
    -- ('letter', 'Aa')
    refine ⟨small_le (by simp), fun p7 hp7 => ?_⟩
    have j11 : Kp [] G10 (upd G10 p7 (.tup [.str "letter", .str "Aa"])) := Kp.new hp7
    have g11 : upd G10 p7 (.tup [.str "letter", .str "Aa"]) p7 = some (.tup [.str "letter", .str "Aa"]) := upd_same
    generalize upd G10 p7 (.tup [.str "letter", .str "Aa"]) = G11 at j11 g11 ⊢
    have w11 := w10.trans j11
    refine ⟨small_le (by simp), fun pT hpT => ?_⟩
    have j12 : Kp [] G11 (upd G11 pT (.tup [.ref c1, .ref l2, .ref p3, .ref c4, .ref c5, .ref p7, .non])) := Kp.new hpT
    have g12 : upd G11 pT (.tup [.ref c1, .ref l2, .ref p3, .ref c4, .ref c5, .ref p7, .non]) pT = some (.tup [.ref c1, .ref l2, .ref p3, .ref c4, .ref c5, .ref p7, .non]) := upd_same
    generalize upd G11 pT (.tup [.ref c1, .ref l2, .ref p3, .ref c4, .ref c5, .ref p7, .non]) = G12 at j12 g12 ⊢
    have w12 := w11.trans j12
    have ht12 := ht11.kp w12
    have hu12 := hu11.kp w12
    have hts2 : t.size ≤ 100 := by omega
    have hus2 : u.size ≤ 100 := by omega
    have hx12 : DpAll K G12 xs (tlD t) := DpAll.kp w12 hxs
    have odd : ∀ (i : Nat) (y : V), ([.ref c1, .ref l2, .ref p3, .ref c4, .ref c5, .ref p7, .non] : List V)[i]? = some y → ∃ d, Dp K G12 y d ∧ OddOk d := fun i y hy => by
      match i, hy with
      | 0, hy =>
        cases hy
        have q1 := (((((((j3.trans j4).trans j5).trans j6).trans j7).trans j8).trans j9).trans j10 |>.trans j11 |>.trans j12).t _ _ hc1
        refine ⟨_, .tup (tupT q1) (.cons (.str _) ?_), odd1 htok hts2⟩
        have : ∀ {xs : List V} {ds : List PyData} {x : V} {d : PyData}, DpAll K G12 xs ds → Dp K G12 x d → DpAll K G12 (xs ++ [x]) (ds ++ [d]) := by
          intro xs
          induction xs with
          | nil => intro ds x d h1 h2; cases h1; exact .cons h2 .nil
          | cons z zs ih => intro ds x d h1 h2; cases h1 with
            | cons h1 h3 => exact .cons h1 (ih h3 h2)
        exact this hx12 ht12.dp
      | 1, hy =>
        cases hy
        have q1 := ((((((((j4.trans j5).trans j6).trans j7).trans j8).trans j9).trans j10).trans j11).trans j12).k _ _ (by simp) g3
        exact ⟨_, .lst (SqL.of q1) (.cons (.str _) hx12), odd2 htok hts2⟩
      | 2, hy =>
        cases hy
        have q1 := (((((((j5.trans j6).trans j7).trans j8).trans j9).trans j10).trans j11).trans j12).t _ _ g4
        exact ⟨_, .tup (tupT q1) (.cons ht12.dp .nil), odd3 htok hts2⟩
      | 3, hy =>
        cases hy
        have q1 := ((((j8.trans j9).trans j10).trans j11).trans j12).t _ _ hc4
        exact ⟨_, .tup (tupT q1) (.cons (.str _) (.cons ht12.dp (.cons hu12.dp .nil))), odd4 htok hts2 huok hus2⟩
      | 4, hy =>
        cases hy
        have q1 := (j11.trans j12).t _ _ hc5
        exact ⟨_, .tup (tupT q1) (.cons (.str _) (.cons .non .nil)), odd5 htok⟩
      | 5, hy =>
        cases hy
        exact ⟨_, .tup (tupT (j12.t _ _ g11)) (.cons (.str _) (.cons (.str _) .nil)), odd6⟩
      | 6, hy => cases hy; exact ⟨_, .non, odd7⟩
      | i + 7, hy => simp at hy
    generalize ([.ref c1, .ref l2, .ref p3, .ref c4, .ref c5, .ref p7, .non] : List V) = vals at g12 odd
    refine ⟨pT, rfl, ⟨_, tupT g12⟩, ?_⟩
    refine for_it (n := vals.length) walk_tup (fun i σ H' => ∃ (o1 o2 o3 o4 o5 o6 o7 : Option V), σ = [some (.ref a), o1, o2, o3, o4, o5, o6, o7] ∧ Kp [] G12 H')
      ⟨_, _, _, _, _, _, _, rfl, Kp.refl _ _⟩ (fun i σ H' _ ⟨_, _, _, _, _, _, _, _, k⟩ => tupT (k.t _ _ g12)) ?_ ?_
    · rintro i y σ _ H13 hi ⟨b1, b2, b3, b4, b5, b6, b7, rfl, k13⟩ ⟨rfl, hy⟩
      obtain ⟨d, hd, o1, o2, o3⟩ := odd i y hy
      refine ⟨_, rfl, y, d, rfl, Dp.kp k13 hd, o2, o3, .inl ⟨o1, fun H14 k14 => ⟨_, _, rfl, rfl, _, rfl, ?_⟩⟩⟩
      exact iteF ⟨_, _, _, _, _, _, _, rfl, k13.trans k14⟩
    · rintro σ H13 ⟨b1, b2, b3, b4, b5, b6, b7, rfl, k13⟩
      exact ⟨_, _, _, _, _, _, _, rfl, (k011.trans w12).trans k13⟩
  · rintro σ H1 ⟨o1, o2, o3, o4, o5, o6, o7, rfl, k1⟩
    exact q _
end
end N0

namespace N0
open PySem L2 PySem.Spec PyProof.Rows
/-- a def of the text, under its name -/
structure FG (K : PySem.W.Frag) (mg : Str → Option Value) (x : Str) (st : Stmt) : Prop where
  ex : ∃ (f : Addr) (fd : FuncData), Fun K x x st f fd ∧ mg x = some (.ref f) ∧ PySem.W.keepIn K (.ref f) = true
theorem fnG {K : PySem.W.Frag} {h : Heap} {mg : Str → Option Value} {x : Str} {st : Stmt} {f : Addr} {oc : Value} {od an : Option Addr} {osl : Array (Option Value)} {kV doc pm cdv ct : Value} (X : K.In h) (G : h.Ns mainGlobals mg)
    (a : PySem.W.nsIn K mainGlobals x = some (some (.ref f))) (l : K.lookup f = some ⟨oc, od, .func (PySem.W.fnOf x x (defArgs st) (defBody st) (defScope st) .none kV doc pm an cdv ct), osl⟩)
    (c : PySem.W.codeIn K cdv x = true) (k : PySem.W.keepIn K (.ref f) = true) : FG K mg x st := ⟨f, _, fun_mk (st := st) l c k, PySem.W.mg_of X G a, k⟩
theorem _root_.L2.Fun.kb1 {K : PySem.W.Frag} {x qual : Str} {st : Stmt} {f : Addr} {fd : FuncData} {p : Str} (F : Fun K x qual st f fd)
    (h : ∀ (kV doc pm : Value) (an : Option Addr) (cdv ct : Value) (a : Value), bindArgs (PySem.W.fnOf x qual (defArgs st) (defBody st) (defScope st) .none kV doc pm an cdv ct) ⟨[], [(p, a)]⟩ = pure [(p, a)]) : KB0 fd [p] [p] id id := by
  obtain ⟨oc, od, kV, doc, pm, an, cdv, ct, osl, rfl, lk, hcd⟩ := F.ex
  exact ⟨fun s ws hl => match ws, hl with | [a], _ => .of_eq (h kV doc pm an cdv ct a), fun r => r⟩
theorem _root_.L2.Fun.kb2 {K : PySem.W.Frag} {x qual : Str} {st : Stmt} {f : Addr} {fd : FuncData} {p r : Str} (F : Fun K x qual st f fd)
    (h : ∀ (kV doc pm : Value) (an : Option Addr) (cdv ct : Value) (a b : Value), bindArgs (PySem.W.fnOf x qual (defArgs st) (defBody st) (defScope st) .none kV doc pm an cdv ct) ⟨[], [(r, a), (p, b)]⟩ = pure [(p, b), (r, a)]) : KB0 fd [p, r] [r, p] rev2 rev2 := by
  obtain ⟨oc, od, kV, doc, pm, an, cdv, ct, osl, rfl, lk, hcd⟩ := F.ex
  refine ⟨fun s ws hl => ?_, rev2_rel⟩
  match ws, hl with
  | [a, b], _ => exact .of_eq (h kV doc pm an cdv ct a b)
  | [], hl => simp [rev2] at hl
  | [_], hl => simp [rev2] at hl
  | _ :: _ :: _ :: _, hl => simp [rev2] at hl
theorem _root_.L2.Fun.law1 {K : PySem.W.Frag} {f : Addr} {fd : FuncData} (F : Fun K "law" "law" s_law f fd) : ∀ (s : Shared) (v : Value), BindsTo s fd ⟨[v], []⟩ [("script", v)] := by
  obtain ⟨oc, od, kV, doc, pm, an, cdv, ct, osl, rfl, lk, hcd⟩ := F.ex
  exact fun s v => .of_eq rfl
theorem vac {P : Program} {w : World} {K : PySem.W.Frag} {mg : Str → Option Value} {base : Heap} {k : Nat} {f : Addr} {fd : FuncData} {ps : List Str} {sp : Sp} (h : ∀ vs H Q E, ¬ sp vs H Q E) : FnOk P w K mg base CX0 k f fd ps sp :=
  ⟨fun vs H Q E q => (h vs H Q E q).elim, fun A outer s H args us vs Q E _ _ _ _ q => (h vs H Q E q).elim⟩
theorem kept_of {x : Str} {n : Int} {mg : Str → Option Value} {h : Heap} (L : PySem.W.LooseAre [(x, .int n)] mg h) : ∃ t, mg x = some (.int n t) := by
  obtain ⟨v, h1, h2⟩ := L.val _ (List.mem_singleton.mpr rfl)
  cases h2
  exact ⟨_, h1⟩
theorem txt_mk {K : PySem.W.Frag} {h : Heap} {mg : Str → Option Value} (X : K.In h) (G : h.Ns mainGlobals mg) {t1 t2 t3 t5 u1 u2 u3 u4 u5 v1 v2 v3 v4 v5 v6 : Tok} {aw ak : Addr} {wd : Option Addr} {wn kn : Nat} {wsl ksl : Array (Option Value)}
    (z1 : PySem.W.nsIn K mainGlobals "isinstance" = some none) (z2 : PySem.W.nsIn K mainGlobals "len" = some none) (z3 : PySem.W.nsIn K mainGlobals "str" = some none) (z4 : PySem.W.nsIn K mainGlobals "tuple" = some none) (z5 : PySem.W.nsIn K mainGlobals "list" = some none)
    (z6 : PySem.W.nsIn K mainGlobals "int" = some none) (z7 : PySem.W.nsIn K mainGlobals "bool" = some none) (z8 : PySem.W.nsIn K mainGlobals "all" = some none) (z9 : PySem.W.nsIn K mainGlobals "range" = some none) (z10 : PySem.W.nsIn K mainGlobals "max" = some none)
    (z11 : PySem.W.nsIn K mainGlobals "min" = some none) (z12 : PySem.W.nsIn K mainGlobals "sum" = some none) (z13 : PySem.W.nsIn K mainGlobals "sorted" = some none) (z14 : PySem.W.nsIn K mainGlobals "enumerate" = some none) (z15 : PySem.W.nsIn K mainGlobals "zip" = some none)
    (c1 : PySem.W.nsIn K mainGlobals "MOST_NAME" = some (some (.int 8 t1))) (c2 : PySem.W.nsIn K mainGlobals "MOST_DEEP" = some (some (.int 40 t2))) (c3 : PySem.W.nsIn K mainGlobals "MOST_SIZE" = some (some (.int 2000 t3)))
    (c4 : ∃ t, mg "MOST_KEPT" = some (.int 1000000 t)) (c5 : PySem.W.nsIn K mainGlobals "SMALL_LETTERS" = some (some (.str "abcdefghijklmnopqrstuvwxyz" t5)))
    (w1 : PySem.W.nsIn K mainGlobals "WORDS" = some (some (.ref aw))) (w2 : K.lookup aw = some ⟨.type "tuple", wd, .seq #[.str "and" u1, .str "or" u2, .str "not" u3, .str "yes" u4, .str "no" u5] wn, wsl⟩)
    (k1 : PySem.W.nsIn K mainGlobals "KINDS" = some (some (.ref ak))) (k2 : K.lookup ak = some ⟨.type "tuple", none, .seq #[.str "yes" v1, .str "no" v2, .str "letter" v3, .str "not" v4, .str "and" v5, .str "or" v6] kn, ksl⟩) : Txt K mg where
  isinstance := PySem.W.mg_none_of X G z1
  len := PySem.W.mg_none_of X G z2
  str := PySem.W.mg_none_of X G z3
  tuple := PySem.W.mg_none_of X G z4
  list := PySem.W.mg_none_of X G z5
  int := PySem.W.mg_none_of X G z6
  bool := PySem.W.mg_none_of X G z7
  all := PySem.W.mg_none_of X G z8
  range := PySem.W.mg_none_of X G z9
  max := PySem.W.mg_none_of X G z10
  min := PySem.W.mg_none_of X G z11
  sum := PySem.W.mg_none_of X G z12
  sorted := PySem.W.mg_none_of X G z13
  enumerate := PySem.W.mg_none_of X G z14
  zip := PySem.W.mg_none_of X G z15
  MOST_NAME := ⟨_, PySem.W.mg_of X G c1, _, rfl⟩
  MOST_DEEP := ⟨_, PySem.W.mg_of X G c2, _, rfl⟩
  MOST_SIZE := ⟨_, PySem.W.mg_of X G c3, _, rfl⟩
  MOST_KEPT := let ⟨t, e⟩ := c4; ⟨_, e, t, rfl⟩
  SMALL_LETTERS := ⟨_, PySem.W.mg_of X G c5, _, rfl⟩
  WORDS := ⟨aw, PySem.W.mg_of X G w1, fun H => .inr ⟨_, _, _, w2, rfl, rfl, small_le (by simp), .cons ⟨_, rfl⟩ (.cons ⟨_, rfl⟩ (.cons ⟨_, rfl⟩ (.cons ⟨_, rfl⟩ (.cons ⟨_, rfl⟩ .nil))))⟩⟩
  KINDS := ⟨ak, PySem.W.mg_of X G k1, fun H => .inr ⟨_, _, _, k2, rfl, rfl, small_le (by simp), .cons ⟨_, rfl⟩ (.cons ⟨_, rfl⟩ (.cons ⟨_, rfl⟩ (.cons ⟨_, rfl⟩ (.cons ⟨_, rfl⟩ (.cons ⟨_, rfl⟩ .nil)))))⟩, _, k2, rfl, rfl⟩
theorem txt_go {R : Prop} {K : PySem.W.Frag} {h : Heap} {mg : Str → Option Value} (X : K.In h) (G : h.Ns mainGlobals mg) {t1 t2 t3 t5 u1 u2 u3 u4 u5 v1 v2 v3 v4 v5 v6 : Tok} {aw ak : Addr} {wd : Option Addr} {wn kn : Nat} {wsl ksl : Array (Option Value)}
    (z1 : PySem.W.nsIn K mainGlobals "isinstance" = some none) (z2 : PySem.W.nsIn K mainGlobals "len" = some none) (z3 : PySem.W.nsIn K mainGlobals "str" = some none) (z4 : PySem.W.nsIn K mainGlobals "tuple" = some none) (z5 : PySem.W.nsIn K mainGlobals "list" = some none)
    (z6 : PySem.W.nsIn K mainGlobals "int" = some none) (z7 : PySem.W.nsIn K mainGlobals "bool" = some none) (z8 : PySem.W.nsIn K mainGlobals "all" = some none) (z9 : PySem.W.nsIn K mainGlobals "range" = some none) (z10 : PySem.W.nsIn K mainGlobals "max" = some none)
    (z11 : PySem.W.nsIn K mainGlobals "min" = some none) (z12 : PySem.W.nsIn K mainGlobals "sum" = some none) (z13 : PySem.W.nsIn K mainGlobals "sorted" = some none) (z14 : PySem.W.nsIn K mainGlobals "enumerate" = some none) (z15 : PySem.W.nsIn K mainGlobals "zip" = some none)
    (c1 : PySem.W.nsIn K mainGlobals "MOST_NAME" = some (some (.int 8 t1))) (c2 : PySem.W.nsIn K mainGlobals "MOST_DEEP" = some (some (.int 40 t2))) (c3 : PySem.W.nsIn K mainGlobals "MOST_SIZE" = some (some (.int 2000 t3)))
    (c4 : ∃ t, mg "MOST_KEPT" = some (.int 1000000 t)) (c5 : PySem.W.nsIn K mainGlobals "SMALL_LETTERS" = some (some (.str "abcdefghijklmnopqrstuvwxyz" t5)))
    (w1 : PySem.W.nsIn K mainGlobals "WORDS" = some (some (.ref aw))) (w2 : K.lookup aw = some ⟨.type "tuple", wd, .seq #[.str "and" u1, .str "or" u2, .str "not" u3, .str "yes" u4, .str "no" u5] wn, wsl⟩)
    (k1 : PySem.W.nsIn K mainGlobals "KINDS" = some (some (.ref ak))) (k2 : K.lookup ak = some ⟨.type "tuple", none, .seq #[.str "yes" v1, .str "no" v2, .str "letter" v3, .str "not" v4, .str "and" v5, .str "or" v6] kn, ksl⟩) (go : Txt K mg → R) : R :=
  go (txt_mk X G z1 z2 z3 z4 z5 z6 z7 z8 z9 z10 z11 z12 z13 z14 z15 c1 c2 c3 c4 c5 w1 w2 k1 k2)
theorem cls_mk {K : PySem.W.Frag} {h : Heap} {mg : Str → Option Value} {R : Prop} (X : K.In h) (G : h.Ns mainGlobals mg) {C f1 f2 f3 : Addr} {od1 an1 od2 an2 od3 an3 : Option Addr} {sl1 sl2 sl3 : Array (Option Value)} {oc1 kV1 dc1 pm1 cd1 ct1 oc2 kV2 dc2 pm2 cd2 ct2 oc3 kV3 dc3 pm3 cd3 ct3 : Value}
    (aC : PySem.W.nsIn K mainGlobals "TermLines" = some (some (.ref C))) (pg : PySem.W.plainGet K C Str.empty = true) (hd : PySem.W.hasDictIn K C = true) (po : PySem.W.plainOver K C = true) (sa : PySem.W.findIn K (.ref C) "__setattr__" = some (some (.builtin "object.__setattr__"))) (mk : PySem.W.makesIn K C = true) (kc : PySem.W.keepIn K (.ref C) = true)
    (nl : PySem.W.findIn K (.ref C) "lines" = some none) (nn : PySem.W.findIn K (.ref C) "numbers" = some none) (ns : PySem.W.findIn K (.ref C) "sizes" = some none)
    (a1 : PySem.W.findIn K (.ref C) "__init__" = some (some (.ref f1))) (i1 : PySem.W.isFn K (.ref f1) = true) (l1 : K.lookup f1 = some ⟨oc1, od1, .func (PySem.W.fnOf "__init__" "TermLines.__init__" (defArgs s_TermLines___init__) (defBody s_TermLines___init__) (defScope s_TermLines___init__) .none kV1 dc1 pm1 an1 cd1 ct1), sl1⟩) (c1 : PySem.W.codeIn K cd1 "TermLines.__init__" = true) (k1 : PySem.W.keepIn K (.ref f1) = true)
    (a2 : PySem.W.findIn K (.ref C) "line_number" = some (some (.ref f2))) (i2 : PySem.W.isFn K (.ref f2) = true) (l2 : K.lookup f2 = some ⟨oc2, od2, .func (PySem.W.fnOf "line_number" "TermLines.line_number" (defArgs s_TermLines_line_number) (defBody s_TermLines_line_number) (defScope s_TermLines_line_number) .none kV2 dc2 pm2 an2 cd2 ct2), sl2⟩) (c2 : PySem.W.codeIn K cd2 "TermLines.line_number" = true) (k2 : PySem.W.keepIn K (.ref f2) = true)
    (a3 : PySem.W.findIn K (.ref C) "term_number" = some (some (.ref f3))) (i3 : PySem.W.isFn K (.ref f3) = true) (l3 : K.lookup f3 = some ⟨oc3, od3, .func (PySem.W.fnOf "term_number" "TermLines.term_number" (defArgs s_TermLines_term_number) (defBody s_TermLines_term_number) (defScope s_TermLines_term_number) .none kV3 dc3 pm3 an3 cd3 ct3), sl3⟩) (c3 : PySem.W.codeIn K cd3 "TermLines.term_number" = true) (k3 : PySem.W.keepIn K (.ref f3) = true)
    (go : ∀ (C fi fl ft : Addr) (fdi fdl fdt : FuncData), TLc K mg C → Fun K "__init__" "TermLines.__init__" s_TermLines___init__ fi fdi → Mk K C fi → Fun K "line_number" "TermLines.line_number" s_TermLines_line_number fl fdl → Meth K C "line_number" fl → Fun K "term_number" "TermLines.term_number" s_TermLines_term_number ft fdt → Meth K C "term_number" ft → R) : R :=
  go C f1 f2 f3 _ _ _ ⟨⟨pg, hd, po, sa⟩, nl, nn, ns, PySem.W.mg_of X G aC⟩ (fun_mk (st := s_TermLines___init__) l1 c1 k1) ⟨mk, a1, i1, kc⟩ (fun_mk (st := s_TermLines_line_number) l2 c2 k2) ⟨a2, i2, k2⟩ (fun_mk (st := s_TermLines_term_number) l3 c3 k3) ⟨a3, i3, k3⟩
theorem walkX {l : PySem.W.OpenLaw} {q : Program} {loose : List Str} {XP : (Str → Option Value) → Heap → Prop} {YP : World → Heap → Prop} {d : DefRec} {K : Params → PySem.W.Frag} (hn : l.most = some 63) (hdf : d.params.defaults = [])
    (hY : ∀ (w : World) (h : Heap), YP w h → (K w.params).In h)
    (F : ∀ (w : World) (mg : Str → Option Value) (fa : Addr) (h : Heap), (K w.params).In h → h.Ns mainGlobals mg → XP mg h → mg d.name = some (.ref fa) →
      ∃ fd : FuncData, (∀ (s : Shared) (u : Value), BindsTo s fd ⟨[u], []⟩ [("script", u)]) ∧ ∀ base : Heap, (K w.params).In base → base.Ns mainGlobals mg → FnOk l.prog w (K w.params) mg base CX0 46 fa fd ["script"] (spLaw (K w.params))) :
    PySem.W.WalkO q loose XP YP l.row.toRowW d [] (fun f vs => PySem.call f vs) := by
  refine Att.attach_call hn hdf fun w s₀ s₁ mg mb fa o pm cd doc a vs ns G Y ho hd hcd hmg hobj hints hlen hg => ?_
  have KX := hY w _ Y
  obtain ⟨fd, hb, hF⟩ := F w mg fa _ KX G.T.g G.X hmg
  exact law_call KX G.T.g G.T.b G.T.builtins G.T.nolimit hg hobj hints (Nat.le_trans hlen (by decide)) ⟨rfl, by decide, by decide⟩ hF hb (fun H hO hS => ⟨a, ns, rfl, hS, hlen, fun _ => rfl⟩) fun H e s' z => z

theorem all_mk {l : PySem.W.OpenLaw} {w : World} {K : PySem.W.Frag} {h : Heap} {mg : Str → Option Value} {fa C fi fl ft : Addr} {fdi fdl fdt : FuncData} (X : K.In h) (G : h.Ns mainGlobals mg) (hfa : mg "law" = some (.ref fa)) (T : Txt K mg) (TC : TLc K mg C)
    (Fi : Fun K "__init__" "TermLines.__init__" s_TermLines___init__ fi fdi) (Mi : Mk K C fi) (Fl : Fun K "line_number" "TermLines.line_number" s_TermLines_line_number fl fdl) (Ml : Meth K C "line_number" fl) (Ft : Fun K "term_number" "TermLines.term_number" s_TermLines_term_number ft fdt) (Mt : Meth K C "term_number" ft)
    (G_is_name : FG K mg "is_name" s_is_name)
    (G_is_node : FG K mg "is_node" s_is_node)
    (G_terms_of : FG K mg "terms_of" s_terms_of)
    (G_wrong_place : FG K mg "wrong_place" s_wrong_place)
    (G_size_and_depth : FG K mg "size_and_depth" s_size_and_depth)
    (G_need_small : FG K mg "need_small" s_need_small)
    (G_need_term_at : FG K mg "need_term_at" s_need_term_at)
    (G_need_term : FG K mg "need_term" s_need_term)
    (G_is_term : FG K mg "is_term" s_is_term)
    (G_term_size : FG K mg "term_size" s_term_size)
    (G_term_depth : FG K mg "term_depth" s_term_depth)
    (G_told_terms : FG K mg "told_terms" s_told_terms)
    (G_number_parts : FG K mg "number_parts" s_number_parts)
    (G_rank_lines : FG K mg "rank_lines" s_rank_lines)
    (G_parts_of : FG K mg "parts_of" s_parts_of)
    (G_term_parts : FG K mg "term_parts" s_term_parts)
    (G_letters_in : FG K mg "letters_in" s_letters_in)
    (G_term_letters : FG K mg "term_letters" s_term_letters)
    (G_is_lesser_one : FG K mg "is_lesser_one" s_is_lesser_one)
    (G_is_lesser : FG K mg "is_lesser" s_is_lesser)
    (G_law_begun : FG K mg "_law_begun" s_law_begun)
    (G_law_draw : FG K mg "_law_draw" s_law_draw)
    (G_law_of : FG K mg "_law_of" s_law_of)
    (G_law_same : FG K mg "_law_same" s_law_same)
    (G_law_letters : FG K mg "_law_letters" s_law_letters)
    (G_law_term : FG K mg "_law_term" s_law_term)
    (G_law_inner : FG K mg "_law_inner" s_law_inner)
    (G_law_size : FG K mg "_law_size" s_law_size)
    (G_law_deep : FG K mg "_law_deep" s_law_deep)
    (G_law_all_parts : FG K mg "_law_all_parts" s_law_all_parts)
    (G_law_names_in : FG K mg "_law_names_in" s_law_names_in)
    (G_law_is_less : FG K mg "_law_is_less" s_law_is_less)
    (G_law_ordered : FG K mg "_law_ordered" s_law_ordered)
    (G_law_altered : FG K mg "_law_altered" s_law_altered)
    (G_law_one_right : FG K mg "_law_one_right" s_law_one_right)
    (G_law_two_right : FG K mg "_law_two_right" s_law_two_right)
    (G_law : FG K mg "law" s_law) : ∃ fd : FuncData, (∀ (s : Shared) (v : Value), BindsTo s fd ⟨[v], []⟩ [("script", v)]) ∧ ∀ base : Heap, K.In base → base.Ns mainGlobals mg → FnOk l.prog w K mg base CX0 46 fa fd ["script"] (spLaw K) := by
  obtain ⟨f0, fd0, F0, m0, k0⟩ := G_law.ex
  have e0 := hfa.symm.trans m0
  cases e0
  refine ⟨fd0, F0.law1, fun base _ _ => ?_⟩
  have D_init : IDef l.prog w K mg base C 1 ["self"] (spInit C) := ⟨fi, fdi, ok_init Fi T TC, Mi, Fi.binds (ps := ["self"]) fun _ _ _ _ _ _ us hl => match us, hl with | [_], _ => rfl⟩
  have D_line_number : MDef l.prog w K mg base C "line_number" 1 ["self", "line"] (spLN C) := ⟨fl, fdl, ok_line_number Fl T TC, Ml, Fl.binds (ps := ["self", "line"]) fun _ _ _ _ _ _ us hl => match us, hl with | [_, _], _ => rfl⟩
  obtain ⟨f_is_name, fd_is_name, F_is_name, m_is_name, k_is_name⟩ := G_is_name.ex
  have b_is_name := F_is_name.binds (ps := ["value"]) fun _ _ _ _ _ _ us hl => match us, hl with | [_], _ => rfl
  have O_is_name : FnOk l.prog w K mg base CX0 1 f_is_name fd_is_name ["value"] (spIsName K) := ok_is_name F_is_name T
  have D_is_name : Def l.prog w K mg base "is_name" 1 ["value"] (spIsName K) := ⟨f_is_name, fd_is_name, O_is_name, m_is_name, k_is_name, b_is_name⟩
  obtain ⟨f_is_node, fd_is_node, F_is_node, m_is_node, k_is_node⟩ := G_is_node.ex
  have b_is_node := F_is_node.binds (ps := ["value"]) fun _ _ _ _ _ _ us hl => match us, hl with | [_], _ => rfl
  have O_is_node : FnOk l.prog w K mg base CX0 2 f_is_node fd_is_node ["value"] (spIsNode K) := ok_is_node F_is_node T D_is_name
  have D_is_node : Def l.prog w K mg base "is_node" 2 ["value"] (spIsNode K) := ⟨f_is_node, fd_is_node, O_is_node, m_is_node, k_is_node, b_is_node⟩
  obtain ⟨f_terms_of, fd_terms_of, F_terms_of, m_terms_of, k_terms_of⟩ := G_terms_of.ex
  have b_terms_of := F_terms_of.binds (ps := ["term"]) fun _ _ _ _ _ _ us hl => match us, hl with | [_], _ => rfl
  have O_terms_of : FnOk l.prog w K mg base CX0 1 f_terms_of fd_terms_of ["term"] (spTermsOf K) := ok_terms_of F_terms_of T
  have D_terms_of : Def l.prog w K mg base "terms_of" 1 ["term"] (spTermsOf K) := ⟨f_terms_of, fd_terms_of, O_terms_of, m_terms_of, k_terms_of, b_terms_of⟩
  obtain ⟨f_wrong_place, fd_wrong_place, F_wrong_place, m_wrong_place, k_wrong_place⟩ := G_wrong_place.ex
  have b_wrong_place := F_wrong_place.binds (ps := ["value"]) fun _ _ _ _ _ _ us hl => match us, hl with | [_], _ => rfl
  have O_wrong_place : FnOk l.prog w K mg base CX0 3 f_wrong_place fd_wrong_place ["value"] (spWrong K) := ok_wrong_place F_wrong_place T D_is_node D_terms_of
  have D_wrong_place : Def l.prog w K mg base "wrong_place" 3 ["value"] (spWrong K) := ⟨f_wrong_place, fd_wrong_place, O_wrong_place, m_wrong_place, k_wrong_place, b_wrong_place⟩
  obtain ⟨f_size_and_depth, fd_size_and_depth, F_size_and_depth, m_size_and_depth, k_size_and_depth⟩ := G_size_and_depth.ex
  have b_size_and_depth := F_size_and_depth.binds (ps := ["term"]) fun _ _ _ _ _ _ us hl => match us, hl with | [_], _ => rfl
  have O_size_and_depth : FnOk l.prog w K mg base CX0 2 f_size_and_depth fd_size_and_depth ["term"] (spSD) := ok_size_and_depth F_size_and_depth T D_terms_of
  have D_size_and_depth : Def l.prog w K mg base "size_and_depth" 2 ["term"] (spSD) := ⟨f_size_and_depth, fd_size_and_depth, O_size_and_depth, m_size_and_depth, k_size_and_depth, b_size_and_depth⟩
  obtain ⟨f_need_small, fd_need_small, F_need_small, m_need_small, k_need_small⟩ := G_need_small.ex
  have b_need_small := F_need_small.binds (ps := ["size", "deep"]) fun _ _ _ _ _ _ us hl => match us, hl with | [_, _], _ => rfl
  have O_need_small : FnOk l.prog w K mg base CX0 1 f_need_small fd_need_small ["size", "deep"] (spNS) := ok_need_small F_need_small T
  have D_need_small : Def l.prog w K mg base "need_small" 1 ["size", "deep"] (spNS) := ⟨f_need_small, fd_need_small, O_need_small, m_need_small, k_need_small, b_need_small⟩
  obtain ⟨f_need_term_at, fd_need_term_at, F_need_term_at, m_need_term_at, k_need_term_at⟩ := G_need_term_at.ex
  have b_need_term_at := F_need_term_at.binds (ps := ["term", "place"]) fun _ _ _ _ _ _ us hl => match us, hl with | [_, _], _ => rfl
  have O_need_term_at : FnOk l.prog w K mg base CX0 4 f_need_term_at fd_need_term_at ["term", "place"] (spNTA) := ok_need_term_at F_need_term_at T D_wrong_place D_size_and_depth D_need_small
  have D_need_term_at : Def l.prog w K mg base "need_term_at" 4 ["term", "place"] (spNTA) := ⟨f_need_term_at, fd_need_term_at, O_need_term_at, m_need_term_at, k_need_term_at, b_need_term_at⟩
  obtain ⟨f_need_term, fd_need_term, F_need_term, m_need_term, k_need_term⟩ := G_need_term.ex
  have b_need_term := F_need_term.binds (ps := ["term"]) fun _ _ _ _ _ _ us hl => match us, hl with | [_], _ => rfl
  have O_need_term : FnOk l.prog w K mg base CX0 5 f_need_term fd_need_term ["term"] (spNT) := ok_need_term F_need_term T D_need_term_at
  have D_need_term : Def l.prog w K mg base "need_term" 5 ["term"] (spNT) := ⟨f_need_term, fd_need_term, O_need_term, m_need_term, k_need_term, b_need_term⟩
  have DK_need_term : DefK l.prog w K mg base "need_term" 5 ["term"] ["term"] id id (spNT) := ⟨f_need_term, fd_need_term, O_need_term, m_need_term, k_need_term, F_need_term.kb1 fun _ _ _ _ _ _ a => rfl⟩
  obtain ⟨f_is_term, fd_is_term, F_is_term, m_is_term, k_is_term⟩ := G_is_term.ex
  have b_is_term := F_is_term.binds (ps := ["value"]) fun _ _ _ _ _ _ us hl => match us, hl with | [_], _ => rfl
  have O_is_term : FnOk l.prog w K mg base CX0 4 f_is_term fd_is_term ["value"] (spIsTerm K) := ok_is_term F_is_term T D_wrong_place D_size_and_depth
  have D_is_term : Def l.prog w K mg base "is_term" 4 ["value"] (spIsTerm K) := ⟨f_is_term, fd_is_term, O_is_term, m_is_term, k_is_term, b_is_term⟩
  have DK_is_term : DefK l.prog w K mg base "is_term" 4 ["value"] ["value"] id id (spIsTerm K) := ⟨f_is_term, fd_is_term, O_is_term, m_is_term, k_is_term, F_is_term.kb1 fun _ _ _ _ _ _ a => rfl⟩
  obtain ⟨f_term_size, fd_term_size, F_term_size, m_term_size, k_term_size⟩ := G_term_size.ex
  have b_term_size := F_term_size.binds (ps := ["term"]) fun _ _ _ _ _ _ us hl => match us, hl with | [_], _ => rfl
  have O_term_size : FnOk l.prog w K mg base CX0 6 f_term_size fd_term_size ["term"] (spTS Tm.size) := ok_term_size F_term_size T D_need_term D_size_and_depth
  have D_term_size : Def l.prog w K mg base "term_size" 6 ["term"] (spTS Tm.size) := ⟨f_term_size, fd_term_size, O_term_size, m_term_size, k_term_size, b_term_size⟩
  have DK_term_size : DefK l.prog w K mg base "term_size" 6 ["term"] ["term"] id id (spTS Tm.size) := ⟨f_term_size, fd_term_size, O_term_size, m_term_size, k_term_size, F_term_size.kb1 fun _ _ _ _ _ _ a => rfl⟩
  obtain ⟨f_term_depth, fd_term_depth, F_term_depth, m_term_depth, k_term_depth⟩ := G_term_depth.ex
  have b_term_depth := F_term_depth.binds (ps := ["term"]) fun _ _ _ _ _ _ us hl => match us, hl with | [_], _ => rfl
  have O_term_depth : FnOk l.prog w K mg base CX0 6 f_term_depth fd_term_depth ["term"] (spTS Tm.dep) := ok_term_depth F_term_depth T D_need_term D_size_and_depth
  have D_term_depth : Def l.prog w K mg base "term_depth" 6 ["term"] (spTS Tm.dep) := ⟨f_term_depth, fd_term_depth, O_term_depth, m_term_depth, k_term_depth, b_term_depth⟩
  have DK_term_depth : DefK l.prog w K mg base "term_depth" 6 ["term"] ["term"] id id (spTS Tm.dep) := ⟨f_term_depth, fd_term_depth, O_term_depth, m_term_depth, k_term_depth, F_term_depth.kb1 fun _ _ _ _ _ _ a => rfl⟩
  obtain ⟨f_told_terms, fd_told_terms, F_told_terms, m_told_terms, k_told_terms⟩ := G_told_terms.ex
  have b_told_terms := F_told_terms.binds (ps := ["lines"]) fun _ _ _ _ _ _ us hl => match us, hl with | [_], _ => rfl
  have O_told_terms : FnOk l.prog w K mg base CX0 1 f_told_terms fd_told_terms ["lines"] (spTold) := ok_told_terms F_told_terms T
  have D_told_terms : Def l.prog w K mg base "told_terms" 1 ["lines"] (spTold) := ⟨f_told_terms, fd_told_terms, O_told_terms, m_told_terms, k_told_terms, b_told_terms⟩
  have bt := Ft.binds (ps := ["self", "term"]) fun _ _ _ _ _ _ us hl => match us, hl with | [_, _], _ => rfl
  have S_term_number : ∀ n, FnOk l.prog w K mg base CX0 (n + 1) ft fdt ["self", "term"] (spTN C n) := fun n => by
    induction n with
    | zero => exact vac fun vs H Q E ⟨_, _, _, _, _, _, _, _, _, _, hd, _⟩ => absurd hd (Nat.not_lt_zero _)
    | succ n ih => exact ok_term_number Ft T TC D_line_number D_terms_of ⟨ft, fdt, ih, Mt, bt⟩
  have D_term_number : MDef l.prog w K mg base C "term_number" 41 ["self", "term"] (spTN C 40) := ⟨ft, fdt, S_term_number 40, Mt, bt⟩
  obtain ⟨f_number_parts, fd_number_parts, F_number_parts, m_number_parts, k_number_parts⟩ := G_number_parts.ex
  have b_number_parts := F_number_parts.binds (ps := ["term"]) fun _ _ _ _ _ _ us hl => match us, hl with | [_], _ => rfl
  have O_number_parts : FnOk l.prog w K mg base CX0 42 f_number_parts fd_number_parts ["term"] (spNP) := ok_number_parts F_number_parts T TC D_init D_term_number
  have D_number_parts : Def l.prog w K mg base "number_parts" 42 ["term"] (spNP) := ⟨f_number_parts, fd_number_parts, O_number_parts, m_number_parts, k_number_parts, b_number_parts⟩
  obtain ⟨f_rank_lines, fd_rank_lines, F_rank_lines, m_rank_lines, k_rank_lines⟩ := G_rank_lines.ex
  have b_rank_lines := F_rank_lines.binds (ps := ["lines", "sizes"]) fun _ _ _ _ _ _ us hl => match us, hl with | [_, _], _ => rfl
  have O_rank_lines : FnOk l.prog w K mg base CX0 1 f_rank_lines fd_rank_lines ["lines", "sizes"] (spRL) := ok_rank_lines F_rank_lines T
  have D_rank_lines : Def l.prog w K mg base "rank_lines" 1 ["lines", "sizes"] (spRL) := ⟨f_rank_lines, fd_rank_lines, O_rank_lines, m_rank_lines, k_rank_lines, b_rank_lines⟩
  obtain ⟨f_parts_of, fd_parts_of, F_parts_of, m_parts_of, k_parts_of⟩ := G_parts_of.ex
  have b_parts_of := F_parts_of.binds (ps := ["term"]) fun _ _ _ _ _ _ us hl => match us, hl with | [_], _ => rfl
  have O_parts_of : FnOk l.prog w K mg base CX0 42 f_parts_of fd_parts_of ["term"] (spPO false) := ok_parts_of F_parts_of T TC D_init D_term_number D_told_terms D_rank_lines
  have D_parts_of : Def l.prog w K mg base "parts_of" 42 ["term"] (spPO false) := ⟨f_parts_of, fd_parts_of, O_parts_of, m_parts_of, k_parts_of, b_parts_of⟩
  obtain ⟨f_term_parts, fd_term_parts, F_term_parts, m_term_parts, k_term_parts⟩ := G_term_parts.ex
  have b_term_parts := F_term_parts.binds (ps := ["term"]) fun _ _ _ _ _ _ us hl => match us, hl with | [_], _ => rfl
  have O_term_parts : FnOk l.prog w K mg base CX0 43 f_term_parts fd_term_parts ["term"] (spPO true) := ok_term_parts F_term_parts T D_parts_of D_need_term
  have D_term_parts : Def l.prog w K mg base "term_parts" 43 ["term"] (spPO true) := ⟨f_term_parts, fd_term_parts, O_term_parts, m_term_parts, k_term_parts, b_term_parts⟩
  have DK_term_parts : DefK l.prog w K mg base "term_parts" 43 ["term"] ["term"] id id (spPO true) := ⟨f_term_parts, fd_term_parts, O_term_parts, m_term_parts, k_term_parts, F_term_parts.kb1 fun _ _ _ _ _ _ a => rfl⟩
  obtain ⟨f_letters_in, fd_letters_in, F_letters_in, m_letters_in, k_letters_in⟩ := G_letters_in.ex
  have b_letters_in := F_letters_in.binds (ps := ["term"]) fun _ _ _ _ _ _ us hl => match us, hl with | [_], _ => rfl
  have O_letters_in : FnOk l.prog w K mg base CX0 43 f_letters_in fd_letters_in ["term"] (spLI false) := ok_letters_in F_letters_in T D_number_parts
  have D_letters_in : Def l.prog w K mg base "letters_in" 43 ["term"] (spLI false) := ⟨f_letters_in, fd_letters_in, O_letters_in, m_letters_in, k_letters_in, b_letters_in⟩
  obtain ⟨f_term_letters, fd_term_letters, F_term_letters, m_term_letters, k_term_letters⟩ := G_term_letters.ex
  have b_term_letters := F_term_letters.binds (ps := ["term"]) fun _ _ _ _ _ _ us hl => match us, hl with | [_], _ => rfl
  have O_term_letters : FnOk l.prog w K mg base CX0 44 f_term_letters fd_term_letters ["term"] (spLI true) := ok_term_letters F_term_letters T D_letters_in D_need_term
  have D_term_letters : Def l.prog w K mg base "term_letters" 44 ["term"] (spLI true) := ⟨f_term_letters, fd_term_letters, O_term_letters, m_term_letters, k_term_letters, b_term_letters⟩
  have DK_term_letters : DefK l.prog w K mg base "term_letters" 44 ["term"] ["term"] id id (spLI true) := ⟨f_term_letters, fd_term_letters, O_term_letters, m_term_letters, k_term_letters, F_term_letters.kb1 fun _ _ _ _ _ _ a => rfl⟩
  obtain ⟨f_is_lesser_one, fd_is_lesser_one, F_is_lesser_one, m_is_lesser_one, k_is_lesser_one⟩ := G_is_lesser_one.ex
  have b_is_lesser_one := F_is_lesser_one.binds (ps := ["term", "other"]) fun _ _ _ _ _ _ us hl => match us, hl with | [_, _], _ => rfl
  have O_is_lesser_one : FnOk l.prog w K mg base CX0 42 f_is_lesser_one fd_is_lesser_one ["term", "other"] (spLO) := ok_is_lesser_one F_is_lesser_one T TC D_init D_term_number D_rank_lines
  have D_is_lesser_one : Def l.prog w K mg base "is_lesser_one" 42 ["term", "other"] (spLO) := ⟨f_is_lesser_one, fd_is_lesser_one, O_is_lesser_one, m_is_lesser_one, k_is_lesser_one, b_is_lesser_one⟩
  obtain ⟨f_is_lesser, fd_is_lesser, F_is_lesser, m_is_lesser, k_is_lesser⟩ := G_is_lesser.ex
  have b_is_lesser := F_is_lesser.binds (ps := ["term", "other"]) fun _ _ _ _ _ _ us hl => match us, hl with | [_, _], _ => rfl
  have O_is_lesser : FnOk l.prog w K mg base CX0 43 f_is_lesser fd_is_lesser ["term", "other"] (spLO) := ok_is_lesser F_is_lesser T D_need_term D_is_lesser_one
  have D_is_lesser : Def l.prog w K mg base "is_lesser" 43 ["term", "other"] (spLO) := ⟨f_is_lesser, fd_is_lesser, O_is_lesser, m_is_lesser, k_is_lesser, b_is_lesser⟩
  have DK_is_lesser : DefK l.prog w K mg base "is_lesser" 43 ["term", "other"] ["other", "term"] rev2 rev2 (spLO) := ⟨f_is_lesser, fd_is_lesser, O_is_lesser, m_is_lesser, k_is_lesser, F_is_lesser.kb2 fun _ _ _ _ _ _ a b => rfl⟩
  obtain ⟨f_law_begun, fd_law_begun, F_law_begun, m_law_begun, k_law_begun⟩ := G_law_begun.ex
  have b_law_begun := F_law_begun.binds (ps := ["script", "turn"]) fun _ _ _ _ _ _ us hl => match us, hl with | [_, _], _ => rfl
  have O_law_begun : FnOk l.prog w K mg base CX0 1 f_law_begun fd_law_begun ["script", "turn"] (spBegun K) := ok_law_begun F_law_begun T
  have D_law_begun : Def l.prog w K mg base "_law_begun" 1 ["script", "turn"] (spBegun K) := ⟨f_law_begun, fd_law_begun, O_law_begun, m_law_begun, k_law_begun, b_law_begun⟩
  obtain ⟨f_law_draw, fd_law_draw, F_law_draw, m_law_draw, k_law_draw⟩ := G_law_draw.ex
  have b_law_draw := F_law_draw.binds (ps := ["m", "limit"]) fun _ _ _ _ _ _ us hl => match us, hl with | [_, _], _ => rfl
  have O_law_draw : FnOk l.prog w K mg base CX0 1 f_law_draw fd_law_draw ["m", "limit"] (spDraw) := ok_law_draw F_law_draw T
  have D_law_draw : Def l.prog w K mg base "_law_draw" 1 ["m", "limit"] (spDraw) := ⟨f_law_draw, fd_law_draw, O_law_draw, m_law_draw, k_law_draw, b_law_draw⟩
  obtain ⟨f_law_of, fd_law_of, F_law_of, m_law_of, k_law_of⟩ := G_law_of.ex
  have b_law_of := F_law_of.binds (ps := ["m", "some"]) fun _ _ _ _ _ _ us hl => match us, hl with | [_, _], _ => rfl
  have O_law_of : FnOk l.prog w K mg base CX0 2 f_law_of fd_law_of ["m", "some"] (spOf K) := ok_law_of F_law_of T D_law_draw
  have D_law_of : Def l.prog w K mg base "_law_of" 2 ["m", "some"] (spOf K) := ⟨f_law_of, fd_law_of, O_law_of, m_law_of, k_law_of, b_law_of⟩
  obtain ⟨f_law_same, fd_law_same, F_law_same, m_law_same, k_law_same⟩ := G_law_same.ex
  have b_law_same := F_law_same.binds (ps := ["told", "due"]) fun _ _ _ _ _ _ us hl => match us, hl with | [_, _], _ => rfl
  have S_law_same : ∀ n, FnOk l.prog w K mg base CX0 (n + 0) f_law_same fd_law_same ["told", "due"] (spSame K n) := fun n => by
    induction n with
    | zero => exact vac fun vs H Q E ⟨_, _, _, _, _, _, _, hd, _⟩ => absurd hd (Nat.not_lt_zero _)
    | succ n ih =>
      have D : Def l.prog w K mg base "_law_same" (n + 0) ["told", "due"] (spSame K n) := ⟨f_law_same, fd_law_same, ih, m_law_same, k_law_same, b_law_same⟩
      have R := ok_law_same F_law_same T D
      exact (show n + 0 + 1 = n + 1 + 0 by omega) ▸ R
  have D_law_same : Def l.prog w K mg base "_law_same" 12 ["told", "due"] (spSame K 12) := ⟨f_law_same, fd_law_same, S_law_same 12, m_law_same, k_law_same, b_law_same⟩
  obtain ⟨f_law_letters, fd_law_letters, F_law_letters, m_law_letters, k_law_letters⟩ := G_law_letters.ex
  have b_law_letters := F_law_letters.binds (ps := ["m", "wide"]) fun _ _ _ _ _ _ us hl => match us, hl with | [_, _], _ => rfl
  have O_law_letters : FnOk l.prog w K mg base CX0 3 f_law_letters fd_law_letters ["m", "wide"] (spLetters) := ok_law_letters F_law_letters T D_law_draw D_law_of
  have D_law_letters : Def l.prog w K mg base "_law_letters" 3 ["m", "wide"] (spLetters) := ⟨f_law_letters, fd_law_letters, O_law_letters, m_law_letters, k_law_letters, b_law_letters⟩
  obtain ⟨f_law_term, fd_law_term, F_law_term, m_law_term, k_law_term⟩ := G_law_term.ex
  have b_law_term := F_law_term.binds (ps := ["m", "letters_so", "deep"]) fun _ _ _ _ _ _ us hl => match us, hl with | [_, _, _], _ => rfl
  have S_law_term : ∀ n, FnOk l.prog w K mg base CX0 (n + 2) f_law_term fd_law_term ["m", "letters_so", "deep"] (spTerm n) := fun n => by
    induction n with
    | zero => exact vac fun vs H Q E ⟨_, _, _, _, _, _, _, _, _, _, _, _, hd, _⟩ => absurd hd (Nat.not_lt_zero _)
    | succ n ih =>
      have D : Def l.prog w K mg base "_law_term" (n + 2) ["m", "letters_so", "deep"] (spTerm n) := ⟨f_law_term, fd_law_term, ih, m_law_term, k_law_term, b_law_term⟩
      have R := ok_law_term (by omega) F_law_term T D_law_draw D_law_of D
      exact (show n + 2 + 1 = n + 1 + 2 by omega) ▸ R
  have D_law_term : Def l.prog w K mg base "_law_term" 10 ["m", "letters_so", "deep"] (spTerm 8) := ⟨f_law_term, fd_law_term, S_law_term 8, m_law_term, k_law_term, b_law_term⟩
  obtain ⟨f_law_inner, fd_law_inner, F_law_inner, m_law_inner, k_law_inner⟩ := G_law_inner.ex
  have b_law_inner := F_law_inner.binds (ps := ["node"]) fun _ _ _ _ _ _ us hl => match us, hl with | [_], _ => rfl
  have O_law_inner : FnOk l.prog w K mg base CX0 1 f_law_inner fd_law_inner ["node"] (spKids) := ok_law_inner F_law_inner T
  have D_law_inner : Def l.prog w K mg base "_law_inner" 1 ["node"] (spKids) := ⟨f_law_inner, fd_law_inner, O_law_inner, m_law_inner, k_law_inner, b_law_inner⟩
  obtain ⟨f_law_size, fd_law_size, F_law_size, m_law_size, k_law_size⟩ := G_law_size.ex
  have b_law_size := F_law_size.binds (ps := ["node"]) fun _ _ _ _ _ _ us hl => match us, hl with | [_], _ => rfl
  have S_law_size : ∀ n, FnOk l.prog w K mg base CX0 (n + 1) f_law_size fd_law_size ["node"] (spZ Tm.size n) := fun n => by
    induction n with
    | zero => exact vac fun vs H Q E ⟨_, _, _, _, hd, _⟩ => absurd hd (Nat.not_lt_zero _)
    | succ n ih =>
      have D : Def l.prog w K mg base "_law_size" (n + 1) ["node"] (spZ Tm.size n) := ⟨f_law_size, fd_law_size, ih, m_law_size, k_law_size, b_law_size⟩
      have R := ok_law_size (by omega) F_law_size T D_law_inner D
      exact (show n + 1 + 1 = n + 1 + 1 by omega) ▸ R
  have D_law_size : Def l.prog w K mg base "_law_size" 9 ["node"] (spZ Tm.size 8) := ⟨f_law_size, fd_law_size, S_law_size 8, m_law_size, k_law_size, b_law_size⟩
  obtain ⟨f_law_deep, fd_law_deep, F_law_deep, m_law_deep, k_law_deep⟩ := G_law_deep.ex
  have b_law_deep := F_law_deep.binds (ps := ["node"]) fun _ _ _ _ _ _ us hl => match us, hl with | [_], _ => rfl
  have S_law_deep : ∀ n, FnOk l.prog w K mg base CX0 (n + 1) f_law_deep fd_law_deep ["node"] (spZ Tm.dep n) := fun n => by
    induction n with
    | zero => exact vac fun vs H Q E ⟨_, _, _, _, hd, _⟩ => absurd hd (Nat.not_lt_zero _)
    | succ n ih =>
      have D : Def l.prog w K mg base "_law_deep" (n + 1) ["node"] (spZ Tm.dep n) := ⟨f_law_deep, fd_law_deep, ih, m_law_deep, k_law_deep, b_law_deep⟩
      have R := ok_law_deep (by omega) F_law_deep T D_law_inner D
      exact (show n + 1 + 1 = n + 1 + 1 by omega) ▸ R
  have D_law_deep : Def l.prog w K mg base "_law_deep" 9 ["node"] (spZ Tm.dep 8) := ⟨f_law_deep, fd_law_deep, S_law_deep 8, m_law_deep, k_law_deep, b_law_deep⟩
  obtain ⟨f_law_all_parts, fd_law_all_parts, F_law_all_parts, m_law_all_parts, k_law_all_parts⟩ := G_law_all_parts.ex
  have b_law_all_parts := F_law_all_parts.binds (ps := ["node"]) fun _ _ _ _ _ _ us hl => match us, hl with | [_], _ => rfl
  have S_law_all_parts : ∀ n, FnOk l.prog w K mg base CX0 (n + 1) f_law_all_parts fd_law_all_parts ["node"] (spAP n) := fun n => by
    induction n with
    | zero => exact vac fun vs H Q E ⟨_, _, _, _, hd, _⟩ => absurd hd (Nat.not_lt_zero _)
    | succ n ih =>
      have D : Def l.prog w K mg base "_law_all_parts" (n + 1) ["node"] (spAP n) := ⟨f_law_all_parts, fd_law_all_parts, ih, m_law_all_parts, k_law_all_parts, b_law_all_parts⟩
      have R := ok_law_all_parts (by omega) F_law_all_parts T D_law_inner D
      exact (show n + 1 + 1 = n + 1 + 1 by omega) ▸ R
  have D_law_all_parts : Def l.prog w K mg base "_law_all_parts" 9 ["node"] (spAP 8) := ⟨f_law_all_parts, fd_law_all_parts, S_law_all_parts 8, m_law_all_parts, k_law_all_parts, b_law_all_parts⟩
  obtain ⟨f_law_names_in, fd_law_names_in, F_law_names_in, m_law_names_in, k_law_names_in⟩ := G_law_names_in.ex
  have b_law_names_in := F_law_names_in.binds (ps := ["node"]) fun _ _ _ _ _ _ us hl => match us, hl with | [_], _ => rfl
  have O_law_names_in : FnOk l.prog w K mg base CX0 10 f_law_names_in fd_law_names_in ["node"] (spNms) := ok_law_names_in (by omega) F_law_names_in T D_law_all_parts
  have D_law_names_in : Def l.prog w K mg base "_law_names_in" 10 ["node"] (spNms) := ⟨f_law_names_in, fd_law_names_in, O_law_names_in, m_law_names_in, k_law_names_in, b_law_names_in⟩
  obtain ⟨f_law_is_less, fd_law_is_less, F_law_is_less, m_law_is_less, k_law_is_less⟩ := G_law_is_less.ex
  have b_law_is_less := F_law_is_less.binds (ps := ["one", "far"]) fun _ _ _ _ _ _ us hl => match us, hl with | [_, _], _ => rfl
  have S_law_is_less : ∀ n, FnOk l.prog w K mg base CX0 (n + 9) f_law_is_less fd_law_is_less ["one", "far"] (spIL n) := fun n => by
    induction n with
    | zero => exact vac fun vs H Q E ⟨_, _, _, _, _, _, _, hd, _⟩ => absurd hd (Nat.not_lt_zero _)
    | succ n ih =>
      have D : Def l.prog w K mg base "_law_is_less" (n + 9) ["one", "far"] (spIL n) := ⟨f_law_is_less, fd_law_is_less, ih, m_law_is_less, k_law_is_less, b_law_is_less⟩
      have R := ok_law_is_less (by omega) F_law_is_less T D_law_inner D_law_size D
      exact (show n + 9 + 1 = n + 1 + 9 by omega) ▸ R
  have D_law_is_less : Def l.prog w K mg base "_law_is_less" 17 ["one", "far"] (spIL 8) := ⟨f_law_is_less, fd_law_is_less, S_law_is_less 8, m_law_is_less, k_law_is_less, b_law_is_less⟩
  obtain ⟨f_law_ordered, fd_law_ordered, F_law_ordered, m_law_ordered, k_law_ordered⟩ := G_law_ordered.ex
  have b_law_ordered := F_law_ordered.binds (ps := ["some"]) fun _ _ _ _ _ _ us hl => match us, hl with | [_], _ => rfl
  have O_law_ordered : FnOk l.prog w K mg base CX0 18 f_law_ordered fd_law_ordered ["some"] (spOrd) := ok_law_ordered F_law_ordered T D_law_is_less
  have D_law_ordered : Def l.prog w K mg base "_law_ordered" 18 ["some"] (spOrd) := ⟨f_law_ordered, fd_law_ordered, O_law_ordered, m_law_ordered, k_law_ordered, b_law_ordered⟩
  obtain ⟨f_law_altered, fd_law_altered, F_law_altered, m_law_altered, k_law_altered⟩ := G_law_altered.ex
  have b_law_altered := F_law_altered.binds (ps := ["m", "node"]) fun _ _ _ _ _ _ us hl => match us, hl with | [_, _], _ => rfl
  have S_law_altered : ∀ n, FnOk l.prog w K mg base CX0 (n + 2) f_law_altered fd_law_altered ["m", "node"] (spAlt n) := fun n => by
    induction n with
    | zero => exact vac fun vs H Q E ⟨_, _, _, _, _, _, _, _, _, hd, _⟩ => absurd hd (Nat.not_lt_zero _)
    | succ n ih =>
      have D : Def l.prog w K mg base "_law_altered" (n + 2) ["m", "node"] (spAlt n) := ⟨f_law_altered, fd_law_altered, ih, m_law_altered, k_law_altered, b_law_altered⟩
      have R := ok_law_altered (by omega) F_law_altered T D_law_inner D_law_draw D_law_of D
      exact (show n + 2 + 1 = n + 1 + 2 by omega) ▸ R
  have D_law_altered : Def l.prog w K mg base "_law_altered" 10 ["m", "node"] (spAlt 8) := ⟨f_law_altered, fd_law_altered, S_law_altered 8, m_law_altered, k_law_altered, b_law_altered⟩
  obtain ⟨f_law_one_right, fd_law_one_right, F_law_one_right, m_law_one_right, k_law_one_right⟩ := G_law_one_right.ex
  have b_law_one_right := F_law_one_right.binds (ps := ["m", "node"]) fun _ _ _ _ _ _ us hl => match us, hl with | [_, _], _ => rfl
  have O_law_one_right : FnOk l.prog w K mg base CX0 45 f_law_one_right fd_law_one_right ["m", "node"] (spOne) := ok_law_one_right (k := 44) (by omega) F_law_one_right T DK_term_size DK_term_depth DK_term_letters DK_need_term DK_is_term DK_term_parts D_is_lesser D_law_same D_law_size D_law_deep D_law_names_in D_law_all_parts D_law_ordered
  have D_law_one_right : Def l.prog w K mg base "_law_one_right" 45 ["m", "node"] (spOne) := ⟨f_law_one_right, fd_law_one_right, O_law_one_right, m_law_one_right, k_law_one_right, b_law_one_right⟩
  obtain ⟨f_law_two_right, fd_law_two_right, F_law_two_right, m_law_two_right, k_law_two_right⟩ := G_law_two_right.ex
  have b_law_two_right := F_law_two_right.binds (ps := ["m", "node", "late"]) fun _ _ _ _ _ _ us hl => match us, hl with | [_, _, _], _ => rfl
  have O_law_two_right : FnOk l.prog w K mg base CX0 44 f_law_two_right fd_law_two_right ["m", "node", "late"] (spTwo) := ok_law_two_right (k := 43) (by omega) F_law_two_right T DK_is_lesser D_law_same D_law_is_less
  have D_law_two_right : Def l.prog w K mg base "_law_two_right" 44 ["m", "node", "late"] (spTwo) := ⟨f_law_two_right, fd_law_two_right, O_law_two_right, m_law_two_right, k_law_two_right, b_law_two_right⟩
  exact ok_law (k := 45) (by omega) F0 T D_law_begun D_law_draw D_law_letters D_law_term D_law_altered D_law_one_right D_law_two_right D_is_term
end N0


open PySem PySem.W PyProof.Rows in
set_option maxRecDepth 100000 in
set_option maxHeartbeats 0 in
theorem PySem.Challenge.cw_nocases_k00_terms_sizes_parts_and_order_holds : PySem.Challenge.rw_nocases_k00_terms_sizes_parts_and_order.Holds := by
  w_on; o_law; k_head; (case hw => w_witness2)
  k_fill
  refine N0.walkX (l := PySem.Challenge.rw_nocases_k00_terms_sizes_parts_and_order) rfl rfl (fun w h Y => PySem.W.kIn_of Y) ?F
  case F =>
    intro w mg fa h KX G XL hmg
    refine' N0.txt_go KX G ?z_isinstance ?z_len ?z_str ?z_tuple ?z_list ?z_int ?z_bool ?z_all ?z_range ?z_max ?z_min ?z_sum ?z_sorted ?z_enumerate ?z_zip ?c_name ?c_deep ?c_size (N0.kept_of XL.2) ?c_letters ?w1 ?w2 ?k1 ?k2 ?gt
    (case z_isinstance => k_is)
    (case z_len => k_is)
    (case z_str => k_is)
    (case z_tuple => k_is)
    (case z_list => k_is)
    (case z_int => k_is)
    (case z_bool => k_is)
    (case z_all => k_is)
    (case z_range => k_is)
    (case z_max => k_is)
    (case z_min => k_is)
    (case z_sum => k_is)
    (case z_sorted => k_is)
    (case z_enumerate => k_is)
    (case z_zip => k_is)
    (case c_name => k_is)
    (case c_deep => k_is)
    (case c_size => k_is)
    (case c_letters => k_is)
    (case w1 => k_is)
    (case w2 => k_is)
    (case k1 => k_is)
    (case k2 => k_is)
    case gt =>
    intro T
    refine' N0.cls_mk KX G ?aC ?pg ?hd ?po ?sa ?mk ?kc ?nl ?nn ?ns ?ai ?ii ?li ?ci ?ki ?al ?il ?ll ?cl ?kl ?ta ?it ?lt ?ct ?kt ?go
    (case aC => k_is)
    (case pg => k_is)
    (case hd => k_is)
    (case po => k_is)
    (case sa => k_is)
    (case mk => k_is)
    (case kc => k_is)
    (case nl => k_is)
    (case nn => k_is)
    (case ns => k_is)
    (case ai => k_is)
    (case ii => k_is)
    (case li => k_is)
    (case ci => k_is)
    (case ki => k_is)
    (case al => k_is)
    (case il => k_is)
    (case ll => k_is)
    (case cl => k_is)
    (case kl => k_is)
    (case ta => k_is)
    (case it => k_is)
    (case lt => k_is)
    (case ct => k_is)
    (case kt => k_is)
    case go =>
    intro C fi fl ft fdi fdl fdt TC Fi Mi Fl Ml Ft Mt
    refine' N0.all_mk KX G hmg T TC Fi Mi Fl Ml Ft Mt ?g_is_name ?g_is_node ?g_terms_of ?g_wrong_place ?g_size_and_depth ?g_need_small ?g_need_term_at ?g_need_term ?g_is_term ?g_term_size ?g_term_depth ?g_told_terms ?g_number_parts ?g_rank_lines ?g_parts_of ?g_term_parts ?g_letters_in ?g_term_letters ?g_is_lesser_one ?g_is_lesser ?g_law_begun ?g_law_draw ?g_law_of ?g_law_same ?g_law_letters ?g_law_term ?g_law_inner ?g_law_size ?g_law_deep ?g_law_all_parts ?g_law_names_in ?g_law_is_less ?g_law_ordered ?g_law_altered ?g_law_one_right ?g_law_two_right ?g_law
    (case g_is_name => (refine' N0.fnG KX G ?a ?l ?c ?k; (case a => k_is); (case l => k_is); (case c => k_is); (case k => k_is)))
    (case g_is_node => (refine' N0.fnG KX G ?a ?l ?c ?k; (case a => k_is); (case l => k_is); (case c => k_is); (case k => k_is)))
    (case g_terms_of => (refine' N0.fnG KX G ?a ?l ?c ?k; (case a => k_is); (case l => k_is); (case c => k_is); (case k => k_is)))
    (case g_wrong_place => (refine' N0.fnG KX G ?a ?l ?c ?k; (case a => k_is); (case l => k_is); (case c => k_is); (case k => k_is)))
    (case g_size_and_depth => (refine' N0.fnG KX G ?a ?l ?c ?k; (case a => k_is); (case l => k_is); (case c => k_is); (case k => k_is)))
    (case g_need_small => (refine' N0.fnG KX G ?a ?l ?c ?k; (case a => k_is); (case l => k_is); (case c => k_is); (case k => k_is)))
    (case g_need_term_at => (refine' N0.fnG KX G ?a ?l ?c ?k; (case a => k_is); (case l => k_is); (case c => k_is); (case k => k_is)))
    (case g_need_term => (refine' N0.fnG KX G ?a ?l ?c ?k; (case a => k_is); (case l => k_is); (case c => k_is); (case k => k_is)))
    (case g_is_term => (refine' N0.fnG KX G ?a ?l ?c ?k; (case a => k_is); (case l => k_is); (case c => k_is); (case k => k_is)))
    (case g_term_size => (refine' N0.fnG KX G ?a ?l ?c ?k; (case a => k_is); (case l => k_is); (case c => k_is); (case k => k_is)))
    (case g_term_depth => (refine' N0.fnG KX G ?a ?l ?c ?k; (case a => k_is); (case l => k_is); (case c => k_is); (case k => k_is)))
    (case g_told_terms => (refine' N0.fnG KX G ?a ?l ?c ?k; (case a => k_is); (case l => k_is); (case c => k_is); (case k => k_is)))
    (case g_number_parts => (refine' N0.fnG KX G ?a ?l ?c ?k; (case a => k_is); (case l => k_is); (case c => k_is); (case k => k_is)))
    (case g_rank_lines => (refine' N0.fnG KX G ?a ?l ?c ?k; (case a => k_is); (case l => k_is); (case c => k_is); (case k => k_is)))
    (case g_parts_of => (refine' N0.fnG KX G ?a ?l ?c ?k; (case a => k_is); (case l => k_is); (case c => k_is); (case k => k_is)))
    (case g_term_parts => (refine' N0.fnG KX G ?a ?l ?c ?k; (case a => k_is); (case l => k_is); (case c => k_is); (case k => k_is)))
    (case g_letters_in => (refine' N0.fnG KX G ?a ?l ?c ?k; (case a => k_is); (case l => k_is); (case c => k_is); (case k => k_is)))
    (case g_term_letters => (refine' N0.fnG KX G ?a ?l ?c ?k; (case a => k_is); (case l => k_is); (case c => k_is); (case k => k_is)))
    (case g_is_lesser_one => (refine' N0.fnG KX G ?a ?l ?c ?k; (case a => k_is); (case l => k_is); (case c => k_is); (case k => k_is)))
    (case g_is_lesser => (refine' N0.fnG KX G ?a ?l ?c ?k; (case a => k_is); (case l => k_is); (case c => k_is); (case k => k_is)))
    (case g_law_begun => (refine' N0.fnG KX G ?a ?l ?c ?k; (case a => k_is); (case l => k_is); (case c => k_is); (case k => k_is)))
    (case g_law_draw => (refine' N0.fnG KX G ?a ?l ?c ?k; (case a => k_is); (case l => k_is); (case c => k_is); (case k => k_is)))
    (case g_law_of => (refine' N0.fnG KX G ?a ?l ?c ?k; (case a => k_is); (case l => k_is); (case c => k_is); (case k => k_is)))
    (case g_law_same => (refine' N0.fnG KX G ?a ?l ?c ?k; (case a => k_is); (case l => k_is); (case c => k_is); (case k => k_is)))
    (case g_law_letters => (refine' N0.fnG KX G ?a ?l ?c ?k; (case a => k_is); (case l => k_is); (case c => k_is); (case k => k_is)))
    (case g_law_term => (refine' N0.fnG KX G ?a ?l ?c ?k; (case a => k_is); (case l => k_is); (case c => k_is); (case k => k_is)))
    (case g_law_inner => (refine' N0.fnG KX G ?a ?l ?c ?k; (case a => k_is); (case l => k_is); (case c => k_is); (case k => k_is)))
    (case g_law_size => (refine' N0.fnG KX G ?a ?l ?c ?k; (case a => k_is); (case l => k_is); (case c => k_is); (case k => k_is)))
    (case g_law_deep => (refine' N0.fnG KX G ?a ?l ?c ?k; (case a => k_is); (case l => k_is); (case c => k_is); (case k => k_is)))
    (case g_law_all_parts => (refine' N0.fnG KX G ?a ?l ?c ?k; (case a => k_is); (case l => k_is); (case c => k_is); (case k => k_is)))
    (case g_law_names_in => (refine' N0.fnG KX G ?a ?l ?c ?k; (case a => k_is); (case l => k_is); (case c => k_is); (case k => k_is)))
    (case g_law_is_less => (refine' N0.fnG KX G ?a ?l ?c ?k; (case a => k_is); (case l => k_is); (case c => k_is); (case k => k_is)))
    (case g_law_ordered => (refine' N0.fnG KX G ?a ?l ?c ?k; (case a => k_is); (case l => k_is); (case c => k_is); (case k => k_is)))
    (case g_law_altered => (refine' N0.fnG KX G ?a ?l ?c ?k; (case a => k_is); (case l => k_is); (case c => k_is); (case k => k_is)))
    (case g_law_one_right => (refine' N0.fnG KX G ?a ?l ?c ?k; (case a => k_is); (case l => k_is); (case c => k_is); (case k => k_is)))
    (case g_law_two_right => (refine' N0.fnG KX G ?a ?l ?c ?k; (case a => k_is); (case l => k_is); (case c => k_is); (case k => k_is)))
    (case g_law => (refine' N0.fnG KX G ?a ?l ?c ?k; (case a => k_is); (case l => k_is); (case c => k_is); (case k => k_is)))
