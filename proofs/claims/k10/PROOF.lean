import PyProof.Rows.All
import Wide.All
import OpenK.AllK
import Wide.FinOn
import HandS.ForMost
import HandS.Text
import HandS.IsInst
import HandS.TupAny
import HandS.Zip
import HandS.Walk
import HandS.Deep
import HandS.Strs
import HandS.Style
import HandS.TupLe
import HandS.Flow
import HandS.SortOrd
import HandS.Conv
import HandS.SortRule
import KE.LtSeq
import PyProof.Rows.SortKeyStr
import KE.GoesMore
import KE.LtData
import KE.DataMinMax
import HandS.SetFor
import HandS.TupLen
import HandS.DictComp
import PySem.Challenge.RW_nocases_k10_whole_contraries_and_closure
set_option Elab.async false
set_option linter.all false
set_option maxRecDepth 100000
set_option maxHeartbeats 4000000
namespace N0
open PySem L2

inductive Tm where
  | yes | no | letter (s : Str) | not (a : Tm) | and (a b : Tm) | or (a b : Tm)
  deriving DecidableEq
namespace Tm
def kids : Tm → List Tm
  | .not a => [a]
  | .and a b => [a, b]
  | .or a b => [a, b]
  | _ => []
def kd : Tm → Nat
  | .yes => 0 | .no => 1 | .letter _ => 2 | .not _ => 3 | .and _ _ => 4 | .or _ _ => 5
def size : Tm → Nat
  | .not a => a.size + 1
  | .and a b => a.size + b.size + 1
  | .or a b => a.size + b.size + 1
  | _ => 1
def dep : Tm → Nat
  | .not a => a.dep + 1
  | .and a b => max a.dep b.dep + 1
  | .or a b => max a.dep b.dep + 1
  | _ => 0
def k2 (t : Tm) : Nat := t.size * 6 + t.kd
theorem kd_lt (t : Tm) : t.kd < 6 := by cases t <;> simp [kd]
theorem size_pos (t : Tm) : 0 < t.size := by cases t <;> simp [size]
end Tm
def slt (a b : Str) : Bool := decide (a.cps.toList < b.cps.toList)
theorem slt_irr (a : Str) : slt a a = false := decide_eq_false (List.lt_irrefl _)
theorem slt_trans {a b c : Str} (h1 : slt a b = true) (h2 : slt b c = true) : slt a c = true :=
  decide_eq_true (List.lt_trans (of_decide_eq_true h1) (of_decide_eq_true h2))
theorem str_ext {a b : Str} (h : a.cps.toList = b.cps.toList) : a = b := by
  cases a; cases b; congr; exact Array.ext' h
theorem slt_tri {a b : Str} (h : a ≠ b) : slt a b = true ∨ slt b a = true := by
  by_cases h1 : a.cps.toList < b.cps.toList
  · exact .inl (decide_eq_true h1)
  · by_cases h2 : b.cps.toList < a.cps.toList
    · exact .inr (decide_eq_true h2)
    · exact absurd (str_ext (List.le_antisymm (List.not_lt.mp h2) (List.not_lt.mp h1))) h
namespace Tm
def lt (a b : Tm) : Bool :=
  if a.k2 ≠ b.k2 then decide (a.k2 < b.k2) else
  match a, b with
  | .letter s, .letter r => slt s r
  | .not x, .not y => if x = y then false else lt x y
  | .and x x', .and y y' => if x = y then (if x' = y' then false else lt x' y') else lt x y
  | .or x x', .or y y' => if x = y then (if x' = y' then false else lt x' y') else lt x y
  | _, _ => false
theorem k2_kd {a b : Tm} (h : a.k2 = b.k2) : a.kd = b.kd ∧ a.size = b.size := by
  have h1 := kd_lt a; have h2 := kd_lt b
  unfold k2 at h; omega
theorem lt_ne {a b : Tm} (h : a.k2 ≠ b.k2) : lt a b = decide (a.k2 < b.k2) := by
  unfold lt; rw [if_pos h]
theorem lt_letter {s r : Str} : lt (.letter s) (.letter r) = slt s r := by
  unfold lt; rw [if_neg (by simp [k2, size, kd])]
theorem lt_not {x y : Tm} (h : x.k2 = y.k2) : lt (.not x) (.not y) = if x = y then false else lt x y := by
  have e := (k2_kd h).2
  rw [lt]; rw [if_neg (by simp [k2, size, kd, e])]
theorem lt_and {x x' y y' : Tm} (h : (Tm.and x x').k2 = (Tm.and y y').k2) : lt (.and x x') (.and y y') = if x = y then (if x' = y' then false else lt x' y') else lt x y := by
  rw [lt]; rw [if_neg (by simp [h])]
theorem lt_or {x x' y y' : Tm} (h : (Tm.or x x').k2 = (Tm.or y y').k2) : lt (.or x x') (.or y y') = if x = y then (if x' = y' then false else lt x' y') else lt x y := by
  rw [lt]; rw [if_neg (by simp [h])]
theorem lt_not' {x y : Tm} (h : (Tm.not x).k2 = (Tm.not y).k2) : lt (.not x) (.not y) = if x = y then false else lt x y := by
  rw [lt]; rw [if_neg (by simp [h])]
theorem lt_irr (a : Tm) : lt a a = false := by
  cases a with
  | yes => rfl
  | no => rfl
  | letter s => rw [lt_letter, slt_irr]
  | not x => rw [lt_not' rfl, if_pos rfl]
  | and x y => rw [lt_and rfl, if_pos rfl, if_pos rfl]
  | or x y => rw [lt_or rfl, if_pos rfl, if_pos rfl]
theorem lt_k2 {a b : Tm} (h : a.k2 < b.k2) : lt a b = true := by rw [lt_ne (by omega)]; exact decide_eq_true h
theorem k2_le {a b : Tm} (h : lt a b = true) : a.k2 ≤ b.k2 := by
  by_cases e : a.k2 = b.k2
  · omega
  · rw [lt_ne e] at h; exact Nat.le_of_lt (of_decide_eq_true h)
theorem lt_tri : ∀ {a b : Tm}, a ≠ b → lt a b = true ∨ lt b a = true := by
  intro a
  induction a with
  | yes =>
    intro b h
    rcases Nat.lt_trichotomy (Tm.yes).k2 b.k2 with e | e | e
    · exact .inl (lt_k2 e)
    · have := (k2_kd e).1; cases b <;> simp [kd] at this; exact absurd rfl h
    · exact .inr (lt_k2 e)
  | no =>
    intro b h
    rcases Nat.lt_trichotomy (Tm.no).k2 b.k2 with e | e | e
    · exact .inl (lt_k2 e)
    · have := (k2_kd e).1; cases b <;> simp [kd] at this; exact absurd rfl h
    · exact .inr (lt_k2 e)
  | letter s =>
    intro b h
    rcases Nat.lt_trichotomy (Tm.letter s).k2 b.k2 with e | e | e
    · exact .inl (lt_k2 e)
    · have := (k2_kd e).1; cases b <;> simp [kd] at this
      rw [lt_letter, lt_letter]
      exact slt_tri (fun q => h (by rw [q]))
    · exact .inr (lt_k2 e)
  | not x ih =>
    intro b h
    rcases Nat.lt_trichotomy (Tm.not x).k2 b.k2 with e | e | e
    · exact .inl (lt_k2 e)
    · have := (k2_kd e).1; cases b <;> simp [kd] at this
      rename_i y
      have hxy : x ≠ y := fun q => h (by rw [q])
      rw [lt_not' e, lt_not' e.symm, if_neg hxy, if_neg (Ne.symm hxy)]
      exact ih hxy
    · exact .inr (lt_k2 e)
  | and x x' ih ih' =>
    intro b h
    rcases Nat.lt_trichotomy (Tm.and x x').k2 b.k2 with e | e | e
    · exact .inl (lt_k2 e)
    · have := (k2_kd e).1; cases b <;> simp [kd] at this
      rename_i y y'
      rw [lt_and e, lt_and e.symm]
      by_cases q : x = y
      · have q' : x' ≠ y' := fun r => h (by rw [q, r])
        rw [if_pos q, if_pos q.symm, if_neg q', if_neg (Ne.symm q')]
        exact ih' q'
      · rw [if_neg q, if_neg (Ne.symm q)]
        exact ih q
    · exact .inr (lt_k2 e)
  | or x x' ih ih' =>
    intro b h
    rcases Nat.lt_trichotomy (Tm.or x x').k2 b.k2 with e | e | e
    · exact .inl (lt_k2 e)
    · have := (k2_kd e).1; cases b <;> simp [kd] at this
      rename_i y y'
      rw [lt_or e, lt_or e.symm]
      by_cases q : x = y
      · have q' : x' ≠ y' := fun r => h (by rw [q, r])
        rw [if_pos q, if_pos q.symm, if_neg q', if_neg (Ne.symm q')]
        exact ih' q'
      · rw [if_neg q, if_neg (Ne.symm q)]
        exact ih q
    · exact .inr (lt_k2 e)
/-- what both pairs give, given transitivity below -/
theorem pair_trans {x x' y y' z z' : Tm} (t1 : ∀ {b c}, lt x b = true → lt b c = true → lt x c = true) (t2 : ∀ {b c}, lt x' b = true → lt b c = true → lt x' c = true)
    (as : ∀ {b}, lt x b = true → lt b x = true → False)
    (h1 : (if x = y then (if x' = y' then false else lt x' y') else lt x y) = true) (h2 : (if y = z then (if y' = z' then false else lt y' z') else lt y z) = true)
    (as' : ∀ {b}, lt x' b = true → lt b x' = true → False) :
    (if x = z then (if x' = z' then false else lt x' z') else lt x z) = true := by
  by_cases q : x = y
  · subst q
    rw [if_pos rfl] at h1
    by_cases r : x = z
    · subst r
      rw [if_pos rfl] at h2 ⊢
      by_cases a : x' = y'
      · rw [if_pos a] at h1; cases h1
      · rw [if_neg a] at h1
        by_cases b : y' = z'
        · rw [if_pos b] at h2; cases h2
        · rw [if_neg b] at h2
          by_cases c : x' = z'
          · subst c; exact absurd h2 (fun w => as' h1 w)
          · rw [if_neg c]; exact t2 h1 h2
    · rw [if_neg r] at h2 ⊢; exact h2
  · rw [if_neg q] at h1
    by_cases r : y = z
    · subst r; rw [if_neg q]; exact h1
    · rw [if_neg r] at h2
      by_cases s : x = z
      · subst s; exact absurd h2 (fun w => as h1 w)
      · rw [if_neg s]; exact t1 h1 h2
theorem lt_trans : ∀ {a b c : Tm}, lt a b = true → lt b c = true → lt a c = true := by
  intro a
  induction a with
  | yes =>
    intro b c h1 h2
    have e1 := k2_le h1; have e2 := k2_le h2
    by_cases e : (Tm.yes).k2 < c.k2
    · exact lt_k2 e
    · have e3 : (Tm.yes).k2 = b.k2 := by omega
      have := (k2_kd e3).1; cases b <;> simp [kd] at this
      rw [lt_irr] at h1; cases h1
  | no =>
    intro b c h1 h2
    have e1 := k2_le h1; have e2 := k2_le h2
    by_cases e : (Tm.no).k2 < c.k2
    · exact lt_k2 e
    · have e3 : (Tm.no).k2 = b.k2 := by omega
      have := (k2_kd e3).1; cases b <;> simp [kd] at this
      rw [lt_irr] at h1; cases h1
  | letter s =>
    intro b c h1 h2
    have e1 := k2_le h1; have e2 := k2_le h2
    by_cases e : (Tm.letter s).k2 < c.k2
    · exact lt_k2 e
    · have e3 : (Tm.letter s).k2 = b.k2 := by omega
      have e4 : (Tm.letter s).k2 = c.k2 := by omega
      have q := (k2_kd e3).1; cases b <;> simp [kd] at q
      have q := (k2_kd e4).1; cases c <;> simp [kd] at q
      rw [lt_letter] at h1 h2 ⊢
      exact slt_trans h1 h2
  | not x ih =>
    intro b c h1 h2
    have e1 := k2_le h1; have e2 := k2_le h2
    by_cases e : (Tm.not x).k2 < c.k2
    · exact lt_k2 e
    · have e3 : (Tm.not x).k2 = b.k2 := by omega
      have e4 : (Tm.not x).k2 = c.k2 := by omega
      obtain ⟨y, rfl⟩ : ∃ y, b = .not y := by
        have q := (k2_kd e3).1
        cases b <;> simp [kd] at q
        exact ⟨_, rfl⟩
      obtain ⟨z, rfl⟩ : ∃ z, c = .not z := by
        have q := (k2_kd e4).1
        cases c <;> simp [kd] at q
        exact ⟨_, rfl⟩
      rw [lt_not' e3] at h1
      rw [lt_not' (e3.symm.trans e4)] at h2
      rw [lt_not' e4]
      have as : ∀ {b}, lt x b = true → lt b x = true → False := fun p q => by have := ih p q; rw [lt_irr] at this; cases this
      by_cases a : x = y
      · rw [if_pos a] at h1; cases h1
      · rw [if_neg a] at h1
        by_cases b : y = z
        · rw [if_pos b] at h2; cases h2
        · rw [if_neg b] at h2
          by_cases c : x = z
          · subst c; exact absurd h2 (fun w => as h1 w)
          · rw [if_neg c]; exact ih h1 h2
  | and x x' ih ih' =>
    intro b c h1 h2
    have e1 := k2_le h1; have e2 := k2_le h2
    by_cases e : (Tm.and x x').k2 < c.k2
    · exact lt_k2 e
    · have e3 : (Tm.and x x').k2 = b.k2 := by omega
      have e4 : (Tm.and x x').k2 = c.k2 := by omega
      have q := (k2_kd e3).1; cases b <;> simp [kd] at q
      have q := (k2_kd e4).1; cases c <;> simp [kd] at q
      rw [lt_and e3] at h1
      rw [lt_and (e3.symm.trans e4)] at h2
      rw [lt_and e4]
      exact pair_trans ih ih' (fun p q => by have := ih p q; rw [lt_irr] at this; cases this) h1 h2 (fun p q => by have := ih' p q; rw [lt_irr] at this; cases this)
  | or x x' ih ih' =>
    intro b c h1 h2
    have e1 := k2_le h1; have e2 := k2_le h2
    by_cases e : (Tm.or x x').k2 < c.k2
    · exact lt_k2 e
    · have e3 : (Tm.or x x').k2 = b.k2 := by omega
      have e4 : (Tm.or x x').k2 = c.k2 := by omega
      have q := (k2_kd e3).1; cases b <;> simp [kd] at q
      have q := (k2_kd e4).1; cases c <;> simp [kd] at q
      rw [lt_or e3] at h1
      rw [lt_or (e3.symm.trans e4)] at h2
      rw [lt_or e4]
      exact pair_trans ih ih' (fun p q => by have := ih p q; rw [lt_irr] at this; cases this) h1 h2 (fun p q => by have := ih' p q; rw [lt_irr] at this; cases this)
theorem lt_asym {a b : Tm} (h : lt a b = true) : lt b a = false := by
  cases e : lt b a with
  | false => rfl
  | true => have := lt_trans h e; rw [lt_irr] at this; cases this
end Tm

/-! ### sorted lists, counts -/
/-- in a list sorted by a strict order the k-th item has just k lesser ones -/
theorem countP_sorted {α : Type} {r : α → α → Bool} (irr : ∀ a, r a a = false) (as : ∀ a b, r a b = true → r b a = false) :
    ∀ {l : List α}, l.Pairwise (fun a b => r a b = true) → ∀ {k : Nat} {x : α}, l[k]? = some x → l.countP (fun y => r y x) = k
  | [], _, k, x, h => by simp at h
  | a :: l, hp, k, x, h => by
    rw [List.pairwise_cons] at hp
    cases k with
    | zero =>
      simp at h; subst h
      rw [List.countP_cons, irr]
      have : l.countP (fun y => r y a) = 0 := List.countP_eq_zero.mpr fun y hy => by rw [as _ _ (hp.1 y hy)]; simp
      simp [this]
    | succ k =>
      have h' : l[k]? = some x := by simpa using h
      have hx : x ∈ l := List.mem_of_getElem? h'
      rw [List.countP_cons, countP_sorted irr as hp.2 h', hp.1 x hx]; simp
def rk (ts : List Tm) (t : Tm) : Nat := ts.countP fun u => Tm.lt u t
theorem countP_imp {α : Type} {p q : α → Bool} : ∀ {l : List α}, (∀ x ∈ l, p x = true → q x = true) → l.countP p ≤ l.countP q
  | [], _ => Nat.le_refl _
  | a :: l, h => by
    have ih := countP_imp (l := l) fun x hx => h x (List.mem_cons_of_mem _ hx)
    rw [List.countP_cons, List.countP_cons]
    have := h a (List.mem_cons_self ..)
    cases ep : p a <;> cases eq : q a <;> simp_all <;> omega
theorem rk_lt {ts : List Tm} {a b : Tm} (ha : a ∈ ts) (h : Tm.lt a b = true) : rk ts a < rk ts b := by
  unfold rk
  induction ts with
  | nil => cases ha
  | cons u r ih =>
    rw [List.countP_cons, List.countP_cons]
    have mono : ∀ x, Tm.lt x a = true → Tm.lt x b = true := fun x q => Tm.lt_trans q h
    rcases List.mem_cons.mp ha with e | e
    · subst e
      rw [Tm.lt_irr, h]
      have := countP_imp (l := r) fun x _ => mono x
      simp; omega
    · have := ih e
      by_cases q : Tm.lt u a = true
      · rw [q, mono u q]; simp; omega
      · simp at q; rw [q]
        by_cases z : Tm.lt u b = true <;> simp [z] <;> omega
theorem rk_inj {ts : List Tm} {a b : Tm} (ha : a ∈ ts) (hb : b ∈ ts) (h : rk ts a = rk ts b) : a = b := by
  by_cases e : a = b
  · exact e
  · rcases Tm.lt_tri e with q | q
    · have := rk_lt ha q; omega
    · have := rk_lt hb q; omega
theorem rk_iff {ts : List Tm} {a b : Tm} (ha : a ∈ ts) (hb : b ∈ ts) : (rk ts a < rk ts b) ↔ Tm.lt a b = true := by
  constructor
  · intro h
    have e : a ≠ b := fun q => by rw [q] at h; exact Nat.lt_irrefl _ h
    rcases Tm.lt_tri e with q | q
    · exact q
    · have := rk_lt hb q; omega
  · exact rk_lt ha
theorem rk_bound {ts : List Tm} {a : Tm} (ha : a ∈ ts) : rk ts a < ts.length := by
  unfold rk
  have h : ts.countP (fun u => Tm.lt u a) ≠ ts.length := fun h => by
    have := List.countP_eq_length.mp h a ha
    rw [Tm.lt_irr] at this; cases this
  have := List.countP_le_length (p := fun u => Tm.lt u a) (l := ts)
  omega
end N0

namespace N0
open PySem L2

/-! ### terms by their lines -/
def put (ts : List Tm) (t : Tm) : List Tm := if t ∈ ts then ts else ts ++ [t]
def addP (ts : List Tm) : Tm → List Tm
  | .not a => put (addP ts a) (.not a)
  | .and a b => put (addP (addP ts a) b) (.and a b)
  | .or a b => put (addP (addP ts a) b) (.or a b)
  | t => put ts t
namespace Tm
def subs : Tm → List Tm
  | .not a => subs a ++ [.not a]
  | .and a b => subs a ++ subs b ++ [.and a b]
  | .or a b => subs a ++ subs b ++ [.or a b]
  | t => [t]
theorem self_subs (t : Tm) : t ∈ t.subs := by cases t <;> simp [subs]
end Tm
theorem put_mem {ts : List Tm} {t x : Tm} : x ∈ put ts t ↔ x ∈ ts ∨ x = t := by
  unfold put; split
  · exact ⟨.inl, fun h => h.elim id fun e => e ▸ ‹_›⟩
  · simp
theorem put_nodup {ts : List Tm} {t : Tm} (h : ts.Nodup) : (put ts t).Nodup := by
  unfold put; split
  · exact h
  · rw [List.nodup_append]
    refine ⟨h, by simp, fun a ha b hb e => ?_⟩
    simp at hb; subst hb; subst e; contradiction
theorem put_pre {ts : List Tm} {t : Tm} : ∃ r, put ts t = ts ++ r := by
  unfold put; split
  · exact ⟨[], by simp⟩
  · exact ⟨_, rfl⟩
theorem put_len {ts : List Tm} {t : Tm} : (put ts t).length ≤ ts.length + 1 := by
  unfold put; split <;> simp
theorem addP_pre : ∀ (t : Tm) (ts : List Tm), ∃ r, addP ts t = ts ++ r := by
  intro t
  induction t with
  | yes => intro ts; exact put_pre
  | no => intro ts; exact put_pre
  | letter s => intro ts; exact put_pre
  | not a ih =>
    intro ts
    obtain ⟨r, e⟩ := ih ts
    obtain ⟨r', e'⟩ := put_pre (ts := addP ts a) (t := .not a)
    exact ⟨r ++ r', by show put (addP ts a) _ = _; rw [e', e, List.append_assoc]⟩
  | and a b iha ihb =>
    intro ts
    obtain ⟨r, e⟩ := iha ts
    obtain ⟨r1, e1⟩ := ihb (addP ts a)
    obtain ⟨r', e'⟩ := put_pre (ts := addP (addP ts a) b) (t := .and a b)
    exact ⟨r ++ r1 ++ r', by show put _ _ = _; rw [e', e1, e]; simp⟩
  | or a b iha ihb =>
    intro ts
    obtain ⟨r, e⟩ := iha ts
    obtain ⟨r1, e1⟩ := ihb (addP ts a)
    obtain ⟨r', e'⟩ := put_pre (ts := addP (addP ts a) b) (t := .or a b)
    exact ⟨r ++ r1 ++ r', by show put _ _ = _; rw [e', e1, e]; simp⟩
theorem addP_mem : ∀ (t : Tm) (ts : List Tm) (x : Tm), x ∈ addP ts t ↔ x ∈ ts ∨ x ∈ t.subs := by
  intro t
  induction t with
  | yes => intro ts x; show x ∈ put ts _ ↔ _; rw [put_mem]; simp [Tm.subs]
  | no => intro ts x; show x ∈ put ts _ ↔ _; rw [put_mem]; simp [Tm.subs]
  | letter s => intro ts x; show x ∈ put ts _ ↔ _; rw [put_mem]; simp [Tm.subs]
  | not a ih => intro ts x; show x ∈ put _ _ ↔ _; rw [put_mem, ih]; simp [Tm.subs, or_assoc]
  | and a b iha ihb => intro ts x; show x ∈ put _ _ ↔ _; rw [put_mem, ihb, iha]; simp [Tm.subs, or_assoc]
  | or a b iha ihb => intro ts x; show x ∈ put _ _ ↔ _; rw [put_mem, ihb, iha]; simp [Tm.subs, or_assoc]
theorem addP_self (t : Tm) (ts : List Tm) : t ∈ addP ts t := (addP_mem t ts t).mpr (.inr t.self_subs)
theorem addP_nodup : ∀ (t : Tm) {ts : List Tm}, ts.Nodup → (addP ts t).Nodup := by
  intro t
  induction t with
  | yes => intro ts h; exact put_nodup h
  | no => intro ts h; exact put_nodup h
  | letter s => intro ts h; exact put_nodup h
  | not a ih => intro ts h; exact put_nodup (ih h)
  | and a b iha ihb => intro ts h; exact put_nodup (ihb (iha h))
  | or a b iha ihb => intro ts h; exact put_nodup (ihb (iha h))
theorem addP_len : ∀ (t : Tm) (ts : List Tm), (addP ts t).length ≤ ts.length + t.size := by
  intro t
  induction t with
  | yes => intro ts; exact put_len
  | no => intro ts; exact put_len
  | letter s => intro ts; exact put_len
  | not a ih => intro ts; have := ih ts; have := put_len (ts := addP ts a) (t := .not a); show (put _ _).length ≤ _; simp only [Tm.size]; omega
  | and a b iha ihb => intro ts; have := iha ts; have := ihb (addP ts a); have := put_len (ts := addP (addP ts a) b) (t := .and a b); show (put _ _).length ≤ _; simp only [Tm.size]; omega
  | or a b iha ihb => intro ts; have := iha ts; have := ihb (addP ts a); have := put_len (ts := addP (addP ts a) b) (t := .or a b); show (put _ _).length ≤ _; simp only [Tm.size]; omega
/-- kids stand ahead -/
def Cl (ts : List Tm) : Prop := ∀ (i : Nat) (t : Tm), ts[i]? = some t → ∀ k ∈ t.kids, ∃ j : Nat, j < i ∧ ts[j]? = some k
theorem Cl.nil : Cl [] := fun i t h => by simp at h
theorem put_cl {ts : List Tm} {t : Tm} (h : Cl ts) (hk : ∀ k ∈ t.kids, k ∈ ts) : Cl (put ts t) := by
  unfold put; split
  · exact h
  · intro i u hu k hk'
    by_cases hi : i < ts.length
    · rw [List.getElem?_append_left hi] at hu
      obtain ⟨j, h1, h2⟩ := h i u hu k hk'
      exact ⟨j, h1, by rw [List.getElem?_append_left (by omega)]; exact h2⟩
    · have hi2 : i < (ts ++ [t]).length := (List.getElem?_eq_some_iff.mp hu).1
      simp at hi2
      have e : i = ts.length := by omega
      subst e
      rw [List.getElem?_append_right (Nat.le_refl _)] at hu
      simp at hu; subst hu
      obtain ⟨j, hj, e⟩ := List.getElem_of_mem (hk k hk')
      exact ⟨j, hj, by rw [List.getElem?_append_left hj, List.getElem?_eq_getElem hj, e]⟩
theorem addP_cl : ∀ (t : Tm) {ts : List Tm}, Cl ts → Cl (addP ts t) := by
  intro t
  induction t with
  | yes => intro ts h; exact put_cl h (by simp [Tm.kids])
  | no => intro ts h; exact put_cl h (by simp [Tm.kids])
  | letter s => intro ts h; exact put_cl h (by simp [Tm.kids])
  | not a ih => intro ts h; exact put_cl (ih h) (by simp [Tm.kids]; exact addP_self _ _)
  | and a b iha ihb =>
    intro ts h
    refine put_cl (ihb (iha h)) ?_
    simp only [Tm.kids, List.mem_cons, List.not_mem_nil, or_false]
    rintro k (rfl | rfl)
    · exact (addP_mem _ _ _).mpr (.inl (addP_self _ _))
    · exact addP_self _ _
  | or a b iha ihb =>
    intro ts h
    refine put_cl (ihb (iha h)) ?_
    simp only [Tm.kids, List.mem_cons, List.not_mem_nil, or_false]
    rintro k (rfl | rfl)
    · exact (addP_mem _ _ _).mpr (.inl (addP_self _ _))
    · exact addP_self _ _
/-- the place of a term -/
def ix (ts : List Tm) (t : Tm) : Nat := ts.idxOf t
theorem ix_lt {ts : List Tm} {t : Tm} (h : t ∈ ts) : ix ts t < ts.length := List.idxOf_lt_length_of_mem h
theorem ix_get {ts : List Tm} {t : Tm} (h : t ∈ ts) : ts[ix ts t]? = some t := by
  rw [List.getElem?_eq_getElem (ix_lt h)]; exact congrArg some (List.getElem_idxOf (ix_lt h))
theorem ix_of {ts : List Tm} {t : Tm} {i : Nat} (hn : ts.Nodup) (h : ts[i]? = some t) : ix ts t = i := by
  obtain ⟨hi, e⟩ := List.getElem?_eq_some_iff.mp h
  subst e
  exact hn.idxOf_getElem i hi
theorem ix_app {ts r : List Tm} {t : Tm} (h : t ∈ ts) : ix (ts ++ r) t = ix ts t := by
  unfold ix; rw [List.idxOf_append, if_pos h]
theorem ix_new {ts : List Tm} {t : Tm} (h : t ∉ ts) : ix (ts ++ [t]) t = ts.length := by
  unfold ix; rw [List.idxOf_append, if_neg h]; simp
theorem put_ix {ts : List Tm} {t u : Tm} (h : u ∈ ts) : ix (put ts t) u = ix ts u := by
  obtain ⟨r, e⟩ := put_pre (ts := ts) (t := t); rw [e]; exact ix_app h
theorem addP_ix {ts : List Tm} {t u : Tm} (h : u ∈ ts) : ix (addP ts t) u = ix ts u := by
  obtain ⟨r, e⟩ := addP_pre t ts; rw [e]; exact ix_app h

/-! ### a cut of the sorted rows -/
def Cut (k : Nat → Nat) (J : List Nat) (b : Nat) : Prop := ∀ p q i j, p < b → b ≤ q → J[p]? = some i → J[q]? = some j → k i < k j
def lt3 (k : Nat → Nat) (i j : Nat) : Prop := k i < k j ∨ (k i = k j ∧ i < j)
theorem Cut.zero {k : Nat → Nat} {J : List Nat} : Cut k J 0 := fun p q i j h => absurd h (Nat.not_lt_zero p)
theorem Cut.next {k : Nat → Nat} {J : List Nat} {b e : Nat} (hJ : J.Pairwise (lt3 k)) (c : Cut k J b) (hbe : b < e) (hg : ∀ p i j, b ≤ p → p < e → J[p]? = some i → J[b]? = some j → k i = k j)
    (he : ∀ i j, J[e]? = some i → J[b]? = some j → k i ≠ k j) : Cut k J e := by
  intro p q i j hp hq hi hj
  have hlen : q < J.length := (List.getElem?_eq_some_iff.mp hj).1
  obtain ⟨ib, hib⟩ : ∃ x, J[b]? = some x := ⟨J[b], List.getElem?_eq_getElem (by omega)⟩
  obtain ⟨ie, hie⟩ : ∃ x, J[e]? = some x := ⟨J[e], List.getElem?_eq_getElem (by omega)⟩
  have pw : ∀ {x y i j : Nat}, x < y → J[x]? = some i → J[y]? = some j → lt3 k i j := by
    intro x y i j hxy h1 h2
    obtain ⟨l1, e1⟩ := List.getElem?_eq_some_iff.mp h1
    obtain ⟨l2, e2⟩ := List.getElem?_eq_some_iff.mp h2
    have := (List.pairwise_iff_getElem.mp hJ) x y l1 l2 hxy
    rw [e1, e2] at this; exact this
  have b_e : k ib < k ie := by
    rcases pw hbe hib hie with h | h
    · exact h
    · exact absurd h.1.symm (he ie ib hie hib)
  have e_q : k ie ≤ k j := by
    by_cases h : e = q
    · subst h; rw [hie] at hj; cases hj; exact Nat.le_refl _
    · rcases pw (show e < q by omega) hie hj with h | h
      · omega
      · omega
  have p_b : k i ≤ k ib := by
    by_cases h : p < b
    · exact Nat.le_of_lt (c p b i ib h (Nat.le_refl _) hi hib)
    · exact Nat.le_of_eq (hg p i ib (by omega) hp hi hib)
  omega
theorem rk_group {ts : List Tm} {J O : List Nat} {b e q i : Nat} (hp : J.Perm (List.range ts.length)) (c1 : Cut (fun i => (ts.getD i .yes).k2) J b) (c2 : Cut (fun i => (ts.getD i .yes).k2) J e) (hbe : b ≤ e) (hel : e ≤ J.length)
    (hO : O.Perm ((J.drop b).take (e - b))) (hs : O.Pairwise fun i j => Tm.lt (ts.getD i .yes) (ts.getD j .yes) = true) (hi : O[q]? = some i) : rk ts (ts.getD i .yes) = b + q := by
  have h0 : ts = (List.range ts.length).map fun j => ts.getD j .yes := by
    apply List.ext_getElem (by simp)
    intro j h1 h2
    simp [List.getD_eq_getElem?_getD, List.getElem?_eq_getElem h1]
  have h1' : ∀ t0 : Tm, ts.countP (fun u => Tm.lt u t0) = J.countP fun j => Tm.lt (ts.getD j .yes) t0 := by
    intro t0
    conv => lhs; rw [h0]
    rw [List.countP_map, hp.countP_eq]
    rfl
  have h1 : rk ts (ts.getD i .yes) = J.countP fun j => Tm.lt (ts.getD j .yes) (ts.getD i .yes) := h1' _
  have hJ : J = J.take b ++ ((J.drop b).take (e - b) ++ J.drop e) := by
    have : J.drop e = (J.drop b).drop (e - b) := by rw [List.drop_drop]; congr 1; omega
    rw [this, List.take_append_drop, List.take_append_drop]
  have hiG : i ∈ (J.drop b).take (e - b) := hO.mem_iff.mp (List.mem_of_getElem? hi)
  obtain ⟨g, hg⟩ : ∃ g : Nat, b ≤ g ∧ g < e ∧ J[g]? = some i := by
    obtain ⟨x, hx, ex⟩ := List.getElem_of_mem hiG
    rw [List.getElem_take, List.getElem_drop] at ex
    rw [List.length_take, List.length_drop] at hx
    exact ⟨b + x, by omega, by omega, by rw [List.getElem?_eq_getElem (by omega), ex]⟩
  rw [h1]
  conv => lhs; rw [hJ]
  rw [List.countP_append, List.countP_append]
  have n1 : (J.take b).countP (fun j => Tm.lt (ts.getD j .yes) (ts.getD i .yes)) = b := by
    have hl : (J.take b).length = b := by rw [List.length_take]; omega
    refine Eq.trans (List.countP_eq_length.mpr fun j hj => ?_) hl
    obtain ⟨x, hx, ex⟩ := List.getElem_of_mem hj
    rw [List.getElem_take] at ex
    rw [List.length_take] at hx
    exact Tm.lt_k2 (c1 x g j i (by omega) hg.1 (by rw [List.getElem?_eq_getElem (by omega), ex]) hg.2.2)
  have n3 : (J.drop e).countP (fun j => Tm.lt (ts.getD j .yes) (ts.getD i .yes)) = 0 := by
    refine List.countP_eq_zero.mpr fun j hj => ?_
    obtain ⟨x, hx, ex⟩ := List.getElem_of_mem hj
    rw [List.getElem_drop] at ex
    rw [List.length_drop] at hx
    have := c2 g (e + x) i j hg.2.1 (by omega) hg.2.2 (by rw [List.getElem?_eq_getElem (by omega), ex])
    rw [Tm.lt_asym (Tm.lt_k2 this)]; simp
  have n2 : ((J.drop b).take (e - b)).countP (fun j => Tm.lt (ts.getD j .yes) (ts.getD i .yes)) = q := by
    rw [← hO.countP_eq]
    exact countP_sorted (r := fun i j => Tm.lt (ts.getD i .yes) (ts.getD j .yes)) (fun a => Tm.lt_irr _) (fun a b h => Tm.lt_asym h) hs hi
  rw [n1, n2, n3]; omega

/-! ### the law's own order -/
def ins (S : List Tm) (x : Tm) : List Tm := S.take (S.countP fun u => Tm.lt u x) ++ [x] ++ S.drop (S.countP fun u => Tm.lt u x)
def Inc (S : List Tm) : Prop := S.Pairwise fun a b => Tm.lt a b = true
theorem inc_prefix : ∀ {S : List Tm} {x : Tm}, Inc S → (∀ u ∈ S.take (S.countP fun u => Tm.lt u x), Tm.lt u x = true) ∧ (∀ u ∈ S.drop (S.countP fun u => Tm.lt u x), Tm.lt u x = false)
  | [], x, _ => ⟨by simp, by simp⟩
  | a :: S, x, h => by
    have h' := List.pairwise_cons.mp h
    have ih := inc_prefix (S := S) (x := x) h'.2
    by_cases e : Tm.lt a x = true
    · rw [List.countP_cons, e]
      simp only [if_true]
      refine ⟨fun u hu => ?_, fun u hu => ih.2 u (by simpa using hu)⟩
      rw [List.take_succ_cons] at hu
      rcases List.mem_cons.mp hu with rfl | q
      · exact e
      · exact ih.1 u q
    · have hz : ∀ u ∈ a :: S, Tm.lt u x = false := by
        intro u hu
        cases hq : Tm.lt u x with
        | false => rfl
        | true =>
          rcases List.mem_cons.mp hu with rfl | q
          · exact absurd hq e
          · exact absurd (Tm.lt_trans (h'.1 u q) hq) e
      have : (a :: S).countP (fun u => Tm.lt u x) = 0 := List.countP_eq_zero.mpr fun u hu => by rw [hz u hu]; simp
      rw [this]
      exact ⟨by simp, fun u hu => hz u (by simpa using hu)⟩
theorem ins_inc {S : List Tm} {x : Tm} (h : Inc S) (hx : x ∉ S) : Inc (ins S x) := by
  obtain ⟨h1, h2⟩ := inc_prefix (x := x) h
  unfold ins Inc
  generalize S.countP (fun u => Tm.lt u x) = k at h1 h2 ⊢
  have hd : ∀ u ∈ S.drop k, Tm.lt x u = true := fun u hu => by
    have hn : x ≠ u := fun e => hx (e ▸ List.mem_of_mem_drop hu)
    rcases Tm.lt_tri hn with q | q
    · exact q
    · rw [h2 u hu] at q; cases q
  rw [List.append_assoc, List.pairwise_append]
  refine ⟨List.Pairwise.sublist (List.take_sublist ..) h, ?_, fun a ha b hb => ?_⟩
  · rw [List.singleton_append, List.pairwise_cons]
    exact ⟨hd, List.Pairwise.sublist (List.drop_sublist ..) h⟩
  · rw [List.singleton_append] at hb
    rcases List.mem_cons.mp hb with rfl | q
    · exact h1 a ha
    · exact Tm.lt_trans (h1 a ha) (hd b q)
theorem ins_mem {S : List Tm} {x u : Tm} : u ∈ ins S x ↔ u ∈ S ∨ u = x := by
  unfold ins
  generalize S.countP (fun u => Tm.lt u x) = k
  conv => rhs; rw [← List.take_append_drop k S]
  simp only [List.mem_append, List.mem_singleton]
  constructor
  · rintro ((h | h) | h)
    · exact .inl (.inl h)
    · exact .inr h
    · exact .inl (.inr h)
  · rintro ((h | h) | h)
    · exact .inl (.inl h)
    · exact .inr h
    · exact .inl (.inr h)
theorem ins_len {S : List Tm} {x : Tm} : (ins S x).length = S.length + 1 := by
  unfold ins
  rw [List.length_append, List.length_append, List.length_take, List.length_drop, List.length_singleton]
  have := List.countP_le_length (p := fun u => Tm.lt u x) (l := S)
  omega
def ord (l : List Tm) : List Tm := l.foldl ins []
theorem ord_snoc (l : List Tm) (x : Tm) : ord (l ++ [x]) = ins (ord l) x := by unfold ord; rw [List.foldl_append]; rfl
theorem ord_mem : ∀ (l : List Tm) (S : List Tm) (u : Tm), u ∈ l.foldl ins S ↔ u ∈ S ∨ u ∈ l
  | [], S, u => by simp
  | x :: l, S, u => by rw [List.foldl_cons, ord_mem l, ins_mem, List.mem_cons, or_assoc]
theorem ord_inc : ∀ (l : List Tm) (S : List Tm), Inc S → (∀ u ∈ l, u ∉ S) → l.Nodup → Inc (l.foldl ins S)
  | [], S, h, _, _ => h
  | x :: l, S, h, hd, hn => by
    rw [List.nodup_cons] at hn
    rw [List.foldl_cons]
    refine ord_inc l _ (ins_inc h (hd x (List.mem_cons_self ..))) (fun u hu => ?_) hn.2
    rw [ins_mem]
    rintro (q | q)
    · exact hd u (List.mem_cons_of_mem _ hu) q
    · exact hn.1 (q ▸ hu)
theorem Inc.nodup {S : List Tm} (h : Inc S) : S.Nodup := List.Pairwise.imp (fun q e => by subst e; rw [Tm.lt_irr] at q; cases q) h
theorem inc_ext {S R : List Tm} (h1 : Inc S) (h2 : Inc R) (h : ∀ u, u ∈ S ↔ u ∈ R) : S = R := by
  have hp : S.Perm R := (List.perm_ext_iff_of_nodup h1.nodup h2.nodup).mpr h
  exact hp.eq_of_pairwise (fun a b _ _ q r => by have := Tm.lt_asym q; rw [r] at this; cases this) h1 h2
/-- in a sorted list the place is the number of lesser ones -/
theorem inc_rk {S ts : List Tm} (h : Inc S) (hm : S.Perm ts) {k : Nat} {x : Tm} (hx : S[k]? = some x) : rk ts x = k := by
  unfold rk
  rw [← hm.countP_eq]
  exact countP_sorted (r := Tm.lt) Tm.lt_irr (fun a b h => Tm.lt_asym h) h hx
end N0

namespace N0
/-! ### values of a frame: ascending lists of points -/
def vl (n : Nat) (p : Nat → Bool) : List Nat := (List.range n).filter p
theorem mem_vl {n : Nat} {p : Nat → Bool} {x : Nat} : x ∈ vl n p ↔ x < n ∧ p x = true := by unfold vl; rw [List.mem_filter, List.mem_range]
theorem vl_asc (n : Nat) (p : Nat → Bool) : (vl n p).Pairwise (· < ·) := List.Pairwise.filter _ List.pairwise_lt_range
theorem vl_nodup (n : Nat) (p : Nat → Bool) : (vl n p).Nodup := (vl_asc n p).imp fun h => Nat.ne_of_lt h
theorem vl_len (n : Nat) (p : Nat → Bool) : (vl n p).length ≤ n := by
  have := List.length_filter_le p (List.range n)
  rw [List.length_range] at this; exact this
theorem asc_ext : ∀ {a b : List Nat}, a.Pairwise (· < ·) → b.Pairwise (· < ·) → (∀ x, x ∈ a ↔ x ∈ b) → a = b := by
  intro a b ha hb h
  refine List.Perm.eq_of_pairwise (le := (· < ·)) (fun x y _ _ h1 h2 => absurd h1 (by omega)) ha hb ?_
  exact (List.perm_ext_iff_of_nodup (ha.imp fun h => Nat.ne_of_lt h) (hb.imp fun h => Nat.ne_of_lt h)).mpr h
theorem vl_ext {n : Nat} {p q : Nat → Bool} (h : ∀ x, x < n → p x = q x) : vl n p = vl n q := by
  unfold vl
  exact List.filter_congr fun x hx => h x (List.mem_range.mp hx)
/-- a right value: ascending, of points below n -/
def VOk (n : Nat) (v : List Nat) : Prop := v.Pairwise (· < ·) ∧ ∀ x ∈ v, x < n
theorem VOk.eq {n : Nat} {v : List Nat} (h : VOk n v) : vl n (fun x => decide (x ∈ v)) = v :=
  asc_ext (vl_asc _ _) h.1 fun x => by rw [mem_vl, decide_eq_true_iff]; exact ⟨fun z => z.2, fun z => ⟨h.2 x z, z⟩⟩
theorem vl_ok (n : Nat) (p : Nat → Bool) : VOk n (vl n p) := ⟨vl_asc n p, fun x hx => (mem_vl.mp hx).1⟩
theorem VOk.len {n : Nat} {v : List Nat} (h : VOk n v) : v.length ≤ n := by rw [← h.eq]; exact vl_len _ _
/-! ### frames -/
def ap (ps : List (Nat × Nat)) (x y : Nat) : Bool := decide ((min x y, max x y) ∈ ps)
theorem ap_symm (ps : List (Nat × Nat)) (x y : Nat) : ap ps x y = ap ps y x := by unfold ap; rw [Nat.min_comm, Nat.max_comm]
/-- the pairs of a right frame -/
def PsOk (n : Nat) (ps : List (Nat × Nat)) : Prop := (∀ p ∈ ps, p.1 < p.2 ∧ p.2 < n) ∧ ps.Pairwise fun p q => p.1 < q.1 ∨ (p.1 = q.1 ∧ p.2 < q.2)
theorem ap_irr {n : Nat} {ps : List (Nat × Nat)} (h : PsOk n ps) (x : Nat) : ap ps x x = false := by
  unfold ap
  refine decide_eq_false fun z => ?_
  have := (h.1 _ z).1
  simp at this
def con (n : Nat) (ps : List (Nat × Nat)) (v : List Nat) : List Nat := vl n fun y => v.all fun x => ap ps x y
def clo (n : Nat) (ps : List (Nat × Nat)) (v : List Nat) : List Nat := con n ps (con n ps v)
section
variable {n : Nat} {ps : List (Nat × Nat)} {v w : List Nat} {x y : Nat}
theorem mem_con : y ∈ con n ps v ↔ y < n ∧ ∀ x ∈ v, ap ps x y = true := by unfold con; rw [mem_vl, List.all_eq_true]
theorem con_ok : VOk n (con n ps v) := vl_ok _ _
theorem con_anti (h : ∀ x ∈ v, x ∈ w) : ∀ y ∈ con n ps w, y ∈ con n ps v := fun y hy => by
  rw [mem_con] at hy ⊢
  exact ⟨hy.1, fun x hx => hy.2 x (h x hx)⟩
theorem sub_clo (h : ∀ x ∈ v, x < n) : ∀ x ∈ v, x ∈ clo n ps v := fun x hx => by
  refine mem_con.mpr ⟨h x hx, fun y hy => ?_⟩
  rw [ap_symm]
  exact (mem_con.mp hy).2 x hx
theorem con_lt : ∀ x ∈ con n ps v, x < n := fun x hx => (mem_con.mp hx).1
theorem VOk.ext (hv : VOk n v) (hw : VOk n w) (h : ∀ x, x ∈ v ↔ x ∈ w) : v = w := asc_ext hv.1 hw.1 h
theorem con_clo (h : ∀ x ∈ v, x < n) : con n ps (clo n ps v) = con n ps v :=
  con_ok.ext con_ok fun y => ⟨con_anti (sub_clo h) y, fun hy => sub_clo con_lt y hy⟩
theorem clo_clo (h : ∀ x ∈ v, x < n) : clo n ps (clo n ps v) = clo n ps v := by
  show con n ps (con n ps (clo n ps v)) = _
  rw [con_clo h]; rfl
theorem clo_con' (h : ∀ x ∈ v, x < n) : clo n ps (con n ps v) = con n ps v := con_clo h
theorem clo_mono (h : ∀ x ∈ v, x ∈ w) : ∀ y ∈ clo n ps v, y ∈ clo n ps w := con_anti (con_anti h)
end
end N0

namespace N0
open PySem L2 PySem.Spec PyProof.Rows
/-! ### values as bits -/
def Msk (b : Nat) (v : List Nat) : Prop := ∀ x, b.testBit x = decide (x ∈ v)
theorem Msk.zero : Msk 0 [] := fun x => by simp
theorem Msk.or {b c : Nat} {v w : List Nat} (h : Msk b v) (h' : Msk c w) : Msk (b ||| c) (v ++ w) := fun x => by
  rw [Nat.testBit_or, h x, h' x]
  simp [List.mem_append]
theorem Msk.one (x : Nat) : Msk (2 ^ x) [x] := fun y => by
  rw [Nat.testBit_two_pow]; simp [eq_comm]
theorem Msk.ext {b : Nat} {v w : List Nat} (h : Msk b v) (e : ∀ x, x ∈ v ↔ x ∈ w) : Msk b w := fun x => by rw [h x]; exact decide_eq_decide.mpr (e x)
theorem Msk.eq {b c : Nat} {v w : List Nat} (h : Msk b v) (h' : Msk c w) (e : ∀ x, x ∈ v ↔ x ∈ w) : b = c := Nat.eq_of_testBit_eq fun x => by rw [h x, h' x]; exact decide_eq_decide.mpr (e x)
theorem Msk.mem {b c : Nat} {v w : List Nat} (h : Msk b v) (h' : Msk c w) (e : b = c) (x : Nat) : x ∈ v ↔ x ∈ w := by
  have := h x
  rw [e, h' x] at this
  exact (decide_eq_decide.mp this).symm
theorem Msk.every (n : Nat) : Msk (2 ^ n - 1) (List.range n) := fun x => by
  rw [Nat.testBit_two_pow_sub_one]
  exact decide_eq_decide.mpr List.mem_range.symm
theorem Msk.and {b c : Nat} {v w : List Nat} (h : Msk b v) (h' : Msk c w) : Msk (b &&& c) (v.filter fun x => decide (x ∈ w)) := fun x => by
  rw [Nat.testBit_and, h x, h' x]
  simp [List.mem_filter]
theorem bit_at {b : Nat} (p : Nat) : (Builtin.bitAnd ((b : Int) / 2 ^ p) 1 = 1) ↔ b.testBit p = true := by
  have e : (b : Int) / 2 ^ p = ((b / 2 ^ p : Nat) : Int) := by
    rw [Int.natCast_ediv, Int.natCast_pow]; rfl
  rw [e, bitAnd_pp (Int.natCast_nonneg _) (by decide)]
  have e2 : ((b / 2 ^ p : Nat) : Int).toNat &&& (1 : Int).toNat = (b / 2 ^ p) % 2 := by
    rw [Int.toNat_natCast]
    exact Nat.and_one_is_mod _
  rw [e2, Nat.testBit_eq_decide_div_mod_eq, decide_eq_true_iff]
  omega
/-- the points of bits below n -/
theorem vl_msk {b : Nat} {v : List Nat} {n : Nat} (h : Msk b v) (hv : VOk n v) : vl n (fun p => b.testBit p) = v := by
  have e : vl n (fun p => b.testBit p) = vl n (fun x => decide (x ∈ v)) := vl_ext fun x _ => h x
  rw [e, hv.eq]
/-- what the walk over the bits keeps -/
theorem shr_zero {b p : Nat} : b / 2 ^ p = 0 → ∀ q, p ≤ q → b.testBit q = false := fun h q hq => by
  have h1 : b < 2 ^ p := by
    rcases Nat.lt_or_ge b (2 ^ p) with z | z
    · exact z
    · exact absurd h (Nat.ne_of_gt (Nat.div_pos z (Nat.pos_of_ne_zero (by simp))))
  exact Nat.testBit_lt_two_pow (Nat.lt_of_lt_of_le h1 (Nat.pow_le_pow_right (by decide) hq))
end N0

namespace N0
open PySem L2 PySem.Spec PyProof.Rows

/-! ### what is kept -/
structure Kp (S : List Addr) (H H' : Hp) : Prop where
  k : ∀ b o, b ∉ S → H b = some o → H' b = some o
  t : ∀ b xs, H b = some (.tup xs) → H' b = some (.tup xs)
  n : ∀ b, H' b = none → H b = none
namespace Kp
variable {S S' : List Addr} {H H1 H2 : Hp} {p l : Addr} {o u : HO}
theorem refl (S : List Addr) (H : Hp) : Kp S H H := ⟨fun _ _ _ h => h, fun _ _ h => h, fun _ h => h⟩
theorem trans (a : Kp S H H1) (b : Kp S H1 H2) : Kp S H H2 := ⟨fun c o hc h => b.k c o hc (a.k c o hc h), fun c xs h => b.t c xs (a.t c xs h), fun c h => a.n c (b.n c h)⟩
theorem mono (a : Kp S H H1) (h : ∀ x ∈ S, x ∈ S') : Kp S' H H1 := ⟨fun c o hc => a.k c o fun q => hc (h c q), a.t, a.n⟩
theorem mono0 (a : Kp [] H H1) : Kp S H H1 := a.mono fun x q => by cases q
theorem same (a : Kp [] H H1) : Same H H1 := fun b o h => a.k b o (by simp) h
theorem add (a : Kp S H H1) (hp : H1 p = none) : Kp S H (upd H1 p o) :=
  ⟨fun b v hb h => by have q := a.k b v hb h; rw [upd_ne (ne_of_none q hp)]; exact q, fun b xs h => by have q := a.t b xs h; rw [upd_ne (ne_of_none q hp)]; exact q,
   fun b h => by
    by_cases e : b = p
    · subst e; rw [upd_same] at h; cases h
    · rw [upd_ne e] at h; exact a.n b h⟩
theorem new (hp : H p = none) : Kp S H (upd H p o) := (refl S H).add hp
/-- a store to an object that is new since H -/
theorem put (a : Kp S H H1) (hl : H l = none) : Kp S H (upd H1 l o) :=
  ⟨fun b v hb h => by rw [upd_ne (ne_of_none h hl)]; exact a.k b v hb h, fun b xs h => by rw [upd_ne (ne_of_none h hl)]; exact a.t b xs h,
   fun b h => by
    by_cases e : b = l
    · subst e; exact hl
    · rw [upd_ne e] at h; exact a.n b h⟩
/-- a store to an object of S -/
theorem wr (a : Kp S H H1) (hl : l ∈ S) (hu : H1 l = some u) (nt : ∀ xs, u ≠ .tup xs) : Kp S H (upd H1 l o) :=
  ⟨fun b v hb h => by
    have e : b ≠ l := fun q => hb (q ▸ hl)
    rw [upd_ne e]; exact a.k b v hb h,
   fun b xs h => by
    have q := a.t b xs h
    have e : b ≠ l := fun z => by subst z; rw [hu] at q; cases q; exact nt xs rfl
    rw [upd_ne e]; exact q,
   fun b h => by
    by_cases e : b = l
    · subst e; rw [upd_same] at h; cases h
    · rw [upd_ne e] at h; exact a.n b h⟩
end Kp

/-! ### the built-ins' names, the constants of the top -/
structure Txt (K : PySem.W.Frag) (mg : Str → Option Value) : Prop where
  isinstance : mg "isinstance" = none
  len : mg "len" = none
  str : mg "str" = none
  tuple : mg "tuple" = none
  list : mg "list" = none
  int : mg "int" = none
  bool : mg "bool" = none
  all : mg "all" = none
  range : mg "range" = none
  max : mg "max" = none
  min : mg "min" = none
  sum : mg "sum" = none
  sorted : mg "sorted" = none
  enumerate : mg "enumerate" = none
  zip : mg "zip" = none
  MOST_NAME : ∃ u, mg "MOST_NAME" = some u ∧ RelV (.int 8) u
  MOST_DEEP : ∃ u, mg "MOST_DEEP" = some u ∧ RelV (.int 40) u
  MOST_SIZE : ∃ u, mg "MOST_SIZE" = some u ∧ RelV (.int 2000) u
  MOST_KEPT : ∃ u, mg "MOST_KEPT" = some u ∧ RelV (.int 1000000) u
  SMALL_LETTERS : ∃ u, mg "SMALL_LETTERS" = some u ∧ RelV (.str "abcdefghijklmnopqrstuvwxyz") u
  WORDS : ∃ a : Addr, mg "WORDS" = some (.ref a) ∧ ∀ H, SqT K H a [.str "and", .str "or", .str "not", .str "yes", .str "no"]
  dict : mg "dict" = none
  set : mg "set" = none
  MOST_POINTS : ∃ u, mg "MOST_POINTS" = some u ∧ RelV (.int 600) u
  MOST_CLOSED : ∃ u, mg "MOST_CLOSED" = some u ∧ RelV (.int 5000) u

section
variable {X : Cx} {e e1 : Expr} {es : List Expr} {pos p : Pos} {t t1 : TE} {ta : TA}
variable {es' : List Expr}
theorem e_len (T : Txt X.K X.mg) (h : PA X (e :: es) ta) (hg : Gl X "len" := by rfl) (he : starEach (e :: es) X.env = (false, eval e X.env) :: starEach es X.env := by rfl) (hpl : (backTo pos (starEach es X.env)).any (·.1) = false := by rfl) : PE X (.Call (.Name "len" p) (e :: es) [] pos) (tCB (fun xs H Q => ∃ p ys, xs = [.ref p] ∧ (SqL X.K H p ys ∨ SqT X.K H p ys) ∧ Q (.int ys.length) H) ta) :=
  pe_callB call_len_seq hg T.len PySem.boot_len h (he := he) (hpl := hpl)
theorem e_lenS (T : Txt X.K X.mg) (h : PA X (e :: es) ta) (hg : Gl X "len" := by rfl) (he : starEach (e :: es) X.env = (false, eval e X.env) :: starEach es X.env := by rfl) (hpl : (backTo pos (starEach es X.env)).any (·.1) = false := by rfl) : PE X (.Call (.Name "len" p) (e :: es) [] pos) (tCB (fun xs H Q => ∃ z, xs = [.str z] ∧ z.length ≤ sizeLine ∧ Q (.int z.length) H) ta) :=
  pe_callB call_len_str hg T.len PySem.boot_len h (he := he) (hpl := hpl)
theorem e_isi (T : Txt X.K X.mg) (h : PA X (e :: es) ta) (hg : Gl X "isinstance" := by rfl) (he : starEach (e :: es) X.env = (false, eval e X.env) :: starEach es X.env := by rfl) (hpl : (backTo pos (starEach es X.env)).any (·.1) = false := by rfl) :
    PE X (.Call (.Name "isinstance" p) (e :: es) [] pos) (tCB (rIsi X.K) ta) :=
  pe_callB call_isi hg T.isinstance (by decide +kernel) h (he := he) (hpl := hpl)
theorem e_ty {x : Str} {n : String} (hm : X.mg x = none) (hv : bootBuiltins x = some (.type n)) (hg : Gl X x := by rfl) (hn : x ≠ "__name__" := by decide) (hd : (x == ("__debug__" : Str)) = false := by decide) : PE X (.Name x pos) (tC (.ty n)) :=
  pe_bltn hg hm hv rfl hn hd
theorem e_const {x : Str} {v : V} (h : ∃ u, X.mg x = some u ∧ RelV v u) (hg : Gl X x := by rfl) (hd : (x == ("__debug__" : Str)) = false := by decide) : PE X (.Name x pos) (tC v) := by
  obtain ⟨u, h1, h2⟩ := h
  exact pe_glob hg h1 h2 hd
/-- a written tuple of the top: any value that is a tuple of these -/
theorem e_ktup {x : Str} {xs : List V} (h : ∃ a : Addr, X.mg x = some (.ref a) ∧ ∀ H, SqT X.K H a xs) (hg : Gl X x := by rfl) (hd : (x == ("__debug__" : Str)) = false := by decide) :
    PE X (.Name x pos) (fun _ H Q => ∀ a, SqT X.K H a xs → Q (.ref a) H) := by
  obtain ⟨a, h1, h2⟩ := h
  have q : PE X (.Name x pos) (tC (.ref a)) := pe_glob hg h1 (v := .ref a) rfl hd
  exact ⟨fun pins s σ H Q I h => q.run pins s σ H Q I (h a (h2 H))⟩
/-- a def of the text that keeps its promise -/
structure Def (P : Program) (w : World) (K : PySem.W.Frag) (mg : Str → Option Value) (base : Heap) (x : Str) (k : Nat) (ps : List Str) (sp : Sp) : Prop where
  ex : ∃ (f : Addr) (fd : FuncData), FnOk P w K mg base CX0 k f fd ps sp ∧ mg x = some (.ref f) ∧ PySem.W.keepIn K (.ref f) = true ∧ Binds K fd ps []
theorem e_fn {x : Str} {k : Nat} {ps : List Str} {sp : Sp} (D : Def X.prog X.w X.K X.mg X.base x k ps sp) (hr : Room k X.A) (ha : PA X (e :: es) ta) (hg : Gl X x := by rfl) (hd : (x == ("__debug__" : Str)) = false := by decide)
    (he : starEach (e :: es) X.env = (false, eval e X.env) :: starEach es X.env := by rfl) (hpl : (backTo pos (starEach es X.env)).any (·.1) = false := by rfl) : PE X (.Call (.Name x p) (e :: es) [] pos) (tCall sp [] E0 ta) := by
  obtain ⟨f, fd, F, hm, hk, hb⟩ := D.ex
  exact pe_call F hr hg hm hk hb .nil pass0 ha hd he hpl
end

/-! ### data -/
def tyD : PyData → String
  | .none => "NoneType" | .bool _ => "bool" | .int _ => "int" | .str _ => "str" | .list _ => "list" | .tuple _ => "tuple" | .dict _ => "dict"
def isTupD : PyData → Bool | .tuple _ => true | _ => false
def isStrD : PyData → Bool | .str _ => true | _ => false
def isLstD : PyData → Bool | .list _ => true | _ => false
def isBoolD : PyData → Bool | .bool _ => true | _ => false
def isIntD : PyData → Bool | .bool _ => true | .int _ => true | _ => false
theorem kit_tuple : ∀ d : PyData, kitB (tyD d) "tuple" = some (isTupD d)
  | .none => (show kitB "NoneType" "tuple" = some false by decide +kernel)
  | .bool _ => (show kitB "bool" "tuple" = some false by decide +kernel)
  | .int _ => (show kitB "int" "tuple" = some false by decide +kernel)
  | .str _ => (show kitB "str" "tuple" = some false by decide +kernel)
  | .list _ => (show kitB "list" "tuple" = some false by decide +kernel)
  | .tuple _ => (show kitB "tuple" "tuple" = some true by decide +kernel)
  | .dict _ => (show kitB "dict" "tuple" = some false by decide +kernel)
theorem kit_str : ∀ d : PyData, kitB (tyD d) "str" = some (isStrD d)
  | .none => (show kitB "NoneType" "str" = some false by decide +kernel)
  | .bool _ => (show kitB "bool" "str" = some false by decide +kernel)
  | .int _ => (show kitB "int" "str" = some false by decide +kernel)
  | .str _ => (show kitB "str" "str" = some true by decide +kernel)
  | .list _ => (show kitB "list" "str" = some false by decide +kernel)
  | .tuple _ => (show kitB "tuple" "str" = some false by decide +kernel)
  | .dict _ => (show kitB "dict" "str" = some false by decide +kernel)
theorem kit_list : ∀ d : PyData, kitB (tyD d) "list" = some (isLstD d)
  | .none => (show kitB "NoneType" "list" = some false by decide +kernel)
  | .bool _ => (show kitB "bool" "list" = some false by decide +kernel)
  | .int _ => (show kitB "int" "list" = some false by decide +kernel)
  | .str _ => (show kitB "str" "list" = some false by decide +kernel)
  | .list _ => (show kitB "list" "list" = some true by decide +kernel)
  | .tuple _ => (show kitB "tuple" "list" = some false by decide +kernel)
  | .dict _ => (show kitB "dict" "list" = some false by decide +kernel)
theorem kit_bool : ∀ d : PyData, kitB (tyD d) "bool" = some (isBoolD d)
  | .none => (show kitB "NoneType" "bool" = some false by decide +kernel)
  | .bool _ => (show kitB "bool" "bool" = some true by decide +kernel)
  | .int _ => (show kitB "int" "bool" = some false by decide +kernel)
  | .str _ => (show kitB "str" "bool" = some false by decide +kernel)
  | .list _ => (show kitB "list" "bool" = some false by decide +kernel)
  | .tuple _ => (show kitB "tuple" "bool" = some false by decide +kernel)
  | .dict _ => (show kitB "dict" "bool" = some false by decide +kernel)
theorem kit_int : ∀ d : PyData, kitB (tyD d) "int" = some (isIntD d)
  | .none => (show kitB "NoneType" "int" = some false by decide +kernel)
  | .bool _ => (show kitB "bool" "int" = some true by decide +kernel)
  | .int _ => (show kitB "int" "int" = some true by decide +kernel)
  | .str _ => (show kitB "str" "int" = some false by decide +kernel)
  | .list _ => (show kitB "list" "int" = some false by decide +kernel)
  | .tuple _ => (show kitB "tuple" "int" = some false by decide +kernel)
  | .dict _ => (show kitB "dict" "int" = some false by decide +kernel)
theorem Dp.ty {K : PySem.W.Frag} {H : Hp} {v : V} {d : PyData} (h : Dp K H v d) : TyX K H v (.type (tyD d)) := by
  cases h with
  | non => exact .base .non
  | bl b => exact .base (.bl b)
  | int i => exact .base (.int i)
  | str x => exact .base (.str x)
  | lst hs _ =>
    rcases hs with (h | ⟨o, h⟩) | ⟨o, its, n, h1, h2, _⟩
    · exact .base (.lst h)
    · exact .base (.frz h)
    · exact .kList h1 h2
  | tup hs _ =>
    rcases hs with (h | ⟨o, h⟩) | ⟨o, its, n, h1, h2, _⟩
    · exact .base (.tup h)
    · exact .fTuple h
    · exact .kTuple h1 h2
theorem SqT.kp {K : PySem.W.Frag} {H H' : Hp} {a : Addr} {xs : List V} (e : Kp [] H H') (h : SqT K H a xs) : SqT K H' a xs := by
  rcases h with (h | ⟨o, h⟩) | h
  · exact .inl (.inl (e.same _ _ h))
  · exact .inl (.inr ⟨o, e.same _ _ h⟩)
  · exact .inr h
mutual
theorem Dp.kp {K : PySem.W.Frag} {H H' : Hp} (e : Kp [] H H') : ∀ {v : V} {d : PyData}, Dp K H v d → Dp K H' v d
  | _, _, .non => .non
  | _, _, .bl b => .bl b
  | _, _, .int i => .int i
  | _, _, .str x => .str x
  | _, _, .lst hs ha => .lst (e.same.seq hs) (DpAll.kp e ha)
  | _, _, .tup hs ha => .tup (N0.SqT.kp e hs) (DpAll.kp e ha)
theorem DpAll.kp {K : PySem.W.Frag} {H H' : Hp} (e : Kp [] H H') : ∀ {vs : List V} {ds : List PyData}, DpAll K H vs ds → DpAll K H' vs ds
  | _, _, .nil => .nil
  | _, _, .cons h t => .cons (Dp.kp e h) (DpAll.kp e t)
end
theorem bt_str : bootBuiltins "str" = some (.type "str") := by decide +kernel
theorem bt_tuple : bootBuiltins "tuple" = some (.type "tuple") := by decide +kernel
theorem bt_list : bootBuiltins "list" = some (.type "list") := by decide +kernel
theorem bt_int : bootBuiltins "int" = some (.type "int") := by decide +kernel
theorem bt_bool : bootBuiltins "bool" = some (.type "bool") := by decide +kernel
theorem bt_all : bootBuiltins "all" = some (.builtin "all") := by decide +kernel
theorem bt_max : bootBuiltins "max" = some (.builtin "max") := by decide +kernel
theorem bt_min : bootBuiltins "min" = some (.builtin "min") := by decide +kernel
theorem bt_sum : bootBuiltins "sum" = some (.builtin "sum") := by decide +kernel
theorem bt_sorted : bootBuiltins "sorted" = some (.builtin "sorted") := by decide +kernel
end N0

namespace N0
open PySem L2
def top (i : Nat) : Stmt := PySem.Challenge.pw_nocases_k10_whole_contraries_and_closure.main.body.getD i (.Pass ⟨0, 0, 0, 0⟩)
abbrev s_is_integer : Stmt := top 17
abbrev N_is_integer : List Str := ["value"]
theorem sc_is_integer : FnScope N_is_integer ["value"] (defScope s_is_integer) := ⟨rfl, rfl, rfl, by decide +kernel, rfl, by decide +kernel, by decide +kernel⟩
abbrev s_is_within : Stmt := top 18
abbrev N_is_within : List Str := ["value", "least", "most"]
theorem sc_is_within : FnScope N_is_within ["value", "least", "most"] (defScope s_is_within) := ⟨rfl, rfl, rfl, by decide +kernel, rfl, by decide +kernel, by decide +kernel⟩
abbrev s_is_name : Stmt := top 19
abbrev N_is_name : List Str := ["value", "sign"]
theorem sc_is_name : FnScope N_is_name ["value"] (defScope s_is_name) := ⟨rfl, rfl, rfl, by decide +kernel, rfl, by decide +kernel, by decide +kernel⟩
abbrev s_is_node : Stmt := top 20
abbrev N_is_node : List Str := ["value"]
theorem sc_is_node : FnScope N_is_node ["value"] (defScope s_is_node) := ⟨rfl, rfl, rfl, by decide +kernel, rfl, by decide +kernel, by decide +kernel⟩
abbrev s_terms_of : Stmt := top 21
abbrev N_terms_of : List Str := ["term"]
theorem sc_terms_of : FnScope N_terms_of ["term"] (defScope s_terms_of) := ⟨rfl, rfl, rfl, by decide +kernel, rfl, by decide +kernel, by decide +kernel⟩
abbrev s_wrong_place : Stmt := top 22
abbrev N_wrong_place : List Str := ["value", "waiting", "here", "place", "inner", "number"]
theorem sc_wrong_place : FnScope N_wrong_place ["value"] (defScope s_wrong_place) := ⟨rfl, rfl, rfl, by decide +kernel, rfl, by decide +kernel, by decide +kernel⟩
abbrev s_size_and_depth : Stmt := top 23
abbrev N_size_and_depth : List Str := ["term", "size", "deep", "waiting", "here", "at", "inner"]
theorem sc_size_and_depth : FnScope N_size_and_depth ["term"] (defScope s_size_and_depth) := ⟨rfl, rfl, rfl, by decide +kernel, rfl, by decide +kernel, by decide +kernel⟩
abbrev s_need_small : Stmt := top 24
abbrev N_need_small : List Str := ["size", "deep"]
theorem sc_need_small : FnScope N_need_small ["size", "deep"] (defScope s_need_small) := ⟨rfl, rfl, rfl, by decide +kernel, rfl, by decide +kernel, by decide +kernel⟩
abbrev s_need_term_at : Stmt := top 25
abbrev N_need_term_at : List Str := ["term", "place", "wrong", "size", "deep"]
theorem sc_need_term_at : FnScope N_need_term_at ["term", "place"] (defScope s_need_term_at) := ⟨rfl, rfl, rfl, by decide +kernel, rfl, by decide +kernel, by decide +kernel⟩
abbrev s_need_term : Stmt := top 26
abbrev N_need_term : List Str := ["term"]
theorem sc_need_term : FnScope N_need_term ["term"] (defScope s_need_term) := ⟨rfl, rfl, rfl, by decide +kernel, rfl, by decide +kernel, by decide +kernel⟩
abbrev s_TermLines___init__ : Stmt := inClass (top 27) 0
abbrev N_TermLines___init__ : List Str := ["self"]
theorem sc_TermLines___init__ : FnScope N_TermLines___init__ ["self"] (defScope s_TermLines___init__) := ⟨rfl, rfl, rfl, by decide +kernel, rfl, by decide +kernel, by decide +kernel⟩
abbrev s_TermLines_line_number : Stmt := inClass (top 27) 1
abbrev N_TermLines_line_number : List Str := ["self", "line", "size", "one"]
theorem sc_TermLines_line_number : FnScope N_TermLines_line_number ["self", "line"] (defScope s_TermLines_line_number) := ⟨rfl, rfl, rfl, by decide +kernel, rfl, by decide +kernel, by decide +kernel⟩
abbrev s_TermLines_term_number : Stmt := inClass (top 27) 2
abbrev N_TermLines_term_number : List Str := ["self", "term", "inner"]
theorem sc_TermLines_term_number : FnScope N_TermLines_term_number ["self", "term"] (defScope s_TermLines_term_number) := ⟨rfl, rfl, rfl, by decide +kernel, rfl, by decide +kernel, by decide +kernel⟩
abbrev s_number_parts : Stmt := top 28
abbrev N_number_parts : List Str := ["term", "made"]
theorem sc_number_parts : FnScope N_number_parts ["term"] (defScope s_number_parts) := ⟨rfl, rfl, rfl, by decide +kernel, rfl, by decide +kernel, by decide +kernel⟩
abbrev s_letters_in : Stmt := top 29
abbrev N_letters_in : List Str := ["term", "line"]
theorem sc_letters_in : FnScope N_letters_in ["term"] (defScope s_letters_in) := ⟨rfl, rfl, rfl, by decide +kernel, rfl, by decide +kernel, by decide +kernel⟩
abbrev s_is_point_pair : Stmt := top 32
abbrev N_is_point_pair : List Str := ["points", "value"]
theorem sc_is_point_pair : FnScope N_is_point_pair ["points", "value"] (defScope s_is_point_pair) := ⟨rfl, rfl, rfl, by decide +kernel, rfl, by decide +kernel, by decide +kernel⟩
abbrev s_need_frame : Stmt := top 33
abbrev N_need_frame : List Str := ["frame", "points", "apart", "number", "pair"]
theorem sc_need_frame : FnScope N_need_frame ["frame"] (defScope s_need_frame) := ⟨rfl, rfl, rfl, by decide +kernel, rfl, by decide +kernel, by decide +kernel⟩
abbrev s_value_bits : Stmt := top 34
abbrev N_value_bits : List Str := ["value", "found", "point"]
theorem sc_value_bits : FnScope N_value_bits ["value"] (defScope s_value_bits) := ⟨rfl, rfl, rfl, by decide +kernel, rfl, by decide +kernel, by decide +kernel⟩
abbrev s_bits_value : Stmt := top 35
abbrev N_bits_value : List Str := ["bits", "points", "point"]
theorem sc_bits_value : FnScope N_bits_value ["bits", "points"] (defScope s_bits_value) := ⟨rfl, rfl, rfl, by decide +kernel, rfl, by decide +kernel, by decide +kernel⟩
abbrev s_Sides___init__ : Stmt := inClass (top 36) 0
abbrev N_Sides___init__ : List Str := ["self", "frame", "one", "other"]
theorem sc_Sides___init__ : FnScope N_Sides___init__ ["self", "frame"] (defScope s_Sides___init__) := ⟨rfl, rfl, rfl, by decide +kernel, rfl, by decide +kernel, by decide +kernel⟩
abbrev s_Sides_contrary : Stmt := inClass (top 36) 1
abbrev N_Sides_contrary : List Str := ["self", "bits", "found", "left", "point"]
theorem sc_Sides_contrary : FnScope N_Sides_contrary ["self", "bits"] (defScope s_Sides_contrary) := ⟨rfl, rfl, rfl, by decide +kernel, rfl, by decide +kernel, by decide +kernel⟩
abbrev s_Sides_closure : Stmt := inClass (top 36) 2
abbrev N_Sides_closure : List Str := ["self", "bits"]
theorem sc_Sides_closure : FnScope N_Sides_closure ["self", "bits"] (defScope s_Sides_closure) := ⟨rfl, rfl, rfl, by decide +kernel, rfl, by decide +kernel, by decide +kernel⟩
abbrev s_is_value : Stmt := top 37
abbrev N_is_value : List Str := ["points", "value", "point", "one", "other"]
theorem sc_is_value : FnScope N_is_value ["points", "value"] (defScope s_is_value) := ⟨rfl, rfl, rfl, by decide +kernel, rfl, by decide +kernel, by decide +kernel⟩
abbrev s_need_value : Stmt := top 38
abbrev N_need_value : List Str := ["frame", "value"]
theorem sc_need_value : FnScope N_need_value ["frame", "value"] (defScope s_need_value) := ⟨rfl, rfl, rfl, by decide +kernel, rfl, by decide +kernel, by decide +kernel⟩
abbrev s_need_point : Stmt := top 39
abbrev N_need_point : List Str := ["frame", "point"]
theorem sc_need_point : FnScope N_need_point ["frame", "point"] (defScope s_need_point) := ⟨rfl, rfl, rfl, by decide +kernel, rfl, by decide +kernel, by decide +kernel⟩
abbrev s_are_apart : Stmt := top 40
abbrev N_are_apart : List Str := ["frame", "point", "other_point"]
theorem sc_are_apart : FnScope N_are_apart ["frame", "point", "other_point"] (defScope s_are_apart) := ⟨rfl, rfl, rfl, by decide +kernel, rfl, by decide +kernel, by decide +kernel⟩
abbrev s_contrary_of : Stmt := top 41
abbrev N_contrary_of : List Str := ["frame", "points"]
theorem sc_contrary_of : FnScope N_contrary_of ["frame", "points"] (defScope s_contrary_of) := ⟨rfl, rfl, rfl, by decide +kernel, rfl, by decide +kernel, by decide +kernel⟩
abbrev s_closure_by : Stmt := top 42
abbrev N_closure_by : List Str := ["frame", "points"]
theorem sc_closure_by : FnScope N_closure_by ["frame", "points"] (defScope s_closure_by) := ⟨rfl, rfl, rfl, by decide +kernel, rfl, by decide +kernel, by decide +kernel⟩
abbrev s_closure_of : Stmt := top 43
abbrev N_closure_of : List Str := ["frame", "points"]
theorem sc_closure_of : FnScope N_closure_of ["frame", "points"] (defScope s_closure_of) := ⟨rfl, rfl, rfl, by decide +kernel, rfl, by decide +kernel, by decide +kernel⟩
abbrev s_is_closed : Stmt := top 44
abbrev N_is_closed : List Str := ["frame", "points"]
theorem sc_is_closed : FnScope N_is_closed ["frame", "points"] (defScope s_is_closed) := ⟨rfl, rfl, rfl, by decide +kernel, rfl, by decide +kernel, by decide +kernel⟩
abbrev s_core_of : Stmt := top 45
abbrev N_core_of : List Str := ["frame", "point"]
theorem sc_core_of : FnScope N_core_of ["frame", "point"] (defScope s_core_of) := ⟨rfl, rfl, rfl, by decide +kernel, rfl, by decide +kernel, by decide +kernel⟩
abbrev s_joined_value : Stmt := top 46
abbrev N_joined_value : List Str := ["frame", "points", "other_points", "bits"]
theorem sc_joined_value : FnScope N_joined_value ["frame", "points", "other_points"] (defScope s_joined_value) := ⟨rfl, rfl, rfl, by decide +kernel, rfl, by decide +kernel, by decide +kernel⟩
abbrev s_all_closed : Stmt := top 49
abbrev N_all_closed : List Str := ["sides", "found", "waiting", "at", "bits", "apart", "less"]
theorem sc_all_closed : FnScope N_all_closed ["sides"] (defScope s_all_closed) := ⟨rfl, rfl, rfl, by decide +kernel, rfl, by decide +kernel, by decide +kernel⟩
abbrev s_closed_list : Stmt := top 50
abbrev N_closed_list : List Str := ["frame", "sides", "bits"]
theorem sc_closed_list : FnScope N_closed_list ["frame"] (defScope s_closed_list) := ⟨rfl, rfl, rfl, by decide +kernel, rfl, by decide +kernel, by decide +kernel⟩
abbrev s_closed_values : Stmt := top 51
abbrev N_closed_values : List Str := ["frame"]
theorem sc_closed_values : FnScope N_closed_values ["frame"] (defScope s_closed_values) := ⟨rfl, rfl, rfl, by decide +kernel, rfl, by decide +kernel, by decide +kernel⟩
abbrev s_is_entry : Stmt := top 53
abbrev N_is_entry : List Str := ["sides", "value", "bits"]
theorem sc_is_entry : FnScope N_is_entry ["sides", "value"] (defScope s_is_entry) := ⟨rfl, rfl, rfl, by decide +kernel, rfl, by decide +kernel, by decide +kernel⟩
abbrev s_need_reading_of : Stmt := top 54
abbrev N_need_reading_of : List Str := ["frame", "reading", "sides", "number", "entry"]
theorem sc_need_reading_of : FnScope N_need_reading_of ["frame", "reading"] (defScope s_need_reading_of) := ⟨rfl, rfl, rfl, by decide +kernel, rfl, by decide +kernel, by decide +kernel⟩
abbrev s_need_reading : Stmt := top 55
abbrev N_need_reading : List Str := ["frame", "reading"]
theorem sc_need_reading : FnScope N_need_reading ["frame", "reading"] (defScope s_need_reading) := ⟨rfl, rfl, rfl, by decide +kernel, rfl, by decide +kernel, by decide +kernel⟩
abbrev s_lacking_name : Stmt := top 56
abbrev N_lacking_name : List Str := ["names", "terms", "name", "term"]
theorem sc_lacking_name : FnScope N_lacking_name ["names", "terms"] (defScope s_lacking_name) := ⟨rfl, rfl, rfl, by decide +kernel, rfl, by decide +kernel, by decide +kernel⟩
abbrev s_need_letters : Stmt := top 57
abbrev N_need_letters : List Str := ["names", "terms", "name"]
theorem sc_need_letters : FnScope N_need_letters ["names", "terms"] (defScope s_need_letters) := ⟨rfl, rfl, rfl, by decide +kernel, rfl, by decide +kernel, by decide +kernel⟩
abbrev s_line_bits : Stmt := top 58
abbrev N_line_bits : List Str := ["sides", "values", "lines", "found", "line"]
theorem sc_line_bits : FnScope N_line_bits ["sides", "values", "lines"] (defScope s_line_bits) := ⟨rfl, rfl, rfl, by decide +kernel, rfl, by decide +kernel, by decide +kernel⟩
end N0

namespace N0
open PySem L2 PySem.Spec PyProof.Rows
/-- a test comes to b; what stood stands -/
def EvT (t : TT) (σ : L2.St) (H : Hp) (b : Bool) : Prop := ∀ Q : Bool → Hp → Prop, (∀ H', Kp [] H H' → Q b H') → t σ H Q
/-- an expression comes to the value v; what stood stands -/
def EvE (t : TE) (σ : L2.St) (H : Hp) (v : V) : Prop := ∀ Q : VK, (∀ H', Kp [] H H' → Q v H') → t σ H Q
section
variable {t u : TT} {e f g : TE} {σ : L2.St} {H : Hp} {b b1 b2 : Bool} {v : V} {D : Ends} {s s' : TS}
theorem EvT.or (h : EvT t σ H b1) (h2 : b1 = false → ∀ H', Kp [] H H' → EvT u σ H' b2) : EvT (tOr t u) σ H (b1 || b2) := by
  intro Q q
  refine h _ fun H1 k1 => ?_
  cases b1 with
  | true => exact iteT (q H1 k1)
  | false => exact iteF (h2 rfl H1 k1 Q fun H2 k2 => q H2 (k1.trans k2))
theorem EvT.and (h : EvT t σ H b1) (h2 : b1 = true → ∀ H', Kp [] H H' → EvT u σ H' b2) : EvT (tAnd t u) σ H (b1 && b2) := by
  intro Q q
  refine h _ fun H1 k1 => ?_
  cases b1 with
  | true => exact iteT (h2 rfl H1 k1 Q fun H2 k2 => q H2 (k1.trans k2))
  | false => exact iteF (q H1 k1)
theorem EvT.not (h : EvT t σ H b) : EvT (tNot t) σ H (!b) := fun Q q => h _ fun H1 k1 => q H1 k1
theorem EvE.vb (h : EvE e σ H (.bl b)) : EvT (tB e) σ H b := fun Q q => h _ fun H1 k1 => ⟨b, rfl, q H1 k1⟩
theorem EvE.test (h : EvE e σ H (.bl b)) : EvT (tTest e) σ H b := fun Q q => h _ fun H1 k1 => ⟨b, rfl, q H1 k1⟩
theorem EvE.orV (h : EvE e σ H (.bl b1)) (h2 : b1 = false → ∀ H', Kp [] H H' → EvE f σ H' (.bl b2)) : EvE (tOrV e f) σ H (.bl (b1 || b2)) := by
  intro Q q
  refine h _ fun H1 k1 => ⟨b1, rfl, ?_⟩
  cases b1 with
  | true => exact iteT (q H1 k1)
  | false => exact iteF (h2 rfl H1 k1 Q fun H2 k2 => q H2 (k1.trans k2))
theorem EvE.andV (h : EvE e σ H (.bl b1)) (h2 : b1 = true → ∀ H', Kp [] H H' → EvE f σ H' (.bl b2)) : EvE (tAndV e f) σ H (.bl (b1 && b2)) := by
  intro Q q
  refine h _ fun H1 k1 => ⟨b1, rfl, ?_⟩
  cases b1 with
  | true => exact iteT (h2 rfl H1 k1 Q fun H2 k2 => q H2 (k1.trans k2))
  | false => exact iteF (q H1 k1)
theorem EvE.notV (h : EvE e σ H (.bl b)) : EvE (tNotV e) σ H (.bl (!b)) := fun Q q => h _ fun H1 k1 => ⟨b, rfl, q H1 k1⟩
theorem EvE.if {w : V} (h : EvT t σ H b) (h1 : b = true → ∀ H', Kp [] H H' → EvE e σ H' v) (h2 : b = false → ∀ H', Kp [] H H' → EvE f σ H' w) : EvE (tIf t e f) σ H (if b = true then v else w) := by
  intro Q q
  refine h _ fun H1 k1 => ?_
  cases b with
  | true => exact iteT (h1 rfl H1 k1 Q fun H2 k2 => q H2 (k1.trans k2))
  | false => exact iteF (h2 rfl H1 k1 Q fun H2 k2 => q H2 (k1.trans k2))
theorem EvT.ifS (h : EvT t σ H b) (h1 : b = true → ∀ H', Kp [] H H' → s D σ H') (h2 : b = false → ∀ H', Kp [] H H' → s' D σ H') : tIfS t s s' D σ H := by
  refine h _ fun H1 k1 => ?_
  cases b with
  | true => exact iteT (h1 rfl H1 k1)
  | false => exact iteF (h2 rfl H1 k1)
theorem EvT.ifE {Q : VK} (h : EvT t σ H b) (h1 : b = true → ∀ H', Kp [] H H' → e σ H' Q) (h2 : b = false → ∀ H', Kp [] H H' → f σ H' Q) : tIf t e f σ H Q := by
  refine h _ fun H1 k1 => ?_
  cases b with
  | true => exact iteT (h1 rfl H1 k1)
  | false => exact iteF (h2 rfl H1 k1)
theorem EvE.ret {Q : VK} (h : EvE e σ H v) (hq : ∀ H', Kp [] H H' → D.rt v H') : tRet e D σ H := h _ hq
theorem EvE.asg {g : TG} (h : EvE e σ H v) (k : ∀ H', Kp [] H H' → g v σ H' D.nx) : tAsg e g D σ H := h _ k
theorem EvE.asgS {g : TG} {u : TS} (h : EvE e σ H v) (k : ∀ H', Kp [] H H' → g v σ H' (u D)) : tSeq (tAsg e g) u D σ H := h _ k
theorem EvT.of {t : TT} (h : ∀ Q : Bool → Hp → Prop, Q b H → t σ H Q) : EvT t σ H b := fun Q q => h Q (q H (Kp.refl _ _))
theorem EvE.of {t : TE} (h : ∀ Q : VK, Q v H → t σ H Q) : EvE t σ H v := fun Q q => h Q (q H (Kp.refl _ _))
theorem EvT.cast (h : EvT t σ H b1) (e : b1 = b2) : EvT t σ H b2 := e ▸ h
theorem EvE.cast {w : V} (h : EvE e σ H v) (q : v = w) : EvE e σ H w := q ▸ h
theorem EvE.iB (h : EvE e σ H (.bl b)) (q : b = b1) : EvE e σ H (.bl b1) := q ▸ h
end
end N0

namespace N0
open PySem L2 PySem.Spec PyProof.Rows
def small : Str := "abcdefghijklmnopqrstuvwxyz"
def words : List Str := ["and", "or", "not", "yes", "no"]
def nmOk (s : Str) : Bool := decide (1 ≤ s.length) && decide (s.length ≤ 8) && !(inV (.str s) (words.map V.str)) && s.cps.toList.all fun c => decide (c ∈ small.cps.toList)
def isNameD : PyData → Bool
  | .str s => nmOk s
  | _ => false
def spIsName (K : PySem.W.Frag) : Sp := fun vs H Q _ => ∃ (v : V) (d : PyData), vs = [v] ∧ Dp K H v d ∧ (∀ s, d = .str s → s.length ≤ 1000) ∧ ∀ H', Kp [] H H' → Q (.bl (isNameD d)) H'
section
variable {P : Program} {w : World} {K : PySem.W.Frag} {mg : Str → Option Value} {base : Heap} {f : Addr} {fd : FuncData}
theorem ok_is_name (F : Fun K "is_name" "is_name" s_is_name f fd) (T : Txt K mg) : FnOk P w K mg base CX0 1 f fd ["value"] (spIsName K) := by
  refine F.ok sc_is_name (fun vs H Q E h => ?_) (fun cdv A outer s H vs Q E hr h => ?_)
  · obtain ⟨v, d, rfl, _⟩ := h
    rfl
  obtain ⟨v, d, rfl, hd, hs, q⟩ := h
  have nd := sc_is_name.nd
  refine ⟨_, (pss_cons (ps_if (PW.pt (pw_or (pt_not (pt_val (e_isi T (pa_cons (pv 0) (pa_cons (e_ty T.str bt_str) pa_nil))))) (pw_or (pt_not (pt_chain op_le op_le pe_int (e_lenS T (pa_cons (pv 0) pa_nil)) (e_const T.MOST_NAME))) (pw_or1 (pt_cmpR op_in_seq (pv 0) (e_ktup T.WORDS) rfl))))) (pss_one (ps_ret pe_bl)) pss_nil)
      (pss_one (ps_ret (pe_callB (cr_all rfl) (by rfl) T.all bt_all (pa_cons (pe_lc (own := [("sign", 1)]) (g := gName 1) (tt := tYes) rfl nd (pi_str (pv 0)) (blkOk_by (N := N_is_name) (sc := defScope s_is_name) (by decide +kernel)) (fun _ _ _ _ _ => pg_name (i := 1) nd rfl (Or.inl rfl)) (fun _ _ _ _ _ => pts_nil) (fun _ _ _ _ _ => (pe_cmpR op_in_sign (pv 1) (e_const T.SMALL_LETTERS) rfl))) pa_nil))))), ?_⟩
  have h1 : ∀ t : TE, t = tCB (rIsi K) (tCons (tVar 0) (tCons (tC (.ty "str")) tNil)) → EvT (tB t) (L2.start N_is_name [v]) H (isStrD d) := by
    rintro t rfl
    exact EvE.vb (.of fun Q k => ⟨_, rfl, _, _, _, _, _, rfl, .ty _, Dp.ty hd, kit_ty (kit_str d), k⟩)
  by_cases hc : isStrD d = true
  · obtain ⟨x, rfl⟩ : ∃ x, d = .str x := by cases d <;> simp [isStrD] at hc; exact ⟨_, rfl⟩
    cases hd
    have hx := hs x rfl
    refine EvT.ifS (b := !(decide (1 ≤ x.length) && decide (x.length ≤ 8) && !(inV (.str x) (words.map V.str)))) (EvT.cast (EvT.or (h1 _ rfl).not fun _ H1 k1 => EvT.or (b1 := !(decide (1 ≤ x.length) && decide (x.length ≤ 8))) (EvT.not (.of fun Q k => ?_)) fun _ H2 k2 => EvE.test (b := inV (.str x) (words.map V.str)) (.of fun Q k => ?_)) ?_) (fun e H1 k1 => ?_) (fun e H1 k1 => ?_)
    · refine ⟨_, rfl, x, rfl, Nat.le_of_lt (small1000 hx), _, _, rfl, rfl, _, rfl, ?_⟩
      refine ite2 (fun c => ?_) (fun c => ?_)
      · refine ⟨_, _, rfl, rfl, _, rfl, ?_⟩
        have c' : 1 ≤ x.length := by have := of_decide_eq_true c; omega
        have e : decide ((x.length : Int) ≤ 8) = (decide (1 ≤ x.length) && decide (x.length ≤ 8)) := by simp [c']; omega
        rw [e]; exact k
      · have c' : ¬ 1 ≤ x.length := by intro z; exact c (decide_eq_true (by omega))
        refine ⟨_, rfl, ?_⟩
        simp only [c', decide_false, Bool.false_and] at k; exact k
    · refine ⟨_, rfl, fun a ha => ⟨a, _, rfl, .inr ha, rfl, rfl, k⟩⟩
    · simp [isStrD]
    · have e' : isNameD (.str x) = false := by
        simp only [isNameD, nmOk]
        simp only [Bool.not_eq_true'] at e
        rw [e]; rfl
      have := q H1 k1
      rw [e'] at this; exact this
    · simp only [Bool.not_eq_false'] at e
      have e' : isNameD (.str x) = x.cps.toList.all fun c => decide (c ∈ small.cps.toList) := by
        simp only [isNameD, nmOk]
        rw [e]; rfl
      refine ⟨_, rfl, _, rfl, fun L hL => lc_it (n := x.cps.size) walk_str (fun i H' => Kp [] H H' ∧ H' L = some (.lst (((x.cps.toList.take i).map fun c => decide (c ∈ small.cps.toList)).map V.bl))) ⟨k1.add hL, upd_same⟩ (fun _ _ _ _ => trivial) ?_ ?_⟩
      · rintro i y H2 _ hi ⟨k2, hL2⟩ ⟨rfl, c, hc, rfl⟩
        refine ⟨rfl, ?_⟩
        refine ⟨_, rfl, c, _, rfl, rfl, _, hL2, ?_, k2.put (k1.n _ hL), ?_⟩
        · simp only [List.length_map, List.length_take, Array.length_toList]
          have : x.cps.size ≤ 1000 := hx
          exact small1000 (by omega)
        · rw [upd_same]
          have hc' : x.cps.toList[i]? = some c := by rw [Array.getElem?_toList]; exact hc
          rw [List.take_add_one, hc']
          simp; rfl
      · rintro H2 ⟨k2, hL2⟩
        have e2 : x.cps.toList.take x.cps.size = x.cps.toList := List.take_of_length_le (by simp)
        rw [e2] at hL2
        refine ⟨L, _, rfl, SqL.of hL2, ?_⟩
        have := q H2 k2
        rw [e'] at this
        rw [List.all_map]; exact this
  · refine EvT.ifS (b := true) (EvT.cast (EvT.or (b2 := true) (h1 _ rfl).not fun e => ?_) ?_) (fun e H1 k1 => ?_) (fun e => by cases e)
    · simp [hc] at e
    · simp [hc]
    · have e' : isNameD d = false := by cases d <;> simp [isStrD] at hc <;> rfl
      have := q H1 k1
      rw [e'] at this; exact this
end
end N0

namespace N0
open PySem L2 PySem.Spec PyProof.Rows
mutual
def strsOk : PyData → Bool
  | .str s => decide (s.length ≤ 1000)
  | .list xs => strsOkAll xs
  | .tuple xs => strsOkAll xs
  | _ => true
def strsOkAll : List PyData → Bool
  | [] => true
  | d :: ds => strsOk d && strsOkAll ds
end
def isNodeL : List PyData → Bool
  | .str k :: r =>
    if inV (.str k) [.str "yes", .str "no"] = true then decide (V.int ((r.length + 1 : Nat) : Int) = .int 1)
    else if decide (V.str k = .str "letter") = true then decide (V.int ((r.length + 1 : Nat) : Int) = .int 2) && isNameD (r.headD .none)
    else (decide (V.str k = .str "not") && decide (V.int ((r.length + 1 : Nat) : Int) = .int 2)) || (inV (.str k) [.str "and", .str "or"] && decide (V.int ((r.length + 1 : Nat) : Int) = .int 3))
  | _ => false
def isNodeD : PyData → Bool
  | .tuple ds => isNodeL ds
  | _ => false
def hasKids (k : Str) : Bool := inV (.str k) [.str "not", .str "and", .str "or"]
def spIsNode (K : PySem.W.Frag) : Sp := fun vs H Q _ => ∃ (v : V) (d : PyData), vs = [v] ∧ Dp K H v d ∧ strsOk d = true ∧ ∀ H', Kp [] H H' → Q (.bl (isNodeD d)) H'
/-- the terms of which a node is made: a tuple of what stands behind its kind, or an empty one -/
def spTermsOf (K : PySem.W.Frag) : Sp := fun vs H Q _ => ∃ (a : Addr) (k : Str) (xs : List V), vs = [.ref a] ∧ SqT K H a (.str k :: xs) ∧
  ∀ H' b, Kp [] H H' → SqT K H' b (if hasKids k = true then xs else []) → Q (.ref b) H'
theorem dpAll_len {K : PySem.W.Frag} {H : Hp} : ∀ {xs : List V} {ds : List PyData}, DpAll K H xs ds → xs.length = ds.length
  | _, _, .nil => rfl
  | _, _, .cons _ t => by rw [List.length_cons, List.length_cons, dpAll_len t]
section
variable {P : Program} {w : World} {K : PySem.W.Frag} {mg : Str → Option Value} {base : Heap} {f : Addr} {fd : FuncData}
/-- x in (two or three written words), the tuple being new -/
theorem in_words {te : TE} {σ : L2.St} {H : Hp} {k : Str} {ws : List V} {ta : TA} (hk : EvE te σ H (.str k)) (hw : ws.all flatV = true) (hl : ws.length ≤ 100) (ha : ∀ (σ : L2.St) (H : Hp) (Q : List V → Hp → Prop), Q ws H → ta σ H Q) :
    EvE (tOp (rIn K false) te (tTup ta)) σ H (.bl (inV (.str k) ws)) := by
  intro Q q
  refine hk _ fun H1 k1 => ?_
  refine ha _ _ _ ⟨Nat.le_of_lt (small1000 (by omega)), fun p hp => ?_⟩
  exact ⟨p, ws, rfl, .inr (.inl (.inl upd_same)), rfl, hw, q _ (k1.add hp)⟩
theorem ok_is_node (F : Fun K "is_node" "is_node" s_is_node f fd) (T : Txt K mg) (D_is_name : Def P w K mg base "is_name" 1 ["value"] (spIsName K)) : FnOk P w K mg base CX0 2 f fd ["value"] (spIsNode K) := by
  refine F.ok sc_is_node (fun vs H Q E h => ?_) (fun cdv A outer s H vs Q E hr h => ?_)
  · obtain ⟨v, d, rfl, _⟩ := h
    rfl
  obtain ⟨v, d, rfl, hd, hs, q⟩ := h
  have nd := sc_is_node.nd
  refine ⟨_, (pss_cons (ps_if (PW.pt (pw_or (pt_not (pt_val (e_isi T (pa_cons (pv 0) (pa_cons (e_ty T.tuple bt_tuple) pa_nil))))) (pw_or (pt_cmpR op_eq (e_len T (pa_cons (pv 0) pa_nil)) pe_int (nomark _)) (pw_or1 (pt_not (pt_val (e_isi T (pa_cons (pe_ix ix_tup (pv 0) pe_int (fun _ _ => rfl)) (pa_cons (e_ty T.str bt_str) pa_nil))))))))) (pss_one (ps_ret pe_bl)) pss_nil)
      (pss_cons (ps_if (pt_cmpR op_in_seq (pe_ix ix_tup (pv 0) pe_int (fun _ _ => rfl)) (pe_tup (pa_cons pe_str (pa_cons pe_str pa_nil))) rfl) (pss_one (ps_ret (pe_cmpR op_eq (e_len T (pa_cons (pv 0) pa_nil)) pe_int (nomark _)))) pss_nil)
      (pss_cons (ps_if (pt_cmpR op_eq (pe_ix ix_tup (pv 0) pe_int (fun _ _ => rfl)) pe_str (nomark _)) (pss_one (ps_ret (pe_and (pe_cmpR op_eq (e_len T (pa_cons (pv 0) pa_nil)) pe_int (nomark _)) (pe_one (e_fn D_is_name (hr.mono (by omega)) (pa_cons (pe_ix ix_tup (pv 0) pe_int (fun _ _ => rfl)) pa_nil)))))) pss_nil)
      (pss_one (ps_ret (pe_or (pe_and (pe_cmpR op_eq (pe_ix ix_tup (pv 0) pe_int (fun _ _ => rfl)) pe_str (nomark _)) (pe_one (pe_cmpR op_eq (e_len T (pa_cons (pv 0) pa_nil)) pe_int (nomark _)))) (pe_one (pe_and (pe_cmpR op_in_seq (pe_ix ix_tup (pv 0) pe_int (fun _ _ => rfl)) (pe_tup (pa_cons pe_str (pa_cons pe_str pa_nil))) rfl) (pe_one (pe_cmpR op_eq (e_len T (pa_cons (pv 0) pa_nil)) pe_int (nomark _))))))))))), ?_⟩
  have h1 : ∀ t : TE, t = tCB (rIsi K) (tCons (tVar 0) (tCons (tC (.ty "tuple")) tNil)) → EvT (tB t) (L2.start N_is_node [v]) H (isTupD d) := by
    rintro t rfl
    exact EvE.vb (.of fun Q k => ⟨_, rfl, _, _, _, _, _, rfl, .ty _, Dp.ty hd, kit_ty (kit_tuple d), k⟩)
  by_cases hc : isTupD d = true
  · obtain ⟨ds, rfl⟩ : ∃ ds, d = .tuple ds := by cases d <;> simp [isTupD] at hc; exact ⟨_, rfl⟩
    cases hd with
    | @tup a xs _ ht ha =>
    have hlen := dpAll_len ha
    have hL : ∀ H1 : Hp, Kp [] H H1 → ∀ t : TE, t = tCB (fun xs H Q => ∃ p ys, xs = [.ref p] ∧ (SqL K H p ys ∨ SqT K H p ys) ∧ Q (.int ys.length) H) (tCons (tVar 0) tNil) → EvE t (L2.start N_is_node [.ref a]) H1 (.int (ds.length : Int)) := by
      rintro H1 k1 t rfl
      exact .of fun Q k => ⟨_, rfl, a, xs, rfl, .inr (N0.SqT.kp k1 ht), by rw [hlen]; exact k⟩
    cases ds with
    | nil =>
      refine EvT.ifS (b := true) (EvT.cast (EvT.or (b2 := true) (h1 _ rfl).not fun _ H1 k1 => EvT.cast (EvT.or (b1 := true) (b2 := true) (EvE.test fun Q k => hL H1 k1 _ rfl _ fun H2 k2 => ⟨rfl, k H2 k2⟩) (fun e => by cases e)) rfl) (by simp)) (fun e H1 k1 => ?_) (fun e => by cases e)
      exact q H1 k1
    | cons d0 r =>
      cases ha with
      | @cons x0 xr _ _ h0 hr0 =>
      have hI : ∀ H1 : Hp, Kp [] H H1 → ∀ t : TE, t = tOp (rIxT K) (tVar 0) (tC (.int 0)) → EvE t (L2.start N_is_node [.ref a]) H1 x0 := by
        rintro H1 k1 t rfl
        exact .of fun Q k => ⟨_, rfl, a, _, 0, x0, rfl, rfl, N0.SqT.kp k1 ht, atI_nat (j := 0) rfl, k⟩
      have h3 : ∀ H1 : Hp, Kp [] H H1 → ∀ t : TE, t = tCB (rIsi K) (tCons (tOp (rIxT K) (tVar 0) (tC (.int 0))) (tCons (tC (.ty "str")) tNil)) → EvT (tB t) (L2.start N_is_node [.ref a]) H1 (isStrD d0) := by
        rintro H1 k1 t rfl
        exact EvE.vb fun Q k => hI H1 k1 _ rfl _ fun H2 k2 => ⟨_, _, _, _, _, rfl, .ty _, Dp.ty (Dp.kp (k1.trans k2) h0), kit_ty (kit_str d0), k H2 k2⟩
      have hC : ∀ (H1 : Hp) (n : Int), Kp [] H H1 → ∀ t : TE, t = tOp rEq (tCB (fun xs H Q => ∃ p ys, xs = [.ref p] ∧ (SqL K H p ys ∨ SqT K H p ys) ∧ Q (.int ys.length) H) (tCons (tVar 0) tNil)) (tC (.int n)) →
          EvE t (L2.start N_is_node [.ref a]) H1 (.bl (decide (V.int ((r.length + 1 : Nat) : Int) = .int n))) := by
        rintro H1 n k1 t rfl
        exact fun Q k => hL H1 k1 _ rfl _ fun H2 k2 => ⟨rfl, k H2 k2⟩
      refine EvT.ifS (b := !(isStrD d0)) (EvT.cast (EvT.or (h1 _ rfl).not fun _ H1 k1 => EvT.or (b1 := false) (EvT.cast (EvE.test (hC H1 0 k1 _ rfl)) (by simp; omega)) fun _ H2 k2 => (h3 H2 (k1.trans k2) _ rfl).not) (by simp [isTupD])) (fun e H1 k1 => ?_) (fun e H1 k1 => ?_)
      · have e' : isNodeD (.tuple (d0 :: r)) = false := by
          cases d0 <;> simp [isStrD] at e <;> rfl
        have := q H1 k1
        rw [e'] at this; exact this
      · obtain ⟨k, rfl⟩ : ∃ k, d0 = .str k := by cases d0 <;> simp [isStrD] at e; exact ⟨_, rfl⟩
        cases h0
        have hE : ∀ (H1 : Hp) (z : Str), Kp [] H H1 → ∀ t : TE, t = tOp rEq (tOp (rIxT K) (tVar 0) (tC (.int 0))) (tC (.str z)) → EvE t (L2.start N_is_node [.ref a]) H1 (.bl (decide (V.str k = .str z))) := by
          rintro H1 z k1 t rfl
          exact fun Q q => hI H1 k1 _ rfl _ fun H2 k2 => ⟨rfl, q H2 k2⟩
        refine EvT.ifS (b := inV (.str k) [.str "yes", .str "no"]) (EvE.test (in_words (hI H1 k1 _ rfl) rfl (by decide) fun σ H Q q => q)) (fun e2 H2 k2 => ?_) (fun e2 H2 k2 => ?_)
        · refine hC H2 1 (k1.trans k2) _ rfl _ fun H3 k3 => ?_
          have := q H3 (k1.trans (k2.trans k3))
          simp only [isNodeD, isNodeL, e2, if_true] at this
          exact this
        · have k12 := k1.trans k2
          refine EvT.ifS (b := decide (V.str k = .str "letter")) (EvE.test (hE H2 _ k12 _ rfl)) (fun e3 H3 k3 => ?_) (fun e3 H3 k3 => ?_)
          · have k13 := k12.trans k3
            refine EvE.andV (hC H3 2 k13 _ rfl) (b2 := isNameD (r.headD .none)) (fun e4 H4 k4 => ?_) _ fun H4 k4 => ?_
            · have hr1 : r.length = 1 := by simp at e4; omega
              obtain ⟨d1, rfl⟩ := List.length_eq_one_iff.mp hr1
              cases hr0 with
              | @cons x1 _ _ _ h1 hr1 =>
              cases hr1
              intro Q1 q1
              refine ⟨_, rfl, a, _, 1, x1, rfl, rfl, N0.SqT.kp (k13.trans k4) ht, atI_nat (j := 1) rfl, ?_⟩
              refine ⟨x1, d1, rfl, Dp.kp (k13.trans k4) h1, fun s es => ?_, fun H5 k5 => q1 H5 k5⟩
              subst es
              simp [strsOk, strsOkAll] at hs
              exact hs.2
            · have := q H4 (k13.trans k4)
              simp only [isNodeD, isNodeL, e2, e3, if_true, Bool.false_eq_true, if_false] at this
              exact this
          · have k13 := k12.trans k3
            refine EvE.orV (EvE.andV (hE H3 _ k13 _ rfl) fun _ H4 k4 => hC H4 2 (k13.trans k4) _ rfl)
              (fun _ H4 k4 => EvE.andV (in_words (hI H4 (k13.trans k4) _ rfl) rfl (by decide) fun σ H Q q => q) fun _ H5 k5 => hC H5 3 (k13.trans (k4.trans k5)) _ rfl) _ fun H4 k4 => ?_
            have := q H4 (k13.trans k4)
            simp only [isNodeD, isNodeL, e2, e3, Bool.false_eq_true, if_false] at this
            exact this
  · refine EvT.ifS (b := true) (EvT.cast (EvT.or (b2 := true) (h1 _ rfl).not fun e => ?_) ?_) (fun e H1 k1 => ?_) (fun e => by cases e)
    · simp [hc] at e
    · simp [hc]
    · have e' : isNodeD d = false := by cases d <;> simp [isTupD] at hc <;> rfl
      have := q H1 k1
      rw [e'] at this; exact this
end
end N0

namespace N0
open PySem L2 PySem.Spec PyProof.Rows
theorem cut_tail (x : V) (xs : List V) : cutV (x :: xs) (some 1) none = xs ∧ ¬ (HT.sIx (x :: xs).length 0 (some 1) = 0 ∧ HT.sIx (x :: xs).length (x :: xs).length none = (x :: xs).length) := by
  have h1 : HT.sIx (x :: xs).length 0 (some ((1 : Nat) : Int)) = 1 := by rw [HT.sIx_nat]; simp
  have h1' : HT.sIx (x :: xs).length 0 (some 1) = 1 := h1
  have h2 : HT.sIx (x :: xs).length (x :: xs).length none = (x :: xs).length := rfl
  refine ⟨?_, fun h => by rw [h1'] at h; exact absurd h.1 (by decide)⟩
  unfold cutV
  rw [h1', h2]
  simp
section
variable {P : Program} {w : World} {K : PySem.W.Frag} {mg : Str → Option Value} {base : Heap} {f : Addr} {fd : FuncData}
theorem ok_terms_of (F : Fun K "terms_of" "terms_of" s_terms_of f fd) (T : Txt K mg) : FnOk P w K mg base CX0 1 f fd ["term"] (spTermsOf K) := by
  refine F.ok sc_terms_of (fun vs H Q E h => ?_) (fun cdv A outer s H vs Q E hr h => ?_)
  · obtain ⟨a, k, xs, rfl, _⟩ := h
    rfl
  obtain ⟨a, k, xs, rfl, ht, q⟩ := h
  have nd := sc_terms_of.nd
  refine ⟨_, (pss_one (ps_ret (pe_ifExp (pt_cmpR op_in_seq (pe_ix ix_tup (pv 0) pe_int (fun _ _ => rfl)) (pe_tup (pa_cons pe_str (pa_cons pe_str (pa_cons pe_str pa_nil)))) rfl) (pe_slice sl_tupA (pv 0) (po_some pe_int) po_none) (pe_tup pa_nil)))), ?_⟩
  have hI : ∀ H1 : Hp, Kp [] H H1 → ∀ t : TE, t = tOp (rIxT K) (tVar 0) (tC (.int 0)) → EvE t (L2.start N_terms_of [.ref a]) H1 (.str k) := by
    rintro H1 k1 t rfl
    exact .of fun Q k => ⟨_, rfl, a, _, 0, _, rfl, rfl, N0.SqT.kp k1 ht, atI_nat (j := 0) rfl, k⟩
  refine EvT.ifE (b := hasKids k) (EvE.test (in_words (hI H (Kp.refl _ _) _ rfl) rfl (by decide) fun σ H Q q => q)) (fun e H1 k1 => ?_) (fun e H1 k1 => ?_)
  · refine ⟨_, rfl, _, rfl, a, _, rfl, N0.SqT.kp k1 ht, fun z => absurd z (cut_tail _ xs).2, fun _ p hp => q _ p (k1.add hp) ?_⟩
    rw [if_pos e, (cut_tail _ xs).1]
    exact .inl (.inl upd_same)
  · refine ⟨Nat.zero_le _, fun p hp => q _ p (k1.add hp) ?_⟩
    rw [if_neg (by rw [e]; decide)]
    exact .inl (.inl upd_same)
end

/-! ### data, going down -/
mutual
def nsz : PyData → Nat
  | .list xs => nszAll xs + 1
  | .tuple xs => nszAll xs + 1
  | _ => 1
def nszAll : List PyData → Nat
  | [] => 0
  | d :: ds => nsz d + nszAll ds
end
def kidsD : PyData → List PyData
  | .tuple (.str k :: r) => if hasKids k = true then r else []
  | _ => []
mutual
def wfD : PyData → Bool
  | .tuple xs => isNodeL xs && wfL xs
  | _ => false
def wfL : List PyData → Bool
  | .str k :: r => if hasKids k = true then wfAll r else true
  | _ => true
def wfAll : List PyData → Bool
  | [] => true
  | d :: ds => wfD d && wfAll ds
end
theorem wfD_eq (d : PyData) : wfD d = (isNodeD d && wfAll (kidsD d)) := by
  cases d with
  | tuple xs =>
    cases xs with
    | nil => rfl
    | cons x r =>
      cases x with
      | str k =>
        rw [wfD]
        have e1 : isNodeD (.tuple (.str k :: r)) = isNodeL (.str k :: r) := rfl
        have e2 : wfL (.str k :: r) = wfAll (kidsD (.tuple (.str k :: r))) := by
          rw [wfL, kidsD]
          split <;> rfl
        rw [e1, e2]
      | _ => rw [wfD]; rfl
  | _ => rfl
theorem kids_nsz (d : PyData) : nszAll (kidsD d) < nsz d := by
  cases d with
  | tuple xs =>
    cases xs with
    | nil => simp [kidsD, nszAll, nsz]
    | cons x r =>
      cases x <;> simp only [kidsD, nszAll, nsz] <;> try omega
      split
      · omega
      · simp only [nszAll]; omega
  | list xs => simp [kidsD, nszAll, nsz]
  | _ => simp [kidsD, nszAll, nsz]
theorem nszAll_app : ∀ (a b : List PyData), nszAll (a ++ b) = nszAll a + nszAll b
  | [], b => by simp [nszAll]
  | x :: a, b => by rw [List.cons_append, nszAll, nszAll, nszAll_app a b]; omega
theorem wfAll_app : ∀ (a b : List PyData), wfAll (a ++ b) = (wfAll a && wfAll b)
  | [], b => by simp [wfAll]
  | x :: a, b => by rw [List.cons_append, wfAll, wfAll, wfAll_app a b, Bool.and_assoc]
theorem strsAll_iff : ∀ (ds : List PyData), strsOkAll ds = true ↔ ∀ d ∈ ds, strsOk d = true
  | [] => by simp [strsOkAll]
  | d :: ds => by rw [strsOkAll, Bool.and_eq_true, strsAll_iff ds]; simp
theorem wfAll_iff : ∀ (ds : List PyData), wfAll ds = true ↔ ∀ d ∈ ds, wfD d = true
  | [] => by simp [wfAll]
  | d :: ds => by rw [wfAll, Bool.and_eq_true, wfAll_iff ds]; simp
theorem kids_strs {d : PyData} (h : strsOk d = true) : ∀ k ∈ kidsD d, strsOk k = true := by
  intro k hk
  cases d with
  | tuple xs =>
    cases xs with
    | nil => cases hk
    | cons x r =>
      cases x <;> simp only [kidsD] at hk <;> try cases hk
      split at hk
      · simp only [strsOk, strsOkAll, Bool.and_eq_true] at h
        exact (strsAll_iff r).mp h.2 k hk
      · cases hk
  | _ => simp [kidsD] at hk
theorem dpAll_get {K : PySem.W.Frag} {H : Hp} : ∀ {xs : List V} {ds : List PyData} {i : Nat} {d : PyData}, DpAll K H xs ds → ds[i]? = some d → ∃ x, xs[i]? = some x ∧ Dp K H x d
  | _, _, _, _, .nil, h => by simp at h
  | _, _, 0, _, .cons h t, e => by simp at e; subst e; exact ⟨_, rfl, h⟩
  | _, _, i + 1, _, .cons h t, e => by
    obtain ⟨x, h1, h2⟩ := dpAll_get (i := i) t (by simpa using e)
    exact ⟨x, by simpa using h1, h2⟩
end N0

namespace N0
open PySem L2 PySem.Spec PyProof.Rows
section
variable {X : Cx}
/-- xs != [] of any list -/
def rNeNil (K : PySem.W.Frag) : R2 := fun x y H Q => ∃ a b xs, x = .ref a ∧ y = .ref b ∧ SqL K H a xs ∧ SqL K H b [] ∧ Q (.bl (!xs.isEmpty)) H
theorem op_neNil (hu : X.A.units < cLine) : OpR X (compareOp .NotEq) (rNeNil X.K) := by
  intro pins s σ H x y v u Q I rx ry h
  obtain ⟨a, b, xs, rfl, rfl, ha, hb, q⟩ := h
  cases rx
  cases ry
  obtain ⟨its, r1, p1, _⟩ := I.list ha
  obtain ⟨its2, r2, p2, _⟩ := I.list hb
  have e2 : its2 = [] := by cases r2; rfl
  subst e2
  cases xs with
  | nil =>
    have e1 : its = [] := by cases r1; rfl
    subst e1
    exact SeqAt.RcNeAt.lists (e := fun _ => true) p1.isList p2.isList rfl hu (fun j h => absurd h (by simp)) _ _ _ _ ⟨.bl false, H, I, rfl, q⟩
  | cons z zs =>
    cases r1 with
    | cons r1 r1' =>
    exact SeqAt.RcNeAt.lists_lengths p1.isList p2.isList (by simp) hu _ _ _ _ ⟨.bl true, H, I, rfl, q⟩
/-- t == () of any tuple -/
def rEqNilT (K : PySem.W.Frag) : R2 := fun x y H Q => ∃ a b xs, x = .ref a ∧ y = .ref b ∧ SqT K H a xs ∧ SqT K H b [] ∧ Q (.bl xs.isEmpty) H
theorem op_eqNilT (hu : X.A.units < cLine) : OpR X (compareOp .Eq) (rEqNilT X.K) := by
  intro pins s σ H x y v u Q I rx ry h
  obtain ⟨a, b, xs, rfl, rfl, ha, hb, q⟩ := h
  cases rx
  cases ry
  obtain ⟨its, r1, p1, _⟩ := I.tuple ha
  obtain ⟨its2, r2, p2, _⟩ := I.tuple hb
  have e2 : its2 = [] := by cases r2; rfl
  subst e2
  have k := SeqAt.RcAt.tuples (A := X.A) (s := s) (e := fun _ => true) (show s.heap.IsTuple a its.toArray from p1) (show s.heap.IsTuple b #[] from p2) hu (fun j _ h2 => absurd h2 (by simp))
  cases xs with
  | nil =>
    have e1 : its = [] := by cases r1; rfl
    subst e1
    exact k _ _ _ _ ⟨.bl true, H, I, rfl, q⟩
  | cons z zs =>
    cases r1 with
    | cons r1 r1' => exact k _ _ _ _ ⟨.bl false, H, I, by simp [L2.RelV], q⟩
end
end N0

namespace N0
open PySem L2 PySem.Spec PyProof.Rows
section
variable {X : Cx}
/-- a new tuple, its object known -/
def tTupF (t : TA) : TE := fun σ H Q => t σ H fun xs H1 => xs.length ≤ sizeLine ∧ ∀ (p : Addr) (o : Obj), H1 p = none → o.cls = .type "tuple" → o.dict = none → Q (.ref p) (upd H1 p (.frz o (.tup xs)))
theorem pe_tupF {es : List Expr} {t : TA} {pos : Pos} {x1} (h : PA X es t) : PE X (.Tuple es x1 pos) (tTupF t) := by
  refine ⟨fun pins s σ H Q I hq => ?_⟩
  refine wpAny_Tuple_spliced (thn (h.run pos pins s σ H _ I hq) fun us s1 ⟨xs, H1, I1, r, z, q⟩ => ⟨by rw [← r.length]; exact z, ?_⟩)
  have hf : H1 s1.heap.objs.size = none := I1.hok.fresh (Nat.le_refl _)
  refine ⟨.ref s1.heap.objs.size, upd H1 s1.heap.objs.size (.frz { cls := Value.type "tuple", data := Data.seq us.toArray } (.tup xs)), I1.laid (t' := s1.toks) (fun b u e => Heap.get?_push_of_some _ e) (Nat.le_refl _) ?_, rfl, q _ _ hf ?_ ?_⟩
  · exact ⟨Heap.get?_push_size _ rfl, z, us, r, ⟨_, Heap.get?_push_size _ rfl, rfl, _, rfl⟩⟩
  · rfl
  · rfl
/-- a method of a tuple whose object is known -/
def TupO (K : PySem.W.Frag) (x : V) (H : Hp) : Prop := ∃ (p : Addr) (o : Obj), x = .ref p ∧ o.cls = .type "tuple" ∧ o.dict = none ∧ ((∃ u, H p = some (.frz o u)) ∨ K.lookup p = some o)
def tBMT (K : PySem.W.Frag) (r : V → List V → Hp → VK → Prop) (to : TE) (t : TA) : TE := fun σ H Q => to σ H fun x H1 => TupO K x H1 ∧ t σ H1 fun xs H2 => r x xs H2 Q
variable {o e : Expr} {es : List Expr} {to : TE} {t : TA} {name : Str} {apos cpos : Pos} {id : String} {r : V → List V → Hp → VK → Prop}
theorem pe_bmT (K : PySem.W.Frag) (slot : Slot "tuple" name id) (hty : typeOf (.builtin id) = pure (.type "method_descriptor")) (hm : MtR X id r) (ho : PE X o to) (ha : PA X (e :: es) t) (hK : X.K = K := by rfl)
    (hbase : attributeBase o name X.env (eval o X.env) = eval o X.env := by rfl)
    (hfew : ((backTo cpos (starEach (e :: es) X.env)).all (fun x => !x.1) && (backToKw cpos (keywordEach [] X.env)).all (fun x => x.1.isSome)
      && decide ((e :: es).length + ([] : List Keyword).length + (if ([] : List Keyword).isEmpty then 0 else 1) < 30)) = true := by rfl)
    (hline : (apos.endLine == cpos.line) = true := by rfl) (hs : starEach (e :: es) X.env = (false, eval e X.env) :: starEach es X.env := by rfl) (hplain : (backTo cpos (starEach es X.env)).any (·.1) = false := by rfl) :
    PE X (.Call (.Attribute o name apos) (e :: es) [] cpos) (tBMT K r to t) := by
  subst hK
  refine ⟨fun pins s σ H Q I h => ?_⟩
  refine wpAny_Call_method_late hbase hfew hline rfl (thn (ho.run pins s σ H _ I h) fun v s1 ⟨x, H1, I1, r1, ty, q1⟩ => ?_)
  obtain ⟨p, ob, rfl, hc, hd, hk⟩ := ty
  cases r1
  have hg : s1.heap.get? p = some ob := by
    rcases hk with ⟨u, hk⟩ | hk
    · exact (I1.hok p _ hk).1
    · exact I1.kIn p ob hk
  have h1 : s1.TypeIs (.ref p) "tuple" := ⟨ob, hg, hc⟩
  have h2 : ∀ a, Value.ref p = .ref a → ∃ ob, s1.heap.get? a = some ob ∧ ob.dict = none := fun a e => by cases e; exact ⟨ob, hg, hd⟩
  refine ⟨"tuple", id, PySem.F.plainAttrs_tuple, slot, hty, h1, h2, ?_⟩
  have hA := ha.run cpos pins s1 σ H1 _ I1 q1
  rw [hs] at hA ⊢
  refine Calls.callWith_builtin (by show (false || (backTo cpos (starEach es X.env)).any (·.1)) = false; rw [hplain] <;> rfl) (Calls.evalArgs_plain ?_)
  exact thn hA fun us s2 ⟨vs, H2, I2, r2, q2⟩ => hm pins s2 σ H2 (.ref p) vs (.ref p) us Q I2 (show L2.RelV (.ref p) (.ref p) from rfl) r2 q2
theorem mt_tup_indexk (K : PySem.W.Frag) (h : X.K = K := by rfl) : MtR X "tuple.index" (fun x xs H Q => ∃ p, ∃ ys : List Str, ∃ z j, x = .ref p ∧ xs = [.str z] ∧ SqT K H p (ys.map V.str) ∧ ys[j]? = some z ∧ (∀ m, m < j → ys[m]? ≠ some z) ∧ Q (.int (j : Nat)) H) := h ▸ mt_tup_index
/-- a written tuple of the top whose object is known -/
theorem e_kinds (K : PySem.W.Frag) {x : Str} {xs : List V} {pos : Pos} (h : ∃ a : Addr, X.mg x = some (.ref a) ∧ (∀ H, SqT K H a xs) ∧ ∃ o : Obj, K.lookup a = some o ∧ o.cls = .type "tuple" ∧ o.dict = none) (hg : Gl X x := by rfl) (hd : (x == ("__debug__" : Str)) = false := by decide) :
    PE X (.Name x pos) (fun _ H Q => ∀ a, SqT K H a xs → TupO K (.ref a) H → Q (.ref a) H) := by
  obtain ⟨a, h1, h2, o, h3, h4, h5⟩ := h
  have q : PE X (.Name x pos) (tC (.ref a)) := pe_glob hg h1 (v := .ref a) rfl hd
  exact ⟨fun pins s σ H Q I h => q.run pins s σ H Q I (h a (h2 H) ⟨a, o, rfl, h4, h5, .inr h3⟩)⟩
end
end N0

namespace N0
open PySem L2 PySem.Spec PyProof.Rows
/-! ### sorted of tuples: whole numbers, texts, tuples of whole numbers -/
inductive SI where
  | i (n : Int) | s (x : Str) | t (ns : List Int)
namespace SI
def kind : SI → Nat | .i _ => 0 | .s _ => 1 | .t _ => 2
def enc : SI → List Int
  | .i n => [0, n]
  | .s x => 1 :: x.cps.toList.map Int.ofNat
  | .t ns => 2 :: ns
end SI
def SIV (h : Heap) : SI → Value → Prop
  | .i n, v => ∃ tk, v = .int n tk
  | .s x, v => ∃ tk, v = .str x tk
  | .t ns, v => ∃ (a : Addr) (its : List Value), v = .ref a ∧ h.IsTuple a its.toArray ∧ IntsAre its ns
theorem map_ofNat_lt : ∀ {a b : List Nat}, (a.map Int.ofNat < b.map Int.ofNat) ↔ a < b
  | [], [] => by simp
  | [], _ :: _ => by simp
  | _ :: _, [] => by simp
  | x :: a, y :: b => by
    have e : Int.ofNat x = Int.ofNat y ↔ x = y := ⟨Int.ofNat.inj, congrArg _⟩
    have l : Int.ofNat x < Int.ofNat y ↔ x < y := Int.ofNat_lt
    rw [List.map_cons, List.map_cons, List.cons_lt_cons_iff, List.cons_lt_cons_iff, map_ofNat_lt, e, l]
theorem map_ofNat_inj : ∀ {a b : List Nat}, a.map Int.ofNat = b.map Int.ofNat ↔ a = b
  | [], [] => by simp
  | [], _ :: _ => by simp
  | _ :: _, [] => by simp
  | x :: a, y :: b => by
    have e : Int.ofNat x = Int.ofNat y ↔ x = y := ⟨Int.ofNat.inj, congrArg _⟩
    rw [List.map_cons, List.map_cons, List.cons.injEq, List.cons.injEq, map_ofNat_inj, e]
theorem firstLt_map (e r : Nat → Bool) (fin : Bool) (f : Nat → Nat) : ∀ l : List Nat, SeqAt.firstLt e r fin (l.map f) = SeqAt.firstLt (e ∘ f) (r ∘ f) fin l
  | [] => rfl
  | j :: l => by
    rw [List.map_cons]
    cases h : e (f j) with
    | true => rw [SeqAt.firstLt_yes h, SeqAt.firstLt_yes (e := e ∘ f) h, firstLt_map e r fin f l]
    | false => rw [SeqAt.firstLt_no h, SeqAt.firstLt_no (e := e ∘ f) h]; rfl
theorem firstLt_ints : ∀ (ns ms : List Int), SeqAt.firstLt (fun j => decide (ns.getD j 0 = ms.getD j 0)) (fun j => decide (ns.getD j 0 < ms.getD j 0)) (decide (ns.length < ms.length)) (List.range (min ns.length ms.length)) = decide (ns < ms)
  | [], [] => by simp [SeqAt.firstLt]
  | [], _ :: _ => by simp [SeqAt.firstLt]
  | _ :: _, [] => by simp [SeqAt.firstLt]
  | x :: ns, y :: ms => by
    have e1 : min (x :: ns).length (y :: ms).length = min ns.length ms.length + 1 := by simp only [List.length_cons]; omega
    rw [e1, List.range_succ_eq_map]
    by_cases h : x = y
    · subst h
      rw [SeqAt.firstLt_yes (by simp), firstLt_map]
      have ih := firstLt_ints ns ms
      have e2 : decide ((x :: ns).length < (x :: ms).length) = decide (ns.length < ms.length) := by simp
      rw [e2]
      have e3 : decide (x :: ns < x :: ms) = decide (ns < ms) := by rw [decide_eq_decide, List.cons_lt_cons_iff]; simp
      rw [e3, ← ih]
      rfl
    · rw [SeqAt.firstLt_no (by simp [h])]
      rw [decide_eq_decide, List.cons_lt_cons_iff]
      simp [h]
theorem all_ints : ∀ (ns ms : List Int), ((List.range (min ns.length ms.length)).all (fun j => decide (ns.getD j 0 = ms.getD j 0)) && ns.length == ms.length) = decide (ns = ms)
  | [], [] => by simp
  | [], _ :: _ => by simp
  | _ :: _, [] => by simp
  | x :: ns, y :: ms => by
    have e1 : min (x :: ns).length (y :: ms).length = min ns.length ms.length + 1 := by simp only [List.length_cons]; omega
    have ih := all_ints ns ms
    rw [e1, List.range_succ_eq_map, List.all_cons, List.all_map]
    have e2 : ((x :: ns).length == (y :: ms).length) = (ns.length == ms.length) := by simp
    rw [e2, Bool.and_assoc]
    have e3 : ((List.range (min ns.length ms.length)).all ((fun j => decide ((x :: ns).getD j 0 = (y :: ms).getD j 0)) ∘ Nat.succ) && ns.length == ms.length) = decide (ns = ms) := by
      rw [← ih]; rfl
    rw [e3]
    by_cases h : x = y <;> simp [h]
section
variable {prog : Program} {w : World} {A : Around} {s : Shared}
theorem ints_at {its : List Value} {ns : List Int} (h : IntsAre its ns) : ∀ j (h1 : j < its.toArray.size), ∃ tk, its.toArray[j] = .int (ns.getD j 0) tk := by
  induction h with
  | nil => intro j h1; simp at h1
  | cons n t _ ih =>
    intro j h1
    cases j with
    | zero => exact ⟨t, rfl⟩
    | succ j =>
      obtain ⟨tk, e⟩ := ih j (by simpa using h1)
      exact ⟨tk, by simpa using e⟩
theorem eq_si {x y : SI} {v u : Value} (hu : A.units < cLine) (hx : SIV s.heap x v) (hy : SIV s.heap y u) (hk : x.kind = y.kind) : SeqAt.EqAt A s v u (decide (x.enc = y.enc)) := by
  cases x <;> cases y <;> simp [SI.kind] at hk
  · obtain ⟨t1, rfl⟩ := hx
    obtain ⟨t2, rfl⟩ := hy
    rename_i a b
    have e : decide ((SI.i a).enc = (SI.i b).enc) = (a == b) := by
      simp [SI.enc]; rfl
    rw [e]; exact SeqAt.EqAt.int_int _ _ _ _
  · obtain ⟨t1, rfl⟩ := hx
    obtain ⟨t2, rfl⟩ := hy
    rename_i a b
    have e : decide ((SI.s a).enc = (SI.s b).enc) = (a == b) := by
      rw [← SeqAt.str_beq]
      simp only [SI.enc, List.cons.injEq, true_and, map_ofNat_inj]
      by_cases h : a.cps.toList = b.cps.toList
      · simp [h]
      · rw [decide_eq_false h]
        exact (beq_eq_false_iff_ne.mpr h).symm
    rw [e]; exact SeqAt.EqAt.str_str _ _ _ _
  · obtain ⟨a, i1, rfl, h1, j1⟩ := hx
    obtain ⟨b, i2, rfl, h2, j2⟩ := hy
    rename_i ns ms
    have e : decide ((SI.t ns).enc = (SI.t ms).enc) = decide (ns = ms) := by simp [SI.enc]
    rw [e]
    by_cases hab : a = b
    · subst hab
      obtain ⟨o, e1, c1, n1, d1⟩ := h1
      obtain ⟨o', e2, c2, n2, d2⟩ := h2
      rw [e1] at e2; cases e2
      rw [d1] at d2
      have ei : i1 = i2 := by injection d2 with d3; exact List.toArray_inj d3
      subst ei
      have : ns = ms := by
        have l1 := j1.length; have l2 := j2.length
        apply List.ext_getElem (by omega)
        intro j p q
        obtain ⟨t1, q1⟩ := ints_at j1 j (by simp; omega)
        obtain ⟨t2, q2⟩ := ints_at j2 j (by simp; omega)
        rw [q1] at q2
        injection q2 with q3
        simpa [List.getD_eq_getElem?_getD, p, q] using q3
      rw [decide_eq_true this]; exact SeqAt.EqAt.same _
    · refine SeqAt.EqAt.of_refs hab ?_
      have l1 := j1.length; have l2 := j2.length
      have k := SeqAt.RcAt.tuples (A := A) (s := s) (e := fun j => decide (ns.getD j 0 = ms.getD j 0)) h1 h2 hu (fun j p q => by
        obtain ⟨t1, q1⟩ := ints_at j1 j p
        obtain ⟨t2, q2⟩ := ints_at j2 j q
        rw [q1, q2]
        have := SeqAt.EqAt.int_int (A := A.in1) (s := s) (ns.getD j 0) t1 (ms.getD j 0) t2
        exact this)
      rw [List.size_toArray, List.size_toArray, l1, l2, all_ints] at k
      exact k
theorem lt_si {c : Bool} {x y : SI} {v u : Value} {Q : Bool → Shared → Prop} {E : Value → Shared → Prop} (hu : A.units < cLine) (hx : SIV s.heap x v) (hy : SIV s.heap y u) (hk : x.kind = y.kind) (hc : c = true → x.kind ≠ 2) (h : Q (decide (x.enc < y.enc)) s) :
    wpAny (model prog w) A (oneLt' c v u) Q E s := by
  cases x <;> cases y <;> simp [SI.kind] at hk
  · obtain ⟨t1, rfl⟩ := hx
    obtain ⟨t2, rfl⟩ := hy
    rename_i a b
    have e : decide ((SI.i a).enc < (SI.i b).enc) = decide (a < b) := by
      simp only [SI.enc, List.cons_lt_cons_iff, decide_eq_decide]; simp
    rw [e] at h
    cases c with
    | true => exact oneLt_int h
    | false => exact PySem.W.kat_one _ _ (PyProof.Rows.lt_int (Q := PySem.W.BoolBack Q) h)
  · obtain ⟨t1, rfl⟩ := hx
    obtain ⟨t2, rfl⟩ := hy
    rename_i a b
    have e : decide ((SI.s a).enc < (SI.s b).enc) = decide (a.cps.toList < b.cps.toList) := by
      simp only [SI.enc, List.cons_lt_cons_iff, map_ofNat_lt, decide_eq_decide]; simp
    rw [e] at h
    cases c with
    | true => exact oneLt_str h
    | false => exact PySem.W.kat_one _ _ (lt_str (Q := PySem.W.BoolBack Q) h)
  · obtain ⟨a, i1, rfl, h1, j1⟩ := hx
    obtain ⟨b, i2, rfl, h2, j2⟩ := hy
    rename_i ns ms
    have e : decide ((SI.t ns).enc < (SI.t ms).enc) = decide (ns < ms) := by
      simp only [SI.enc, List.cons_lt_cons_iff, decide_eq_decide]; simp
    rw [e] at h
    cases c with
    | true => exact absurd rfl (hc rfl)
    | false =>
      have l1 := j1.length; have l2 := j2.length
      have k := SeqAt.RcLt.tuples (A := A) (s := s) (e := fun j => decide (ns.getD j 0 = ms.getD j 0)) (r := fun j => decide (ns.getD j 0 < ms.getD j 0)) h1 h2 hu (fun j p q => by
        obtain ⟨t1, q1⟩ := ints_at j1 j p
        obtain ⟨t2, q2⟩ := ints_at j2 j q
        rw [q1, q2]
        exact SeqAt.EqAt.int_int (A := A.in1) (s := s) (ns.getD j 0) t1 (ms.getD j 0) t2) (fun j p q _ prog w E Q hq => by
        obtain ⟨t1, q1⟩ := ints_at j1 j p
        obtain ⟨t2, q2⟩ := ints_at j2 j q
        rw [q1, q2]
        exact lt_int hq)
      rw [List.size_toArray, List.size_toArray, l1, l2, firstLt_ints] at k
      exact PySem.W.kat_one _ _ (k prog w E (PySem.W.BoolBack Q) h)
/-- the rows, item by item -/
def SIVs (h : Heap) : List SI → List Value → Prop
  | [], [] => True
  | x :: xs, v :: vs => SIV h x v ∧ SIVs h xs vs
  | _, _ => False
theorem lex_si {b : Bool} (hu : A.units < cLine) : ∀ {p q : List SI} {xs ys : List Value} {i : Nat} {Q : Bool → Shared → Prop}, SIVs s.heap p xs → SIVs s.heap q ys → p.map SI.kind = q.map SI.kind → (b = true → i = 0 → ∀ x, p.head? = some x → x.kind ≠ 2) →
    Q (decide (p.map SI.enc < q.map SI.enc)) s → PySem.W.KatLex prog w A b false Q (xs.zip ys) i s
  | [], [], [], [], _, _, _, _, _, _, h => PySem.W.kat_nil (by simpa using h)
  | x :: p, y :: q, v :: xs, u :: ys, i, Q, ⟨hx, hxs⟩, ⟨hy, hys⟩, hk, hb, h => by
    simp only [List.map_cons, List.cons.injEq] at hk
    refine PySem.W.kat_cons (eq_si hu hx hy hk.1 prog w _ _ ?_)
    refine PySem.W.kat_go (fun e => ?_) (fun e => ?_)
    · have e' := of_decide_eq_true e
      refine PySem.W.kat_yes (lex_si hu hxs hys hk.2 (fun _ z => by omega) ?_)
      have : decide ((x :: p).map SI.enc < (y :: q).map SI.enc) = decide (p.map SI.enc < q.map SI.enc) := by
        simp only [List.map_cons, List.cons_lt_cons_iff, e', decide_eq_decide]
        exact ⟨fun z => z.elim (fun z => absurd z (List.lt_irrefl _)) fun z => z.2, fun z => .inr ⟨trivial, z⟩⟩
      rw [this] at h; exact h
    · have e' := of_decide_eq_false e
      refine PySem.W.kat_no (lt_si hu hx hy hk.1 (fun z => ?_) ?_)
      · have z' : b = true ∧ i = 0 := by simpa using z
        exact hb z'.1 z'.2 x rfl
      · have : decide ((x :: p).map SI.enc < (y :: q).map SI.enc) = decide (x.enc < y.enc) := by
          simp only [List.map_cons, List.cons_lt_cons_iff, decide_eq_decide]
          simp [e']
        rw [this] at h; exact h
  | _ :: _, [], _, _, _, _, _, _, hk, _, _ => by simp at hk
  | [], _ :: _, _, _, _, _, _, _, hk, _, _ => by simp at hk
  | _ :: _, _, [], _, _, _, h, _, _, _, _ => h.elim
  | [], _, _ :: _, _, _, _, h, _, _, _, _ => h.elim
  | _, _ :: _, _, [], _, _, _, h, _, _, _ => h.elim
  | _, [], _, _ :: _, _, _, _, h, _, _, _ => h.elim
end
def rowLt (k : V → List SI) (x y : V) : Bool := decide ((k x).map SI.enc < (k y).map SI.enc)
theorem rowLt_swo (k : V → List SI) : SrtO.Swo (rowLt k) :=
  ⟨fun x y h => decide_eq_false (List.lt_asymm (of_decide_eq_true h)), fun x y z h1 h2 => decide_eq_false fun h => absurd h (List.not_lt.mpr (List.le_trans (List.not_lt.mp (of_decide_eq_false h1)) (List.not_lt.mp (of_decide_eq_false h2))))⟩
/-- the items of a row as values -/
def SIR (H : Hp) : SI → V → Prop
  | .i n, y => y = .int n
  | .s x, y => y = .str x
  | .t ns, y => ∃ b, y = .ref b ∧ H b = some (.tup (ns.map V.int))
def SIRs (H : Hp) : List SI → List V → Prop
  | [], [] => True
  | x :: xs, v :: vs => SIR H x v ∧ SIRs H xs vs
  | _, _ => False
/-- sorted(xs), xs a list of tuples of one shape: a new list, in order -/
def rSortSI (K : PySem.W.Frag) : List V → Hp → VK → Prop := fun vs H Q => ∃ (a : Addr) (xs : List V) (k : V → List SI) (ks : List Nat), vs = [V.ref a] ∧ SqL K H a xs ∧ ks ≠ [] ∧
  (∀ x ∈ xs, ∃ t ys, x = V.ref t ∧ H t = some (.tup ys) ∧ SIRs H (k x) ys ∧ (k x).map SI.kind = ks) ∧
  ∀ ys p, ys.Pairwise (fun x y => rowLt k y x = false) → ys.Perm xs → H p = none → Q (.ref p) (upd H p (.lst ys))
section
variable {X : Cx}
theorem SIR.val {P : Program} {w : World} {H : Hp} {h : Heap} (ok : HOk P w H h) {x : SI} {y : V} {u : Value} (r : SIR H x y) (ru : L2.RelV y u) : SIV h x u := by
  cases x with
  | i n => cases (show y = .int n from r); exact ru
  | s x => cases (show y = .str x from r); exact ru
  | t ns =>
    obtain ⟨b, rfl, hb⟩ := r
    cases ru
    obtain ⟨_, its, rv, p⟩ := ok b _ hb
    exact ⟨b, its, rfl, p, rv.ints⟩
theorem SIRs.val {P : Program} {w : World} {H : Hp} {h : Heap} (ok : HOk P w H h) : ∀ {xs : List SI} {ys : List V} {us : List Value}, SIRs H xs ys → Vals ys us → SIVs h xs us
  | [], [], _, _, .nil => trivial
  | _ :: _, _ :: _, _, ⟨h1, h2⟩, .cons r t => ⟨SIR.val ok h1 r, SIRs.val ok h2 t⟩
theorem SIV.keeps {h h' : Heap} (k : ∀ b o, h.get? b = some o → o.cls = .type "tuple" → h'.get? b = some o) {x : SI} {u : Value} (r : SIV h x u) : SIV h' x u := by
  cases x with
  | i n => exact r
  | s x => exact r
  | t ns =>
    obtain ⟨a, its, e, ⟨o, h1, h2, h3⟩, h4⟩ := r
    exact ⟨a, its, e, ⟨o, k _ _ h1 h2, h2, h3⟩, h4⟩
theorem SIVs.keeps {h h' : Heap} (k : ∀ b o, h.get? b = some o → o.cls = .type "tuple" → h'.get? b = some o) : ∀ {xs : List SI} {us : List Value}, SIVs h xs us → SIVs h' xs us
  | [], [], _ => trivial
  | _ :: _, _ :: _, ⟨h1, h2⟩ => ⟨SIV.keeps k h1, SIVs.keeps k h2⟩
/-- a row on the heap -/
def RowH (h : Heap) (row : List SI) (v : Value) : Prop := ∃ (t : Addr) (o : Obj) (its : List Value) (n : Nat), v = .ref t ∧ h.get? t = some o ∧ o.cls = .type "tuple" ∧ o.data = .seq its.toArray n ∧ SIVs h row its
theorem RowH.keeps {h h' : Heap} (k : ∀ b o, h.get? b = some o → o.cls = .type "tuple" → h'.get? b = some o) {row : List SI} {v : Value} : RowH h row v → RowH h' row v
  | ⟨t, o, its, n, e, h1, h2, h3, h4⟩ => ⟨t, o, its, n, e, k _ _ h1 h2, h2, h3, SIVs.keeps k h4⟩
theorem rows_firsts {h : Heap} {k : Value → List SI} {c : Nat} {ks : List Nat} : ∀ {vs : List Value}, (∀ v ∈ vs, RowH h (k v) v ∧ (k v).map SI.kind = c :: ks) → ∃ fs : List Value, PySem.W.KatTups h vs fs ∧ fs.length = vs.length ∧ ∀ f ∈ fs, ∃ x : SI, x.kind = c ∧ SIV h x f
  | [], _ => ⟨[], PySem.W.KatTups.nil, rfl, fun _ hm => by simp at hm⟩
  | v :: vs, hv => by
    obtain ⟨fs, h1, h2, h3⟩ := rows_firsts (vs := vs) fun u hu => hv u (List.mem_cons_of_mem _ hu)
    obtain ⟨⟨t, o, its, n, e, g1, g2, g3, g4⟩, hk⟩ := hv v (List.mem_cons_self ..)
    cases hr : k v with
    | nil => rw [hr] at hk; cases hk
    | cons x r =>
      rw [hr] at hk g4
      cases its with
      | nil => exact g4.elim
      | cons f its =>
        subst e
        refine ⟨f :: fs, PySem.W.KatTups.cons g1 g2 g3 rfl h1, by simp [h2], fun z hz => ?_⟩
        rcases List.mem_cons.mp hz with rfl | q
        · exact ⟨x, (List.cons.inj hk).1, g4.1⟩
        · exact h3 z q
theorem cr_sortSI (hu : X.A.units + 64 < cLine) : CallR X (.builtin "sorted") (rSortSI X.K) := by
  intro pins s σ H vs us Q I r h
  obtain ⟨a, xs, k, ks, rfl, hs, hks, hx, q⟩ := h
  obtain ⟨its, rv, hl, hz⟩ := I.list hs
  obtain ⟨u, rfl, ru⟩ := vals1 r
  obtain rfl : u = Value.ref a := ru
  obtain ⟨e1, e2⟩ := refs_back rv fun x m => by
    obtain ⟨t, _, e, _⟩ := hx x m
    exact ⟨t, e⟩
  obtain ⟨c, kr, rfl⟩ : ∃ c kr, ks = c :: kr := by
    cases ks with
    | nil => exact absurd rfl hks
    | cons c kr => exact ⟨c, kr, rfl⟩
  have rows : ∀ v ∈ its, RowH s.heap (k (backV v)) v ∧ (k (backV v)).map SI.kind = c :: kr := fun v hv => by
    obtain ⟨t, rfl⟩ := e2 v hv
    have hm : V.ref t ∈ xs := by rw [e1]; exact List.mem_map.mpr ⟨_, hv, rfl⟩
    obtain ⟨t', ys, e, ht, hr, hk⟩ := hx _ hm
    cases e
    obtain ⟨_, its2, r2, o, ho, hc, n, hd⟩ := I.hok _ _ ht
    exact ⟨⟨t, o, its2, n, rfl, ho, hc, hd, SIRs.val I.hok hr r2⟩, hk⟩
  refine SrtO.sorted_ord (ltv := fun u v => rowLt k (backV u) (backV v)) ⟨fun x y => (rowLt_swo k).asym _ _, fun x y z => (rowLt_swo k).tr _ _ _⟩ hl.isList (by rw [← rv.length]; exact hz) (fun h2 h₁ b hb kk => ?_) fun out h1 h2 => ?_
  · intro h' keep
    have keep2 : ∀ d o, s.heap.get? d = some o → o.cls = .type "tuple" → h'.get? d = some o := fun d o e hc => by
      obtain ⟨hne, e'⟩ := kk d o e
      exact keep d o hne e'
    have rows' : ∀ v ∈ its, RowH h' (k (backV v)) v ∧ (k (backV v)).map SI.kind = c :: kr := fun v hv => ⟨(rows v hv).1.keeps keep2, (rows v hv).2⟩
    obtain ⟨fs, f1, f2, f3⟩ := rows_firsts rows'
    have hty : ∃ T : String, (∀ f ∈ fs, PySem.W.Looks (model X.prog X.w) h' (typeOf f) (.type T)) ∧ ((Value.type T != Value.type "tuple") = true → c ≠ 2) := by
      by_cases c0 : c = 0
      · refine ⟨"int", fun f hf => ?_, fun _ => by omega⟩
        obtain ⟨x, hx, hv⟩ := f3 f hf
        cases x <;> simp [SI.kind] at hx <;> first | (exfalso; omega) | skip
        obtain ⟨t, rfl⟩ := hv
        exact PySem.W.Looks.now
      · by_cases c1 : c = 1
        · refine ⟨"str", fun f hf => ?_, fun _ => by omega⟩
          obtain ⟨x, hx, hv⟩ := f3 f hf
          cases x <;> simp [SI.kind] at hx <;> first | (exfalso; omega) | skip
          obtain ⟨t, rfl⟩ := hv
          exact PySem.W.Looks.now
        · refine ⟨"tuple", fun f hf => ?_, fun z => absurd z (by decide +kernel)⟩
          obtain ⟨x, hx, hv⟩ := f3 f hf
          cases x <;> simp [SI.kind] at hx <;> first | (exfalso; omega) | skip
          obtain ⟨d, its3, rfl, ⟨o, g1, g2, g3⟩, _⟩ := hv
          have this : PySem.W.Looks (model X.prog X.w) h' (typeOf (.ref d)) o.cls := (PySem.W.Looks.ld g1).andThen .now
          rw [g2] at this
          exact this
    obtain ⟨T, hT, hT2⟩ := hty
    refine ⟨tuples' (Value.type T != Value.type "tuple"), fun Q E hq => ?_, fun p p' hm hm' => ?_⟩
    · refine PySem.W.kat_kind (T := .type T) f1 (by omega) hT (beq_self_eq_true _) hq
    · obtain ⟨⟨t, o, i1, n, e, g1, g2, g3, g4⟩, hk⟩ := rows' _ hm
      obtain ⟨⟨t', o', i2, n', e', g1', g2', g3', g4'⟩, hk'⟩ := rows' _ hm'
      show wpAny _ _ (keyLt' _ p.1 p'.1) (fun r s' => s' = _ ∧ r = rowLt k (backV p.1) (backV p'.1)) _ _
      rw [e] at g4 hk ⊢
      rw [e'] at g4' hk' ⊢
      refine PySem.W.kat_lt g1 g3 g1' g3' ?_
      have el : i1.toArray.size = i2.toArray.size := by
        have l1 : ∀ {p : List SI} {xs : List Value}, SIVs h' p xs → p.length = xs.length := by
          intro p
          induction p with
          | nil => intro xs h; cases xs with | nil => rfl | cons _ _ => exact h.elim
          | cons x p ih => intro xs h; cases xs with | nil => exact h.elim | cons _ _ => simp [ih h.2]
        have a1 := l1 g4; have a2 := l1 g4'
        have a3 := congrArg List.length hk; have a4 := congrArg List.length hk'
        simp at a3 a4
        simp; omega
      rw [el, decide_eq_false (Nat.lt_irrefl _)]
      refine lex_si (by show X.A.units + 1 + 1 < cLine; omega) g4 g4' (hk.trans hk'.symm) (fun z _ x hx => ?_) ⟨rfl, rfl⟩
      have hxc : x.kind = c := by
        cases hr : k (backV (.ref t)) with
        | nil => rw [hr] at hx; cases hx
        | cons y r =>
          rw [hr] at hx hk
          cases hx
          exact (List.cons.inj hk).1
      rw [hxc]; exact hT2 z
  · have h3 : ∀ u ∈ out, ∃ a, u = Value.ref a := fun u hu => e2 u (h2.perm.mem_iff.mp hu)
    obtain ⟨n, hn⟩ := PyProof.Rows.sortedAll_at s.heap its out.toArray
    have hp : (out.map backV).Perm xs := by rw [e1]; exact h2.perm.map _
    refine ⟨.ref _, upd H (s.heap.objs.size + 1) (.lst (out.map backV)), I.laid (t' := s.toks) (fun _ _ => PyProof.Rows.sortedAll_old) (Nat.le_succ _) ⟨?_, out, n, vals_back h3, by simpa using hn⟩, rfl, q _ _ ?_ hp (I.hok.fresh (Nat.le_succ _))⟩
    · rw [hp.length_eq]; exact hz
    · exact List.pairwise_map.mpr h1
end
end N0

namespace N0
open PySem L2 PySem.Spec PyProof.Rows
/-! the rules with the written part named: within a comprehension -/
section
variable {X : Cx} (K : PySem.W.Frag)
theorem ix_listk (h : X.K = K := by rfl) : IxR X (rIxL K) := h ▸ ix_list
theorem ix_tupk (h : X.K = K := by rfl) : IxR X (rIxT K) := h ▸ ix_tup
theorem sl_listk (h : X.K = K := by rfl) : SlR X (rSlL K) := h ▸ sl_list
theorem sl_tupAk (h : X.K = K := by rfl) : SlR X (rSlA K) := h ▸ sl_tupA
theorem op_catAk (h : X.K = K := by rfl) : OpR X (binaryOp .Add) (rCatA K) := h ▸ op_catA
theorem op_eqDk (hu : X.A.units + 64 < cLine) (h : X.K = K := by rfl) : OpR X (compareOp .Eq) (rEqD K) := h ▸ op_eqD hu
theorem op_neDk (hu : X.A.units + 64 < cLine) (h : X.K = K := by rfl) : OpR X (compareOp .NotEq) (rNeD K) := h ▸ op_neD hu
theorem op_in_seqk (h : X.K = K := by rfl) : OpR X (compareOp .In) (rIn K false) := h ▸ op_in_seq
theorem op_notIn_seqk (h : X.K = K := by rfl) : OpR X (compareOp .NotIn) (rIn K true) := h ▸ op_notIn_seq
theorem call_tuple_ofk (h : X.K = K := by rfl) : CallR X (.type "tuple") (fun xs H Q => ∃ p ys, xs = [.ref p] ∧ ((SqL K H p ys ∧ ∀ l, H l = none → Q (.ref l) (upd H l (.tup ys))) ∨ (SqT K H p ys ∧ Q (.ref p) H))) := h ▸ call_tuple_of
theorem cr_allk (hc : X.calm = true) (h : X.K = K := by rfl) : CallR X (.builtin "all") (rAll K) := h ▸ cr_all hc
theorem cr_sumk (hc : X.calm = true) (h : X.K = K := by rfl) : CallR X (.builtin "sum") (rSum K) := h ▸ cr_sum hc
variable {tg l e : Expr} {tl : TE} {ta : TA} {f : Str} {pos : Pos}
theorem pi_tupk (hl : PI X tg l (iTup X.K tl)) (h : X.K = K := by rfl) : PI X tg l (iTup K tl) := h ▸ hl
theorem pi_listk (hl : PI X tg l (iList X.K tl)) (h : X.K = K := by rfl) : PI X tg l (iList K tl) := h ▸ hl
theorem pe_fldk (he : PE X (.Attribute e f pos) (tFld X.K tl f)) (h : X.K = K := by rfl) : PE X (.Attribute e f pos) (tFld K tl f) := h ▸ he
theorem e_lenk {r : TA} {es : List Expr} {p : Pos} (he : PE X (.Call (.Name "len" p) es [] pos) (tCB (fun xs H Q => ∃ p ys, xs = [.ref p] ∧ (SqL X.K H p ys ∨ SqT X.K H p ys) ∧ Q (.int ys.length) H) ta)) (h : X.K = K := by rfl) :
    PE X (.Call (.Name "len" p) es [] pos) (tCB (fun xs H Q => ∃ p ys, xs = [.ref p] ∧ (SqL K H p ys ∨ SqT K H p ys) ∧ Q (.int ys.length) H) ta) := h ▸ he
end
end N0

namespace N0
open PySem L2 PySem.Spec PyProof.Rows
/-- a pair awaited: data of the heap H0, its place -/
def Wt (K : PySem.W.Frag) (H0 H : Hp) (v : V) (d : PyData) (n : Nat) : Prop := ∃ (p : Addr) (x : V) (a : Addr) (pl : List V), v = .ref p ∧ H p = some (.tup [x, .ref a]) ∧ Dp K H0 x d ∧ H a = some (.tup pl) ∧ pl.length + nsz d ≤ n
theorem Wt.kp {K : PySem.W.Frag} {H0 H H' : Hp} {S : List Addr} {v : V} {d : PyData} {n : Nat} (k : Kp S H H') : Wt K H0 H v d n → Wt K H0 H' v d n
  | ⟨p, x, a, pl, e, h1, h2, h3, h4⟩ => ⟨p, x, a, pl, e, k.t _ _ h1, h2, k.t _ _ h3, h4⟩
inductive Wts (K : PySem.W.Frag) (H0 H : Hp) (n : Nat) : List V → List PyData → Prop
  | nil : Wts K H0 H n [] []
  | snoc {vs : List V} {ds : List PyData} {v : V} {d : PyData} : Wts K H0 H n vs ds → Wt K H0 H v d n → Wts K H0 H n (vs ++ [v]) (ds ++ [d])
theorem Wts.kp {K : PySem.W.Frag} {H0 H H' : Hp} {S : List Addr} {n : Nat} (k : Kp S H H') {vs : List V} {ds : List PyData} (h : Wts K H0 H n vs ds) : Wts K H0 H' n vs ds := by
  induction h with
  | nil => exact .nil
  | snoc _ h2 ih => exact .snoc ih (h2.kp k)
theorem Wts.len {K : PySem.W.Frag} {H0 H : Hp} {n : Nat} {vs : List V} {ds : List PyData} (h : Wts K H0 H n vs ds) : vs.length = ds.length := by
  induction h with
  | nil => rfl
  | snoc _ _ ih => simp [ih]
theorem nsz_pos (d : PyData) : 1 ≤ nsz d := by cases d <;> simp [nsz]
theorem nszAll_len : ∀ ds : List PyData, ds.length ≤ nszAll ds
  | [] => Nat.zero_le _
  | d :: ds => by have := nszAll_len ds; have := nsz_pos d; rw [List.length_cons, nszAll]; omega
theorem nszAll_mem : ∀ {ds : List PyData} {d : PyData}, d ∈ ds → nsz d ≤ nszAll ds
  | x :: ds, d, h => by
    rcases List.mem_cons.mp h with rfl | q
    · rw [nszAll]; omega
    · have := nszAll_mem q; rw [nszAll]; omega
theorem nszAll_perm {a b : List PyData} (h : a.Perm b) : nszAll a = nszAll b := by
  induction h with
  | nil => rfl
  | cons x _ ih => simp only [nszAll, ih]
  | swap x y l => simp only [nszAll]; omega
  | trans _ _ h1 h2 => rw [h1, h2]
theorem wts_pop {K : PySem.W.Frag} {H0 H : Hp} {n : Nat} {vs : List V} {ds : List PyData} (h : Wts K H0 H n vs ds) (hne : vs ≠ []) : ∃ v d vs' ds', vs = vs' ++ [v] ∧ ds = ds' ++ [d] ∧ Wt K H0 H v d n ∧ Wts K H0 H n vs' ds' := by
  cases h with
  | nil => exact absurd rfl hne
  | snoc h1 h2 => exact ⟨_, _, _, _, rfl, rfl, h2, h1⟩
def spWrong (K : PySem.W.Frag) : Sp := fun vs H Q _ => ∃ (v : V) (d : PyData), vs = [v] ∧ Dp K H v d ∧ strsOk d = true ∧ nsz d ≤ 10000 ∧
  ∀ H' r, Kp [] H H' → (wfD d = true → r = .non) → (wfD d = false → ∃ a, r = .ref a) → Q r H'
theorem small_le {n : Nat} (h : n ≤ 1000000) : n ≤ sizeLine := Nat.le_trans h (by rw [sizeLine_eq]; decide)
theorem small_lt {n : Nat} (h : n ≤ 1000000) : n < sizeLine := Nat.lt_of_le_of_lt h (by rw [sizeLine_eq]; decide)
theorem tupT {K : PySem.W.Frag} {H : Hp} {a : Addr} {xs : List V} (h : H a = some (.tup xs)) : SqT K H a xs := .inl (.inl h)
/-- the sum of two tracked tuples is a tracked tuple -/
theorem catT {K : PySem.W.Frag} {H : Hp} {a b : Addr} {xs ys : List V} {Q : VK} (ha : H a = some (.tup xs)) (hb : H b = some (.tup ys)) (hl : xs.length + ys.length ≤ 1000000)
    (q : ∀ p H', Kp [] H H' → H' p = some (.tup (xs ++ ys)) → Q (.ref p) H') : rCatA K (.ref a) (.ref b) H Q := by
  refine ⟨a, b, xs, ys, rfl, rfl, tupT ha, tupT hb, small_le hl, fun e => ?_, fun _ e => ?_, fun _ _ p hp => q p _ (Kp.new hp) upd_same⟩
  · subst e; exact q b H (Kp.refl _ _) hb
  · subst e; exact q a H (Kp.refl _ _) (by rw [List.append_nil]; exact ha)
section
variable {P : Program} {w : World} {K : PySem.W.Frag} {mg : Str → Option Value} {base : Heap} {f : Addr} {fd : FuncData}
theorem ok_wrong_place (F : Fun K "wrong_place" "wrong_place" s_wrong_place f fd) (T : Txt K mg) (D_is_node : Def P w K mg base "is_node" 2 ["value"] (spIsNode K)) (D_terms_of : Def P w K mg base "terms_of" 1 ["term"] (spTermsOf K)) :
    FnOk P w K mg base CX0 3 f fd ["value"] (spWrong K) := by
  refine F.ok sc_wrong_place (fun vs H Q E h => ?_) (fun cdv A outer s H vs Q E hr h => ?_)
  · obtain ⟨v, d, rfl, _⟩ := h
    rfl
  obtain ⟨v, d, rfl, hd, hs, hn, q⟩ := h
  have nd := sc_wrong_place.nd
  refine ⟨_, (pss_cons (ps_set (i := 1) nd rfl (Or.inl rfl) (pe_lst (pa_cons (pe_tup (pa_cons (pv 0) (pa_cons (pe_tup pa_nil) pa_nil))) pa_nil)))
      (pss_cons (ps_while PassesOwn.never (pt_cmpR (op_neNil hr.units0) (pv 1) (pe_lst pa_nil) (nomark _)) (pss_cons (ps_asg (pe_bm0 PySem.F.plainAttrs_list PySem.F.slot_list_pop PySem.F.type_list_pop mt_pop (pv 1)) (pg_tup rfl (pgs_cons (pg_name (i := 2) nd rfl (Or.inl rfl)) (pgs_cons (pg_name (i := 3) nd rfl (Or.inl rfl)) pgs_nil))))
      (pss_cons (ps_if (pt_not (pt_val (e_fn D_is_node (hr.mono (by omega)) (pa_cons (pv 2) pa_nil)))) (pss_one (ps_ret (pv 3))) pss_nil)
      (pss_cons (ps_set (i := 4) nd rfl (Or.inl rfl) (e_fn D_terms_of (hr.mono (by omega)) (pa_cons (pv 2) pa_nil)))
      (pss_one (ps_for PassesOwn.never rfl (pi_range3 rfl T.range (pa_cons (pe_op op_sub (e_len T (pa_cons (pv 4) pa_nil)) pe_int) (pa_cons (pe_un un_neg pe_int) (pa_cons (pe_un un_neg pe_int) pa_nil)))) (pg_name (i := 5) nd rfl (Or.inl rfl)) (pss_one (ps_expr (pe_bm PySem.F.plainAttrs_list PySem.F.slot_list_append PySem.F.type_list_append mt_append (pv 1) (pa_cons (pe_tup (pa_cons (pe_ix ix_tup (pv 4) (pv 5) (fun _ _ => rfl)) (pa_cons (pe_op op_catA (pv 3) (pe_tup (pa_cons (pv 5) pa_nil))) pa_nil))) pa_nil))))))))))
      (pss_one (ps_ret pe_non)))), ?_⟩
  refine ⟨_, rfl, Nat.zero_le _, fun e0 he => ⟨small_le (by simp), fun p0 hp => ⟨small_le (by simp), fun L hL => ?_⟩⟩⟩
  have k0 : Kp [] H (upd (upd (upd H e0 (.tup [])) p0 (.tup [v, .ref e0])) L (.lst [.ref p0])) := ((Kp.new he).add hp).add hL
  have hp0 : (upd (upd (upd H e0 (.tup [])) p0 (.tup [v, .ref e0])) L (.lst [.ref p0])) p0 = some (.tup [v, .ref e0]) := by
    rw [upd_ne (ne_of_none upd_same hL)]; exact upd_same
  have he0 : (upd (upd (upd H e0 (.tup [])) p0 (.tup [v, .ref e0])) L (.lst [.ref p0])) e0 = some (.tup []) := by
    have h1 : (upd (upd H e0 (.tup [])) p0 (.tup [v, .ref e0])) e0 = some (.tup []) := by rw [upd_ne (ne_of_none upd_same hp)]; exact upd_same
    rw [upd_ne (ne_of_none h1 hL)]; exact h1
  have hLn : H L = none := ((Kp.new (S := []) he).add hp).n _ hL
  refine ⟨fun m σ H' => ∃ (ws : List V) (ds : List PyData) (o2 o3 o4 o5 : Option V), σ = [some v, some (.ref L), o2, o3, o4, o5] ∧ Kp [] H H' ∧ H' L = some (.lst ws) ∧ Wts K H H' (nsz d) ws ds ∧ (∀ x ∈ ds, strsOk x = true) ∧ wfD d = wfAll ds ∧ nszAll ds ≤ nsz d ∧ m = nszAll ds,
    ⟨_, [.ref p0], [d], none, none, none, none, rfl, k0, upd_same, .snoc .nil ⟨p0, v, e0, [], rfl, hp0, hd, he0, by simp⟩, by simpa using hs, by simp [wfAll], by simp [nszAll], rfl⟩, ?_⟩
  rintro m σ H1 ⟨ws, ds, o2, o3, o4, o5, rfl, k1, hL1, hW, hS, hwf, hsz, rfl⟩
  have hlen : ws.length ≤ 10000 := by have := hW.len; have := nszAll_len ds; omega
  refine ⟨_, rfl, Nat.zero_le _, fun e1 he1 => ?_⟩
  have k2 : Kp [] H1 (upd H1 e1 (.lst [])) := Kp.new he1
  have hL2 : upd H1 e1 (.lst []) L = some (.lst ws) := k2.k _ _ (by simp) hL1
  refine ⟨L, e1, ws, rfl, rfl, SqL.of hL2, SqL.of upd_same, _, rfl, ?_⟩
  refine ite2 (fun c => ?_) (fun c => ?_)
  · have hne : ws ≠ [] := by intro e; subst e; cases c
    obtain ⟨x, d0, ws', ds', rfl, rfl, hx, hW'⟩ := wts_pop hW hne
    obtain ⟨p, y, a, pl, rfl, hp1, hy, ha1, hpl⟩ := hx.kp k2
    refine ⟨fun σ' H' => ∃ m', m' < nszAll (ds' ++ [d0]) ∧ ∃ (ws : List V) (ds : List PyData) (o2 o3 o4 o5 : Option V), σ' = [some v, some (.ref L), o2, o3, o4, o5] ∧ Kp [] H H' ∧ H' L = some (.lst ws) ∧ Wts K H H' (nsz d) ws ds ∧ (∀ x ∈ ds, strsOk x = true) ∧ wfD d = wfAll ds ∧ nszAll ds ≤ nsz d ∧ m' = nszAll ds, fun σ' H' h => h, ?_⟩
    refine ⟨_, rfl, .inl ⟨rfl, _, SqL.of hL2⟩, L, _, .ref p, rfl, rfl, hL2, by simp, ?_⟩
    rw [List.dropLast_concat]
    have k3 : Kp [] H (upd (upd H1 e1 (.lst [])) L (.lst ws')) := (k1.trans k2).put hLn
    have kL : Kp [L] (upd H1 e1 (.lst [])) (upd (upd H1 e1 (.lst [])) L (.lst ws')) := (Kp.refl _ _).wr (by simp) hL2 (by intro xs z; cases z)
    have hp3 := kL.t _ _ hp1
    have ha3 := kL.t _ _ ha1
    have hW3 := (hW'.kp k2).kp kL
    generalize hH3 : upd (upd H1 e1 (.lst [])) L (.lst ws') = H3 at k3 hp3 ha3 hW3 ⊢
    have hL3 : H3 L = some (.lst ws') := by rw [← hH3]; exact upd_same
    refine ⟨p, _, rfl, tupT hp3, rfl, _, _, rfl, _, _, rfl, rfl, ?_⟩
    have hs0 : strsOk d0 = true := hS d0 (by simp)
    refine ⟨_, rfl, y, d0, rfl, Dp.kp k3 hy, hs0, fun H4 k4 => ⟨_, rfl, ?_⟩⟩
    have k04 := k3.trans k4
    rw [nszAll_app, nszAll, nszAll] at hsz
    rw [wfAll_app, wfAll, wfAll, Bool.and_true] at hwf
    refine ite2 (fun c2 => ?_) (fun c2 => ?_)
    · -- not a node: its place
      have hw0 : wfD d = false := by
        rw [hwf, wfD_eq d0]
        simp only [Bool.not_eq_true'] at c2
        rw [c2]; simp
      refine ⟨_, rfl, q _ _ k04 (fun z => by rw [hw0] at z; cases z) (fun _ => ⟨a, rfl⟩)⟩
    · simp only [Bool.not_eq_true', Bool.not_eq_false] at c2
      obtain ⟨k, r, rfl⟩ : ∃ k r, d0 = .tuple (.str k :: r) := by
        cases d0 <;> try simp [isNodeD] at c2
        rename_i zs
        cases zs with
        | nil => simp [isNodeD, isNodeL] at c2
        | cons z zs => cases z <;> simp [isNodeD, isNodeL] at c2; exact ⟨_, _, rfl⟩
      cases hy with
      | @tup ay xs _ hty hay =>
      cases hay with
      | @cons x0 xr _ _ hx0 hxr =>
      cases hx0
      refine ⟨_, rfl, ay, k, xr, rfl, N0.SqT.kp k04 hty, fun H5 b k5 hb => ?_⟩
      have k05 := k04.trans k5
      have hW5 := (hW3.kp k4).kp k5
      have hL5 : H5 L = some (.lst ws') := k5.k _ _ (by simp) (k4.k _ _ (by simp) hL3)
      have ha5 := k5.t _ _ (k4.t _ _ ha3)
      -- the kids
      obtain ⟨ks, hks, hkd⟩ : ∃ ks, (if hasKids k = true then xr else []) = ks ∧ DpAll K H ks (kidsD (.tuple (.str k :: r))) := by
        refine ⟨_, rfl, ?_⟩
        rw [kidsD]
        split
        · exact hxr
        · exact .nil
      rw [hks] at hb
      have hkl := dpAll_len hkd
      have hkn := kids_nsz (.tuple (.str k :: r))
      have hkk := nszAll_len (kidsD (.tuple (.str k :: r)))
      refine ⟨_, rfl, b, _, rfl, .inr hb, _, _, rfl, rfl, _, rfl, _, rfl, _, _, _, _, rfl, RgC.neg (by omega) (by omega) (by decide) (by decide), ?_⟩
      have hn' : ((ks.length : Int) - 1 - (-1)).toNat = ks.length := by omega
      rw [hn']
      refine for_rangeC (lo := (ks.length : Int) - 1) (c := -1) (n := ks.length) (fun i σ H' => ∃ (ws : List V) (o5 : Option V), σ = [some v, some (.ref L), some (.ref ay), some (.ref a), some (.ref b), o5] ∧ Kp [] H H' ∧ Kp [L] H5 H' ∧ H' L = some (.lst ws) ∧ Wts K H H' (nsz d) ws (ds' ++ (kidsD (.tuple (.str k :: r))).reverse.take i))
        ⟨ws', _, rfl, k05, Kp.refl _ _, hL5, by simpa using hW5⟩ ?_ ?_
      · rintro i σ H6 hi ⟨ws6, o5, rfl, k6, k56, hL6, hW6⟩
        obtain ⟨dk, hdk⟩ : ∃ dk, (kidsD (.tuple (.str k :: r)))[ks.length - 1 - i]? = some dk := ⟨_, List.getElem?_eq_getElem (by omega)⟩
        obtain ⟨xk, hxk, hxd⟩ := dpAll_get hkd hdk
        have ha6 := k56.t _ _ ha5
        have hb6 : SqT K H6 b ks := by
          rcases hb with (hb | ⟨o, hb⟩) | hb
          · exact .inl (.inl (k56.t _ _ hb))
          · refine .inl (.inr ⟨o, k56.k _ _ ?_ hb⟩)
            intro z
            simp only [List.mem_singleton] at z
            rw [z, hL5] at hb; cases hb
          · exact .inr hb
        have hnum : (ks.length : Int) - 1 + (i : Int) * -1 = ((ks.length - 1 - i : Nat) : Int) := by omega
        refine ⟨_, rfl, .inl ⟨rfl, _, SqL.of hL6⟩, _, rfl, _, rfl, b, ks, _, xk, rfl, rfl, hb6, by rw [hnum]; exact atI_nat hxk, _, rfl, _, rfl, small_le (by simp), fun p7 hp7 => ?_⟩
        have k7 : Kp [] H6 (upd H6 p7 (.tup [.int ((ks.length : Int) - 1 + (i : Int) * -1)])) := Kp.new hp7
        refine catT (k7.t _ _ ha6) upd_same (by simp; omega) fun p8 H8 k8 hp8 => ⟨small_le (by simp), fun p9 hp9 => ?_⟩
        have k69 := (k7.trans k8).add hp9 (o := .tup [xk, .ref p8])
        have hL9 := k69.k _ _ (by simp) hL6
        refine ⟨L, ws6, _, rfl, rfl, hL9, ?_, ?_⟩
        · have h1 := hW6.len
          have h2 := nszAll_len ds'
          refine small_lt ?_
          rw [h1, List.length_append, List.length_take, List.length_reverse]
          omega
        · have kw : Kp [L] (upd H8 p9 (.tup [xk, .ref p8])) (upd (upd H8 p9 (.tup [xk, .ref p8])) L (.lst (ws6 ++ [.ref p9]))) := (Kp.refl _ _).wr (by simp) hL9 (by intro xs z; cases z)
          refine ⟨_, _, rfl, (k6.trans k69).put hLn, (k56.trans k69.mono0).trans kw, upd_same, ?_⟩
          have e9 : (kidsD (.tuple (.str k :: r))).reverse.take (i + 1) = (kidsD (.tuple (.str k :: r))).reverse.take i ++ [dk] := by
            rw [List.take_add_one]
            have : (kidsD (.tuple (.str k :: r))).reverse[i]? = some dk := by
              rw [List.getElem?_reverse (by omega), ← hkl]; exact hdk
            rw [this]; rfl
          rw [e9, ← List.append_assoc]
          refine .snoc ((hW6.kp k69).kp kw) ⟨p9, xk, p8, _, rfl, kw.t _ _ upd_same, hxd, kw.t _ _ (((Kp.refl [] _).add hp9).t _ _ hp8), ?_⟩
          have := nszAll_mem (List.mem_of_getElem? hdk)
          simp only [List.length_append, List.length_singleton]
          omega
      · rintro σ H6 ⟨ws6, o5, rfl, k6, k56, hL6, hW6⟩
        rw [List.take_of_length_le (by simp; omega)] at hW6
        have hrev : nszAll (kidsD (.tuple (.str k :: r))).reverse = nszAll (kidsD (.tuple (.str k :: r))) := nszAll_perm (List.reverse_perm _)
        refine ⟨nszAll (ds' ++ (kidsD (.tuple (.str k :: r))).reverse), ?_, ws6, _, _, _, _, _, rfl, k6, hL6, hW6, ?_, ?_, ?_, rfl⟩
        · rw [nszAll_app, nszAll_app, hrev]; simp only [nszAll]; omega
        · intro x hx
          rcases List.mem_append.mp hx with h | h
          · exact hS x (by simp [h])
          · exact kids_strs hs0 x (by simpa using h)
        · have e1 : wfAll (kidsD (.tuple (.str k :: r))).reverse = wfAll (kidsD (.tuple (.str k :: r))) := by
            rw [Bool.eq_iff_iff, wfAll_iff, wfAll_iff]; simp
          rw [hwf, wfAll_app, e1, wfD_eq (.tuple (.str k :: r)), c2]; simp
        · rw [nszAll_app, hrev]; omega
  · have e : ws = [] := by
      cases ws with
      | nil => rfl
      | cons z zs => exact absurd rfl c
    subst e
    have : ds = [] := by have := hW.len; exact List.length_eq_zero_iff.mp this.symm
    subst this
    exact q _ _ (k1.trans k2) (fun _ => rfl) (fun z => by rw [hwf] at z; cases z)
end
end N0

namespace N0
open PySem L2 PySem.Spec PyProof.Rows
namespace Tm
def wd : Tm → Str
  | .yes => "yes" | .no => "no" | .letter _ => "letter" | .not _ => "not" | .and _ _ => "and" | .or _ _ => "or"
def nok : Tm → Bool
  | .letter s => nmOk s
  | .not a => a.nok
  | .and a b => a.nok && b.nok
  | .or a b => a.nok && b.nok
  | _ => true
def toD : Tm → PyData
  | .yes => .tuple [.str "yes"]
  | .no => .tuple [.str "no"]
  | .letter s => .tuple [.str "letter", .str s]
  | .not a => .tuple [.str "not", a.toD]
  | .and a b => .tuple [.str "and", a.toD, b.toD]
  | .or a b => .tuple [.str "or", a.toD, b.toD]
end Tm
/-- the term stands at the value -/
def TmV (H : Hp) : Tm → V → Prop
  | .yes, v => ∃ a, v = .ref a ∧ H a = some (.tup [.str "yes"])
  | .no, v => ∃ a, v = .ref a ∧ H a = some (.tup [.str "no"])
  | .letter s, v => ∃ a, v = .ref a ∧ H a = some (.tup [.str "letter", .str s])
  | .not t, v => ∃ a x, v = .ref a ∧ H a = some (.tup [.str "not", x]) ∧ TmV H t x
  | .and t u, v => ∃ a x y, v = .ref a ∧ H a = some (.tup [.str "and", x, y]) ∧ TmV H t x ∧ TmV H u y
  | .or t u, v => ∃ a x y, v = .ref a ∧ H a = some (.tup [.str "or", x, y]) ∧ TmV H t x ∧ TmV H u y
def TmVs (H : Hp) : List Tm → List V → Prop
  | [], [] => True
  | t :: ts, v :: vs => TmV H t v ∧ TmVs H ts vs
  | _, _ => False
theorem TmV.kp {S : List Addr} {H H' : Hp} (k : Kp S H H') : ∀ {t : Tm} {v : V}, TmV H t v → TmV H' t v
  | .yes, _, ⟨a, e, h⟩ => ⟨a, e, k.t _ _ h⟩
  | .no, _, ⟨a, e, h⟩ => ⟨a, e, k.t _ _ h⟩
  | .letter s, _, ⟨a, e, h⟩ => ⟨a, e, k.t _ _ h⟩
  | .not t, _, ⟨a, x, e, h, h1⟩ => ⟨a, x, e, k.t _ _ h, TmV.kp k h1⟩
  | .and t u, _, ⟨a, x, y, e, h, h1, h2⟩ => ⟨a, x, y, e, k.t _ _ h, TmV.kp k h1, TmV.kp k h2⟩
  | .or t u, _, ⟨a, x, y, e, h, h1, h2⟩ => ⟨a, x, y, e, k.t _ _ h, TmV.kp k h1, TmV.kp k h2⟩
theorem TmVs.kp {S : List Addr} {H H' : Hp} (k : Kp S H H') : ∀ {ts : List Tm} {vs : List V}, TmVs H ts vs → TmVs H' ts vs
  | [], [], _ => trivial
  | _ :: _, _ :: _, ⟨h, r⟩ => ⟨TmV.kp k h, TmVs.kp k r⟩
theorem TmVs.len {H : Hp} : ∀ {ts : List Tm} {vs : List V}, TmVs H ts vs → vs.length = ts.length
  | [], [], _ => rfl
  | _ :: ts, _ :: vs, ⟨_, r⟩ => by rw [List.length_cons, List.length_cons, TmVs.len r]
theorem TmVs.get {H : Hp} : ∀ {ts : List Tm} {vs : List V} {i : Nat} {v : V}, TmVs H ts vs → vs[i]? = some v → ∃ t, ts[i]? = some t ∧ TmV H t v
  | [], [], _, _, _, h => by simp at h
  | t :: _, v :: _, 0, _, ⟨h, _⟩, e => by simp at e; subst e; exact ⟨t, rfl, h⟩
  | _ :: ts, _ :: vs, i + 1, _, ⟨_, r⟩, e => by
    obtain ⟨t, h1, h2⟩ := TmVs.get (i := i) r (by simpa using e)
    exact ⟨t, by simpa using h1, h2⟩
theorem TmVs.at {H : Hp} : ∀ {ts : List Tm} {vs : List V} {i : Nat} {t : Tm}, TmVs H ts vs → ts[i]? = some t → ∃ v, vs[i]? = some v ∧ TmV H t v
  | [], [], _, _, _, h => by simp at h
  | _ :: _, v :: _, 0, _, ⟨h, _⟩, e => by simp at e; subst e; exact ⟨v, rfl, h⟩
  | _ :: ts, _ :: vs, i + 1, _, ⟨_, r⟩, e => by
    obtain ⟨t, h1, h2⟩ := TmVs.at (i := i) r (by simpa using e)
    exact ⟨t, by simpa using h1, h2⟩
theorem TmVs.snoc {H : Hp} : ∀ {ts : List Tm} {vs : List V} {t : Tm} {v : V}, TmVs H ts vs → TmV H t v → TmVs H (ts ++ [t]) (vs ++ [v])
  | [], [], _, _, _, h => ⟨h, trivial⟩
  | _ :: _, _ :: _, _, _, ⟨h1, r⟩, h => ⟨h1, TmVs.snoc r h⟩
theorem TmV.dp {K : PySem.W.Frag} {H : Hp} : ∀ {t : Tm} {v : V}, TmV H t v → Dp K H v t.toD
  | .yes, _, ⟨a, e, h⟩ => by subst e; exact .tup (tupT h) (.cons (.str _) .nil)
  | .no, _, ⟨a, e, h⟩ => by subst e; exact .tup (tupT h) (.cons (.str _) .nil)
  | .letter s, _, ⟨a, e, h⟩ => by subst e; exact .tup (tupT h) (.cons (.str _) (.cons (.str _) .nil))
  | .not t, _, ⟨a, x, e, h, h1⟩ => by subst e; exact .tup (tupT h) (.cons (.str _) (.cons (TmV.dp h1) .nil))
  | .and t u, _, ⟨a, x, y, e, h, h1, h2⟩ => by subst e; exact .tup (tupT h) (.cons (.str _) (.cons (TmV.dp h1) (.cons (TmV.dp h2) .nil)))
  | .or t u, _, ⟨a, x, y, e, h, h1, h2⟩ => by subst e; exact .tup (tupT h) (.cons (.str _) (.cons (TmV.dp h1) (.cons (TmV.dp h2) .nil)))
theorem hk_letter : ¬ hasKids "letter" = true := by decide +kernel
theorem hk_not : hasKids "not" = true := by decide +kernel
theorem hk_and : hasKids "and" = true := by decide +kernel
theorem hk_or : hasKids "or" = true := by decide +kernel
/-- a node: its word, what stands behind it, its kids -/
theorem TmV.node {H : Hp} : ∀ {t : Tm} {v : V}, TmV H t v → ∃ a xs ks, v = .ref a ∧ H a = some (.tup (.str t.wd :: xs)) ∧ (if hasKids t.wd = true then xs else []) = ks ∧ TmVs H t.kids ks
  | .yes, _, ⟨a, e, h⟩ => ⟨a, [], [], e, h, rfl, trivial⟩
  | .no, _, ⟨a, e, h⟩ => ⟨a, [], [], e, h, rfl, trivial⟩
  | .letter s, _, ⟨a, e, h⟩ => ⟨a, [.str s], [], e, h, if_neg hk_letter, trivial⟩
  | .not t, _, ⟨a, x, e, h, h1⟩ => ⟨a, [x], [x], e, h, if_pos hk_not, h1, trivial⟩
  | .and t u, _, ⟨a, x, y, e, h, h1, h2⟩ => ⟨a, [x, y], [x, y], e, h, if_pos hk_and, h1, h2, trivial⟩
  | .or t u, _, ⟨a, x, y, e, h, h1, h2⟩ => ⟨a, [x, y], [x, y], e, h, if_pos hk_or, h1, h2, trivial⟩
theorem nm8 {s : Str} (h : nmOk s = true) : s.length ≤ 8 := by
  unfold nmOk at h
  simp only [Bool.and_eq_true, decide_eq_true_eq] at h
  exact h.1.1.2
theorem wf_toD : ∀ t : Tm, wfD t.toD = t.nok
  | .yes => by decide +kernel
  | .no => by decide +kernel
  | .letter s => by
    rw [wfD_eq]
    have e : kidsD (Tm.toD (.letter s)) = [] := by
      show (if hasKids "letter" = true then [PyData.str s] else []) = []
      exact if_neg hk_letter
    rw [e]
    have e2 : isNodeD (Tm.toD (.letter s)) = isNodeL [.str "letter", .str s] := rfl
    rw [e2]
    simp only [isNodeL]
    rw [if_neg (by decide +kernel), if_pos (by simp)]
    simp [isNameD, wfAll, Tm.nok]
  | .not a => by
    rw [wfD_eq]
    have e : kidsD (Tm.toD (.not a)) = [a.toD] := by
      show (if hasKids "not" = true then [a.toD] else []) = [a.toD]
      exact if_pos hk_not
    have e2 : isNodeD (Tm.toD (.not a)) = true := by
      show isNodeL [.str "not", a.toD] = true
      simp only [isNodeL]
      rw [if_neg (by decide +kernel), if_neg (by decide +kernel)]
      simp
    rw [e, e2, wfAll, wfAll, wf_toD a]; simp [Tm.nok]
  | .and a b => by
    rw [wfD_eq]
    have e : kidsD (Tm.toD (.and a b)) = [a.toD, b.toD] := by
      show (if hasKids "and" = true then [a.toD, b.toD] else []) = [a.toD, b.toD]
      exact if_pos hk_and
    have e2 : isNodeD (Tm.toD (.and a b)) = true := by
      show isNodeL [.str "and", a.toD, b.toD] = true
      simp only [isNodeL]
      rw [if_neg (by decide +kernel), if_neg (by decide +kernel)]
      have : inV (V.str "and") [.str "and", .str "or"] = true := by decide +kernel
      rw [this]; simp
    rw [e, e2, wfAll, wfAll, wfAll, wf_toD a, wf_toD b]; simp [Tm.nok]
  | .or a b => by
    rw [wfD_eq]
    have e : kidsD (Tm.toD (.or a b)) = [a.toD, b.toD] := by
      show (if hasKids "or" = true then [a.toD, b.toD] else []) = [a.toD, b.toD]
      exact if_pos hk_or
    have e2 : isNodeD (Tm.toD (.or a b)) = true := by
      show isNodeL [.str "or", a.toD, b.toD] = true
      simp only [isNodeL]
      rw [if_neg (by decide +kernel), if_neg (by decide +kernel)]
      have : inV (V.str "or") [.str "and", .str "or"] = true := by decide +kernel
      rw [this]; simp
    rw [e, e2, wfAll, wfAll, wfAll, wf_toD a, wf_toD b]; simp [Tm.nok]
theorem strs_toD : ∀ t : Tm, t.nok = true → strsOk t.toD = true
  | .yes, _ => by decide +kernel
  | .no, _ => by decide +kernel
  | .letter s, h => by
    have := nm8 (show nmOk s = true from h)
    simp only [Tm.toD, strsOk, strsOkAll, Bool.and_true, Bool.and_eq_true, decide_eq_true_eq]
    exact ⟨by decide +kernel, by omega⟩
  | .not a, h => by
    simp only [Tm.toD, strsOk, strsOkAll, Bool.and_true, Bool.and_eq_true, decide_eq_true_eq]
    exact ⟨by decide +kernel, strs_toD a h⟩
  | .and a b, h => by
    simp only [Tm.nok, Bool.and_eq_true] at h
    simp only [Tm.toD, strsOk, strsOkAll, Bool.and_true, Bool.and_eq_true, decide_eq_true_eq]
    exact ⟨by decide +kernel, strs_toD a h.1, strs_toD b h.2⟩
  | .or a b, h => by
    simp only [Tm.nok, Bool.and_eq_true] at h
    simp only [Tm.toD, strsOk, strsOkAll, Bool.and_true, Bool.and_eq_true, decide_eq_true_eq]
    exact ⟨by decide +kernel, strs_toD a h.1, strs_toD b h.2⟩
theorem nsz_toD : ∀ t : Tm, nsz t.toD ≤ 3 * t.size
  | .yes => by decide +kernel
  | .no => by decide +kernel
  | .letter s => by simp [Tm.toD, nsz, nszAll, Tm.size]
  | .not a => by have := nsz_toD a; simp only [Tm.toD, nsz, nszAll, Tm.size]; omega
  | .and a b => by have := nsz_toD a; have := nsz_toD b; simp only [Tm.toD, nsz, nszAll, Tm.size]; omega
  | .or a b => by have := nsz_toD a; have := nsz_toD b; simp only [Tm.toD, nsz, nszAll, Tm.size]; omega
end N0

namespace N0
open PySem L2 PySem.Spec PyProof.Rows
/-! ### size and depth by a pile -/
def szA : List (Tm × Nat) → Nat
  | [] => 0
  | p :: r => p.1.size + szA r
def mxA : List (Tm × Nat) → Nat
  | [] => 0
  | p :: r => max (p.2 + p.1.dep) (mxA r)
theorem szA_app : ∀ a b, szA (a ++ b) = szA a + szA b
  | [], b => by simp [szA]
  | p :: a, b => by rw [List.cons_append, szA, szA, szA_app a b]; omega
theorem mxA_app : ∀ a b, mxA (a ++ b) = max (mxA a) (mxA b)
  | [], b => by simp [mxA]
  | p :: a, b => by rw [List.cons_append, mxA, mxA, mxA_app a b]; omega
theorem szA_len : ∀ a, a.length ≤ szA a
  | [] => Nat.zero_le _
  | p :: a => by have := szA_len a; have := p.1.size_pos; rw [List.length_cons, szA]; omega
theorem kids_sz (t : Tm) (n : Nat) : szA (t.kids.map fun u => (u, n)) + 1 = t.size := by
  cases t <;> simp [Tm.kids, szA, Tm.size]
  all_goals omega
theorem kids_mx (t : Tm) (n : Nat) : max n (mxA (t.kids.map fun u => (u, n + 1))) = n + t.dep := by
  cases t <;> simp [Tm.kids, mxA, Tm.dep]
  all_goals omega
def WtT (H0 H : Hp) (v : V) (p : Tm × Nat) : Prop := ∃ (a : Addr) (x : V), v = .ref a ∧ H a = some (.tup [x, .int (p.2 : Int)]) ∧ TmV H0 p.1 x
theorem WtT.kp {H0 H H' : Hp} {S : List Addr} {v : V} {p : Tm × Nat} (k : Kp S H H') : WtT H0 H v p → WtT H0 H' v p
  | ⟨a, x, e, h1, h2⟩ => ⟨a, x, e, k.t _ _ h1, h2⟩
inductive WtTs (H0 H : Hp) : List V → List (Tm × Nat) → Prop
  | nil : WtTs H0 H [] []
  | snoc {vs : List V} {ds : List (Tm × Nat)} {v : V} {d : Tm × Nat} : WtTs H0 H vs ds → WtT H0 H v d → WtTs H0 H (vs ++ [v]) (ds ++ [d])
theorem WtTs.kp {H0 H H' : Hp} {S : List Addr} (k : Kp S H H') {vs : List V} {ds : List (Tm × Nat)} (h : WtTs H0 H vs ds) : WtTs H0 H' vs ds := by
  induction h with
  | nil => exact .nil
  | snoc _ h2 ih => exact .snoc ih (h2.kp k)
theorem WtTs.len {H0 H : Hp} {vs : List V} {ds : List (Tm × Nat)} (h : WtTs H0 H vs ds) : vs.length = ds.length := by
  induction h with
  | nil => rfl
  | snoc _ _ ih => simp [ih]
theorem WtTs.app {H0 H : Hp} {vs vs' : List V} {ds ds' : List (Tm × Nat)} (h : WtTs H0 H vs ds) (h' : WtTs H0 H vs' ds') : WtTs H0 H (vs ++ vs') (ds ++ ds') := by
  induction h' with
  | nil => simpa using h
  | snoc _ h2 ih => rw [← List.append_assoc, ← List.append_assoc]; exact .snoc ih h2
theorem wtT_pop {H0 H : Hp} {vs : List V} {ds : List (Tm × Nat)} (h : WtTs H0 H vs ds) (hne : vs ≠ []) : ∃ v d vs' ds', vs = vs' ++ [v] ∧ ds = ds' ++ [d] ∧ WtT H0 H v d ∧ WtTs H0 H vs' ds' := by
  cases h with
  | nil => exact absurd rfl hne
  | snoc h1 h2 => exact ⟨_, _, _, _, rfl, rfl, h2, h1⟩
def spSD : Sp := fun vs H Q _ => ∃ (v : V) (t : Tm), vs = [v] ∧ TmV H t v ∧ t.size ≤ 10000 ∧
  ∀ H' a, Kp [] H H' → H' a = some (.tup [.int (t.size : Int), .int (t.dep : Int)]) → Q (.ref a) H'
section
variable {P : Program} {w : World} {K : PySem.W.Frag} {mg : Str → Option Value} {base : Heap} {f : Addr} {fd : FuncData}
theorem ok_size_and_depth (F : Fun K "size_and_depth" "size_and_depth" s_size_and_depth f fd) (T : Txt K mg) (D_terms_of : Def P w K mg base "terms_of" 1 ["term"] (spTermsOf K)) :
    FnOk P w K mg base CX0 2 f fd ["term"] spSD := by
  refine F.ok sc_size_and_depth (fun vs H Q E h => ?_) (fun cdv A outer s H vs Q E hr h => ?_)
  · obtain ⟨v, d, rfl, _⟩ := h
    rfl
  obtain ⟨v, t, rfl, ht, hn, q⟩ := h
  have nd := sc_size_and_depth.nd
  refine ⟨_, (pss_cons (ps_par3 (i := 1) (j := 2) (l := 3) rfl nd rfl rfl rfl (by decide) (by decide) (by decide) rfl rfl rfl (pa_cons pe_int (pa_cons pe_int (pa_cons (pe_lst (pa_cons (pe_tup (pa_cons (pv 0) (pa_cons pe_int pa_nil))) pa_nil)) pa_nil))) rfl)
      (pss_cons (ps_while PassesOwn.never (pt_cmpR (op_neNil hr.units0) (pv 3) (pe_lst pa_nil) (nomark _)) (pss_cons (ps_asg (pe_bm0 PySem.F.plainAttrs_list PySem.F.slot_list_pop PySem.F.type_list_pop mt_pop (pv 3)) (pg_tup rfl (pgs_cons (pg_name (i := 4) nd rfl (Or.inl rfl)) (pgs_cons (pg_name (i := 5) nd rfl (Or.inr rfl)) pgs_nil))))
      (pss_cons (ps_par (i := 1) (j := 2) rfl nd rfl rfl (by decide) rfl rfl (pa_cons (pe_op op_add (pv 1) pe_int) (pa_cons (pe_callB (call_max2 rfl) (by rfl) T.max bt_max (pa_cons (pv 2) (pa_cons (pv 5) pa_nil))) pa_nil)) rfl)
      (pss_one (ps_expr (pe_bm PySem.F.plainAttrs_list PySem.F.slot_list_extend PySem.F.type_list_extend mt_extend (pv 3) (pa_cons (pe_lc (own := [("inner", 6)]) (g := gName 6) (tt := tYes) rfl nd (pi_tup (e_fn D_terms_of (hr.mono (by omega)) (pa_cons (pv 4) pa_nil))) (blkOk_by (N := N_size_and_depth) (sc := defScope s_size_and_depth) (by decide +kernel)) (fun _ _ _ _ _ => pg_name (i := 6) nd rfl (Or.inl rfl)) (fun _ _ _ _ _ => pts_nil) (fun _ _ _ _ _ => (pe_tup (pa_cons (pv 6) (pa_cons (pe_op op_add (pv 5) pe_int) pa_nil))))) pa_nil)))))))
      (pss_one (ps_ret (pe_tup (pa_cons (pv 1) (pa_cons (pv 2) pa_nil))))))), ?_⟩
  refine ⟨_, rfl, small_le (by simp), fun p0 hp => ⟨small_le (by simp), fun L hL => ⟨_, _, _, rfl, ?_⟩⟩⟩
  have k0 : Kp [] H (upd (upd H p0 (.tup [v, .int 0])) L (.lst [.ref p0])) := (Kp.new hp).add hL
  have hp0 : (upd (upd H p0 (.tup [v, .int 0])) L (.lst [.ref p0])) p0 = some (.tup [v, .int 0]) := by
    rw [upd_ne (ne_of_none upd_same hL)]; exact upd_same
  have hLn : H L = none := (Kp.new (S := []) hp).n _ hL
  refine ⟨fun m σ H' => ∃ (ws : List V) (ds : List (Tm × Nat)) (z dp : Nat) (o4 o5 o6 : Option V), σ = [some v, some (.int (z : Int)), some (.int (dp : Int)), some (.ref L), o4, o5, o6] ∧ Kp [] H H' ∧ H' L = some (.lst ws) ∧ WtTs H H' ws ds ∧ z + szA ds = t.size ∧ max dp (mxA ds) = t.dep ∧ m = szA ds,
    ⟨_, [.ref p0], [(t, 0)], 0, 0, none, none, none, rfl, k0, upd_same, .snoc .nil ⟨p0, v, rfl, hp0, ht⟩, by simp [szA], by simp [mxA], rfl⟩, ?_⟩
  rintro m σ H1 ⟨ws, ds, z, dp, o4, o5, o6, rfl, k1, hL1, hW, hsz, hmx, rfl⟩
  have hlen : ws.length ≤ 10000 := by have := hW.len; have := szA_len ds; omega
  refine ⟨_, rfl, Nat.zero_le _, fun e1 he1 => ?_⟩
  have k2 : Kp [] H1 (upd H1 e1 (.lst [])) := Kp.new he1
  have hL2 : upd H1 e1 (.lst []) L = some (.lst ws) := k2.k _ _ (by simp) hL1
  refine ⟨L, e1, ws, rfl, rfl, SqL.of hL2, SqL.of upd_same, _, rfl, ?_⟩
  refine ite2 (fun c => ?_) (fun c => ?_)
  · have hne : ws ≠ [] := by intro e; subst e; cases c
    obtain ⟨x, ⟨u, at'⟩, ws', ds', rfl, rfl, hx, hW'⟩ := wtT_pop hW hne
    obtain ⟨p, y, rfl, hp1, hy⟩ := hx.kp k2
    refine ⟨fun σ' H' => ∃ m', m' < szA (ds' ++ [(u, at')]) ∧ ∃ (ws : List V) (ds : List (Tm × Nat)) (z dp : Nat) (o4 o5 o6 : Option V), σ' = [some v, some (.int (z : Int)), some (.int (dp : Int)), some (.ref L), o4, o5, o6] ∧ Kp [] H H' ∧ H' L = some (.lst ws) ∧ WtTs H H' ws ds ∧ z + szA ds = t.size ∧ max dp (mxA ds) = t.dep ∧ m' = szA ds, fun σ' H' h => h, ?_⟩
    refine ⟨_, rfl, .inl ⟨rfl, _, SqL.of hL2⟩, L, _, .ref p, rfl, rfl, hL2, by simp, ?_⟩
    rw [List.dropLast_concat]
    have k3 : Kp [] H (upd (upd H1 e1 (.lst [])) L (.lst ws')) := (k1.trans k2).put hLn
    have kL : Kp [L] (upd H1 e1 (.lst [])) (upd (upd H1 e1 (.lst [])) L (.lst ws')) := (Kp.refl _ _).wr (by simp) hL2 (by intro xs z; cases z)
    have hp3 := kL.t _ _ hp1
    have hW3 := (hW'.kp k2).kp kL
    generalize hH3 : upd (upd H1 e1 (.lst [])) L (.lst ws') = H3 at k3 hp3 hW3 ⊢
    have hL3 : H3 L = some (.lst ws') := by rw [← hH3]; exact upd_same
    refine ⟨p, _, rfl, tupT hp3, rfl, _, _, rfl, _, _, rfl, rfl, ?_⟩
    refine ⟨_, rfl, _, _, rfl, rfl, _, rfl, _, rfl, _, _, rfl, _, _, rfl, ?_⟩
    obtain ⟨a, xs, ks, rfl, ha0, hks, hkd0⟩ := TmV.node hy
    have ha := k3.t _ _ ha0
    have hkd0 : TmVs H u.kids ks := hkd0
    have hkd := hkd0.kp k3
    refine ⟨_, rfl, .inl ⟨rfl, _, SqL.of hL3⟩, _, rfl, a, u.wd, xs, rfl, tupT ha, fun H4 b k4 hb => ?_⟩
    rw [hks] at hb
    refine ⟨b, rfl, ⟨ks, hb⟩, fun D hD => ?_⟩
    have hL4 := k4.k _ _ (by simp) hL3
    have hkl := hkd.len
    have hksz := kids_sz u (at' + 1)
    have hkll := szA_len (u.kids.map fun u => (u, at' + 1))
    rw [List.length_map] at hkll
    rw [szA_app, szA, szA] at hsz
    rw [mxA_app, mxA, mxA] at hmx
    change z + (szA ds' + (u.size + 0)) = t.size at hsz
    change max dp (max (mxA ds') (max (at' + u.dep) 0)) = t.dep at hmx
    refine lc_it (n := ks.length) walk_tup (fun i H' => Kp [] H4 H' ∧ ∃ ys, H' D = some (.lst ys) ∧ WtTs H H' ys ((u.kids.map fun u => (u, at' + 1)).take i)) ⟨Kp.new hD, [], upd_same, .nil⟩ (fun i H' _ h => N0.SqT.kp h.1 hb) ?_ ?_
    · rintro i y _ H5 hi ⟨k5, ys, hD5, hy5⟩ ⟨rfl, hyi⟩
      obtain ⟨ti, hti, htv⟩ := hkd0.get hyi
      refine ⟨rfl, ?_⟩
      refine ⟨_, rfl, _, rfl, _, _, rfl, rfl, small_le (by simp), fun p6 hp6 => ?_⟩
      have k6 : Kp [] H5 (upd H5 p6 (.tup [y, .int ((at' : Int) + 1)])) := Kp.new hp6
      have hD6 := k6.k _ _ (by simp) hD5
      refine ⟨ys, hD6, small_lt (by have := hy5.len; rw [this, List.length_take, List.length_map]; omega), (k5.trans k6).put hD, ys ++ [.ref p6], upd_same, ?_⟩
      have kD : Kp [D] (upd H5 p6 (.tup [y, .int ((at' : Int) + 1)])) (upd (upd H5 p6 (.tup [y, .int ((at' : Int) + 1)])) D (.lst (ys ++ [.ref p6]))) := (Kp.refl _ _).wr (by simp) hD6 (by intro xs z; cases z)
      rw [List.take_add_one, List.getElem?_map, hti]
      refine .snoc ((hy5.kp k6).kp kD) ⟨p6, y, rfl, kD.t _ _ ?_, ?_⟩
      · show _ = some (HO.tup [y, .int ((at' + 1 : Nat) : Int)])
        rw [Int.natCast_add]; exact upd_same
      · exact htv
    · rintro H5 ⟨k5, ys, hD5, hy5⟩
      rw [List.take_of_length_le (by rw [List.length_map]; omega)] at hy5
      have k35 := k4.trans k5
      have hL5 := k5.k _ _ (by simp) hL4
      refine ⟨L, D, ws', ys, rfl, rfl, hL5, hD5, small_le ?_, ?_⟩
      · have h1 := hW'.len; have h2 := hy5.len; have h3 := szA_len ds'
        rw [List.length_map] at h2; omega
      · have kw : Kp [L] H5 (upd H5 L (.lst (ws' ++ ys))) := (Kp.refl _ _).wr (by simp) hL5 (by intro xs z; cases z)
        have hmk := kids_mx u at'
        refine ⟨szA (ds' ++ u.kids.map fun u => (u, at' + 1)), ?_, ws' ++ ys, _, z + 1, max dp at', some (.ref a), some (.int (at' : Int)), o6, ?_, (k3.trans k35).put hLn, upd_same, ((hW3.kp k35).kp kw).app (hy5.kp kw), ?_, ?_, rfl⟩
        · rw [szA_app, szA_app, szA, szA]; show szA ds' + _ < szA ds' + (u.size + 0); omega
        · show [some v, some (V.int ((z : Int) + 1)), some (V.int (if (at' : Int) > (dp : Int) then (at' : Int) else (dp : Int))), some (V.ref L), some (.ref a), some (.int (at' : Int)), o6] = _
          have e1 : (z : Int) + 1 = ((z + 1 : Nat) : Int) := by omega
          have e2 : (if (at' : Int) > (dp : Int) then (at' : Int) else (dp : Int)) = ((max dp at' : Nat) : Int) := by split <;> omega
          rw [e1, e2]
        · rw [szA_app]; omega
        · rw [mxA_app]; omega
  · have e : ws = [] := by
      cases ws with
      | nil => rfl
      | cons z zs => exact absurd rfl c
    subst e
    have : ds = [] := by have := hW.len; exact List.length_eq_zero_iff.mp this.symm
    subst this
    simp only [szA, mxA] at hsz hmx
    refine ⟨_, rfl, _, rfl, small_le (by simp), fun a ha => q _ a ((k1.trans k2).add ha) ?_⟩
    have e1 : z = t.size := by omega
    have e2 : dp = t.dep := by omega
    rw [← e1, ← e2]; exact upd_same
end
end N0

namespace N0
open PySem L2 PySem.Spec PyProof.Rows
def Small (t : Tm) : Prop := t.nok = true ∧ t.size ≤ 1000 ∧ t.dep ≤ 40
def spNS : Sp := fun vs H Q _ => ∃ z d : Int, vs = [.int z, .int d] ∧ z ≤ 2000 ∧ d ≤ 40 ∧ ∀ H', Kp [] H H' → Q .non H'
def spNTA : Sp := fun vs H Q _ => ∃ (v x : V) (t : Tm), vs = [v, x] ∧ TmV H t v ∧ Small t ∧ ∀ H', Kp [] H H' → Q .non H'
def spNT : Sp := fun vs H Q _ => ∃ (v : V) (t : Tm), vs = [v] ∧ TmV H t v ∧ Small t ∧ ∀ H', Kp [] H H' → Q v H'
def spIsTerm (K : PySem.W.Frag) : Sp := fun vs H Q _ => ∃ (v : V) (d : PyData), vs = [v] ∧ Dp K H v d ∧ strsOk d = true ∧ nsz d ≤ 10000 ∧
  ((wfD d = false ∧ ∀ H', Kp [] H H' → Q (.bl false) H') ∨ ∃ t : Tm, TmV H t v ∧ Small t ∧ d = t.toD ∧ ∀ H', Kp [] H H' → Q (.bl true) H')
def spTS (f : Tm → Nat) : Sp := fun vs H Q _ => ∃ (v : V) (t : Tm), vs = [v] ∧ TmV H t v ∧ Small t ∧ ∀ H', Kp [] H H' → Q (.int (f t : Int)) H'
theorem Small.nsz {t : Tm} (h : Small t) : nsz t.toD ≤ 10000 := by have := nsz_toD t; have := h.2.1; omega
section
variable {P : Program} {w : World} {K : PySem.W.Frag} {mg : Str → Option Value} {base : Heap} {f : Addr} {fd : FuncData}
theorem ok_need_small (F : Fun K "need_small" "need_small" s_need_small f fd) (T : Txt K mg) : FnOk P w K mg base CX0 1 f fd ["size", "deep"] spNS := by
  refine F.ok sc_need_small (fun vs H Q E h => ?_) (fun cdv A outer s H vs Q E hr h => ?_)
  · obtain ⟨z, d, rfl, _⟩ := h
    rfl
  obtain ⟨z, d, rfl, hz, hd, q⟩ := h
  refine ⟨_, (pss_cons (ps_if (pt_cmpR op_gt (pv 1) (e_const T.MOST_DEEP) (nomark _)) pss_never pss_nil)
      (pss_one (ps_if (pt_cmpR op_gt (pv 0) (e_const T.MOST_SIZE) (nomark _)) pss_never pss_nil))), ?_⟩
  refine ⟨_, rfl, _, _, rfl, rfl, _, rfl, ?_⟩
  refine ite2 (fun c => absurd (of_decide_eq_true c) (by omega)) (fun _ => ?_)
  refine ⟨_, rfl, _, _, rfl, rfl, _, rfl, ?_⟩
  refine ite2 (fun c => absurd (of_decide_eq_true c) (by omega)) (fun _ => q _ (Kp.refl _ _))
theorem ok_need_term_at (F : Fun K "need_term_at" "need_term_at" s_need_term_at f fd) (T : Txt K mg) (D_wrong_place : Def P w K mg base "wrong_place" 3 ["value"] (spWrong K)) (D_size_and_depth : Def P w K mg base "size_and_depth" 2 ["term"] spSD)
    (D_need_small : Def P w K mg base "need_small" 1 ["size", "deep"] spNS) : FnOk P w K mg base CX0 4 f fd ["term", "place"] spNTA := by
  refine F.ok sc_need_term_at (fun vs H Q E h => ?_) (fun cdv A outer s H vs Q E hr h => ?_)
  · obtain ⟨v, x, t, rfl, _⟩ := h
    rfl
  obtain ⟨v, x, t, rfl, ht, hs, q⟩ := h
  have nd := sc_need_term_at.nd
  refine ⟨_, (pss_cons (ps_set (i := 2) nd rfl (Or.inl rfl) (e_fn D_wrong_place (hr.mono (by omega)) (pa_cons (pv 0) pa_nil)))
      (pss_cons (ps_if (pt_cmpR op_notN (pv 2) pe_non (nomark _)) pss_never pss_nil)
      (pss_cons (ps_asg (e_fn D_size_and_depth (hr.mono (by omega)) (pa_cons (pv 0) pa_nil)) (pg_tup rfl (pgs_cons (pg_name (i := 3) nd rfl (Or.inl rfl)) (pgs_cons (pg_name (i := 4) nd rfl (Or.inl rfl)) pgs_nil))))
      (pss_one (ps_expr (e_fn D_need_small (hr.mono (by omega)) (pa_cons (pv 3) (pa_cons (pv 4) pa_nil)))))))), ?_⟩
  refine ⟨_, rfl, v, t.toD, rfl, ht.dp, strs_toD t hs.1, hs.nsz, fun H1 r k1 h1 _ => ?_⟩
  have hr1 := h1 ((wf_toD t).trans hs.1)
  subst hr1
  refine ⟨_, rfl, rfl, _, rfl, iteF ?_⟩
  refine ⟨_, rfl, v, t, rfl, ht.kp k1, by have := hs.2.1; omega, fun H2 a k2 ha => ?_⟩
  refine ⟨a, _, rfl, tupT ha, rfl, _, _, rfl, _, _, rfl, rfl, ?_⟩
  refine ⟨_, rfl, _, rfl, _, _, rfl, by have := hs.2.1; omega, by have := hs.2.2; omega, fun H3 k3 => q _ (k1.trans (k2.trans k3))⟩
theorem ok_need_term (F : Fun K "need_term" "need_term" s_need_term f fd) (T : Txt K mg) (D_need_term_at : Def P w K mg base "need_term_at" 4 ["term", "place"] spNTA) : FnOk P w K mg base CX0 5 f fd ["term"] spNT := by
  refine F.ok sc_need_term (fun vs H Q E h => ?_) (fun cdv A outer s H vs Q E hr h => ?_)
  · obtain ⟨v, t, rfl, _⟩ := h
    rfl
  obtain ⟨v, t, rfl, ht, hs, q⟩ := h
  have nd := sc_need_term.nd
  refine ⟨_, (pss_cons (ps_expr (e_fn D_need_term_at (hr.mono (by omega)) (pa_cons (pv 0) (pa_cons (pe_tup pa_nil) pa_nil))))
      (pss_one (ps_ret (pv 0)))), ?_⟩
  refine ⟨_, rfl, Nat.zero_le _, fun e he => ⟨v, .ref e, t, rfl, ht.kp (Kp.new (S := []) he), hs, fun H1 k1 => ⟨_, rfl, q _ ((Kp.new he).trans k1)⟩⟩⟩
end
end N0

namespace N0
open PySem L2 PySem.Spec PyProof.Rows
/-! ### the lines of terms -/
def lineK (ts : List Tm) : Tm → List Key
  | .letter s => [.inr "letter", .inr s]
  | t => .inr t.wd :: t.kids.map fun k => .inl (ix ts k : Int)
def tlf (l n s : Addr) : List (Str × V) := [("lines", .ref l), ("numbers", .ref n), ("sizes", .ref s)]
theorem tlf_l (l n s : Addr) : (tlf l n s).lookup ("lines" : Str) = some (.ref l) := by with_unfolding_all rfl
theorem tlf_n (l n s : Addr) : (tlf l n s).lookup ("numbers" : Str) = some (.ref n) := by with_unfolding_all rfl
theorem tlf_s (l n s : Addr) : (tlf l n s).lookup ("sizes" : Str) = some (.ref s) := by with_unfolding_all rfl
theorem tlf_ln (l n s : Addr) : (tlf l n s).lookup ("line_number" : Str) = none := by with_unfolding_all rfl
theorem tlf_tn (l n s : Addr) : (tlf l n s).lookup ("term_number" : Str) = none := by with_unfolding_all rfl
structure TLAt (C : Addr) (H : Hp) (p l n s : Addr) (ts : List Tm) : Prop where
  dx : ∃ dx, H p = some (.ins C dx (tlf l n s))
  ls : ∃ lv : List V, H l = some (.lst lv) ∧ lv.length = ts.length ∧ ∀ (i : Nat) (t : Tm), ts[i]? = some t → ∃ a, lv[i]? = some (.ref a) ∧ H a = some (.tup ((lineK ts t).map kV))
  ns : ∃ kvs : List (List Key × V), H n = some (.dT kvs) ∧ kvs.length = ts.length ∧ ∀ (i : Nat) (t : Tm), ts[i]? = some t → kvs[i]? = some (lineK ts t, .int (i : Int))
  ss : H s = some (.lst (ts.map fun t => .int (t.size : Int)))
  ne : l ≠ s
  nd : ts.Nodup
  cl : Cl ts
  big : ts.length ≤ 1000 ∧ ∀ t ∈ ts, t.size ≤ 1000
theorem TLAt.kp {C : Addr} {H H' : Hp} {S : List Addr} {p l n s : Addr} {ts : List Tm} (k : Kp S H H') (h : TLAt C H p l n s ts) (hS : p ∉ S ∧ l ∉ S ∧ n ∉ S ∧ s ∉ S) : TLAt C H' p l n s ts where
  dx := let ⟨dx, e⟩ := h.dx; ⟨dx, k.k _ _ hS.1 e⟩
  ls := let ⟨lv, e, h1, h2⟩ := h.ls; ⟨lv, k.k _ _ hS.2.1 e, h1, fun i t ht => let ⟨a, e1, e2⟩ := h2 i t ht; ⟨a, e1, k.t _ _ e2⟩⟩
  ns := let ⟨kvs, e, h1, h2⟩ := h.ns; ⟨kvs, k.k _ _ hS.2.2.1 e, h1, h2⟩
  ss := k.k _ _ hS.2.2.2 h.ss
  ne := h.ne
  nd := h.nd
  cl := h.cl
  big := h.big
theorem wd_inj {t u : Tm} (h : t.wd = u.wd) : t.kd = u.kd := by
  cases t <;> cases u <;> first | rfl | exact absurd h (by decide +kernel) | exact absurd (show _ = _ from h) (by simp only [Tm.wd]; decide +kernel)
theorem ix_inj {ts : List Tm} {a b : Tm} (ha : a ∈ ts) (hb : b ∈ ts) (h : (Sum.inl (ix ts a : Int) : Key) = .inl (ix ts b : Int)) : a = b := by
  have e : ix ts a = ix ts b := by have := Sum.inl.inj h; omega
  have h1 := ix_get ha
  rw [e, ix_get hb] at h1
  exact (Option.some.inj h1).symm
theorem lineK_inj {ts : List Tm} {t u : Tm} (ht : ∀ k ∈ t.kids, k ∈ ts) (hu : ∀ k ∈ u.kids, k ∈ ts) (h : lineK ts t = lineK ts u) : t = u := by
  have hw : t.wd = u.wd := by
    cases t <;> cases u <;> simp only [lineK] at h <;> first | exact Sum.inr.inj (List.cons.inj h).1 | rfl
  have hk := wd_inj hw
  cases t <;> cases u <;> simp only [Tm.kd] at hk <;> first | rfl | (exfalso; omega) | skip
  · simp only [lineK] at h
    have := Sum.inr.inj (List.cons.inj (List.cons.inj h).2).1
    rw [this]
  · simp only [lineK, Tm.kids, List.map_cons, List.map_nil] at h
    rw [ix_inj (ht _ (by simp [Tm.kids])) (hu _ (by simp [Tm.kids])) (List.cons.inj (List.cons.inj h).2).1]
  · simp only [lineK, Tm.kids, List.map_cons, List.map_nil] at h
    rw [ix_inj (ht _ (by simp [Tm.kids])) (hu _ (by simp [Tm.kids])) (List.cons.inj (List.cons.inj h).2).1,
      ix_inj (ht _ (by simp [Tm.kids])) (hu _ (by simp [Tm.kids])) (List.cons.inj (List.cons.inj (List.cons.inj h).2).2).1]
  · simp only [lineK, Tm.kids, List.map_cons, List.map_nil] at h
    rw [ix_inj (ht _ (by simp [Tm.kids])) (hu _ (by simp [Tm.kids])) (List.cons.inj (List.cons.inj h).2).1,
      ix_inj (ht _ (by simp [Tm.kids])) (hu _ (by simp [Tm.kids])) (List.cons.inj (List.cons.inj (List.cons.inj h).2).2).1]
theorem lineK_ext {ts ts' : List Tm} {t : Tm} (h : ∀ k ∈ t.kids, ix ts' k = ix ts k) : lineK ts' t = lineK ts t := by
  cases t <;> simp only [lineK, Tm.kids, List.map_cons, List.map_nil] <;> simp only [Tm.kids, List.mem_cons, List.not_mem_nil, or_false] at h
  · rw [h _ rfl]
  · rw [h _ (.inl rfl), h _ (.inr rfl)]
  · rw [h _ (.inl rfl), h _ (.inr rfl)]
theorem Cl.mem {ts : List Tm} (h : Cl ts) {t : Tm} (ht : t ∈ ts) : ∀ k ∈ t.kids, k ∈ ts := by
  intro k hk
  obtain ⟨i, hi⟩ := List.getElem?_of_mem ht
  obtain ⟨j, _, hj⟩ := h i t hi k hk
  exact List.mem_of_getElem? hj
theorem valV_ix {κ : Type} [DecidableEq κ] : ∀ {kvs : List (κ × V)} {i : Nat} {k : κ} {v : V}, kvs[i]? = some (k, v) → (∀ (j : Nat) (q : κ × V), j < i → kvs[j]? = some q → q.1 ≠ k) → valV kvs k = some v
  | [], _, _, _, h, _ => by simp at h
  | p :: r, 0, k, v, h, _ => by
    simp at h; subst h; exact valV_pos rfl
  | p :: r, i + 1, k, v, h, hn => by
    rw [valV_neg (hn 0 p (by omega) rfl)]
    exact valV_ix (i := i) (by simpa using h) fun j q hj hq => hn (j + 1) q (by omega) (by simpa using hq)
theorem valV_no {κ : Type} [DecidableEq κ] : ∀ {kvs : List (κ × V)} {k : κ}, (∀ (j : Nat) (q : κ × V), kvs[j]? = some q → q.1 ≠ k) → valV kvs k = none
  | [], _, _ => rfl
  | p :: r, k, hn => by
    rw [valV_neg (hn 0 p rfl)]
    exact valV_no fun j q hq => hn (j + 1) q (by simpa using hq)
section
variable {ts : List Tm} {kvs : List (List Key × V)} {t : Tm}
theorem kvs_old (hl : kvs.length = ts.length) (hk : ∀ (i : Nat) (t : Tm), ts[i]? = some t → kvs[i]? = some (lineK ts t, .int (i : Int))) (nd : ts.Nodup) (cl : Cl ts) (ht : t ∈ ts) : valV kvs (lineK ts t) = some (.int (ix ts t : Int)) := by
  refine valV_ix (hk _ _ (ix_get ht)) fun j q hj hq e => ?_
  have hj2 : j < ts.length := by have := ix_lt ht; omega
  have hu := hk j ts[j] (List.getElem?_eq_getElem hj2)
  rw [hq] at hu
  have eq := Option.some.inj hu
  rw [eq] at e
  have := lineK_inj (cl.mem (List.getElem_mem hj2)) (cl.mem ht) e
  have h2 := ix_of nd (List.getElem?_eq_getElem hj2)
  rw [this] at h2; omega
theorem kvs_new (hl : kvs.length = ts.length) (hk : ∀ (i : Nat) (t : Tm), ts[i]? = some t → kvs[i]? = some (lineK ts t, .int (i : Int))) (cl : Cl ts) (hkid : ∀ k ∈ t.kids, k ∈ ts) (ht : t ∉ ts) : valV kvs (lineK ts t) = none := by
  refine valV_no fun j q hq e => ?_
  have hj2 : j < ts.length := by rw [← hl]; exact (List.getElem?_eq_some_iff.mp hq).1
  have hu := hk j ts[j] (List.getElem?_eq_getElem hj2)
  rw [hq] at hu
  have eq := Option.some.inj hu
  rw [eq] at e
  have := lineK_inj (cl.mem (List.getElem_mem hj2)) hkid e
  exact ht (this ▸ List.getElem_mem hj2)
end
end N0

namespace N0
open PySem L2 PySem.Spec PyProof.Rows
structure TLc (K : PySem.W.Frag) (mg : Str → Option Value) (C : Addr) : Prop where
  cl : Cls K C
  nl : NoAttr K C "lines"
  nn : NoAttr K C "numbers"
  ns : NoAttr K C "sizes"
  mgC : mg "TermLines" = some (.ref C)
structure MDef (P : Program) (w : World) (K : PySem.W.Frag) (mg : Str → Option Value) (base : Heap) (C : Addr) (m : Str) (k : Nat) (ps : List Str) (sp : Sp) : Prop where
  ex : ∃ (f : Addr) (fd : FuncData), FnOk P w K mg base CX0 k f fd ps sp ∧ Meth K C m f ∧ Binds K fd ps []
structure IDef (P : Program) (w : World) (K : PySem.W.Frag) (mg : Str → Option Value) (base : Heap) (C : Addr) (k : Nat) (ps : List Str) (sp : Sp) : Prop where
  ex : ∃ (f : Addr) (fd : FuncData), FnOk P w K mg base CX0 k f fd ps sp ∧ Mk K C f ∧ Binds K fd ps []
def spInit (C : Addr) : Sp := fun vs H Q _ => ∃ (p dx : Addr), vs = [.ref p] ∧ H p = some (.ins C dx []) ∧
  ∀ H' l n s, Kp [p] H H' → H l = none → H n = none → H s = none → TLAt C H' p l n s [] → Q .non H'
def tMkTL (C : Addr) : TE := fun _ H Q => ∀ H' p l n s, Kp [] H H' → H p = none → H l = none → H n = none → H s = none → TLAt C H' p l n s [] → Q (.ref p) H'
section
variable {X : Cx} {e : Expr} {es : List Expr} {o : Expr} {m : Str} {pos p apos : Pos} {t ta : TE} {tA : TA} {C : Addr}
theorem e_meth {k : Nat} {ps : List Str} {sp : Sp} {pl : Sem Bool} (c : Cls X.K C) (M : MDef X.prog X.w X.K X.mg X.base C m k ps sp) (hr : Room k X.A) (he : PE X o ta) (ha : PA X (e :: es) tA)
    (hst : starEach (e :: es) X.env = (false, eval e X.env) :: starEach es X.env := by rfl) (hpl : (backTo pos (starEach es X.env)).any (·.1) = false := by rfl)
    (ht : eval (.Call (.Attribute o m apos) (e :: es) [] pos) X.env = (do
      let ov ← eval o X.env
      standAt apos.atName
      let (f, first) ← holding [ov] (getMethod ov m pl)
      callWith pos f first (backTo pos (starEach (e :: es) X.env)) (backToKw pos (keywordEach [] X.env))) := by rfl) : PE X (.Call (.Attribute o m apos) (e :: es) [] pos) (tMeth C m sp [] E0 ta tA) := by
  obtain ⟨f, fd, F, hm, hb⟩ := M.ex
  exact pe_meth he c hm F hr hb .nil pass0 ha hst hpl ht
theorem e_mkTL (c : TLc X.K X.mg C) (M : IDef X.prog X.w X.K X.mg X.base C 1 ["self"] (spInit C)) (hr : Room 2 X.A) (hg : Gl X "TermLines" := by rfl) : PE X (.Call (.Name "TermLines" p) [] [] pos) (tMkTL C) := by
  obtain ⟨f, fd, F, hm, hb⟩ := M.ex
  have q := pe_make0 (pos := pos) (p := p) hm F hr hg c.mgC hb .nil (pass0 (X := X))
  refine ⟨fun pins s σ H Q I h => q.run pins s σ H Q I ?_⟩
  intro x dx nx ndx nex
  have k0 : Kp [] H (upd (upd H dx (.own x)) x (.ins C dx [])) := (Kp.new ndx).add (by rw [upd_ne (Ne.symm nex)]; exact nx)
  refine ⟨x, dx, rfl, upd_same, fun H' l n s k hl hn hs ht => ⟨rfl, h H' x l n s ?_ nx (k0.n _ hl) (k0.n _ hn) (k0.n _ hs) ht⟩⟩
  refine ⟨fun b o' _ hb => k.k _ _ ?_ (k0.k _ _ (by simp) hb), fun b xs hb => k.t _ _ (k0.t _ _ hb), fun b hb => k0.n _ (k.n _ hb)⟩
  intro z
  simp only [List.mem_singleton] at z
  rw [z, nx] at hb; cases hb
end
/-- a line: it is there, or it is new -/
def spLN (C : Addr) : Sp := fun vs H Q _ => ∃ (p b l n s : Addr) (ts : List Tm) (t : Tm), vs = [.ref p, .ref b] ∧ TLAt C H p l n s ts ∧ H b = some (.tup ((lineK ts t).map kV)) ∧ (∀ k ∈ t.kids, k ∈ ts) ∧ t.size ≤ 1000 ∧ ts.length < 1000 ∧
  ∀ H', Kp [l, n, s] H H' → TLAt C H' p l n s (put ts t) → Q (.int (ix (put ts t) t : Int)) H'
/-- a term: all its parts -/
def spTN (C : Addr) (d : Nat) : Sp := fun vs H Q _ => ∃ (p l n s : Addr) (v : V) (ts : List Tm) (t : Tm), vs = [.ref p, v] ∧ TLAt C H p l n s ts ∧ TmV H t v ∧ t.dep < d ∧ t.size ≤ 1000 ∧ ts.length + t.size ≤ 1000 ∧
  ∀ H', Kp [l, n, s] H H' → TLAt C H' p l n s (addP ts t) → Q (.int (ix (addP ts t) t : Int)) H'
theorem lineK_head (ts : List Tm) (t : Tm) : ∃ r, lineK ts t = .inr t.wd :: r ∧ (t.kd ≠ 2 → r = t.kids.map fun k => .inl (ix ts k : Int)) := by
  cases t <;> exact ⟨_, rfl, fun h => by first | rfl | exact absurd rfl h⟩
theorem wl_yes : ¬ (decide (V.str ("yes" : Str) = V.str "letter") = true) := by decide +kernel
theorem wl_no : ¬ (decide (V.str ("no" : Str) = V.str "letter") = true) := by decide +kernel
theorem wl_not : ¬ (decide (V.str ("not" : Str) = V.str "letter") = true) := by decide +kernel
theorem wl_and : ¬ (decide (V.str ("and" : Str) = V.str "letter") = true) := by decide +kernel
theorem wl_or : ¬ (decide (V.str ("or" : Str) = V.str "letter") = true) := by decide +kernel
theorem wd_letter {t : Tm} : (decide (V.str t.wd = V.str "letter") = true) ↔ t.kd = 2 := by
  cases t with
  | yes => exact ⟨fun h => absurd h wl_yes, fun h => by cases h⟩
  | no => exact ⟨fun h => absurd h wl_no, fun h => by cases h⟩
  | letter s => exact ⟨fun _ => rfl, fun _ => decide_eq_true rfl⟩
  | not a => exact ⟨fun h => absurd h wl_not, fun h => by cases h⟩
  | and a b => exact ⟨fun h => absurd h wl_and, fun h => by cases h⟩
  | or a b => exact ⟨fun h => absurd h wl_or, fun h => by cases h⟩
theorem size_kids {t : Tm} (h : t.kd ≠ 2) : (1 : Int) + (t.kids.map fun k => (k.size : Int)).sum = (t.size : Int) := by
  cases t <;> simp only [Tm.kids, Tm.size, List.map_cons, List.map_nil, List.sum_cons, List.sum_nil] <;> omega
section
variable {P : Program} {w : World} {K : PySem.W.Frag} {mg : Str → Option Value} {base : Heap} {f C : Addr} {fd : FuncData}
theorem ok_init (F : Fun K "__init__" "TermLines.__init__" s_TermLines___init__ f fd) (T : Txt K mg) (TC : TLc K mg C) : FnOk P w K mg base CX0 1 f fd ["self"] (spInit C) := by
  refine F.ok sc_TermLines___init__ (fun vs H Q E h => ?_) (fun cdv A outer s H vs Q E hr h => ?_)
  · obtain ⟨p, dx, rfl, _⟩ := h
    rfl
  obtain ⟨p, dx, rfl, hp, q⟩ := h
  have nd := sc_TermLines___init__.nd
  refine ⟨_, (pss_cons (ps_fld (pv 0) (pe_lst pa_nil) rfl)
      (pss_cons (ps_fld (pv 0) pe_dnewT rfl)
      (pss_one (ps_fld (pv 0) (pe_lst pa_nil) rfl)))), ?_⟩
  refine ⟨Nat.zero_le _, fun l hl => ?_⟩
  have npl : p ≠ l := ne_of_none hp hl
  have h1 : upd H l (.lst []) p = some (.ins C dx []) := by rw [upd_ne npl]; exact hp
  refine ⟨_, rfl, p, C, dx, [], rfl, h1, TC.cl, TC.nl, (by decide), ?_⟩
  intro n hn
  have npn : p ≠ n := fun z => by rw [← z, upd_same] at hn; cases hn
  have nln : l ≠ n := fun z => by rw [← z, upd_ne (Ne.symm npl), upd_same] at hn; cases hn
  have hn0 : H n = none := by rw [upd_ne (Ne.symm npn), upd_ne (Ne.symm nln)] at hn; exact hn
  refine ⟨_, rfl, p, C, dx, _, rfl, by rw [upd_ne npn]; exact upd_same, TC.cl, TC.nn, (by rw [show putF "lines" (V.ref l) [] = [(("lines" : Str), V.ref l)] from by with_unfolding_all rfl]; simp), ?_⟩
  refine ⟨Nat.zero_le _, fun s' hs => ?_⟩
  have nps : p ≠ s' := fun z => by rw [← z, upd_same] at hs; cases hs
  have nls : l ≠ s' := fun z => by rw [← z, upd_ne (Ne.symm npl), upd_ne nln, upd_ne (Ne.symm npl), upd_same] at hs; cases hs
  have nns : n ≠ s' := fun z => by rw [← z, upd_ne (Ne.symm npn), upd_same] at hs; cases hs
  have hs0 : H s' = none := by rw [upd_ne (Ne.symm nps), upd_ne (Ne.symm nns), upd_ne (Ne.symm nps), upd_ne (Ne.symm nls)] at hs; exact hs
  refine ⟨_, rfl, p, C, dx, _, rfl, by rw [upd_ne nps]; exact upd_same, TC.cl, TC.ns, (by rw [show putF "numbers" (V.ref n) (putF "lines" (V.ref l) []) = [(("lines" : Str), V.ref l), (("numbers" : Str), V.ref n)] from by with_unfolding_all rfl]; simp), ?_⟩
  have hf : putF "sizes" (.ref s') (putF "numbers" (.ref n) (putF "lines" (.ref l) [])) = tlf l n s' := by with_unfolding_all rfl
  rw [hf]
  refine q _ l n s' ?_ hl hn0 hs0 ?_
  · have k1 : Kp [p] H (upd H l (.lst [])) := Kp.new hl
    have k2 := k1.wr (l := p) (by simp) h1 (o := .ins C dx (putF "lines" (.ref l) [])) (by intro xs z; cases z)
    have k3 := k2.add hn (o := .dT [])
    have k4 := k3.wr (l := p) (by simp) (by rw [upd_ne npn]; exact upd_same) (o := .ins C dx (putF "numbers" (.ref n) (putF "lines" (.ref l) []))) (by intro xs z; cases z)
    have k5 := k4.add hs (o := .lst [])
    exact k5.wr (l := p) (by simp) (by rw [upd_ne nps]; exact upd_same) (by intro xs z; cases z)
  · refine ⟨⟨dx, upd_same⟩, ⟨[], ?_, rfl, fun i t h => by simp at h⟩, ⟨[], ?_, rfl, fun i t h => by simp at h⟩, ?_, nls, List.nodup_nil, Cl.nil, by simp⟩
    · rw [upd_ne (Ne.symm npl), upd_ne nls, upd_ne (Ne.symm npl), upd_ne nln, upd_ne (Ne.symm npl), upd_same]
    · rw [upd_ne (Ne.symm npn), upd_ne nns, upd_ne (Ne.symm npn), upd_same]
    · rw [upd_ne (Ne.symm nps), upd_same]; rfl
theorem ok_line_number (F : Fun K "line_number" "TermLines.line_number" s_TermLines_line_number f fd) (T : Txt K mg) (TC : TLc K mg C) : FnOk P w K mg base CX0 1 f fd ["self", "line"] (spLN C) := by
  refine F.ok sc_TermLines_line_number (fun vs H Q E h => ?_) (fun cdv A outer s H vs Q E hr h => ?_)
  · obtain ⟨p, b, l, n, s, ts, t, rfl, _⟩ := h
    rfl
  obtain ⟨p, b, l, n, s', ts, t, rfl, hT, hb, hk, hsz, hlen, q⟩ := h
  have nd := sc_TermLines_line_number.nd
  refine ⟨_, (pss_cons (ps_if (pt_cmp (pc_dnotin (hu_of hr) (pv 1) (pe_fld (pv 0) rfl))) (pss_cons (ps_dput (hu_of hr) (pe_fld (pv 0) rfl) (pv 1) (e_len T (pa_cons (pe_fld (pv 0) rfl) pa_nil)) rfl)
      (pss_cons (ps_expr (pe_bm PySem.F.plainAttrs_list PySem.F.slot_list_append PySem.F.type_list_append mt_append (pe_fld (pv 0) rfl) (pa_cons (pv 1) pa_nil)))
      (pss_cons (ps_set (i := 2) nd rfl (Or.inl rfl) (pe_ifExp (pt_cmpR op_eq (pe_ix ix_tup (pv 1) pe_int (fun _ _ => rfl)) pe_str (nomark _)) pe_int (pe_op op_add pe_int (pe_callB (cr_sum rfl) (by rfl) T.sum bt_sum (pa_cons (pe_lc (own := [("one", 3)]) (g := gName 3) (tt := tYes) rfl nd (pi_tup (pe_slice sl_tupA (pv 1) (po_some pe_int) po_none)) (blkOk_by (N := N_TermLines_line_number) (sc := defScope s_TermLines_line_number) (by decide +kernel)) (fun _ _ _ _ _ => pg_name (i := 3) nd rfl (Or.inl rfl)) (fun _ _ _ _ _ => pts_nil) (fun _ _ _ _ _ => (pe_ix (ix_listk K) (pe_fldk K (pe_fld (pv 0) rfl)) (pv 3) (fun _ _ => rfl)))) pa_nil)))))
      (pss_one (ps_expr (pe_bm PySem.F.plainAttrs_list PySem.F.slot_list_append PySem.F.type_list_append mt_append (pe_fld (pv 0) rfl) (pa_cons (pe_callB (call_min2 rfl) (by rfl) T.min bt_min (pa_cons (pv 2) (pa_cons (e_const T.MOST_KEPT) pa_nil))) pa_nil))))))) pss_nil)
      (pss_one (ps_ret (pe_dget (hu_of hr) (pe_fld (pv 0) rfl) (pv 1) (fun _ _ => rfl))))), ?_⟩
  obtain ⟨dx, hp⟩ := hT.dx
  obtain ⟨lv, hl, hlv, hla⟩ := hT.ls
  obtain ⟨kvs, hn, hkl, hka⟩ := hT.ns
  have hs := hT.ss
  refine ⟨_, rfl, _, rfl, p, C, dx, _, _, rfl, hp, TC.cl, TC.nn, tlf_n _ _ _, n, _, rfl, DGet.t hn hb, _, rfl, ?_⟩
  by_cases ht : t ∈ ts
  · rw [kvs_old hkl hka hT.nd hT.cl ht]
    refine iteF ?_
    refine ⟨_, rfl, p, C, dx, _, _, rfl, hp, TC.cl, TC.nn, tlf_n _ _ _, _, rfl, n, .int (ix ts t : Int), rfl, ?_, ?_⟩
    · have := DGet.t (k := lineK ts t) hn hb
      rw [kvs_old hkl hka hT.nd hT.cl ht] at this; exact this
    · have e : put ts t = ts := if_pos ht
      have := q H (Kp.refl _ _) (by rw [e]; exact hT)
      rw [e] at this; exact this
  · have hno := kvs_new hkl hka hT.cl hk ht
    rw [hno]
    refine iteT ?_
    have e : put ts t = ts ++ [t] := if_neg ht
    -- self.numbers[line] = len(self.lines)
    refine ⟨_, rfl, p, C, dx, _, _, rfl, hp, TC.cl, TC.nl, tlf_l _ _ _, l, lv, rfl, .inl (SqL.of hl), ?_⟩
    refine ⟨_, rfl, p, C, dx, _, _, rfl, hp, TC.cl, TC.nn, tlf_n _ _ _, _, rfl, n, _, rfl, DPut.t hn hb (small_lt (by omega)), ?_⟩
    have hput : putK kvs (lineK ts t) (.int (lv.length : Int)) = kvs ++ [(lineK ts t, .int (lv.length : Int))] := by
      unfold putK; rw [valV_any, hno]; rfl
    rw [hput]
    have npn : p ≠ n := ne_of hp hn (by intro z; cases z)
    have nln : l ≠ n := ne_of hl hn (by intro z; cases z)
    have nsn : s' ≠ n := ne_of hs hn (by intro z; cases z)
    have npl : p ≠ l := ne_of hp hl (by intro z; cases z)
    have nps : p ≠ s' := ne_of hp hs (by intro z; cases z)
    have k1 : Kp [l, n, s'] H (upd H n (.dT (kvs ++ [(lineK ts t, .int (lv.length : Int))]))) := (Kp.refl _ _).wr (by simp) hn (by intro xs z; cases z)
    have hp1 := k1.k p _ (by simp [npl, npn, nps]) hp
    have hl1 : upd H n (.dT (kvs ++ [(lineK ts t, .int (lv.length : Int))])) l = some (.lst lv) := by rw [upd_ne nln]; exact hl
    have hs1 : upd H n (.dT (kvs ++ [(lineK ts t, .int (lv.length : Int))])) s' = _ := Eq.trans (upd_ne nsn) hs
    have hn1 : upd H n (.dT (kvs ++ [(lineK ts t, .int (lv.length : Int))])) n = some (.dT (kvs ++ [(lineK ts t, .int (lv.length : Int))])) := upd_same
    generalize upd H n (.dT (kvs ++ [(lineK ts t, .int (lv.length : Int))])) = H1 at k1 hp1 hl1 hs1 hn1 ⊢
    -- self.lines.append(line)
    refine ⟨_, rfl, p, C, dx, _, _, rfl, hp1, TC.cl, TC.nl, tlf_l _ _ _, .inl ⟨rfl, _, SqL.of hl1⟩, _, rfl, l, lv, _, rfl, rfl, hl1, small_lt (by omega), ?_⟩
    have k2 : Kp [l, n, s'] H (upd H1 l (.lst (lv ++ [.ref b]))) := k1.wr (by simp) hl1 (by intro xs z; cases z)
    have hp2 := k2.k p _ (by simp [npl, npn, nps]) hp
    have hl2 : upd H1 l (.lst (lv ++ [.ref b])) l = some (.lst (lv ++ [.ref b])) := upd_same
    have hs2 : upd H1 l (.lst (lv ++ [.ref b])) s' = _ := Eq.trans (upd_ne (Ne.symm hT.ne)) hs1
    have hn2 : upd H1 l (.lst (lv ++ [.ref b])) n = _ := Eq.trans (upd_ne (Ne.symm nln)) hn1
    have hb2 := k2.t _ _ hb
    generalize upd H1 l (.lst (lv ++ [.ref b])) = H2 at k2 hp2 hl2 hs2 hn2 hb2 ⊢
    obtain ⟨r, hr0, hrk⟩ := lineK_head ts t
    rw [hr0, List.map_cons] at hb2
    have hI : ∀ e : TE, e = tOp (rIxT K) (tVar 1) (tC (.int 0)) → EvE e (L2.start N_TermLines_line_number [.ref p, .ref b]) H2 (.str t.wd) := by
      rintro e rfl
      exact .of fun Q k => ⟨_, rfl, b, _, 0, _, rfl, rfl, tupT hb2, atI_nat (j := 0) rfl, k⟩
    dsimp only
    refine EvE.asgS (v := .int (t.size : Int)) (EvE.cast (EvE.if (b := decide (V.str t.wd = V.str "letter")) (v := .int 1) (w := .int (1 + (t.kids.map fun k => (k.size : Int)).sum)) ?_ ?_ (fun he H3 k3 Q1 q1 => ?_)) ?_) (fun H3 k3 => ?_)
    · exact EvE.test fun Q k => hI _ rfl _ fun H3 k3 => ⟨rfl, k H3 k3⟩
    · exact fun _ H3 k3 => .of fun Q k => k
    · have hkd : t.kd ≠ 2 := fun z => by rw [wd_letter.mpr z] at he; cases he
      have hr := hrk hkd
      refine ⟨_, rfl, _, rfl, b, _, rfl, tupT (k3.t _ _ hb2), fun z => absurd z (cut_tail _ _).2, fun _ pt hpt => ?_⟩
      rw [(cut_tail _ _).1]
      refine ⟨pt, rfl, ⟨_, tupT upd_same⟩, fun D hD => ?_⟩
      have k4 : Kp [] H3 (upd H3 pt (.tup (r.map kV))) := Kp.new hpt
      have kk := k3.trans k4
      have hrl : r.length = t.kids.length := by rw [hr, List.length_map]
      have hp4 : upd H3 pt (.tup (r.map kV)) p = _ := kk.k _ _ (by simp) hp2
      have hs4 : upd H3 pt (.tup (r.map kV)) s' = _ := kk.k _ _ (by simp) hs2
      have ht4 : upd H3 pt (.tup (r.map kV)) pt = some (.tup (r.map kV)) := upd_same
      generalize upd H3 pt (.tup (r.map kV)) = H4 at k4 kk hD hp4 hs4 ht4 ⊢
      refine lc_it (n := (r.map kV).length) walk_tup (fun i H' => Kp [] H4 H' ∧ H' D = some (.lst (((t.kids.take i).map fun k => (k.size : Int)).map V.int))) ⟨Kp.new hD, upd_same⟩ (fun i H' _ h => tupT (h.1.t _ _ ht4)) ?_ ?_
      · rintro i y _ H5 hi ⟨k5, hD5⟩ ⟨rfl, hyi⟩
        have hi2 : i < t.kids.length := by rw [List.length_map, hrl] at hi; exact hi
        have hye : y = .int (ix ts t.kids[i] : Int) := by
          rw [hr, List.map_map, List.getElem?_map, List.getElem?_eq_getElem hi2] at hyi
          exact (Option.some.inj hyi).symm
        subst hye
        have hkm := hk _ (List.getElem_mem hi2)
        refine ⟨rfl, ?_⟩
        refine ⟨_, rfl, p, C, dx, _, _, rfl, k5.k _ _ (by simp) hp4, TC.cl, TC.ns, tlf_s _ _ _, _, rfl, s', _, _, .int (t.kids[i].size : Int), rfl, rfl, SqL.of (k5.k _ _ (by simp) hs4), atI_nat (by rw [List.getElem?_map, ix_get hkm]; rfl), _, hD5, ?_, k5.put hD, ?_⟩
        · rw [List.length_map, List.length_map, List.length_take]
          have : t.kids.length ≤ 2 := by cases t <;> simp [Tm.kids]
          exact small_lt (by omega)
        · rw [upd_same, List.take_add_one, List.getElem?_eq_getElem hi2, List.map_append, List.map_append]; rfl
      · rintro H5 ⟨k5, hD5⟩
        rw [List.take_of_length_le (by rw [List.length_map]; omega)] at hD5
        exact ⟨D, _, rfl, SqL.of hD5, _, _, rfl, rfl, q1 _ (k4.trans k5)⟩
    · by_cases hkd : t.kd = 2
      · rw [if_pos (wd_letter.mpr hkd)]
        cases t <;> simp [Tm.kd] at hkd
        rfl
      · rw [if_neg (fun z => hkd (wd_letter.mp z)), size_kids hkd]
    · -- self.sizes.append(min(size, MOST_KEPT)); return self.numbers[line]
      have k23 := k2.trans k3.mono0
      have hp3 := k3.k _ _ (by simp) hp2
      have hs3 := k3.k _ _ (by simp) hs2
      have hl3 := k3.k _ _ (by simp) hl2
      have hn3 := k3.k _ _ (by simp) hn2
      have hb3 := k3.t _ _ hb2
      refine ⟨_, rfl, p, C, dx, _, _, rfl, hp3, TC.cl, TC.ns, tlf_s _ _ _, .inl ⟨rfl, _, SqL.of hs3⟩, _, rfl, _, _, rfl, s', _, _, rfl, rfl, hs3, small_lt (by rw [List.length_map]; omega), ?_⟩
      have hmin : (if (1000000 : Int) < (t.size : Int) then (1000000 : Int) else (t.size : Int)) = (t.size : Int) := if_neg (by omega)
      rw [hmin]
      have k4 : Kp [l, n, s'] H (upd H3 s' (.lst ((ts.map fun t => .int (t.size : Int)) ++ [.int (t.size : Int)]))) := k23.wr (by simp) hs3 (by intro xs z; cases z)
      have hp4 := k4.k p _ (by simp [npl, npn, nps]) hp
      have hl4 : upd H3 s' (.lst ((ts.map fun t => .int (t.size : Int)) ++ [.int (t.size : Int)])) l = _ := Eq.trans (upd_ne hT.ne) hl3
      have hn4 : upd H3 s' (.lst ((ts.map fun t => .int (t.size : Int)) ++ [.int (t.size : Int)])) n = _ := Eq.trans (upd_ne (Ne.symm nsn)) hn3
      have hs4 : upd H3 s' (.lst ((ts.map fun t => .int (t.size : Int)) ++ [.int (t.size : Int)])) s' = _ := upd_same
      have hb4 := k4.t _ _ hb
      generalize upd H3 s' (.lst ((ts.map fun t => .int (t.size : Int)) ++ [.int (t.size : Int)])) = H4 at k4 hp4 hl4 hn4 hs4 hb4 ⊢
      have hkey : ∀ u : Tm, (∀ k ∈ u.kids, k ∈ ts) → lineK (ts ++ [t]) u = lineK ts u := fun u hu => lineK_ext fun k hk => ix_app (hu k hk)
      have hT4 : TLAt C H4 p l n s' (put ts t) := by
        rw [e]
        refine ⟨⟨dx, hp4⟩, ⟨_, hl4, by simp [hlv], fun i u hu => ?_⟩, ⟨_, hn4, by simp [hkl], fun i u hu => ?_⟩, ?_, hT.ne, ?_, ?_, ⟨by simp; omega, fun u hu => ?_⟩⟩
        · by_cases hi : i < ts.length
          · rw [List.getElem?_append_left hi] at hu
            obtain ⟨a, h1, h2⟩ := hla i u hu
            refine ⟨a, by rw [List.getElem?_append_left (by omega)]; exact h1, ?_⟩
            rw [hkey u (hT.cl.mem (List.mem_of_getElem? hu))]
            exact k4.t _ _ h2
          · have hi2 := (List.getElem?_eq_some_iff.mp hu).1
            simp at hi2
            have ei : i = ts.length := by omega
            subst ei
            rw [List.getElem?_append_right (Nat.le_refl _)] at hu
            simp at hu; subst hu
            refine ⟨b, by rw [List.getElem?_append_right (by omega)]; simp [hlv], ?_⟩
            rw [hkey t hk]; exact hb4
        · by_cases hi : i < ts.length
          · rw [List.getElem?_append_left hi] at hu
            rw [List.getElem?_append_left (by omega), hka i u hu, hkey u (hT.cl.mem (List.mem_of_getElem? hu))]
          · have hi2 := (List.getElem?_eq_some_iff.mp hu).1
            simp at hi2
            have ei : i = ts.length := by omega
            subst ei
            rw [List.getElem?_append_right (Nat.le_refl _)] at hu
            simp at hu; subst hu
            rw [List.getElem?_append_right (by omega), hkey t hk]
            simp [hkl, hlv]
        · rw [hs4, List.map_append]; rfl
        · have := put_nodup (t := t) hT.nd; rw [e] at this; exact this
        · have := put_cl (t := t) hT.cl hk; rw [e] at this; exact this
        · rcases List.mem_append.mp hu with h | h
          · exact hT.big.2 u h
          · simp at h; subst h; exact hsz
      refine ⟨_, rfl, p, C, dx, _, _, rfl, hp4, TC.cl, TC.nn, tlf_n _ _ _, _, rfl, n, .int (ix (put ts t) t : Int), rfl, ?_, q _ k4 hT4⟩
      obtain ⟨kvs4, hn4', hkl4, hka4⟩ := hT4.ns
      have hkt : lineK (put ts t) t = lineK ts t := by rw [e]; exact hkey t hk
      have g := DGet.t (k := lineK (put ts t) t) hn4' (b := b) (by rw [hkt]; exact hb4)
      rw [kvs_old hkl4 hka4 hT4.nd hT4.cl (put_mem.mpr (.inr rfl))] at g
      exact g
end
end N0

namespace N0
open PySem L2 PySem.Spec PyProof.Rows
/-- all kids in turn -/
def addKids (ts : List Tm) : List Tm → List Tm
  | [] => ts
  | k :: ks => addKids (addP ts k) ks
theorem addKids_app : ∀ (a : List Tm) (ts : List Tm) (x : Tm), addKids ts (a ++ [x]) = addP (addKids ts a) x
  | [], ts, x => rfl
  | k :: a, ts, x => addKids_app a (addP ts k) x
theorem addP_eq (ts : List Tm) (t : Tm) : addP ts t = put (addKids ts t.kids) t := by cases t <;> rfl
theorem addKids_mem : ∀ (ks ts : List Tm), (∀ u ∈ ts, u ∈ addKids ts ks) ∧ ∀ k ∈ ks, k ∈ addKids ts ks
  | [], ts => ⟨fun u h => h, fun k h => by cases h⟩
  | k :: ks, ts => by
    obtain ⟨h1, h2⟩ := addKids_mem ks (addP ts k)
    refine ⟨fun u h => h1 u ((addP_mem _ _ _).mpr (.inl h)), fun x hx => ?_⟩
    rcases List.mem_cons.mp hx with rfl | q
    · exact h1 _ (addP_self _ _)
    · exact h2 x q
theorem addKids_ix : ∀ (ks ts : List Tm) {u : Tm}, u ∈ ts → ix (addKids ts ks) u = ix ts u
  | [], _, _, _ => rfl
  | k :: ks, ts, u, h => by
    show ix (addKids (addP ts k) ks) u = _
    rw [addKids_ix ks _ ((addP_mem _ _ _).mpr (.inl h)), addP_ix h]
theorem addKids_len : ∀ (ks ts : List Tm), (addKids ts ks).length ≤ ts.length + (ks.map Tm.size).sum
  | [], ts => by simp [addKids]
  | k :: ks, ts => by
    have := addKids_len ks (addP ts k)
    have := addP_len k ts
    show (addKids (addP ts k) ks).length ≤ _
    rw [List.map_cons, List.sum_cons]; omega
theorem kids_sizes (t : Tm) : (t.kids.map Tm.size).sum + 1 = t.size := by
  cases t <;> simp [Tm.kids, Tm.size] <;> omega
theorem kids_dep {t : Tm} : ∀ k ∈ t.kids, k.dep < t.dep := by
  cases t <;> simp [Tm.kids, Tm.dep] <;> omega
theorem sum_take_le : ∀ (l : List Nat) (i : Nat), (l.take i).sum ≤ l.sum
  | [], _ => by simp
  | _ :: _, 0 => by simp
  | x :: l, i + 1 => by rw [List.take_succ_cons, List.sum_cons, List.sum_cons]; have := sum_take_le l i; omega
theorem cut_head (x : V) (xs : List V) : cutV (x :: xs) none (some 1) = [x] := by
  have h1 : HT.sIx (x :: xs).length (x :: xs).length (some ((1 : Nat) : Int)) = 1 := by rw [HT.sIx_nat]; simp
  have h1' : HT.sIx (x :: xs).length (x :: xs).length (some 1) = 1 := h1
  unfold cutV
  rw [h1']
  rfl
/-- x[:1] of a tuple that is not empty -/
theorem sliceHead {K : PySem.W.Frag} {H : Hp} {a : Addr} {x : V} {xs : List V} {Q : VK} (ha : H a = some (.tup (x :: xs))) (q : ∀ p H', Kp [] H H' → H' p = some (.tup [x]) → Q (.ref p) H') : rSlA K (.ref a) none (some 1) H Q := by
  refine ⟨a, _, rfl, tupT ha, fun z => ?_, fun _ p hp => q p _ (Kp.new hp) (by rw [upd_same, cut_head])⟩
  have h1 : HT.sIx (x :: xs).length (x :: xs).length (some ((1 : Nat) : Int)) = 1 := by rw [HT.sIx_nat]; simp
  have h2 : (1 : Nat) = (x :: xs).length := h1.symm.trans z.2
  have e : xs = [] := by
    cases xs with
    | nil => rfl
    | cons _ _ => simp at h2
  subst e
  exact q a H (Kp.refl _ _) ha
section
variable {P : Program} {w : World} {K : PySem.W.Frag} {mg : Str → Option Value} {base : Heap} {f C : Addr} {fd : FuncData}
theorem ok_term_number {d : Nat} (F : Fun K "term_number" "TermLines.term_number" s_TermLines_term_number f fd) (T : Txt K mg) (TC : TLc K mg C) (D_line_number : MDef P w K mg base C "line_number" 1 ["self", "line"] (spLN C))
    (D_terms_of : Def P w K mg base "terms_of" 1 ["term"] (spTermsOf K)) (D_term_number : MDef P w K mg base C "term_number" (d + 1) ["self", "term"] (spTN C d)) : FnOk P w K mg base CX0 (d + 2) f fd ["self", "term"] (spTN C (d + 1)) := by
  refine F.ok sc_TermLines_term_number (fun vs H Q E h => ?_) (fun cdv A outer s H vs Q E hr h => ?_)
  · obtain ⟨p, l, n, s, v, ts, t, rfl, _⟩ := h
    rfl
  obtain ⟨p, l, n, s', v, ts, t, rfl, hT, ht, hd, hsz, hlen, q⟩ := h
  have nd := sc_TermLines_term_number.nd
  refine ⟨_, (pss_cons (ps_if (pt_cmpR op_eq (pe_ix ix_tup (pv 1) pe_int (fun _ _ => rfl)) pe_str (nomark _)) (pss_one (ps_ret (e_meth TC.cl D_line_number (hr.mono (by omega)) (pv 0) (pa_cons (pv 1) pa_nil)))) pss_nil)
      (pss_one (ps_ret (e_meth TC.cl D_line_number (hr.mono (by omega)) (pv 0) (pa_cons (pe_op op_catA (pe_slice sl_tupA (pv 1) po_none (po_some pe_int)) (pe_callTy call_tuple_of (by rfl) T.tuple bt_tuple (pa_cons (pe_lc (own := [("inner", 2)]) (g := gName 2) (tt := tYes) rfl nd (pi_tup (e_fn D_terms_of (hr.mono (by omega)) (pa_cons (pv 1) pa_nil))) (blkOk_by (N := N_TermLines_term_number) (sc := defScope s_TermLines_term_number) (by decide +kernel)) (fun _ _ _ _ _ => pg_name (i := 2) nd rfl (Or.inl rfl)) (fun _ _ _ _ _ => pts_nil) (fun _ _ _ _ _ => (e_meth TC.cl D_term_number (hr.mono (by omega)) (pv 0) (pa_cons (pv 2) pa_nil)))) pa_nil))) pa_nil))))), ?_⟩
  obtain ⟨a, xs, ks, rfl, ha, hks, hkd⟩ := ht.node
  have hI : ∀ e : TE, e = tOp (rIxT K) (tVar 1) (tC (.int 0)) → EvE e (L2.start N_TermLines_term_number [.ref p, .ref a]) H (.str t.wd) := by
    rintro e rfl
    exact .of fun Q k => ⟨_, rfl, a, _, 0, _, rfl, rfl, tupT ha, atI_nat (j := 0) rfl, k⟩
  obtain ⟨dx, hp⟩ := hT.dx
  refine EvT.ifS (b := decide (V.str t.wd = V.str "letter")) (EvE.test fun Q k => hI _ rfl _ fun H3 k3 => ⟨rfl, k H3 k3⟩) (fun he H1 k1 => ?_) (fun he H1 k1 => ?_)
  · have hkd2 := wd_letter.mp he
    obtain ⟨z, rfl⟩ : ∃ z, t = .letter z := by cases t <;> simp [Tm.kd] at hkd2; exact ⟨_, rfl⟩
    obtain ⟨a', e', ha'⟩ := ht
    cases e'
    refine ⟨_, rfl, p, dx, _, rfl, k1.k _ _ (by simp) hp, tlf_ln _ _ _, _, rfl, ?_⟩
    have hlen' : ts.length < 1000 := by have := Tm.size_pos (.letter z); omega
    refine ⟨p, a, l, n, s', ts, .letter z, rfl, hT.kp k1 (by simp), k1.t _ _ ha', by simp [Tm.kids], hsz, hlen', fun H' k' hT' => q _ (k1.mono0.trans k') hT'⟩
  · have hkd2 : t.kd ≠ 2 := fun z => by rw [wd_letter.mpr z] at he; cases he
    have hp1 := k1.k _ _ (by simp) hp
    refine ⟨_, rfl, p, dx, _, rfl, hp1, tlf_ln _ _ _, ?_⟩
    -- term[:1]
    have ha1 := k1.t _ _ ha
    refine ⟨_, rfl, _, rfl, sliceHead ha1 fun ph H2 k2 hph => ?_⟩
    have k12 := k1.trans k2
    refine ⟨_, rfl, a, t.wd, xs, rfl, tupT (k12.t _ _ ha), fun H3 b k3 hb => ⟨b, rfl, ⟨_, hb⟩, fun D hD => ?_⟩⟩
    rw [hks] at hb
    have k13 := k12.trans k3
    have hT3 := hT.kp k13 (by simp)
    have hkd3 := hkd.kp k13
    have hph3 := k3.t _ _ hph
    have hp3 := k13.k _ _ (by simp) hp
    obtain ⟨lv, hl3, _⟩ := hT3.ls
    obtain ⟨kvs, hn3, _⟩ := hT3.ns
    have hs3 := hT3.ss
    have hDS : D ∉ [l, n, s'] := by
      simp only [List.mem_cons, List.not_mem_nil, or_false]
      rintro (z | z | z)
      · rw [z, hl3] at hD; cases hD
      · rw [z, hn3] at hD; cases hD
      · rw [z, hs3] at hD; cases hD
    have hpS : p ∉ [l, n, s'] := by
      simp only [List.mem_cons, List.not_mem_nil, or_false]
      rintro (z | z | z)
      · rw [z, hl3] at hp3; cases hp3
      · rw [z, hn3] at hp3; cases hp3
      · rw [z, hs3] at hp3; cases hp3
    have hpD : p ≠ D := ne_of_none hp3 hD
    have hkl := hkd.len
    have hkk : t.kids.length ≤ 2 := by cases t <;> simp [Tm.kids]
    have hsum := kids_sizes t
    have hbk : ∀ H', Kp [l, n, s'] H3 H' → SqT K H' b ks := fun H' k => by
      rcases hb with (hb | ⟨o, hb⟩) | hb
      · exact .inl (.inl (k.t _ _ hb))
      · refine .inl (.inr ⟨o, k.k _ _ ?_ hb⟩)
        simp only [List.mem_cons, List.not_mem_nil, or_false]
        rintro (z | z | z)
        · rw [z, hl3] at hb; cases hb
        · rw [z, hn3] at hb; cases hb
        · rw [z, hs3] at hb; cases hb
      · exact .inr hb
    refine lc_it (n := ks.length) walk_tup (fun i H' => Kp [l, n, s'] H3 H' ∧ TLAt C H' p l n s' (addKids ts (t.kids.take i)) ∧ H' D = some (.lst ((t.kids.take i).map fun k => V.int (ix (addKids ts (t.kids.take i)) k : Int))))
      ⟨Kp.new hD, hT3.kp (Kp.new (S := []) hD) (by simp), upd_same⟩ (fun i H' _ h => hbk H' h.1) ?_ ?_
    · rintro i y _ H4 hi ⟨k4, hT4, hD4⟩ ⟨rfl, hyi⟩
      have hi2 : i < t.kids.length := by omega
      obtain ⟨ti, hti, htv⟩ := hkd3.get hyi
      have htie : t.kids[i] = ti := by rw [List.getElem?_eq_getElem hi2] at hti; exact Option.some.inj hti
      have htm : ti ∈ t.kids := htie ▸ List.getElem_mem hi2
      have hlk := addKids_len (t.kids.take i) ts
      have hst : ((t.kids.take i).map Tm.size).sum + ti.size ≤ (t.kids.map Tm.size).sum := by
        have h1 : (t.kids.take (i + 1)).map Tm.size = (t.kids.take i).map Tm.size ++ [ti.size] := by
          rw [List.take_add_one, List.getElem?_eq_getElem hi2, htie]; simp
        have h2 := sum_take_le (t.kids.map Tm.size) (i + 1)
        rw [← List.map_take, h1, List.sum_append] at h2
        simpa using h2
      refine ⟨rfl, ?_⟩
      refine ⟨_, rfl, p, dx, _, rfl, k4.k _ _ hpS hp3, tlf_tn _ _ _, _, rfl, ?_⟩
      refine ⟨p, l, n, s', y, _, ti, rfl, hT4, htv.kp k4, by have := kids_dep ti htm; omega, by omega, by omega, fun H5 k5 hT5 => ?_⟩
      have hD5 := k5.k _ _ hDS hD4
      have e1 : addKids ts (t.kids.take (i + 1)) = addP (addKids ts (t.kids.take i)) ti := by
        rw [List.take_add_one, List.getElem?_eq_getElem hi2, htie]; exact addKids_app _ _ _
      refine ⟨_, hD5, small_lt (by rw [List.length_map, List.length_take]; omega), (k4.trans k5).put hD, ?_, ?_⟩
      · rw [e1]
        have kD : Kp [D] H5 (upd H5 D (.lst (((t.kids.take i).map fun k => V.int (ix (addKids ts (t.kids.take i)) k : Int)) ++ [V.int (ix (addP (addKids ts (t.kids.take i)) ti) ti : Int)]))) := (Kp.refl _ _).wr (by simp) hD5 (by intro xs z; cases z)
        refine hT5.kp kD ?_
        simp only [List.mem_cons, List.not_mem_nil, or_false, not_or] at hDS ⊢
        exact ⟨hpD, Ne.symm hDS.1, Ne.symm hDS.2.1, Ne.symm hDS.2.2⟩
      · rw [upd_same, e1, List.take_add_one, List.getElem?_eq_getElem hi2, htie]
        rw [show (some ti).toList = [ti] from rfl, List.map_append]
        have e2 : ((t.kids.take i).map fun k => V.int (ix (addP (addKids ts (t.kids.take i)) ti) k : Int)) = (t.kids.take i).map fun k => V.int (ix (addKids ts (t.kids.take i)) k : Int) := by
          refine List.map_congr_left fun k hk => ?_
          rw [addP_ix ((addKids_mem _ _).2 k hk)]
        rw [e2]; rfl
    · rintro H4 ⟨k4, hT4, hD4⟩
      rw [List.take_of_length_le (by omega)] at hT4 hD4
      refine ⟨D, _, rfl, .inl ⟨SqL.of hD4, fun pt hpt => ?_⟩⟩
      have k5 : Kp [] H4 (upd H4 pt (.tup (t.kids.map fun k => V.int (ix (addKids ts t.kids) k : Int)))) := Kp.new hpt
      refine catT (k5.t _ _ (k4.t _ _ hph3)) upd_same (by simp; omega) fun pl H6 k6 hpl => ?_
      have k46 := k5.trans k6
      have hT6 := hT4.kp k46 (by simp)
      have hlk := addKids_len t.kids ts
      have hkey : (lineK (addKids ts t.kids) t).map kV = [V.str t.wd] ++ t.kids.map fun k => V.int (ix (addKids ts t.kids) k : Int) := by
        obtain ⟨r, h1, h2⟩ := lineK_head (addKids ts t.kids) t
        rw [h1, h2 hkd2, List.map_cons, List.map_map]
        rfl
      refine ⟨p, pl, l, n, s', addKids ts t.kids, t, rfl, hT6, by rw [hkey]; exact hpl, (addKids_mem _ _).2, hsz, by omega, fun H7 k7 hT7 => ?_⟩
      rw [addP_eq ts t] at q
      exact q _ (((k13.mono0).trans k4).trans (k46.mono0.trans k7)) hT7
end
end N0

namespace N0
open PySem L2 PySem.Spec PyProof.Rows
/-- a list of the lines of terms -/
def LinesV (H : Hp) (ts : List Tm) (lv : List V) : Prop := lv.length = ts.length ∧ ∀ (i : Nat) (t : Tm), ts[i]? = some t → ∃ a, lv[i]? = some (.ref a) ∧ H a = some (.tup ((lineK ts t).map kV))
theorem LinesV.kp {S : List Addr} {H H' : Hp} {ts : List Tm} {lv : List V} (k : Kp S H H') : LinesV H ts lv → LinesV H' ts lv
  | ⟨h1, h2⟩ => ⟨h1, fun i t ht => let ⟨a, e1, e2⟩ := h2 i t ht; ⟨a, e1, k.t _ _ e2⟩⟩
theorem TmV.mk {H : Hp} {t : Tm} {a : Addr} {vs : List V} (ha : H a = some (.tup (.str t.wd :: vs))) (hv : TmVs H t.kids vs) (hk : t.kd ≠ 2) : TmV H t (.ref a) := by
  cases t with
  | yes => cases vs with
    | nil => exact ⟨a, rfl, ha⟩
    | cons _ _ => exact hv.elim
  | no => cases vs with
    | nil => exact ⟨a, rfl, ha⟩
    | cons _ _ => exact hv.elim
  | letter s => exact absurd rfl hk
  | not u => match vs, hv with
    | [x], hv => exact ⟨a, x, rfl, ha, hv.1⟩
  | and u w => match vs, hv with
    | [x, y], hv => exact ⟨a, x, y, rfl, ha, hv.1, hv.2.1⟩
  | or u w => match vs, hv with
    | [x, y], hv => exact ⟨a, x, y, rfl, ha, hv.1, hv.2.1⟩
def spTold : Sp := fun vs H Q _ => ∃ (l : Addr) (ts : List Tm) (lv : List V), vs = [.ref l] ∧ H l = some (.lst lv) ∧ LinesV H ts lv ∧ Cl ts ∧ ts.Nodup ∧ ts.length ≤ 1000 ∧
  ∀ H' a vs', Kp [] H H' → H a = none → H' a = some (.lst vs') → TmVs H' ts vs' → Q (.ref a) H'
section
variable {P : Program} {w : World} {K : PySem.W.Frag} {mg : Str → Option Value} {base : Heap} {f C : Addr} {fd : FuncData}
end
end N0

namespace N0
open PySem L2 PySem.Spec PyProof.Rows
def Tm.nm : Tm → Option Str | .letter s => some s | _ => none
def lets (ts : List Tm) : List Str := ts.filterMap Tm.nm
theorem lets_len : ∀ ts : List Tm, (lets ts).length ≤ ts.length := fun ts => List.length_filterMap_le _ _
def spNP : Sp := fun vs H Q _ => ∃ (v : V) (t : Tm), vs = [v] ∧ TmV H t v ∧ t.dep < 40 ∧ t.size ≤ 1000 ∧
  ∀ H' l lv, Kp [] H H' → H' l = some (.lst lv) → LinesV H' (addP [] t) lv → Q (.ref l) H'
def spLI (tup : Bool) : Sp := fun vs H Q _ => ∃ (v : V) (t : Tm), vs = [v] ∧ TmV H t v ∧ t.dep < 40 ∧ Small t ∧ (lets (addP [] t)).length < 64 ∧
  ∀ H' a ys, Kp [] H H' → H' a = some (if tup = true then .tup (ys.map V.str) else .lst (ys.map V.str)) → ys.Perm (lets (addP [] t)) → sortedS ys = true → Q (.ref a) H'
section
variable {P : Program} {w : World} {K : PySem.W.Frag} {mg : Str → Option Value} {base : Heap} {f C : Addr} {fd : FuncData}
theorem ok_number_parts (F : Fun K "number_parts" "number_parts" s_number_parts f fd) (T : Txt K mg) (TC : TLc K mg C) (D_init : IDef P w K mg base C 1 ["self"] (spInit C)) (D_term_number : MDef P w K mg base C "term_number" 41 ["self", "term"] (spTN C 40)) :
    FnOk P w K mg base CX0 42 f fd ["term"] spNP := by
  refine F.ok sc_number_parts (fun vs H Q E h => ?_) (fun cdv A outer s H vs Q E hr h => ?_)
  · obtain ⟨v, t, rfl, _⟩ := h
    rfl
  obtain ⟨v, t, rfl, ht, hd, hsz, q⟩ := h
  have nd := sc_number_parts.nd
  refine ⟨_, (pss_cons (ps_set (i := 1) nd rfl (Or.inl rfl) (e_mkTL TC D_init (hr.mono (by omega))))
      (pss_cons (ps_expr (e_meth TC.cl D_term_number (hr.mono (by omega)) (pv 1) (pa_cons (pv 0) pa_nil)))
      (pss_one (ps_ret (pe_fld (pv 1) rfl))))), ?_⟩
  intro H1 p l n s' k1 hp hl hn hs hT
  obtain ⟨dx, hp1⟩ := hT.dx
  refine ⟨_, rfl, p, dx, _, rfl, hp1, tlf_tn _ _ _, _, rfl, ?_⟩
  refine ⟨p, l, n, s', v, [], t, rfl, hT, ht.kp k1, hd, hsz, by simpa using hsz, fun H2 k2 hT2 => ?_⟩
  obtain ⟨dx2, hp2⟩ := hT2.dx
  obtain ⟨lv, hl2, hL1, hL2⟩ := hT2.ls
  refine ⟨_, rfl, p, C, dx2, _, _, rfl, hp2, TC.cl, TC.nl, tlf_l _ _ _, q _ l lv ?_ hl2 ⟨hL1, hL2⟩⟩
  refine ⟨fun b o _ hb => k2.k _ _ ?_ (k1.k _ _ (by simp) hb), fun b xs hb => k2.t _ _ (k1.t _ _ hb), fun b hb => k1.n _ (k2.n _ hb)⟩
  simp only [List.mem_cons, List.not_mem_nil, or_false]
  rintro (z | z | z)
  · rw [z, hl] at hb; cases hb
  · rw [z, hn] at hb; cases hb
  · rw [z, hs] at hb; cases hb
theorem ok_letters_in (F : Fun K "letters_in" "letters_in" s_letters_in f fd) (T : Txt K mg) (D_number_parts : Def P w K mg base "number_parts" 42 ["term"] spNP) : FnOk P w K mg base CX0 43 f fd ["term"] (spLI false) := by
  refine F.ok sc_letters_in (fun vs H Q E h => ?_) (fun cdv A outer s H vs Q E hr h => ?_)
  · obtain ⟨v, t, rfl, _⟩ := h
    rfl
  obtain ⟨v, t, rfl, ht, hd, hsm, h64, q⟩ := h
  have nd := sc_letters_in.nd
  refine ⟨_, (pss_one (ps_ret (pe_callB cr_sortedS (by rfl) T.sorted bt_sorted (pa_cons (pe_lc (own := [("line", 1)]) (g := gName 1) rfl nd (pi_list (e_fn D_number_parts (hr.mono (by omega)) (pa_cons (pv 0) pa_nil))) (blkOk_by (N := N_letters_in) (sc := defScope s_letters_in) (by decide +kernel)) (fun _ _ _ _ _ => pg_name (i := 1) nd rfl (Or.inl rfl)) (fun _ _ _ _ _ => pts_one (pt_cmpR op_eq (pe_ix (ix_tupk K) (pv 1) pe_int (fun _ _ => rfl)) pe_str (nomark _))) (fun _ _ _ _ _ => (pe_ix (ix_tupk K) (pv 1) pe_int (fun _ _ => rfl)))) pa_nil)))), ?_⟩
  refine ⟨_, rfl, v, t, rfl, ht, hd, hsm.2.1, fun H1 l lv k1 hl hL => ⟨l, rfl, ⟨lv, SqL.of hl⟩, fun D hD => ?_⟩⟩
  have hlen : (addP [] t).length ≤ 1000 := by have h1 := addP_len t []; have := hsm.2.1; simp only [List.length_nil] at h1; omega
  generalize addP [] t = ts at h64 q hL hlen
  refine lc_it (n := lv.length) walk_list (fun i H' => Kp [] H1 H' ∧ H' D = some (.lst ((lets (ts.take i)).map V.str))) ⟨Kp.new hD, upd_same⟩ (fun i H' _ h => SqL.of (h.1.k _ _ (by simp) hl)) ?_ ?_
  · rintro i y _ H2 hi ⟨k2, hD2⟩ ⟨rfl, hyi⟩
    have hi2 : i < ts.length := by rw [← hL.1]; exact hi
    obtain ⟨a, ha, haT⟩ := (hL.kp k2).2 i ts[i] (List.getElem?_eq_getElem hi2)
    rw [ha] at hyi; cases hyi
    generalize hte : ts[i] = u at ha haT
    have hti : ts[i]? = some u := by rw [List.getElem?_eq_getElem hi2, hte]
    have etk : ts.take (i + 1) = ts.take i ++ [u] := by rw [List.take_add_one, hti]; rfl
    obtain ⟨r, hr0, hrk⟩ := lineK_head ts u
    have haT' := haT
    rw [hr0, List.map_cons] at haT'
    refine ⟨rfl, ?_⟩
    refine ⟨_, rfl, a, _, 0, _, rfl, rfl, tupT haT', atI_nat (j := 0) rfl, rfl, _, rfl, ?_⟩
    refine ite2 (fun c => ?_) (fun c => ?_)
    · have hkd := wd_letter.mp c
      obtain ⟨z, rfl⟩ : ∃ z, u = .letter z := by cases u <;> simp [Tm.kd] at hkd; exact ⟨_, rfl⟩
      refine ⟨_, rfl, a, _, 1, _, rfl, rfl, tupT haT, atI_nat (j := 1) rfl, _, hD2, ?_, k2.put hD, ?_⟩
      · rw [List.length_map]; have := lets_len (ts.take i); rw [List.length_take] at this; exact small_lt (by omega)
      · rw [upd_same, etk]; unfold lets; rw [List.filterMap_append, List.map_append]; rfl
    · refine ⟨k2, ?_⟩
      have hn : u.nm = none := by
        cases u <;> first | rfl | exact absurd (wd_letter.mpr rfl) c
      rw [hD2, etk]; unfold lets; rw [List.filterMap_append, List.filterMap_cons, hn]; simp
  · rintro H2 ⟨k2, hD2⟩
    rw [List.take_of_length_le (by rw [hL.1]; exact Nat.le_refl _)] at hD2
    refine ⟨D, lets ts, rfl, SqL.of hD2, h64, fun ys p hp hso hfr => q _ p ys ((k1.trans k2).add hfr) upd_same hp hso⟩
end
end N0

namespace N0
open PySem L2 PySem.Spec PyProof.Rows
/-! ### frames and values on the heap -/
def PairsV (H : Hp) (ps : List (Nat × Nat)) (b : Addr) : Prop := ∃ ys : List V, H b = some (.tup ys) ∧ ys.length = ps.length ∧ ∀ (i : Nat) (p : Nat × Nat), ps[i]? = some p → ∃ c, ys[i]? = some (.ref c) ∧ H c = some (.tup [.int p.1, .int p.2])
def FrV (H : Hp) (n : Nat) (ps : List (Nat × Nat)) (v : V) : Prop := ∃ a b, v = .ref a ∧ H a = some (.tup [.int n, .ref b]) ∧ PairsV H ps b
def ValV (H : Hp) (v : List Nat) (x : V) : Prop := ∃ a, x = .ref a ∧ H a = some (.tup (v.map fun k : Nat => V.int k))
theorem PairsV.kp {S : List Addr} {H H' : Hp} {ps : List (Nat × Nat)} {b : Addr} (k : Kp S H H') : PairsV H ps b → PairsV H' ps b
  | ⟨ys, h1, h2, h3⟩ => ⟨ys, k.t _ _ h1, h2, fun i p hp => let ⟨c, e1, e2⟩ := h3 i p hp; ⟨c, e1, k.t _ _ e2⟩⟩
theorem FrV.kp {S : List Addr} {H H' : Hp} {n : Nat} {ps : List (Nat × Nat)} {v : V} (k : Kp S H H') : FrV H n ps v → FrV H' n ps v
  | ⟨a, b, e, h, h'⟩ => ⟨a, b, e, k.t _ _ h, h'.kp k⟩
theorem ValV.kp {S : List Addr} {H H' : Hp} {v : List Nat} {x : V} (k : Kp S H H') : ValV H v x → ValV H' v x
  | ⟨a, e, h⟩ => ⟨a, e, k.t _ _ h⟩
/-- a right frame -/
def FrOk (n : Nat) (ps : List (Nat × Nat)) : Prop := 1 ≤ n ∧ n ≤ 600 ∧ PsOk n ps ∧ ps.length ≤ 400000
def spIsInt : Sp := fun vs H Q _ => ∃ i : Int, vs = [.int i] ∧ ∀ H', Kp [] H H' → Q (.bl true) H'
def spWithin : Sp := fun vs H Q _ => ∃ i a b : Int, vs = [.int i, .int a, .int b] ∧ ∀ H', Kp [] H H' → Q (.bl (decide (a ≤ i) && decide (i ≤ b))) H'
def spPP : Sp := fun vs H Q _ => ∃ (n : Nat) (c : Addr) (i j : Nat), vs = [.int n, .ref c] ∧ H c = some (.tup [.int i, .int j]) ∧ i < j ∧ j < n ∧ ∀ H', Kp [] H H' → Q (.bl true) H'
def spNF : Sp := fun vs H Q _ => ∃ (v : V) (n : Nat) (ps : List (Nat × Nat)), vs = [v] ∧ FrV H n ps v ∧ FrOk n ps ∧ ∀ H', Kp [] H H' → Q v H'
def spVB : Sp := fun vs H Q _ => ∃ (x : V) (v : List Nat), vs = [x] ∧ ValV H v x ∧ (∀ k ∈ v, k < 1000) ∧ v.length ≤ 1000 ∧ ∀ H' (b : Nat), Kp [] H H' → Msk b v → Q (.int b) H'
def spBV : Sp := fun vs H Q _ => ∃ b n : Nat, vs = [.int b, .int n] ∧ n ≤ 1000 ∧ ∀ H' x, Kp [] H H' → ValV H' (vl n fun p => b.testBit p) x → Q x H'
section
variable {P : Program} {w : World} {K : PySem.W.Frag} {mg : Str → Option Value} {base : Heap} {f C : Addr} {fd : FuncData}
theorem ok_is_integer (F : Fun K "is_integer" "is_integer" s_is_integer f fd) (T : Txt K mg) : FnOk P w K mg base CX0 1 f fd ["value"] spIsInt := by
  refine F.ok sc_is_integer (fun vs H Q E h => ?_) (fun cdv A outer s H vs Q E hr h => ?_)
  · obtain ⟨i, rfl, _⟩ := h
    rfl
  obtain ⟨i, rfl, q⟩ := h
  have nd := sc_is_integer.nd
  refine ⟨_, (pss_one (ps_ret (pe_and (e_isi T (pa_cons (pv 0) (pa_cons (e_ty T.int bt_int) pa_nil))) (pe_one (pe_not (e_isi T (pa_cons (pv 0) (pa_cons (e_ty T.bool bt_bool) pa_nil)))))))), ?_⟩
  exact ⟨_, rfl, _, _, _, _, _, rfl, .ty _, .base (.int i), kit_ty (kit_int (.int i)), _, rfl, iteT ⟨_, rfl, _, _, _, _, _, rfl, .ty _, .base (.int i), kit_ty (kit_bool (.int i)), _, rfl, q _ (Kp.refl _ _)⟩⟩
theorem ok_is_within (F : Fun K "is_within" "is_within" s_is_within f fd) (T : Txt K mg) (D_is_integer : Def P w K mg base "is_integer" 1 ["value"] spIsInt) : FnOk P w K mg base CX0 2 f fd ["value", "least", "most"] spWithin := by
  refine F.ok sc_is_within (fun vs H Q E h => ?_) (fun cdv A outer s H vs Q E hr h => ?_)
  · obtain ⟨i, a, b, rfl, _⟩ := h
    rfl
  obtain ⟨i, a, b, rfl, q⟩ := h
  have nd := sc_is_within.nd
  refine ⟨_, (pss_one (ps_ret (pe_and (e_fn D_is_integer (hr.mono (by omega)) (pa_cons (pv 0) pa_nil)) (pe_one (pe_chain op_le op_le (pv 1) (pv 0) (pv 2)))))), ?_⟩
  refine ⟨_, rfl, i, rfl, fun H1 k1 => ⟨_, rfl, iteT ?_⟩⟩
  refine ⟨_, rfl, _, rfl, _, _, rfl, rfl, _, rfl, ?_⟩
  have := q _ k1
  by_cases h : a ≤ i
  · rw [decide_eq_true h] at this ⊢
    exact iteT ⟨_, rfl, _, _, rfl, rfl, this⟩
  · rw [decide_eq_false h] at this ⊢
    exact iteF this
theorem ok_value_bits (F : Fun K "value_bits" "value_bits" s_value_bits f fd) (T : Txt K mg) : FnOk P w K mg base CX0 1 f fd ["value"] spVB := by
  refine F.ok sc_value_bits (fun vs H Q E h => ?_) (fun cdv A outer s H vs Q E hr h => ?_)
  · obtain ⟨x, v, rfl, _⟩ := h
    rfl
  obtain ⟨x, v, rfl, ⟨a, rfl, ha⟩, hk, hl, q⟩ := h
  have nd := sc_value_bits.nd
  refine ⟨_, (pss_cons (ps_set (i := 1) nd rfl (Or.inl rfl) pe_int)
      (pss_cons (ps_for PassesOwn.never rfl (pi_tup (pv 0)) (pg_name (i := 2) nd rfl (Or.inl rfl)) (pss_one (ps_set (i := 1) nd rfl (Or.inl rfl) (pe_op op_or (pv 1) (pe_op op_shl pe_int (pv 2))))))
      (pss_one (ps_ret (pv 1))))), ?_⟩
  refine ⟨_, rfl, a, rfl, ⟨_, tupT ha⟩, ?_⟩
  refine for_it (n := (v.map fun k : Nat => V.int k).length) walk_tup (fun i σ H' => ∃ (b : Nat) (o : Option V), σ = [some (.ref a), some (.int (b : Int)), o] ∧ H' = H ∧ Msk b (v.take i)) ⟨0, none, rfl, rfl, Msk.zero⟩ (fun i σ H' _ ⟨_, _, _, e, _⟩ => by rw [e]; exact tupT ha) ?_ ?_
  · rintro i y σ _ H1 hi ⟨b, o, rfl, rfl, hm⟩ ⟨rfl, hy⟩
    rw [List.getElem?_map] at hy
    obtain ⟨k, hk', rfl⟩ := Option.map_eq_some_iff.mp hy
    have hkl := hk k (List.mem_of_getElem? hk')
    refine ⟨_, rfl, _, rfl, _, _, rfl, rfl, ⟨by omega, by omega, by decide⟩, _, _, rfl, rfl, ?_⟩
    refine ⟨b ||| 2 ^ k, some (.int k), ?_, rfl, ?_⟩
    · have e : Builtin.bitOr (b : Int) (1 * 2 ^ (k : Int).toNat) = ((b ||| 2 ^ k : Nat) : Int) := by
        rw [Int.one_mul, Int.toNat_natCast, Bits.bitOr_pp (Int.natCast_nonneg _) (two_pow_nn k)]
        have : ((2 : Int) ^ k).toNat = 2 ^ k := by rw [two_pow_cast]; rfl
        rw [this, Int.toNat_natCast]
      dsimp only
      rw [e]; rfl
    · rw [List.take_add_one, hk']
      exact hm.or (Msk.one k)
  · rintro σ H1 ⟨b, o, rfl, rfl, hm⟩
    rw [List.length_map, List.take_of_length_le (Nat.le_refl _)] at hm
    exact ⟨_, rfl, q _ b (Kp.refl _ _) hm⟩
theorem ok_bits_value (F : Fun K "bits_value" "bits_value" s_bits_value f fd) (T : Txt K mg) : FnOk P w K mg base CX0 1 f fd ["bits", "points"] spBV := by
  refine F.ok sc_bits_value (fun vs H Q E h => ?_) (fun cdv A outer s H vs Q E hr h => ?_)
  · obtain ⟨b, n, rfl, _⟩ := h
    rfl
  obtain ⟨b, n, rfl, hn, q⟩ := h
  have nd := sc_bits_value.nd
  refine ⟨_, (pss_one (ps_ret (pe_callTy call_tuple_of (by rfl) T.tuple bt_tuple (pa_cons (pe_lc (own := [("point", 2)]) (g := gName 2) rfl nd (pi_range1 rfl T.range (pa_cons (pv 1) pa_nil)) (blkOk_by (N := N_bits_value) (sc := defScope s_bits_value) (by decide +kernel)) (fun _ _ _ _ _ => pg_name (i := 2) nd rfl (Or.inl rfl)) (fun _ _ _ _ _ => pts_one (pt_cmpR op_eq (pe_op op_and (pe_op op_shr (pv 0) (pv 2)) pe_int) pe_int (nomark _))) (fun _ _ _ _ _ => (pv 2))) pa_nil)))), ?_⟩
  refine ⟨_, rfl, n, rfl, by omega, by omega, fun D hD => ?_⟩
  refine lc_it (n := (n : Int).toNat) walk_range (fun i H' => Kp [] H H' ∧ H' D = some (.lst ((vl i fun p => b.testBit p).map fun k : Nat => V.int k))) ⟨Kp.new hD, upd_same⟩ (fun _ _ _ _ => trivial) ?_ ?_
  · rintro i y _ H1 hi ⟨k1, hD1⟩ ⟨rfl, rfl⟩
    have e0 : (0 : Int) + (i : Int) = (i : Int) := by omega
    dsimp only [gName]
    rw [e0]
    refine ⟨rfl, _, rfl, _, rfl, _, _, rfl, rfl, by omega, _, _, rfl, rfl, rfl, _, rfl, ?_⟩
    have ev : vl (i + 1) (fun p => b.testBit p) = vl i (fun p => b.testBit p) ++ (if b.testBit i = true then [i] else []) := by
      unfold vl
      rw [List.range_succ, List.filter_append]
      congr 1
      by_cases h : b.testBit i = true
      · rw [if_pos h]; simp [h]
      · rw [if_neg h]; simp [h]
    have hb : (decide (V.int (Builtin.bitAnd ((b : Int) / 2 ^ (i : Int).toNat) 1) = V.int 1) = true) ↔ b.testBit i = true := by
      rw [decide_eq_true_iff, V.int.injEq, Int.toNat_natCast]
      exact bit_at i
    refine ite2 (fun hc => ?_) (fun hc => ?_)
    · have hbt := hb.mp hc
      have hvl := vl_len i fun p => b.testBit p
      refine ⟨_, rfl, _, hD1, by rw [List.length_map]; exact small_lt (by omega), k1.put hD, ?_⟩
      rw [upd_same, ev, if_pos hbt, List.map_append]; rfl
    · have hbt : ¬ b.testBit i = true := fun z => hc (hb.mpr z)
      refine ⟨k1, ?_⟩
      rw [ev, if_neg hbt, List.append_nil]; exact hD1
  · rintro H1 ⟨k1, hD1⟩
    rw [Int.toNat_natCast] at hD1
    exact ⟨D, _, rfl, .inl ⟨SqL.of hD1, fun p hp => q _ _ (k1.add hp) ⟨p, rfl, upd_same⟩⟩⟩
end
end N0

namespace N0
open PySem L2 PySem.Spec PyProof.Rows
def sdf (n : Nat) (l : Addr) : List (Str × V) := [("points", .int n), ("every", .int ((2 ^ n - 1 : Nat) : Int)), ("apart", .ref l)]
theorem sdf_p (n : Nat) (l : Addr) : (sdf n l).lookup ("points" : Str) = some (.int n) := by with_unfolding_all rfl
theorem sdf_e (n : Nat) (l : Addr) : (sdf n l).lookup ("every" : Str) = some (.int ((2 ^ n - 1 : Nat) : Int)) := by with_unfolding_all rfl
theorem sdf_a (n : Nat) (l : Addr) : (sdf n l).lookup ("apart" : Str) = some (.ref l) := by with_unfolding_all rfl
theorem sdf_co (n : Nat) (l : Addr) : (sdf n l).lookup ("contrary" : Str) = none := by with_unfolding_all rfl
theorem sdf_cl (n : Nat) (l : Addr) : (sdf n l).lookup ("closure" : Str) = none := by with_unfolding_all rfl
/-- the masks of the points -/
def MsksOk (n : Nat) (ps : List (Nat × Nat)) (ms : List V) : Prop := ms.length = n ∧ ∀ x, x < n → ∃ m : Nat, ms[x]? = some (.int m) ∧ Msk m (con n ps [x])
def SdAt (C : Addr) (H : Hp) (p l : Addr) (n : Nat) (ps : List (Nat × Nat)) : Prop := (∃ dx, H p = some (.ins C dx (sdf n l))) ∧ ∃ ms, H l = some (.lst ms) ∧ MsksOk n ps ms
theorem SdAt.kp {C : Addr} {H H' : Hp} {S : List Addr} {p l : Addr} {n : Nat} {ps : List (Nat × Nat)} (k : Kp S H H') (h : SdAt C H p l n ps) (hS : p ∉ S ∧ l ∉ S) : SdAt C H' p l n ps :=
  let ⟨⟨dx, h1⟩, ms, h2, h3⟩ := h
  ⟨⟨dx, k.k _ _ hS.1 h1⟩, ms, k.k _ _ hS.2 h2, h3⟩
theorem _root_.N0.Kp.cut {S : List Addr} {H H1 H2 : Hp} (a : Kp [] H H1) (b : Kp S H1 H2) (h : ∀ x ∈ S, H x = none) : Kp [] H H2 :=
  ⟨fun c o _ hc => b.k c o (fun z => by rw [h c z] at hc; cases hc) (a.k c o (by simp) hc), fun c xs hc => b.t c xs (a.t c xs hc), fun c hc => a.n c (b.n c hc)⟩
theorem or_shl (b k : Nat) : Builtin.bitOr (b : Int) (1 * 2 ^ (k : Int).toNat) = ((b ||| 2 ^ k : Nat) : Int) := by
  rw [Int.one_mul, Int.toNat_natCast, Bits.bitOr_pp (Int.natCast_nonneg _) (two_pow_nn k)]
  have : ((2 : Int) ^ k).toNat = 2 ^ k := by rw [two_pow_cast]; rfl
  rw [this, Int.toNat_natCast]
theorem bit_at' {b : Nat} (p : Nat) : (Builtin.bitAnd ((b / 2 ^ p : Nat) : Int) 1 = 1) ↔ b.testBit p = true := by
  have e : ((b / 2 ^ p : Nat) : Int) = (b : Int) / 2 ^ p := by
    rw [Int.natCast_ediv, Int.natCast_pow]; rfl
  rw [e]; exact bit_at p
theorem and_nat (a b : Nat) : Builtin.bitAnd (a : Int) (b : Int) = ((a &&& b : Nat) : Int) := by
  rw [bitAnd_pp (Int.natCast_nonneg _) (Int.natCast_nonneg _), Int.toNat_natCast, Int.toNat_natCast]
theorem half (b t : Nat) : ((b / 2 ^ t : Nat) : Int) / 2 ^ (1 : Int).toNat = ((b / 2 ^ (t + 1) : Nat) : Int) := by
  have e : (2 : Int) ^ (1 : Int).toNat = ((2 : Nat) : Int) := by decide
  rw [e, ← Int.natCast_ediv, Nat.div_div_eq_div_mul, Nat.pow_succ]
theorem rep_one (n : Nat) (v : V) : (List.replicate n [v]).flatten = List.replicate n v := by
  induction n with
  | zero => rfl
  | succ m ih => rw [List.replicate_succ, List.flatten_cons, ih, List.replicate_succ]; rfl
theorem ix_nat {n j : Nat} (h : j < n) : ixN n (j : Int) = some j := by
  unfold ixN
  rw [if_pos (by omega), if_pos (by omega)]; simp
theorem seqJ {a b : TS} {D : Ends} {σ : L2.St} {H : Hp} (Post : L2.St → Hp → Prop) (h1 : ∀ D' : Ends, (∀ σ H, Post σ H → D'.nx σ H) → a D' σ H) (h2 : ∀ σ H, Post σ H → b D σ H) : tSeq a b D σ H := h1 _ h2
theorem ap_snoc {qs : List (Nat × Nat)} {a b x y : Nat} (hab : a < b) : ap (qs ++ [(a, b)]) x y = (ap qs x y || decide (x = a ∧ y = b) || decide (x = b ∧ y = a)) := by
  unfold ap
  rw [Bool.eq_iff_iff]
  simp only [Bool.or_eq_true, decide_eq_true_iff, List.mem_append, List.mem_singleton, Prod.mk.injEq, or_assoc]
  constructor
  · rintro (h | ⟨h1, h2⟩)
    · exact .inl h
    · rcases Nat.le_total x y with z | z
      · rw [Nat.min_eq_left z] at h1; rw [Nat.max_eq_right z] at h2; exact .inr (.inl ⟨h1, h2⟩)
      · rw [Nat.min_eq_right z] at h1; rw [Nat.max_eq_left z] at h2; exact .inr (.inr ⟨h2, h1⟩)
  · rintro (h | ⟨rfl, rfl⟩ | ⟨rfl, rfl⟩)
    · exact .inl h
    · exact .inr ⟨Nat.min_eq_left (by omega), Nat.max_eq_right (by omega)⟩
    · exact .inr ⟨Nat.min_eq_right (by omega), Nat.max_eq_left (by omega)⟩
theorem con1 {n : Nat} {ps : List (Nat × Nat)} {x y : Nat} : y ∈ con n ps [x] ↔ y < n ∧ ap ps x y = true := by rw [mem_con]; simp
theorem con_nil1 {n : Nat} {x : Nat} : con n [] [x] = [] := by
  apply List.eq_nil_iff_forall_not_mem.mpr
  intro y hy
  have := (con1.mp hy).2
  simp [ap] at this
/-- one pair more -/
theorem MsksOk.step {n : Nat} {qs : List (Nat × Nat)} {ms : List V} {a b ma mb : Nat} (h : MsksOk n qs ms) (hab : a < b) (hb : b < n) (ha' : ms[a]? = some (.int ma)) (hb' : ms[b]? = some (.int mb)) :
    MsksOk n (qs ++ [(a, b)]) ((ms.set a (.int ((ma ||| 2 ^ b : Nat) : Int))).set b (.int ((mb ||| 2 ^ a : Nat) : Int))) := by
  refine ⟨by rw [List.length_set, List.length_set]; exact h.1, fun x hx => ?_⟩
  obtain ⟨m, hm, hmM⟩ := h.2 x hx
  by_cases e1 : x = b
  · subst e1
    rw [hb'] at hm; cases hm
    refine ⟨mb ||| 2 ^ a, List.getElem?_set_self (by rw [List.length_set, h.1]; exact hb), (hmM.or (Msk.one a)).ext fun y => ?_⟩
    rw [List.mem_append, List.mem_singleton, con1, con1, ap_snoc hab]
    simp only [Bool.or_eq_true, decide_eq_true_iff]
    constructor
    · rintro (⟨h1, h2⟩ | rfl)
      · exact ⟨h1, .inl (.inl h2)⟩
      · exact ⟨by omega, .inr ⟨trivial, rfl⟩⟩
    · rintro ⟨h1, (h2 | h2) | h2⟩
      · exact .inl ⟨h1, h2⟩
      · omega
      · exact .inr h2.2
  · rw [List.getElem?_set_ne (fun z => e1 z.symm)]
    by_cases e2 : x = a
    · subst e2
      rw [ha'] at hm; cases hm
      refine ⟨ma ||| 2 ^ b, List.getElem?_set_self (by rw [h.1]; exact hx), (hmM.or (Msk.one b)).ext fun y => ?_⟩
      rw [List.mem_append, List.mem_singleton, con1, con1, ap_snoc hab]
      simp only [Bool.or_eq_true, decide_eq_true_iff]
      constructor
      · rintro (⟨h1, h2⟩ | rfl)
        · exact ⟨h1, .inl (.inl h2)⟩
        · exact ⟨by omega, .inl (.inr ⟨trivial, rfl⟩)⟩
      · rintro ⟨h1, (h2 | h2) | h2⟩
        · exact .inl ⟨h1, h2⟩
        · exact .inr h2.2
        · omega
    · refine ⟨m, by rw [List.getElem?_set_ne (fun z => e2 z.symm)]; exact hm, hmM.ext fun y => ?_⟩
      rw [con1, con1, ap_snoc hab]
      have : (decide (x = a ∧ y = b) || decide (x = b ∧ y = a)) = false := by simp [e1, e2]
      rw [Bool.or_assoc, this, Bool.or_false]
structure SCc (K : PySem.W.Frag) (mg : Str → Option Value) (C : Addr) : Prop where
  cl : Cls K C
  np : NoAttr K C "points"
  ne : NoAttr K C "every"
  na : NoAttr K C "apart"
  mgC : mg "Sides" = some (.ref C)
def spSInit (C : Addr) : Sp := fun vs H Q _ => ∃ (p dx : Addr) (v : V) (n : Nat) (ps : List (Nat × Nat)), vs = [.ref p, v] ∧ H p = some (.ins C dx []) ∧ FrV H n ps v ∧ FrOk n ps ∧
  ∀ H' l, Kp [p] H H' → H l = none → SdAt C H' p l n ps → Q .non H'
section
variable {X : Cx} {C : Addr} {e : Expr} {p pos : Pos} {t : TA}
theorem e_mkS (c : SCc X.K X.mg C) (M : IDef X.prog X.w X.K X.mg X.base C 2 ["self", "frame"] (spSInit C)) (hr : Room 3 X.A) (ha : PA X [e] t) (hg : Gl X "Sides" := by rfl)
    (he : starEach [e] X.env = (false, eval e X.env) :: starEach [] X.env := by rfl) (hpl : (backTo pos (starEach [] X.env)).any (·.1) = false := by rfl) : PE X (.Call (.Name "Sides" p) [e] [] pos) (tMake C (spSInit C) [] E0 t) := by
  obtain ⟨f, fd, F, hm, hb⟩ := M.ex
  exact pe_make (pos := pos) (p := p) hm F hr hg c.mgC hb .nil (pass0 (X := X)) ha (by decide) he hpl
/-- Sides(frame), read -/
theorem mkS_read {H : Hp} {v : V} {n : Nat} {ps : List (Nat × Nat)} {Q : VK} (hv : FrV H n ps v) (hok : FrOk n ps) (q : ∀ H' p l, Kp [] H H' → H p = none → H l = none → SdAt C H' p l n ps → Q (.ref p) H') :
    ∀ x dx, H x = none → H dx = none → dx ≠ x → spSInit C (.ref x :: ([v] ++ [])) (upd (upd H dx (.own x)) x (.ins C dx [])) (fun v H2 => v = .non ∧ Q (.ref x) H2) E0 := by
  intro x dx nx ndx nex
  have k0 : Kp [] H (upd (upd H dx (.own x)) x (.ins C dx [])) := (Kp.new ndx).add (by rw [upd_ne (Ne.symm nex)]; exact nx)
  refine ⟨x, dx, v, n, ps, rfl, upd_same, hv.kp k0, hok, fun H' l k hl hS => ⟨rfl, q H' x l (k0.cut k (by simp [nx])) nx (k0.n _ hl) hS⟩⟩
end
section
variable {P : Program} {w : World} {K : PySem.W.Frag} {mg : Str → Option Value} {base : Heap} {f C : Addr} {fd : FuncData}
theorem ok_sinit (F : Fun K "__init__" "Sides.__init__" s_Sides___init__ f fd) (T : Txt K mg) (SC : SCc K mg C) : FnOk P w K mg base CX0 1 f fd ["self", "frame"] (spSInit C) := by
  refine F.ok sc_Sides___init__ (fun vs H Q E h => ?_) (fun cdv A outer s H vs Q E hr h => ?_)
  · obtain ⟨p, dx, v, n, ps, rfl, _⟩ := h
    rfl
  obtain ⟨p, dx, v, n, ps, rfl, hp, ⟨a, b, rfl, ha, hb⟩, hok, q⟩ := h
  have nd := sc_Sides___init__.nd
  refine ⟨_, (pss_cons (ps_fld (pv 0) (pe_ix ix_tup (pv 1) pe_int (fun _ _ => rfl)) rfl)
      (pss_cons (ps_fld (pv 0) (pe_op op_sub (pe_op op_shl pe_int (pe_ix ix_tup (pv 1) pe_int (fun _ _ => rfl))) pe_int) rfl)
      (pss_cons (ps_fld (pv 0) (pe_op op_rep (pe_lst (pa_cons pe_int pa_nil)) (pe_ix ix_tup (pv 1) pe_int (fun _ _ => rfl))) rfl)
      (pss_one (ps_for PassesOwn.never rfl (pi_tup (pe_ix ix_tup (pv 1) pe_int (fun _ _ => rfl))) (pg_tup rfl (pgs_cons (pg_name (i := 2) nd rfl (Or.inl rfl)) (pgs_cons (pg_name (i := 3) nd rfl (Or.inl rfl)) pgs_nil))) (pss_cons (ps_asg (pe_op op_or (pe_ix ix_list (pe_fld (pv 0) rfl) (pv 2) (fun _ _ => rfl)) (pe_op op_shl pe_int (pv 3))) (pg_sub (pe_fld (pv 0) rfl) (pv 2) set_list))
      (pss_one (ps_asg (pe_op op_or (pe_ix ix_list (pe_fld (pv 0) rfl) (pv 3) (fun _ _ => rfl)) (pe_op op_shl pe_int (pv 2))) (pg_sub (pe_fld (pv 0) rfl) (pv 3) set_list))))))))), ?_⟩
  refine ⟨_, rfl, a, _, 0, _, rfl, rfl, tupT ha, atI_nat (j := 0) rfl, _, rfl, p, C, dx, [], rfl, hp, SC.cl, SC.np, (by decide), ?_⟩
  have k1 : Kp [p] H (upd H p (.ins C dx (putF "points" (.int n) []))) := (Kp.refl _ _).wr (by simp) hp (by intro xs z; cases z)
  refine ⟨_, rfl, a, _, 0, _, rfl, rfl, tupT (k1.t _ _ ha), atI_nat (j := 0) rfl, _, _, rfl, rfl, ⟨by omega, by have := hok.2.1; omega, by decide⟩, _, _, rfl, rfl, _, rfl, p, C, dx, _, rfl, upd_same, SC.cl, SC.ne, ?_, ?_⟩
  · rw [show putF "points" (V.int n) [] = [(("points" : Str), V.int n)] from by with_unfolding_all rfl]; simp
  have ee : (1 : Int) * 2 ^ (n : Int).toNat - 1 = ((2 ^ n - 1 : Nat) : Int) := by
    rw [Int.one_mul, Int.toNat_natCast, two_pow_cast]
    have := Nat.one_le_two_pow (n := n)
    omega
  dsimp only
  rw [ee]
  have k2 : Kp [p] H (upd (upd H p (.ins C dx (putF "points" (.int n) []))) p (.ins C dx (putF "every" (.int ((2 ^ n - 1 : Nat) : Int)) (putF "points" (.int n) [])))) := k1.wr (by simp) upd_same (by intro xs z; cases z)
  have g2 : upd (upd H p (.ins C dx (putF "points" (.int n) []))) p (.ins C dx (putF "every" (.int ((2 ^ n - 1 : Nat) : Int)) (putF "points" (.int n) []))) p = some (.ins C dx (putF "every" (.int ((2 ^ n - 1 : Nat) : Int)) (putF "points" (.int n) []))) := upd_same
  generalize upd (upd H p (.ins C dx (putF "points" (.int n) []))) p (.ins C dx (putF "every" (.int ((2 ^ n - 1 : Nat) : Int)) (putF "points" (.int n) []))) = H2 at k2 g2 ⊢
  refine ⟨small_le (by simp), fun z0 hz0 => ?_⟩
  have kz : Kp [p] H2 (upd H2 z0 (.lst [.int 0])) := Kp.new hz0
  have gz : upd H2 z0 (.lst [.int 0]) z0 = some (.lst [.int 0]) := upd_same
  have npz : p ≠ z0 := ne_of_none g2 hz0
  have g3 : upd H2 z0 (.lst [.int 0]) p = some (.ins C dx (putF "every" (.int ((2 ^ n - 1 : Nat) : Int)) (putF "points" (.int n) []))) := by rw [upd_ne npz]; exact g2
  generalize upd H2 z0 (.lst [.int 0]) = H3 at kz gz g3 ⊢
  have k3 := k2.trans kz
  refine ⟨_, rfl, a, _, 0, _, rfl, rfl, tupT (k3.t _ _ ha), atI_nat (j := 0) rfl, z0, _, _, rfl, rfl, gz, by omega, by have := hok.2.1; omega, ?_, fun l hl => ?_⟩
  · simp; exact small_le (by have := hok.2.1; omega)
  have kl : Kp [p] H3 (upd H3 l (.lst (List.replicate (n : Int).toNat [V.int 0]).flatten)) := Kp.new hl
  have gl : upd H3 l (.lst (List.replicate (n : Int).toNat [V.int 0]).flatten) l = some (.lst (List.replicate (n : Int).toNat [V.int 0]).flatten) := upd_same
  have npl : p ≠ l := ne_of_none g3 hl
  have hlH : H l = none := k3.n _ hl
  have g4 : upd H3 l (.lst (List.replicate (n : Int).toNat [V.int 0]).flatten) p = some (.ins C dx (putF "every" (.int ((2 ^ n - 1 : Nat) : Int)) (putF "points" (.int n) []))) := by rw [upd_ne npl]; exact g3
  generalize upd H3 l (.lst (List.replicate (n : Int).toNat [V.int 0]).flatten) = H4 at kl gl g4 ⊢
  have k4 := k3.trans kl
  have hm0 : MsksOk n [] (List.replicate (n : Int).toNat [V.int 0]).flatten := by
    have e : (List.replicate (n : Int).toNat [V.int 0]).flatten = List.replicate n (V.int 0) := by
      rw [Int.toNat_natCast, rep_one]
    rw [e]
    refine ⟨List.length_replicate .., fun x hx => ⟨0, by rw [List.getElem?_replicate, if_pos hx]; rfl, ?_⟩⟩
    rw [con_nil1]; exact Msk.zero
  generalize (List.replicate (n : Int).toNat [V.int 0]).flatten = m0 at gl hm0
  refine ⟨_, rfl, p, C, dx, _, rfl, g4, SC.cl, SC.na, ?_, ?_⟩
  · rw [show putF "every" (V.int ((2 ^ n - 1 : Nat) : Int)) (putF "points" (V.int n) []) = [(("points" : Str), V.int n), (("every" : Str), V.int ((2 ^ n - 1 : Nat) : Int))] from by with_unfolding_all rfl]; simp
  have hf : putF "apart" (.ref l) (putF "every" (.int ((2 ^ n - 1 : Nat) : Int)) (putF "points" (.int n) [])) = sdf n l := by with_unfolding_all rfl
  rw [hf]
  have k5 : Kp [p] H (upd H4 p (.ins C dx (sdf n l))) := k4.wr (by simp) g4 (by intro xs z; cases z)
  have g5 : upd H4 p (.ins C dx (sdf n l)) p = some (.ins C dx (sdf n l)) := upd_same
  have gl5 : upd H4 p (.ins C dx (sdf n l)) l = some (.lst m0) := by rw [upd_ne (Ne.symm npl)]; exact gl
  generalize upd H4 p (.ins C dx (sdf n l)) = H5 at k5 g5 gl5 ⊢
  obtain ⟨ys, hys, hyl, hyp⟩ := hb
  refine ⟨_, rfl, a, _, 1, _, rfl, rfl, tupT (k5.t _ _ ha), atI_nat (j := 1) rfl, b, rfl, ⟨_, tupT (k5.t _ _ hys)⟩, ?_⟩
  refine for_it (n := ys.length) walk_tup (fun i σ H' => ∃ (ms : List V) (o2 o3 : Option V), σ = [some (.ref p), some (.ref a), o2, o3] ∧ Kp [p] H H' ∧ H' p = some (.ins C dx (sdf n l)) ∧ H' l = some (.lst ms) ∧ MsksOk n (ps.take i) ms)
    ⟨m0, none, none, rfl, k5, g5, gl5, hm0⟩ (fun i σ H' _ ⟨_, _, _, _, k, _⟩ => tupT (k.t _ _ hys)) ?_ ?_
  · rintro i y σ _ H6 hi ⟨ms, o2, o3, rfl, k6, g6, gl6, hm6⟩ ⟨rfl, hy⟩
    have hi2 : i < ps.length := by omega
    have hpi : ps[i]? = some ps[i] := List.getElem?_eq_getElem hi2
    have hpm := hok.2.2.1.1 ps[i] (List.getElem_mem hi2)
    generalize ps[i] = pr at hpi hpm
    obtain ⟨x, z⟩ := pr
    obtain ⟨c, e1, e2⟩ := hyp i _ hpi
    rw [e1] at hy; cases hy
    have hxn : x < n := by have := hpm.1; have := hpm.2; simp only at *; omega
    obtain ⟨mx, hmx, hmxM⟩ := hm6.2 x hxn
    obtain ⟨mz, hmz, hmzM⟩ := hm6.2 z hpm.2
    refine ⟨c, _, rfl, tupT (k6.t _ _ e2), rfl, _, _, rfl, _, _, rfl, rfl, ?_⟩
    have hx600 : x < 600 ∧ z < 600 := by have := hok.2.1; have := hpm.2; omega
    have hxz : x < z := hpm.1
    refine ⟨_, rfl, p, C, dx, _, _, rfl, g6, SC.cl, SC.na, sdf_a n l, _, rfl, l, ms, _, _, rfl, rfl, SqL.of gl6, atI_nat hmx, _, rfl, _, _, rfl, rfl, ⟨by omega, by omega, by decide⟩, _, _, rfl, rfl, ?_⟩
    refine ⟨_, rfl, p, C, dx, _, _, rfl, g6, SC.cl, SC.na, sdf_a n l, _, rfl, l, ms, _, x, rfl, rfl, gl6, ix_nat (by rw [hm6.1]; exact hxn), ?_⟩
    dsimp only
    rw [or_shl]
    have npl6 : p ≠ l := fun w => by rw [w, gl6] at g6; cases g6
    have k7 : Kp [p] H (upd H6 l (.lst (ms.set x (.int ((mx ||| 2 ^ z : Nat) : Int))))) := k6.put hlH
    have g7 : upd H6 l (.lst (ms.set x (.int ((mx ||| 2 ^ z : Nat) : Int)))) p = some (.ins C dx (sdf n l)) := by rw [upd_ne npl6]; exact g6
    have gl7 : upd H6 l (.lst (ms.set x (.int ((mx ||| 2 ^ z : Nat) : Int)))) l = some (.lst (ms.set x (.int ((mx ||| 2 ^ z : Nat) : Int)))) := upd_same
    have hmz7 : (ms.set x (.int ((mx ||| 2 ^ z : Nat) : Int)))[z]? = some (.int mz) := by rw [List.getElem?_set_ne (by omega)]; exact hmz
    generalize upd H6 l (.lst (ms.set x (.int ((mx ||| 2 ^ z : Nat) : Int)))) = H7 at k7 g7 gl7 ⊢
    refine ⟨_, rfl, p, C, dx, _, _, rfl, g7, SC.cl, SC.na, sdf_a n l, _, rfl, l, _, _, _, rfl, rfl, SqL.of gl7, atI_nat hmz7, _, rfl, _, _, rfl, rfl, ⟨by omega, by omega, by decide⟩, _, _, rfl, rfl, ?_⟩
    refine ⟨_, rfl, p, C, dx, _, _, rfl, g7, SC.cl, SC.na, sdf_a n l, _, rfl, l, _, _, z, rfl, rfl, gl7, ix_nat (by rw [List.length_set, hm6.1]; exact hpm.2), ?_⟩
    dsimp only
    rw [or_shl]
    refine ⟨_, _, _, rfl, k7.put hlH, by rw [upd_ne npl6]; exact g7, upd_same, ?_⟩
    rw [List.take_add_one, hpi]
    exact hm6.step hxz hpm.2 hmx hmz
  · rintro σ H6 ⟨ms, o2, o3, rfl, k6, g6, gl6, hm6⟩
    rw [List.take_of_length_le (by omega)] at hm6
    exact q _ l k6 hlH ⟨⟨dx, g6⟩, ms, gl6, hm6⟩
def spCon (C : Addr) : Sp := fun vs H Q _ => ∃ (p l : Addr) (n : Nat) (ps : List (Nat × Nat)) (b : Nat) (v : List Nat), vs = [.ref p, .int b] ∧ SdAt C H p l n ps ∧ FrOk n ps ∧ Msk b v ∧ (∀ x ∈ v, x < n) ∧
  ∀ H' (c : Nat), Kp [] H H' → Msk c (con n ps v) → Q (.int c) H'
def spClo (C : Addr) : Sp := fun vs H Q _ => ∃ (p l : Addr) (n : Nat) (ps : List (Nat × Nat)) (b : Nat) (v : List Nat), vs = [.ref p, .int b] ∧ SdAt C H p l n ps ∧ FrOk n ps ∧ Msk b v ∧ (∀ x ∈ v, x < n) ∧
  ∀ H' (c : Nat), Kp [] H H' → Msk c (clo n ps v) → Q (.int c) H'
theorem ok_contrary (F : Fun K "contrary" "Sides.contrary" s_Sides_contrary f fd) (T : Txt K mg) (SC : SCc K mg C) : FnOk P w K mg base CX0 1 f fd ["self", "bits"] (spCon C) := by
  refine F.ok sc_Sides_contrary (fun vs H Q E h => ?_) (fun cdv A outer s H vs Q E hr h => ?_)
  · obtain ⟨p, l, n, ps, b, v, rfl, _⟩ := h
    rfl
  obtain ⟨p, l, n, ps, b, v, rfl, ⟨⟨dx, hp⟩, ms, hl, hm⟩, hok, hb, hv, q⟩ := h
  have nd := sc_Sides_contrary.nd
  refine ⟨_, (pss_cons (ps_par3 (i := 2) (j := 3) (l := 4) rfl nd rfl rfl rfl (by decide) (by decide) (by decide) rfl rfl rfl (pa_cons (pe_fld (pv 0) rfl) (pa_cons (pv 1) (pa_cons pe_int pa_nil))) rfl)
      (pss_cons (ps_while PassesOwn.never (pt_cmpR op_gt (pv 3) pe_int (nomark _)) (pss_cons (ps_if (pt_cmpR op_eq (pe_op op_and (pv 3) pe_int) pe_int (nomark _)) (pss_one (ps_set (i := 2) nd rfl (Or.inl rfl) (pe_op op_and (pv 2) (pe_ix ix_list (pe_fld (pv 0) rfl) (pv 4) (fun _ _ => rfl))))) pss_nil)
      (pss_one (ps_par (i := 3) (j := 4) rfl nd rfl rfl (by decide) rfl rfl (pa_cons (pe_op op_shr (pv 3) pe_int) (pa_cons (pe_op op_add (pv 4) pe_int) pa_nil)) rfl))))
      (pss_one (ps_ret (pv 2))))), ?_⟩
  refine ⟨_, rfl, p, C, dx, _, _, rfl, hp, SC.cl, SC.ne, sdf_e n l, _, rfl, _, _, _, rfl, ?_⟩
  refine ⟨fun m σ H' => ∃ (c t : Nat), σ = [some (.ref p), some (.int b), some (.int c), some (.int ((b / 2 ^ t : Nat) : Int)), some (.int t)] ∧ H' = H ∧ Msk c (vl n fun y => v.all fun x => decide (t ≤ x) || ap ps x y) ∧ m = b / 2 ^ t,
    ⟨_, 2 ^ n - 1, 0, by simp; rfl, rfl, ?_, rfl⟩, ?_⟩
  · refine (Msk.every n).ext fun y => ?_
    rw [List.mem_range, mem_vl]; simp
  rintro m σ H1 ⟨c, t, rfl, rfl, hc, rfl⟩
  refine ⟨_, rfl, _, _, rfl, rfl, _, rfl, ?_⟩
  refine ite2 (fun hc0 => ?_) (fun hc0 => ?_)
  · have hpos : 0 < b / 2 ^ t := by have := of_decide_eq_true hc0; omega
    refine ⟨_, fun σ' H' h' => h', ?_⟩
    have hlt : b / 2 ^ (t + 1) < b / 2 ^ t := by
      rw [Nat.pow_succ, ← Nat.div_div_eq_div_mul]
      exact Nat.div_lt_self hpos (by decide)
    refine seqJ (fun σ H' => ∃ c : Nat, σ = [some (.ref p), some (.int b), some (.int c), some (.int ((b / 2 ^ t : Nat) : Int)), some (.int t)] ∧ H' = H1 ∧ Msk c (vl n fun y => v.all fun x => decide (t + 1 ≤ x) || ap ps x y)) (fun D' hD' => ?_) ?_
    · refine ⟨_, rfl, _, _, rfl, rfl, rfl, _, rfl, ?_⟩
      refine ite2 (fun hb1 => ?_) (fun hb1 => ?_)
      · have htb : b.testBit t = true := by
          rw [decide_eq_true_iff, V.int.injEq] at hb1
          exact (bit_at' t).mp hb1
        have htv : t ∈ v := by have := hb t; rw [htb] at this; exact of_decide_eq_true this.symm
        have htn := hv t htv
        obtain ⟨mt, hmt, hmtM⟩ := hm.2 t htn
        refine ⟨_, rfl, _, rfl, p, C, dx, _, _, rfl, hp, SC.cl, SC.na, sdf_a n l, _, rfl, l, ms, _, _, rfl, rfl, SqL.of hl, atI_nat hmt, _, _, rfl, rfl, ?_⟩
        dsimp only
        rw [and_nat]
        refine hD' _ _ ⟨_, rfl, rfl, (hc.and hmtM).ext fun y => ?_⟩
        rw [List.mem_filter, mem_vl, mem_vl, decide_eq_true_iff, con1, List.all_eq_true, List.all_eq_true]
        constructor
        · rintro ⟨⟨h1, h2⟩, h3, h4⟩
          refine ⟨h1, fun x hx => ?_⟩
          have := h2 x hx
          by_cases e : x = t
          · subst e; rw [h4]; simp
          · rw [Bool.or_eq_true, decide_eq_true_iff] at this ⊢
            rcases this with z | z
            · exact .inl (by omega)
            · exact .inr z
        · rintro ⟨h1, h2⟩
          refine ⟨⟨h1, fun x hx => ?_⟩, h1, ?_⟩
          · have := h2 x hx
            rw [Bool.or_eq_true, decide_eq_true_iff] at this ⊢
            rcases this with z | z
            · exact .inl (by omega)
            · exact .inr z
          · have := h2 t htv
            rw [Bool.or_eq_true, decide_eq_true_iff] at this
            rcases this with z | z
            · omega
            · exact z
      · have htb : ¬ t ∈ v := fun z => hb1 (by
          rw [decide_eq_true_iff, V.int.injEq]
          exact (bit_at' t).mpr (by rw [hb t]; exact decide_eq_true z))
        refine hD' _ _ ⟨c, rfl, rfl, hc.ext fun y => ?_⟩
        rw [mem_vl, mem_vl, List.all_eq_true, List.all_eq_true]
        refine and_congr_right fun _ => forall_congr' fun x => ?_
        constructor
        · intro h hx
          have := h hx
          have hne : x ≠ t := fun e => htb (e ▸ hx)
          rw [Bool.or_eq_true, decide_eq_true_iff] at this ⊢
          rcases this with z | z
          · exact .inl (by omega)
          · exact .inr z
        · intro h hx
          have := h hx
          rw [Bool.or_eq_true, decide_eq_true_iff] at this ⊢
          rcases this with z | z
          · exact .inl (by omega)
          · exact .inr z
    · rintro σ H2 ⟨c', rfl, rfl, hc'⟩
      refine ⟨_, rfl, _, _, rfl, rfl, (show (0 : Int) ≤ 1 by decide), _, rfl, _, _, rfl, rfl, _, _, rfl, ?_⟩
      dsimp only
      rw [half]
      exact ⟨_, hlt, c', t + 1, by simp, rfl, hc', rfl⟩
  · have h0 : b / 2 ^ t = 0 := by
      have : ¬ (0 : Int) < ((b / 2 ^ t : Nat) : Int) := fun z => hc0 (decide_eq_true z)
      rcases Nat.eq_zero_or_pos (b / 2 ^ t) with z | z
      · exact z
      · exact absurd (Int.natCast_pos.mpr z) this
    refine ⟨_, rfl, q _ c (Kp.refl _ _) (hc.ext fun y => ?_)⟩
    rw [mem_vl, mem_con, List.all_eq_true]
    refine and_congr_right fun _ => forall_congr' fun x => ?_
    constructor
    · intro h hx
      have := h hx
      rw [Bool.or_eq_true, decide_eq_true_iff] at this
      rcases this with z | z
      · have h1 := shr_zero h0 x z
        rw [hb x, decide_eq_true hx] at h1; cases h1
      · exact z
    · intro h hx
      rw [h hx]; simp
theorem ok_closure (F : Fun K "closure" "Sides.closure" s_Sides_closure f fd) (T : Txt K mg) (SC : SCc K mg C) (D_contrary : MDef P w K mg base C "contrary" 1 ["self", "bits"] (spCon C)) : FnOk P w K mg base CX0 2 f fd ["self", "bits"] (spClo C) := by
  refine F.ok sc_Sides_closure (fun vs H Q E h => ?_) (fun cdv A outer s H vs Q E hr h => ?_)
  · obtain ⟨p, l, n, ps, b, v, rfl, _⟩ := h
    rfl
  obtain ⟨p, l, n, ps, b, v, rfl, hS, hok, hb, hv, q⟩ := h
  have nd := sc_Sides_closure.nd
  refine ⟨_, (pss_one (ps_ret (e_meth SC.cl D_contrary (hr.mono (by omega)) (pv 0) (pa_cons (e_meth SC.cl D_contrary (hr.mono (by omega)) (pv 0) (pa_cons (pv 1) pa_nil)) pa_nil)))), ?_⟩
  obtain ⟨dx, hp⟩ := hS.1
  refine ⟨_, rfl, p, dx, _, rfl, hp, sdf_co n l, _, rfl, p, dx, _, rfl, hp, sdf_co n l, _, rfl, ?_⟩
  exact ⟨p, l, n, ps, b, v, rfl, hS, hok, hb, hv, fun H1 c k1 hc => ⟨p, l, n, ps, c, _, rfl, hS.kp k1 (by simp), hok, hc, con_lt, fun H2 d k2 hd => q _ d (k1.trans k2) hd⟩⟩
end
end N0

namespace N0
open PySem L2 PySem.Spec PyProof.Rows
open Sem (wp)
abbrev tupIt (t : Addr) : Obj := { cls := .type "tuple_iterator", data := .fields #[.ref t, .int 0 0] }
abbrev enTup (n : Nat) : Obj := { cls := .type "enumerate", data := .fields #[.none, .bool false, .ref n, rawInt 0, .none, .none] }
theorem meetsEnT (t : Addr) (xs : Array Value) :
    Meets (Builtin.«enumerate.__new__» ⟨[.type "enumerate", .ref t], []⟩) fun _ R s => s.heap.IsTuple t xs ∧
      R (.ok (.ret (.ref (s.heap.push (tupIt t)).objs.size))) { s with heap := (s.heap.push (tupIt t)).push (enTup s.heap.objs.size) } := by
  refine .of_wp fun pr wo A R s h => ?_
  obtain ⟨hp, g, d, tk, os⟩ := s
  obtain ⟨ht, h⟩ := h
  have hsub := sub_enumerate
  have go : ∀ {A' : Around} {E : Value → Shared → Prop} {Q : Value → Shared → Prop}, Q (.ref hp.objs.size) ⟨hp.push (tupIt t), g, d, tk, os⟩ → wpAny (model pr wo) A' (pyIter (.ref t)) Q E ⟨hp, g, d, tk, os⟩ := fun q => wpAny_pyIter_tuple ht q
  wp_walk using go
  refine wpAny_stack_any fun st => wpAny_pure ?_
  split
  · rename_i c _ _ _ _ _
    cases (c == Value.type "enumerate") <;> (wp_walk using go) <;> exact ⟨_, rfl, h⟩
  · wp_walk using go
    exact ⟨_, rfl, h⟩
section
variable {prog : Program} {w : World} {A : Around} {E : Value → Shared → Prop} {s : Shared}
theorem callEnT {t : Addr} {xs : Array Value} {Q : Value → Shared → Prop} (ht : s.heap.IsTuple t xs)
    (q : ∀ g, IsEnum g (s.heap.objs.size + 1) s.heap.objs.size 0 .none → g.IsTupleIter s.heap.objs.size t 0 → (∀ b o, s.heap.get? b = some o → g.get? b = some o) → Q (.ref (s.heap.objs.size + 1)) { s with heap := g }) :
    wpAny (model prog w) A (call (.type "enumerate") [.ref t]) Q E s := by
  have sz : (s.heap.push (tupIt t)).objs.size = s.heap.objs.size + 1 := Heap.size_push ..
  have en : ((s.heap.push (tupIt t)).push (enTup s.heap.objs.size)).get? (s.heap.objs.size + 1) = some (enTup s.heap.objs.size) := by
    rw [← sz]; exact Heap.get?_push_size _ rfl
  refine callType_new F.called_enumerate (by decide) (F.typeCall_enumerate_1 _) (F.newCall_enumerate_1 _) (fun o => F.args_object_init_2 o _) F.entry_enumerate_new (meetsEnT t xs) ⟨ht, ?_⟩
  rw [sz]
  exact ⟨⟨_, en, rfl⟩, q _ en ⟨_, Heap.get?_push_of_some _ (Heap.get?_push_size _ rfl), rfl, rfl⟩ fun b o x => Heap.get?_push_of_some _ (Heap.get?_push_of_some _ x)⟩
end
/-- the tuple at a, each item in a new pair -/
def IteT (K : PySem.W.Frag) (a : Addr) : It where
  go := fun i H => ∃ (ts : List V) (x : V), SqT K H a ts ∧ ts[i]? = some x
  yld := fun i H v G => ∃ p x, v = .ref p ∧ H p = none ∧ G = upd H p (.tup [.int (i : Nat), x]) ∧ ∀ ts, SqT K H a ts → ts[i]? = some x
  stop := fun i H => ∃ ts : List V, SqT K H a ts ∧ i = ts.length
theorem isTupNe {h : Heap} {a e it : Addr} {xs : Array Value} {i : Int} {old : Value} (t : h.IsTuple a xs) (he : IsEnum h e it i old) : e ≠ a := by
  rintro rfl
  obtain ⟨o, ho, hc, _⟩ := t
  obtain rfl := Option.some.inj (ho.symm.trans he)
  exact absurd hc (by simp)
theorem isTupNeI {h : Heap} {a it : Addr} {xs : Array Value} {j : Nat} (t : h.IsTuple a xs) (he : h.IsTupleIter it a j) : a ≠ it := by
  rintro rfl
  obtain ⟨o, ho, hc, _⟩ := t
  obtain ⟨o', ho', hc', _⟩ := he
  obtain rfl := Option.some.inj (ho.symm.trans ho')
  rw [hc] at hc'
  exact absurd hc' (by simp)
theorem turnEnT {P : Program} {w : World} {K : PySem.W.Frag} {elts : List Expr} {kk : Nat} {tpos : Pos} (a e it : Addr) :
    Turn P w K (.Tuple elts kk tpos) (IteT K a) [e, it] e (fun i h => (∃ old, IsEnum h e it ((i : Nat) : Int) old) ∧ h.IsTupleIter it a i ∧ e ≠ it) where
  mem := List.mem_cons_self ..
  obj := fun i h st b hb => by
    obtain ⟨⟨old, he⟩, ⟨o, ho, hc, hd⟩, _⟩ := st
    rcases List.mem_cons.mp hb with z | z
    · subst z; exact ⟨_, he, fun v y => nomatch y⟩
    · exact ⟨o, List.mem_singleton.mp z ▸ ho, fun v y => by rw [hd] at y; cases y⟩
  keep := fun i h g st k => ⟨st.1.imp fun old he => k e (by simp) _ he, st.2.1.at fun o y => k it (by simp) o y, st.2.2⟩
  item := by
    intro X hP hw hK hc i pins s σ H E I hf st hg
    subst hP hw hK
    obtain ⟨⟨old, he⟩, hit, ne⟩ := st
    obtain ⟨ts, x, hq, hx⟩ := hg
    obtain ⟨us, rv, p, _⟩ := I.tuple hq
    obtain ⟨u, hu, ru⟩ := rv.get hx
    have p' : s.heap.IsTuple a us.toArray := p
    have le : e < s.heap.objs.size := Heap.lt_size he
    have li : it < s.heap.objs.size := by obtain ⟨_, y, _⟩ := hit; exact Heap.lt_size y
    have lt : i < us.toArray.size := by
      have := (List.getElem?_eq_some_iff.mp hu).1
      simpa using this
    have ea : e ∉ [it, a] := by
      have := isTupNe p' he
      simp [ne, this]
    refine wpAny_pyNext_enum_itemD (Draws.tuple (prog := X.prog) (w := X.w) (A := X.A.in1) (I.ok.hd hc) it a (isTupNeI p' hit) us.toArray) he ⟨hit, p'⟩ lt ne ea fun y g tk hy ho st' hT _ hk => ?_
    obtain rfl : u = y := by
      have h1 : us.toArray[i]? = some u := by simpa using hu
      exact Option.some.inj (h1.symm.trans hy)
    refine ⟨_, rfl, wpAny_letOwnedTupleGo_enum (s := { s with heap := g, toks := tk + 1 }) ho fun g2 he2 sb => ?_⟩
    have cT : g2.get? s.heap.objs.size = some { cls := .type "tuple", data := .seq #[.int i tk, u] } := (sb.2 _ (Nat.ne_of_gt le)).trans hT
    have nw : ObjOk X.prog X.w (upd H s.heap.objs.size (.tup [.int (i : Nat), x])) g2 s.heap.objs.size (.tup [.int (i : Nat), x]) :=
      ⟨by show 2 ≤ sizeLine; decide, _, .cons ⟨_, rfl⟩ (.cons ru .nil), ⟨_, cT, rfl, _, rfl⟩⟩
    have J : Inv X pins σ (upd H s.heap.objs.size (.tup [.int (i : Nat), x])) { s with heap := g2, toks := tk + 1 } := by
      refine I.turnedNew (ch := [e, it]) (fun b ob hb y => ?_) hf (Nat.le_refl _) nw
      have h1 : b ≠ e := fun z => hb (by simp [z])
      have h2 : b ≠ it := fun z => hb (by simp [z])
      exact (sb.2 b h1).trans (hk b ob h1 h2 y)
    refine ⟨.ref s.heap.objs.size, _, J, rfl, ⟨_, x, rfl, I.hok.fresh (Nat.le_refl _), rfl, fun ys hy => by rw [I.tuple_inj hy hq]; exact hx⟩, ⟨⟨u, ?_⟩, st'.1.at fun o y => (sb.2 it (Ne.symm ne)).trans y, ne⟩, fun b hb => ?_⟩
    · rw [show ((i + 1 : Nat) : Int) = (i : Int) + 1 by omega]
      exact he2
    · have lb : b < s.heap.objs.size := by
        rcases List.mem_cons.mp hb with z | z
        · exact z ▸ le
        · exact List.mem_singleton.mp z ▸ li
      rw [upd_ne (Nat.ne_of_lt lb)]
      exact (hf b hb).1
  done := by
    intro X hP hw hK hc i pins s σ H E I hf st hg
    subst hP hw hK
    obtain ⟨⟨old, he⟩, hit, ne⟩ := st
    obtain ⟨ts, hq, hx⟩ := hg
    obtain ⟨us, rv, p, _⟩ := I.tuple hq
    have p' : s.heap.IsTuple a us.toArray := p
    obtain ⟨f0, f1, f2, f3, f4, f5⟩ := hf it (by simp)
    have hl : i = us.toArray.size := by rw [hx, rv.length]; simp
    subst hl
    exact wpAny_pyNext_enum_endD (Draws.tuple (prog := X.prog) (w := X.w) (A := X.A.in1) (I.ok.hd hc) it a (isTupNeI p' hit) us.toArray) he ⟨hit, p'⟩ fun g k => ⟨rfl, I.turned (t' := s.toks) (fun b o hb y => k b o hb y) f0 f1 f3 f4 f5⟩
  self := fun B i s Q E st h => st.1.elim fun _ he => wpAny_pyIter_enum he h
def iEnT (K : PySem.W.Frag) (ta : TA) : TI := fun σ H R => ta σ H fun vs G => ∃ a ts, vs = [.ref a] ∧ SqT K G a ts ∧ R (IteT K a) G
theorem pi_enumT {X : Cx} {e : Expr} {ta : TA} {p pos tpos : Pos} {elts : List Expr} {kk : Nat} (hg : Gl X "enumerate") (hm : X.mg "enumerate" = none) (ha : PA X [e] ta) (hs : starEach [e] X.env = [(false, eval e X.env)] := by rfl) :
    PI X (.Tuple elts kk tpos) (.Call (.Name "enumerate" p) [e] [] pos) (iEnT X.K ta) where
  run := fun pins s σ H R I h => by
    refine Call_ (ld_blt I hg hm boot_enumerate (callWith_type1 (thn (ha.run pos pins s σ H _ I h) fun us s1 ⟨vs, H1, I1, r1, a, ts, ex, hq, q⟩ => ?_) hs rfl))
    subst ex
    obtain ⟨u, rfl⟩ : ∃ u, us = [u] := by
      cases r1 with
      | cons _ rr => cases rr; exact ⟨_, rfl⟩
    have ru : u = .ref a := by
      cases r1 with
      | cons r _ => exact r
    subst ru
    obtain ⟨us, rv, p', _⟩ := I1.tuple hq
    refine callEnT (show s1.heap.IsTuple a us.toArray from p') fun g he hit hk => wpAny_pyIter_enum he ?_
    refine ⟨_, [s1.heap.objs.size + 1, s1.heap.objs.size], _, _, H1, rfl, I1.kept (t' := s1.toks) hk, turnEnT a _ _, ⟨⟨.none, he⟩, hit, Nat.succ_ne_self _⟩, fun b hb => ?_, q⟩
    have le : s1.heap.objs.size ≤ b := by
      rcases List.mem_cons.mp hb with z | z
      · rw [z]; omega
      · rw [List.mem_singleton.mp z]; omega
    exact I1.fpOk le (I1.hok.fresh le)
theorem walk_enT {K : PySem.W.Frag} {a : Addr} {ts : List V} : Walk (IteT K a) ts.length (fun H => SqT K H a ts) (YPair (fun i => some (.int (i : Nat))) (fun i => ts[i]?)) :=
  ⟨fun i _ hi q => ⟨ts, ts[i], q, by simp [hi]⟩, fun _ q => ⟨ts, q, rfl⟩, fun i H v G _ q ⟨p, x, h1, h2, h3, h4⟩ => ⟨p, _, x, h1, h2, h3, rfl, h4 ts q⟩⟩
end N0

namespace N0
open PySem L2 PySem.Spec PyProof.Rows
theorem hu65 {A : Around} {k : Nat} (hr : Room k A) : A.units + 65 < cLine := by have := hr.un; omega
/-- x in t, t a tuple of data -/
def rInDT (K : PySem.W.Frag) : R2 := fun x y H Q => ∃ d ds, Dp K H x d ∧ Dp K H y (.tuple ds) ∧ SeqAt.shaped d = true ∧ SeqAt.shaped (.tuple ds) = true ∧ Q (.bl (ds.any fun z => PyData.eqv z d)) H
theorem op_inDT {X : Cx} (hu : X.A.units + 65 < cLine) : OpR X (compareOp .In) (rInDT X.K) := by
  intro pins s σ H x y v u Q I rx ry h
  obtain ⟨d, ds, hd, he, sd, se, q⟩ := h
  obtain ⟨as, r1⟩ := Dp.reads I d x v hd rx
  obtain ⟨bs, r2⟩ := Dp.reads I (.tuple ds) y u he ry
  exact SeqAt.in_tuple_reads r2 r1 (SeqAt.canLay_of_shaped se) (SeqAt.canLay_of_shaped sd) (room_in_shaped sd hu) ⟨.bl _, H, I, rfl, q⟩
theorem sliceTail {K : PySem.W.Frag} {H : Hp} {a : Addr} {xs : List V} {Q : VK} (ha : H a = some (.tup xs)) (q : ∀ p H', Kp [] H H' → H' p = some (.tup (xs.drop 1)) → Q (.ref p) H') : rSlA K (.ref a) (some 1) none H Q := by
  cases xs with
  | nil => exact ⟨a, _, rfl, tupT ha, fun _ => q a H (Kp.refl _ _) ha, fun z => absurd ⟨rfl, rfl⟩ z⟩
  | cons x r => exact ⟨a, _, rfl, tupT ha, fun z => absurd z (cut_tail x r).2, fun _ p hp => q p _ (Kp.new hp) (by rw [(cut_tail x r).1, upd_same]; rfl)⟩
theorem iteF' {b : Bool} {A B : Prop} (hb : b = false) (h : B) : if b = true then A else B := by subst hb; exact iteF h
theorem iteT' {b : Bool} {A B : Prop} (hb : b = true) (h : A) : if b = true then A else B := by subst hb; exact iteT h
theorem walk_zipT {K : PySem.W.Frag} {a b : Addr} {xs ys : List V} {n : Nat} (hn : n = min xs.length ys.length) : Walk (RZ.ItzT K a b) n (fun H => SqT K H a xs ∧ SqT K H b ys) (YPair (fun i => xs[i]?) (fun i => ys[i]?)) := by
  subst hn
  refine ⟨fun i _ hi q => ?_, fun _ q => ⟨xs, ys, q.1, q.2, by omega⟩, fun i H v H' _ q y => ?_⟩
  · have h1 : i < xs.length := by omega
    have h2 : i < ys.length := by omega
    exact ⟨xs, ys, xs[i], ys[i], q.1, q.2, by simp [h1], by simp [h2]⟩
  · obtain ⟨T, x, z, h1, h2, h3, h4, h5⟩ := y
    exact ⟨T, x, z, h1, h2, h3, h4 xs q.1, h5 ys q.2⟩
def spIV : Sp := fun vs H Q _ => ∃ (n : Nat) (x : V) (v : List Nat), vs = [.int n, x] ∧ ValV H v x ∧ VOk n v ∧ n ≤ 1000 ∧ ∀ H', Kp [] H H' → Q (.bl true) H'
def spNV : Sp := fun vs H Q _ => ∃ (fv x : V) (n : Nat) (ps : List (Nat × Nat)) (v : List Nat), vs = [fv, x] ∧ FrV H n ps fv ∧ ValV H v x ∧ VOk n v ∧ n ≤ 1000 ∧ ∀ H', Kp [] H H' → Q .non H'
def spNPt : Sp := fun vs H Q _ => ∃ (fv : V) (n : Nat) (ps : List (Nat × Nat)) (p : Nat), vs = [fv, .int p] ∧ FrV H n ps fv ∧ p < n ∧ ∀ H', Kp [] H H' → Q .non H'
section
variable {P : Program} {w : World} {K : PySem.W.Frag} {mg : Str → Option Value} {base : Heap} {f C : Addr} {fd : FuncData}
theorem ok_is_point_pair (F : Fun K "is_point_pair" "is_point_pair" s_is_point_pair f fd) (T : Txt K mg) (D_is_within : Def P w K mg base "is_within" 2 ["value", "least", "most"] spWithin) : FnOk P w K mg base CX0 3 f fd ["points", "value"] spPP := by
  refine F.ok sc_is_point_pair (fun vs H Q E h => ?_) (fun cdv A outer s H vs Q E hr h => ?_)
  · obtain ⟨n, c, i, j, rfl, _⟩ := h
    rfl
  obtain ⟨n, c, i, j, rfl, hc, hij, hj, q⟩ := h
  have nd := sc_is_point_pair.nd
  refine ⟨_, (pss_cons (ps_if (PW.pt (pw_or (pt_not (pt_val (e_isi T (pa_cons (pv 1) (pa_cons (e_ty T.tuple bt_tuple) pa_nil))))) (pw_or (pt_cmpR op_ne (e_len T (pa_cons (pv 1) pa_nil)) pe_int (nomark _)) (pw_or1 (pt_not (pt_val (e_fn D_is_within (hr.mono (by omega)) (pa_cons (pe_ix ix_tup (pv 1) pe_int (fun _ _ => rfl)) (pa_cons pe_int (pa_cons (pe_op op_sub (pv 0) pe_int) pa_nil)))))))))) (pss_one (ps_ret pe_bl)) pss_nil)
      (pss_one (ps_ret (e_fn D_is_within (hr.mono (by omega)) (pa_cons (pe_ix ix_tup (pv 1) pe_int (fun _ _ => rfl)) (pa_cons (pe_op op_add (pe_ix ix_tup (pv 1) pe_int (fun _ _ => rfl)) pe_int) (pa_cons (pe_op op_sub (pv 0) pe_int) pa_nil))))))), ?_⟩
  refine ⟨_, rfl, _, _, _, _, _, rfl, .ty _, .base (.tup hc), kit_ty (kit_tuple (.tuple [])), _, rfl, iteF ?_⟩
  refine ⟨_, rfl, c, _, rfl, .inr (tupT hc), rfl, _, rfl, iteF ?_⟩
  refine ⟨_, rfl, c, _, 0, _, rfl, rfl, tupT hc, atI_nat (j := 0) rfl, _, rfl, _, _, rfl, rfl, _, _, _, rfl, fun H1 k1 => ⟨_, rfl, ?_⟩⟩
  refine iteF' ?_ ?_
  · have h1 : (0 : Int) ≤ (i : Int) := by omega
    have h2 : (i : Int) ≤ (n : Int) - 1 := by omega
    simp [h1, h2]
  refine ⟨_, rfl, c, _, 1, _, rfl, rfl, tupT (k1.t _ _ hc), atI_nat (j := 1) rfl, _, rfl, c, _, 0, _, rfl, rfl, tupT (k1.t _ _ hc), atI_nat (j := 0) rfl, _, _, rfl, rfl, _, rfl, _, _, rfl, rfl, _, _, _, rfl, fun H2 k2 => ?_⟩
  have e : (decide ((i : Int) + 1 ≤ (j : Int)) && decide ((j : Int) ≤ (n : Int) - 1)) = true := by
    have h1 : (i : Int) + 1 ≤ (j : Int) := by omega
    have h2 : (j : Int) ≤ (n : Int) - 1 := by omega
    simp [h1, h2]
  rw [e]
  exact q _ (k1.trans k2)
theorem ok_need_frame (F : Fun K "need_frame" "need_frame" s_need_frame f fd) (T : Txt K mg) (D_is_within : Def P w K mg base "is_within" 2 ["value", "least", "most"] spWithin) (D_is_point_pair : Def P w K mg base "is_point_pair" 3 ["points", "value"] spPP) :
    FnOk P w K mg base CX0 4 f fd ["frame"] spNF := by
  refine F.ok sc_need_frame (fun vs H Q E h => ?_) (fun cdv A outer s H vs Q E hr h => ?_)
  · obtain ⟨v, n, ps, rfl, _⟩ := h
    rfl
  obtain ⟨v, n, ps, rfl, ⟨a, b, rfl, ha, ys, hys, hyl, hyp⟩, hok, q⟩ := h
  have nd := sc_need_frame.nd
  refine ⟨_, (pss_cons (ps_if (PW.pt (pw_or (pt_not (pt_val (e_isi T (pa_cons (pv 0) (pa_cons (e_ty T.tuple bt_tuple) pa_nil))))) (pw_or1 (pt_cmpR op_ne (e_len T (pa_cons (pv 0) pa_nil)) pe_int (nomark _))))) pss_never pss_nil)
      (pss_cons (ps_asg (pv 0) (pg_tup rfl (pgs_cons (pg_name (i := 1) nd rfl (Or.inl rfl)) (pgs_cons (pg_name (i := 2) nd rfl (Or.inl rfl)) pgs_nil))))
      (pss_cons (ps_if (pt_not (pt_val (e_fn D_is_within (hr.mono (by omega)) (pa_cons (pv 1) (pa_cons pe_int (pa_cons (e_const T.MOST_POINTS) pa_nil)))))) pss_never pss_nil)
      (pss_cons (ps_if (pt_not (pt_val (e_isi T (pa_cons (pv 2) (pa_cons (e_ty T.tuple bt_tuple) pa_nil))))) pss_never pss_nil)
      (pss_cons (ps_for PassesOwn.never rfl (pi_enumT (by rfl) T.enumerate (pa_cons (pv 2) pa_nil)) (pg_tup rfl (pgs_cons (pg_name (i := 3) nd rfl (Or.inl rfl)) (pgs_cons (pg_name (i := 4) nd rfl (Or.inl rfl)) pgs_nil))) (pss_one (ps_if (PW.pt (pw_or (pt_not (pt_val (e_fn D_is_point_pair (hr.mono (by omega)) (pa_cons (pv 1) (pa_cons (pv 4) pa_nil))))) (pw_or1 (PW.pt (pw_and (pt_cmpR op_gt (pv 3) pe_int (nomark _)) (pw_and1 (pt_not (pt_cmpR (op_ltT hr.units0) (pe_ix ix_tup (pv 2) (pe_op op_sub (pv 3) pe_int) (fun _ _ => rfl)) (pv 4) (nomark _))))))))) pss_never pss_nil)))
      (pss_one (ps_ret (pv 0)))))))), ?_⟩
  refine ⟨_, rfl, _, _, _, _, _, rfl, .ty _, .base (.tup ha), kit_ty (kit_tuple (.tuple [])), _, rfl, iteF ?_⟩
  refine ⟨_, rfl, a, _, rfl, .inr (tupT ha), rfl, _, rfl, iteF ?_⟩
  refine ⟨_, rfl, a, _, rfl, tupT ha, rfl, _, _, rfl, _, _, rfl, rfl, ?_⟩
  obtain ⟨h1, h2, hps, hpl⟩ := hok
  refine ⟨_, rfl, _, _, _, rfl, fun H1 k1 => ⟨_, rfl, iteF' ?_ ?_⟩⟩
  · have e1 : (1 : Int) ≤ (n : Int) := by omega
    have e2 : (n : Int) ≤ 600 := by omega
    simp [e1, e2]
  refine ⟨_, rfl, _, _, _, _, _, rfl, .ty _, .base (.tup (k1.t _ _ hys)), kit_ty (kit_tuple (.tuple [])), _, rfl, iteF ?_⟩
  have hys1 := k1.t _ _ hys
  refine ⟨_, rfl, b, ys, rfl, tupT hys1, ?_⟩
  refine for_it (n := ys.length) walk_enT (fun i σ H' => ∃ o3 o4 : Option V, σ = [some (.ref a), some (.int n), some (.ref b), o3, o4] ∧ Kp [] H1 H') ⟨none, none, rfl, Kp.refl _ _⟩ (fun i σ H' _ h => ?_) ?_ ?_
  · obtain ⟨_, _, _, k⟩ := h
    exact tupT (k.t _ _ hys1)
  · rintro i y σ H2 _ hi ⟨o3, o4, rfl, k2⟩ ⟨Tp, x, y, rfl, hTp, rfl, hx, hy⟩
    cases hx
    have hi2 : i < ps.length := by omega
    have hpi : ps[i]? = some ps[i] := List.getElem?_eq_getElem hi2
    obtain ⟨c, hc, hcc⟩ := hyp i _ hpi
    have hm := hps.1 _ (List.getElem_mem hi2)
    generalize hp : ps[i] = p at hpi hcc hm
    dsimp only at hy
    obtain rfl : V.ref c = y := Option.some.inj (hc.symm.trans hy)
    have kT : Kp [] H2 (upd H2 Tp (.tup [.int i, .ref c])) := Kp.new hTp
    refine ⟨Tp, _, rfl, tupT upd_same, rfl, _, _, rfl, _, _, rfl, rfl, ?_⟩
    generalize upd H2 Tp (.tup [.int i, .ref c]) = H3 at kT
    have k3 := k1.trans (k2.trans kT)
    refine ⟨_, rfl, _, rfl, n, c, p.1, p.2, rfl, k3.t _ _ hcc, hm.1, hm.2, fun H4 k4 => ⟨_, rfl, iteF ?_⟩⟩
    have k24 := (k2.trans kT).trans k4
    have hcc4 := k4.t _ _ (k3.t _ _ hcc)
    have hys4 := k4.t _ _ (k3.t _ _ hys)
    clear hTp
    by_cases hi0 : 0 < i
    · obtain ⟨j, rfl⟩ : ∃ j, i = j + 1 := ⟨i - 1, by omega⟩
      have hj : j < ps.length := by omega
      obtain ⟨c', hc', hcc'⟩ := hyp j _ (List.getElem?_eq_getElem hj)
      have hcc4' := k4.t _ _ (k3.t _ _ hcc')
      have hlt := List.pairwise_iff_getElem.mp hps.2 j (j + 1) hj hi2 (by omega)
      rw [hp] at hlt
      generalize ps[j] = p' at hcc' hcc4' hlt
      refine ⟨_, rfl, _, _, rfl, rfl, _, rfl, iteT' (decide_eq_true (by omega)) ?_⟩
      refine ⟨_, rfl, _, rfl, _, _, rfl, rfl, b, ys, _, .ref c', rfl, rfl, tupT hys4, ?_, _, rfl, c', c, [(p'.1 : Int), (p'.2 : Int)], [(p.1 : Int), (p.2 : Int)], rfl, rfl, tupT hcc4', tupT hcc4, _, rfl, ?_⟩
      · have e1 : ((j + 1 : Nat) : Int) - 1 = (j : Int) := by omega
        rw [e1]
        exact atI_nat (j := j) hc'
      · have e : HT.lexLt [(p'.1 : Int), (p'.2 : Int)] [(p.1 : Int), (p.2 : Int)] = true := by
          rw [HT.lexLt_cons, HT.lexLt_cons]
          split
          · rename_i e1
            split
            · omega
            · exact decide_eq_true (by omega)
          · exact decide_eq_true (by omega)
        rw [e]
        exact iteF ⟨_, _, rfl, k24⟩
    · refine ⟨_, rfl, _, _, rfl, rfl, _, rfl, iteF' (decide_eq_false (by omega)) (iteF ⟨_, _, rfl, k24⟩)⟩
  · rintro σ H2 ⟨o3, o4, rfl, k2⟩
    exact ⟨_, rfl, q _ (k1.trans k2)⟩
end
end N0

namespace N0
open PySem L2 PySem.Spec PyProof.Rows
section
variable {P : Program} {w : World} {K : PySem.W.Frag} {mg : Str → Option Value} {base : Heap} {f C : Addr} {fd : FuncData}
theorem ok_is_value (F : Fun K "is_value" "is_value" s_is_value f fd) (T : Txt K mg) (D_is_within : Def P w K mg base "is_within" 2 ["value", "least", "most"] spWithin) :
    FnOk P w K mg base CX0 3 f fd ["points", "value"] spIV := by
  refine F.ok sc_is_value (fun vs H Q E h => ?_) (fun cdv A outer s H vs Q E hr h => ?_)
  · obtain ⟨n, x, v, rfl, _⟩ := h
    rfl
  obtain ⟨n, x, v, rfl, ⟨a, rfl, ha⟩, hv, hn, q⟩ := h
  have nd := sc_is_value.nd
  have hl : v.length ≤ 1000 := Nat.le_trans hv.len hn
  refine ⟨_, (pss_cons (ps_if (PW.pt (pw_or (pt_not (pt_val (e_isi T (pa_cons (pv 1) (pa_cons (e_ty T.tuple bt_tuple) pa_nil))))) (pw_or1 (pt_not (pt_val (pe_callB (cr_all rfl) (by rfl) T.all bt_all (pa_cons (pe_lc (own := [("point", 2)]) (g := gName 2) (tt := tYes) rfl nd (pi_tup (pv 1)) (blkOk_by (N := N_is_value) (sc := defScope s_is_value) (by decide +kernel)) (fun _ _ _ _ _ => pg_name (i := 2) nd rfl (Or.inl rfl)) (fun _ _ _ _ _ => pts_nil) (fun _ _ _ _ _ => (e_fn D_is_within (hr.mono (by omega)) (pa_cons (pv 2) (pa_cons pe_int (pa_cons (pe_op op_sub (pv 0) pe_int) pa_nil)))))) pa_nil))))))) (pss_one (ps_ret pe_bl)) pss_nil)
      (pss_one (ps_ret (pe_callB (cr_all rfl) (by rfl) T.all bt_all (pa_cons (pe_lc (own := [("one", 3), ("other", 4)]) (g := gTup K 2 (gCons (gName 3) (gCons (gName 4) gNil))) (tt := tYes) rfl nd (RZ.pi_zipA (by rfl) T.zip (pa_cons (pv 1) (pa_cons (pe_slice sl_tupA (pv 1) (po_some pe_int) po_none) pa_nil))) (blkOk_by (N := N_is_value) (sc := defScope s_is_value) (by decide +kernel)) (fun _ _ _ _ _ => pg_tup rfl (pgs_cons (pg_name (i := 3) nd rfl (Or.inl rfl)) (pgs_cons (pg_name (i := 4) nd rfl (Or.inl rfl)) pgs_nil))) (fun _ _ _ _ _ => pts_nil) (fun _ _ _ _ _ => (pe_cmpR op_lt (pv 3) (pv 4) (nomark _)))) pa_nil))))), ?_⟩
  refine ⟨_, rfl, _, _, _, _, _, rfl, .ty _, .base (.tup ha), kit_ty (kit_tuple (.tuple [])), _, rfl, iteF ?_⟩
  refine ⟨_, rfl, a, rfl, ⟨_, tupT ha⟩, fun L hL => ?_⟩
  refine lc_it (n := (v.map fun k : Nat => V.int k).length) walk_tup (fun i H' => Kp [] H H' ∧ H' L = some (.lst ((List.replicate i true).map V.bl))) ⟨Kp.new hL, upd_same⟩ (fun i H' _ h => N0.SqT.kp h.1 (tupT ha)) ?_ ?_
  · rintro i y H2 _ hi ⟨k2, hL2⟩ ⟨rfl, hy⟩
    rw [List.length_map] at hi
    rw [List.getElem?_map] at hy
    obtain ⟨k, hk', rfl⟩ := Option.map_eq_some_iff.mp hy
    have hkl := hv.2 k (List.mem_of_getElem? hk')
    refine ⟨rfl, ?_⟩
    refine ⟨_, rfl, _, rfl, _, _, rfl, rfl, _, _, _, rfl, fun H3 k3 => ?_⟩
    have e : (decide ((0 : Int) ≤ (k : Int)) && decide ((k : Int) ≤ (n : Int) - 1)) = true := by
      have h1 : (0 : Int) ≤ (k : Int) := by omega
      have h2 : (k : Int) ≤ (n : Int) - 1 := by omega
      simp [h1, h2]
    rw [e]
    refine ⟨_, k3.k _ _ (by simp) hL2, ?_, (k2.trans k3).put hL, ?_⟩
    · rw [List.length_map, List.length_replicate]
      exact small1000 (by omega)
    · rw [upd_same, List.replicate_succ', List.map_append]; rfl
  · rintro H2 ⟨k2, hL2⟩
    refine ⟨L, _, rfl, SqL.of hL2, ?_⟩
    refine ⟨_, rfl, iteF' (by simp) ?_⟩
    have ha2 := k2.t _ _ ha
    refine ⟨_, rfl, _, rfl, _, rfl, ?_⟩
    dsimp only [tNoPart]
    refine sliceTail ha2 fun p H3 k3 hp => ?_
    have ha3 := k3.t _ _ ha2
    refine ⟨a, p, _, _, rfl, .inr ⟨tupT ha3, tupT hp, fun L' hL' => ?_⟩⟩
    refine lc_it (n := v.length - 1) (walk_zipT (xs := v.map fun k : Nat => V.int k) (ys := (v.map fun k : Nat => V.int k).drop 1) (n := v.length - 1) (by simp)) (fun i H' => Kp [] H3 H' ∧ H' L' = some (.lst ((List.replicate i true).map V.bl))) ⟨Kp.new hL', upd_same⟩ (fun i H' _ h => ⟨N0.SqT.kp h.1 (tupT ha3), N0.SqT.kp h.1 (tupT hp)⟩) ?_ ?_
    · rintro i y H4 _ hi ⟨k4, hL4⟩ ⟨Tp, x, y, rfl, hTp, rfl, hx, hy⟩
      have k5 : Kp [] H4 (upd H4 Tp (.tup [x, y])) := Kp.new hTp
      have i1 : i < v.length := by omega
      have i2 : i + 1 < v.length := by omega
      have hx' : (v.map fun k : Nat => V.int k)[i]? = some x := hx
      have hy' : ((v.map fun k : Nat => V.int k).drop 1)[i]? = some y := hy
      rw [List.getElem?_map, List.getElem?_eq_getElem i1] at hx'
      rw [List.getElem?_drop, Nat.add_comm 1 i, List.getElem?_map, List.getElem?_eq_getElem i2] at hy'
      obtain rfl := Option.some.inj hx'
      obtain rfl := Option.some.inj hy'
      have hlt := List.pairwise_iff_getElem.mp hv.1 i (i + 1) i1 i2 (by omega)
      refine ⟨Tp, _, rfl, tupT upd_same, rfl, _, _, rfl, _, _, rfl, rfl, rfl, ?_⟩
      have hD3 := k5.k _ _ (by simp) hL4
      generalize upd H4 Tp _ = H5 at k5 hD3 ⊢
      refine ⟨_, rfl, _, rfl, _, _, rfl, rfl, ?_⟩
      have e : decide (((v[i] : Nat) : Int) < ((v[i + 1] : Nat) : Int)) = true := decide_eq_true (by omega)
      refine ⟨_, hD3, ?_, (k4.trans k5).put hL', ?_⟩
      · rw [List.length_map, List.length_replicate]
        exact small1000 (by omega)
      · rw [upd_same, List.replicate_succ', List.map_append]; dsimp only; rw [e]; rfl
    · rintro H4 ⟨k4, hL4⟩
      refine ⟨L', _, rfl, SqL.of hL4, ?_⟩
      have : (List.replicate (v.length - 1) true).all id = true := by simp
      rw [this]
      exact q _ ((k2.trans k3).trans k4)
end
end N0

namespace N0
open PySem L2 PySem.Spec PyProof.Rows
def spNPo : Sp := fun vs H Q _ => ∃ (fv : V) (n : Nat) (ps : List (Nat × Nat)) (p : Nat), vs = [fv, .int p] ∧ FrV H n ps fv ∧ p < n ∧ ∀ H', Kp [] H H' → Q .non H'
/-- of a frame and a value, a value -/
def spFV (g : Nat → List (Nat × Nat) → List Nat → List Nat) : Sp := fun vs H Q _ => ∃ (fv x : V) (n : Nat) (ps : List (Nat × Nat)) (v : List Nat), vs = [fv, x] ∧ FrV H n ps fv ∧ FrOk n ps ∧ ValV H v x ∧ VOk n v ∧
  ∀ H' y, Kp [] H H' → ValV H' (g n ps v) y → Q y H'
def spClosed : Sp := fun vs H Q _ => ∃ (fv x : V) (n : Nat) (ps : List (Nat × Nat)) (v : List Nat), vs = [fv, x] ∧ FrV H n ps fv ∧ FrOk n ps ∧ ValV H v x ∧ VOk n v ∧
  ∀ H', Kp [] H H' → Q (.bl (decide (clo n ps v = v))) H'
def spCore : Sp := fun vs H Q _ => ∃ (fv : V) (n : Nat) (ps : List (Nat × Nat)) (x : Nat), vs = [fv, .int x] ∧ FrV H n ps fv ∧ FrOk n ps ∧ x < n ∧
  ∀ H' y, Kp [] H H' → ValV H' (clo n ps [x]) y → Q y H'
def spJoin : Sp := fun vs H Q _ => ∃ (fv x z : V) (n : Nat) (ps : List (Nat × Nat)) (v u : List Nat), vs = [fv, x, z] ∧ FrV H n ps fv ∧ FrOk n ps ∧ ValV H v x ∧ VOk n v ∧ ValV H u z ∧ VOk n u ∧
  ∀ H' y, Kp [] H H' → ValV H' (clo n ps (v ++ u)) y → Q y H'
def spApart : Sp := fun vs H Q _ => ∃ (fv : V) (n : Nat) (ps : List (Nat × Nat)) (x y : Nat), vs = [fv, .int x, .int y] ∧ FrV H n ps fv ∧ FrOk n ps ∧ x < n ∧ y < n ∧
  ∀ H', Kp [] H H' → Q (.bl (ap ps x y)) H'
theorem VOk.lt1000 {n : Nat} {v : List Nat} (h : VOk n v) (hn : n ≤ 600) : (∀ k ∈ v, k < 1000) ∧ v.length ≤ 1000 := ⟨fun k hk => by have := h.2 k hk; omega, by have := h.len; omega⟩
theorem msk_vl {n : Nat} {c : Nat} {v : List Nat} (h : Msk c v) (hv : VOk n v) : vl n (fun p => c.testBit p) = v := vl_msk h hv
theorem mkS_at {C x dx : Addr} {H : Hp} {v : V} {n : Nat} {ps : List (Nat × Nat)} {R : VK} (nx : H x = none) (ndx : H dx = none) (nex : dx ≠ x) (hv : FrV H n ps v) (hok : FrOk n ps)
    (q : ∀ H' l, Kp [] H H' → H l = none → SdAt C H' x l n ps → R .non H') : spSInit C (.ref x :: ([v] ++ [])) (upd (upd H dx (.own x)) x (.ins C dx [])) R E0 := by
  have k0 : Kp [] H (upd (upd H dx (.own x)) x (.ins C dx [])) := (Kp.new ndx).add (by rw [upd_ne (Ne.symm nex)]; exact nx)
  exact ⟨x, dx, v, n, ps, rfl, upd_same, hv.kp k0, hok, fun H' l k hl hS => q H' l (k0.cut k (by simp [nx])) (k0.n _ hl) hS⟩
section
variable {P : Program} {w : World} {K : PySem.W.Frag} {mg : Str → Option Value} {base : Heap} {f C : Addr} {fd : FuncData}
theorem ok_need_value (F : Fun K "need_value" "need_value" s_need_value f fd) (T : Txt K mg) (D_is_value : Def P w K mg base "is_value" 3 ["points", "value"] spIV) :
    FnOk P w K mg base CX0 4 f fd ["frame", "value"] spNV := by
  refine F.ok sc_need_value (fun vs H Q E h => ?_) (fun cdv A outer s H vs Q E hr h => ?_)
  · obtain ⟨fv, x, n, ps, v, rfl, _⟩ := h
    rfl
  obtain ⟨fv, x, n, ps, v, rfl, ⟨a, b, rfl, ha, hb⟩, hv, hvo, hn, q⟩ := h
  have nd := sc_need_value.nd
  refine ⟨_, (pss_one (ps_if (pt_not (pt_val (e_fn D_is_value (hr.mono (by omega)) (pa_cons (pe_ix ix_tup (pv 0) pe_int (fun _ _ => rfl)) (pa_cons (pv 1) pa_nil))))) pss_never pss_nil)), ?_⟩
  exact ⟨_, rfl, a, _, 0, _, rfl, rfl, tupT ha, atI_nat (j := 0) rfl, _, rfl, n, x, v, rfl, hv, hvo, hn, fun H1 k1 => ⟨_, rfl, iteF (q _ k1)⟩⟩
theorem ok_need_point (F : Fun K "need_point" "need_point" s_need_point f fd) (T : Txt K mg) (D_is_within : Def P w K mg base "is_within" 2 ["value", "least", "most"] spWithin) :
    FnOk P w K mg base CX0 3 f fd ["frame", "point"] spNPo := by
  refine F.ok sc_need_point (fun vs H Q E h => ?_) (fun cdv A outer s H vs Q E hr h => ?_)
  · obtain ⟨fv, n, ps, p, rfl, _⟩ := h
    rfl
  obtain ⟨fv, n, ps, p, rfl, ⟨a, b, rfl, ha, hb⟩, hp, q⟩ := h
  have nd := sc_need_point.nd
  refine ⟨_, (pss_one (ps_if (pt_not (pt_val (e_fn D_is_within (hr.mono (by omega)) (pa_cons (pv 1) (pa_cons pe_int (pa_cons (pe_op op_sub (pe_ix ix_tup (pv 0) pe_int (fun _ _ => rfl)) pe_int) pa_nil)))))) pss_never pss_nil)), ?_⟩
  refine ⟨_, rfl, _, rfl, a, _, 0, _, rfl, rfl, tupT ha, atI_nat (j := 0) rfl, _, _, rfl, rfl, _, _, _, rfl, fun H1 k1 => ⟨_, rfl, iteF' ?_ (q _ k1)⟩⟩
  have h1 : (0 : Int) ≤ (p : Int) := by omega
  have h2 : (p : Int) ≤ (n : Int) - 1 := by omega
  simp [h1, h2]
theorem ok_contrary_of (F : Fun K "contrary_of" "contrary_of" s_contrary_of f fd) (T : Txt K mg) (SC : SCc K mg C) (D_need_frame : Def P w K mg base "need_frame" 4 ["frame"] spNF) (D_need_value : Def P w K mg base "need_value" 4 ["frame", "value"] spNV)
    (D_value_bits : Def P w K mg base "value_bits" 1 ["value"] spVB) (D_bits_value : Def P w K mg base "bits_value" 1 ["bits", "points"] spBV) (D_sinit : IDef P w K mg base C 2 ["self", "frame"] (spSInit C))
    (D_contrary : MDef P w K mg base C "contrary" 1 ["self", "bits"] (spCon C)) : FnOk P w K mg base CX0 5 f fd ["frame", "points"] (spFV con) := by
  refine F.ok sc_contrary_of (fun vs H Q E h => ?_) (fun cdv A outer s H vs Q E hr h => ?_)
  · obtain ⟨fv, x, n, ps, v, rfl, _⟩ := h
    rfl
  obtain ⟨fv, x, n, ps, v, rfl, hf, hok, hv, hvo, q⟩ := h
  have nd := sc_contrary_of.nd
  have h6 := hok.2.1
  refine ⟨_, (pss_cons (ps_expr (e_fn D_need_frame (hr.mono (by omega)) (pa_cons (pv 0) pa_nil)))
      (pss_cons (ps_expr (e_fn D_need_value (hr.mono (by omega)) (pa_cons (pv 0) (pa_cons (pv 1) pa_nil))))
      (pss_one (ps_ret (e_fn D_bits_value (hr.mono (by omega)) (pa_cons (e_meth SC.cl D_contrary (hr.mono (by omega)) (e_mkS SC D_sinit (hr.mono (by omega)) (pa_cons (pv 0) pa_nil)) (pa_cons (e_fn D_value_bits (hr.mono (by omega)) (pa_cons (pv 1) pa_nil)) pa_nil)) (pa_cons (pe_ix ix_tup (pv 0) pe_int (fun _ _ => rfl)) pa_nil))))))), ?_⟩
  refine ⟨_, rfl, fv, n, ps, rfl, hf, hok, fun H1 k1 => ?_⟩
  refine ⟨_, rfl, _, rfl, fv, x, n, ps, v, rfl, hf.kp k1, hv.kp k1, hvo, by omega, fun H2 k2 => ?_⟩
  have k12 := k1.trans k2
  refine ⟨_, rfl, fun p d0 hp hd hne => mkS_at hp hd hne (hf.kp k12) hok fun H3 l k3 hl hS => ⟨rfl, ?_⟩⟩
  have k13 := k12.trans k3
  obtain ⟨⟨dx, hpi⟩, hm⟩ := id hS
  refine ⟨p, dx, _, rfl, hpi, sdf_co n l, _, rfl, x, v, rfl, hv.kp k13, (hvo.lt1000 h6).1, (hvo.lt1000 h6).2, fun H4 b k4 hb => ?_⟩
  refine ⟨p, l, n, ps, b, v, rfl, hS.kp k4 (by simp), hok, hb, hvo.2, fun H5 c k5 hc => ?_⟩
  have k15 := (k13.trans k4).trans k5
  obtain ⟨a, b', rfl, ha, hb'⟩ := hf.kp k15
  refine ⟨_, rfl, a, _, 0, _, rfl, rfl, tupT ha, atI_nat (j := 0) rfl, c, n, rfl, by omega, fun H6 y k6 hy => ?_⟩
  rw [msk_vl hc con_ok] at hy
  exact q _ _ (k15.trans k6) hy
end
end N0

namespace N0
open PySem L2 PySem.Spec PyProof.Rows
theorem or_nat (a b : Nat) : Builtin.bitOr (a : Int) (b : Int) = ((a ||| b : Nat) : Int) := by
  rw [Bits.bitOr_pp (Int.natCast_nonneg _) (Int.natCast_nonneg _), Int.toNat_natCast, Int.toNat_natCast]
theorem VOk.one {n x : Nat} (h : x < n) : VOk n [x] := ⟨by simp, fun y hy => by rw [List.mem_singleton.mp hy]; exact h⟩
theorem inAny {ps : List (Nat × Nat)} {m k : Nat} : ((ps.map fun p : Nat × Nat => PyData.tuple [.int (p.1 : Int), .int (p.2 : Int)]).any fun z => PyData.eqv z (.tuple [.int (m : Int), .int (k : Int)])) = decide ((m, k) ∈ ps) := by
  induction ps with
  | nil => simp
  | cons p r ih =>
    rw [List.map_cons, List.any_cons, ih, Bool.eq_iff_iff]
    simp only [Bool.or_eq_true, decide_eq_true_iff, List.mem_cons]
    have : PyData.eqv (.tuple [.int (p.1 : Int), .int (p.2 : Int)]) (.tuple [.int (m : Int), .int (k : Int)]) = decide (p = (m, k)) := by
      simp only [PyData.eqv, PyData.eqvAll, Bool.and_true]
      rw [Bool.eq_iff_iff]
      simp [Prod.ext_iff]
      omega
    rw [this, decide_eq_true_iff, eq_comm]
section
variable {P : Program} {w : World} {K : PySem.W.Frag} {mg : Str → Option Value} {base : Heap} {f C : Addr} {fd : FuncData}
theorem ok_closure_by (F : Fun K "closure_by" "closure_by" s_closure_by f fd) (T : Txt K mg) (SC : SCc K mg C)
    (D_value_bits : Def P w K mg base "value_bits" 1 ["value"] spVB) (D_bits_value : Def P w K mg base "bits_value" 1 ["bits", "points"] spBV) (D_sinit : IDef P w K mg base C 2 ["self", "frame"] (spSInit C))
    (D_closure : MDef P w K mg base C "closure" 2 ["self", "bits"] (spClo C)) : FnOk P w K mg base CX0 4 f fd ["frame", "points"] (spFV clo) := by
  refine F.ok sc_closure_by (fun vs H Q E h => ?_) (fun cdv A outer s H vs Q E hr h => ?_)
  · obtain ⟨fv, x, n, ps, v, rfl, _⟩ := h
    rfl
  obtain ⟨fv, x, n, ps, v, rfl, hf, hok, hv, hvo, q⟩ := h
  have nd := sc_closure_by.nd
  have h6 := hok.2.1
  refine ⟨_, (pss_one (ps_ret (e_fn D_bits_value (hr.mono (by omega)) (pa_cons (e_meth SC.cl D_closure (hr.mono (by omega)) (e_mkS SC D_sinit (hr.mono (by omega)) (pa_cons (pv 0) pa_nil)) (pa_cons (e_fn D_value_bits (hr.mono (by omega)) (pa_cons (pv 1) pa_nil)) pa_nil)) (pa_cons (pe_ix ix_tup (pv 0) pe_int (fun _ _ => rfl)) pa_nil))))), ?_⟩
  refine ⟨_, rfl, fun p d0 hp hd hne => mkS_at hp hd hne hf hok fun H3 l k3 hl hS => ⟨rfl, ?_⟩⟩
  obtain ⟨⟨dx, hpi⟩, hm⟩ := id hS
  refine ⟨p, dx, _, rfl, hpi, sdf_cl n l, _, rfl, x, v, rfl, hv.kp k3, (hvo.lt1000 h6).1, (hvo.lt1000 h6).2, fun H4 b k4 hb => ?_⟩
  refine ⟨p, l, n, ps, b, v, rfl, hS.kp k4 (by simp), hok, hb, hvo.2, fun H5 c k5 hc => ?_⟩
  have k15 := (k3.trans k4).trans k5
  obtain ⟨a, b', rfl, ha, hb'⟩ := hf.kp k15
  refine ⟨_, rfl, a, _, 0, _, rfl, rfl, tupT ha, atI_nat (j := 0) rfl, c, n, rfl, by omega, fun H6 y k6 hy => ?_⟩
  rw [msk_vl hc con_ok] at hy
  exact q _ _ (k15.trans k6) hy
theorem ok_closure_of (F : Fun K "closure_of" "closure_of" s_closure_of f fd) (T : Txt K mg) (D_need_frame : Def P w K mg base "need_frame" 4 ["frame"] spNF) (D_need_value : Def P w K mg base "need_value" 4 ["frame", "value"] spNV)
    (D_closure_by : Def P w K mg base "closure_by" 4 ["frame", "points"] (spFV clo)) : FnOk P w K mg base CX0 5 f fd ["frame", "points"] (spFV clo) := by
  refine F.ok sc_closure_of (fun vs H Q E h => ?_) (fun cdv A outer s H vs Q E hr h => ?_)
  · obtain ⟨fv, x, n, ps, v, rfl, _⟩ := h
    rfl
  obtain ⟨fv, x, n, ps, v, rfl, hf, hok, hv, hvo, q⟩ := h
  have nd := sc_closure_of.nd
  have h6 := hok.2.1
  refine ⟨_, (pss_cons (ps_expr (e_fn D_need_frame (hr.mono (by omega)) (pa_cons (pv 0) pa_nil)))
      (pss_cons (ps_expr (e_fn D_need_value (hr.mono (by omega)) (pa_cons (pv 0) (pa_cons (pv 1) pa_nil))))
      (pss_one (ps_ret (e_fn D_closure_by (hr.mono (by omega)) (pa_cons (pv 0) (pa_cons (pv 1) pa_nil))))))), ?_⟩
  refine ⟨_, rfl, fv, n, ps, rfl, hf, hok, fun H1 k1 => ?_⟩
  refine ⟨_, rfl, _, rfl, fv, x, n, ps, v, rfl, hf.kp k1, hv.kp k1, hvo, by omega, fun H2 k2 => ?_⟩
  have k12 := k1.trans k2
  exact ⟨_, rfl, _, rfl, fv, x, n, ps, v, rfl, hf.kp k12, hok, hv.kp k12, hvo, fun H3 y k3 hy => q _ _ (k12.trans k3) hy⟩
theorem ok_core_of (F : Fun K "core_of" "core_of" s_core_of f fd) (T : Txt K mg) (D_need_frame : Def P w K mg base "need_frame" 4 ["frame"] spNF) (D_need_point : Def P w K mg base "need_point" 3 ["frame", "point"] spNPo)
    (D_closure_by : Def P w K mg base "closure_by" 4 ["frame", "points"] (spFV clo)) : FnOk P w K mg base CX0 5 f fd ["frame", "point"] spCore := by
  refine F.ok sc_core_of (fun vs H Q E h => ?_) (fun cdv A outer s H vs Q E hr h => ?_)
  · obtain ⟨fv, n, ps, x, rfl, _⟩ := h
    rfl
  obtain ⟨fv, n, ps, x, rfl, hf, hok, hx, q⟩ := h
  have nd := sc_core_of.nd
  refine ⟨_, (pss_cons (ps_expr (e_fn D_need_frame (hr.mono (by omega)) (pa_cons (pv 0) pa_nil)))
      (pss_cons (ps_expr (e_fn D_need_point (hr.mono (by omega)) (pa_cons (pv 0) (pa_cons (pv 1) pa_nil))))
      (pss_one (ps_ret (e_fn D_closure_by (hr.mono (by omega)) (pa_cons (pv 0) (pa_cons (pe_tup (pa_cons (pv 1) pa_nil)) pa_nil))))))), ?_⟩
  refine ⟨_, rfl, fv, n, ps, rfl, hf, hok, fun H1 k1 => ?_⟩
  refine ⟨_, rfl, _, rfl, fv, n, ps, x, rfl, hf.kp k1, hx, fun H2 k2 => ?_⟩
  have k12 := k1.trans k2
  refine ⟨_, rfl, _, rfl, by show 1 ≤ sizeLine; decide, fun p hp => ?_⟩
  have k3 : Kp [] H2 (upd H2 p (.tup [.int x])) := Kp.new hp
  have k13 := k12.trans k3
  exact ⟨fv, _, n, ps, [x], rfl, hf.kp k13, hok, ⟨p, rfl, upd_same⟩, VOk.one hx, fun H3 y k4 hy => q _ _ (k13.trans k4) hy⟩
theorem ok_joined_value (F : Fun K "joined_value" "joined_value" s_joined_value f fd) (T : Txt K mg) (SC : SCc K mg C) (D_need_frame : Def P w K mg base "need_frame" 4 ["frame"] spNF) (D_need_value : Def P w K mg base "need_value" 4 ["frame", "value"] spNV)
    (D_value_bits : Def P w K mg base "value_bits" 1 ["value"] spVB) (D_bits_value : Def P w K mg base "bits_value" 1 ["bits", "points"] spBV) (D_sinit : IDef P w K mg base C 2 ["self", "frame"] (spSInit C))
    (D_closure : MDef P w K mg base C "closure" 2 ["self", "bits"] (spClo C)) : FnOk P w K mg base CX0 5 f fd ["frame", "points", "other_points"] spJoin := by
  refine F.ok sc_joined_value (fun vs H Q E h => ?_) (fun cdv A outer s H vs Q E hr h => ?_)
  · obtain ⟨fv, x, z, n, ps, v, u, rfl, _⟩ := h
    rfl
  obtain ⟨fv, x, z, n, ps, v, u, rfl, hf, hok, hv, hvo, hu, huo, q⟩ := h
  have nd := sc_joined_value.nd
  have h6 := hok.2.1
  refine ⟨_, (pss_cons (ps_expr (e_fn D_need_frame (hr.mono (by omega)) (pa_cons (pv 0) pa_nil)))
      (pss_cons (ps_expr (e_fn D_need_value (hr.mono (by omega)) (pa_cons (pv 0) (pa_cons (pv 1) pa_nil))))
      (pss_cons (ps_expr (e_fn D_need_value (hr.mono (by omega)) (pa_cons (pv 0) (pa_cons (pv 2) pa_nil))))
      (pss_cons (ps_set (i := 3) nd rfl (Or.inl rfl) (pe_op op_or (e_fn D_value_bits (hr.mono (by omega)) (pa_cons (pv 1) pa_nil)) (e_fn D_value_bits (hr.mono (by omega)) (pa_cons (pv 2) pa_nil))))
      (pss_one (ps_ret (e_fn D_bits_value (hr.mono (by omega)) (pa_cons (e_meth SC.cl D_closure (hr.mono (by omega)) (e_mkS SC D_sinit (hr.mono (by omega)) (pa_cons (pv 0) pa_nil)) (pa_cons (pv 3) pa_nil)) (pa_cons (pe_ix ix_tup (pv 0) pe_int (fun _ _ => rfl)) pa_nil))))))))), ?_⟩
  refine ⟨_, rfl, fv, n, ps, rfl, hf, hok, fun H1 k1 => ?_⟩
  refine ⟨_, rfl, _, rfl, fv, x, n, ps, v, rfl, hf.kp k1, hv.kp k1, hvo, by omega, fun H2 k2 => ?_⟩
  have k12 := k1.trans k2
  refine ⟨_, rfl, _, rfl, fv, z, n, ps, u, rfl, hf.kp k12, hu.kp k12, huo, by omega, fun H3 k3 => ?_⟩
  have k13 := k12.trans k3
  refine ⟨_, rfl, x, v, rfl, hv.kp k13, (hvo.lt1000 h6).1, (hvo.lt1000 h6).2, fun H4 b k4 hb => ?_⟩
  have k14 := k13.trans k4
  refine ⟨_, rfl, z, u, rfl, hu.kp k14, (huo.lt1000 h6).1, (huo.lt1000 h6).2, fun H5 c k5 hc => ?_⟩
  have k15 := k14.trans k5
  refine ⟨_, _, rfl, rfl, ?_⟩
  refine ⟨_, rfl, fun p d0 hp hd hne => mkS_at hp hd hne (hf.kp k15) hok fun H6 l k6 hl hS => ⟨rfl, ?_⟩⟩
  obtain ⟨⟨dx, hpi⟩, hm⟩ := id hS
  have k16 := k15.trans k6
  refine ⟨p, dx, _, rfl, hpi, sdf_cl n l, _, rfl, ?_⟩
  refine ⟨p, l, n, ps, b ||| c, v ++ u, by dsimp only; rw [or_nat]; rfl, hS, hok, hb.or hc, ?_, fun H7 d k7 hd => ?_⟩
  · intro y hy
    rcases List.mem_append.mp hy with h | h
    · exact hvo.2 _ h
    · exact huo.2 _ h
  have k17 := k16.trans k7
  obtain ⟨a, b', rfl, ha, hb'⟩ := hf.kp k17
  refine ⟨_, rfl, a, _, 0, _, rfl, rfl, tupT ha, atI_nat (j := 0) rfl, d, n, rfl, by omega, fun H8 y k8 hy => ?_⟩
  rw [msk_vl hd con_ok] at hy
  exact q _ _ (k17.trans k8) hy
end
end N0

namespace N0
open PySem L2 PySem.Spec PyProof.Rows
/-- a value as data -/
def VD (v : List Nat) : PyData := .tuple (v.map fun k : Nat => .int (k : Int))
theorem dpAll_ints {K : PySem.W.Frag} {H : Hp} : ∀ v : List Nat, DpAll K H (v.map fun k : Nat => V.int k) (v.map fun k : Nat => PyData.int (k : Int))
  | [] => .nil
  | k :: v => .cons (.int _) (dpAll_ints v)
theorem ValV.dp {K : PySem.W.Frag} {H : Hp} {v : List Nat} {x : V} : ValV H v x → Dp K H x (VD v)
  | ⟨a, e, h⟩ => e ▸ .tup (tupT h) (dpAll_ints v)
theorem lay_ints : ∀ v : List Nat, PyData.canLayAll0 (v.map fun k : Nat => PyData.int (k : Int)) = true ∧ PyData.depthAll (v.map fun k : Nat => PyData.int (k : Int)) = 0
  | [] => ⟨by simp [PyData.canLayAll0], by simp [PyData.depthAll]⟩
  | k :: v => by
    obtain ⟨h1, h2⟩ := lay_ints v
    rw [List.map_cons, PyData.canLayAll0, PyData.depthAll, h1, h2, PyData.canLay0, PyData.depth]
    exact ⟨rfl, rfl⟩
theorem sh_vd (v : List Nat) : SeqAt.shaped (VD v) = true := by
  unfold SeqAt.shaped VD
  rw [PyData.canLay0, PyData.depth, (lay_ints v).1, (lay_ints v).2]
  rfl
theorem eqvAll_ints : ∀ v u : List Nat, PyData.eqvAll (v.map fun k : Nat => PyData.int (k : Int)) (u.map fun k : Nat => PyData.int (k : Int)) = decide (v = u)
  | [], [] => by simp [PyData.eqvAll]
  | [], _ :: _ => by simp [PyData.eqvAll]
  | _ :: _, [] => by simp [PyData.eqvAll]
  | a :: v, b :: u => by
    rw [List.map_cons, List.map_cons, PyData.eqvAll, eqvAll_ints v u, PyData.eqv, Bool.eq_iff_iff]
    simp only [Bool.and_eq_true, beq_iff_eq, decide_eq_true_iff, List.cons.injEq, Int.natCast_inj]
theorem eqv_vd (v u : List Nat) : PyData.eqv (VD v) (VD u) = decide (v = u) := by
  unfold VD
  rw [PyData.eqv, eqvAll_ints]
def PD (ps : List (Nat × Nat)) : List PyData := ps.map fun p : Nat × Nat => .tuple [.int (p.1 : Int), .int (p.2 : Int)]
theorem dpAll_ps {K : PySem.W.Frag} {H : Hp} : ∀ (ys : List V) (ps : List (Nat × Nat)), ys.length = ps.length → (∀ (i : Nat) (p : Nat × Nat), ps[i]? = some p → ∃ c, ys[i]? = some (.ref c) ∧ H c = some (.tup [.int p.1, .int p.2])) → DpAll K H ys (PD ps)
  | [], [], _, _ => .nil
  | y :: ys, p :: ps, hl, h => by
    obtain ⟨c, e, hc⟩ := h 0 p rfl
    cases e
    exact .cons (.tup (tupT hc) (.cons (.int _) (.cons (.int _) .nil))) (dpAll_ps ys ps (by simpa using hl) fun i q hq => h (i + 1) q hq)
theorem PairsV.dp {K : PySem.W.Frag} {H : Hp} {ps : List (Nat × Nat)} {b : Addr} : PairsV H ps b → Dp K H (.ref b) (.tuple (PD ps))
  | ⟨ys, h1, h2, h3⟩ => .tup (tupT h1) (dpAll_ps ys ps h2 h3)
theorem lay_ps : ∀ ps : List (Nat × Nat), PyData.canLayAll0 (PD ps) = true ∧ PyData.depthAll (PD ps) ≤ 1
  | [] => ⟨by simp [PD, PyData.canLayAll0], by simp [PD, PyData.depthAll]⟩
  | p :: ps => by
    obtain ⟨h1, h2⟩ := lay_ps ps
    show PyData.canLayAll0 (_ :: PD ps) = true ∧ PyData.depthAll (_ :: PD ps) ≤ 1
    rw [PyData.canLayAll0, PyData.depthAll, h1]
    refine ⟨rfl, ?_⟩
    exact Nat.max_le.mpr ⟨Nat.le_refl 1, h2⟩
theorem sh_ps (ps : List (Nat × Nat)) : SeqAt.shaped (.tuple (PD ps)) = true := by
  unfold SeqAt.shaped
  rw [PyData.canLay0, PyData.depth, (lay_ps ps).1, Bool.true_and]
  have := (lay_ps ps).2
  exact decide_eq_true (by omega)
section
variable {P : Program} {w : World} {K : PySem.W.Frag} {mg : Str → Option Value} {base : Heap} {f C : Addr} {fd : FuncData}
theorem ok_is_closed (F : Fun K "is_closed" "is_closed" s_is_closed f fd) (T : Txt K mg) (D_closure_of : Def P w K mg base "closure_of" 5 ["frame", "points"] (spFV clo)) : FnOk P w K mg base CX0 6 f fd ["frame", "points"] spClosed := by
  refine F.ok sc_is_closed (fun vs H Q E h => ?_) (fun cdv A outer s H vs Q E hr h => ?_)
  · obtain ⟨fv, x, n, ps, v, rfl, _⟩ := h
    rfl
  obtain ⟨fv, x, n, ps, v, rfl, hf, hok, hv, hvo, q⟩ := h
  have nd := sc_is_closed.nd
  refine ⟨_, (pss_one (ps_ret (pe_cmpR (op_eqD hr.units) (e_fn D_closure_of (hr.mono (by omega)) (pa_cons (pv 0) (pa_cons (pv 1) pa_nil))) (pv 1) (nomark _)))), ?_⟩
  refine ⟨_, rfl, _, rfl, fv, x, n, ps, v, rfl, hf, hok, hv, hvo, fun H1 y k1 hy => ⟨_, rfl, VD (clo n ps v), VD v, hy.dp, (hv.kp k1).dp, sh_vd _, sh_vd _, ?_⟩⟩
  rw [eqv_vd]
  exact q _ k1
theorem ok_are_apart (F : Fun K "are_apart" "are_apart" s_are_apart f fd) (T : Txt K mg) (D_need_frame : Def P w K mg base "need_frame" 4 ["frame"] spNF) (D_need_point : Def P w K mg base "need_point" 3 ["frame", "point"] spNPo) :
    FnOk P w K mg base CX0 5 f fd ["frame", "point", "other_point"] spApart := by
  refine F.ok sc_are_apart (fun vs H Q E h => ?_) (fun cdv A outer s H vs Q E hr h => ?_)
  · obtain ⟨fv, n, ps, x, y, rfl, _⟩ := h
    rfl
  obtain ⟨fv, n, ps, x, y, rfl, hf, hok, hx, hy, q⟩ := h
  have nd := sc_are_apart.nd
  refine ⟨_, (pss_cons (ps_expr (e_fn D_need_frame (hr.mono (by omega)) (pa_cons (pv 0) pa_nil)))
      (pss_cons (ps_expr (e_fn D_need_point (hr.mono (by omega)) (pa_cons (pv 0) (pa_cons (pv 1) pa_nil))))
      (pss_cons (ps_expr (e_fn D_need_point (hr.mono (by omega)) (pa_cons (pv 0) (pa_cons (pv 2) pa_nil))))
      (pss_one (ps_ret (pe_cmpR (op_inDT (hu65 hr)) (pe_tup (pa_cons (pe_callB (call_min2 rfl) (by rfl) T.min bt_min (pa_cons (pv 1) (pa_cons (pv 2) pa_nil))) (pa_cons (pe_callB (call_max2 rfl) (by rfl) T.max bt_max (pa_cons (pv 1) (pa_cons (pv 2) pa_nil))) pa_nil))) (pe_ix ix_tup (pv 0) pe_int (fun _ _ => rfl)) rfl)))))), ?_⟩
  refine ⟨_, rfl, fv, n, ps, rfl, hf, hok, fun H1 k1 => ?_⟩
  refine ⟨_, rfl, _, rfl, fv, n, ps, x, rfl, hf.kp k1, hx, fun H2 k2 => ?_⟩
  have k12 := k1.trans k2
  refine ⟨_, rfl, _, rfl, fv, n, ps, y, rfl, hf.kp k12, hy, fun H3 k3 => ?_⟩
  have k13 := k12.trans k3
  obtain ⟨a, b, rfl, ha, hb⟩ := hf.kp k13
  have e1 : (if (y : Int) < (x : Int) then (y : Int) else (x : Int)) = ((min x y : Nat) : Int) := by split <;> omega
  have e2 : (if (y : Int) > (x : Int) then (y : Int) else (x : Int)) = ((max x y : Nat) : Int) := by split <;> omega
  refine ⟨_, rfl, _, rfl, _, _, rfl, _, rfl, _, rfl, _, _, rfl, by show 2 ≤ sizeLine; decide, fun p hp => ?_⟩
  rw [e1, e2]
  have k4 : Kp [] H3 (upd H3 p (.tup [.int ((min x y : Nat) : Int), .int ((max x y : Nat) : Int)])) := Kp.new hp
  refine ⟨_, rfl, a, _, 1, _, rfl, rfl, tupT (k4.t _ _ ha), atI_nat (j := 1) rfl, .tuple [.int ((min x y : Nat) : Int), .int ((max x y : Nat) : Int)], PD ps, .tup (tupT upd_same) (.cons (.int _) (.cons (.int _) .nil)), (hb.kp k4).dp, rfl, sh_ps _, ?_⟩
  have e3 := inAny (ps := ps) (m := min x y) (k := max x y)
  unfold PD
  rw [e3]
  exact q _ (k13.trans k4)
end
end N0

namespace N0
open PySem L2 PySem.Spec PyProof.Rows
/-! ### sorted of tuples of whole numbers, one of them empty -/
def FstV (h : Heap) : List Value → List (Option Value) → Prop
  | [], [] => True
  | v :: vs, f :: fs => (∃ (a : Addr) (o : Obj) (xs : Array Value) (n : Nat), v = .ref a ∧ h.get? a = some o ∧ o.cls = .type "tuple" ∧ o.data = .seq xs n ∧ xs[0]? = f) ∧ FstV h vs fs
  | _, _ => False
section
variable {M : Model} {A : Around} {E : Value → Shared → Prop} {s : Shared}
theorem firstsM : ∀ (vs : List Value) (fs : List (Option Value)) {Q : List (Option Value) → Shared → Prop}, FstV s.heap vs fs → Q fs s → wpAny M A (vs.mapM firstOfTuple') Q E s
  | [], [], Q, _, q => by rw [List.mapM_nil]; exact wpAny_pure q
  | [], _ :: _, _, t, _ => t.elim
  | _ :: _, [], _, t, _ => t.elim
  | v :: vs, f :: fs, Q, t, q => by
    obtain ⟨⟨a, o, xs, n, rfl, h1, h2, h3, h4⟩, t⟩ := t
    rw [List.mapM_cons]
    refine wpAny_bind ?_
    rw [PySem.W.kas_first_eq]
    refine wpAny_bind (PySem.W.Looks.here (show PySem.W.Looks M s.heap (typeOf (.ref a)) o.cls from (PySem.W.Looks.ld h1).andThen .now) ?_)
    rw [h2, if_neg (by simp)]
    refine wpAny_bind (listItems_at h1 h3 (wpAny_pure ?_))
    rw [h4]
    exact wpAny_bind (firstsM vs fs (Q := fun g s' => wpAny M A (pure (f :: g)) Q E s') t (wpAny_pure q))
theorem fst_ty {h : Heap} : ∀ {vs : List Value} {fs : List (Option Value)}, FstV h vs fs → ∀ v ∈ vs, PySem.W.Looks M h (typeOf v) (.type "tuple")
  | v :: vs, f :: fs, t, u, hu => by
    obtain ⟨⟨a, o, xs, n, e, h1, h2, h3, h4⟩, t⟩ := t
    rcases List.mem_cons.mp hu with z | z
    · rw [z, e, ← h2]
      exact (PySem.W.Looks.ld h1).andThen .now
    · exact fst_ty t u z
theorem fst_len {h : Heap} : ∀ {vs : List Value} {fs : List (Option Value)}, FstV h vs fs → fs.length = vs.length
  | [], [], _ => rfl
  | _ :: _, _ :: _, t => by simp [fst_len t.2]
def kap (fs : List (Option Value)) : SortKind := if (fs.toArray[0]?.bind id).isSome = true then general' else oneType'
theorem kap_or (fs : List (Option Value)) : kap fs = general' ∨ kap fs = oneType' := by
  unfold kap
  split
  · exact .inl rfl
  · exact .inr rfl
theorem kind_mix {vs : List Value} {fs : List (Option Value)} {Q : SortKind → Shared → Prop} (t : FstV s.heap vs fs) (hn : none ∈ fs) (q : Q (kap fs) s) : wpAny M A (keyKind' vs.toArray) Q E s := by
  rw [kat_kind_eq, List.mapM_toArray, map_eq_pure_bind]
  refine wpAny_bind (wpAny_bind (firstsM vs fs t (wpAny_pure ?_)))
  have e1 : ¬ (fs.toArray.all fun x => x.isSome) = true := by
    simp only [List.all_toArray, List.all_eq_true]
    intro z
    exact absurd (z _ hn) (by simp)
  rw [if_neg e1]
  by_cases e2 : (fs.toArray[0]?.bind id).isSome = true
  · unfold kap at q
    rw [if_pos e2] at q ⊢
    exact wpAny_pure q
  · unfold kap at q
    rw [if_neg e2] at q ⊢
    rw [oneTypeOnly'_eq, List.mapM_toArray, map_eq_pure_bind]
    refine wpAny_bind (wpAny_bind (wpAny_bind (PySem.W.kas_mapM (r := .type "tuple") _ (fun v hv Q' hq => (fst_ty t v hv).here hq) (wpAny_pure ?_))))
    obtain ⟨v, r, rfl⟩ : ∃ v r, vs = v :: r := by
      have := fst_len t
      cases vs with
      | nil => cases fs with | nil => simp at hn | cons _ _ => exact t.elim
      | cons v r => exact ⟨v, r, rfl⟩
    have e3 : ((List.map (fun _ => Value.type "tuple") (v :: r)).toArray.all fun x => x == Value.type "tuple") = true := by
      simp only [List.all_toArray, List.all_map, List.all_eq_true]
      intro _ _
      exact beq_self_eq_true _
    have e4 : (List.map (fun _ => Value.type "tuple") (v :: r)).toArray[0]? = some (.type "tuple") := by simp
    rw [e4]
    simp only [e3, if_true]
    exact wpAny_pure (wpAny_pure q)
end
section
variable {prog : Program} {w : World} {A : Around} {s : Shared}
theorem call_tuple_ltO {a b : Addr} {i1 i2 : List Value} {ns ms : List Int} {Q : Value → Shared → Prop} {E : Value → Shared → Prop} (h1 : s.heap.IsTuple a i1.toArray) (j1 : IntsAre i1 ns) (h2 : s.heap.IsTuple b i2.toArray) (j2 : IntsAre i2 ms)
    (h : Q (.bool (decide (ns < ms))) s) : wpAny (model prog w) A (call (.builtin "tuple.__lt__") [.ref a, .ref b]) Q E s := by
  have l1 := j1.length; have l2 := j2.length
  obtain ⟨⟨c1, d1, t1, sl1⟩, ho1, hc1, n1, hd1⟩ := id h1
  obtain ⟨⟨c2, d2, t2, sl2⟩, ho2, hc2, n2, hd2⟩ := id h2
  simp only at hc1 hd1 hc2 hd2
  subst hc1 hd1 hc2 hd2
  refine call_meets F.slot_tuple_lt ⟨_, ho1, rfl⟩ F.entry_tuple_lt (F.args_tuple_lt_2 _ _) (SeqAt.tuple_ltAt a b i1.toArray i2.toArray n1 n2 d1 d2 sl1 sl2 (fun j => decide (ns.getD j 0 = ms.getD j 0)) (fun j => decide (ns.getD j 0 < ms.getD j 0))) ⟨ho1, ho2, fun j p q => ?_, fun j p q _ => ?_, ?_⟩
  · obtain ⟨t1, q1⟩ := ints_at j1 j p
    obtain ⟨t2, q2⟩ := ints_at j2 j q
    rw [q1, q2]
    exact SeqAt.EqAt.int_int (A := A.in1) (s := s) (ns.getD j 0) t1 (ms.getD j 0) t2
  · intro prog w E Q hq
    obtain ⟨t1, q1⟩ := ints_at j1 j p
    obtain ⟨t2, q2⟩ := ints_at j2 j q
    rw [q1, q2]
    exact lt_int hq
  · rw [List.size_toArray, List.size_toArray, l1, l2, firstLt_ints]
    exact h
theorem lt_mix {κ : SortKind} (hκ : κ = general' ∨ κ = oneType') (hu : A.units + 1 < cLine) {a b : Addr} {i1 i2 : List Value} {ns ms : List Int} {Q : Bool → Shared → Prop} {E : Value → Shared → Prop} (h1 : s.heap.IsTuple a i1.toArray) (j1 : IntsAre i1 ns)
    (h2 : s.heap.IsTuple b i2.toArray) (j2 : IntsAre i2 ms) (h : Q (decide (ns < ms)) s) : wpAny (model prog w) A (keyLt' κ (.ref a) (.ref b)) Q E s := by
  rcases hκ with rfl | rfl
  · show wpAny _ _ (oneLt' false _ _) _ _ _
    refine lt_si (c := false) (x := .t ns) (y := .t ms) (by omega) ⟨a, i1, rfl, h1, j1⟩ ⟨b, i2, rfl, h2, j2⟩ rfl (fun z => by cases z) ?_
    have e : decide ((SI.t ns).enc < (SI.t ms).enc) = decide (ns < ms) := by
      simp only [SI.enc, List.cons_lt_cons_iff, decide_eq_decide]; simp
    rw [e]
    exact h
  · show wpAny _ _ (oneLt' true _ _) _ _ _
    rw [oneLt'_eq]
    simp only [if_true]
    refine wpAny_bind (wpAny_cRoomFor (by omega) ?_)
    obtain ⟨o, ho, hc, n, hd⟩ := id h1
    refine wpAny_bind (wpAny_callSpecialIfBound?_slot (T := "tuple") ⟨_, ho, hc⟩ F.slot_tuple_lt (call_tuple_ltO h1 j1 h2 j2 ?_))
    exact wpAny_truthy_bool h
end
end N0

namespace N0
open PySem L2 PySem.Spec PyProof.Rows
def nsLt (k : V → List Int) (x y : V) : Bool := decide (k x < k y)
theorem nsLt_swo (k : V → List Int) : SrtO.Swo (nsLt k) :=
  ⟨fun x y h => decide_eq_false (List.lt_asymm (of_decide_eq_true h)), fun x y z h1 h2 => decide_eq_false fun h => absurd h (List.not_lt.mpr (List.le_trans (List.not_lt.mp (of_decide_eq_false h1)) (List.not_lt.mp (of_decide_eq_false h2))))⟩
/-- a tuple of whole numbers -/
def NsH (h : Heap) (ns : List Int) (v : Value) : Prop := ∃ (t : Addr) (o : Obj) (its : List Value) (n : Nat), v = .ref t ∧ h.get? t = some o ∧ o.cls = .type "tuple" ∧ o.data = .seq its.toArray n ∧ IntsAre its ns
theorem NsH.keeps {h h' : Heap} (k : ∀ b o, h.get? b = some o → o.cls = .type "tuple" → h'.get? b = some o) {ns : List Int} {v : Value} : NsH h ns v → NsH h' ns v
  | ⟨t, o, its, n, e, h1, h2, h3, h4⟩ => ⟨t, o, its, n, e, k _ _ h1 h2, h2, h3, h4⟩
theorem ns_firsts {h : Heap} {k : Value → List Int} : ∀ {vs : List Value}, (∀ v ∈ vs, NsH h (k v) v) → ∃ fs : List (Option Value), FstV h vs fs ∧ ∀ v ∈ vs, k v = [] → none ∈ fs
  | [], _ => ⟨[], trivial, fun _ hm => by simp at hm⟩
  | v :: vs, hv => by
    obtain ⟨fs, h1, h2⟩ := ns_firsts (vs := vs) fun u hu => hv u (List.mem_cons_of_mem _ hu)
    obtain ⟨t, o, its, n, e, g1, g2, g3, g4⟩ := hv v (List.mem_cons_self ..)
    refine ⟨its.toArray[0]? :: fs, ⟨⟨t, o, _, n, e, g1, g2, g3, rfl⟩, h1⟩, fun u hu z => ?_⟩
    rcases List.mem_cons.mp hu with rfl | y
    · have l := g4.length
      rw [z] at l
      have : its = [] := List.eq_nil_of_length_eq_zero (by simpa using l)
      subst this
      exact List.mem_cons_self ..
    · exact List.mem_cons_of_mem _ (h2 u y z)
/-- sorted(xs), xs a list of tuples of whole numbers, one of them empty: a new list, in order -/
def rSortL (K : PySem.W.Frag) : List V → Hp → VK → Prop := fun vs H Q => ∃ (a : Addr) (xs : List V) (k : V → List Int), vs = [V.ref a] ∧ SqL K H a xs ∧ (∃ x ∈ xs, k x = []) ∧
  (∀ x ∈ xs, ∃ t, x = .ref t ∧ H t = some (.tup ((k x).map V.int))) ∧
  ∀ ys p, ys.Pairwise (fun x y => nsLt k y x = false) → ys.Perm xs → H p = none → Q (.ref p) (upd H p (.lst ys))
theorem cr_sortL {X : Cx} (hu : X.A.units + 64 < cLine) : CallR X (.builtin "sorted") (rSortL X.K) := by
  intro pins s σ H vs us Q I r h
  obtain ⟨a, xs, k, rfl, hs, ⟨x0, hx0, hk0⟩, hx, q⟩ := h
  obtain ⟨its, rv, hl, hz⟩ := I.list hs
  obtain ⟨u, rfl, ru⟩ := vals1 r
  obtain rfl : u = Value.ref a := ru
  obtain ⟨e1, e2⟩ := refs_back rv fun x m => by
    obtain ⟨t, e, _⟩ := hx x m
    exact ⟨t, e⟩
  have rows : ∀ v ∈ its, NsH s.heap (k (backV v)) v := fun v hv => by
    obtain ⟨t, rfl⟩ := e2 v hv
    have hm : V.ref t ∈ xs := by
      rw [e1]
      exact List.mem_map.mpr ⟨_, hv, rfl⟩
    obtain ⟨t', e, ht⟩ := hx _ hm
    cases e
    obtain ⟨_, its2, r2, o, ho, hc, n, hd⟩ := I.hok _ _ ht
    exact ⟨t, o, its2, n, rfl, ho, hc, hd, r2.ints⟩
  obtain ⟨v0, hv0, hb0⟩ : ∃ v ∈ its, k (backV v) = [] := by
    rw [e1] at hx0
    obtain ⟨v, hv, rfl⟩ := List.mem_map.mp hx0
    exact ⟨v, hv, hk0⟩
  refine SrtO.sorted_ord (ltv := fun u v => nsLt k (backV u) (backV v)) ⟨fun x y => (nsLt_swo k).asym _ _, fun x y z => (nsLt_swo k).tr _ _ _⟩ hl.isList (by rw [← rv.length]; exact hz) (fun h2 h₁ b hb kk => ?_) fun out h1 h2 => ?_
  · intro h' keep
    have keep2 : ∀ d o, s.heap.get? d = some o → o.cls = .type "tuple" → h'.get? d = some o := fun d o e hc => keep d o (kk d o e).1 (kk d o e).2
    have rows' : ∀ v ∈ its, NsH h' (k (backV v)) v := fun v hv => (rows v hv).keeps keep2
    obtain ⟨fs, f1, f2⟩ := ns_firsts rows'
    refine ⟨kap fs, fun Q E hq => kind_mix f1 (f2 _ hv0 hb0) hq, fun p p' hm hm' => ?_⟩
    obtain ⟨t, o, i1, n, e, g1, g2, g3, g4⟩ := rows' _ hm
    obtain ⟨t', o', i2, n', e', g1', g2', g3', g4'⟩ := rows' _ hm'
    show wpAny _ _ (keyLt' _ p.1 p'.1) (fun r s' => s' = _ ∧ r = nsLt k (backV p.1) (backV p'.1)) _ _
    rw [e] at g4 ⊢
    rw [e'] at g4' ⊢
    exact lt_mix (kap_or fs) (by show X.A.units + 1 + 1 + 1 < cLine; omega) ⟨o, g1, g2, n, g3⟩ g4 ⟨o', g1', g2', n', g3'⟩ g4' ⟨rfl, rfl⟩
  · have h3 : ∀ u ∈ out, ∃ a, u = Value.ref a := fun u hu => e2 u (h2.perm.mem_iff.mp hu)
    obtain ⟨n, hn⟩ := PyProof.Rows.sortedAll_at s.heap its out.toArray
    have hp : (out.map backV).Perm xs := by
      rw [e1]
      exact h2.perm.map _
    refine ⟨.ref _, upd H (s.heap.objs.size + 1) (.lst (out.map backV)), I.laid (t' := s.toks) (fun _ _ => PyProof.Rows.sortedAll_old) (Nat.le_succ _) ⟨?_, out, n, vals_back h3, by simpa using hn⟩, rfl, q _ _ ?_ hp (I.hok.fresh (Nat.le_succ _))⟩
    · rw [hp.length_eq]
      exact hz
    · exact List.pairwise_map.mpr h1
end N0

namespace N0
open PySem L2 PySem.Spec PyProof.Rows
def intV : V → Int
  | .int i => i
  | _ => 0
/-- the whole numbers of the tuple that v is -/
def nsOf (H : Hp) : V → List Int
  | .ref a => match H a with
    | some (.tup xs) => xs.map intV
    | _ => []
  | _ => []
theorem nsOf_tup {H : Hp} {t : Addr} {ns : List Int} (h : H t = some (.tup (ns.map V.int))) : nsOf H (.ref t) = ns := by
  unfold nsOf
  simp only [h, List.map_map]
  exact List.map_id'' (fun _ => rfl) ns
/-- tuples of whole numbers -/
def TupsAre (H : Hp) (ys : List V) (zs : List (List Int)) : Prop := ys.length = zs.length ∧ ∀ (i : Nat) (z : List Int), zs[i]? = some z → ∃ t, ys[i]? = some (.ref t) ∧ H t = some (.tup (z.map V.int))
theorem TupsAre.kp {S : List Addr} {H H' : Hp} {ys : List V} {zs : List (List Int)} (k : Kp S H H') (h : TupsAre H ys zs) : TupsAre H' ys zs :=
  ⟨h.1, fun i z hz => let ⟨t, e, ht⟩ := h.2 i z hz; ⟨t, e, k.t _ _ ht⟩⟩
theorem TupsAre.ns {H : Hp} {ys : List V} {zs : List (List Int)} (h : TupsAre H ys zs) : ys.map (nsOf H) = zs := by
  apply List.ext_getElem?
  intro i
  rw [List.getElem?_map]
  cases hz : zs[i]? with
  | none =>
    have := List.getElem?_eq_none_iff.mp hz
    rw [List.getElem?_eq_none (by rw [h.1]; exact this)]
    rfl
  | some z =>
    obtain ⟨t, e, ht⟩ := h.2 i z hz
    rw [e, Option.map_some, nsOf_tup ht]
theorem TupsAre.of {H : Hp} {ys : List V} (h : ∀ y ∈ ys, ∃ t, y = .ref t ∧ H t = some (.tup ((nsOf H y).map V.int))) : TupsAre H ys (ys.map (nsOf H)) := by
  refine ⟨(List.length_map _).symm, fun i z hz => ?_⟩
  rw [List.getElem?_map] at hz
  obtain ⟨y, hy, rfl⟩ := Option.map_eq_some_iff.mp hz
  obtain ⟨t, e, ht⟩ := h y (List.mem_of_getElem? hy)
  exact ⟨t, by rw [hy, e], ht⟩
theorem TupsAre.mem {H : Hp} {ys : List V} {zs : List (List Int)} (h : TupsAre H ys zs) : ∀ y ∈ ys, ∃ t, y = .ref t ∧ H t = some (.tup ((nsOf H y).map V.int)) := fun y hy => by
  obtain ⟨i, hi⟩ := List.getElem?_of_mem hy
  have hl : i < zs.length := by rw [← h.1]; exact (List.getElem?_eq_some_iff.mp hi).1
  obtain ⟨t, e, ht⟩ := h.2 i _ (List.getElem?_eq_getElem hl)
  rw [hi] at e
  cases e
  exact ⟨t, rfl, by rw [nsOf_tup ht]; exact ht⟩
/-- sorted(xs), read by what the tuples hold -/
theorem sortL_read {K : PySem.W.Frag} {H : Hp} {a : Addr} {xs : List V} {zs : List (List Int)} {Q : VK} (ha : SqL K H a xs) (hx : TupsAre H xs zs) (h0 : [] ∈ zs)
    (q : ∀ ys p us, TupsAre H ys us → us.Perm zs → us.Pairwise (fun x y => ¬ y < x) → H p = none → Q (.ref p) (upd H p (.lst ys))) : rSortL K [.ref a] H Q := by
  refine ⟨a, xs, nsOf H, rfl, ha, ?_, hx.mem, fun ys p hy hp hn => ?_⟩
  · rw [← hx.ns] at h0
    obtain ⟨x, h1, h2⟩ := List.mem_map.mp h0
    exact ⟨x, h1, h2⟩
  · refine q ys p _ (TupsAre.of fun y hy => hx.mem y (hp.mem_iff.mp hy)) ?_ ?_ hn
    · rw [← hx.ns]
      exact hp.map _
    · exact List.pairwise_map.mpr (hy.imp fun h => of_decide_eq_false h)
/-- sorted(d), d a dict whose keys are tuples of whole numbers, one of them empty -/
def rSortDT : List V → Hp → VK → Prop := fun vs H Q => ∃ (d : Addr) (kvs : List (List Key × V)) (ks : List (List Int)), vs = [V.ref d] ∧ Rd H d (.dT kvs) ∧ kvs.map (·.1) = ks.map (fun l => l.map Sum.inl) ∧ [] ∈ ks ∧
  ∀ ys p us, TupsAre H ys us → us.Perm ks → us.Pairwise (fun x y => ¬ y < x) → H p = none → Q (.ref p) (upd H p (.lst ys))
theorem map_inl_inj : ∀ {a b : List Int}, a.map (Sum.inl : Int → Key) = b.map Sum.inl → a = b
  | [], [], _ => rfl
  | [], _ :: _, h => by cases h
  | _ :: _, [], h => by cases h
  | x :: a, y :: b, h => by
    rw [List.map_cons, List.map_cons, List.cons.injEq] at h
    rw [Sum.inl.inj h.1, map_inl_inj h.2]
theorem kt_tups {H : Hp} : ∀ {kvs : List (List Key × V)} {ks : List (List Key × Addr × Value)} {zs : List (List Int)}, KT H kvs ks → kvs.map (·.1) = zs.map (fun l => l.map Sum.inl) → TupsAre H ((ks.map fun x => x.2.1).map V.ref) zs
  | [], _, [], .nil, _ => ⟨rfl, fun i z hz => by simp at hz⟩
  | _ :: _, _, z :: zs, .cons h t, e => by
    rw [List.map_cons, List.map_cons, List.cons.injEq] at e
    obtain ⟨h1, h2⟩ := kt_tups t e.2
    refine ⟨by simpa using h1, fun i y hy => ?_⟩
    cases i with
    | zero =>
      cases hy
      refine ⟨_, rfl, ?_⟩
      have := h.2.1
      rw [e.1, List.map_map] at this
      exact this
    | succ i => exact h2 i y (by simpa using hy)
  | [], _, _ :: _, _, e => by cases e
  | _ :: _, _, [], _, e => by cases e
theorem cr_sortDT {X : Cx} (hc : X.calm = true) (hu : X.A.units + 64 < cLine) : CallR X (.builtin "sorted") rSortDT := by
  intro pins s σ H vs us Q I r h
  obtain ⟨d, kvs, zs, rfl, hd, hzs, h0, q⟩ := h
  obtain ⟨u, rfl, ru⟩ := vals1 r
  cases ru
  obtain ⟨z, hs, ks, pr, o, es, ep, ho, hx, hdt, he, hn⟩ := (show ObjOk X.prog X.w H s.heap d (.dT kvs) from hd.ok I.hok)
  have l1 : es.size = ks.length := size_of_entries he
  have l2 : kvs.length = ks.length := Paired.length pr
  refine Calls.call_function_entry PyProof.Rows.kind_sorted PyProof.Rows.plain_sorted PyProof.Rows.entry_sorted (PyProof.Rows.args_sorted1 _) ?_
  unfold Builtin.«sorted»
  refine wpAny_bind (m := checkCount "sorted" 1 1 _) (wpAny_pure ?_)
  refine wpAny_bind (PySem.W.kdu_collect (A := X.A.in1) (kdl_raw hs hx hdt) (I.ok.hd hc) ho (by omega) fun h' tk acc hk hacc => ?_)
  have ea : acc.toList = (ks.map fun x => x.2.1).map Value.ref := by
    rw [List.map_map]
    apply List.ext_getElem?
    intro j
    rw [List.getElem?_map]
    cases hj : acc.toList[j]? with
    | none =>
      have h1 := List.getElem?_eq_none_iff.mp hj
      rw [List.getElem?_eq_none (by rw [Array.length_toList, hacc.1] at h1; omega)]
      rfl
    | some v =>
      obtain ⟨en, hen, hv⟩ := hacc.2 j v (by rw [← Array.getElem?_toList]; exact hj)
      have qe := entry_at he j
      rw [hen] at qe
      cases hb : ks[j]? with
      | none =>
        rw [hb] at qe
        cases qe
      | some b =>
        rw [hb] at qe
        have e2 : en = entryOfKey (tupleKind (mixKind X.prog X.w)) b := Option.some.inj qe
        rw [hv, e2]
        rfl
  have hta : TupsAre H ((ks.map fun x => x.2.1).map V.ref) zs := kt_tups pr hzs
  have I1 : Inv X pins σ H { s with heap := h', toks := tk } := I.kept hk
  have hal : acc.toList.length = ks.length := by rw [ea, List.length_map, List.length_map]
  have hbk : acc.toList.map backV = (ks.map fun x => x.2.1).map V.ref := by
    rw [ea, List.map_map]
    exact List.map_congr_left fun _ _ => rfl
  have e2 : ∀ u ∈ acc.toList, ∃ a, u = Value.ref a := fun u hu => by
    rw [ea] at hu
    obtain ⟨a, _, rfl⟩ := List.mem_map.mp hu
    exact ⟨a, rfl⟩
  have rows : ∀ v ∈ acc.toList, NsH h' (nsOf H (backV v)) v := fun v hv => by
    obtain ⟨t, rfl⟩ := e2 v hv
    obtain ⟨t', e, ht⟩ := hta.mem (backV (.ref t)) (by rw [← hbk]; exact List.mem_map.mpr ⟨_, hv, rfl⟩)
    cases e
    obtain ⟨_, its2, r2, o, ho, hc, n, hd⟩ := I1.hok _ _ ht
    exact ⟨t, o, its2, n, rfl, ho, hc, hd, r2.ints⟩
  obtain ⟨v0, hv0, hb0⟩ : ∃ v ∈ acc.toList, nsOf H (backV v) = [] := by
    rw [← hta.ns, ← hbk, List.map_map] at h0
    obtain ⟨v, h1, h2⟩ := List.mem_map.mp h0
    exact ⟨v, h1, h2⟩
  have hz : acc.toList.length ≤ sizeLine := by omega
  refine wpAny_bind (wpAny_newList ?_ hz)
  have hoL : (h'.push (seqObj "list" acc.toList.toArray 0)).get? h'.objs.size = some (seqObj "list" acc.toList.toArray 0) := Heap.get?_push_size _ rfl
  show wpAny _ _ _ _ _ { s with heap := h'.push (seqObj "list" acc.toList.toArray 0), toks := tk }
  refine wpAny_bind (wpAny_holding (wpAny_call_entry PyProof.Rows.slot_list_sort ⟨_, hoL, rfl⟩ PyProof.Rows.entry_list_sort
    (SrtO.list_sort_ord (s := { s with heap := h'.push (seqObj "list" acc.toList.toArray 0), toks := tk }) (ltv := fun u v => nsLt (nsOf H) (backV u) (backV v)) ⟨fun x y => (nsLt_swo _).asym _ _, fun x y z => (nsLt_swo _).tr _ _ _⟩ hoL hz (fun _ => ?_) fun out h1 h2 => ⟨_, rfl, ?_⟩)
    (PyProof.Rows.args_list_sort _)))
  · intro h2 keep
    have keep2 : ∀ d o, h'.get? d = some o → o.cls = .type "tuple" → h2.get? d = some o := fun d o e _ => keep d o (Nat.ne_of_lt (Heap.lt_size e)) (Heap.get?_push_of_some _ e)
    have rows' : ∀ v ∈ acc.toList, NsH h2 (nsOf H (backV v)) v := fun v hv => (rows v hv).keeps keep2
    obtain ⟨fs, f1, f2⟩ := ns_firsts rows'
    refine ⟨kap fs, fun Q E hq => kind_mix f1 (f2 _ hv0 hb0) hq, fun p p' hm hm' => ?_⟩
    obtain ⟨t, o, i1, n, e, g1, g2, g3, g4⟩ := rows' _ hm
    obtain ⟨t', o', i2, n', e', g1', g2', g3', g4'⟩ := rows' _ hm'
    show wpAny _ _ (keyLt' _ p.1 p'.1) (fun r s' => s' = _ ∧ r = nsLt (nsOf H) (backV p.1) (backV p'.1)) _ _
    rw [e] at g4 ⊢
    rw [e'] at g4' ⊢
    exact lt_mix (kap_or fs) (by show X.A.units + 1 + 1 + 1 < cLine; omega) ⟨o, g1, g2, n, g3⟩ g4 ⟨o', g1', g2', n', g3'⟩ g4' ⟨rfl, rfl⟩
  · have h3 : ∀ u ∈ out, ∃ a, u = Value.ref a := fun u hu => e2 u (h2.perm.mem_iff.mp hu)
    have hp : (out.map backV).Perm ((ks.map fun x => x.2.1).map V.ref) := by
      rw [← hbk]
      exact h2.perm.map _
    obtain ⟨e', he'⟩ := PyProof.Rows.sortedHeap_at (vs := acc.toList) (out := out.toArray) hoL
    have hr : TupsAre H (out.map backV) ((out.map backV).map (nsOf H)) := TupsAre.of fun y hy => hta.mem y (hp.mem_iff.mp hy)
    refine wpAny_pure ⟨_, rfl, .ref h'.objs.size, upd H h'.objs.size (.lst (out.map backV)), I1.laid (t' := tk) (fun b u e => ?_) (Nat.le_refl _) ⟨?_, out, e', vals_back h3, by simpa using he'⟩, rfl, q _ _ _ hr ?_ ?_ (I1.hok.fresh (Nat.le_refl _))⟩
    · have hb : b < h'.objs.size := Heap.lt_size e
      rw [PyProof.Rows.sortedHeap_old (Nat.ne_of_lt hb) (by rw [PyProof.Rows.size_push']; exact Nat.lt_succ_of_lt hb)]
      exact Heap.get?_push_of_some _ e
    · rw [hp.length_eq, List.length_map, List.length_map]
      omega
    · rw [← hta.ns]
      exact hp.map _
    · refine List.pairwise_map.mpr (List.pairwise_map.mpr (List.Pairwise.imp (fun h => of_decide_eq_false h) h1))
end N0


namespace N0
/-! ### the closed sets, reached by cuts -/
variable {n : Nat} {ps : List (Nat × Nat)}
def Clo (n : Nat) (ps : List (Nat × Nat)) (v : List Nat) : Prop := VOk n v ∧ clo n ps v = v
theorem clo_con1 {u : List Nat} (h : ∀ x ∈ u, x < n) : Clo n ps (con n ps u) := ⟨con_ok, clo_con' h⟩
theorem Clo.cut {v w : List Nat} (hv : Clo n ps v) (hw : Clo n ps w) : Clo n ps (v.filter fun x => decide (x ∈ w)) := by
  have ok : VOk n (v.filter fun x => decide (x ∈ w)) := ⟨hv.1.1.filter _, fun x hx => hv.1.2 x (List.mem_filter.mp hx).1⟩
  refine ⟨ok, VOk.ext con_ok ok fun x => ⟨fun h => ?_, fun h => sub_clo ok.2 x h⟩⟩
  refine List.mem_filter.mpr ⟨?_, decide_eq_true ?_⟩
  · have := clo_mono (w := v) (fun y hy => (List.mem_filter.mp hy).1) x h
    rw [hv.2] at this
    exact this
  · have := clo_mono (w := w) (fun y hy => of_decide_eq_true (List.mem_filter.mp hy).2) x h
    rw [hw.2] at this
    exact this
theorem clo_every : Clo n ps (List.range n) := by
  have e : con n ps [] = List.range n := by
    unfold con vl
    simp
  rw [← e]
  exact clo_con1 fun x hx => by simp at hx
theorem con_cons {x : Nat} {u : List Nat} : con n ps (x :: u) = (con n ps u).filter fun y => decide (y ∈ con n ps [x]) := by
  refine VOk.ext con_ok ⟨con_ok.1.filter _, fun y hy => con_lt y (List.mem_filter.mp hy).1⟩ fun y => ?_
  rw [List.mem_filter, decide_eq_true_iff, mem_con, mem_con, mem_con]
  simp only [List.mem_cons, forall_eq_or_imp, List.mem_singleton, forall_eq, List.not_mem_nil, false_imp_iff, implies_true, and_true]
  constructor
  · rintro ⟨h1, h2, h3⟩
    exact ⟨⟨h1, h3⟩, h1, h2⟩
  · rintro ⟨⟨h1, h3⟩, _, h2⟩
    exact ⟨h1, h2, h3⟩
/-- what holds all and is kept by each cut holds every closed set -/
theorem reach {S : List (List Nat)} (h0 : List.range n ∈ S) (hc : ∀ v ∈ S, ∀ x, x < n → (v.filter fun y => decide (y ∈ con n ps [x])) ∈ S) {v : List Nat} (hv : Clo n ps v) : v ∈ S := by
  have key : ∀ u : List Nat, (∀ x ∈ u, x < n) → con n ps u ∈ S := by
    intro u
    induction u with
    | nil =>
      intro _
      have e : con n ps [] = List.range n := by
        unfold con vl
        simp
      rw [e]
      exact h0
    | cons x u ih =>
      intro h
      rw [con_cons]
      exact hc _ (ih fun y hy => h y (List.mem_cons_of_mem _ hy)) x (h x (List.mem_cons_self ..))
  have := key (con n ps v) con_lt
  have e : con n ps (con n ps v) = v := hv.2
  rw [e] at this
  exact this
end N0

namespace N0
open PySem L2
/-- the mask of a set of points -/
def bt (v : List Nat) : Nat := v.foldr (fun k b => 2 ^ k ||| b) 0
theorem bt_msk : ∀ v : List Nat, Msk (bt v) v
  | [] => Msk.zero
  | k :: v => (Msk.one k).or (bt_msk v)
theorem bt_of {b : Nat} {v : List Nat} (h : Msk b v) : b = bt v := h.eq (bt_msk v) fun _ => Iff.rfl
theorem bt_inj {n : Nat} {v w : List Nat} (hv : VOk n v) (hw : VOk n w) (e : bt v = bt w) : v = w := hv.ext hw fun x => (bt_msk v).mem (bt_msk w) e x
theorem bt_lt {n : Nat} {v : List Nat} (h : ∀ x ∈ v, x < n) : bt v < 2 ^ n := by
  refine Nat.lt_pow_two_of_testBit _ fun i hi => ?_
  rw [bt_msk v i]
  exact decide_eq_false fun z => by have := h i z; omega
theorem bt_and (v w : List Nat) : bt v &&& bt w = bt (v.filter fun x => decide (x ∈ w)) := bt_of ((bt_msk v).and (bt_msk w))
theorem nodup_le : ∀ (m : Nat) (l : List Nat), l.Nodup → (∀ x ∈ l, x < m) → l.length ≤ m
  | 0, l, _, h => by
    cases l with
    | nil => exact Nat.le_refl _
    | cons a l => exact absurd (h a (List.mem_cons_self ..)) (by omega)
  | m + 1, l, hd, h => by
    have h1 := nodup_le m (l.filter fun x => decide (x ≠ m)) (hd.filter _) fun x hx => by
      have := List.mem_filter.mp hx
      have h2 := h x this.1
      have h3 := of_decide_eq_true this.2
      omega
    have h2 : l.length = (l.filter fun x => decide (x ≠ m)).length + (l.filter fun x => decide (x = m)).length := by
      clear h h1 hd
      induction l with
      | nil => rfl
      | cons a l ih =>
        rw [List.filter_cons, List.filter_cons]
        by_cases e : a = m
        · rw [if_neg (by simp [e]), if_pos (by simp [e]), List.length_cons, List.length_cons, ih]; omega
        · rw [if_pos (by simp [e]), if_neg (by simp [e]), List.length_cons, List.length_cons, ih]; omega
    have h3 : (l.filter fun x => decide (x = m)).length ≤ 1 := by
      have hn := hd.filter fun x => decide (x = m)
      have hm : ∀ x ∈ l.filter (fun x => decide (x = m)), x = m := fun x hx => of_decide_eq_true (List.mem_filter.mp hx).2
      generalize l.filter (fun x => decide (x = m)) = k at hn hm
      match k, hn, hm with
      | [], _, _ => exact Nat.zero_le _
      | [_], _, _ => exact Nat.le_refl _
      | a :: b :: r, hn, hm =>
        have ha := hm a (by simp)
        have hb := hm b (by simp)
        exact absurd (ha.trans hb.symm) (List.rel_of_pairwise_cons hn (List.mem_cons_self ..))
    omega
/-- few sets of few points -/
theorem sets_le {n : Nat} {S : List (List Nat)} (hn : n ≤ 6) (hd : S.Nodup) (hv : ∀ v ∈ S, VOk n v) : S.length ≤ 64 := by
  have h1 := nodup_le (2 ^ n) (S.map bt) (by
    rw [List.Nodup, List.pairwise_map]
    exact hd.imp_of_mem fun ha hb hne e => hne (bt_inj (hv _ ha) (hv _ hb) e)) fun x hx => by
      obtain ⟨v, h, rfl⟩ := List.mem_map.mp hx
      exact bt_lt (hv v h).2
  rw [List.length_map] at h1
  have h2 : 2 ^ n ≤ 2 ^ 6 := Nat.pow_le_pow_right (by decide) hn
  omega
def keysK (S : List (List Nat)) : List (Key × V) := S.map fun v => ((Sum.inl (bt v : Int) : Key), V.bl true)
def intsS (S : List (List Nat)) : List V := S.map fun v => V.int (bt v : Nat)
theorem keysK_some {n : Nat} {S : List (List Nat)} {w : List Nat} (hv : ∀ v ∈ S, VOk n v) (hw : VOk n w) : (valV (keysK S) (Sum.inl (bt w : Int))).isSome = decide (w ∈ S) := by
  rw [← valV_any, Bool.eq_iff_iff, decide_eq_true_iff, List.any_eq_true]
  constructor
  · rintro ⟨p, hp, e⟩
    obtain ⟨v, h, rfl⟩ := List.mem_map.mp hp
    have e' := of_decide_eq_true e
    have e2 : (bt v : Int) = (bt w : Int) := Sum.inl.inj e'
    rw [← bt_inj (hv v h) hw (by omega)]
    exact h
  · intro h
    exact ⟨_, List.mem_map.mpr ⟨w, h, rfl⟩, decide_eq_true rfl⟩
theorem keysK_put {n : Nat} {S : List (List Nat)} {w : List Nat} (hv : ∀ v ∈ S, VOk n v) (hw : VOk n w) (hn : w ∉ S) : putK (keysK S) (Sum.inl (bt w : Int)) (V.bl true) = keysK (S ++ [w]) := by
  unfold putK
  have e := keysK_some hv hw
  rw [← valV_any, decide_eq_false hn] at e
  rw [e]
  simp [keysK]
end N0

namespace N0
open PySem L2 PySem.Spec PyProof.Rows
def SetsOk (n : Nat) (ps : List (Nat × Nat)) (S : List (List Nat)) : Prop := S.Nodup ∧ (∀ v ∈ S, Clo n ps v) ∧ ∀ v, Clo n ps v → v ∈ S
def spAC (C : Addr) : Sp := fun vs H Q _ => ∃ (p l : Addr) (n : Nat) (ps : List (Nat × Nat)), vs = [.ref p] ∧ SdAt C H p l n ps ∧ FrOk n ps ∧ n ≤ 6 ∧
  ∀ H' (d : Addr) (S : List (List Nat)), Kp [] H H' → H d = none → H' d = some (.dK (keysK S)) → SetsOk n ps S → Q (.ref d) H'
abbrev cut (n : Nat) (ps : List (Nat × Nat)) (v : List Nat) (x : Nat) : List Nat := v.filter fun y => decide (y ∈ con n ps [x])
structure BI (n : Nat) (ps : List (Nat × Nat)) (a : Nat) (S : List (List Nat)) : Prop where
  le : a ≤ S.length
  nd : S.Nodup
  clo : ∀ v ∈ S, Clo n ps v
  all : List.range n ∈ S
  done : ∀ j v, j < a → S[j]? = some v → ∀ x, x < n → cut n ps v x ∈ S
theorem BI.add {n : Nat} {ps : List (Nat × Nat)} {a : Nat} {S : List (List Nat)} (h : BI n ps a S) {u : List Nat} (hu : Clo n ps u) (hn : u ∉ S) : BI n ps a (S ++ [u]) where
  le := by rw [List.length_append]; exact Nat.le_trans h.le (Nat.le_add_right _ _)
  nd := List.nodup_append.mpr ⟨h.nd, by simp, fun x hx y hy e => hn (by rw [List.mem_singleton] at hy; rw [← hy, ← e]; exact hx)⟩
  clo := fun v hv => by
    rcases List.mem_append.mp hv with z | z
    · exact h.clo v z
    · rw [List.mem_singleton.mp z]; exact hu
  all := List.mem_append_left _ h.all
  done := fun j v hj hv x hx => by
    rw [List.getElem?_append_left (Nat.lt_of_lt_of_le hj h.le)] at hv
    exact List.mem_append_left _ (h.done j v hj hv x hx)
theorem BI.fin {n : Nat} {ps : List (Nat × Nat)} {S : List (List Nat)} (h : BI n ps S.length S) : SetsOk n ps S :=
  ⟨h.nd, h.clo, fun v hv => reach h.all (fun v hv x hx => by
    obtain ⟨j, hj⟩ := List.getElem?_of_mem hv
    exact h.done j v (List.getElem?_eq_some_iff.mp hj).1 hj x hx) hv⟩
theorem intsS_at {S : List (List Nat)} {j : Nat} {v : List Nat} (h : S[j]? = some v) : (intsS S)[j]? = some (V.int (bt v : Nat)) := by
  unfold intsS
  rw [List.getElem?_map, h]; rfl
section
variable {P : Program} {w : World} {K : PySem.W.Frag} {mg : Str → Option Value} {base : Heap} {f C : Addr} {fd : FuncData}
theorem ok_all_closed (F : Fun K "all_closed" "all_closed" s_all_closed f fd) (T : Txt K mg) (SC : SCc K mg C) : FnOk P w K mg base CX0 1 f fd ["sides"] (spAC C) := by
  refine F.ok sc_all_closed (fun vs H Q E h => ?_) (fun cdv A outer s H vs Q E hr h => ?_)
  · obtain ⟨p, l, n, ps, rfl, _⟩ := h
    rfl
  obtain ⟨p, l, n, ps, rfl, ⟨⟨dx, hp⟩, ms, hl, hm⟩, hok, hn, q⟩ := h
  have nd := sc_all_closed.nd
  refine ⟨_, (pss_cons (ps_par3 (i := 1) (j := 2) (l := 3) rfl nd rfl rfl rfl (by decide) (by decide) (by decide) rfl rfl rfl (pa_cons (pe_disp (pps_cons (pe_fld (pv 0) rfl) pe_bl pps_nil) (by rfl) (by rfl) (fun z => by cases z) (by decide)) (pa_cons (pe_lst (pa_cons (pe_fld (pv 0) rfl) pa_nil)) (pa_cons pe_int pa_nil))) rfl)
      (pss_cons (ps_while PassesOwn.never (pt_cmpR op_lt (pv 3) (e_len T (pa_cons (pv 2) pa_nil)) (nomark _)) (pss_cons (ps_par (i := 4) (j := 3) rfl nd rfl rfl (by decide) rfl rfl (pa_cons (pe_ix ix_list (pv 2) (pv 3) (fun _ _ => rfl)) (pa_cons (pe_op op_add (pv 3) pe_int) pa_nil)) rfl)
      (pss_one (ps_for PassesOwn.never rfl (pi_list (pe_fld (pv 0) rfl)) (pg_name (i := 5) nd rfl (Or.inl rfl)) (pss_cons (ps_set (i := 6) nd rfl (Or.inl rfl) (pe_op op_and (pv 4) (pv 5)))
      (pss_one (ps_if (pt_cmp (pc_dnotin (hu_of hr) (pv 6) (pv 1))) (pss_cons (ps_if (pt_cmpR op_eq (e_len T (pa_cons (pv 2) pa_nil)) (e_const T.MOST_CLOSED) (nomark _)) pss_never pss_nil)
      (pss_cons (ps_dput (hu_of hr) (pv 1) (pv 6) pe_bl rfl)
      (pss_one (ps_expr (pe_bm PySem.F.plainAttrs_list PySem.F.slot_list_append PySem.F.type_list_append mt_append (pv 2) (pa_cons (pv 6) pa_nil)))))) pss_nil)))))))
      (pss_one (ps_ret (pv 1))))), ?_⟩
  have he : 2 ^ n - 1 = bt (List.range n) := bt_of (Msk.every n)
  refine fun d hd => ?_
  have k0 : Kp [] H (upd H d (.dK [])) := Kp.new hd
  refine ⟨_, rfl, p, C, dx, _, _, rfl, k0.k _ _ (by simp) hp, SC.cl, SC.ne, sdf_e n l, ?_⟩
  refine ⟨upd_same, [(Sum.inl ((2 ^ n - 1 : Nat) : Int), V.bl true)], rfl, by show 1 ≤ 15; decide, ?_⟩
  have k1 : Kp [] H (upd (upd H d (.dK [])) d (.dK (mergeK [] [(Sum.inl ((2 ^ n - 1 : Nat) : Int), V.bl true)]))) := k0.put hd
  have e1 : mergeK [] [((Sum.inl ((2 ^ n - 1 : Nat) : Int) : Key), V.bl true)] = keysK [List.range n] := by
    rw [he]; rfl
  rw [e1] at k1 ⊢
  have hd1 : upd (upd H d (.dK [])) d (.dK (keysK [List.range n])) d = some (.dK (keysK [List.range n])) := upd_same
  generalize upd (upd H d (.dK [])) d (.dK (keysK [List.range n])) = H1 at k1 hd1 ⊢
  refine ⟨_, rfl, p, C, dx, _, _, rfl, k1.k _ _ (by simp) hp, SC.cl, SC.ne, sdf_e n l, ?_⟩
  refine ⟨by show 1 ≤ sizeLine; decide, fun t ht => ⟨_, _, _, rfl, ?_⟩⟩
  rw [he]
  have k2 : Kp [] H1 (upd H1 t (.lst [V.int (bt (List.range n) : Nat)])) := Kp.new ht
  have hd2 := k2.k _ _ (by simp) hd1
  have ht2 : upd H1 t (.lst [V.int (bt (List.range n) : Nat)]) t = some (.lst (intsS [List.range n])) := upd_same
  have htH : H t = none := k1.n _ ht
  have htd : t ≠ d := fun z => by rw [z, hd1] at ht; cases ht
  replace k2 := k1.trans k2
  generalize upd H1 t (.lst [V.int (bt (List.range n) : Nat)]) = H2 at k2 hd2 ht2 ⊢
  clear k1 hd1 k0 ht
  refine ⟨fun m σ H' => ∃ (S : List (List Nat)) (a : Nat) (o4 o5 o6 : Option V), σ = [some (.ref p), some (.ref d), some (.ref t), some (.int (a : Nat)), o4, o5, o6] ∧ Kp [] H H' ∧ H' d = some (.dK (keysK S)) ∧ H' t = some (.lst (intsS S)) ∧ BI n ps a S ∧ m = 64 - a,
    ⟨_, [List.range n], 0, none, none, none, rfl, k2, hd2, ht2, ⟨Nat.zero_le _, by simp, fun v hv => by rw [List.mem_singleton.mp hv]; exact clo_every, by simp, fun j v hj => absurd hj (Nat.not_lt_zero _)⟩, rfl⟩, ?_⟩
  rintro m σ H3 ⟨S, a, o4, o5, o6, rfl, k3, hd3, ht3, hB, rfl⟩
  have hlen : (intsS S).length = S.length := List.length_map _
  refine ⟨_, rfl, _, rfl, t, _, rfl, .inl (SqL.of ht3), _, _, rfl, rfl, _, rfl, ?_⟩
  refine ite2 (fun hc0 => ?_) (fun hc0 => ?_)
  · have hlt : a < S.length := by
      have := of_decide_eq_true hc0
      rw [hlen] at this
      omega
    have h64 := sets_le hn hB.nd fun v hv => (hB.clo v hv).1
    obtain ⟨v, hv⟩ : ∃ v, S[a]? = some v := ⟨_, List.getElem?_eq_getElem hlt⟩
    refine ⟨_, fun σ' H' h' => h', ?_⟩
    refine ⟨_, rfl, _, rfl, t, _, _, _, rfl, rfl, SqL.of ht3, atI_nat (intsS_at hv), _, rfl, _, _, rfl, rfl, _, _, rfl, ?_⟩
    have ev : v ∈ S := List.mem_of_getElem? hv
    refine ⟨_, rfl, p, C, dx, _, _, rfl, k3.k _ _ (by simp) hp, SC.cl, SC.na, sdf_a n l, l, rfl, ⟨ms, SqL.of (k3.k _ _ (by simp) hl)⟩, ?_⟩
    refine for_it (n := ms.length) walk_list (fun i σ H' => ∃ (S' : List (List Nat)) (o5 o6 : Option V), σ = [some (.ref p), some (.ref d), some (.ref t), some (.int ((a : Nat) + 1 : Int)), some (.int (bt v : Nat)), o5, o6] ∧ Kp [] H H' ∧ H' d = some (.dK (keysK S')) ∧
      H' t = some (.lst (intsS S')) ∧ BI n ps a S' ∧ S'[a]? = some v ∧ ∀ x, x < i → cut n ps v x ∈ S') ⟨S, o5, o6, rfl, k3, hd3, ht3, hB, hv, fun x hx => absurd hx (Nat.not_lt_zero _)⟩ (fun i σ H' _ ⟨_, _, _, _, k, _⟩ => SqL.of (k.k _ _ (by simp) hl)) ?_ ?_
    · rintro i y σ _ H4 hi ⟨S', o5', o6', rfl, k4, hd4, ht4, hB4, hv4, hc4⟩ ⟨rfl, hy⟩
      have hin : i < n := by rw [← hm.1]; exact hi
      obtain ⟨mi, hmi, hmM⟩ := hm.2 i hin
      obtain rfl : V.int mi = y := Option.some.inj (hmi.symm.trans hy)
      have hmb : mi = bt (con n ps [i]) := bt_of hmM
      subst hmb
      have hcut : Clo n ps (cut n ps v i) := (hB.clo v ev).cut (clo_con1 fun x hx => by rw [List.mem_singleton.mp hx]; exact hin)
      refine ⟨_, rfl, _, rfl, _, _, rfl, rfl, ?_⟩
      dsimp only
      rw [and_nat, bt_and]
      have hS' : ∀ v ∈ S', VOk n v := fun v hv => (hB4.clo v hv).1
      have h64' := sets_le hn hB4.nd hS'
      refine ⟨_, rfl, _, rfl, d, _, rfl, DGet.k (k := Sum.inl ((bt (cut n ps v i) : Nat) : Int)) hd4, ?_⟩
      rw [keysK_some hS' hcut.1]
      refine ⟨_, rfl, ?_⟩
      refine ite2 (fun hc1 => ?_) (fun hc1 => ?_)
      · have hnw : cut n ps v i ∉ S' := by simpa using hc1
        have hl4 : (intsS S').length = S'.length := List.length_map _
        refine ⟨_, rfl, t, _, rfl, .inl (SqL.of ht4), rfl, _, rfl, iteF' (decide_eq_false fun z => ?_) ?_⟩
        · rw [hl4, V.int.injEq] at z
          omega
        refine ⟨_, rfl, _, rfl, d, _, rfl, DPut.k (k := Sum.inl ((bt (cut n ps v i) : Nat) : Int)) hd4 ?_, ?_⟩
        · unfold keysK
          rw [List.length_map]
          exact small_lt (by omega)
        rw [keysK_put hS' hcut.1 hnw]
        have k5 : Kp [] H (upd H4 d (.dK (keysK (S' ++ [cut n ps v i])))) := k4.put hd
        have hd5 : upd H4 d (.dK (keysK (S' ++ [cut n ps v i]))) d = some (.dK (keysK (S' ++ [cut n ps v i]))) := upd_same
        have ht5 : upd H4 d (.dK (keysK (S' ++ [cut n ps v i]))) t = some (.lst (intsS S')) := by rw [upd_ne htd]; exact ht4
        generalize upd H4 d (.dK (keysK (S' ++ [cut n ps v i]))) = H5 at k5 hd5 ht5 ⊢
        refine ⟨_, rfl, .inl ⟨rfl, _, SqL.of ht5⟩, _, rfl, t, _, _, rfl, rfl, ht5, by rw [hl4]; exact small_lt (by omega), ?_⟩
        have e5 : intsS S' ++ [V.int (bt (cut n ps v i) : Nat)] = intsS (S' ++ [cut n ps v i]) := by simp [intsS]
        rw [e5]
        refine ⟨S' ++ [cut n ps v i], _, _, rfl, k5.put htH, by rw [upd_ne (Ne.symm htd)]; exact hd5, upd_same, hB4.add hcut hnw, ?_, fun x hx => ?_⟩
        · rw [List.getElem?_append_left (List.getElem?_eq_some_iff.mp hv4).1]
          exact hv4
        · by_cases e : x < i
          · exact List.mem_append_left _ (hc4 x e)
          · obtain rfl : x = i := by omega
            exact List.mem_append_right _ (List.mem_singleton.mpr rfl)
      · have hin' : cut n ps v i ∈ S' := by simpa using hc1
        refine ⟨S', _, _, rfl, k4, hd4, ht4, hB4, hv4, fun x hx => ?_⟩
        by_cases e : x < i
        · exact hc4 x e
        · obtain rfl : x = i := by omega
          exact hin'
    · rintro σ H4 ⟨S', o5', o6', rfl, k4, hd4, ht4, hB4, hv4, hc4⟩
      refine ⟨64 - (a + 1), by omega, S', a + 1, _, _, _, rfl, k4, hd4, ht4, ⟨(List.getElem?_eq_some_iff.mp hv4).1, hB4.nd, hB4.clo, hB4.all, fun j u hj hu x hx => ?_⟩, rfl⟩
      by_cases e : j < a
      · exact hB4.done j u e hu x hx
      · obtain rfl : j = a := by omega
        obtain rfl : v = u := Option.some.inj (hv4.symm.trans hu)
        exact hc4 x (by rw [hm.1]; exact hx)
  · have e : a = S.length := by
      have h1 : ¬ (a : Int) < ((intsS S).length : Nat) := fun z => hc0 (decide_eq_true z)
      rw [hlen] at h1
      have := hB.le
      omega
    subst e
    exact ⟨_, rfl, q _ d S k3 hd hd3 hB.fin⟩
end
end N0

namespace N0
open PySem L2 PySem.Spec PyProof.Rows
/-- the thing that e comes to is locked for good -/
def tHold (td : TE) : TE := fun σ H Q => td σ H fun x H1 => ∃ d u, x = .ref d ∧ H1 d = some u ∧ Mut (some u) ∧ ∀ od, Q (.ref d) (upd H1 d (.frz od u))
theorem pe_hold {X : Cx} {e : Expr} {td : TE} (he : PE X e td) : PE X e (tHold td) := by
  refine ⟨fun pins s σ H Q I h => ?_⟩
  refine thn (he.run pins s σ H _ I h) fun v s1 ⟨x, H1, I1, rx, d, u, ex, hd, mu, q⟩ => ?_
  subst ex
  obtain ⟨od, I2⟩ := I1.lock hd mu
  exact ⟨.ref d, _, I2, rx, q od⟩
end N0

namespace N0
open PySem L2 PySem.Spec PyProof.Rows
/-- a value as whole numbers -/
def zv (v : List Nat) : List Int := v.map fun k : Nat => (k : Int)
theorem zv_map (v : List Nat) : (zv v).map V.int = v.map fun k : Nat => V.int k := by
  unfold zv
  rw [List.map_map]; rfl
/-- the list of the closed sets, in order -/
def spCL : Sp := fun vs H Q _ => ∃ (fv : V) (n : Nat) (ps : List (Nat × Nat)), vs = [fv] ∧ FrV H n ps fv ∧ FrOk n ps ∧ n ≤ 6 ∧
  ∀ H' (L : Addr) (ys : List V) (us : List (List Int)) (S : List (List Nat)), Kp [] H H' → H L = none → H' L = some (.lst ys) → TupsAre H' ys us → us.Perm (S.map zv) → us.Pairwise (fun x y => ¬ y < x) → SetsOk n ps S → Q (.ref L) H'
theorem TupsAre.snoc {H : Hp} {ys : List V} {zs : List (List Int)} {b : Addr} {z : List Int} (h : TupsAre H ys zs) (hb : H b = some (.tup (z.map V.int))) : TupsAre H (ys ++ [.ref b]) (zs ++ [z]) := by
  refine ⟨by simp [h.1], fun i u hu => ?_⟩
  by_cases e : i < zs.length
  · rw [List.getElem?_append_left e] at hu
    obtain ⟨t, h1, h2⟩ := h.2 i u hu
    exact ⟨t, by rw [List.getElem?_append_left (by rw [h.1]; exact e)]; exact h1, h2⟩
  · have hi := (List.getElem?_eq_some_iff.mp hu).1
    rw [List.length_append, List.length_singleton] at hi
    obtain rfl : i = zs.length := by omega
    rw [List.getElem?_append_right (Nat.le_refl _), Nat.sub_self] at hu
    cases hu
    exact ⟨b, by rw [← h.1, List.getElem?_append_right (Nat.le_refl _), Nat.sub_self]; rfl, hb⟩
theorem TupsAre.updL {H : Hp} {ys xs : List V} {zs : List (List Int)} {D : Addr} {o : HO} (h : TupsAre H ys zs) (hD : H D = some (.lst xs)) : TupsAre (upd H D o) ys zs := by
  refine ⟨h.1, fun i u hu => ?_⟩
  obtain ⟨t, h1, h2⟩ := h.2 i u hu
  refine ⟨t, h1, ?_⟩
  rw [upd_ne (fun e => by rw [e, hD] at h2; cases h2)]
  exact h2
theorem clo_nil {n : Nat} {ps : List (Nat × Nat)} (h : FrOk n ps) : Clo n ps [] := by
  refine ⟨⟨List.Pairwise.nil, fun x hx => by simp at hx⟩, List.eq_nil_iff_forall_not_mem.mpr fun y hy => ?_⟩
  obtain ⟨h1, h2⟩ := mem_con.mp hy
  have h3 : y ∈ con n ps [] := mem_con.mpr ⟨h1, fun x hx => by simp at hx⟩
  have := h2 y h3
  rw [ap_irr h.2.2.1] at this
  cases this
section
variable {P : Program} {w : World} {K : PySem.W.Frag} {mg : Str → Option Value} {base : Heap} {f C : Addr} {fd : FuncData}
theorem ok_closed_list (F : Fun K "closed_list" "closed_list" s_closed_list f fd) (T : Txt K mg) (SC : SCc K mg C) (D_sinit : IDef P w K mg base C 2 ["self", "frame"] (spSInit C)) (D_all_closed : Def P w K mg base "all_closed" 1 ["sides"] (spAC C))
    (D_bits_value : Def P w K mg base "bits_value" 1 ["bits", "points"] spBV) : FnOk P w K mg base CX0 4 f fd ["frame"] spCL := by
  refine F.ok sc_closed_list (fun vs H Q E h => ?_) (fun cdv A outer s H vs Q E hr h => ?_)
  · obtain ⟨fv, n, ps, rfl, _⟩ := h
    rfl
  obtain ⟨fv, n, ps, rfl, hf, hok, hn, q⟩ := h
  have nd := sc_closed_list.nd
  refine ⟨_, (pss_cons (ps_set (i := 1) nd rfl (Or.inr rfl) (e_mkS SC D_sinit (hr.mono (by omega)) (pa_cons (pv 0) pa_nil)))
      (pss_one (ps_ret (pe_callB (cr_sortL hr.units) (by rfl) T.sorted bt_sorted (pa_cons (pe_lc (own := [("bits", 2)]) (g := gName 2) (tt := tYes) rfl nd (pi_keys (pe_hold (e_fn D_all_closed (hr.mono (by omega)) (pa_cons (pv 1) pa_nil)))) (blkOk_by (N := N_closed_list) (sc := defScope s_closed_list) (by decide +kernel)) (fun _ _ _ _ _ => pg_name (i := 2) nd rfl (Or.inl rfl)) (fun _ _ _ _ _ => pts_nil) (fun _ _ _ _ _ => (e_fn D_bits_value (hr.mono (by omega)) (pa_cons (pv 2) (pa_cons (pe_fldk K (pe_fld (pv 1) rfl)) pa_nil))))) pa_nil))))), ?_⟩
  refine ⟨_, rfl, fun p d0 hp hd hne => mkS_at hp hd hne hf hok fun H3 l k3 hl hS => ⟨rfl, ?_⟩⟩
  refine ⟨_, rfl, p, l, n, ps, rfl, hS, hok, hn, fun H4 d S k4 hd4 hdS hok4 => ?_⟩
  refine ⟨d, _, rfl, hdS, trivial, fun od => ?_⟩
  have hd0 : H d = none := k3.n _ hd4
  have k5 : Kp [] H3 (upd H4 d (.frz od (.dK (keysK S)))) := k4.put hd4
  have hd5 : upd H4 d (.frz od (.dK (keysK S))) d = some (.frz od (.dK (keysK S))) := upd_same
  generalize upd H4 d (.frz od (.dK (keysK S))) = H5 at k5 hd5 ⊢
  refine ⟨d, od, rfl, .inl ⟨keysK S, hd5, fun D hD => ?_⟩⟩
  have hD3 : H3 D = none := k5.n _ hD
  have hdD : d ≠ D := fun z => by rw [← z, hd5] at hD; cases hD
  have hV : ∀ v ∈ S, VOk n v := fun v hv => (hok4.2.1 v hv).1
  have h64 := sets_le hn hok4.1 hV
  have hlen : (keysK S).length = S.length := List.length_map _
  refine lc_it (n := (keysK S).length) walk_keys (fun i H' => Kp [] H3 H' ∧ H' d = some (.frz od (.dK (keysK S))) ∧ ∃ ys, H' D = some (.lst ys) ∧ TupsAre H' ys ((S.take i).map zv)) ⟨k5.add hD, by rw [upd_ne hdD]; exact hd5, [], upd_same, rfl, fun i z hz => by simp at hz⟩ (fun i H' _ h => h.2.1) ?_ ?_
  · rintro i y _ H6 hi ⟨k6, hd6, ys, hD6, hT⟩ ⟨rfl, ke, ve, hke, rfl⟩
    rw [hlen] at hi
    obtain ⟨v, hv⟩ : ∃ v, S[i]? = some v := ⟨_, List.getElem?_eq_getElem hi⟩
    have hke' : (keysK S)[i]? = some (Sum.inl ((bt v : Nat) : Int), V.bl true) := by
      unfold keysK
      rw [List.getElem?_map, hv]; rfl
    rw [hke'] at hke
    cases hke
    obtain ⟨⟨dx, hpi⟩, hm⟩ := hS
    have hv0 := hV v (List.mem_of_getElem? hv)
    refine ⟨rfl, _, rfl, _, rfl, p, C, dx, _, _, rfl, k6.k _ _ (by simp) hpi, SC.cl, SC.np, sdf_p n l, bt v, n, rfl, by omega, fun H7 y k7 hy => ?_⟩
    rw [msk_vl (bt_msk v) hv0] at hy
    obtain ⟨b, rfl, hb⟩ := hy
    refine ⟨ys, k7.k _ _ (by simp) hD6, ?_, (k6.trans k7).put hD3, by rw [upd_ne hdD]; exact k7.k _ _ (by simp) hd6, _, upd_same, ?_⟩
    · rw [hT.1, List.length_map, List.length_take]
      exact small_lt (by omega)
    · rw [List.take_add_one, hv, List.map_append]
      exact ((hT.kp k7).snoc (by rw [zv_map]; exact hb)).updL (k7.k _ _ (by simp) hD6)
  · rintro H6 ⟨k6, hd6, ys, hD6, hT⟩
    rw [hlen, List.take_length] at hT
    have h0 : [] ∈ S.map zv := List.mem_map.mpr ⟨[], hok4.2.2 [] (clo_nil hok), rfl⟩
    refine sortL_read (SqL.of hD6) hT h0 fun zs p' us hA hP hPw hn' => ?_
    have k7 : Kp [] H6 (upd H6 p' (.lst zs)) := Kp.new hn'
    have k07 := (k3.trans k6).trans k7
    exact q _ p' zs us S k07 ((k3.trans k6).n _ hn') upd_same (hA.kp k7) hP hPw hok4
end
end N0

namespace N0
open PySem L2 PySem.Spec PyProof.Rows
def spCV : Sp := fun vs H Q _ => ∃ (fv : V) (n : Nat) (ps : List (Nat × Nat)), vs = [fv] ∧ FrV H n ps fv ∧ FrOk n ps ∧ n ≤ 6 ∧
  ∀ H' (L : Addr) (ys : List V) (us : List (List Int)) (S : List (List Nat)), Kp [] H H' → H' L = some (.tup ys) → TupsAre H' ys us → us.Perm (S.map zv) → us.Pairwise (fun x y => ¬ y < x) → SetsOk n ps S → Q (.ref L) H'
section
variable {P : Program} {w : World} {K : PySem.W.Frag} {mg : Str → Option Value} {base : Heap} {f C : Addr} {fd : FuncData}
theorem ok_closed_values (F : Fun K "closed_values" "closed_values" s_closed_values f fd) (T : Txt K mg) (D_need_frame : Def P w K mg base "need_frame" 4 ["frame"] spNF) (D_closed_list : Def P w K mg base "closed_list" 4 ["frame"] spCL) :
    FnOk P w K mg base CX0 5 f fd ["frame"] spCV := by
  refine F.ok sc_closed_values (fun vs H Q E h => ?_) (fun cdv A outer s H vs Q E hr h => ?_)
  · obtain ⟨fv, n, ps, rfl, _⟩ := h
    rfl
  obtain ⟨fv, n, ps, rfl, hf, hok, hn, q⟩ := h
  have nd := sc_closed_values.nd
  refine ⟨_, (pss_one (ps_ret (pe_callTy call_tuple_of (by rfl) T.tuple bt_tuple (pa_cons (e_fn D_closed_list (hr.mono (by omega)) (pa_cons (e_fn D_need_frame (hr.mono (by omega)) (pa_cons (pv 0) pa_nil)) pa_nil)) pa_nil)))), ?_⟩
  refine ⟨_, rfl, fv, n, ps, rfl, hf, hok, fun H1 k1 => ?_⟩
  refine ⟨fv, n, ps, rfl, hf.kp k1, hok, hn, fun H2 L ys us S k2 hLn hL hT hP hPw hS => ?_⟩
  refine ⟨L, ys, rfl, .inl ⟨SqL.of hL, fun p hp => ?_⟩⟩
  have k3 : Kp [] H2 (upd H2 p (.tup ys)) := Kp.new hp
  exact q _ p ys us S ((k1.trans k2).trans k3) upd_same (hT.kp k3) hP hPw hS
end
end N0

namespace N0
open PySem L2 PySem.Spec PyProof.Rows
def spIsEnt (C : Addr) : Sp := fun vs H Q _ => ∃ (p l c : Addr) (n : Nat) (ps : List (Nat × Nat)) (x : Str) (vv : V) (v : List Nat), vs = [.ref p, .ref c] ∧ SdAt C H p l n ps ∧ FrOk n ps ∧ H c = some (.tup [.str x, vv]) ∧ ValV H v vv ∧ Clo n ps v ∧ isNameD (.str x) = true ∧ x.length ≤ 1000 ∧
  ∀ H', Kp [] H H' → Q (.bl true) H'
section
variable {P : Program} {w : World} {K : PySem.W.Frag} {mg : Str → Option Value} {base : Heap} {f C : Addr} {fd : FuncData}
theorem ok_is_entry (F : Fun K "is_entry" "is_entry" s_is_entry f fd) (T : Txt K mg) (SC : SCc K mg C) (D_is_name : Def P w K mg base "is_name" 1 ["value"] (spIsName K)) (D_is_value : Def P w K mg base "is_value" 3 ["points", "value"] spIV)
    (D_value_bits : Def P w K mg base "value_bits" 1 ["value"] spVB) (D_closure : MDef P w K mg base C "closure" 2 ["self", "bits"] (spClo C)) : FnOk P w K mg base CX0 4 f fd ["sides", "value"] (spIsEnt C) := by
  refine F.ok sc_is_entry (fun vs H Q E h => ?_) (fun cdv A outer s H vs Q E hr h => ?_)
  · obtain ⟨p, l, c, n, ps, x, vv, v, rfl, _⟩ := h
    rfl
  obtain ⟨p, l, c, n, ps, x, vv, v, rfl, hS, hok, hc, hv, hcl, hx, hxl, q⟩ := h
  have nd := sc_is_entry.nd
  have h6 := hok.2.1
  refine ⟨_, (pss_cons (ps_if (PW.pt (pw_or (pt_not (pt_val (e_isi T (pa_cons (pv 1) (pa_cons (e_ty T.tuple bt_tuple) pa_nil))))) (pw_or (pt_cmpR op_ne (e_len T (pa_cons (pv 1) pa_nil)) pe_int (nomark _)) (pw_or1 (pt_not (pt_val (e_fn D_is_name (hr.mono (by omega)) (pa_cons (pe_ix ix_tup (pv 1) pe_int (fun _ _ => rfl)) pa_nil)))))))) (pss_one (ps_ret pe_bl)) pss_nil)
      (pss_cons (ps_if (pt_not (pt_val (e_fn D_is_value (hr.mono (by omega)) (pa_cons (pe_fld (pv 0) rfl) (pa_cons (pe_ix ix_tup (pv 1) pe_int (fun _ _ => rfl)) pa_nil))))) (pss_one (ps_ret pe_bl)) pss_nil)
      (pss_cons (ps_set (i := 2) nd rfl (Or.inl rfl) (e_fn D_value_bits (hr.mono (by omega)) (pa_cons (pe_ix ix_tup (pv 1) pe_int (fun _ _ => rfl)) pa_nil)))
      (pss_one (ps_ret (pe_cmpR op_eq (e_meth SC.cl D_closure (hr.mono (by omega)) (pv 0) (pa_cons (pv 2) pa_nil)) (pv 2) (nomark _))))))), ?_⟩
  refine ⟨_, rfl, _, _, _, _, _, rfl, .ty _, .base (.tup hc), kit_ty (kit_tuple (.tuple [])), _, rfl, iteF ?_⟩
  refine ⟨_, rfl, c, _, rfl, .inr (tupT hc), rfl, _, rfl, iteF ?_⟩
  refine ⟨_, rfl, c, _, 0, _, rfl, rfl, tupT hc, atI_nat (j := 0) rfl, _, _, rfl, .str x, fun s e => by cases e; exact hxl, fun H1 k1 => ⟨_, rfl, ?_⟩⟩
  rw [hx]
  refine iteF ?_
  obtain ⟨⟨dx, hpi⟩, hm⟩ := id hS
  refine ⟨_, rfl, p, C, dx, _, _, rfl, k1.k _ _ (by simp) hpi, SC.cl, SC.np, sdf_p n l, _, rfl, c, _, 1, _, rfl, rfl, tupT (k1.t _ _ hc), atI_nat (j := 1) rfl, n, vv, v, rfl, hv.kp k1, hcl.1, by omega, fun H2 k2 => ⟨_, rfl, iteF ?_⟩⟩
  have k12 := k1.trans k2
  refine ⟨_, rfl, c, _, 1, _, rfl, rfl, tupT (k12.t _ _ hc), atI_nat (j := 1) rfl, vv, v, rfl, hv.kp k12, (hcl.1.lt1000 h6).1, (hcl.1.lt1000 h6).2, fun H3 b k3 hb => ?_⟩
  have k13 := k12.trans k3
  refine ⟨_, rfl, p, dx, _, rfl, k13.k _ _ (by simp) hpi, sdf_cl n l, _, rfl, p, l, n, ps, b, v, rfl, hS.kp k13 (by simp), hok, hb, hcl.1.2, fun H4 e k4 he => ?_⟩
  rw [hcl.2] at he
  obtain rfl : e = b := he.eq hb fun _ => Iff.rfl
  refine ⟨_, rfl, rfl, ?_⟩
  rw [decide_eq_true rfl]
  exact q _ (k13.trans k4)
end
end N0

namespace N0
open PySem L2 PySem.Spec PyProof.Rows
def RdV (H : Hp) (rs : List (Str × List Nat)) (x : V) : Prop := ∃ (a : Addr) (ys : List V), x = .ref a ∧ Rd H a (.tup ys) ∧ ys.length = rs.length ∧
  ∀ (i : Nat) (r : Str × List Nat), rs[i]? = some r → ∃ c vv, ys[i]? = some (.ref c) ∧ H c = some (.tup [.str r.1, vv]) ∧ ValV H r.2 vv
theorem _root_.L2.Rd.kp {H H' : Hp} {d : Addr} {o : HO} (k : Kp [] H H') : Rd H d o → Rd H' d o
  | .inl h => .inl (k.k _ _ (by simp) h)
  | .inr ⟨u, h⟩ => .inr ⟨u, k.k _ _ (by simp) h⟩
theorem rd_ty {K : PySem.W.Frag} {H : Hp} {a : Addr} {xs : List V} : Rd H a (.tup xs) → TyX K H (.ref a) (.type "tuple")
  | .inl h => .base (.tup h)
  | .inr ⟨o, h⟩ => .fTuple h
theorem RdV.kp {H H' : Hp} {rs : List (Str × List Nat)} {x : V} (k : Kp [] H H') : RdV H rs x → RdV H' rs x
  | ⟨a, ys, e, h1, h2, h3⟩ => ⟨a, ys, e, h1.kp k, h2, fun i r hr => let ⟨c, vv, e1, e2, e3⟩ := h3 i r hr; ⟨c, vv, e1, k.t _ _ e2, e3.kp k⟩⟩
structure RdOk (n : Nat) (ps : List (Nat × Nat)) (rs : List (Str × List Nat)) : Prop where
  one : ∀ r ∈ rs, isNameD (.str r.1) = true ∧ r.1.length ≤ 1000 ∧ Clo n ps r.2
  asc : ∀ i r s, rs[i]? = some r → rs[i + 1]? = some s → r.1.cps.toList < s.1.cps.toList
def spNRO : Sp := fun vs H Q _ => ∃ (fv x : V) (n : Nat) (ps : List (Nat × Nat)) (rs : List (Str × List Nat)), vs = [fv, x] ∧ FrV H n ps fv ∧ FrOk n ps ∧ RdV H rs x ∧ RdOk n ps rs ∧ ∀ H', Kp [] H H' → Q .non H'
def spNR : Sp := fun vs H Q _ => ∃ (fv x : V) (n : Nat) (ps : List (Nat × Nat)) (rs : List (Str × List Nat)), vs = [fv, x] ∧ FrV H n ps fv ∧ FrOk n ps ∧ RdV H rs x ∧ RdOk n ps rs ∧ ∀ H', Kp [] H H' → Q x H'
section
variable {P : Program} {w : World} {K : PySem.W.Frag} {mg : Str → Option Value} {base : Heap} {f C : Addr} {fd : FuncData}
theorem ok_need_reading (F : Fun K "need_reading" "need_reading" s_need_reading f fd) (T : Txt K mg) (D_need_frame : Def P w K mg base "need_frame" 4 ["frame"] spNF) (D_need_reading_of : Def P w K mg base "need_reading_of" 5 ["frame", "reading"] spNRO) :
    FnOk P w K mg base CX0 6 f fd ["frame", "reading"] spNR := by
  refine F.ok sc_need_reading (fun vs H Q E h => ?_) (fun cdv A outer s H vs Q E hr h => ?_)
  · obtain ⟨fv, x, n, ps, rs, rfl, _⟩ := h
    rfl
  obtain ⟨fv, x, n, ps, rs, rfl, hf, hok, hx, hro, q⟩ := h
  have nd := sc_need_reading.nd
  refine ⟨_, (pss_cons (ps_expr (e_fn D_need_frame (hr.mono (by omega)) (pa_cons (pv 0) pa_nil)))
      (pss_cons (ps_expr (e_fn D_need_reading_of (hr.mono (by omega)) (pa_cons (pv 0) (pa_cons (pv 1) pa_nil))))
      (pss_one (ps_ret (pv 1))))), ?_⟩
  refine ⟨_, rfl, fv, n, ps, rfl, hf, hok, fun H1 k1 => ?_⟩
  refine ⟨_, rfl, _, rfl, fv, x, n, ps, rs, rfl, hf.kp k1, hok, hx.kp k1, hro, fun H2 k2 => ?_⟩
  exact ⟨_, rfl, q _ (k1.trans k2)⟩
theorem ok_need_reading_of (F : Fun K "need_reading_of" "need_reading_of" s_need_reading_of f fd) (T : Txt K mg) (SC : SCc K mg C) (D_sinit : IDef P w K mg base C 2 ["self", "frame"] (spSInit C)) (D_is_entry : Def P w K mg base "is_entry" 4 ["sides", "value"] (spIsEnt C)) :
    FnOk P w K mg base CX0 5 f fd ["frame", "reading"] spNRO := by
  refine F.ok sc_need_reading_of (fun vs H Q E h => ?_) (fun cdv A outer s H vs Q E hr h => ?_)
  · obtain ⟨fv, x, n, ps, rs, rfl, _⟩ := h
    rfl
  obtain ⟨fv, x, n, ps, rs, rfl, hf, hok, ⟨a, ys, rfl, ha, hyl, hye⟩, hro, q⟩ := h
  have nd := sc_need_reading_of.nd
  refine ⟨_, (pss_cons (ps_if (pt_not (pt_val (e_isi T (pa_cons (pv 1) (pa_cons (e_ty T.tuple bt_tuple) pa_nil))))) pss_never pss_nil)
      (pss_cons (ps_set (i := 2) nd rfl (Or.inl rfl) (e_mkS SC D_sinit (hr.mono (by omega)) (pa_cons (pv 0) pa_nil)))
      (pss_one (ps_for PassesOwn.never rfl (pi_enumT (by rfl) T.enumerate (pa_cons (pv 1) pa_nil)) (pg_tup rfl (pgs_cons (pg_name (i := 3) nd rfl (Or.inl rfl)) (pgs_cons (pg_name (i := 4) nd rfl (Or.inl rfl)) pgs_nil))) (pss_one (ps_if (PW.pt (pw_or (pt_not (pt_val (e_fn D_is_entry (hr.mono (by omega)) (pa_cons (pv 2) (pa_cons (pv 4) pa_nil))))) (pw_or1 (PW.pt (pw_and (pt_cmpR op_gt (pv 3) pe_int (nomark _)) (pw_and1 (pt_not (pt_cmpR op_lt_str (pe_ix ix_tup (pe_ix ix_tup (pv 1) (pe_op op_sub (pv 3) pe_int) (fun _ _ => rfl)) pe_int (fun _ _ => rfl)) (pe_ix ix_tup (pv 4) pe_int (fun _ _ => rfl)) (nomark _))))))))) pss_never pss_nil)))))), ?_⟩
  refine ⟨_, rfl, _, _, _, _, _, rfl,   .ty _, rd_ty ha, kit_ty (kit_tuple (.tuple [])), _, rfl, iteF ?_⟩
  refine ⟨_, rfl, fun p d0 hp hd hne => mkS_at hp hd hne hf hok fun H1 l k1 hl hS => ⟨rfl, ?_⟩⟩
  have ha1 := ha.kp k1
  refine ⟨_, rfl, a, ys, rfl, .inl ha1, ?_⟩
  refine for_it (n := ys.length) walk_enT (fun i σ H' => ∃ o3 o4 : Option V, σ = [some fv, some (.ref a), some (.ref p), o3, o4] ∧ Kp [] H1 H') ⟨none, none, rfl, Kp.refl _ _⟩ (fun i σ H' _ ⟨_, _, _, k⟩ => .inl (ha1.kp k)) ?_ ?_
  · rintro i y σ H2 _ hi ⟨o3, o4, rfl, k2⟩ ⟨Tp, x, y, rfl, hTp, rfl, hx, hy⟩
    cases hx
    have hi2 : i < rs.length := by omega
    have hri : rs[i]? = some rs[i] := List.getElem?_eq_getElem hi2
    obtain ⟨c, vv, hc, hcc, hvv⟩ := hye i _ hri
    obtain ⟨g1, g2, g3⟩ := hro.one _ (List.getElem_mem hi2)
    generalize hrr : rs[i] = r at hri hcc hvv g1 g2 g3
    dsimp only at hy
    obtain rfl : V.ref c = y := Option.some.inj (hc.symm.trans hy)
    have kT : Kp [] H2 (upd H2 Tp (.tup [.int i, .ref c])) := Kp.new hTp
    refine ⟨Tp, _, rfl, tupT upd_same, rfl, _, _, rfl, _, _, rfl, rfl, ?_⟩
    generalize upd H2 Tp (.tup [.int i, .ref c]) = H3 at kT
    have k13 := k2.trans kT
    have k03 := k1.trans k13
    refine ⟨_, rfl, _, rfl, p, l, c, n, ps, r.1, vv, r.2, rfl, hS.kp k13 (by simp), hok, k03.t _ _ hcc, hvv.kp k03, g3, g1, g2, fun H4 k4 => ⟨_, rfl, iteF ?_⟩⟩
    have k24 := (k2.trans kT).trans k4
    have k04 := k03.trans k4
    clear hTp
    by_cases hi0 : 0 < i
    · obtain ⟨j, rfl⟩ : ∃ j, i = j + 1 := ⟨i - 1, by omega⟩
      have hj : j < rs.length := by omega
      obtain ⟨c', vv', hc', hcc', _⟩ := hye j _ (List.getElem?_eq_getElem hj)
      have hlt := hro.asc j _ _ (List.getElem?_eq_getElem hj) hri
      generalize rs[j] = r' at hcc' hlt
      refine ⟨_, rfl, _, _, rfl, rfl, _, rfl, iteT' (decide_eq_true (by omega)) ?_⟩
      have e1 : ((j + 1 : Nat) : Int) - 1 = (j : Int) := by omega
      refine ⟨_, rfl, _, rfl, _, _, rfl, rfl, a, ys, _, .ref c', rfl, rfl, .inl ((ha.kp k03).kp k4), ?_, c', _, 0, _, rfl, rfl, tupT (k04.t _ _ hcc'), atI_nat (j := 0) rfl, _, rfl, c, _, 0, _, rfl, rfl, tupT (k04.t _ _ hcc), atI_nat (j := 0) rfl, _, _, rfl, rfl, _, rfl, ?_⟩
      · rw [e1]
        exact atI_nat (j := j) hc'
      · rw [decide_eq_true hlt]
        exact iteF ⟨_, _, rfl, k24⟩
    · refine ⟨_, rfl, _, _, rfl, rfl, _, rfl, iteF' (decide_eq_false (by omega)) (iteF ⟨_, _, rfl, k24⟩)⟩
  · rintro σ H2 ⟨o3, o4, rfl, k2⟩
    exact q _ (k1.trans k2)
end
end N0


namespace N0
open PySem L2 PySem.Spec PyProof.Rows
section
variable {X : Cx}
/-- xs == [] of any list -/
def rEqNil (K : PySem.W.Frag) : R2 := fun x y H Q => ∃ a b xs, x = .ref a ∧ y = .ref b ∧ SqL K H a xs ∧ SqL K H b [] ∧ Q (.bl xs.isEmpty) H
theorem op_eqNil (hu : X.A.units < cLine) : OpR X (compareOp .Eq) (rEqNil X.K) := by
  intro pins s σ H x y v u Q I rx ry h
  obtain ⟨a, b, xs, rfl, rfl, ha, hb, q⟩ := h
  cases rx
  cases ry
  obtain ⟨its, r1, p1, _⟩ := I.list ha
  obtain ⟨its2, r2, p2, _⟩ := I.list hb
  have e2 : its2 = [] := by cases r2; rfl
  subst e2
  cases xs with
  | nil =>
    have e1 : its = [] := by cases r1; rfl
    subst e1
    exact SeqAt.RcAt.lists (e := fun _ => true) p1.isList p2.isList rfl hu (fun j h => absurd h (by simp)) _ _ _ _ ⟨.bl true, H, I, rfl, q⟩
  | cons z zs =>
    cases r1 with
    | cons r1 r1' =>
    exact SeqAt.RcAt.lists_lengths p1.isList p2.isList (by simp) hu _ _ _ _ ⟨.bl false, H, I, rfl, q⟩
theorem op_eqNilk (K : PySem.W.Frag) (hu : X.A.units < cLine) (h : X.K = K := by rfl) : OpR X (compareOp .Eq) (rEqNil K) := h ▸ op_eqNil hu
/-- len of a dict with tuple keys, also a locked one -/
def rLenTr : List V → Hp → VK → Prop := fun xs H Q => ∃ (p : Addr) (kvs : List (List Key × V)), xs = [.ref p] ∧ Rd H p (.dT kvs) ∧ Q (.int ((kvs.length : Nat) : Int)) H
theorem call_len_dTr : CallR X (.builtin "len") rLenTr := by
  intro pins s σ H xs us Q I r h
  obtain ⟨p, kvs, rfl, hp, q⟩ := h
  obtain ⟨u, rfl, rx⟩ := vals1 r
  obtain rfl : u = .ref p := rx
  obtain ⟨z, hd, ys, rel, dd⟩ := dt_rd I.hok hp
  have hl : kvs.length = ys.length := Paired.length rel
  refine call_len_dictH hd dd (by rw [← hl]; rw [sizeLine_eq] at z; omega) ?_
  rw [← hl]
  exact ⟨.int ((kvs.length : Nat) : Int), H, I.tok _, ⟨_, rfl⟩, q⟩
/-- set(t) of a tuple of whole numbers -/
def rSetI (K : PySem.W.Frag) (w : World) : List V → Hp → VK → Prop := fun vs H Q => ∃ (p : Addr) (ns : List Int), vs = [.ref p] ∧ SqT K H p (ns.map V.int) ∧ ns.length ≤ 1000 ∧
  ∀ q c, H q = none → c ≤ ns.length → Q (.ref q) (upd H q (SetO w q (fun j => decide (j ∈ ns)) c))
theorem cr_setI (hc : X.calm = true) : CallR X (.type "set") (rSetI X.K X.w) := by
  intro pins s σ H vs us Q I r h
  obtain ⟨p0, ns, rfl, hq, hl, q⟩ := h
  rw [Vals.ref1 r]
  obtain ⟨its, rv, pt, hz⟩ := I.tuple hq
  have hi : IntsAre its.toArray.toList ns := ints_of_vals rv
  refine call_set_tupI ns (I.ok.hd hc) (show s.heap.IsTuple p0 its.toArray from pt) hi (by unfold scanBound; omega) fun h' tk c R1 hcn k => ?_
  exact ⟨.ref _, upd H s.heap.objs.size (SetO X.w s.heap.objs.size (fun j => decide (j ∈ ns)) c), I.laid (t' := tk) k (Nat.le_refl _) (setO_new R1), rfl, q _ c (I.hok.fresh (Nat.le_refl _)) hcn⟩
/-! ### min of a list of alike data -/
theorem minD_mem (x : PyData) : ∀ (xs : List PyData), PySem.W.minD x xs ∈ x :: xs := by
  unfold PySem.W.minD
  intro xs
  induction xs generalizing x with
  | nil => exact List.mem_singleton.mpr rfl
  | cons y ys ih =>
    rw [List.foldl_cons]
    split
    · exact List.mem_cons_of_mem _ (ih y)
    · rcases List.mem_cons.mp (ih x) with e | e
      · rw [e]; exact List.mem_cons_self ..
      · exact List.mem_cons_of_mem _ (List.mem_cons_of_mem _ e)
theorem vals_at' : ∀ {xs : List V} {us : List Value} {i : Nat} {u : Value}, Vals xs us → us[i]? = some u → ∃ x, xs[i]? = some x ∧ RelV x u
  | _, _, 0, _, .cons r _, h => by simp at h; subst h; exact ⟨_, rfl, r⟩
  | _, _, i + 1, _, .cons _ t, h => by obtain ⟨x, h1, h2⟩ := vals_at' (i := i) t (by simpa using h); exact ⟨x, by simpa using h1, h2⟩
def rMinD (K : PySem.W.Frag) : List V → Hp → VK → Prop := fun vs H Q => ∃ (a : Addr) (xs : List V) (d : PyData) (ds : List PyData), vs = [V.ref a] ∧ SqL K H a xs ∧ DpAll K H xs (d :: ds) ∧ PySem.W.AlikeAll (d :: ds) ∧ PyData.depthAll (d :: ds) ≤ 60 ∧
  ∀ (i : Nat) v, xs[i]? = some v → (d :: ds)[i]? = some (PySem.W.minD d ds) → Q v H
theorem cr_minD (hc : X.calm = true) (hu : X.A.units + 64 < cLine) : CallR X (.builtin "min") (rMinD X.K) := by
  intro pins s σ H vs us Q I r h
  obtain ⟨a, xs, d, ds, rfl, hs, hd, hal, hdp, q⟩ := h
  obtain ⟨its, rv, hl, _⟩ := I.list hs
  rw [Vals.ref1 r]
  obtain ⟨as, hr⟩ := Dp.readsAll I (d :: ds) xs its hd rv
  have hr' : ReadsAll s.heap its.toArray.toList (d :: ds) as := by simpa using hr
  refine PySem.W.min_list_data (I.ok.hd hc) hl.isList hr' hal (by omega) fun i v h' tk bs hv hm hk => ?_
  have hv' : its[i]? = some v := by simpa using hv
  obtain ⟨x, hx, rx⟩ := vals_at' rv hv'
  obtain ⟨bs2, r2, hi, hmem, _⟩ := PySem.W.readsAll_atA hr' i v hv
  have e := PySem.W.alike_unique _ _ v bs2 bs (hal.1 _ hmem _ (minD_mem d ds)) (PySem.W.reads_keeps hk r2) hm
  refine ⟨x, H, I.kept hk, rx, q i x hx ?_⟩
  rw [← e, List.getD_eq_getElem?_getD, List.getElem?_eq_getElem hi]; rfl
end
/-! ### a new tuple whose object is known -/
def tTupZ (t : TA) : TE := fun σ H Q => t σ H fun xs H1 => xs.length ≤ sizeLine ∧ ∀ p o, H1 p = none → o.cls = .type "tuple" → o.dict = none → Q (.ref p) (upd H1 p (.frz o (.tup xs)))
theorem pe_tupZ {X : Cx} {es : List Expr} {t : TA} {pos : Pos} {x1} (h : PA X es t) : PE X (.Tuple es x1 pos) (tTupZ t) := by
  refine ⟨fun pins s σ H Q I hq => ?_⟩
  refine wpAny_Tuple_spliced (thn (h.run pos pins s σ H _ I hq) fun us s1 ⟨xs, H1, I1, r, z, q⟩ => ⟨by rw [← r.length]; exact z, ?_⟩)
  have hf : H1 s1.heap.objs.size = none := I1.hok.fresh (Nat.le_refl _)
  refine ⟨.ref s1.heap.objs.size, upd H1 s1.heap.objs.size (.frz { cls := .type "tuple", data := .seq us.toArray } (.tup xs)), I1.laid (t' := s1.toks) (fun b u e => Heap.get?_push_of_some _ e) (Nat.le_refl _) ?_, rfl, q _ _ hf rfl rfl⟩
  exact ⟨Heap.get?_push_size _ rfl, z, us, r, ⟨_, Heap.get?_push_size _ rfl, rfl, _, rfl⟩⟩
end N0

namespace N0
open PySem L2 PySem.Spec PyProof.Rows
/-! ### dict(pairs) with tuple keys; {tuple: value} -/
section
variable {prog : Program} {w : World} {A : Around} {E : Value → Shared → Prop}
abbrev TKd (prog : Program) (w : World) : HeapKind prog w (List Key) := tupleKind (mixKind prog w)
theorem dH_ext {h h' : Heap} {S : Addr} {xs : List (List Key × Addr × Value)} (hm : h.DictOfH (TKd prog w) S xs) (k : ∀ b o, (b = S ∨ ∃ x ∈ xs, b = x.2.1) → h.get? b = some o → h'.get? b = some o) : h'.DictOfH (TKd prog w) S xs := by
  obtain ⟨o, es, ep, h1, h2, h3, h4, h5, h6⟩ := hm
  refine ⟨o, es, ep, k _ _ (.inl rfl) h1, h2, h3, h4, fun x hx => ?_, h6⟩
  obtain ⟨o', its, n, g1, g2⟩ := h5 x hx
  exact ⟨o', its, n, k _ _ (.inr ⟨x, hx, rfl⟩) g1, g2⟩
theorem key_ext {h h' : Heap} {ks : List Key} {a : Addr} (x : (TKd prog w).is h ks a) (k : ∀ o, h.get? a = some o → h'.get? a = some o) : (TKd prog w).is h' ks a := by
  obtain ⟨o', its, n, g1, g2⟩ := x
  exact ⟨o', its, n, k _ g1, g2⟩
def mergeH (acc : List (List Key × Addr × Value)) : List (List Key × Addr × Value) → List (List Key × Addr × Value)
  | [] => acc
  | q :: r => mergeH (storedH acc q.1 q.2.1 q.2.2) r
theorem storedH_le (acc : List (List Key × Addr × Value)) (k : List Key) (a : Addr) (v : Value) : (storedH acc k a v).length ≤ acc.length + 1 := by
  unfold storedH
  split
  · rw [List.length_map]; omega
  · rw [List.length_append]; exact Nat.le_refl _
theorem storedH_addr {acc : List (List Key × Addr × Value)} {k : List Key} {a : Addr} {v : Value} : ∀ x ∈ storedH acc k a v, x.2.1 = a ∨ ∃ y ∈ acc, x.2.1 = y.2.1 := by
  intro x hx
  unfold storedH at hx
  split at hx
  · obtain ⟨y, hy, rfl⟩ := List.mem_map.mp hx
    refine .inr ⟨y, hy, ?_⟩
    unfold putAt
    split <;> rfl
  · rcases List.mem_append.mp hx with h | h
    · exact .inr ⟨x, h, rfl⟩
    · rw [List.mem_singleton.mp h]; exact .inl rfl
/-- the walk over the pairs -/
theorem updT_loop {R : Result → Shared → Prop} {S I : Addr} {fp : List Addr} {n : Nat} {items : List Value} {St : Nat → Heap → Prop} {res : Value} (hu : A.units + 2 < cLine) (W : Walks prog w A.in1 I fp [I] n (fun i v => items[i]? = some v) St) (hSf : S ∉ fp) (hSI : S ≠ I) :
    ∀ (rest : List (List Key × Addr × Value)) (i : Nat) (acc : List (List Key × Addr × Value)) (ix : Int) (t : Tok) (s : Shared), n = i + rest.length → acc.length + rest.length ≤ sizeLine →
      (∀ (j : Nat) (q : List Key × Addr × Value), rest[j]? = some q → ∃ b : Addr, items[i + j]? = some (.ref b) ∧ b ≠ S ∧ b ≠ I ∧ q.2.1 ≠ S ∧ q.2.1 ≠ I ∧ IsTup s.heap b #[.ref q.2.1, q.2.2] ∧ (TKd prog w).is s.heap q.1 q.2.1) →
      (∀ x ∈ acc, x.2.1 ≠ S ∧ x.2.1 ≠ I) → St i s.heap → s.heap.DictOfH (TKd prog w) S acc →
      (∀ h' tk, h'.DictOfH (TKd prog w) S (mergeH acc rest) → (∀ b o, b ≠ S → b ≠ I → s.heap.get? b = some o → h'.get? b = some o) → R (.ok (.ret res)) { s with heap := h', toks := tk }) →
      codeAny (model prog w) A (.builtin "dict.update.loop" ⟨[.ref S, .ref I, .int ix t, res], []⟩) R s
  | [], i, acc, ix, t, s, hn, hln, ht, hac, hit, hm, hR => by
    refine codeAny_builtin ud_entry ?_
    rw [Around.under_plainId ud_plain _]
    show wpAny _ A.in1 (pyNext (.ref I) >>= _) _ _ s
    rw [List.length_nil, Nat.add_zero] at hn
    refine wpAny_bind (W.done s _ _ (by rw [hn]; exact hit) fun h' tk he => ?_)
    show wpAny _ A.in1 (Builtin.Dict.addKeywords S [] >>= _) _ _ _
    refine wpAny_bind (wpAny_pure (wpAny_pure ?_))
    have he' : ∀ b o, b ≠ I → s.heap.get? b = some o → h'.get? b = some o := fun b o hb e => he b o (by simpa using hb) e
    refine hR h' tk (dH_ext hm fun b o hb e => he' b o ?_ e) fun b o _ hb e => he' b o hb e
    rcases hb with rfl | ⟨x, hx, rfl⟩
    · exact hSI
    · exact (hac x hx).2
  | q :: rest, i, acc, ix, t, s, hn, hln, ht, hac, hit, hm, hR => by
    obtain ⟨b, hb, hbS, hbI, hqS, hqI, htup, hk⟩ := ht 0 q rfl
    rw [List.length_cons] at hn hln
    refine codeAny_builtin ud_entry ?_
    rw [Around.under_plainId ud_plain _]
    show wpAny _ A.in1 (pyNext (.ref I) >>= _) _ _ s
    refine wpAny_bind (W.item i s _ _ (by omega) hit fun v h1 tk1 hP hit1 hs1 => ?_)
    obtain rfl : v = .ref b := by rw [Nat.add_zero, hP] at hb; exact Option.some.inj hb
    have hs1' : ∀ b o, b ≠ I → s.heap.get? b = some o → h1.get? b = some o := fun b o hb e => hs1 b o (by simpa using hb) e
    have ht1 : IsTup h1 b #[.ref q.2.1, q.2.2] := by
      obtain ⟨o, ho, r⟩ := htup
      exact ⟨o, hs1' _ _ hbI ho, r⟩
    have hk1 : (TKd prog w).is h1 q.1 q.2.1 := key_ext hk fun o e => hs1' _ _ hqI e
    have hm1 : h1.DictOfH (TKd prog w) S acc := dH_ext hm fun c o hc e => hs1' c o (by
      rcases hc with rfl | ⟨x, hx, rfl⟩
      · exact hSI
      · exact (hac x hx).2) e
    obtain ⟨o, ho, hc, m, hd⟩ := id ht1
    show wpAny _ A.in1 (holding [Value.ref b] _ >>= _) _ _ _
    refine wpAny_bind (wpAny_holding ?_)
    refine wpAny_bind (wpAny_tryCatch ?_)
    unfold Builtin.Dict.pairItems
    refine wpAny_bind (wpAny_typeOf (T := "tuple") ⟨o, ho, hc⟩ ?_)
    rw [if_pos (by first | decide | rfl | simp)]
    refine wpAny_bind (wpAny_seqItems ho hd (wpAny_pure ?_))
    show wpAny _ A.in1 (holding [Value.ref q.2.1, q.2.2] (dictSet S (.ref q.2.1) q.2.2)) _ _ _
    refine wpAny_holding (wpAny_dictSet_heap (knd := TKd prog w) (k := q.1) (hsz := by omega) (show A.units + 1 < cLine by omega) hk1 hm1 (fun h2 hm2 hs2 => ?_))
    have hs2' : ∀ b o, b ≠ S → h1.get? b = some o → h2.get? b = some o := fun c o hc e => (hs2.2 c hc).trans e
    refine wpAny_pure ⟨plainId_quiet ud_plain _, updT_loop hu W hSf hSI rest (i + 1) (storedH acc q.1 q.2.1 q.2.2) (ix + 1) 0 _ (by omega) ?_ (fun j q' e => ?_) ?_ ?_ hm2 fun h' tk hd' k => ?_⟩
    · have z := storedH_le acc q.1 q.2.1 q.2.2
      omega
    · obtain ⟨b', hb', hbS', hbI', hqS', hqI', htup', hk'⟩ := ht (j + 1) q' (by simpa using e)
      refine ⟨b', ?_, hbS', hbI', hqS', hqI', ?_, key_ext hk' fun o e => hs2' _ _ hqS' (hs1' _ _ hqI' e)⟩
      · rw [show i + 1 + j = i + (j + 1) by omega]
        exact hb'
      · obtain ⟨o, ho, r⟩ := htup'
        exact ⟨o, hs2' _ _ hbS' (hs1' _ _ hbI' ho), r⟩
    · intro x hx
      rcases storedH_addr x hx with e | ⟨y, hy, e⟩
      · rw [e]; exact ⟨hqS, hqI⟩
      · rw [e]; exact hac y hy
    · exact W.frame _ _ _ hit1 fun c hc o e => hs2' c o (fun z => hSf (z ▸ hc)) e
    · exact hR h' tk hd' fun c oc h3 h4 e => k c oc h3 h4 (hs2' c oc h3 (hs1' c oc h4 e))
theorem mergeH_addr : ∀ {rest acc : List (List Key × Addr × Value)}, ∀ x ∈ mergeH acc rest, (∃ y ∈ rest, x.2.1 = y.2.1) ∨ ∃ y ∈ acc, x.2.1 = y.2.1
  | [], acc, x, h => .inr ⟨x, h, rfl⟩
  | q :: r, acc, x, h => by
    rcases mergeH_addr (rest := r) x h with ⟨y, hy, e⟩ | ⟨y, hy, e⟩
    · exact .inl ⟨y, List.mem_cons_of_mem _ hy, e⟩
    · rcases storedH_addr y hy with e' | ⟨z, hz, e'⟩
      · exact .inl ⟨q, List.mem_cons_self .., e.trans e'⟩
      · exact .inr ⟨z, hz, e.trans e'⟩
/-- dict(l) of a list of pairs, keys tuples -/
theorem call_dict_pairsT {s : Shared} {l : Addr} {ol : Obj} {items : Array Value} {n : Nat} {prs : List (List Key × Addr × Value)} {Q : Value → Shared → Prop} (hh : A.handled = none) (hu : A.units + 64 < cLine) (hl : s.heap.get? l = some ol) (hc : ol.cls = .type "list") (hd : ol.dict = none)
    (hdat : ol.data = .seq items n) (hsz : items.size = prs.length) (hln : prs.length ≤ sizeLine)
    (ht : ∀ (j : Nat) (q : List Key × Addr × Value), prs[j]? = some q → ∃ b : Addr, items[j]? = some (.ref b) ∧ IsTup s.heap b #[.ref q.2.1, q.2.2] ∧ (TKd prog w).is s.heap q.1 q.2.1)
    (h : ∀ h' tk, h'.DictOfH (TKd prog w) s.heap.objs.size (mergeH [] prs) → (∀ b o, s.heap.get? b = some o → h'.get? b = some o) → Q (.ref s.heap.objs.size) { s with heap := h', toks := tk }) :
    wpAny (model prog w) A (call (.type "dict") [.ref l]) Q E s := by
  refine callType_codes (Q₁ := fun obj s₁ => obj = .ref s.heap.objs.size ∧ s₁ = { s with heap := s.heap.push { cls := .type "dict", data := .dict #[] } }) PySem.F.kt_called_dict (PySem.F.kt_typeCall_dict_1 _) PySem.F.entry_dict_init (kt_code_dict_new _ ⟨rfl, rfl⟩) ?_
  rintro obj s₁ ⟨rfl, rfl⟩
  have hnew : (s.heap.push { cls := .type "dict", data := .dict #[] }).DictOfH (TKd prog w) s.heap.objs.size [] := Heap.DictOfH.new s.heap
  have k0 : ∀ b o, s.heap.get? b = some o → (s.heap.push { cls := .type "dict", data := .dict #[] }).get? b = some o := fun b o e => Heap.get?_push_of_some _ e
  have eS : (s.heap.push { cls := .type "dict", data := .dict #[] }).get? s.heap.objs.size = some { cls := .type "dict", data := .dict #[] } := Heap.get?_push_size _ rfl
  have hty : ({ s with heap := s.heap.push { cls := .type "dict", data := .dict #[] } } : Shared).TypeIs (.ref s.heap.objs.size) "dict" := ⟨_, eS, rfl⟩
  refine ⟨hty, PySem.F.args_dict_init_2 _ _, ?_⟩
  unfold Builtin.«dict.__init__»
  refine wpAny_bind ?_
  unfold Builtin.Dict.selfAndRest
  refine wpAny_bind (wpAny_notOrdered_dict hty ?_)
  show wpAny _ _ (pure (s.heap.objs.size, [Value.ref l])) _ _ _
  refine wpAny_pure ?_
  show wpAny _ _ (Builtin.Dict.updateFrom "dict.__init__" s.heap.objs.size (.ref l) [] .none) _ _ _
  unfold Builtin.Dict.updateFrom
  refine wpAny_bind (wpAny_typeOf (T := "list") ⟨ol, k0 _ _ hl, hc⟩ ?_)
  rw [if_pos (by first | decide | rfl | simp)]
  refine wpAny_bind (miss_list (k0 _ _ hl) hc hdat hd hh fun h1 tk1 hk1 => ?_)
  rw [if_pos (show (none : Option Value).isNone = true from rfl)]
  refine wpAny_bind (wpAny_rule ?_)
  have hl1 : h1.IsList l items := ⟨ol, hk1 _ _ (k0 _ _ hl), hc, n, hdat⟩
  have hS1 : s.heap.objs.size < h1.objs.size := Heap.lt_size (hk1 _ _ eS)
  refine wpAny_bind (wpAny_pyIter_list hl1 ?_)
  have k2 : ∀ b o, h1.get? b = some o → (h1.push { cls := .type "list_iterator", data := .fields #[.ref l, .int 0 0] }).get? b = some o := fun b o e => Heap.get?_push_of_some _ e
  have hlt : l < s.heap.objs.size := Heap.lt_size hl
  have hlI : l ≠ h1.objs.size := Nat.ne_of_lt (Nat.lt_trans hlt hS1)
  have key := updT_loop (prog := prog) (w := w) (A := A.in1) (R := wants (fun r s₂ => r = .none ∧ Q (.ref s.heap.objs.size) s₂) E) (S := s.heap.objs.size) (I := h1.objs.size) (items := items.toList) (res := Value.none) (n := items.size) (fp := [h1.objs.size, l]) (St := fun i h => h.IsListIter h1.objs.size l i ∧ h.IsList l items)
    (by show A.units + 1 + 2 < cLine; omega) (by
      have W := Walks.list (prog := prog) (w := w) (A := A.in1.in1) hh h1.objs.size l hlI items
      simp only [Array.getElem?_toList]
      exact W) (by
      simp only [List.mem_cons, List.not_mem_nil, or_false, not_or]
      exact ⟨Nat.ne_of_lt hS1, Nat.ne_of_gt hlt⟩) (Nat.ne_of_lt hS1) prs 0 [] 0 0
    { s with heap := h1.push { cls := .type "list_iterator", data := .fields #[.ref l, .int 0 0] }, toks := tk1 } (by rw [hsz, Nat.zero_add]) (by rw [List.length_nil, Nat.zero_add]; exact hln)
    (fun j q e => by
      obtain ⟨b, e1, e2, e3⟩ := ht j q e
      have hb : b < s.heap.objs.size := e2.lt
      have hq : q.2.1 < s.heap.objs.size := by obtain ⟨_, _, _, g, _⟩ := e3; exact Heap.lt_size g
      refine ⟨b, by rw [Nat.zero_add, Array.getElem?_toList]; exact e1, Nat.ne_of_lt hb, Nat.ne_of_lt (Nat.lt_trans hb hS1), Nat.ne_of_lt hq, Nat.ne_of_lt (Nat.lt_trans hq hS1), e2.keeps fun c o z => k2 _ _ (hk1 _ _ (k0 _ _ z)), key_ext e3 fun o z => k2 _ _ (hk1 _ _ (k0 _ _ z))⟩)
    (fun x hx => by cases hx)
    ⟨⟨_, Heap.get?_push_size _ rfl, rfl, rfl⟩, hl1.at fun o e => k2 _ _ e⟩ (dH_ext hnew fun b o _ e => k2 _ _ (hk1 _ _ e))
    (fun h' tk hd' k => ⟨rfl, h h' tk hd' fun b o e => k b o (Nat.ne_of_lt (Heap.lt_size e)) (Nat.ne_of_lt (Nat.lt_trans (Heap.lt_size e) hS1)) (k2 _ _ (hk1 _ _ (k0 _ _ e)))⟩)
  exact wpAny_pure ⟨plainId_quiet ud_plain _, key⟩
end
def mergeT (acc : List (List Key × V)) : List (List Key × V) → List (List Key × V)
  | [] => acc
  | q :: r => mergeT (putK acc q.1 q.2) r
theorem mergeT_len : ∀ (r acc : List (List Key × V)), (mergeT acc r).length ≤ acc.length + r.length
  | [], acc => Nat.le_refl _
  | q :: r, acc => by
    have h1 := mergeT_len r (putK acc q.1 q.2)
    have h2 := length_putK acc q.1 q.2
    rw [List.length_cons]
    show (mergeT (putK acc q.1 q.2) r).length ≤ _
    omega
theorem kt_mergeT {H : Hp} : ∀ {kvs acc : List (List Key × V)} {xs axs : List (List Key × Addr × Value)}, KT H acc axs → KT H kvs xs → KT H (mergeT acc kvs) (mergeH axs xs)
  | [], _, [], _, ha, _ => ha
  | [], _, _ :: _, _, _, h => by cases h
  | _ :: _, _, [], _, _, h => by cases h
  | p :: ps, acc, q :: qs, axs, ha, h => by
    cases h with
    | cons h t =>
      have := ha.put p.1 h.2.1 h.2.2
      show KT H (mergeT (putK acc p.1 p.2) ps) (mergeH (storedH axs q.1 q.2.1 q.2.2) qs)
      rw [← h.1]
      exact kt_mergeT this t
theorem putK_new {κ : Type} [DecidableEq κ] {acc : List (κ × V)} {k : κ} {v : V} (h : k ∉ acc.map (·.1)) : putK acc k v = acc ++ [(k, v)] := by
  unfold putK
  have e : (acc.any fun kv => decide (kv.1 = k)) = false := by
    rw [List.any_eq_false]
    intro x hx e
    exact h (List.mem_map.mpr ⟨x, hx, of_decide_eq_true e⟩)
  rw [e]
  rfl
theorem mergeT_nodup : ∀ {r acc : List (List Key × V)}, ((acc ++ r).map (·.1)).Nodup → mergeT acc r = acc ++ r
  | [], acc, _ => by rw [List.append_nil]; rfl
  | q :: r, acc, h => by
    have hn : q.1 ∉ acc.map (·.1) := by
      rw [List.map_append, List.nodup_append] at h
      exact fun z => h.2.2 _ z q.1 (by simp) rfl
    show mergeT (putK acc q.1 q.2) r = _
    rw [putK_new hn, mergeT_nodup (by rw [List.append_assoc]; exact h), List.append_assoc]; rfl
def rDictT (K : PySem.W.Frag) : List V → Hp → VK → Prop := fun xs H Q => ∃ (a : Addr) (ps : List Addr) (kvs : List (List Key × V)), xs = [.ref a] ∧ SqL K H a (ps.map V.ref) ∧
  Paired (fun p kv => ∃ b, SqT K H p [.ref b, kv.2] ∧ H b = some (.tup (kv.1.map kV))) ps kvs ∧ ∀ p, H p = none → Q (.ref p) (upd H p (.dT (mergeT [] kvs)))
theorem pairsT_of {X : Cx} {pins : List (Addr × Obj)} {s : Shared} {σ : L2.St} {H : Hp} (I : Inv X pins σ H s) : ∀ {ps : List Addr} {kvs : List (List Key × V)}, Paired (fun p kv => ∃ b, SqT X.K H p [.ref b, kv.2] ∧ H b = some (.tup (kv.1.map kV))) ps kvs →
    ∃ prs : List (List Key × Addr × Value), KT H kvs prs ∧ ps.length = prs.length ∧ ∀ (j : Nat) (q : List Key × Addr × Value), prs[j]? = some q → ∃ b : Addr, ps[j]? = some b ∧ IsTup s.heap b #[.ref q.2.1, q.2.2] ∧ (TKd X.prog X.w).is s.heap q.1 q.2.1
  | _, _, .nil => ⟨[], .nil, rfl, fun j q h => by simp at h⟩
  | _, _, @Paired.cons _ _ _ p kv ps kvs h t => by
    obtain ⟨prs, h1, h2, h3⟩ := pairsT_of I t
    obtain ⟨b, hs, hb⟩ := h
    obtain ⟨its, rv, pt, _⟩ := I.tuple hs
    obtain ⟨u, rfl, ru⟩ : ∃ u, its = [.ref b, u] ∧ RelV kv.2 u := by
      cases rv with
      | cons r1 r2 =>
        cases r2 with
        | cons r2 r3 =>
          cases r3
          cases r1
          exact ⟨_, rfl, r2⟩
    refine ⟨(kv.1, b, u) :: prs, .cons ⟨rfl, hb, ru⟩ h1, by simp [h2], fun j q hq => ?_⟩
    cases j with
    | zero =>
      cases hq
      exact ⟨p, rfl, pt, key_of I.hok hb⟩
    | succ j =>
      obtain ⟨b', g1, g2⟩ := h3 j q (by simpa using hq)
      exact ⟨b', by simpa using g1, g2⟩
theorem call_dictT {X : Cx} (hc : X.calm = true) (hu : X.A.units + 64 < cLine) : CallR X (.type "dict") (rDictT X.K) := by
  intro pins s σ H xs us Q I r q
  obtain ⟨a, ps, kvs, rfl, hq, hp, q⟩ := q
  rw [Vals.ref1 r]
  obtain ⟨its, rv, pl, hz⟩ := I.list hq
  have ei := refs_at rv
  subst ei
  rw [List.length_map] at hz
  obtain ⟨prs, rel, hl, hpr⟩ := pairsT_of I hp
  obtain ⟨o, n, ho, hcl, hd, hdat⟩ := pl
  refine call_dict_pairsT (prs := prs) (I.ok.hd hc) hu ho hcl hd hdat (by simp [hl]) (by rw [← hl]; exact hz) (fun j q' e => ?_) fun h' tk hd' k => ?_
  · obtain ⟨b, e1, e2, e3⟩ := hpr j q' e
    exact ⟨b, by simp [e1], e2, e3⟩
  · have hm : (s.heap.objs.size == sysModules) = false := beq_eq_false_iff_ne.mpr (Nat.ne_of_gt I.big)
    have hkl : kvs.length = prs.length := Paired.length rel
    have hlen : (mergeT [] kvs).length ≤ sizeLine := by
      have := mergeT_len kvs []
      rw [List.length_nil] at this
      omega
    have hn := I.hok.fresh (Nat.le_refl s.heap.objs.size)
    obtain ⟨o', es, ep, g1, g2, g3, g4, g5, g6⟩ := hd'
    have hrel : KT H (mergeT [] kvs) (mergeH [] prs) := kt_mergeT .nil rel
    have hrel' : KT (upd H s.heap.objs.size (.dT (mergeT [] kvs))) (mergeT [] kvs) (mergeH [] prs) := hrel.keeps fun b ys e => by rw [upd_ne (ne_of_none e hn)]; exact e
    exact ⟨.ref s.heap.objs.size, upd H s.heap.objs.size (.dT (mergeT [] kvs)), I.laid (t' := tk) k (Nat.le_refl _) ⟨hlen, hm, _, hrel', o', es, ep, g1, g2, g3, g4, g6⟩, rfl, q _ hn⟩
/-! ### {t: v}, t a tuple -/
def tDisp1T (tk tv : TE) : TE := fun σ H Q => ∀ p, H p = none → tk σ (upd H p (.dT [])) fun x H1 => tv σ H1 fun y H2 => H2 p = some (.dT []) ∧ ∃ (b : Addr) (k : List Key), x = .ref b ∧ H2 b = some (.tup (k.map kV)) ∧ Q (.ref p) (upd H2 p (.dT [(k, y)]))
theorem pe_disp1T {X : Cx} {pos : Pos} {k v : Expr} {tk tv : TE} (hu : X.A.units + 1 < cLine) (hk : PE X k tk) (hv : PE X v tv) : PE X (.Dict [some k] [v] pos) (tDisp1T tk tv) := by
  refine ⟨fun pins s σ H Q I q => ?_⟩
  have hn := I.hok.fresh (Nat.le_refl s.heap.objs.size)
  have hnew : (s.heap.push { cls := .type "dict", data := .dict #[] }).DictOfH (TKd X.prog X.w) s.heap.objs.size [] := Heap.DictOfH.new s.heap
  have hm : (s.heap.objs.size == sysModules) = false := beq_eq_false_iff_ne.mpr (Nat.ne_of_gt I.big)
  have I1 := I.laid (a := s.heap.objs.size) (o := .dT []) (h' := s.heap.push { cls := .type "dict", data := .dict #[] }) (t' := s.toks) (fun _ _ q => Heap.get?_push_of_some _ q) (Nat.le_refl _) (by
    obtain ⟨o', es, ep, g1, g2, g3, g4, g5, g6⟩ := hnew
    exact ⟨Nat.zero_le _, hm, [], .nil, o', es, ep, g1, g2, g3, g4, g6⟩)
  rw [arm_eval_Dict, zip_pairTrees [some k] [v] X.env pos rfl rfl, dictDisplay_pairs (pairTrees [some k] [v] X.env pos) (by simp [pairTrees]) (by simp [pairTrees])]
  refine wpAny_bind (wpAny_standAt (wpAny_bind ?_))
  unfold subDict
  refine wpAny_bind (wpAny_alloc ?_)
  refine wpAny_bind (wpAny_holding ?_)
  rw [if_pos (by simp [pairTrees])]
  refine wpAny_bind (pairTrees_cons_walk (thn (hk.run pins _ σ _ _ I1 (q _ hn)) fun kv s2 ⟨x, H1, I2, rx, q2⟩ => thn (hv.run pins _ σ _ _ I2 q2) fun vv s3 ⟨y, H2, I3, ry, e, b, key, ex, eb, q3⟩ => pairTrees_nil_walk ?_))
  subst ex
  obtain rfl : kv = Value.ref b := rx
  refine wpAny_holding ?_
  obtain ⟨z, hd0, vs0, r0, dd⟩ := dt_of I3.hok e
  cases r0
  rw [List.forIn_cons]
  refine wpAny_bind (wpAny_bind (wpAny_bind (wpAny_dictSet_heap (knd := TKd X.prog X.w) (hsz := Nat.zero_le _) (show X.A.units < cLine by omega) (key_of I3.hok eb) dd fun h' dd' hs => wpAny_pure ?_)))
  show wpAny _ _ (forIn [] PUnit.unit _) _ _ _
  rw [List.forIn_nil]
  refine wpAny_pure (wpAny_pure ?_)
  refine wpAny_pure ?_
  refine wpAny_pure ?_
  obtain ⟨o', es, ep, g1, g2, g3, g4, g5, g6⟩ := dd'
  refine ⟨.ref s.heap.objs.size, _, d_write I3 (by rw [e]; exact True.intro) hs ⟨o', g1⟩ ?_, rfl, q3⟩
  refine ⟨by show 1 ≤ sizeLine; decide, hm, _, Paired.cons (a := (key, y)) (b := (key, b, vv)) ⟨rfl, ?_, ry⟩ .nil, o', es, ep, g1, g2, g3, g4, g6⟩
  rw [upd_ne (ne_of eb e (fun z => nomatch z))]
  exact eb
end N0

namespace N0
open PySem L2 PySem.Spec PyProof.Rows
/-! ### dict(t) of a new tuple of pairs -/
theorem tuple_keys_none : typeLookup (.type "tuple") "keys" = pure none := am_miss_of_fast (by first | decide +kernel | rfl)
section
variable {prog : Program} {w : World} {A : Around} {E : Value → Shared → Prop}
theorem miss_tuple {s : Shared} {a : Addr} {o : Obj} {xs : Array Value} {k : Nat} {Q : Option Value → Shared → Prop} (hx : s.heap.get? a = some o) (hc : o.cls = .type "tuple") (hdat : o.data = .seq xs k) (hd : o.dict = none) (hA : A.handled = none)
    (h : ∀ h' tk, (∀ b ob, s.heap.get? b = some ob → h'.get? b = some ob) → Q none { s with heap := h', toks := tk }) : wpAny (model prog w) A (getAttr? (.ref a) "keys") Q E s := by
  obtain ⟨c, dct, dat, sl⟩ := o
  simp only at hc hdat hd
  subst hc hdat hd
  obtain ⟨hp, g, d, tk, os⟩ := s
  have hT : ∀ tk', (⟨hp, g, d, tk', os⟩ : Shared).TypeIs (.ref a) "tuple" := fun _ => ⟨_, hx, rfl⟩
  have hmiss := tuple_keys_none
  have hname : (["__module__", "__name__", "__qualname__", "__doc__", "__annotations__"] : List Str).contains "keys" = false := by decide +kernel
  have hsz : ("keys" : Str).length + 100 ≤ sizeLine := by first | size_fits | decide +kernel
  have f1 := sub_AttributeError
  have f3 := PySem.F.slot_tuple_getattribute.lookup
  have f4 := PySem.F.slot_tuple_getattribute.bind (.ref a)
  have f5 := am_tuple_getattr_none
  unfold getAttr? getAttrBy? getAttrBy
  repeat (any_goals (first | assumption | exact hT _ | ((with_reducible show wpAny _ _ (call (Value.builtin "tuple.__getattribute__") _ _) _ _ _); refine call_meets PySem.F.slot_tuple_getattribute (hT _) am_entry_tuple_getattribute (PySem.F.args_tuple_getattribute_2 _ _) (meets_getattribute_miss_tuple a xs k sl "keys" _ hmiss hname hsz) ⟨hx, hA, fun h' tk' e hx' => ?_⟩) | wp_step))
  obtain ⟨t', u', he⟩ := hx'.there
  show wpAny _ _ (getattributeRaised _ _ _ _ _ _ _) _ _ _
  unfold getattributeRaised
  repeat (any_goals (first | assumption | wp_step))
  all_goals first | exact h _ _ hx'.keeps | (dsimp only; repeat (any_goals (first | assumption | exact h _ _ hx'.keeps | wp_step)))
theorem updK_loop {R : Result → Shared → Prop} {S I : Addr} {fp : List Addr} {n : Nat} {items : List Value} {St : Nat → Heap → Prop} {res : Value} (W : Walks prog w A.in1 I fp [I] n (fun i v => items[i]? = some v) St) (hSf : S ∉ fp) (hSI : S ≠ I) :
    ∀ (rest : List (Key × Value)) (i : Nat) (acc : List (Key × Value)) (ix : Int) (t : Tok) (s : Shared), n = i + rest.length → acc.length + rest.length ≤ sizeLine →
      (∀ (j : Nat) (q : Key × Value), rest[j]? = some q → ∃ (b : Addr) (u : Value), items[i + j]? = some (.ref b) ∧ b ≠ S ∧ b ≠ I ∧ IsTup s.heap b #[u, q.2] ∧ keyIs q.1 u = true) →
      St i s.heap → s.heap.DictOf (mixKind prog w) S acc →
      (∀ h' tk, h'.DictOf (mixKind prog w) S (merged acc rest) → (∀ b o, b ≠ S → b ≠ I → s.heap.get? b = some o → h'.get? b = some o) → R (.ok (.ret res)) { s with heap := h', toks := tk }) →
      codeAny (model prog w) A (.builtin "dict.update.loop" ⟨[.ref S, .ref I, .int ix t, res], []⟩) R s
  | [], i, acc, ix, t, s, hn, hln, ht, hit, hm, hR => by
    refine codeAny_builtin ud_entry ?_
    rw [Around.under_plainId ud_plain _]
    show wpAny _ A.in1 (pyNext (.ref I) >>= _) _ _ s
    rw [List.length_nil, Nat.add_zero] at hn
    refine wpAny_bind (W.done s _ _ (by rw [hn]; exact hit) fun h' tk he => ?_)
    show wpAny _ A.in1 (Builtin.Dict.addKeywords S [] >>= _) _ _ _
    refine wpAny_bind (wpAny_pure (wpAny_pure ?_))
    have he' : ∀ b o, b ≠ I → s.heap.get? b = some o → h'.get? b = some o := fun b o hb e => he b o (by simpa using hb) e
    exact hR h' tk (hm.extBut he' hSI) fun b o _ hb e => he' b o hb e
  | q :: rest, i, acc, ix, t, s, hn, hln, ht, hit, hm, hR => by
    obtain ⟨b, u, hb, hbS, hbI, htup, hk⟩ := ht 0 q rfl
    rw [List.length_cons] at hn hln
    refine codeAny_builtin ud_entry ?_
    rw [Around.under_plainId ud_plain _]
    show wpAny _ A.in1 (pyNext (.ref I) >>= _) _ _ s
    refine wpAny_bind (W.item i s _ _ (by omega) hit fun v h1 tk1 hP hit1 hs1 => ?_)
    obtain rfl : v = .ref b := by rw [Nat.add_zero, hP] at hb; exact Option.some.inj hb
    have hs1' : ∀ b o, b ≠ I → s.heap.get? b = some o → h1.get? b = some o := fun b o hb e => hs1 b o (by simpa using hb) e
    have ht1 : IsTup h1 b #[u, q.2] := htup.extBut hs1' hbI
    have hm1 : h1.DictOf (mixKind prog w) S acc := hm.extBut hs1' hSI
    obtain ⟨o, ho, hc, m, hd⟩ := id ht1
    show wpAny _ A.in1 (holding [Value.ref b] _ >>= _) _ _ _
    refine wpAny_bind (wpAny_holding ?_)
    refine wpAny_bind (wpAny_tryCatch ?_)
    unfold Builtin.Dict.pairItems
    refine wpAny_bind (wpAny_typeOf (T := "tuple") ⟨o, ho, hc⟩ ?_)
    rw [if_pos (by first | decide | rfl | simp)]
    refine wpAny_bind (wpAny_seqItems ho hd (wpAny_pure ?_))
    show wpAny _ A.in1 (holding [u, q.2] (dictSet S u q.2)) _ _ _
    refine wpAny_holding (wpAny_dictSet_pairs (knd := mixKind prog w) (k := q.1) hk hm1 (fun h2 hm2 hs2 => ?_) (by omega))
    refine wpAny_pure ⟨plainId_quiet ud_plain _, updK_loop W hSf hSI rest (i + 1) (stored acc q.1 q.2) (ix + 1) 0 _ (by omega) ?_ (fun j q' e => ?_) ?_ hm2 fun h' tk hd' k => ?_⟩
    · have z := stored_length_le acc q.1 q.2
      omega
    · obtain ⟨b', u', hb', hbS', hbI', htup', hk'⟩ := ht (j + 1) q' (by simpa using e)
      refine ⟨b', u', ?_, hbS', hbI', (htup'.extBut hs1' hbI').extBut hs2.extBut hbS', hk'⟩
      rw [show i + 1 + j = i + (j + 1) by omega]
      exact hb'
    · exact W.frame _ _ _ hit1 fun c hc o e => hs2.extBut c o (fun z => hSf (z ▸ hc)) e
    · exact hR h' tk hd' fun c oc h3 h4 e => k c oc h3 h4 (hs2.extBut c oc h3 (hs1' c oc h4 e))
theorem call_dict_tup {s : Shared} {l : Addr} {ol : Obj} {items : Array Value} {n : Nat} {prs : List (Key × Value)} {Q : Value → Shared → Prop} (hh : A.handled = none) (hl : s.heap.get? l = some ol) (hc : ol.cls = .type "tuple") (hd : ol.dict = none)
    (hdat : ol.data = .seq items n) (hsz : items.size = prs.length) (hln : prs.length ≤ sizeLine)
    (ht : ∀ (j : Nat) (q : Key × Value), prs[j]? = some q → ∃ (b : Addr) (u : Value), items[j]? = some (.ref b) ∧ IsTup s.heap b #[u, q.2] ∧ keyIs q.1 u = true)
    (h : ∀ h' tk, h'.DictOf (mixKind prog w) s.heap.objs.size (merged [] prs) → (∀ b o, s.heap.get? b = some o → h'.get? b = some o) → Q (.ref s.heap.objs.size) { s with heap := h', toks := tk }) :
    wpAny (model prog w) A (call (.type "dict") [.ref l]) Q E s := by
  refine callType_codes (Q₁ := fun obj s₁ => obj = .ref s.heap.objs.size ∧ s₁ = { s with heap := s.heap.push { cls := .type "dict", data := .dict #[] } }) PySem.F.kt_called_dict (PySem.F.kt_typeCall_dict_1 _) PySem.F.entry_dict_init (kt_code_dict_new _ ⟨rfl, rfl⟩) ?_
  rintro obj s₁ ⟨rfl, rfl⟩
  have hnew : (s.heap.push { cls := .type "dict", data := .dict #[] }).DictOf (mixKind prog w) s.heap.objs.size [] := Heap.DictOf.new s.heap
  have k0 : ∀ b o, s.heap.get? b = some o → (s.heap.push { cls := .type "dict", data := .dict #[] }).get? b = some o := fun b o e => Heap.get?_push_of_some _ e
  refine ⟨hnew.typeIs, PySem.F.args_dict_init_2 _ _, ?_⟩
  unfold Builtin.«dict.__init__»
  refine wpAny_bind ?_
  unfold Builtin.Dict.selfAndRest
  refine wpAny_bind (wpAny_notOrdered_dict hnew.typeIs ?_)
  show wpAny _ _ (pure (s.heap.objs.size, [Value.ref l])) _ _ _
  refine wpAny_pure ?_
  show wpAny _ _ (Builtin.Dict.updateFrom "dict.__init__" s.heap.objs.size (.ref l) [] .none) _ _ _
  unfold Builtin.Dict.updateFrom
  refine wpAny_bind (wpAny_typeOf (T := "tuple") ⟨ol, k0 _ _ hl, hc⟩ ?_)
  rw [if_pos (by first | decide | rfl | simp)]
  refine wpAny_bind (miss_tuple (k0 _ _ hl) hc hdat hd hh fun h1 tk1 hk1 => ?_)
  rw [if_pos (show (none : Option Value).isNone = true from rfl)]
  refine wpAny_bind (wpAny_rule ?_)
  have hl1 : h1.IsTuple l items := ⟨ol, hk1 _ _ (k0 _ _ hl), hc, n, hdat⟩
  have hS1 : s.heap.objs.size < h1.objs.size := by
    have e : (s.heap.push { cls := .type "dict", data := .dict #[] }).get? s.heap.objs.size = some { cls := .type "dict", data := .dict #[] } := Heap.get?_push_size _ rfl
    exact Heap.lt_size (hk1 _ _ e)
  refine wpAny_bind (wpAny_pyIter_tuple hl1 ?_)
  have k2 : ∀ b o, h1.get? b = some o → (h1.push { cls := .type "tuple_iterator", data := .fields #[.ref l, .int 0 0] }).get? b = some o := fun b o e => Heap.get?_push_of_some _ e
  have hlt : l < s.heap.objs.size := Heap.lt_size hl
  have hlI : l ≠ h1.objs.size := Nat.ne_of_lt (Nat.lt_trans hlt hS1)
  have key := updK_loop (prog := prog) (w := w) (A := A.in1) (R := wants (fun r s₂ => r = .none ∧ Q (.ref s.heap.objs.size) s₂) E) (S := s.heap.objs.size) (I := h1.objs.size) (items := items.toList) (res := Value.none) (n := items.size) (fp := [h1.objs.size, l]) (St := fun i h => h.IsTupleIter h1.objs.size l i ∧ h.IsTuple l items)
    (by
      have W := Walks.tuple (prog := prog) (w := w) (A := A.in1.in1) hh h1.objs.size l hlI items
      simp only [Array.getElem?_toList]
      exact W) (by
      simp only [List.mem_cons, List.not_mem_nil, or_false, not_or]
      exact ⟨Nat.ne_of_lt hS1, Nat.ne_of_gt hlt⟩) (Nat.ne_of_lt hS1) prs 0 [] 0 0
    { s with heap := h1.push { cls := .type "tuple_iterator", data := .fields #[.ref l, .int 0 0] }, toks := tk1 } (by rw [hsz, Nat.zero_add]) (by rw [List.length_nil, Nat.zero_add]; exact hln)
    (fun j q e => by
      obtain ⟨b, u, e1, e2, e3⟩ := ht j q e
      have hb : b < s.heap.objs.size := e2.lt
      exact ⟨b, u, by rw [Nat.zero_add, Array.getElem?_toList]; exact e1, Nat.ne_of_lt hb, Nat.ne_of_lt (Nat.lt_trans hb hS1), e2.keeps fun c o z => k2 _ _ (hk1 _ _ (k0 _ _ z)), e3⟩)
    ⟨⟨_, Heap.get?_push_size _ rfl, rfl, rfl⟩, hl1.at fun o e => k2 _ _ e⟩ ((hnew.at fun o e => hk1 _ _ e).at fun o e => k2 _ _ e)
    (fun h' tk hd' k => ⟨rfl, h h' tk hd' fun b o e => k b o (Nat.ne_of_lt (Heap.lt_size e)) (Nat.ne_of_lt (Nat.lt_trans (Heap.lt_size e) hS1)) (k2 _ _ (hk1 _ _ (k0 _ _ e)))⟩)
  exact wpAny_pure ⟨plainId_quiet ud_plain _, key⟩
end
def rDictF (K : PySem.W.Frag) : List V → Hp → VK → Prop := fun xs H Q => ∃ (a : Addr) (o : Obj) (ps : List Addr) (kvs : List (Key × V)), xs = [.ref a] ∧ H a = some (.frz o (.tup (ps.map V.ref))) ∧ o.cls = .type "tuple" ∧ o.dict = none ∧
  Paired (fun p kv => SqT K H p [kV kv.1, kv.2]) ps kvs ∧ ∀ p, H p = none → Q (.ref p) (upd H p (.dK (mergeK [] kvs)))
theorem call_dictF {X : Cx} (hcalm : X.calm = true) : CallR X (.type "dict") (rDictF X.K) := by
  intro pins s σ H xs us Q I r q
  obtain ⟨a, o, ps, kvs, rfl, hq, hc, hd, hp, q⟩ := q
  rw [Vals.ref1 r]
  obtain ⟨ho, hz, its, rv, o2, ho2, _, n, hdat⟩ := (show ObjOk X.prog X.w H s.heap a (.frz o (.tup (ps.map V.ref))) from I.hok _ _ hq)
  obtain rfl : o = o2 := Option.some.inj (ho.symm.trans ho2)
  have ei := refs_at rv
  subst ei
  rw [List.length_map] at hz
  obtain ⟨prs, rel, hl, hpr⟩ := pairs_of I hp
  refine call_dict_tup (prs := prs) (I.ok.hd hcalm) ho hc hd hdat (by simp [hl]) (by rw [hl]; exact hz) (fun j q' e => ?_) fun h' tk hd' k => ?_
  · obtain ⟨b, u, e1, e2, e3⟩ := hpr j q' e
    exact ⟨b, u, by simp [e1], e2, e3⟩
  · have hm : (s.heap.objs.size == sysModules) = false := beq_eq_false_iff_ne.mpr (Nat.ne_of_gt I.big)
    have hlen : (mergeK [] kvs).length ≤ sizeLine := by
      refine Nat.le_trans (length_mergeK kvs []) ?_
      rw [List.length_nil, Nat.zero_add, rel.length, hl]
      exact hz
    exact ⟨.ref s.heap.objs.size, upd H s.heap.objs.size (.dK (mergeK [] kvs)), I.laid (t' := tk) k (Nat.le_refl _) (show ObjOk X.prog X.w _ _ _ (.dK (mergeK [] kvs)) from ⟨hlen, hm, merged [] prs, KV.merge rel .nil, hd'⟩), rfl, q _ (I.hok.fresh (Nat.le_refl _))⟩
end N0

namespace N0
open PySem L2 PySem.Spec PyProof.Rows
theorem DGet.rk {H : Hp} {a : Addr} {kvs : List (Key × V)} {k : Key} (e : Rd H a (.dK kvs)) : DGet H a (kV k) (valV kvs k) := .inl ⟨kvs, k, e, rfl, rfl⟩
theorem DGet.rt {H : Hp} {a b : Addr} {kvs : List (List Key × V)} {k : List Key} (e : Rd H a (.dT kvs)) (eb : H b = some (.tup (k.map kV))) : DGet H a (.ref b) (valV kvs k) := .inr ⟨kvs, k, b, e, rfl, eb, rfl⟩
def spLack : Sp := fun vs H Q _ => ∃ (d a : Addr) (kvs : List (Key × V)) (tv : V) (t : Tm), vs = [.ref d, .ref a] ∧ Rd H d (.dK kvs) ∧ H a = some (.lst [tv]) ∧ TmV H t tv ∧ t.dep < 40 ∧ Small t ∧ (lets (addP [] t)).length < 64 ∧
  (∀ x ∈ lets (addP [] t), (valV kvs (Sum.inr x)).isSome = true) ∧ ∀ H', Kp [] H H' → Q .non H'
theorem tYes_if {A B : Hp → Prop} {σ : L2.St} {H : Hp} (h : A H) : tYes σ H fun b H' => if b = true then A H' else B H' := iteT (A := A H) (B := B H) h
section
variable {P : Program} {w : World} {K : PySem.W.Frag} {mg : Str → Option Value} {base : Heap} {f C : Addr} {fd : FuncData}
theorem ok_lacking_name (F : Fun K "lacking_name" "lacking_name" s_lacking_name f fd) (T : Txt K mg) (D_letters_in : Def P w K mg base "letters_in" 43 ["term"] (spLI false)) : FnOk P w K mg base CX0 44 f fd ["names", "terms"] spLack := by
  refine F.ok sc_lacking_name (fun vs H Q E h => ?_) (fun cdv A outer s H vs Q E hr h => ?_)
  · obtain ⟨d, a, kvs, tv, t, rfl, _⟩ := h
    rfl
  obtain ⟨d, a, kvs, tv, t, rfl, hd, ha, ht, htd, hts, htl, hin, q⟩ := h
  have nd := sc_lacking_name.nd
  refine ⟨_, (pss_cons (ps_for PassesOwn.never rfl (pi_list (pe_callB cr_sortedS (by rfl) T.sorted bt_sorted (pa_cons (pe_lc2 (own := [("term", 3), ("name", 2)]) (vs1 := [2]) (g := gName 3) (g1 := gName 2) (tt := tYes) (tt1 := tYes) rfl nd (pi_list (pv 1)) (blkOk_by (N := N_lacking_name) (sc := defScope s_lacking_name) (by decide +kernel)) (by decide) (fun _ _ _ _ _ => pg_name (i := 3) nd rfl (Or.inl rfl)) (fun _ _ _ _ _ => pts_nil) (fun _ _ _ _ _ => pi_listk K (pi_list (e_fn D_letters_in (hr.mono (by omega)) (pa_cons (pv 3) pa_nil)))) (fun _ _ _ _ _ => pg_name (i := 2) nd rfl (Or.inl rfl)) (fun _ _ _ _ _ => pts_nil) (fun _ _ _ _ _ => (pv 2))) pa_nil))) (pg_name (i := 2) nd rfl (Or.inl rfl)) (pss_one (ps_if (pt_cmp (pc_dnotin (hu_of hr) (pv 2) (pv 0))) (pss_one (ps_ret (pv 2))) pss_nil)))
      (pss_one (ps_ret pe_non))), ?_⟩
  refine ⟨_, rfl, a, rfl, ⟨_, SqL.of ha⟩, fun D hD => ?_⟩
  have haD : a ≠ D := fun z => by rw [← z, ha] at hD; cases hD
  refine ⟨fun i m H' => Kp [] H H' ∧ m = 1 - i ∧ ∃ xs : List Str, H' D = some (.lst (xs.map V.str)) ∧ ((i = 0 ∧ xs = []) ∨ (i = 1 ∧ xs.Perm (lets (addP [] t)))), ⟨1, Kp.new hD, rfl, [], upd_same, .inl ⟨rfl, rfl⟩⟩, ?_⟩
  rintro i m H1 ⟨k1, rfl, xs, hD1, ⟨rfl, rfl⟩ | ⟨rfl, hp⟩⟩
  · have ha1 := k1.k _ _ (by simp) ha
    refine .inr ⟨⟨_, _, SqL.of ha1, rfl⟩, fun H' => Kp [] H H' ∧ ∃ xs : List Str, H' D = some (.lst (xs.map V.str)) ∧ xs.Perm (lets (addP [] t)), fun H' h => ⟨0, by decide, h.1, rfl, h.2.choose, h.2.choose_spec.1, .inr ⟨rfl, h.2.choose_spec.2⟩⟩, ?_⟩
    rintro x H2 ⟨rfl, hx⟩
    have hx' := hx _ (SqL.of ha1)
    cases hx'
    refine ⟨rfl, tYes_if ?_⟩
    refine ⟨_, rfl, tv, t, rfl, ht.kp k1, htd, hts, htl, fun H3 b ys k2 hb0 hperm hsort => ?_⟩
    have hb : H3 b = some (.lst (ys.map V.str)) := hb0
    have hl64 : ys.length < 64 := by rw [hperm.length_eq]; exact htl
    refine ⟨b, rfl, ⟨_, SqL.of hb⟩, ?_⟩
    refine ⟨fun j k H' => Kp [] H H' ∧ k = ys.length - j ∧ j ≤ ys.length ∧ H' b = some (.lst (ys.map V.str)) ∧ H' D = some (.lst ((ys.take j).map V.str)), ⟨_, k1.trans k2, rfl, Nat.zero_le _, hb, k2.k _ _ (by simp) hD1⟩, ?_⟩
    rintro j k H4 ⟨k4, rfl, hj, hb4, hD4⟩
    by_cases hlt : j < ys.length
    · have hbD : b ≠ D := fun z => by
        rw [← z, hb4] at hD4
        have := congrArg List.length (HO.lst.inj (Option.some.inj hD4))
        rw [List.length_map, List.length_map, List.length_take] at this
        omega
      have hyj : (ys.map V.str)[j]? = some (V.str ys[j]) := by rw [List.getElem?_map, List.getElem?_eq_getElem hlt]; rfl
      refine .inr ⟨⟨_, _, SqL.of hb4, hyj⟩, fun H' => Kp [] H H' ∧ H' b = some (.lst (ys.map V.str)) ∧ H' D = some (.lst ((ys.take (j + 1)).map V.str)), fun H' h => ⟨ys.length - (j + 1), by omega, h.1, rfl, hlt, h.2.1, h.2.2⟩, ?_⟩
      rintro x H5 ⟨rfl, hx⟩
      have hx' := (hx _ (SqL.of hb4)).symm.trans hyj
      cases hx'
      refine ⟨rfl, tYes_if ?_⟩
      refine ⟨_, rfl, _, hD4, ?_, k4.put hD, by rw [upd_ne hbD]; exact hb4, ?_⟩
      · rw [List.length_map, List.length_take]
        exact small_lt (by omega)
      · rw [upd_same, List.take_add_one, List.getElem?_eq_getElem hlt, List.map_append]; rfl
    · refine .inl ⟨⟨_, SqL.of hb4, by rw [List.length_map]; omega⟩, k4, _, hD4, ?_⟩
      rw [List.take_of_length_le (by omega)]
      exact hperm
  · refine .inl ⟨⟨_, SqL.of (k1.k _ _ (by simp) ha), Nat.le_refl _⟩, ?_⟩
    refine ⟨D, xs, rfl, SqL.of hD1, by rw [hp.length_eq]; exact htl, fun ys p hpp hsrt hn => ?_⟩
    have k2 : Kp [] H (upd H1 p (.lst (ys.map V.str))) := k1.add hn
    have hp2 : upd H1 p (.lst (ys.map V.str)) p = some (.lst (ys.map V.str)) := upd_same
    generalize upd H1 p (.lst (ys.map V.str)) = H2 at k2 hp2 ⊢
    refine ⟨p, rfl, ⟨_, SqL.of hp2⟩, ?_⟩
    refine for_it (n := (ys.map V.str).length) walk_list (fun i σ H' => ∃ o2 o3 : Option V, σ = [some (.ref d), some (.ref a), o2, o3] ∧ H' = H2) ⟨none, none, rfl, rfl⟩ (fun i σ H' _ ⟨_, _, _, e⟩ => by rw [e]; exact SqL.of hp2) ?_ ?_
    · rintro i y σ _ H3 hi ⟨o2, o3, rfl, rfl⟩ ⟨rfl, hy⟩
      rw [List.getElem?_map] at hy
      obtain ⟨x, hx, rfl⟩ := Option.map_eq_some_iff.mp hy
      have hxm := hin x (hp.mem_iff.mp (hpp.mem_iff.mp (List.mem_of_getElem? hx)))
      refine ⟨_, rfl, _, rfl, d, _, rfl, DGet.rk (k := Sum.inr x) (hd.kp k2), ?_⟩
      rw [hxm]
      exact ⟨_, rfl, iteF ⟨_, _, rfl, rfl⟩⟩
    · rintro σ H3 ⟨o2, o3, rfl, rfl⟩
      exact q _ k2
end
end N0

namespace N0
open PySem L2 PySem.Spec PyProof.Rows
abbrev s_meaning_by : Stmt := top 59
abbrev N_meaning_by : List Str := ["frame", "values", "term", "made", "sides", "number", "bits", "name"]
theorem sc_meaning_by : FnScope N_meaning_by ["frame", "values", "term"] (defScope s_meaning_by) := ⟨rfl, rfl, rfl, by decide +kernel, rfl, by decide +kernel, by decide +kernel⟩
abbrev s_meaning_of : Stmt := top 60
abbrev N_meaning_of : List Str := ["frame", "reading", "term", "values"]
theorem sc_meaning_of : FnScope N_meaning_of ["frame", "reading", "term"] (defScope s_meaning_of) := ⟨rfl, rfl, rfl, by decide +kernel, rfl, by decide +kernel, by decide +kernel⟩
abbrev s_law_mixed : Stmt := top 62
abbrev N_law_mixed : List Str := ["cell", "n", "blend"]
theorem sc_law_mixed : FnScope N_law_mixed ["cell", "n"] (defScope s_law_mixed) := ⟨rfl, rfl, rfl, by decide +kernel, rfl, by decide +kernel, by decide +kernel⟩
abbrev s_law_folded : Stmt := top 63
abbrev N_law_folded : List Str := ["script", "found", "n", "cell"]
theorem sc_law_folded : FnScope N_law_folded ["script"] (defScope s_law_folded) := ⟨rfl, rfl, rfl, by decide +kernel, rfl, by decide +kernel, by decide +kernel⟩
abbrev s_law_draw : Stmt := top 64
abbrev N_law_draw : List Str := ["m", "limit", "n", "lot", "here", "cell"]
theorem sc_law_draw : FnScope N_law_draw ["m", "limit"] (defScope s_law_draw) := ⟨rfl, rfl, rfl, by decide +kernel, rfl, by decide +kernel, by decide +kernel⟩
abbrev s_law_begun : Stmt := top 65
abbrev N_law_begun : List Str := ["script", "m", "cell"]
theorem sc_law_begun : FnScope N_law_begun ["script"] (defScope s_law_begun) := ⟨rfl, rfl, rfl, by decide +kernel, rfl, by decide +kernel, by decide +kernel⟩
abbrev s_law_same : Stmt := top 66
abbrev N_law_same : List Str := ["told", "due", "one", "far"]
theorem sc_law_same : FnScope N_law_same ["told", "due"] (defScope s_law_same) := ⟨rfl, rfl, rfl, by decide +kernel, rfl, by decide +kernel, by decide +kernel⟩
abbrev s_law_frame : Stmt := top 67
abbrev N_law_frame : List Str := ["m", "most", "many", "kind", "found", "one", "far", "pick", "pair"]
theorem sc_law_frame : FnScope N_law_frame ["m", "most"] (defScope s_law_frame) := ⟨rfl, rfl, rfl, by decide +kernel, rfl, by decide +kernel, by decide +kernel⟩
abbrev s_law_contrary : Stmt := top 68
abbrev N_law_contrary : List Str := ["frame", "value", "pairs", "pair", "point", "one"]
theorem sc_law_contrary : FnScope N_law_contrary ["frame", "value"] (defScope s_law_contrary) := ⟨rfl, rfl, rfl, by decide +kernel, rfl, by decide +kernel, by decide +kernel⟩
abbrev s_law_closure : Stmt := top 69
abbrev N_law_closure : List Str := ["frame", "value"]
theorem sc_law_closure : FnScope N_law_closure ["frame", "value"] (defScope s_law_closure) := ⟨rfl, rfl, rfl, by decide +kernel, rfl, by decide +kernel, by decide +kernel⟩
abbrev s_law_closed : Stmt := top 70
abbrev N_law_closed : List Str := ["frame", "rows", "found", "line", "spot", "row", "less", "point"]
theorem sc_law_closed : FnScope N_law_closed ["frame"] (defScope s_law_closed) := ⟨rfl, rfl, rfl, by decide +kernel, rfl, by decide +kernel, by decide +kernel⟩
abbrev s_law_value : Stmt := top 71
abbrev N_law_value : List Str := ["m", "many", "dense", "point"]
theorem sc_law_value : FnScope N_law_value ["m", "many"] (defScope s_law_value) := ⟨rfl, rfl, rfl, by decide +kernel, rfl, by decide +kernel, by decide +kernel⟩
abbrev s_law_values_right : Stmt := top 72
abbrev N_law_values_right : List Str := ["m", "frame", "one", "other", "both", "near", "far", "told", "point", "late", "common", "spot"]
theorem sc_law_values_right : FnScope N_law_values_right ["m", "frame"] (defScope s_law_values_right) := ⟨rfl, rfl, rfl, by decide +kernel, rfl, by decide +kernel, by decide +kernel⟩
abbrev s_law_all_right : Stmt := top 73
abbrev N_law_all_right : List Str := ["frame", "closed", "found", "values", "point", "value", "least", "one"]
theorem sc_law_all_right : FnScope N_law_all_right ["frame"] (defScope s_law_all_right) := ⟨rfl, rfl, rfl, by decide +kernel, rfl, by decide +kernel, by decide +kernel⟩
abbrev s_law_meant_right : Stmt := top 74
abbrev N_law_meant_right : List Str := ["m", "frame", "one", "other", "reading", "a", "b", "told", "due", "point"]
theorem sc_law_meant_right : FnScope N_law_meant_right ["m", "frame"] (defScope s_law_meant_right) := ⟨rfl, rfl, rfl, by decide +kernel, rfl, by decide +kernel, by decide +kernel⟩
abbrev s_law_great : Stmt := top 75
abbrev N_law_great : List Str := ["m", "many", "step", "rest", "pairs", "one", "far"]
theorem sc_law_great : FnScope N_law_great ["m"] (defScope s_law_great) := ⟨rfl, rfl, rfl, by decide +kernel, rfl, by decide +kernel, by decide +kernel⟩
abbrev s_law : Stmt := top 76
abbrev N_law : List Str := ["script", "m", "turn", "frame", "lap", "point", "pairs", "near", "told", "pair", "far"]
theorem sc_law : FnScope N_law ["script"] (defScope s_law) := ⟨rfl, rfl, rfl, by decide +kernel, rfl, by decide +kernel, by decide +kernel⟩
end N0

namespace N0
open PySem L2 PySem.Spec PyProof.Rows
theorem bt_dict : bootBuiltins "dict" = some (.type "dict") := by decide +kernel
theorem bt_set : bootBuiltins "set" = some (.type "set") := by decide +kernel
/-! ### meanings -/
def mn (n : Nat) (ps : List (Nat × Nat)) (ρ : Str → List Nat) : Tm → List Nat
  | .yes => List.range n
  | .no => []
  | .letter s => ρ s
  | .not t => con n ps (mn n ps ρ t)
  | .and a b => (mn n ps ρ a).filter fun x => decide (x ∈ mn n ps ρ b)
  | .or a b => clo n ps (mn n ps ρ a ++ mn n ps ρ b)
theorem range_ok (n : Nat) : VOk n (List.range n) := ⟨List.pairwise_lt_range, fun x hx => List.mem_range.mp hx⟩
theorem mn_ok {n : Nat} {ps : List (Nat × Nat)} {ρ : Str → List Nat} : ∀ {t : Tm}, (∀ s ∈ lets t.subs, VOk n (ρ s)) → VOk n (mn n ps ρ t)
  | .yes, _ => range_ok n
  | .no, _ => ⟨List.Pairwise.nil, fun x hx => by cases hx⟩
  | .letter s, h => h s (by simp [Tm.subs, lets, Tm.nm])
  | .not t, _ => con_ok
  | .and a b, h => by
    have ha := mn_ok (t := a) (ps := ps) (ρ := ρ) fun s hs => h s (by
      obtain ⟨u, hu, e⟩ := List.mem_filterMap.mp hs
      exact List.mem_filterMap.mpr ⟨u, by simp [Tm.subs, hu], e⟩)
    exact ⟨ha.1.filter _, fun x hx => ha.2 x (List.mem_filter.mp hx).1⟩
  | .or a b, _ => con_ok
theorem subs_in {ts : List Tm} (hcl : Cl ts) : ∀ {t : Tm}, t ∈ ts → ∀ u ∈ t.subs, u ∈ ts
  | .yes, h, u, hu => by simp [Tm.subs] at hu; rw [hu]; exact h
  | .no, h, u, hu => by simp [Tm.subs] at hu; rw [hu]; exact h
  | .letter s, h, u, hu => by simp [Tm.subs] at hu; rw [hu]; exact h
  | .not a, h, u, hu => by
    have ha := hcl.mem h a (by simp [Tm.kids])
    simp only [Tm.subs, List.mem_append, List.mem_cons, List.mem_singleton, List.not_mem_nil, or_false] at hu
    rcases hu with hu | hu
    · first | exact subs_in hcl ha u hu | (rw [hu]; exact h)
    · first | exact subs_in hcl ha u hu | (rw [hu]; exact h)
  | .and a b, h, u, hu => by
    have ha := hcl.mem h a (by simp [Tm.kids])
    have hb := hcl.mem h b (by simp [Tm.kids])
    simp only [Tm.subs, List.mem_append, List.mem_cons, List.mem_singleton, List.not_mem_nil, or_false] at hu
    rcases hu with (hu | hu) | hu
    all_goals first | exact subs_in hcl ha u hu | exact subs_in hcl hb u hu | (rw [hu]; exact h)
  | .or a b, h, u, hu => by
    have ha := hcl.mem h a (by simp [Tm.kids])
    have hb := hcl.mem h b (by simp [Tm.kids])
    simp only [Tm.subs, List.mem_append, List.mem_cons, List.mem_singleton, List.not_mem_nil, or_false] at hu
    rcases hu with (hu | hu) | hu
    all_goals first | exact subs_in hcl ha u hu | exact subs_in hcl hb u hu | (rw [hu]; exact h)
def spNL : Sp := fun vs H Q _ => ∃ (d a : Addr) (kvs : List (Key × V)) (tv : V) (t : Tm), vs = [.ref d, .ref a] ∧ Rd H d (.dK kvs) ∧ H a = some (.lst [tv]) ∧ TmV H t tv ∧ t.dep < 40 ∧ Small t ∧ (lets (addP [] t)).length < 64 ∧
  (∀ x ∈ lets (addP [] t), (valV kvs (Sum.inr x)).isSome = true) ∧ ∀ H', Kp [] H H' → Q .non H'
def spLB (C : Addr) : Sp := fun vs H Q _ => ∃ (p pl d l : Addr) (n : Nat) (ps : List (Nat × Nat)) (kvs : List (Key × V)) (ρ : Str → List Nat) (ts : List Tm) (lv : List V), vs = [.ref p, .ref d, .ref l] ∧ SdAt C H p pl n ps ∧ FrOk n ps ∧ H d = some (.dK kvs) ∧
  (∀ s ∈ lets ts, valV kvs (Sum.inr s) = some (.int (bt (ρ s) : Nat)) ∧ VOk n (ρ s)) ∧ H l = some (.lst lv) ∧ LinesV H ts lv ∧ Cl ts ∧ ts.Nodup ∧ ts.length ≤ 1000 ∧
  ∀ H' a, Kp [] H H' → H' a = some (.lst (ts.map fun t => .int (bt (mn n ps ρ t) : Nat))) → Q (.ref a) H'
section
variable {P : Program} {w : World} {K : PySem.W.Frag} {mg : Str → Option Value} {base : Heap} {f C : Addr} {fd : FuncData}
theorem ok_need_letters (F : Fun K "need_letters" "need_letters" s_need_letters f fd) (T : Txt K mg) (D_lacking_name : Def P w K mg base "lacking_name" 44 ["names", "terms"] spLack) : FnOk P w K mg base CX0 45 f fd ["names", "terms"] spNL := by
  refine F.ok sc_need_letters (fun vs H Q E h => ?_) (fun cdv A outer s H vs Q E hr h => ?_)
  · obtain ⟨d, a, kvs, tv, t, rfl, _⟩ := h
    rfl
  obtain ⟨d, a, kvs, tv, t, rfl, h1, h2, h3, h4, h5, h6, h7, q⟩ := h
  have nd := sc_need_letters.nd
  refine ⟨_, (pss_cons (ps_set (i := 2) nd rfl (Or.inl rfl) (e_fn D_lacking_name (hr.mono (by omega)) (pa_cons (pv 0) (pa_cons (pv 1) pa_nil))))
      (pss_one (ps_if (pt_cmpR op_notN (pv 2) pe_non (nomark _)) pss_never pss_nil))), ?_⟩
  exact ⟨_, rfl, _, rfl, d, a, kvs, tv, t, rfl, h1, h2, h3, h4, h5, h6, h7, fun H1 k1 => ⟨_, rfl, rfl, _, rfl, iteF (q _ k1)⟩⟩
theorem ok_line_bits (F : Fun K "line_bits" "line_bits" s_line_bits f fd) (T : Txt K mg) (SC : SCc K mg C) (D_contrary : MDef P w K mg base C "contrary" 1 ["self", "bits"] (spCon C)) (D_closure : MDef P w K mg base C "closure" 2 ["self", "bits"] (spClo C)) :
    FnOk P w K mg base CX0 3 f fd ["sides", "values", "lines"] (spLB C) := by
  refine F.ok sc_line_bits (fun vs H Q E h => ?_) (fun cdv A outer s H vs Q E hr h => ?_)
  · obtain ⟨p, pl, d, l, n, ps, kvs, ρ, ts, lv, rfl, _⟩ := h
    rfl
  obtain ⟨p, pl, d, l, n, ps, kvs, ρ, ts, lv, rfl, hS, hok, hd, hρ, hl, hL, hcl, hnd, hlen, q⟩ := h
  have nd := sc_line_bits.nd
  refine ⟨_, (pss_cons (ps_set (i := 3) nd rfl (Or.inl rfl) (pe_lst pa_nil))
      (pss_cons (ps_for PassesOwn.never rfl (pi_list (pv 2)) (pg_name (i := 4) nd rfl (Or.inl rfl)) (pss_one (ps_if (pt_cmpR op_in_seq (pe_ix ix_tup (pv 4) pe_int (fun _ _ => rfl)) (pe_tup (pa_cons pe_str (pa_cons pe_str pa_nil))) rfl) (pss_one (ps_expr (pe_bm PySem.F.plainAttrs_list PySem.F.slot_list_append PySem.F.type_list_append mt_append (pv 3) (pa_cons (pe_ifExp (pt_cmpR op_eq (pe_ix ix_tup (pv 4) pe_int (fun _ _ => rfl)) pe_str (nomark _)) (pe_fld (pv 0) rfl) pe_int) pa_nil)))) (pss_one (ps_if (pt_cmpR op_eq (pe_ix ix_tup (pv 4) pe_int (fun _ _ => rfl)) pe_str (nomark _)) (pss_one (ps_expr (pe_bm PySem.F.plainAttrs_list PySem.F.slot_list_append PySem.F.type_list_append mt_append (pv 3) (pa_cons (pe_dget (hu_of hr) (pv 1) (pe_ix ix_tup (pv 4) pe_int (fun _ _ => rfl)) (fun _ _ => rfl)) pa_nil)))) (pss_one (ps_if (pt_cmpR op_eq (pe_ix ix_tup (pv 4) pe_int (fun _ _ => rfl)) pe_str (nomark _)) (pss_one (ps_expr (pe_bm PySem.F.plainAttrs_list PySem.F.slot_list_append PySem.F.type_list_append mt_append (pv 3) (pa_cons (e_meth SC.cl D_contrary (hr.mono (by omega)) (pv 0) (pa_cons (pe_ix ix_list (pv 3) (pe_ix ix_tup (pv 4) pe_int (fun _ _ => rfl)) (fun _ _ => rfl)) pa_nil)) pa_nil)))) (pss_one (ps_if (pt_cmpR op_eq (pe_ix ix_tup (pv 4) pe_int (fun _ _ => rfl)) pe_str (nomark _)) (pss_one (ps_expr (pe_bm PySem.F.plainAttrs_list PySem.F.slot_list_append PySem.F.type_list_append mt_append (pv 3) (pa_cons (pe_op op_and (pe_ix ix_list (pv 3) (pe_ix ix_tup (pv 4) pe_int (fun _ _ => rfl)) (fun _ _ => rfl)) (pe_ix ix_list (pv 3) (pe_ix ix_tup (pv 4) pe_int (fun _ _ => rfl)) (fun _ _ => rfl))) pa_nil)))) (pss_one (ps_expr (pe_bm PySem.F.plainAttrs_list PySem.F.slot_list_append PySem.F.type_list_append mt_append (pv 3) (pa_cons (e_meth SC.cl D_closure (hr.mono (by omega)) (pv 0) (pa_cons (pe_op op_or (pe_ix ix_list (pv 3) (pe_ix ix_tup (pv 4) pe_int (fun _ _ => rfl)) (fun _ _ => rfl)) (pe_ix ix_list (pv 3) (pe_ix ix_tup (pv 4) pe_int (fun _ _ => rfl)) (fun _ _ => rfl))) pa_nil)) pa_nil)))))))))))))
      (pss_one (ps_ret (pv 3))))), ?_⟩
  refine ⟨Nat.zero_le _, fun F0 hF => ?_⟩
  have kF : Kp [] H (upd H F0 (.lst [])) := Kp.new hF
  refine ⟨_, rfl, l, rfl, ⟨lv, SqL.of (kF.k _ _ (by simp) hl)⟩, ?_⟩
  refine for_it (n := lv.length) walk_list (fun i σ H' => ∃ (o4 : Option V), σ = [some (.ref p), some (.ref d), some (.ref l), some (.ref F0), o4] ∧ Kp [] H H' ∧ H' F0 = some (.lst ((ts.take i).map fun t => V.int (bt (mn n ps ρ t) : Nat))))
    ⟨none, rfl, kF, upd_same⟩ (fun i σ H' _ ⟨_, _, k, _⟩ => SqL.of (k.k _ _ (by simp) hl)) ?_ ?_
  · rintro i y σ _ H1 hi ⟨o4, rfl, k1, hF1⟩ ⟨rfl, hyi⟩
    have hi2 : i < ts.length := by rw [← hL.1]; exact hi
    obtain ⟨a, ha, haT⟩ := (hL.kp k1).2 i ts[i] (List.getElem?_eq_getElem hi2)
    rw [ha] at hyi; cases hyi
    generalize hte : ts[i] = t at ha haT
    have hti : ts[i]? = some t := by rw [List.getElem?_eq_getElem hi2, hte]
    have htm : t ∈ ts := List.mem_of_getElem? hti
    have etk : ts.take (i + 1) = ts.take i ++ [t] := by rw [List.take_add_one, hti]; rfl
    have hal : ((ts.take i).map fun t => V.int (bt (mn n ps ρ t) : Nat)).length < sizeLine := by
      rw [List.length_map, List.length_take]; exact small_lt (by omega)
    have fin : ∀ H3, Kp [] H H3 → ∃ o4, ([some (.ref p), some (.ref d), some (.ref l), some (.ref F0), some (.ref a)] : L2.St) = [some (.ref p), some (.ref d), some (.ref l), some (.ref F0), o4] ∧
        Kp [] H (upd H3 F0 (.lst (((ts.take i).map fun t => V.int (bt (mn n ps ρ t) : Nat)) ++ [.int (bt (mn n ps ρ t) : Nat)]))) ∧ upd H3 F0 (.lst (((ts.take i).map fun t => V.int (bt (mn n ps ρ t) : Nat)) ++ [.int (bt (mn n ps ρ t) : Nat)])) F0 = some (.lst ((ts.take (i + 1)).map fun t => V.int (bt (mn n ps ρ t) : Nat))) := fun H3 k3 =>
      ⟨_, rfl, k3.put hF, by rw [upd_same, etk, List.map_append]; rfl⟩
    have kidOk : ∀ k ∈ t.kids, VOk n (mn n ps ρ k) ∧ ((ts.take i).map fun t => V.int (bt (mn n ps ρ t) : Nat))[ix ts k]? = some (.int (bt (mn n ps ρ k) : Nat)) := by
      intro k hk
      obtain ⟨j, hj, hjt⟩ := hcl i t hti k hk
      have hkm : k ∈ ts := List.mem_of_getElem? hjt
      refine ⟨mn_ok fun s hs => (hρ s ?_).2, ?_⟩
      · obtain ⟨u, hu, e⟩ := List.mem_filterMap.mp hs
        exact List.mem_filterMap.mpr ⟨u, subs_in hcl hkm u hu, e⟩
      · rw [ix_of hnd hjt, List.getElem?_map, List.getElem?_take_of_lt hj, hjt]; rfl
    refine ⟨_, rfl, a, _, 0, _, rfl, rfl, tupT haT, (show atI ((lineK ts t).map kV) 0 = some (.str t.wd) by cases t <;> exact atI_nat (j := 0) rfl), small_le (by simp), fun p2 hp2 => ⟨p2, _, rfl, .inr (tupT upd_same), rfl, rfl, _, rfl, ?_⟩⟩
    have kp2 : Kp [] H1 (upd H1 p2 (.tup [.str "yes", .str "no"])) := Kp.new hp2
    generalize upd H1 p2 (.tup [.str "yes", .str "no"]) = H2 at kp2 ⊢
    have k2 := k1.trans kp2
    have haT2 := kp2.t _ _ haT
    have hF2 := kp2.k _ _ (by simp) hF1
    obtain ⟨⟨dx, hpi⟩, hm⟩ := id hS
    have hp2 := k2.k _ _ (by simp) hpi
    have hbr : ∀ v : List Nat, Msk (bt v) v := bt_msk
    cases t with
    | yes =>
      refine iteT' (by decide +kernel) ?_
      refine ⟨_, rfl, .inl ⟨rfl, _, SqL.of hF2⟩, ?_⟩
      refine ⟨_, rfl, a, _, 0, _, rfl, rfl, tupT haT2, atI_nat (j := 0) rfl, rfl, _, rfl, iteT' (by decide +kernel) ?_⟩
      refine ⟨_, rfl, p, C, dx, _, _, rfl, hp2, SC.cl, SC.ne, sdf_e n pl, F0, _, _, rfl, rfl, hF2, hal, ?_⟩
      have := fin H2 k2
      rw [show bt (mn n ps ρ .yes) = 2 ^ n - 1 from (bt_of (Msk.every n)).symm] at this
      exact this
    | no =>
      refine iteT' (by decide +kernel) ?_
      refine ⟨_, rfl, .inl ⟨rfl, _, SqL.of hF2⟩, ?_⟩
      refine ⟨_, rfl, a, _, 0, _, rfl, rfl, tupT haT2, atI_nat (j := 0) rfl, rfl, _, rfl, iteF' (by decide +kernel) ?_⟩
      exact ⟨F0, _, _, rfl, rfl, hF2, hal, fin H2 k2⟩
    | letter z =>
      refine iteF' (by simp only [Tm.wd, kV]; decide +kernel) ?_
      refine ⟨_, rfl, a, _, 0, _, rfl, rfl, tupT haT2, atI_nat (j := 0) rfl, rfl, _, rfl, iteT' (decide_eq_true (by simp only [Tm.wd, kV])) ?_⟩
      refine ⟨_, rfl, .inl ⟨rfl, _, SqL.of hF2⟩, ?_⟩
      have hz := (hρ z (List.mem_filterMap.mpr ⟨_, htm, rfl⟩)).1
      refine ⟨_, rfl, _, rfl, a, _, 1, _, rfl, rfl, tupT haT2, atI_nat (j := 1) rfl, d, .int (bt (ρ z) : Nat), rfl, ?_, F0, _, _, rfl, rfl, hF2, hal, fin H2 k2⟩
      have := DGet.k (k := Sum.inr z) (k2.k _ _ (by simp) hd)
      rw [hz] at this
      exact this
    | not u =>
      obtain ⟨hu, hux⟩ := kidOk u (by simp [Tm.kids])
      refine iteF' (by simp only [Tm.wd, kV]; decide +kernel) ?_
      refine ⟨_, rfl, a, _, 0, _, rfl, rfl, tupT haT2, atI_nat (j := 0) rfl, rfl, _, rfl, iteF' (decide_eq_false (by simp only [Tm.wd, kV]; decide +kernel)) ?_⟩
      refine ⟨_, rfl, a, _, 0, _, rfl, rfl, tupT haT2, atI_nat (j := 0) rfl, rfl, _, rfl, iteT' (decide_eq_true (by simp only [Tm.wd, kV])) ?_⟩
      refine ⟨_, rfl, .inl ⟨rfl, _, SqL.of hF2⟩, ?_⟩
      refine ⟨_, rfl, p, dx, _, rfl, hp2, sdf_co n pl, _, rfl, _, rfl, a, _, 1, _, rfl, rfl, tupT haT2, atI_nat (j := 1) rfl, F0, _, _, _, rfl, rfl, SqL.of hF2, atI_nat hux, ?_⟩
      refine ⟨p, pl, n, ps, _, _, rfl, hS.kp k2 (by simp), hok, hbr _, hu.2, fun H3 c k3 hc => ?_⟩
      rw [bt_of hc]
      exact ⟨F0, _, _, rfl, rfl, k3.k _ _ (by simp) hF2, hal, fin H3 (k2.trans k3)⟩
    | and u v =>
      obtain ⟨hu, hux⟩ := kidOk u (by simp [Tm.kids])
      obtain ⟨hv, hvx⟩ := kidOk v (by simp [Tm.kids])
      refine iteF' (by simp only [Tm.wd, kV]; decide +kernel) ?_
      refine ⟨_, rfl, a, _, 0, _, rfl, rfl, tupT haT2, atI_nat (j := 0) rfl, rfl, _, rfl, iteF' (decide_eq_false (by simp only [Tm.wd, kV]; decide +kernel)) ?_⟩
      refine ⟨_, rfl, a, _, 0, _, rfl, rfl, tupT haT2, atI_nat (j := 0) rfl, rfl, _, rfl, iteF' (decide_eq_false (by simp only [Tm.wd, kV]; decide +kernel)) ?_⟩
      refine ⟨_, rfl, a, _, 0, _, rfl, rfl, tupT haT2, atI_nat (j := 0) rfl, rfl, _, rfl, iteT' (decide_eq_true (by simp only [Tm.wd, kV])) ?_⟩
      refine ⟨_, rfl, .inl ⟨rfl, _, SqL.of hF2⟩, ?_⟩
      refine ⟨_, rfl, _, rfl, a, _, 1, _, rfl, rfl, tupT haT2, atI_nat (j := 1) rfl, F0, _, _, _, rfl, rfl, SqL.of hF2, atI_nat hux, ?_⟩
      refine ⟨_, rfl, _, rfl, a, _, 2, _, rfl, rfl, tupT haT2, atI_nat (j := 2) rfl, F0, _, _, _, rfl, rfl, SqL.of hF2, atI_nat hvx, _, _, rfl, rfl, ?_⟩
      dsimp only
      rw [and_nat, bt_and]
      exact ⟨F0, _, _, rfl, rfl, hF2, hal, fin H2 k2⟩
    | or u v =>
      obtain ⟨hu, hux⟩ := kidOk u (by simp [Tm.kids])
      obtain ⟨hv, hvx⟩ := kidOk v (by simp [Tm.kids])
      refine iteF' (by simp only [Tm.wd, kV]; decide +kernel) ?_
      refine ⟨_, rfl, a, _, 0, _, rfl, rfl, tupT haT2, atI_nat (j := 0) rfl, rfl, _, rfl, iteF' (decide_eq_false (by simp only [Tm.wd, kV]; decide +kernel)) ?_⟩
      refine ⟨_, rfl, a, _, 0, _, rfl, rfl, tupT haT2, atI_nat (j := 0) rfl, rfl, _, rfl, iteF' (decide_eq_false (by simp only [Tm.wd, kV]; decide +kernel)) ?_⟩
      refine ⟨_, rfl, a, _, 0, _, rfl, rfl, tupT haT2, atI_nat (j := 0) rfl, rfl, _, rfl, iteF' (decide_eq_false (by simp only [Tm.wd, kV]; decide +kernel)) ?_⟩
      refine ⟨_, rfl, .inl ⟨rfl, _, SqL.of hF2⟩, ?_⟩
      refine ⟨_, rfl, p, dx, _, rfl, hp2, sdf_cl n pl, ?_⟩
      refine ⟨_, rfl, _, rfl, a, _, 1, _, rfl, rfl, tupT haT2, atI_nat (j := 1) rfl, F0, _, _, _, rfl, rfl, SqL.of hF2, atI_nat hux, ?_⟩
      refine ⟨_, rfl, _, rfl, a, _, 2, _, rfl, rfl, tupT haT2, atI_nat (j := 2) rfl, F0, _, _, _, rfl, rfl, SqL.of hF2, atI_nat hvx, _, _, rfl, rfl, ?_⟩
      refine ⟨p, pl, n, ps, _, _, by dsimp only; rw [or_nat]; rfl, hS.kp k2 (by simp), hok, (hbr _).or (hbr _), ?_, fun H3 c k3 hc => ?_⟩
      · intro y hy
        rcases List.mem_append.mp hy with h | h
        · exact hu.2 _ h
        · exact hv.2 _ h
      rw [bt_of hc]
      exact ⟨F0, _, _, rfl, rfl, k3.k _ _ (by simp) hF2, hal, fin H3 (k2.trans k3)⟩
  · rintro σ H1 ⟨o4, rfl, k1, hF1⟩
    rw [List.take_of_length_le (by rw [hL.1]; exact Nat.le_refl _)] at hF1
    exact ⟨_, rfl, q _ F0 k1 hF1⟩
end
end N0

namespace N0
open PySem L2 PySem.Spec PyProof.Rows
/-- a dict comprehension over a walk -/
theorem dc_it {J : It} {n : Nat} {G : Hp → Prop} {Y : Nat → Hp → V → Hp → Prop} (w : Walk J n G Y) {g : TG} {tt : TT} {tk tv : TE} {vs : List Nat} {σ : L2.St} {H1 : Hp} {D : Addr} {Qd : Hp → Prop} (Pv : Nat → Hp → Prop) (h0 : Pv 0 (upd H1 D (.dK []))) (hG : ∀ i H, i ≤ n → Pv i H → G H)
    (hs : ∀ i x H H', i < n → Pv i H → Y i H x H' → g x (wipe σ vs) H' fun σ2 H2 => wipe σ2 vs = wipe σ vs ∧ tt σ2 H2 fun b H3 =>
      if b = true then tk σ2 H3 fun y H4 => tv σ2 H4 fun z H5 => ∃ kvs k, y = kV k ∧ H5 D = some (.dK kvs) ∧ kvs.length < sizeLine ∧ Pv (i + 1) (upd H5 D (.dK (putK kvs k z))) else Pv (i + 1) H3) (hd : ∀ H, Pv n H → Qd H) :
    ∃ W : Nat → Nat → Hp → Prop, (∃ m, W 0 m (upd H1 D (.dK []))) ∧ ∀ i m H, W i m H →
      (J.stop i H ∧ Qd H) ∨ (J.go i H ∧ ∃ Nx : Hp → Prop, (∀ H', Nx H' → ∃ m', m' < m ∧ W (i + 1) m' H') ∧ ∀ x H', J.yld i H x H' → g x (wipe σ vs) H' fun σ2 H2 => wipe σ2 vs = wipe σ vs ∧ tt σ2 H2 fun b H3 =>
        if b = true then tk σ2 H3 fun y H4 => tv σ2 H4 fun z H5 => ∃ kvs k, y = kV k ∧ H5 D = some (.dK kvs) ∧ kvs.length < sizeLine ∧ Nx (upd H5 D (.dK (putK kvs k z))) else Nx H3) := by
  refine ⟨fun i m H => m = n - i ∧ i ≤ n ∧ Pv i H, ⟨n, by simp, Nat.zero_le _, h0⟩, ?_⟩
  rintro i m H ⟨rfl, hi, p⟩
  have q := hG i H hi p
  by_cases hlt : i < n
  · exact .inr ⟨w.goes i H hlt q, Pv (i + 1), fun H' p' => ⟨n - (i + 1), by omega, rfl, hlt, p'⟩, fun x H' y => hs i x H H' hlt p (w.yields i H x H' hlt q y)⟩
  · have e : i = n := by omega
    subst e
    exact .inl ⟨w.stops H q, hd H p⟩
theorem mergeK_nodup {r acc : List (Key × V)} (h : ((acc ++ r).map (·.1)).Nodup) : mergeK acc r = acc ++ r := by
  induction r generalizing acc with
  | nil => rw [List.append_nil]; rfl
  | cons q r ih =>
    have hn : q.1 ∉ acc.map (·.1) := by
      rw [List.map_append, List.nodup_append] at h
      exact fun z => h.2.2 _ z q.1 (by simp) rfl
    show mergeK (putK acc q.1 q.2) r = _
    rw [putK_new hn, ih (by rw [List.append_assoc]; exact h), List.append_assoc]; rfl
def KvsV (H : Hp) (rs : List (Str × List Nat)) (kvs : List (Key × V)) : Prop := kvs.length = rs.length ∧ ∀ (i : Nat) (r : Str × List Nat), rs[i]? = some r → ∃ vv, kvs[i]? = some (Sum.inr r.1, vv) ∧ ValV H r.2 vv
theorem KvsV.kp {H H' : Hp} {rs : List (Str × List Nat)} {kvs : List (Key × V)} (k : Kp [] H H') : KvsV H rs kvs → KvsV H' rs kvs
  | ⟨h1, h2⟩ => ⟨h1, fun i r hr => let ⟨vv, e, hv⟩ := h2 i r hr; ⟨vv, e, hv.kp k⟩⟩
theorem KvsV.keys {H : Hp} {rs : List (Str × List Nat)} {kvs : List (Key × V)} (h : KvsV H rs kvs) : kvs.map (·.1) = rs.map fun r => Sum.inr r.1 := by
  apply List.ext_getElem?
  intro i
  rw [List.getElem?_map, List.getElem?_map]
  cases hr : rs[i]? with
  | none =>
    have := List.getElem?_eq_none_iff.mp hr
    rw [List.getElem?_eq_none (by rw [h.1]; exact this)]; rfl
  | some r =>
    obtain ⟨vv, e, _⟩ := h.2 i r hr
    rw [e]; rfl
theorem inr_nodup {rs : List (Str × List Nat)} (h : (rs.map (·.1)).Nodup) : (rs.map fun r => (Sum.inr r.1 : Key)).Nodup := by
  have e : (rs.map fun r => (Sum.inr r.1 : Key)) = (rs.map (·.1)).map Sum.inr := by rw [List.map_map]; rfl
  rw [e, List.Nodup, List.pairwise_map]
  exact h.imp fun hne z => hne (Sum.inr.inj z)
def bkv (rs : List (Str × List Nat)) : List (Key × V) := rs.map fun r => ((Sum.inr r.1 : Key), V.int (bt r.2 : Nat))
theorem bkv_val {rs : List (Str × List Nat)} (h : (rs.map (·.1)).Nodup) {r : Str × List Nat} (hr : r ∈ rs) : valV (bkv rs) (Sum.inr r.1) = some (.int (bt r.2 : Nat)) := by
  obtain ⟨i, hi⟩ := List.getElem?_of_mem hr
  refine valV_ix (i := i) (by unfold bkv; rw [List.getElem?_map, hi]; rfl) fun j q hj hq e => ?_
  unfold bkv at hq
  rw [List.getElem?_map] at hq
  obtain ⟨r', hr', rfl⟩ := Option.map_eq_some_iff.mp hq
  have e1 : r'.1 = r.1 := Sum.inr.inj e
  have := List.pairwise_iff_getElem.mp h j i (by rw [List.length_map]; exact (List.getElem?_eq_some_iff.mp hr').1) (by rw [List.length_map]; exact (List.getElem?_eq_some_iff.mp hi).1) hj
  rw [List.getElem_map, List.getElem_map, (List.getElem?_eq_some_iff.mp hr').2, (List.getElem?_eq_some_iff.mp hi).2] at this
  exact this e1
def spMB : Sp := fun vs H Q _ => ∃ (fv tv : V) (d : Addr) (od : Obj) (n : Nat) (ps : List (Nat × Nat)) (rs : List (Str × List Nat)) (kvs : List (Key × V)) (ρ : Str → List Nat) (t : Tm), vs = [fv, .ref d, tv] ∧ FrV H n ps fv ∧ FrOk n ps ∧ H d = some (.frz od (.dK kvs)) ∧ KvsV H rs kvs ∧
  (∀ r ∈ rs, VOk n r.2 ∧ ρ r.1 = r.2) ∧ (rs.map (·.1)).Nodup ∧ rs.length ≤ 1000 ∧ TmV H t tv ∧ t.dep < 40 ∧ Small t ∧ (∀ s ∈ lets (addP [] t), ∃ r ∈ rs, r.1 = s) ∧ ∀ H' y, Kp [] H H' → ValV H' (mn n ps ρ t) y → Q y H'
section
variable {P : Program} {w : World} {K : PySem.W.Frag} {mg : Str → Option Value} {base : Heap} {f C C2 : Addr} {fd : FuncData}
theorem ok_meaning_by (F : Fun K "meaning_by" "meaning_by" s_meaning_by f fd) (T : Txt K mg) (TC : TLc K mg C) (SC : SCc K mg C2) (D_init : IDef P w K mg base C 1 ["self"] (spInit C)) (D_sinit : IDef P w K mg base C2 2 ["self", "frame"] (spSInit C2))
    (D_term_number : MDef P w K mg base C "term_number" 41 ["self", "term"] (spTN C 40)) (D_line_bits : Def P w K mg base "line_bits" 3 ["sides", "values", "lines"] (spLB C2))
    (D_value_bits : Def P w K mg base "value_bits" 1 ["value"] spVB) (D_bits_value : Def P w K mg base "bits_value" 1 ["bits", "points"] spBV) :
    FnOk P w K mg base CX0 42 f fd ["frame", "values", "term"] spMB := by
  refine F.ok sc_meaning_by (fun vs H Q E h => ?_) (fun cdv A outer s H vs Q E hr h => ?_)
  · obtain ⟨fv, tv, d, od, n, ps, rs, kvs, ρ, t, rfl, _⟩ := h
    rfl
  obtain ⟨fv, tv, d, od, n, ps, rs, kvs, ρ, t, rfl, hf, hok, hd, hkv, hρ, hnd, hrl, ht, htd, hts, hlet, q⟩ := h
  have nd := sc_meaning_by.nd
  have h6 := hok.2.1
  refine ⟨_, (pss_cons (ps_par (i := 3) (j := 4) rfl nd rfl rfl (by decide) rfl rfl (pa_cons (e_mkTL TC D_init (hr.mono (by omega))) (pa_cons (e_mkS SC D_sinit (hr.mono (by omega)) (pa_cons (pv 0) pa_nil)) pa_nil)) rfl)
      (pss_cons (ps_set (i := 5) nd rfl (Or.inl rfl) (e_meth TC.cl D_term_number (hr.mono (by omega)) (pv 3) (pa_cons (pv 2) pa_nil)))
      (pss_cons (ps_set (i := 6) nd rfl (Or.inl rfl) (e_fn D_line_bits (hr.mono (by omega)) (pa_cons (pv 4) (pa_cons (pe_dc (own := [("name", 7)]) (g := gName 7) (tt := tYes) rfl nd (pi_keys (pv 1)) (blkOk_by (N := N_meaning_by) (sc := defScope s_meaning_by) (by decide +kernel)) (fun _ _ _ _ _ => pg_name (i := 7) nd rfl (Or.inl rfl)) (fun _ _ _ _ _ => pts_nil) (fun _ _ _ _ _ => (pv 7)) (fun _ _ _ _ _ => (e_fn D_value_bits (hr.mono (by omega)) (pa_cons (pe_dget (hu_of hr) (pv 1) (pv 7) (fun _ _ => rfl)) pa_nil)))) (pa_cons (pe_fld (pv 3) rfl) pa_nil)))))
      (pss_one (ps_ret (e_fn D_bits_value (hr.mono (by omega)) (pa_cons (pe_ix ix_list (pv 6) (pv 5) (fun _ _ => rfl)) (pa_cons (pe_fld (pv 4) rfl) pa_nil)))))))), ?_⟩
  intro H1 p l nn s' k1 hp hl hn hs hT
  refine ⟨_, rfl, fun p2 d0 hp2 hd2 hne => mkS_at hp2 hd2 hne (hf.kp k1) hok fun H2 pl k2 hpl hS => ⟨rfl, ?_⟩⟩
  refine ⟨_, _, rfl, ?_⟩
  have k12 := k1.trans k2
  have hT2 := hT.kp k2 (by simp)
  obtain ⟨dx, hpx⟩ := hT2.dx
  refine ⟨_, rfl, p, dx, _, rfl, hpx, tlf_tn _ _ _, _, rfl, ?_⟩
  refine ⟨p, l, nn, s', tv, [], t, rfl, hT2, ht.kp k12, htd, hts.2.1, by simpa using hts.2.1, fun H3 k3 hT3 => ?_⟩
  have k23 : Kp [] H1 H3 → True := fun _ => trivial
  have k03 : Kp [] H H3 := k12.cut k3 (by simp [hl, hn, hs])
  have hS3 : SdAt C2 H3 p2 pl n ps := by
    obtain ⟨lv0, hl0, _⟩ := hT.ls
    obtain ⟨kv0, hn0, _⟩ := hT.ns
    have hs0 := hT.ss
    refine hS.kp k3 ⟨?_, ?_⟩
    · simp only [List.mem_cons, List.not_mem_nil, or_false, not_or]
      exact ⟨(ne_of_none hl0 hp2).symm, (ne_of_none hn0 hp2).symm, (ne_of_none hs0 hp2).symm⟩
    · simp only [List.mem_cons, List.not_mem_nil, or_false, not_or]
      exact ⟨(ne_of_none hl0 hpl).symm, (ne_of_none hn0 hpl).symm, (ne_of_none hs0 hpl).symm⟩
  have hd3 := k03.k _ _ (by simp) hd
  refine ⟨_, rfl, _, rfl, d, od, rfl, .inl ⟨kvs, hd3, fun D hD => ?_⟩⟩
  have hdD : d ≠ D := ne_of_none hd3 hD
  refine dc_it (n := kvs.length) walk_keys (fun i H' => Kp [] H3 H' ∧ H' D = some (.dK (bkv (rs.take i)))) ⟨Kp.new hD, upd_same⟩ (fun i H' _ h => h.1.k _ _ (by simp) hd3) ?_ ?_
  · rintro i y _ H4 hi ⟨k4, hD4⟩ ⟨rfl, ke, ve, hke, rfl⟩
    have hi2 : i < rs.length := by rw [← hkv.1]; exact hi
    have hri : rs[i]? = some rs[i] := List.getElem?_eq_getElem hi2
    obtain ⟨vv, e1, e2⟩ := hkv.2 i _ hri
    rw [e1] at hke
    cases hke
    have hvo := (hρ _ (List.getElem_mem hi2)).1
    have hget : valV kvs (Sum.inr rs[i].1) = some ve := by
      refine valV_ix e1 fun j q' hj hq' e => ?_
      have hj2 : j < rs.length := by omega
      obtain ⟨vj, e3, _⟩ := hkv.2 j _ (List.getElem?_eq_getElem hj2)
      rw [hq'] at e3
      cases e3
      have := List.pairwise_iff_getElem.mp hnd j i (by rw [List.length_map]; exact hj2) (by rw [List.length_map]; exact hi2) hj
      rw [List.getElem_map, List.getElem_map] at this
      exact this (Sum.inr.inj e)
    refine ⟨rfl, _, rfl, _, rfl, _, rfl, d, ve, rfl, ?_, ve, rs[i].2, rfl, e2.kp (k03.trans k4), (hvo.lt1000 h6).1, (hvo.lt1000 h6).2, fun H5 b k5 hb => ?_⟩
    · have := DGet.rk (k := Sum.inr rs[i].1) (.inr ⟨od, k4.k _ _ (by simp) hd3⟩ : Rd H4 d (.dK kvs))
      rw [hget] at this
      exact this
    · refine ⟨_, Sum.inr rs[i].1, rfl, k5.k _ _ (by simp) hD4, ?_, (k4.trans k5).put hD, ?_⟩
      · unfold bkv
        rw [List.length_map, List.length_take]
        exact small_lt (by omega)
      · rw [upd_same, putK_new, bt_of hb]
        · unfold bkv
          rw [List.take_add_one, hri, List.map_append]; rfl
        · unfold bkv
          rw [List.map_map]
          intro z
          obtain ⟨r', hr', e⟩ := List.mem_map.mp z
          obtain ⟨j, hj⟩ := List.getElem?_of_mem hr'
          have hji : j < i := by have := (List.getElem?_eq_some_iff.mp hj).1; rw [List.length_take] at this; omega
          rw [List.getElem?_take_of_lt hji] at hj
          have hj2 := (List.getElem?_eq_some_iff.mp hj).1
          have := List.pairwise_iff_getElem.mp hnd j i (by rw [List.length_map]; exact hj2) (by rw [List.length_map]; exact hi2) hji
          rw [List.getElem_map, List.getElem_map, (List.getElem?_eq_some_iff.mp hj).2] at this
          exact this (Sum.inr.inj e)
  · rintro H4 ⟨k4, hD4⟩
    rw [hkv.1, List.take_length] at hD4
    have hT4 := hT3.kp k4 (by simp)
    obtain ⟨dx4, hp4⟩ := hT4.dx
    obtain ⟨lv, hl4, hL1, hL2⟩ := hT4.ls
    refine ⟨_, rfl, p, C, dx4, _, _, rfl, hp4, TC.cl, TC.nl, tlf_l _ _ _, ?_⟩
    refine ⟨p2, pl, D, l, n, ps, bkv rs, ρ, addP [] t, lv, rfl, hS3.kp k4 (by simp), hok, hD4, fun s hs => ?_, hl4, ⟨hL1, hL2⟩, hT4.cl, hT4.nd, hT4.big.1, fun H5 a k5 ha => ?_⟩
    · obtain ⟨r, hr, rfl⟩ := hlet s hs
      rw [(hρ r hr).2]
      exact ⟨bkv_val hnd hr, (hρ r hr).1⟩
    · obtain ⟨⟨dx5, hpi⟩, hm⟩ := (hS3.kp k4 (by simp)).kp k5 (by simp)
      have htm : t ∈ addP [] t := addP_self t []
      have hmo : VOk n (mn n ps ρ t) := mn_ok fun s hs => by
        obtain ⟨u, hu, e⟩ := List.mem_filterMap.mp hs
        obtain ⟨r, hr, e2⟩ := hlet s (List.mem_filterMap.mpr ⟨u, (addP_mem t [] u).mpr (.inr hu), e⟩)
        rw [← e2, (hρ r hr).2]
        exact (hρ r hr).1
      refine ⟨_, rfl, _, rfl, a, _, _, _, rfl, rfl, SqL.of ha, atI_nat (j := ix (addP [] t) t) (by rw [List.getElem?_map, ix_get htm]; rfl), _, rfl, p2, C2, dx5, _, _, rfl, hpi, SC.cl, SC.np, sdf_p n pl, ?_⟩
      refine ⟨bt (mn n ps ρ t), n, rfl, by omega, fun H6 y k6 hy => ?_⟩
      rw [msk_vl (bt_msk _) hmo] at hy
      exact q _ y ((k03.trans k4).trans (k5.trans k6)) hy
end
end N0

namespace N0
open PySem L2 PySem.Spec PyProof.Rows
/-- a reading whose tuple's object is known -/
def RdF (H : Hp) (rs : List (Str × List Nat)) (x : V) : Prop := ∃ (a : Addr) (o : Obj) (ys : List V), x = .ref a ∧ H a = some (.frz o (.tup ys)) ∧ o.cls = .type "tuple" ∧ o.dict = none ∧ ys.length = rs.length ∧
  ∀ (i : Nat) (r : Str × List Nat), rs[i]? = some r → ∃ c vv, ys[i]? = some (.ref c) ∧ H c = some (.tup [.str r.1, vv]) ∧ ValV H r.2 vv
theorem RdF.v {H : Hp} {rs : List (Str × List Nat)} {x : V} : RdF H rs x → RdV H rs x
  | ⟨a, o, ys, e, h1, _, _, h2, h3⟩ => ⟨a, ys, e, .inr ⟨o, h1⟩, h2, h3⟩
theorem RdF.kp {H H' : Hp} {rs : List (Str × List Nat)} {x : V} (k : Kp [] H H') : RdF H rs x → RdF H' rs x
  | ⟨a, o, ys, e, h1, g1, g2, h2, h3⟩ => ⟨a, o, ys, e, k.k _ _ (by simp) h1, g1, g2, h2, fun i r hr => let ⟨c, vv, e1, e2, e3⟩ := h3 i r hr; ⟨c, vv, e1, k.t _ _ e2, e3.kp k⟩⟩
theorem pairs_rd {K : PySem.W.Frag} {H : Hp} : ∀ {rs : List (Str × List Nat)} {ys : List V}, ys.length = rs.length → (∀ (i : Nat) (r : Str × List Nat), rs[i]? = some r → ∃ c vv, ys[i]? = some (.ref c) ∧ H c = some (.tup [.str r.1, vv]) ∧ ValV H r.2 vv) →
    ∃ (ps : List Addr) (kvs : List (Key × V)), ys = ps.map V.ref ∧ Paired (fun p kv => SqT K H p [kV kv.1, kv.2]) ps kvs ∧ KvsV H rs kvs
  | [], [], _, _ => ⟨[], [], rfl, .nil, rfl, fun i r hr => by simp at hr⟩
  | r :: rs, y :: ys, hl, h => by
    obtain ⟨c, vv, e1, e2, e3⟩ := h 0 r rfl
    cases e1
    obtain ⟨ps, kvs, g1, g2, g3, g4⟩ := pairs_rd (K := K) (rs := rs) (ys := ys) (by simpa using hl) fun i r' hr => h (i + 1) r' hr
    refine ⟨c :: ps, (Sum.inr r.1, vv) :: kvs, by rw [g1]; rfl, .cons (tupT e2) g2, by simp [g3], fun i r' hr => ?_⟩
    cases i with
    | zero => cases hr; exact ⟨vv, rfl, e3⟩
    | succ i => exact g4 i r' (by simpa using hr)
  | [], _ :: _, hl, _ => by simp at hl
  | _ :: _, [], hl, _ => by simp at hl
def spMO : Sp := fun vs H Q _ => ∃ (fv x tv : V) (n : Nat) (ps : List (Nat × Nat)) (rs : List (Str × List Nat)) (ρ : Str → List Nat) (t : Tm), vs = [fv, x, tv] ∧ FrV H n ps fv ∧ FrOk n ps ∧ RdF H rs x ∧ RdOk n ps rs ∧ (∀ r ∈ rs, ρ r.1 = r.2) ∧ (rs.map (·.1)).Nodup ∧ rs.length ≤ 1000 ∧
  TmV H t tv ∧ t.dep < 40 ∧ Small t ∧ (lets (addP [] t)).length < 64 ∧ (∀ s ∈ lets (addP [] t), ∃ r ∈ rs, r.1 = s) ∧ ∀ H' y, Kp [] H H' → ValV H' (mn n ps ρ t) y → Q y H'
section
variable {P : Program} {w : World} {K : PySem.W.Frag} {mg : Str → Option Value} {base : Heap} {f C C2 : Addr} {fd : FuncData}
theorem ok_meaning_of (F : Fun K "meaning_of" "meaning_of" s_meaning_of f fd) (T : Txt K mg) (D_need_reading : Def P w K mg base "need_reading" 6 ["frame", "reading"] spNR) (D_need_term : Def P w K mg base "need_term" 5 ["term"] spNT)
    (D_need_letters : Def P w K mg base "need_letters" 45 ["names", "terms"] spNL) (D_meaning_by : Def P w K mg base "meaning_by" 42 ["frame", "values", "term"] spMB) :
    FnOk P w K mg base CX0 46 f fd ["frame", "reading", "term"] spMO := by
  refine F.ok sc_meaning_of (fun vs H Q E h => ?_) (fun cdv A outer s H vs Q E hr h => ?_)
  · obtain ⟨fv, x, tv, n, ps, rs, ρ, t, rfl, _⟩ := h
    rfl
  obtain ⟨fv, x, tv, n, ps, rs, ρ, t, rfl, hf, hok, hx, hro, hρ, hnd, hrl, ht, htd, hts, htl, hlet, q⟩ := h
  have nd := sc_meaning_of.nd
  refine ⟨_, (pss_cons (ps_expr (e_fn D_need_reading (hr.mono (by omega)) (pa_cons (pv 0) (pa_cons (pv 1) pa_nil))))
      (pss_cons (ps_expr (e_fn D_need_term (hr.mono (by omega)) (pa_cons (pv 2) pa_nil)))
      (pss_cons (ps_set (i := 3) nd rfl (Or.inl rfl) (pe_hold (pe_callTy (call_dictF rfl) (by rfl) T.dict bt_dict (pa_cons (pv 1) pa_nil))))
      (pss_cons (ps_expr (e_fn D_need_letters (hr.mono (by omega)) (pa_cons (pv 3) (pa_cons (pe_lst (pa_cons (pv 2) pa_nil)) pa_nil))))
      (pss_one (ps_ret (e_fn D_meaning_by (hr.mono (by omega)) (pa_cons (pv 0) (pa_cons (pv 3) (pa_cons (pv 2) pa_nil)))))))))), ?_⟩
  refine ⟨_, rfl, _, rfl, fv, x, n, ps, rs, rfl, hf, hok, hx.v, hro, fun H1 k1 => ?_⟩
  refine ⟨_, rfl, tv, t, rfl, ht.kp k1, hts, fun H2 k2 => ?_⟩
  have k12 := k1.trans k2
  obtain ⟨a, o, ys, rfl, ha, g1, g2, hyl, hye⟩ := hx.kp k12
  obtain ⟨pa, kvs, rfl, hp, hkv⟩ := pairs_rd (K := K) hyl hye
  refine ⟨_, rfl, a, o, pa, kvs, rfl, ha, g1, g2, hp, fun d hdn => ?_⟩
  rw [mergeK_nodup (acc := []) (by rw [List.nil_append, hkv.keys]; exact inr_nodup hnd), List.nil_append]
  refine ⟨d, _, rfl, upd_same, trivial, fun od => ?_⟩
  have k3 : Kp [] H2 (upd (upd H2 d (.dK kvs)) d (.frz od (.dK kvs))) := (Kp.new hdn).put hdn
  have hd3 : upd (upd H2 d (.dK kvs)) d (.frz od (.dK kvs)) d = some (.frz od (.dK kvs)) := upd_same
  generalize upd (upd H2 d (.dK kvs)) d (.frz od (.dK kvs)) = H3 at k3 hd3 ⊢
  have k13 := k12.trans k3
  refine ⟨_, rfl, _, rfl, small_le (by simp), fun l hl => ?_⟩
  have k4 : Kp [] H3 (upd H3 l (.lst [tv])) := Kp.new hl
  have hl4 : upd H3 l (.lst [tv]) l = some (.lst [tv]) := upd_same
  generalize upd H3 l (.lst [tv]) = H4 at k4 hl4 ⊢
  have k14 := k13.trans k4
  have hd4 := k4.k _ _ (by simp) hd3
  have hkv4 := (hkv.kp k3).kp k4
  refine ⟨d, l, kvs, tv, t, rfl, .inr ⟨od, hd4⟩, hl4, ht.kp k14, htd, hts, htl, fun z hz => ?_, fun H5 k5 => ?_⟩
  · obtain ⟨r, hr, rfl⟩ := hlet z hz
    obtain ⟨i, hi⟩ := List.getElem?_of_mem hr
    obtain ⟨vv, e1, _⟩ := hkv.2 i r hi
    have hm : (Sum.inr r.1, vv) ∈ kvs := List.mem_of_getElem? e1
    rw [← valV_any, List.any_eq_true]
    exact ⟨_, hm, decide_eq_true rfl⟩
  · have k15 := k14.trans k5
    refine ⟨_, rfl, _, rfl, _, rfl, fv, tv, d, od, n, ps, rs, kvs, ρ, t, rfl, hf.kp k15, hok, k5.k _ _ (by simp) hd4, hkv4.kp k5, fun r hr => ⟨(hro.one r hr).2.2.1, hρ r hr⟩, hnd, hrl, ht.kp k15, htd, hts, hlet, fun H6 y k6 hy => q _ y (k15.trans k6) hy⟩
end
end N0

namespace N0
open PySem L2 PySem.Spec PyProof.Rows
theorem seqR {a b : TS} {D : Ends} {σ : L2.St} {H : Hp} (Post : L2.St → Hp → Prop) (h1 : ∀ N : L2.St → Hp → Prop, (∀ σ H, Post σ H → N σ H) → a { D with nx := N } σ H) (h2 : ∀ σ H, Post σ H → b D σ H) : tSeq a b D σ H := h1 _ h2
/-! ### drawn numbers -/
def kD (c g : Addr) (s : Int) : List (Key × V) := [(.inr "cells", .ref c), (.inr "great", .ref g), (.inr "spot", .int s)]
theorem kD_c (c g : Addr) (s : Int) : valV (kD c g s) (.inr "cells") = some (.ref c) := by with_unfolding_all rfl
theorem kD_g (c g : Addr) (s : Int) : valV (kD c g s) (.inr "great") = some (.ref g) := by with_unfolding_all rfl
theorem kD_s (c g : Addr) (s : Int) : valV (kD c g s) (.inr "spot") = some (.int s) := by with_unfolding_all rfl
theorem kD_ps (c g : Addr) (s s' : Int) : putK (kD c g s) (.inr "spot") (.int s') = kD c g s' := by with_unfolding_all rfl
theorem kD_pg (c g g' : Addr) (s : Int) : putK (kD c g s) (.inr "great") (.ref g') = kD c g' s := by with_unfolding_all rfl
def CellsOk (cs : List Int) : Prop := cs.length = 64 ∧ ∀ x ∈ cs, 0 ≤ x ∧ x < 2147483647
def DrawAt (H : Hp) (m c g : Addr) (b : Nat) : Prop := ∃ (s : Nat) (cs gs : List Int), H m = some (.dK (kD c g s)) ∧ H c = some (.lst (cs.map V.int)) ∧ CellsOk cs ∧ H g = some (.lst (gs.map V.int)) ∧ gs.length ≤ 63 ∧ s ≤ b ∧ c ≠ g
theorem DrawAt.mono {H : Hp} {m c g : Addr} {b b' : Nat} (h : DrawAt H m c g b) (hb : b ≤ b') : DrawAt H m c g b' := by
  obtain ⟨s, cs, gs, h1, h2, h3, h4, h5, h6, h7⟩ := h
  exact ⟨s, cs, gs, h1, h2, h3, h4, h5, Nat.le_trans h6 hb, h7⟩
theorem DrawAt.kp {H H' : Hp} {m c g : Addr} {b : Nat} (k : Kp [] H H') (h : DrawAt H m c g b) : DrawAt H' m c g b := by
  obtain ⟨s, cs, gs, h1, h2, h3, h4, h5⟩ := h
  exact ⟨s, cs, gs, k.k _ _ (by simp) h1, k.k _ _ (by simp) h2, h3, k.k _ _ (by simp) h4, h5⟩
theorem DrawAt.put {H : Hp} {m c g l : Addr} {b : Nat} {o : HO} (h : DrawAt H m c g b) (n : l ≠ m ∧ l ≠ c ∧ l ≠ g) : DrawAt (upd H l o) m c g b := by
  obtain ⟨s, cs, gs, h1, h2, h3, h4, h5⟩ := h
  exact ⟨s, cs, gs, by rw [upd_ne (Ne.symm n.1)]; exact h1, by rw [upd_ne (Ne.symm n.2.1)]; exact h2, h3, by rw [upd_ne (Ne.symm n.2.2)]; exact h4, h5⟩
theorem DrawAt.ne {H : Hp} {m c g l : Addr} {b : Nat} (h : DrawAt H m c g b) (hl : H l = none) : l ≠ m ∧ l ≠ c ∧ l ≠ g := by
  obtain ⟨s, cs, gs, h1, h2, h3, h4, h5⟩ := h
  exact ⟨(ne_of_none h1 hl).symm, (ne_of_none h2 hl).symm, (ne_of_none h4 hl).symm⟩
def spMixed : Sp := fun vs H Q _ => ∃ (x : Int) (n : Nat), vs = [.int x, .int (n : Int)] ∧ 0 ≤ x ∧ x < 2 ^ 40 ∧ n ≤ 2000000 ∧ ∀ H' (r : Int), Kp [] H H' → 0 ≤ r → r < 2 ^ 31 → Q (.int r) H'
def spDraw : Sp := fun vs H Q _ => ∃ (m c g : Addr) (n b : Nat), vs = [.ref m, .int (n : Int)] ∧ DrawAt H m c g b ∧ 0 < n ∧ n < 1000 ∧ b ≤ 1000000 ∧
  ∀ H' (i : Nat), Kp [m, g] H H' → DrawAt H' m c g (b + 1) → i < n → Q (.int (i : Int)) H'
section
variable {P : Program} {w : World} {K : PySem.W.Frag} {mg : Str → Option Value} {base : Heap} {f C C2 : Addr} {fd : FuncData}
theorem ok_law_mixed (F : Fun K "_law_mixed" "_law_mixed" s_law_mixed f fd) (T : Txt K mg) : FnOk P w K mg base CX0 1 f fd ["cell", "n"] spMixed := by
  refine F.ok sc_law_mixed (fun vs H Q E h => ?_) (fun cdv A outer s H vs Q E hr h => ?_)
  · obtain ⟨x, n, rfl, _⟩ := h
    rfl
  obtain ⟨x, n, rfl, hx0, hx1, hn, q⟩ := h
  have nd := sc_law_mixed.nd
  refine ⟨_, (pss_cons (ps_set (i := 2) nd rfl (Or.inl rfl) (pe_op op_add (pe_op op_add (pe_op op_mod (pe_callTy call_int1 (by rfl) T.int bt_int (pa_cons (pe_op op_mul (pe_op op_mul (pv 0) (pe_op op_add pe_int (pe_op op_mul pe_int (pv 1)))) pe_int) pa_nil)) pe_int) (pe_op op_mul (pe_op op_mul pe_int (pv 1)) (pv 1))) (pe_op op_mul pe_int (pv 1))))
      (pss_one (ps_ret (pe_op op_fdiv (pe_op op_mod (pe_callTy call_int1 (by rfl) T.int bt_int (pa_cons (pe_op op_mul (pv 2) pe_int) pa_nil)) pe_int) pe_int)))), ?_⟩
  have hxn : 0 ≤ x * (1 + 2 * (n : Int)) := Int.mul_nonneg hx0 (by omega)
  have hxn2 : x * (1 + 2 * (n : Int)) ≤ 2 ^ 40 * 4000001 := Int.mul_le_mul (by omega) (by omega) (by omega) (by decide)
  refine ⟨_, rfl, _, rfl, _, _, rfl, rfl, .inl ⟨by decide, by decide⟩, _, _, rfl, rfl, _, _, rfl, rfl, .inl ⟨by omega, by omega⟩, _, _, rfl, rfl, .inl ⟨by omega, by omega⟩, .inl ⟨_, rfl, _, _, rfl, rfl, (show (0 : Int) < 2147483647 by decide), ?_⟩⟩
  have hb1 := Int.emod_nonneg (x * (1 + 2 * (n : Int)) * 48271) (show (2147483647 : Int) ≠ 0 by decide)
  have hb2 := Int.emod_lt_of_pos (x * (1 + 2 * (n : Int)) * 48271) (show (0 : Int) < 2147483647 by decide)
  dsimp only
  generalize (x * (1 + 2 * (n : Int)) * 48271) % 2147483647 = y at hb1 hb2 ⊢
  have hnn : 7919 * (n : Int) * (n : Int) ≤ 7919 * 2000000 * 2000000 := Int.mul_le_mul (by omega) (by omega) (by omega) (by decide)
  have hnn0 : 0 ≤ 7919 * (n : Int) * (n : Int) := Int.mul_nonneg (by omega) (by omega)
  refine ⟨_, rfl, _, _, rfl, rfl, .inl ⟨by decide, by decide⟩, _, rfl, _, _, rfl, rfl, .inl ⟨by omega, by omega⟩, _, _, rfl, rfl, _, rfl, _, _, rfl, rfl, .inl ⟨by decide, by decide⟩, _, _, rfl, rfl, ?_⟩
  dsimp only
  generalize hz : 7919 * (n : Int) * (n : Int) = z at hnn hnn0 ⊢
  refine ⟨_, rfl, _, _, rfl, rfl, .inl ⟨by omega, by omega⟩, .inl ⟨_, rfl, _, _, rfl, rfl, (show (0 : Int) < 2147483629 by decide), ?_⟩⟩
  have hb3 := Int.emod_nonneg ((y + z + 104729 * (n : Int)) * 69621) (show (2147483629 : Int) ≠ 0 by decide)
  have hb4 := Int.emod_lt_of_pos ((y + z + 104729 * (n : Int)) * 69621) (show (0 : Int) < 2147483629 by decide)
  dsimp only
  generalize (y + z + 104729 * (n : Int)) * 69621 % 2147483629 = u at hb3 hb4 ⊢
  exact ⟨_, _, rfl, rfl, ⟨by decide, by decide⟩, q _ _ (Kp.refl _ _) (by omega) (by omega)⟩
theorem ok_law_draw (F : Fun K "_law_draw" "_law_draw" s_law_draw f fd) (T : Txt K mg) (D_law_mixed : Def P w K mg base "_law_mixed" 1 ["cell", "n"] spMixed) : FnOk P w K mg base CX0 2 f fd ["m", "limit"] spDraw := by
  refine F.ok sc_law_draw (fun vs H Q E h => ?_) (fun cdv A outer s H vs Q E hr h => ?_)
  · obtain ⟨m, c, g, n, b, rfl, _⟩ := h
    rfl
  obtain ⟨m, c, g, n, b, rfl, hm, hn, hn2, hb, q⟩ := h
  have nd := sc_law_draw.nd
  refine ⟨_, (pss_cons (ps_set (i := 2) nd rfl (Or.inl rfl) (pe_dget (hu_of hr) (pv 0) pe_str (fun _ _ => rfl)))
      (pss_cons (ps_dput (hu_of hr) (pv 0) pe_str (pe_op op_add (pv 2) pe_int) rfl)
      (pss_cons (ps_if (pt_cmpR (op_neNil hr.units0) (pe_dget (hu_of hr) (pv 0) pe_str (fun _ _ => rfl)) (pe_lst pa_nil) (nomark _)) (pss_cons (ps_set (i := 3) nd rfl (Or.inl rfl) (pe_dget (hu_of hr) (pv 0) pe_str (fun _ _ => rfl)))
      (pss_cons (ps_set (i := 4) nd rfl (Or.inl rfl) (pe_op op_mod (pe_callTy call_int1 (by rfl) T.int bt_int (pa_cons (pv 2) pa_nil)) (e_len T (pa_cons (pv 3) pa_nil))))
      (pss_cons (ps_set (i := 5) nd rfl (Or.inl rfl) (pe_ix ix_list (pv 3) (pv 4) (fun _ _ => rfl)))
      (pss_one (ps_if (pt_cmpR op_gt (pv 5) pe_int (nomark _)) (pss_cons (ps_asg (pe_op op_fdiv (pv 5) (pv 1)) (pg_sub (pv 3) (pv 4) set_list))
      (pss_one (ps_ret (pe_op op_mod (pe_callTy call_int1 (by rfl) T.int bt_int (pa_cons (pv 5) pa_nil)) (pv 1))))) pss_nil))))) pss_nil)
      (pss_cons (ps_set (i := 3) nd rfl (Or.inl rfl) (pe_dget (hu_of hr) (pv 0) pe_str (fun _ _ => rfl)))
      (pss_one (ps_ret (pe_op op_mod (pe_callTy call_int1 (by rfl) T.int bt_int (pa_cons (e_fn D_law_mixed (hr.mono (by omega)) (pa_cons (e_fn D_law_mixed (hr.mono (by omega)) (pa_cons (pe_op op_add (pe_ix ix_list (pv 3) (pe_op op_mod (pe_callTy call_int1 (by rfl) T.int bt_int (pa_cons (pv 2) pa_nil)) pe_int) (fun _ _ => rfl)) (pe_op op_mul pe_int (pe_op op_fdiv (pv 2) pe_int))) (pa_cons (pv 2) pa_nil))) (pa_cons (pe_op op_add (pv 2) pe_int) pa_nil))) pa_nil)) (pv 1)))))))), ?_⟩
  obtain ⟨sp, cs, gs, h1, h2, h3, h4, h5, h6, h7⟩ := hm
  have gS : DGet H m (.str "spot") (some (.int sp)) := by rw [← kD_s c g sp]; exact DGet.k (k := .inr "spot") h1
  have hp : DPut H m (.str "spot") (.int ((sp : Int) + 1)) (upd H m (.dK (kD c g ((sp : Int) + 1)))) := by
    rw [← kD_ps c g sp ((sp : Int) + 1)]; exact DPut.k (k := .inr "spot") h1 (small_lt (by simp [kD]))
  refine ⟨_, rfl, m, _, rfl, gS, ?_⟩
  refine ⟨_, rfl, _, _, rfl, rfl, _, rfl, m, _, rfl, hp, ?_⟩
  have k1 : Kp [m, g] H (upd H m (.dK (kD c g ((sp : Int) + 1)))) := (Kp.refl _ _).wr (by simp) h1 (by intro xs z; cases z)
  have cm : c ≠ m := fun z => by rw [z, h1] at h2; cases h2
  have gm : g ≠ m := fun z => by rw [z, h1] at h4; cases h4
  have e1 : upd H m (.dK (kD c g ((sp : Int) + 1))) m = some (.dK (kD c g ((sp + 1 : Nat) : Int))) := upd_same
  have e2 : upd H m (.dK (kD c g ((sp : Int) + 1))) c = some (.lst (cs.map V.int)) := by rw [upd_ne cm]; exact h2
  have e4 : upd H m (.dK (kD c g ((sp : Int) + 1))) g = some (.lst (gs.map V.int)) := by rw [upd_ne gm]; exact h4
  generalize upd H m (.dK (kD c g ((sp : Int) + 1))) = H1 at k1 e1 e2 e4 ⊢
  have gG : DGet H1 m (.str "great") (some (.ref g)) := by rw [← kD_g c g ((sp + 1 : Nat) : Int)]; exact DGet.k (k := .inr "great") e1
  dsimp only
  refine seqR (fun σ H' => ∃ o3 o4 o5, σ = [some (.ref m), some (.int (n : Int)), some (.int (sp : Int)), o3, o4, o5] ∧ Kp [] H1 H') (fun N hN => ?_) ?_
  · refine ⟨_, rfl, m, _, rfl, gG, Nat.zero_le _, fun l hl => ?_⟩
    have k2 : Kp [] H1 (upd H1 l (.lst [])) := Kp.new hl
    have gl : upd H1 l (.lst []) l = some (.lst []) := upd_same
    generalize upd H1 l (.lst []) = H2 at k2 gl ⊢
    refine ⟨g, l, _, rfl, rfl, SqL.of (k2.k _ _ (by simp) e4), SqL.of gl, _, rfl, ?_⟩
    refine ite2 (fun hc => ?_) (fun hc => ?_)
    · have hgl : 0 < gs.length := by cases gs with
        | nil => exact absurd hc (by simp)
        | cons _ _ => simp
      have gG2 : DGet H2 m (.str "great") (some (.ref g)) := by rw [← kD_g c g ((sp + 1 : Nat) : Int)]; exact DGet.k (k := .inr "great") (k2.k _ _ (by simp) e1)
      have g2 := k2.k _ _ (by simp) e4
      refine ⟨_, rfl, m, _, rfl, gG2, ?_⟩
      refine ⟨_, rfl, .inl ⟨_, rfl, _, rfl, g, _, rfl, .inl (SqL.of g2), _, _, rfl, rfl, by rw [List.length_map]; omega, ?_⟩⟩
      have hmod := Int.emod_nonneg (sp : Int) (show (gs.length : Int) ≠ 0 by omega)
      have hmod2 := Int.emod_lt_of_pos (sp : Int) (show (0 : Int) < gs.length by omega)
      obtain ⟨j, hj⟩ : ∃ j : Nat, (sp : Int) % ((gs.map V.int).length : Int) = (j : Int) := ⟨((sp : Int) % gs.length).toNat, by rw [List.length_map]; omega⟩
      have hjl : j < gs.length := by rw [List.length_map] at hj; omega
      dsimp only
      rw [hj]
      have hcell : (gs.map V.int)[j]? = some (.int gs[j]) := by rw [List.getElem?_map, List.getElem?_eq_getElem hjl]; rfl
      refine ⟨_, rfl, _, rfl, g, _, _, _, rfl, rfl, SqL.of g2, atI_nat hcell, ?_⟩
      generalize gs[j] = cell
      refine ⟨_, rfl, _, _, rfl, rfl, _, rfl, ?_⟩
      refine ite2 (fun hc2 => ?_) (fun hc2 => ?_)
      · have hpos : 0 < cell := of_decide_eq_true hc2
        refine ⟨_, rfl, _, rfl, _, _, rfl, rfl, ⟨by omega, by omega⟩, _, rfl, _, rfl, g, _, _, j, rfl, rfl, g2, ix_nat (by rw [List.length_map]; exact hjl), ?_⟩
        have hi := Int.emod_nonneg cell (show (n : Int) ≠ 0 by omega)
        have hi2 := Int.emod_lt_of_pos cell (show (0 : Int) < n by omega)
        refine ⟨_, rfl, .inl ⟨_, rfl, _, rfl, _, _, rfl, rfl, by omega, ?_⟩⟩
        have k3 : Kp [m, g] H2 (upd H2 g (.lst ((gs.map V.int).set j (.int (cell / n))))) := (Kp.refl _ _).wr (by simp) g2 (by intro xs z; cases z)
        have := q _ (cell % n).toNat ((k1.trans k2.mono0).trans k3) ⟨sp + 1, cs, gs.set j (cell / n), by rw [upd_ne (Ne.symm gm)]; exact k2.k _ _ (by simp) e1, by rw [upd_ne h7]; exact k2.k _ _ (by simp) e2, h3, by rw [upd_same, List.map_set], by rw [List.length_set]; exact h5, by omega, h7⟩ (by omega)
        rw [Int.toNat_of_nonneg hi] at this
        exact this
      · exact hN _ _ ⟨_, _, _, rfl, k2⟩
    · exact hN _ _ ⟨_, _, _, rfl, k2⟩
  · rintro σ H2 ⟨o3, o4, o5, rfl, k2⟩
    have gC : DGet H2 m (.str "cells") (some (.ref c)) := by rw [← kD_c c g ((sp + 1 : Nat) : Int)]; exact DGet.k (k := .inr "cells") (k2.k _ _ (by simp) e1)
    have c2 := k2.k _ _ (by simp) e2
    refine ⟨_, rfl, m, _, rfl, gC, ?_⟩
    have hmod := Int.emod_nonneg (sp : Int) (show (64 : Int) ≠ 0 by decide)
    have hmod2 := Int.emod_lt_of_pos (sp : Int) (show (0 : Int) < 64 by decide)
    obtain ⟨j, hj⟩ : ∃ j : Nat, (sp : Int) % 64 = (j : Int) := ⟨((sp : Int) % 64).toNat, by omega⟩
    have hjl : j < cs.length := by rw [h3.1]; omega
    have hcell : (cs.map V.int)[j]? = some (.int cs[j]) := by rw [List.getElem?_map, List.getElem?_eq_getElem hjl]; rfl
    have hcb := h3.2 _ (List.getElem_mem hjl)
    refine ⟨_, rfl, _, rfl, .inl ⟨_, rfl, _, _, rfl, rfl, (show (0 : Int) < 64 by decide), ?_⟩⟩
    dsimp only
    rw [hj]
    refine ⟨c, _, _, _, rfl, rfl, SqL.of c2, atI_nat hcell, ?_⟩
    generalize cs[j] = cell at hcb
    have hq : (0 : Int) ≤ (sp : Int) / 64 ∧ (sp : Int) / 64 ≤ 20000 := by omega
    refine ⟨_, rfl, _, _, rfl, rfl, ⟨by decide, by decide⟩, _, _, rfl, rfl, .inl ⟨by decide, by decide⟩, _, _, rfl, rfl, _, rfl, cell + 31 * ((sp : Int) / 64), sp, rfl, by omega, by omega, by omega, fun H3 r k3 hr0 hr1 => ?_⟩
    refine ⟨_, rfl, _, _, rfl, rfl, r, sp + 7, rfl, hr0, by omega, by omega, fun H4 r2 k4 hr2 hr3 => ?_⟩
    have hi := Int.emod_nonneg r2 (show (n : Int) ≠ 0 by omega)
    have hi2 := Int.emod_lt_of_pos r2 (show (0 : Int) < n by omega)
    refine .inl ⟨_, rfl, _, rfl, _, _, rfl, rfl, by omega, ?_⟩
    have k14 := (k2.trans k3).trans k4
    have := q _ (r2 % n).toNat (k1.trans k14.mono0) ⟨sp + 1, cs, gs, k14.k _ _ (by simp) e1, k14.k _ _ (by simp) e2, h3, k14.k _ _ (by simp) e4, h5, by omega, h7⟩ (by omega)
    rw [Int.toNat_of_nonneg hi] at this
    exact this
end
end N0

namespace N0
open PySem L2 PySem.Spec PyProof.Rows
def spFolded (K : PySem.W.Frag) : Sp := fun vs H Q _ => ∃ (a : Addr) (ns : List Int), vs = [.ref a] ∧ SqL K H a (ns.map V.int) ∧ ns.length ≤ 63 ∧ ∀ H' c cs, Kp [] H H' → H c = none → H' c = some (.lst (cs.map V.int)) → CellsOk cs → Q (.ref c) H'
def spBegun (K : PySem.W.Frag) : Sp := fun vs H Q _ => ∃ (a : Addr) (ns : List Int), vs = [.ref a] ∧ SqL K H a (ns.map V.int) ∧ ns.length ≤ 63 ∧ ∀ H' m c g, Kp [] H H' → H m = none → H g = none → DrawAt H' m c g 0 → Q (.ref m) H'
theorem cells_at {cs : List Int} (h : CellsOk cs) {j : Nat} (hj : j < 64) : ∃ x, (cs.map V.int)[j]? = some (.int x) ∧ 0 ≤ x ∧ x < 2147483647 := by
  have hl : j < cs.length := by rw [h.1]; exact hj
  exact ⟨cs[j], by rw [List.getElem?_map, List.getElem?_eq_getElem hl]; rfl, h.2 _ (List.getElem_mem hl)⟩
theorem cells_set {cs : List Int} (h : CellsOk cs) {j : Nat} {x : Int} (hx : 0 ≤ x ∧ x < 2147483647) : CellsOk (cs.set j x) := by
  refine ⟨by rw [List.length_set]; exact h.1, fun y hy => ?_⟩
  rcases List.mem_or_eq_of_mem_set hy with z | z
  · exact h.2 y z
  · rw [z]; exact hx
section
variable {P : Program} {w : World} {K : PySem.W.Frag} {mg : Str → Option Value} {base : Heap} {f C C2 : Addr} {fd : FuncData}
theorem ok_law_folded (F : Fun K "_law_folded" "_law_folded" s_law_folded f fd) (T : Txt K mg) : FnOk P w K mg base CX0 1 f fd ["script"] (spFolded K) := by
  refine F.ok sc_law_folded (fun vs H Q E h => ?_) (fun cdv A outer s H vs Q E hr h => ?_)
  · obtain ⟨a, ns, rfl, _⟩ := h
    rfl
  obtain ⟨a, ns, rfl, ha, hn, q⟩ := h
  have nd := sc_law_folded.nd
  refine ⟨_, (pss_cons (ps_setLc (i := 1) (own := [("n", 2)]) (g := gName 2) (tt := tYes) rfl nd rfl rfl (sw_true rfl rfl rfl (by decide +kernel)) (pi_range1 rfl T.range (pa_cons pe_int pa_nil)) (blkOk_by (N := N_law_folded) (sc := defScope s_law_folded) (by decide +kernel)) (fun _ _ _ _ _ => pg_name (i := 2) nd rfl (Or.inl rfl)) (fun _ _ _ _ _ => pts_nil) (fun _ _ _ _ _ => (pe_op op_add pe_int (pv 2))))
      (pss_cons (ps_for PassesOwn.never rfl (pi_enum (by rfl) T.enumerate (pa_cons (pv 0) pa_nil)) (pg_tup rfl (pgs_cons (pg_name (i := 2) nd rfl (Or.inl rfl)) (pgs_cons (pg_name (i := 3) nd rfl (Or.inl rfl)) pgs_nil))) (pss_one (ps_asg (pe_op op_mod (pe_callTy call_int1 (by rfl) T.int bt_int (pa_cons (pe_op op_add (pe_op op_mul (pe_ix ix_list (pv 1) (pe_op op_mod (pe_callTy call_int1 (by rfl) T.int bt_int (pa_cons (pv 2) pa_nil)) pe_int) (fun _ _ => rfl)) pe_int) (pv 3)) pa_nil)) pe_int) (pg_sub (pv 1) (pe_op op_mod (pe_callTy call_int1 (by rfl) T.int bt_int (pa_cons (pv 2) pa_nil)) pe_int) set_list))))
      (pss_cons (ps_for PassesOwn.never rfl (pi_range2 rfl T.range (pa_cons pe_int (pa_cons pe_int pa_nil))) (pg_name (i := 2) nd rfl (Or.inl rfl)) (pss_one (ps_asg (pe_op op_mod (pe_callTy call_int1 (by rfl) T.int bt_int (pa_cons (pe_op op_add (pe_ix ix_list (pv 1) (pv 2) (fun _ _ => rfl)) (pe_op op_mul (pe_ix ix_list (pv 1) (pe_op op_sub (pv 2) pe_int) (fun _ _ => rfl)) pe_int)) pa_nil)) pe_int) (pg_sub (pv 1) (pv 2) set_list))))
      (pss_one (ps_ret (pv 1)))))), ?_⟩
  refine ⟨64, rfl, by decide, by decide, fun D hD => ?_⟩
  refine lc_it (n := (64 : Int).toNat) walk_range (fun i H' => Kp [] H H' ∧ H' D = some (.lst (((List.range i).map fun j : Nat => (17 + (j : Int))).map V.int))) ⟨Kp.new hD, upd_same⟩ (fun _ _ _ _ => trivial) ?_ ?_
  · rintro i y _ H1 hi ⟨k1, hD1⟩ ⟨rfl, rfl⟩
    have e0 : (0 : Int) + (i : Int) = (i : Int) := by omega
    dsimp only [gName]
    rw [e0]
    refine ⟨rfl, _, rfl, _, _, rfl, rfl, _, hD1, ?_, k1.put hD, ?_⟩
    · rw [List.length_map, List.length_map, List.length_range]
      have : i < 64 := hi
      exact small_lt (by omega)
    · rw [upd_same, List.range_succ, List.map_append, List.map_append]; rfl
  · rintro H1 ⟨k1, hD1⟩
    have hc0 : CellsOk ((List.range (64 : Int).toNat).map fun j : Nat => (17 + (j : Int))) := by
      refine ⟨by rw [List.length_map, List.length_range]; rfl, fun x hx => ?_⟩
      obtain ⟨j, hj, rfl⟩ := List.mem_map.mp hx
      have := List.mem_range.mp hj
      have : j < 64 := this
      omega
    generalize ((List.range (64 : Int).toNat).map fun j : Nat => (17 + (j : Int))) = c0 at hD1 hc0
    refine ⟨_, rfl, a, _, rfl, k1.same.seq ha, ?_⟩
    refine for_it (n := (ns.map V.int).length) walk_enum (fun i σ H' => ∃ (cs : List Int) (o2 o3 : Option V), σ = [some (.ref a), some (.ref D), o2, o3] ∧ Kp [] H H' ∧ H' D = some (.lst (cs.map V.int)) ∧ CellsOk cs)
      ⟨c0, none, none, rfl, k1, hD1, hc0⟩ (fun i σ H' _ ⟨_, _, _, _, k, _⟩ => k.same.seq ha) ?_ ?_
    · rintro i y σ H2 _ hi ⟨cs, o2, o3, rfl, k2, hD2, hc2⟩ ⟨Tp, x, y, rfl, hTp, rfl, hx, hy⟩
      cases hx
      dsimp only at hy
      rw [List.getElem?_map] at hy
      obtain ⟨cell, _, rfl⟩ := Option.map_eq_some_iff.mp hy
      have kT : Kp [] H2 (upd H2 Tp (.tup [.int i, .int cell])) := Kp.new hTp
      refine ⟨Tp, _, rfl, tupT upd_same, rfl, _, _, rfl, _, _, rfl, rfl, ?_⟩
      have hD3 := kT.k _ _ (by simp) hD2
      generalize upd H2 Tp (.tup [.int i, .int cell]) = H3 at kT hD3 ⊢
      obtain ⟨j, hj⟩ : ∃ j : Nat, (i : Int) % 64 = (j : Int) := ⟨((i : Int) % 64).toNat, by omega⟩
      have hjl : j < 64 := by omega
      obtain ⟨x, hx, hx0, hx1⟩ := cells_at hc2 hjl
      refine ⟨_, rfl, _, rfl, .inl ⟨_, rfl, _, _, rfl, rfl, (show (0 : Int) < 64 by decide), ?_⟩⟩
      dsimp only
      rw [hj]
      refine ⟨D, _, _, _, rfl, rfl, SqL.of hD3, atI_nat hx, _, _, rfl, rfl, .inl ⟨by omega, by omega⟩, _, rfl, _, _, rfl, rfl, .inl ⟨_, rfl, _, _, rfl, rfl, (show (0 : Int) < 2147483647 by decide), ?_⟩⟩
      refine ⟨_, rfl, _, rfl, .inl ⟨_, rfl, _, _, rfl, rfl, (show (0 : Int) < 64 by decide), ?_⟩⟩
      dsimp only
      rw [hj]
      refine ⟨D, _, _, j, rfl, rfl, hD3, ix_nat (by rw [List.length_map, hc2.1]; exact hjl), ?_⟩
      have hb1 := Int.emod_nonneg (x * 48271 + cell) (show (2147483647 : Int) ≠ 0 by decide)
      have hb2 := Int.emod_lt_of_pos (x * 48271 + cell) (show (0 : Int) < 2147483647 by decide)
      exact ⟨cs.set j _, _, _, rfl, (k2.trans kT).put hD, by rw [upd_same, List.map_set], cells_set hc2 ⟨hb1, hb2⟩⟩
    · rintro σ H2 ⟨cs, o2, o3, rfl, k2, hD2, hc2⟩
      refine ⟨1, 64, rfl, ⟨by decide, by decide, by decide, by decide⟩, ?_⟩
      refine for_it (n := ((64 : Int) - 1).toNat) walk_range (fun i σ H' => ∃ (cs : List Int) (o2 o3 : Option V), σ = [some (.ref a), some (.ref D), o2, o3] ∧ Kp [] H H' ∧ H' D = some (.lst (cs.map V.int)) ∧ CellsOk cs)
        ⟨cs, _, _, rfl, k2, hD2, hc2⟩ (fun _ _ _ _ _ => trivial) ?_ ?_
      · rintro i y σ _ H3 hi ⟨cs, o2, o3, rfl, k3, hD3, hc3⟩ ⟨rfl, rfl⟩
        have hi3 : i < 63 := hi
        have e0 : (1 : Int) + (i : Int) = ((i + 1 : Nat) : Int) := by omega
        dsimp only [gName]
        rw [e0]
        obtain ⟨x, hx, hx0, hx1⟩ := cells_at hc3 (show i + 1 < 64 by omega)
        obtain ⟨z, hz, hz0, hz1⟩ := cells_at hc3 (show i < 64 by omega)
        have e1 : ((i + 1 : Nat) : Int) - 1 = (i : Int) := by omega
        refine ⟨_, rfl, _, rfl, D, _, _, _, rfl, rfl, SqL.of hD3, atI_nat hx, _, rfl, _, rfl, _, _, rfl, rfl, ?_⟩
        dsimp only
        rw [e1]
        refine ⟨D, _, _, _, rfl, rfl, SqL.of hD3, atI_nat hz, _, _, rfl, rfl, .inl ⟨by omega, by omega⟩, _, _, rfl, rfl, .inl ⟨_, rfl, _, _, rfl, rfl, (show (0 : Int) < 2147483647 by decide), ?_⟩⟩
        refine ⟨_, rfl, _, rfl, D, _, _, i + 1, rfl, rfl, hD3, ix_nat (by rw [List.length_map, hc3.1]; omega), ?_⟩
        have hb1 := Int.emod_nonneg (x + z * 16807) (show (2147483647 : Int) ≠ 0 by decide)
        have hb2 := Int.emod_lt_of_pos (x + z * 16807) (show (0 : Int) < 2147483647 by decide)
        exact ⟨cs.set (i + 1) _, _, _, rfl, k3.put hD, by rw [upd_same, List.map_set], cells_set hc3 ⟨hb1, hb2⟩⟩
      · rintro σ H3 ⟨cs, o2, o3, rfl, k3, hD3, hc3⟩
        exact ⟨_, rfl, q _ D cs k3 hD hD3 hc3⟩
theorem merge_kD (c g : Addr) (s : Int) : mergeK [] (kD c g s) = kD c g s := by with_unfolding_all rfl
theorem ok_law_begun (F : Fun K "_law_begun" "_law_begun" s_law_begun f fd) (T : Txt K mg) (D_law_folded : Def P w K mg base "_law_folded" 1 ["script"] (spFolded K)) : FnOk P w K mg base CX0 2 f fd ["script"] (spBegun K) := by
  refine F.ok sc_law_begun (fun vs H Q E h => ?_) (fun cdv A outer s H vs Q E hr h => ?_)
  · obtain ⟨a, ns, rfl, _⟩ := h
    rfl
  obtain ⟨a, ns, rfl, ha, hn, q⟩ := h
  have nd := sc_law_begun.nd
  refine ⟨_, (pss_cons (ps_set (i := 1) nd rfl (Or.inl rfl) (pe_disp (pps_cons pe_str (e_fn D_law_folded (hr.mono (by omega)) (pa_cons (pv 0) pa_nil)) (pps_cons pe_str (pe_lst pa_nil) (pps_cons pe_str pe_int pps_nil))) (by rfl) (by rfl) (fun z => by cases z) (by decide)))
      (pss_cons (ps_dput (hu_of hr) (pv 1) pe_str (pe_lc (own := [("cell", 2)]) (g := gName 2) (tt := tYes) rfl nd (pi_list (pv 0)) (blkOk_by (N := N_law_begun) (sc := defScope s_law_begun) (by decide +kernel)) (fun _ _ _ _ _ => pg_name (i := 2) nd rfl (Or.inl rfl)) (fun _ _ _ _ _ => pts_nil) (fun _ _ _ _ _ => (pe_ifExp (pt_cmpR op_ge (pv 2) (pe_op op_pow pe_int pe_int) (nomark _)) (pv 2) pe_int))) rfl)
      (pss_one (ps_ret (pv 1))))), ?_⟩
  refine fun m hm => ?_
  have k0 : Kp [] H (upd H m (.dK [])) := Kp.new hm
  have hm0 : upd H m (.dK []) m = some (.dK []) := upd_same
  generalize upd H m (.dK []) = H0 at k0 hm0 ⊢
  refine ⟨_, rfl, a, ns, rfl, k0.same.seq ha, hn, fun H1 c cs k1 hc hc1 hcs => ?_⟩
  refine ⟨Nat.zero_le _, fun l hl => ?_⟩
  have k2 : Kp [] H1 (upd H1 l (.lst [])) := Kp.new hl
  have hc2 := k2.k _ _ (by simp) hc1
  have hm2 := k2.k _ _ (by simp) (k1.k _ _ (by simp) hm0)
  generalize upd H1 l (.lst []) = H2 at k2 hc2 hm2 ⊢
  refine ⟨hm2, kD c l 0, rfl, (show 3 ≤ 15 by decide), ?_⟩
  rw [merge_kD]
  have cm : c ≠ m := fun z => by rw [z, hm2] at hc2; cases hc2
  have k3 : Kp [] H (upd H2 m (.dK (kD c l 0))) := ((k0.trans k1).trans k2).put hm
  have hm3 : upd H2 m (.dK (kD c l 0)) m = some (.dK (kD c l 0)) := upd_same
  have hc3 : upd H2 m (.dK (kD c l 0)) c = some (.lst (cs.map V.int)) := by rw [upd_ne cm]; exact hc2
  generalize upd H2 m (.dK (kD c l 0)) = H3 at k3 hm3 hc3 ⊢
  refine ⟨_, rfl, a, rfl, ⟨_, k3.same.seq ha⟩, fun D hD => ?_⟩
  have hDm : m ≠ D := ne_of_none hm3 hD
  have hDc : c ≠ D := ne_of_none hc3 hD
  refine lc_it (n := (ns.map V.int).length) walk_list (fun i H' => Kp [] H3 H' ∧ ∃ gs : List Int, H' D = some (.lst (gs.map V.int)) ∧ gs.length = i) ⟨Kp.new hD, [], upd_same, rfl⟩ (fun i H' _ h => h.1.same.seq (k3.same.seq ha)) ?_ ?_
  · rintro i y _ H4 hi ⟨k4, gs, hD4, hgl⟩ ⟨rfl, hyi⟩
    rw [List.getElem?_map] at hyi
    obtain ⟨cell, _, rfl⟩ := Option.map_eq_some_iff.mp hyi
    rw [List.length_map] at hi
    refine ⟨rfl, _, rfl, _, _, rfl, rfl, ⟨by decide, by decide, by decide⟩, _, _, rfl, rfl, _, rfl, ?_⟩
    have fin : ∀ v : Int, ∃ acc, H4 D = some (.lst acc) ∧ acc.length < sizeLine ∧ Kp [] H3 (upd H4 D (.lst (acc ++ [.int v]))) ∧ ∃ gs : List Int, upd H4 D (.lst (acc ++ [.int v])) D = some (.lst (gs.map V.int)) ∧ gs.length = i + 1 := fun v =>
      ⟨_, hD4, by rw [List.length_map]; exact small_lt (by omega), k4.put hD, gs ++ [v], by rw [upd_same, List.map_append]; rfl, by simp [hgl]⟩
    refine ite2 (fun hc => ?_) (fun hc => ?_)
    · exact ⟨_, rfl, fin _⟩
    · exact fin _
  · rintro H4 ⟨k4, gs, hD4, hgl⟩
    rw [List.length_map] at hgl
    have hp : DPut H4 m (.str "great") (.ref D) (upd H4 m (.dK (kD c D 0))) := by
      rw [← kD_pg c l D 0]; exact DPut.k (k := .inr "great") (k4.k _ _ (by simp) hm3) (small_lt (by simp [kD]))
    refine ⟨_, rfl, m, _, rfl, hp, ?_⟩
    refine ⟨_, rfl, q _ m c D ((k3.trans k4).put hm) hm (k3.n _ hD) ⟨0, cs, gs, upd_same, by rw [upd_ne cm]; exact k4.k _ _ (by simp) hc3, hcs, by rw [upd_ne (Ne.symm hDm)]; exact hD4, by omega, Nat.le_refl _, hDc⟩⟩
end
end N0

namespace N0
open PySem L2 PySem.Spec PyProof.Rows
theorem VOk.snoc {i : Nat} {v : List Nat} (h : VOk i v) : VOk (i + 1) (v ++ [i]) := by
  refine ⟨List.pairwise_append.mpr ⟨h.1, by simp, fun x hx y hy => ?_⟩, fun x hx => ?_⟩
  · rw [List.mem_singleton.mp hy]; exact h.2 x hx
  · rcases List.mem_append.mp hx with z | z
    · have := h.2 x z; omega
    · rw [List.mem_singleton.mp z]; omega
theorem VOk.up {i : Nat} {v : List Nat} (h : VOk i v) : VOk (i + 1) v := ⟨h.1, fun x hx => by have := h.2 x hx; omega⟩
def spVal : Sp := fun vs H Q _ => ∃ (m c g : Addr) (n b : Nat), vs = [.ref m, .int (n : Int)] ∧ DrawAt H m c g b ∧ n ≤ 600 ∧ b + 700 ≤ 1000000 ∧
  ∀ H' x v, Kp [m, g] H H' → DrawAt H' m c g (b + 1 + n) → ValV H' v x → VOk n v → Q x H'
/-- a list of pairs -/
def PairsL (H : Hp) (ps : List (Nat × Nat)) (lv : List V) : Prop := lv.length = ps.length ∧ ∀ (i : Nat) (p : Nat × Nat), ps[i]? = some p → ∃ c, lv[i]? = some (.ref c) ∧ H c = some (.tup [.int p.1, .int p.2])
theorem PairsL.kp {S : List Addr} {H H' : Hp} {ps : List (Nat × Nat)} {lv : List V} (k : Kp S H H') : PairsL H ps lv → PairsL H' ps lv
  | ⟨h1, h2⟩ => ⟨h1, fun i p hp => let ⟨c, e1, e2⟩ := h2 i p hp; ⟨c, e1, k.t _ _ e2⟩⟩
theorem PairsL.snoc {H : Hp} {ps : List (Nat × Nat)} {lv : List V} {p : Nat × Nat} {c : Addr} (h : PairsL H ps lv) (hc : H c = some (.tup [.int p.1, .int p.2])) : PairsL H (ps ++ [p]) (lv ++ [.ref c]) := by
  refine ⟨by simp [h.1], fun i q hq => ?_⟩
  by_cases e : i < ps.length
  · rw [List.getElem?_append_left e] at hq
    obtain ⟨c', e1, e2⟩ := h.2 i q hq
    exact ⟨c', by rw [List.getElem?_append_left (by rw [h.1]; exact e)]; exact e1, e2⟩
  · have hi := (List.getElem?_eq_some_iff.mp hq).1
    rw [List.length_append, List.length_singleton] at hi
    obtain rfl : i = ps.length := by omega
    rw [List.getElem?_append_right (Nat.le_refl _), Nat.sub_self] at hq
    cases hq
    exact ⟨c, by rw [← h.1, List.getElem?_append_right (Nat.le_refl _), Nat.sub_self]; rfl, hc⟩
def PsB (n i j : Nat) (ps : List (Nat × Nat)) : Prop := PsOk n ps ∧ ∀ p ∈ ps, p.1 < i ∨ (p.1 = i ∧ p.2 < j)
theorem PsB.snoc {n i j : Nat} {ps : List (Nat × Nat)} (h : PsB n i j ps) (hij : i < j) (hj : j < n) : PsB n i (j + 1) (ps ++ [(i, j)]) := by
  refine ⟨⟨fun p hp => ?_, List.pairwise_append.mpr ⟨h.1.2, by simp, fun p hp q hq => ?_⟩⟩, fun p hp => ?_⟩
  · rcases List.mem_append.mp hp with z | z
    · exact h.1.1 p z
    · rw [List.mem_singleton.mp z]; exact ⟨hij, hj⟩
  · rw [List.mem_singleton.mp hq]
    rcases h.2 p hp with z | z
    · exact .inl z
    · exact .inr z
  · rcases List.mem_append.mp hp with z | z
    · rcases h.2 p z with y | y
      · exact .inl y
      · exact .inr ⟨y.1, by omega⟩
    · rw [List.mem_singleton.mp z]; exact .inr ⟨rfl, by simp⟩
theorem PsB.up {n i j : Nat} {ps : List (Nat × Nat)} (h : PsB n i j ps) : PsB n i (j + 1) ps := ⟨h.1, fun p hp => (h.2 p hp).imp id fun z => ⟨z.1, by omega⟩⟩
theorem PsB.next {n i j k : Nat} {ps : List (Nat × Nat)} (h : PsB n i j ps) : PsB n (i + 1) k ps := ⟨h.1, fun p hp => .inl (by rcases h.2 p hp with z | z <;> omega)⟩
theorem PsB.re {n i j k : Nat} {ps : List (Nat × Nat)} (h : PsB n i j ps) (h0 : ∀ p ∈ ps, p.1 < i) : PsB n i k ps := ⟨h.1, fun p hp => .inl (h0 p hp)⟩
theorem PsOk.filter {n : Nat} {ps : List (Nat × Nat)} (h : PsOk n ps) (f : Nat × Nat → Bool) : PsOk n (ps.filter f) := ⟨fun p hp => h.1 p (List.mem_filter.mp hp).1, h.2.filter f⟩
def spFrame : Sp := fun vs H Q _ => ∃ (m c g : Addr) (t b : Nat), vs = [.ref m, .int (t : Int)] ∧ DrawAt H m c g b ∧ 1 ≤ t ∧ t ≤ 9 ∧ b + 100 ≤ 1000000 ∧
  ∀ H' x n ps, Kp [m, g] H H' → DrawAt H' m c g (b + 100) → FrV H' n ps x → FrOk n ps → n ≤ t → Q x H'
section
variable {P : Program} {w : World} {K : PySem.W.Frag} {mg : Str → Option Value} {base : Heap} {f C C2 : Addr} {fd : FuncData}
theorem ok_law_value (F : Fun K "_law_value" "_law_value" s_law_value f fd) (T : Txt K mg) (D_law_draw : Def P w K mg base "_law_draw" 2 ["m", "limit"] spDraw) : FnOk P w K mg base CX0 3 f fd ["m", "many"] spVal := by
  refine F.ok sc_law_value (fun vs H Q E h => ?_) (fun cdv A outer s H vs Q E hr h => ?_)
  · obtain ⟨m, c, g, n, b, rfl, _⟩ := h
    rfl
  obtain ⟨m, c, g, n, b, rfl, hm, hn, hb, q⟩ := h
  have nd := sc_law_value.nd
  refine ⟨_, (pss_cons (ps_set (i := 2) nd rfl (Or.inr rfl) (pe_op op_add pe_int (e_fn D_law_draw (hr.mono (by omega)) (pa_cons (pv 0) (pa_cons pe_int pa_nil)))))
      (pss_one (ps_ret (pe_callTy call_tuple_of (by rfl) T.tuple bt_tuple (pa_cons (pe_lc (own := [("point", 3)]) (g := gName 3) rfl nd (pi_range1 rfl T.range (pa_cons (pv 1) pa_nil)) (blkOk_by (N := N_law_value) (sc := defScope s_law_value) (by decide +kernel)) (fun _ _ _ _ _ => pg_name (i := 3) nd rfl (Or.inl rfl)) (fun _ _ _ _ _ => pts_one (pt_cmpR op_lt (e_fn D_law_draw (hr.mono (by omega)) (pa_cons (pv 0) (pa_cons pe_int pa_nil))) (pv 2) (nomark _))) (fun _ _ _ _ _ => (pv 3))) pa_nil))))), ?_⟩
  refine ⟨_, rfl, m, c, g, 4, b, rfl, hm, by decide, by decide, by omega, fun H1 d k1 hm1 hd => ⟨_, _, rfl, rfl, ?_⟩⟩
  refine ⟨_, rfl, n, rfl, by omega, by omega, fun D hD => ?_⟩
  have nD := hm1.ne hD
  refine lc_it (n := (n : Int).toNat) walk_range (fun i H' => Kp [m, g] H1 H' ∧ DrawAt H' m c g (b + 1 + i) ∧ ∃ v : List Nat, H' D = some (.lst (v.map fun k : Nat => V.int k)) ∧ VOk i v) ⟨Kp.new hD, hm1.put nD, [], upd_same, List.Pairwise.nil, fun x hx => by cases hx⟩ (fun _ _ _ _ => trivial) ?_ ?_
  · rintro i y _ H2 hi ⟨k2, hm2, v, hD2, hv⟩ ⟨rfl, rfl⟩
    have hi2 : i < n := by rw [Int.toNat_natCast] at hi; exact hi
    have e0 : (0 : Int) + (i : Int) = (i : Int) := by omega
    dsimp only [gName]
    rw [e0]
    refine ⟨rfl, _, rfl, m, c, g, 5, b + 1 + i, rfl, hm2, by decide, by decide, by omega, fun H3 d3 k3 hm3 hd3 => ⟨_, rfl, _, _, rfl, rfl, _, rfl, ?_⟩⟩
    have hD3 := k3.k _ _ (by simp [nD.1, nD.2.2]) hD2
    have hvl := hv.len
    refine ite2 (fun hc => ?_) (fun hc => ?_)
    · exact ⟨_, rfl, _, hD3, by rw [List.length_map]; exact small_lt (by omega), (k2.trans k3).put hD, hm3.put nD, v ++ [i], by rw [upd_same, List.map_append]; rfl, hv.snoc⟩
    · exact ⟨k2.trans k3, hm3, v, hD3, hv.up⟩
  · rintro H2 ⟨k2, hm2, v, hD2, hv⟩
    rw [Int.toNat_natCast] at hm2 hv
    exact ⟨D, _, rfl, .inl ⟨SqL.of hD2, fun p hp => q _ _ v ((k1.trans k2).add hp) (hm2.put (hm2.ne hp)) ⟨p, rfl, upd_same⟩ hv⟩⟩
theorem ok_law_frame (F : Fun K "_law_frame" "_law_frame" s_law_frame f fd) (T : Txt K mg) (D_law_draw : Def P w K mg base "_law_draw" 2 ["m", "limit"] spDraw) : FnOk P w K mg base CX0 3 f fd ["m", "most"] spFrame := by
  refine F.ok sc_law_frame (fun vs H Q E h => ?_) (fun cdv A outer s H vs Q E hr h => ?_)
  · obtain ⟨m, c, g, n, b, rfl, _⟩ := h
    rfl
  obtain ⟨m, c, g, t, b, rfl, hm, ht1, ht9, hb, q⟩ := h
  have nd := sc_law_frame.nd
  refine ⟨_, (pss_cons (ps_par (i := 2) (j := 3) rfl nd rfl rfl (by decide) rfl rfl (pa_cons (pe_op op_add pe_int (e_fn D_law_draw (hr.mono (by omega)) (pa_cons (pv 0) (pa_cons (pv 1) pa_nil)))) (pa_cons (e_fn D_law_draw (hr.mono (by omega)) (pa_cons (pv 0) (pa_cons pe_int pa_nil))) pa_nil)) rfl)
      (pss_cons (ps_set (i := 4) nd rfl (Or.inl rfl) (pe_lst pa_nil))
      (pss_cons (ps_for PassesOwn.never rfl (pi_range1 rfl T.range (pa_cons (pv 2) pa_nil)) (pg_name (i := 5) nd rfl (Or.inl rfl)) (pss_one (ps_for PassesOwn.never rfl (pi_range2 rfl T.range (pa_cons (pe_op op_add (pv 5) pe_int) (pa_cons (pv 2) pa_nil))) (pg_name (i := 6) nd rfl (Or.inl rfl)) (pss_cons (ps_set (i := 7) nd rfl (Or.inl rfl) (e_fn D_law_draw (hr.mono (by omega)) (pa_cons (pv 0) (pa_cons pe_int pa_nil))))
      (pss_one (ps_if (PW.pt (pw_or (pt_cmpR op_lt (pv 7) (pv 3) (nomark _)) (pw_or1 (PW.pt (pw_and (pt_cmpR op_eq (pv 3) pe_int (nomark _)) (pw_and1 (pt_cmpR op_eq (pe_op op_mod (pe_callTy call_int1 (by rfl) T.int bt_int (pa_cons (pe_op op_add (pv 5) (pv 6)) pa_nil)) pe_int) pe_int (nomark _)))))))) (pss_one (ps_expr (pe_bm PySem.F.plainAttrs_list PySem.F.slot_list_append PySem.F.type_list_append mt_append (pv 4) (pa_cons (pe_tup (pa_cons (pv 5) (pa_cons (pv 6) pa_nil))) pa_nil)))) pss_nil))))))
      (pss_one (ps_ret (pe_tup (pa_cons (pv 2) (pa_cons (pe_callTy call_tuple_of (by rfl) T.tuple bt_tuple (pa_cons (pe_ifExp (PW.pt (pw_or (pt_cmpR op_lt (pv 3) pe_int (nomark _)) (pw_or1 (pt_cmpR op_eq (e_fn D_law_draw (hr.mono (by omega)) (pa_cons (pv 0) (pa_cons pe_int pa_nil))) pe_int (nomark _))))) (pv 4) (pe_lc (own := [("pair", 8)]) (g := gName 8) rfl nd (pi_list (pv 4)) (blkOk_by (N := N_law_frame) (sc := defScope s_law_frame) (by decide +kernel)) (fun _ _ _ _ _ => pg_name (i := 8) nd rfl (Or.inl rfl)) (fun _ _ _ _ _ => pts_one (pt_cmpR op_eq (pe_op op_mod (pe_callTy call_int1 (by rfl) T.int bt_int (pa_cons (pe_op op_add (pe_ix (ix_tupk K) (pv 8) pe_int (fun _ _ => rfl)) (pe_ix (ix_tupk K) (pv 8) pe_int (fun _ _ => rfl))) pa_nil)) pe_int) pe_int (nomark _))) (fun _ _ _ _ _ => (pv 8)))) pa_nil)) pa_nil)))))))), ?_⟩
  refine ⟨_, rfl, _, rfl, m, c, g, t, b, rfl, hm, by omega, by omega, by omega, fun H1 d k1 hm1 hd => ⟨_, _, rfl, rfl, ?_⟩⟩
  refine ⟨_, rfl, m, c, g, 6, b + 1, rfl, hm1, by decide, by decide, by omega, fun H2 kd k2 hm2 hkd => ⟨_, _, rfl, ?_⟩⟩
  obtain ⟨n, hn⟩ : ∃ n : Nat, n = 1 + d := ⟨_, rfl⟩
  have en : (1 : Int) + (d : Int) = (n : Int) := by omega
  dsimp only
  rw [en]
  refine ⟨Nat.zero_le _, fun F0 hF => ?_⟩
  have k12 := k1.trans k2
  have nF := hm2.ne hF
  have hF0 : H F0 = none := k12.n _ hF
  have k3 : Kp [m, g] H2 (upd H2 F0 (.lst [])) := Kp.new hF
  have hm3 := hm2.put (o := .lst []) nF
  have hF3 : upd H2 F0 (.lst []) F0 = some (.lst []) := upd_same
  generalize upd H2 F0 (.lst []) = H3 at k3 hm3 hF3 ⊢
  have k13 := k12.trans k3
  refine ⟨_, rfl, n, rfl, by omega, by omega, ?_⟩
  refine for_it (n := (n : Int).toNat) walk_range (fun i σ H' => ∃ (ps : List (Nat × Nat)) (lv : List V) (o5 o6 o7 : Option V), σ = [some (.ref m), some (.int (t : Int)), some (.int (n : Int)), some (.int (kd : Int)), some (.ref F0), o5, o6, o7, none] ∧ Kp [m, g] H H' ∧ DrawAt H' m c g (b + 2 + 9 * i) ∧
    H' F0 = some (.lst lv) ∧ PairsL H' ps lv ∧ PsB n i 0 ps ∧ ps.length ≤ 9 * i) ⟨[], [], none, none, none, rfl, k13, hm3.mono (by omega), hF3, ⟨rfl, fun i p hp => by simp at hp⟩, ⟨⟨(fun p hp => by cases hp), List.Pairwise.nil⟩, (fun p hp => by cases hp)⟩, Nat.le_refl _⟩ (fun _ _ _ _ _ => trivial) ?_ ?_
  · rintro i y σ _ H4 hi ⟨ps, lv, o5, o6, o7, rfl, k4, hm4, hF4, hL4, hB4, hl4⟩ ⟨rfl, rfl⟩
    have hi2 : i < n := by rw [Int.toNat_natCast] at hi; exact hi
    have e0 : (0 : Int) + (i : Int) = (i : Int) := by omega
    dsimp only [gName]
    rw [e0]
    refine ⟨_, rfl, _, _, rfl, rfl, _, rfl, _, _, rfl, ⟨by omega, by omega, by omega, by omega⟩, ?_⟩
    have e1 : ((n : Int) - ((i : Int) + 1)).toNat = n - (i + 1) := by omega
    rw [e1]
    refine for_it (n := n - (i + 1)) walk_range (fun j σ H' => ∃ (ps : List (Nat × Nat)) (lv : List V) (o6 o7 : Option V), σ = [some (.ref m), some (.int (t : Int)), some (.int (n : Int)), some (.int (kd : Int)), some (.ref F0), some (.int (i : Int)), o6, o7, none] ∧ Kp [m, g] H H' ∧ DrawAt H' m c g (b + 2 + 9 * i + j) ∧
      H' F0 = some (.lst lv) ∧ PairsL H' ps lv ∧ PsB n i (i + 1 + j) ps ∧ ps.length ≤ 9 * i + j) ⟨ps, lv, _, _, rfl, k4, hm4, hF4, hL4, ⟨hB4.1, fun p hp => (hB4.2 p hp).imp id fun z => ⟨z.1, by omega⟩⟩, hl4⟩ (fun _ _ _ _ _ => trivial) ?_ ?_
    · rintro j y σ _ H5 hj ⟨ps, lv, o6, o7, rfl, k5, hm5, hF5, hL5, hB5, hl5⟩ ⟨rfl, rfl⟩
      have ej : (i : Int) + 1 + (j : Int) = ((i + 1 + j : Nat) : Int) := by omega
      dsimp only [gName]
      rw [ej]
      refine ⟨_, rfl, m, c, g, 6, b + 2 + 9 * i + j, rfl, hm5, by decide, by decide, by omega, fun H6 pk k6 hm6 hpk => ?_⟩
      have hF6 := k6.k _ _ (by simp [nF.1, nF.2.2]) hF5
      have hL6 := hL5.kp k6
      have k56 := k5.trans k6
      dsimp only [gName]
      show tIfS _ _ _ _ _ _
      refine EvT.ifS (EvT.or (.of fun Q k => ⟨_, rfl, _, rfl, _, _, rfl, rfl, _, rfl, k⟩) fun _ H' k' => EvT.and (.of fun Q k => ⟨_, rfl, rfl, _, rfl, k⟩) fun _ H'' k'' => .of fun Q k => ⟨_, rfl, _, rfl, _, _, rfl, rfl, .inl ⟨_, rfl, _, _, rfl, rfl, (show (0 : Int) < 2 by decide), rfl, _, rfl, k⟩⟩) (fun hb7 H7 k7 => ?_) (fun hb7 H7 k7 => ?_)
      · have hF7 := k7.k _ _ (by simp) hF6
        refine ⟨_, rfl, .inl ⟨rfl, _, SqL.of hF7⟩, _, rfl, _, rfl, by show 2 ≤ sizeLine; decide, fun p hp => ?_⟩
        have k8 : Kp [] H7 (upd H7 p (.tup [.int (i : Int), .int ((i + 1 + j : Nat) : Int)])) := Kp.new hp
        have hp8 : upd H7 p (.tup [.int (i : Int), .int ((i + 1 + j : Nat) : Int)]) p = some (.tup [.int (i : Int), .int ((i + 1 + j : Nat) : Int)]) := upd_same
        generalize upd H7 p (.tup [.int (i : Int), .int ((i + 1 + j : Nat) : Int)]) = H8 at k8 hp8 ⊢
        have hF8 := k8.k _ _ (by simp) hF7
        have k68 := k7.trans k8
        refine ⟨F0, lv, _, rfl, rfl, hF8, by rw [hL6.1]; exact small_lt (by omega), ?_⟩
        have kw : Kp [F0] H8 (upd H8 F0 (.lst (lv ++ [.ref p]))) := (Kp.refl _ _).wr (by simp) hF8 (by intro xs z; cases z)
        refine ⟨ps ++ [(i, i + 1 + j)], lv ++ [.ref p], _, _, rfl, (k56.trans k68.mono0).put hF0, ((hm6.kp k68).put nF).mono (by omega), upd_same, ((hL6.kp k68).kp kw).snoc (kw.t _ _ hp8), hB5.snoc (by omega) (by omega), by rw [List.length_append, List.length_singleton]; omega⟩
      · exact ⟨ps, lv, _, _, rfl, k56.trans k7.mono0, (hm6.kp k7).mono (by omega), k7.k _ _ (by simp) hF6, hL6.kp k7, hB5.up, by omega⟩
    · rintro σ H5 ⟨ps, lv, o6, o7, rfl, k5, hm5, hF5, hL5, hB5, hl5⟩
      exact ⟨ps, lv, _, _, _, rfl, k5, hm5.mono (by omega), hF5, hL5, hB5.next, by omega⟩
  · rintro σ H4 ⟨ps, lv, o5, o6, o7, rfl, k4, hm4, hF4, hL4, hB4, hl4⟩
    rw [Int.toNat_natCast] at hm4 hB4 hl4
    have hok : ∀ ps', PsOk n ps' → ps'.length ≤ 81 → FrOk n ps' := fun ps' h1 h2 => ⟨by omega, by omega, h1, by omega⟩
    have fin : ∀ (H5 : Hp) (l : Addr) (ps' : List (Nat × Nat)), Kp [m, g] H H5 → DrawAt H5 m c g (b + 100) → PairsV H5 ps' l → PsOk n ps' → ps'.length ≤ 81 → ([V.int (n : Int), .ref l] : List V).length ≤ sizeLine ∧ ∀ p, H5 p = none → Q (.ref p) (upd H5 p (.tup [.int (n : Int), .ref l])) := fun H5 l ps' k5 hm5 hv h1 h2 =>
      ⟨by show 2 ≤ sizeLine; decide, fun p hp => q _ _ n ps' (k5.add hp) (hm5.put (hm5.ne hp)) ⟨p, l, rfl, upd_same, hv.kp (Kp.new (S := []) hp)⟩ (hok ps' h1 h2) (by omega)⟩
    have tup : ∀ (H5 : Hp) (L : Addr) (lv' : List V) (ps' : List (Nat × Nat)), Kp [m, g] H H5 → DrawAt H5 m c g (b + 100) → H5 L = some (.lst lv') → PairsL H5 ps' lv' → PsOk n ps' → ps'.length ≤ 81 → ∀ l, H5 l = none → ([V.int (n : Int), .ref l] : List V).length ≤ sizeLine ∧ ∀ p, upd H5 l (.tup lv') p = none → Q (.ref p) (upd (upd H5 l (.tup lv')) p (.tup [.int (n : Int), .ref l])) := fun H5 L lv' ps' k5 hm5 hL hv h1 h2 l hl =>
      fin _ l ps' (k5.add hl) (hm5.put (hm5.ne hl)) ⟨lv', upd_same, hv.1, (PairsL.kp (Kp.new (S := []) hl) hv).2⟩ h1 h2
    refine ⟨_, rfl, ?_⟩
    refine ⟨_, rfl, _, _, rfl, rfl, _, rfl, ?_⟩
    refine ite2 (fun hc => ?_) (fun hc => ?_)
    · refine iteT ⟨_, rfl, F0, _, rfl, .inl ⟨SqL.of hF4, ?_⟩⟩
      exact tup H4 F0 lv ps k4 (hm4.mono (by omega)) hF4 hL4 hB4.1 (by omega)
    · refine ⟨_, rfl, m, c, g, 2, b + 2 + 9 * n, rfl, hm4, by decide, by decide, by omega, fun H5 d5 k5 hm5 hd5 => ⟨rfl, _, rfl, ?_⟩⟩
      have hF5 := k5.k _ _ (by simp [nF.1, nF.2.2]) hF4
      have hL5 := hL4.kp k5
      refine ite2 (fun hc => ?_) (fun hc => ?_)
      · refine ⟨_, rfl, F0, _, rfl, .inl ⟨SqL.of hF5, ?_⟩⟩
        exact tup H5 F0 lv ps (k4.trans k5) (hm5.mono (by omega)) hF5 hL5 hB4.1 (by omega)
      · refine ⟨_, rfl, F0, rfl, ⟨_, SqL.of hF5⟩, fun D hD => ?_⟩
        have nD := hm5.ne hD
        have hFD : F0 ≠ D := ne_of_none hF5 hD
        refine lc_it (n := lv.length) walk_list (fun i H' => Kp [] H5 H' ∧ ∃ lv2, H' D = some (.lst lv2) ∧ PairsL H' ((ps.take i).filter fun p => decide ((p.1 + p.2) % 2 = 1)) lv2) ⟨Kp.new hD, [], upd_same, rfl, fun i p hp => by simp at hp⟩ (fun i H' _ h => SqL.of (h.1.k _ _ (by simp) hF5)) ?_ ?_
        · rintro i y _ H6 hi ⟨k6, lv2, hD6, hL6⟩ ⟨rfl, hy⟩
          have hi2 : i < ps.length := by rw [← hL5.1]; exact hi
          have hpi : ps[i]? = some ps[i] := List.getElem?_eq_getElem hi2
          obtain ⟨pc, e1, e2⟩ := hL5.2 i _ hpi
          obtain rfl : V.ref pc = y := Option.some.inj (e1.symm.trans hy)
          have e26 := k6.t _ _ e2
          generalize hpp : ps[i] = pr at hpi e2 e26
          refine ⟨rfl, _, rfl, pc, _, 0, _, rfl, rfl, tupT e26, atI_nat (j := 0) rfl, _, rfl, pc, _, 1, _, rfl, rfl, tupT e26, atI_nat (j := 1) rfl, _, _, rfl, rfl, .inl ⟨_, rfl, _, _, rfl, rfl, (show (0 : Int) < 2 by decide), rfl, _, rfl, ?_⟩⟩
          have hdec : (decide (V.int (((pr.1 : Int) + (pr.2 : Int)) % 2) = V.int 1) = true) ↔ (pr.1 + pr.2) % 2 = 1 := by
            rw [decide_eq_true_iff, V.int.injEq]; omega
          have etk : ps.take (i + 1) = ps.take i ++ [pr] := by rw [List.take_add_one, hpi]; rfl
          have hl2 : lv2.length ≤ 81 := by
            rw [hL6.1]
            have := List.length_filter_le (fun p : Nat × Nat => decide ((p.1 + p.2) % 2 = 1)) (ps.take i)
            rw [List.length_take] at this
            omega
          refine ite2 (fun hc2 => ?_) (fun hc2 => ?_)
          · have h1 := hdec.mp hc2
            have kw : Kp [D] H6 (upd H6 D (.lst (lv2 ++ [.ref pc]))) := (Kp.refl _ _).wr (by simp) hD6 (by intro xs z; cases z)
            refine ⟨_, rfl, _, hD6, small_lt (by omega), k6.put hD, _, upd_same, ?_⟩
            rw [etk, List.filter_append, List.filter_cons, if_pos (decide_eq_true h1), List.filter_nil]
            exact (hL6.kp kw).snoc (kw.t _ _ e26)
          · have h1 : ¬ (pr.1 + pr.2) % 2 = 1 := fun z => hc2 (hdec.mpr z)
            refine ⟨k6, lv2, hD6, ?_⟩
            rw [etk, List.filter_append, List.filter_cons, if_neg (by simpa using h1), List.filter_nil, List.append_nil]
            exact hL6
        · rintro H6 ⟨k6, lv2, hD6, hL6⟩
          rw [List.take_of_length_le (by rw [hL5.1]; exact Nat.le_refl _)] at hL6
          refine ⟨D, _, rfl, .inl ⟨SqL.of hD6, ?_⟩⟩
          have := List.length_filter_le (fun p : Nat × Nat => decide ((p.1 + p.2) % 2 = 1)) ps
          exact tup H6 D lv2 _ ((k4.trans k5).trans k6.mono0) ((hm5.kp k6).mono (by omega)) hD6 hL6 (hB4.1.filter _) (by omega)
end
end N0

namespace N0
open PySem L2 PySem.Spec PyProof.Rows
mutual
/-- None, bools, ints, texts, tuples of such -/
def pl : PyData → Bool
  | .tuple ds => decide (ds.length ≤ 1000) && plAll ds
  | .bool _ => true
  | .int _ => true
  | .str _ => true
  | .none => true
  | _ => false
def plAll : List PyData → Bool
  | [] => true
  | d :: ds => pl d && plAll ds
end
theorem plAll_at : ∀ {ds : List PyData} {i : Nat} {d : PyData}, plAll ds = true → ds[i]? = some d → pl d = true
  | d :: ds, 0, e, h, q => by simp at q; subst q; rw [plAll, Bool.and_eq_true] at h; exact h.1
  | d :: ds, i + 1, e, h, q => by rw [plAll, Bool.and_eq_true] at h; exact plAll_at (i := i) h.2 (by simpa using q)
theorem depthAll_at : ∀ {ds : List PyData} {i : Nat} {d : PyData}, ds[i]? = some d → d.depth ≤ PyData.depthAll ds
  | d :: ds, 0, e, q => by simp at q; subst q; rw [PyData.depthAll]; omega
  | d :: ds, i + 1, e, q => by have := depthAll_at (ds := ds) (i := i) (d := e) (by simpa using q); rw [PyData.depthAll]; omega
theorem DpAll.at {K : PySem.W.Frag} {H : Hp} : ∀ {vs : List V} {ds : List PyData} {i : Nat} {v : V} {d : PyData}, DpAll K H vs ds → vs[i]? = some v → ds[i]? = some d → Dp K H v d
  | _, _, 0, _, _, .cons h _, e1, e2 => by simp at e1 e2; subst e1; subst e2; exact h
  | _, _, i + 1, _, _, .cons _ h, e1, e2 => DpAll.at (i := i) h (by simpa using e1) (by simpa using e2)
def spSame (K : PySem.W.Frag) (n : Nat) : Sp := fun vs H Q _ => ∃ (v w : V) (d : PyData), vs = [v, w] ∧ Dp K H v d ∧ Dp K H w d ∧ pl d = true ∧ d.depth < n ∧ ∀ H', Kp [] H H' → Q (.bl true) H'
section
variable {P : Program} {w : World} {K : PySem.W.Frag} {mg : Str → Option Value} {base : Heap} {f C : Addr} {fd : FuncData}
theorem ok_law_same {n : Nat} (F : Fun K "_law_same" "_law_same" s_law_same f fd) (T : Txt K mg) (D_law_same : Def P w K mg base "_law_same" n ["told", "due"] (spSame K n)) : FnOk P w K mg base CX0 (n + 1) f fd ["told", "due"] (spSame K (n + 1)) := by
  refine F.ok sc_law_same (fun vs H Q E h => ?_) (fun cdv A outer s H vs Q E hr h => ?_)
  · obtain ⟨v, u, d, rfl, _⟩ := h
    rfl
  obtain ⟨v, u, d, rfl, hv, hu, hp, hd, q⟩ := h
  have nd := sc_law_same.nd
  refine ⟨_, (pss_cons (ps_if (pt_val (e_isi T (pa_cons (pv 1) (pa_cons (e_ty T.tuple bt_tuple) pa_nil)))) (pss_cons (ps_if (PW.pt (pw_or (pt_not (pt_val (e_isi T (pa_cons (pv 0) (pa_cons (e_ty T.tuple bt_tuple) pa_nil))))) (pw_or1 (pt_cmpR op_ne (e_len T (pa_cons (pv 0) pa_nil)) (e_len T (pa_cons (pv 1) pa_nil)) (nomark _))))) (pss_one (ps_ret pe_bl)) pss_nil)
      (pss_cons (ps_for PassesOwn.never rfl (RZ.pi_zipA (by rfl) T.zip (pa_cons (pv 0) (pa_cons (pv 1) pa_nil))) (pg_tup rfl (pgs_cons (pg_name (i := 2) nd rfl (Or.inl rfl)) (pgs_cons (pg_name (i := 3) nd rfl (Or.inl rfl)) pgs_nil))) (pss_one (ps_if (pt_not (pt_val (e_fn D_law_same (hr.mono (by omega)) (pa_cons (pv 2) (pa_cons (pv 3) pa_nil))))) (pss_one (ps_ret pe_bl)) pss_nil)))
      (pss_one (ps_ret pe_bl)))) pss_nil)
      (pss_cons (ps_if (pt_cmpR op_isN (pv 1) pe_non (nomark _)) (pss_one (ps_ret (pe_cmpR op_isN (pv 0) pe_non (nomark _)))) pss_nil)
      (pss_cons (ps_if (pt_val (e_isi T (pa_cons (pv 1) (pa_cons (e_ty T.bool bt_bool) pa_nil)))) (pss_one (ps_ret (pe_and (e_isi T (pa_cons (pv 0) (pa_cons (e_ty T.bool bt_bool) pa_nil))) (pe_one (pe_cmpR op_eq (pv 0) (pv 1) (nomark _)))))) pss_nil)
      (pss_cons (ps_if (pt_val (e_isi T (pa_cons (pv 1) (pa_cons (e_ty T.str bt_str) pa_nil)))) (pss_one (ps_ret (pe_and (e_isi T (pa_cons (pv 0) (pa_cons (e_ty T.str bt_str) pa_nil))) (pe_one (pe_cmpR op_eq (pv 0) (pv 1) (nomark _)))))) pss_nil)
      (pss_one (ps_ret (pe_and (e_isi T (pa_cons (pv 0) (pa_cons (e_ty T.int bt_int) pa_nil))) (pe_and (pe_not (e_isi T (pa_cons (pv 0) (pa_cons (e_ty T.bool bt_bool) pa_nil)))) (pe_one (pe_cmpR op_eq (pv 0) (pv 1) (nomark _))))))))))), ?_⟩
  refine ⟨_, rfl, _, _, _, _, _, rfl, .ty _, Dp.ty hu, kit_ty (kit_tuple d), _, rfl, ?_⟩
  cases d with
  | tuple ds =>
    refine iteT ?_
    cases hv with
    | @tup a xs _ ha hxs =>
    cases hu with
    | @tup b ys _ hb hys =>
    rw [pl, Bool.and_eq_true, decide_eq_true_iff] at hp
    obtain ⟨hp1, hp2⟩ := hp
    have l1 := dpAll_len hxs
    have l2 := dpAll_len hys
    refine ⟨_, rfl, _, _, _, _, _, rfl, .ty _, Dp.ty (.tup ha hxs), kit_ty (kit_tuple (.tuple ds)), _, rfl, ?_⟩
    refine iteF ?_
    refine ⟨_, rfl, a, xs, rfl, .inr ha, _, rfl, b, ys, rfl, .inr hb, rfl, _, rfl, ?_⟩
    refine iteF' (by rw [l1, l2]; simp) ?_
    refine ⟨_, rfl, _, rfl, a, b, xs, ys, rfl, .inr ⟨ha, hb, ?_⟩⟩
    refine for_it (n := ds.length) (walk_zipT (xs := xs) (ys := ys) (n := ds.length) (by rw [l1, l2]; simp)) (fun i σ H' => ∃ o2 o3, σ = [some (.ref a), some (.ref b), o2, o3] ∧ Kp [] H H') ⟨none, none, rfl, Kp.refl _ _⟩ (fun i σ H' _ ⟨_, _, _, k⟩ => ⟨N0.SqT.kp k ha, N0.SqT.kp k hb⟩) ?_ ?_
    · rintro i y σ H2 _ hi ⟨o2, o3, rfl, k2⟩ ⟨Tp, x, y, rfl, hTp, rfl, hx, hy⟩
      have k3 : Kp [] H2 (upd H2 Tp (.tup [x, y])) := Kp.new hTp
      have hdi := List.getElem?_eq_getElem hi
      have hx' : xs[i]? = some x := hx
      have hy' : ys[i]? = some y := hy
      refine ⟨Tp, _, rfl, tupT upd_same, rfl, _, _, rfl, _, _, rfl, rfl, ?_⟩
      generalize upd H2 Tp (.tup [x, y]) = H3 at k3 ⊢
      have k23 := k2.trans k3
      refine ⟨_, rfl, _, rfl, x, y, ds[i], rfl, Dp.kp k23 (DpAll.at hxs hx' hdi), Dp.kp k23 (DpAll.at hys hy' hdi), plAll_at hp2 hdi, ?_, fun H4 k4 => ?_⟩
      · have := depthAll_at hdi
        rw [PyData.depth] at hd; omega
      · exact ⟨_, rfl, iteF ⟨_, _, rfl, k23.trans k4⟩⟩
    · rintro σ H2 ⟨o2, o3, rfl, k2⟩
      exact q _ k2
  | none =>
    cases hv; cases hu
    exact iteF ⟨_, rfl, rfl, _, rfl, iteT' (decide_eq_true rfl) ⟨_, rfl, rfl, (by rw [decide_eq_true rfl]; exact q _ (Kp.refl _ _))⟩⟩
  | bool c =>
    have hu' := Dp.ty hu
    cases hv; cases hu
    refine iteF ⟨_, rfl, rfl, _, rfl, iteF' (decide_eq_false (by intro z; cases z)) ⟨_, rfl, _, _, _, _, _, rfl, .ty _, hu', kit_ty (kit_bool (.bool c)), _, rfl, iteT ?_⟩⟩
    refine ⟨_, rfl, _, _, _, _, _, rfl, .ty _, .base (.bl c), kit_ty (kit_bool (.bool c)), _, rfl, iteT ⟨_, rfl, _, rfl, rfl, ?_⟩⟩
    rw [decide_eq_true rfl]
    exact q _ (Kp.refl _ _)
  | int c =>
    have hu' := Dp.ty hu
    cases hv; cases hu
    refine iteF ⟨_, rfl, rfl, _, rfl, iteF' (decide_eq_false (by intro z; cases z)) ⟨_, rfl, _, _, _, _, _, rfl, .ty _, hu', kit_ty (kit_bool (.int c)), _, rfl, iteF ⟨_, rfl, _, _, _, _, _, rfl, .ty _, hu', kit_ty (kit_str (.int c)), _, rfl, iteF ?_⟩⟩⟩
    refine ⟨_, rfl, _, _, _, _, _, rfl, .ty _, .base (.int c), kit_ty (kit_int (.int c)), _, rfl, iteT ⟨_, rfl, _, _, _, _, _, rfl, .ty _, .base (.int c), kit_ty (kit_bool (.int c)), _, rfl, _, rfl, iteT ⟨_, rfl, _, rfl, rfl, ?_⟩⟩⟩
    rw [decide_eq_true rfl]
    exact q _ (Kp.refl _ _)
  | str c =>
    have hu' := Dp.ty hu
    cases hv; cases hu
    refine iteF ⟨_, rfl, rfl, _, rfl, iteF' (decide_eq_false (by intro z; cases z)) ⟨_, rfl, _, _, _, _, _, rfl, .ty _, hu', kit_ty (kit_bool (.str c)), _, rfl, iteF ⟨_, rfl, _, _, _, _, _, rfl, .ty _, hu', kit_ty (kit_str (.str c)), _, rfl, iteT ?_⟩⟩⟩
    refine ⟨_, rfl, _, _, _, _, _, rfl, .ty _, .base (.str c), kit_ty (kit_str (.str c)), _, rfl, iteT ⟨_, rfl, _, rfl, rfl, ?_⟩⟩
    rw [decide_eq_true rfl]
    exact q _ (Kp.refl _ _)
  | list _ => exact absurd hp (by simp [pl])
  | dict _ => exact absurd hp (by simp [pl])
end
end N0

namespace N0
open PySem L2 PySem.Spec PyProof.Rows
/-! ### the law's contraries -/
def pK (p : Nat × Nat) : List Key × V := ([Sum.inl (p.1 : Int), Sum.inl (p.2 : Int)], V.bl true)
theorem pK_key {p q : Nat × Nat} (h : (pK p).1 = (pK q).1) : p = q := by
  have h1 := (List.cons.inj h).1
  have h2 := (List.cons.inj (List.cons.inj h).2).1
  have e1 : (p.1 : Int) = (q.1 : Int) := Sum.inl.inj h1
  have e2 : (p.2 : Int) = (q.2 : Int) := Sum.inl.inj h2
  exact Prod.ext (by omega) (by omega)
theorem pK_nodup {ps : List (Nat × Nat)} (h : ps.Nodup) : ((ps.map pK).map (·.1)).Nodup := by
  rw [List.map_map, List.Nodup, List.pairwise_map]
  exact h.imp fun hne e => hne (pK_key e)
theorem PsOk.nodup {n : Nat} {ps : List (Nat × Nat)} (h : PsOk n ps) : ps.Nodup := h.2.imp fun {p q} hlt e => by subst e; rcases hlt with z | z <;> omega
theorem pK_some {ps : List (Nat × Nat)} {a b : Nat} : (valV (ps.map pK) [Sum.inl (a : Int), Sum.inl (b : Int)]).isSome = decide ((a, b) ∈ ps) := by
  rw [← valV_any, Bool.eq_iff_iff, decide_eq_true_iff, List.any_eq_true]
  constructor
  · rintro ⟨p, hp, e⟩
    obtain ⟨q, h, rfl⟩ := List.mem_map.mp hp
    have : q = (a, b) := pK_key (p := q) (q := (a, b)) (of_decide_eq_true e)
    rw [← this]; exact h
  · intro h
    exact ⟨_, List.mem_map.mpr ⟨_, h, rfl⟩, decide_eq_true rfl⟩
theorem vl_succ (i : Nat) (p : Nat → Bool) : vl (i + 1) p = vl i p ++ (if p i = true then [i] else []) := by
  unfold vl
  rw [List.range_succ, List.filter_append]
  congr 1
  by_cases h : p i = true
  · rw [if_pos h]; simp [h]
  · rw [if_neg h]; simp [h]
theorem min_int (x y : Nat) : (if (y : Int) < (x : Int) then (y : Int) else (x : Int)) = ((min x y : Nat) : Int) := by split <;> omega
theorem max_int (x y : Nat) : (if (y : Int) > (x : Int) then (y : Int) else (x : Int)) = ((max x y : Nat) : Int) := by split <;> omega
def PairK (K : PySem.W.Frag) (H : Hp) : Addr → List Key × V → Prop := fun p kv => ∃ b, SqT K H p [.ref b, kv.2] ∧ H b = some (.tup (kv.1.map kV))
def spLC (g : Nat → List (Nat × Nat) → List Nat → List Nat) : Sp := fun vs H Q _ => ∃ (fv x : V) (n : Nat) (ps : List (Nat × Nat)) (v : List Nat), vs = [fv, x] ∧ FrV H n ps fv ∧ FrOk n ps ∧ ValV H v x ∧ v.length ≤ 1000 ∧
  ∀ H' y, Kp [] H H' → ValV H' (g n ps v) y → Q y H'
section
variable {P : Program} {w : World} {K : PySem.W.Frag} {mg : Str → Option Value} {base : Heap} {f C : Addr} {fd : FuncData}
theorem ok_law_contrary (F : Fun K "_law_contrary" "_law_contrary" s_law_contrary f fd) (T : Txt K mg) : FnOk P w K mg base CX0 1 f fd ["frame", "value"] (spLC con) := by
  refine F.ok sc_law_contrary (fun vs H Q E h => ?_) (fun cdv A outer s H vs Q E hr h => ?_)
  · obtain ⟨fv, x, n, ps, v, rfl, _⟩ := h
    rfl
  obtain ⟨fv, x, n, ps, v, rfl, ⟨a, b, rfl, ha, hb⟩, hok, ⟨xa, rfl, hx⟩, hvl, q⟩ := h
  have nd := sc_law_contrary.nd
  have h6 := hok.2.1
  refine ⟨_, (pss_cons (ps_set (i := 2) nd rfl (Or.inr rfl) (pe_callTy (call_dictT rfl hr.units) (by rfl) T.dict bt_dict (pa_cons (pe_lc (own := [("pair", 3)]) (g := gName 3) (tt := tYes) rfl nd (pi_tup (pe_ix ix_tup (pv 0) pe_int (fun _ _ => rfl))) (blkOk_by (N := N_law_contrary) (sc := defScope s_law_contrary) (by decide +kernel)) (fun _ _ _ _ _ => pg_name (i := 3) nd rfl (Or.inl rfl)) (fun _ _ _ _ _ => pts_nil) (fun _ _ _ _ _ => (pe_tup (pa_cons (pv 3) (pa_cons pe_bl pa_nil))))) pa_nil)))
      (pss_one (ps_ret (pe_callTy call_tuple_of (by rfl) T.tuple bt_tuple (pa_cons (pe_lc (own := [("point", 4)]) (g := gName 4) rfl nd (pi_range1 rfl T.range (pa_cons (pe_ix ix_tup (pv 0) pe_int (fun _ _ => rfl)) pa_nil)) (blkOk_by (N := N_law_contrary) (sc := defScope s_law_contrary) (by decide +kernel)) (fun _ _ _ _ _ => pg_name (i := 4) nd rfl (Or.inr rfl)) (fun _ _ _ _ _ => pts_one (pt_cmpR (op_eqNilk K hr.units0) (pe_lc (own := [("one", 5)]) (g := gName 5) rfl nd (pi_tupk K (pi_tup (pv 1))) (blkOk_by (N := N_law_contrary) (sc := { kind := .function, names := [(".0", .local), ("point", .cell), ("pairs", .cell), ("value", .cell)], isGenerator := false, isCoroutine := false }) (by decide +kernel)) (fun _ _ _ _ _ => pg_name (i := 5) nd rfl (Or.inl rfl)) (fun _ _ _ _ _ => pts_one (pt_cmp (pc_dnotin (hu_of hr) (pe_tup (pa_cons (pe_callB (call_min2 rfl) (by rfl) T.min bt_min (pa_cons (pv 4) (pa_cons (pv 5) pa_nil))) (pa_cons (pe_callB (call_max2 rfl) (by rfl) T.max bt_max (pa_cons (pv 4) (pa_cons (pv 5) pa_nil))) pa_nil))) (pv 2)))) (fun _ _ _ _ _ => pe_int)) (pe_lst pa_nil) (nomark _))) (fun _ _ _ _ _ => (pv 4))) pa_nil))))), ?_⟩
  obtain ⟨ys, hys, hyl, hyp⟩ := id hb
  refine ⟨_, rfl, a, _, 1, _, rfl, rfl, tupT ha, atI_nat (j := 1) rfl, b, rfl, ⟨_, tupT hys⟩, fun D hD => ?_⟩
  refine lc_it (n := ys.length) walk_tup (fun i H' => Kp [] H H' ∧ ∃ pas : List Addr, H' D = some (.lst (pas.map V.ref)) ∧ Paired (PairK K H') pas ((ps.take i).map pK)) ⟨Kp.new hD, [], upd_same, .nil⟩ (fun i H' _ h => tupT (h.1.t _ _ hys)) ?_ ?_
  · rintro i y _ H1 hi ⟨k1, pas, hD1, hP1⟩ ⟨rfl, hy⟩
    have hi2 : i < ps.length := by omega
    have hpi : ps[i]? = some ps[i] := List.getElem?_eq_getElem hi2
    obtain ⟨pc, e1, e2⟩ := hyp i _ hpi
    obtain rfl : V.ref pc = y := Option.some.inj (e1.symm.trans hy)
    have hpl := hok.2.2.2
    refine ⟨rfl, _, rfl, by show 2 ≤ sizeLine; decide, fun p hp => ?_⟩
    have k2 : Kp [] H1 (upd H1 p (.tup [.ref pc, .bl true])) := Kp.new hp
    have hp2 : upd H1 p (.tup [.ref pc, .bl true]) p = some (.tup [.ref pc, .bl true]) := upd_same
    have hpm := k2.t _ _ (k1.t _ _ e2)
    generalize upd H1 p (.tup [.ref pc, .bl true]) = H2 at k2 hp2 hpm ⊢
    have hD2 := k2.k _ _ (by simp) hD1
    have hlen : pas.length = (ps.take i).length := by rw [Paired.length hP1, List.length_map]
    refine ⟨_, hD2, by rw [List.length_map, hlen, List.length_take, sizeLine_eq]; omega, (k1.trans k2).put hD, pas ++ [p], by rw [upd_same, List.map_append]; rfl, ?_⟩
    have kw : Kp [D] H2 (upd H2 D (.lst (pas.map V.ref ++ [.ref p]))) := (Kp.refl _ _).wr (by simp) hD2 (by intro xs z; cases z)
    rw [List.take_add_one, hpi, List.map_append]
    refine Paired.snoc (Paired.mapP hP1 fun p' kv ⟨b', h1, h2⟩ => ⟨b', ?_, kw.t _ _ (k2.t _ _ h2)⟩) ⟨pc, tupT (kw.t _ _ hp2), kw.t _ _ hpm⟩
    have h1' := N0.SqT.kp k2 h1
    rcases h1' with (h | ⟨o, h⟩) | h
    · exact .inl (.inl (kw.t _ _ h))
    · refine .inl (.inr ⟨o, kw.k _ _ ?_ h⟩)
      simp only [List.mem_singleton]
      intro z
      rw [z, hD2] at h; cases h
    · exact .inr h
  · rintro H1 ⟨k1, pas, hD1, hP1⟩
    rw [List.take_of_length_le (by omega)] at hP1
    refine ⟨D, pas, _, rfl, SqL.of hD1, hP1, fun d hd => ?_⟩
    rw [mergeT_nodup (acc := []) (by rw [List.nil_append]; exact pK_nodup hok.2.2.1.nodup), List.nil_append]
    have k2 : Kp [] H1 (upd H1 d (.dT (ps.map pK))) := Kp.new hd
    have hd2 : upd H1 d (.dT (ps.map pK)) d = some (.dT (ps.map pK)) := upd_same
    generalize upd H1 d (.dT (ps.map pK)) = H2 at k2 hd2 ⊢
    have k12 := k1.trans k2
    refine ⟨_, rfl, a, _, 0, _, rfl, rfl, tupT (k12.t _ _ ha), atI_nat (j := 0) rfl, n, rfl, by omega, by omega, fun L hL => ?_⟩
    refine lc_it (n := (n : Int).toNat) walk_range (fun i H' => Kp [] H2 H' ∧ H' L = some (.lst ((vl i fun y => v.all fun x => ap ps x y).map fun k : Nat => V.int k))) ⟨Kp.new hL, upd_same⟩ (fun _ _ _ _ => trivial) ?_ ?_
    · rintro i y _ H3 hi ⟨k3, hL3⟩ ⟨rfl, rfl⟩
      have hi2 : i < n := by rw [Int.toNat_natCast] at hi; exact hi
      have e0 : (0 : Int) + (i : Int) = (i : Int) := by omega
      dsimp only [gName]
      rw [e0]
      refine ⟨rfl, ?_⟩
      have hx3 := k3.t _ _ (k12.t _ _ hx)
      refine ⟨_, rfl, xa, rfl, ⟨_, tupT hx3⟩, fun M hM => ?_⟩
      refine lc_it (n := (v.map fun k : Nat => V.int k).length) walk_tup (fun j H' => Kp [] H3 H' ∧ H' M = some (.lst (List.replicate ((v.take j).filter fun x => !ap ps x i).length (V.int 1)))) ⟨Kp.new hM, upd_same⟩ (fun j H' _ h => tupT (h.1.t _ _ hx3)) ?_ ?_
      · rintro j y _ H4 hj ⟨k4, hM4⟩ ⟨rfl, hy⟩
        rw [List.length_map] at hj
        rw [List.getElem?_map, List.getElem?_eq_getElem hj] at hy
        obtain rfl := Option.some.inj hy
        have hvj : v[j]? = some v[j] := List.getElem?_eq_getElem hj
        generalize v[j] = z at hvj
        refine ⟨rfl, _, rfl, _, rfl, _, _, rfl, _, rfl, _, rfl, _, _, rfl, by show 2 ≤ sizeLine; decide, fun p hp => ?_⟩
        rw [min_int i z, max_int i z]
        have k5 : Kp [] H4 (upd H4 p (.tup [.int ((min i z : Nat) : Int), .int ((max i z : Nat) : Int)])) := Kp.new hp
        have hp5 : upd H4 p (.tup [.int ((min i z : Nat) : Int), .int ((max i z : Nat) : Int)]) p = some (.tup [.int ((min i z : Nat) : Int), .int ((max i z : Nat) : Int)]) := upd_same
        generalize upd H4 p (.tup [.int ((min i z : Nat) : Int), .int ((max i z : Nat) : Int)]) = H5 at k5 hp5 ⊢
        have hM5 := k5.k _ _ (by simp) hM4
        have k45 := k4.trans k5
        refine ⟨_, rfl, d, _, rfl, DGet.t (k := [Sum.inl ((min i z : Nat) : Int), Sum.inl ((max i z : Nat) : Int)]) (k45.k _ _ (by simp) (k3.k _ _ (by simp) hd2)) hp5, _, rfl, ?_⟩
        rw [pK_some]
        have eap : decide ((min i z, max i z) ∈ ps) = ap ps z i := by rw [ap_symm]; rfl
        rw [eap]
        have etk : v.take (j + 1) = v.take j ++ [z] := by rw [List.take_add_one, hvj]; rfl
        have hfl := List.length_filter_le (fun x => !ap ps x i) (v.take j)
        rw [List.length_take] at hfl
        cases hz : ap ps z i with
        | true =>
          refine iteF ⟨k45, ?_⟩
          rw [etk, List.filter_append, List.filter_cons, if_neg (by simp [hz]), List.filter_nil, List.append_nil]
          exact hM5
        | false =>
          refine iteT ⟨_, hM5, by rw [List.length_replicate]; exact small_lt (by omega), k45.put hM, ?_⟩
          rw [upd_same, etk, List.filter_append, List.filter_cons, if_pos (by simp [hz]), List.filter_nil, List.length_append, List.length_singleton, List.replicate_succ']
      · rintro H4 ⟨k4, hM4⟩
        rw [List.length_map, List.take_length] at hM4
        refine ⟨Nat.zero_le _, fun l hl => ?_⟩
        have k5 : Kp [] H4 (upd H4 l (.lst [])) := Kp.new hl
        have hl5 : upd H4 l (.lst []) l = some (.lst []) := upd_same
        generalize upd H4 l (.lst []) = H5 at k5 hl5 ⊢
        refine ⟨M, l, _, rfl, rfl, SqL.of (k5.k _ _ (by simp) hM4), SqL.of hl5, _, rfl, ?_⟩
        have hL5 := k5.k _ _ (by simp) (k4.k _ _ (by simp) hL3)
        have hb : ((List.replicate (v.filter fun x => !ap ps x i).length (V.int 1)).isEmpty = true) ↔ (v.all fun x => ap ps x i) = true := by
          rw [List.isEmpty_iff, List.replicate_eq_nil_iff, List.length_eq_zero_iff, List.filter_eq_nil_iff, List.all_eq_true]
          simp
        have hvn := vl_len i fun y => v.all fun x => ap ps x y
        refine ite2 (fun hc => ?_) (fun hc => ?_)
        · refine ⟨_, rfl, _, hL5, by rw [List.length_map]; exact small_lt (by omega), ((k3.trans k4).trans k5).put hL, ?_⟩
          rw [upd_same, vl_succ, if_pos (hb.mp hc), List.map_append]; rfl
        · refine ⟨(k3.trans k4).trans k5, ?_⟩
          rw [vl_succ, if_neg (fun z => hc (hb.mpr z)), List.append_nil]; exact hL5
    · rintro H3 ⟨k3, hL3⟩
      rw [Int.toNat_natCast] at hL3
      exact ⟨L, _, rfl, .inl ⟨SqL.of hL3, fun p hp => q _ _ ((k12.trans k3).add hp) ⟨p, rfl, upd_same⟩⟩⟩
theorem ok_law_closure (F : Fun K "_law_closure" "_law_closure" s_law_closure f fd) (T : Txt K mg) (D_law_contrary : Def P w K mg base "_law_contrary" 1 ["frame", "value"] (spLC con)) : FnOk P w K mg base CX0 2 f fd ["frame", "value"] (spLC clo) := by
  refine F.ok sc_law_closure (fun vs H Q E h => ?_) (fun cdv A outer s H vs Q E hr h => ?_)
  · obtain ⟨fv, x, n, ps, v, rfl, _⟩ := h
    rfl
  obtain ⟨fv, x, n, ps, v, rfl, hf, hok, hx, hvl, q⟩ := h
  have nd := sc_law_closure.nd
  refine ⟨_, (pss_one (ps_ret (e_fn D_law_contrary (hr.mono (by omega)) (pa_cons (pv 0) (pa_cons (e_fn D_law_contrary (hr.mono (by omega)) (pa_cons (pv 0) (pa_cons (pv 1) pa_nil))) pa_nil))))), ?_⟩
  have hcl : (con n ps v).length ≤ 1000 := by have := (con_ok (n := n) (ps := ps) (v := v)).len; have := hok.2.1; omega
  exact ⟨_, rfl, _, rfl, _, rfl, fv, x, n, ps, v, rfl, hf, hok, hx, hvl, fun H1 y k1 hy => ⟨fv, y, n, ps, con n ps v, rfl, hf.kp k1, hok, hy, hcl, fun H2 z k2 hz => q _ z (k1.trans k2) hz⟩⟩
end
end N0

namespace N0
open PySem L2 PySem.Spec PyProof.Rows
def kS (v : List Nat) : List Key := v.map fun k : Nat => Sum.inl (k : Int)
theorem kS_map (v : List Nat) : (kS v).map kV = v.map fun k : Nat => V.int k := by unfold kS; rw [List.map_map]; rfl
theorem kS_inj : ∀ {v w : List Nat}, kS v = kS w → v = w
  | [], [], _ => rfl
  | [], _ :: _, h => by cases h
  | _ :: _, [], h => by cases h
  | a :: v, b :: w, h => by
    have h1 := Sum.inl.inj (List.cons.inj h).1
    rw [kS_inj (List.cons.inj h).2, show a = b by omega]
def kvsT (S : List (List Nat)) : List (List Key × V) := S.map fun v => (kS v, V.bl true)
theorem kvsT_some {S : List (List Nat)} {w : List Nat} : (valV (kvsT S) (kS w)).isSome = decide (w ∈ S) := by
  rw [← valV_any, Bool.eq_iff_iff, decide_eq_true_iff, List.any_eq_true]
  constructor
  · rintro ⟨p, hp, e⟩
    obtain ⟨v, h, rfl⟩ := List.mem_map.mp hp
    rw [← kS_inj (of_decide_eq_true e)]
    exact h
  · intro h
    exact ⟨_, List.mem_map.mpr ⟨w, h, rfl⟩, decide_eq_true rfl⟩
theorem kvsT_put {S : List (List Nat)} {w : List Nat} (hn : w ∉ S) : putK (kvsT S) (kS w) (V.bl true) = kvsT (S ++ [w]) := by
  rw [putK_new]
  · simp [kvsT]
  · intro h
    unfold kvsT at h
    rw [List.map_map] at h
    obtain ⟨v, hv, e⟩ := List.mem_map.mp h
    exact hn (kS_inj e ▸ hv)
theorem inV_ints {z : Nat} {u : List Nat} : inV (V.int (z : Int)) (u.map fun k : Nat => V.int k) = decide (z ∈ u) := by
  unfold inV
  rw [List.any_map, Bool.eq_iff_iff, List.any_eq_true, decide_eq_true_iff]
  constructor
  · rintro ⟨x, hx, e⟩
    have : ((x : Int) == (z : Int)) = true := e
    rw [beq_iff_eq] at this
    rwa [show z = x by omega]
  · exact fun h => ⟨z, h, by show ((z : Int) == (z : Int)) = true; simp⟩
theorem flat_ints (u : List Nat) : (u.map fun k : Nat => V.int k).all flatV = true := by rw [List.all_map, List.all_eq_true]; exact fun _ _ => rfl
theorem rgV_nat (n : Nat) : rgV 0 (n : Int) = (List.range n).map fun k : Nat => V.int k := by
  unfold rgV
  rw [show ((n : Int) - 0).toNat = n by omega]
  exact List.map_congr_left fun x _ => by rw [Int.zero_add]
def RowsV (H : Hp) (n : Nat) (ps : List (Nat × Nat)) (i : Nat) (lv : List V) : Prop := lv.length = i ∧ ∀ x, x < i → ∃ t, lv[x]? = some (.ref t) ∧ H t = some (.tup ((con n ps [x]).map fun k : Nat => V.int k))
theorem RowsV.kp {S : List Addr} {H H' : Hp} {n i : Nat} {ps : List (Nat × Nat)} {lv : List V} (k : Kp S H H') : RowsV H n ps i lv → RowsV H' n ps i lv
  | ⟨h1, h2⟩ => ⟨h1, fun x hx => let ⟨t, e1, e2⟩ := h2 x hx; ⟨t, e1, k.t _ _ e2⟩⟩
theorem RowsV.snoc {H : Hp} {n i : Nat} {ps : List (Nat × Nat)} {lv : List V} {t : Addr} (h : RowsV H n ps i lv) (ht : H t = some (.tup ((con n ps [i]).map fun k : Nat => V.int k))) : RowsV H n ps (i + 1) (lv ++ [.ref t]) := by
  refine ⟨by simp [h.1], fun x hx => ?_⟩
  by_cases e : x < i
  · obtain ⟨t', e1, e2⟩ := h.2 x e
    exact ⟨t', by rw [List.getElem?_append_left (by rw [h.1]; exact e)]; exact e1, e2⟩
  · obtain rfl : x = i := by omega
    exact ⟨t, by rw [← h.1, List.getElem?_append_right (Nat.le_refl _), Nat.sub_self]; rfl, ht⟩
section
variable {P : Program} {w : World} {K : PySem.W.Frag} {mg : Str → Option Value} {base : Heap} {f C : Addr} {fd : FuncData}
theorem ok_law_closed (F : Fun K "_law_closed" "_law_closed" s_law_closed f fd) (T : Txt K mg) (D_law_contrary : Def P w K mg base "_law_contrary" 1 ["frame", "value"] (spLC con)) : FnOk P w K mg base CX0 2 f fd ["frame"] spCL := by
  refine F.ok sc_law_closed (fun vs H Q E h => ?_) (fun cdv A outer s H vs Q E hr h => ?_)
  · obtain ⟨fv, n, ps, rfl, _⟩ := h
    rfl
  obtain ⟨fv, n, ps, rfl, hf, hok, hn6, q⟩ := h
  have nd := sc_law_closed.nd
  refine ⟨_, (pss_cons (ps_setLc (i := 1) (own := [("point", 7)]) (g := gName 7) (tt := tYes) rfl nd rfl rfl (sw_true rfl rfl rfl (by decide +kernel)) (pi_range1 rfl T.range (pa_cons (pe_ix ix_tup (pv 0) pe_int (fun _ _ => rfl)) pa_nil)) (blkOk_by (N := N_law_closed) (sc := defScope s_law_closed) (by decide +kernel)) (fun _ _ _ _ _ => pg_name (i := 7) nd rfl (Or.inl rfl)) (fun _ _ _ _ _ => pts_nil) (fun _ _ _ _ _ => (e_fn D_law_contrary (hr.mono (by omega)) (pa_cons (pv 0) (pa_cons (pe_tup (pa_cons (pv 7) pa_nil)) pa_nil)))))
      (pss_cons (ps_par (i := 2) (j := 3) rfl nd rfl rfl (by decide) rfl rfl (pa_cons (pe_disp1T (hu_of hr) (pe_tupRg rfl (by rfl) T.tuple (prg_1 (by rfl) T.range (pe_ix ix_tup (pv 0) pe_int (fun _ _ => rfl)))) pe_bl) (pa_cons (pe_lst (pa_cons (pe_tupRg rfl (by rfl) T.tuple (prg_1 (by rfl) T.range (pe_ix ix_tup (pv 0) pe_int (fun _ _ => rfl)))) pa_nil)) pa_nil)) rfl)
      (pss_cons (ps_for PassesOwn.never rfl (pi_range1 rfl T.range (pa_cons pe_int pa_nil)) (pg_name (i := 4) nd rfl (Or.inl rfl)) (pss_one (ps_if (pt_cmpR op_lt (pv 4) (e_len T (pa_cons (pv 3) pa_nil)) (nomark _)) (pss_one (ps_for PassesOwn.never rfl (pi_list (pv 1)) (pg_name (i := 5) nd rfl (Or.inr rfl)) (pss_cons (ps_set (i := 6) nd rfl (Or.inl rfl) (pe_callTy call_tuple_of (by rfl) T.tuple bt_tuple (pa_cons (pe_lc (own := [("point", 7)]) (g := gName 7) rfl nd (pi_tup (pe_ix ix_list (pv 3) (pv 4) (fun _ _ => rfl))) (blkOk_by (N := N_law_closed) (sc := defScope s_law_closed) (by decide +kernel)) (fun _ _ _ _ _ => pg_name (i := 7) nd rfl (Or.inl rfl)) (fun _ _ _ _ _ => pts_one (pt_cmpR (op_in_seqk K) (pv 7) (pv 5) rfl)) (fun _ _ _ _ _ => (pv 7))) pa_nil)))
      (pss_one (ps_if (pt_cmp (pc_dnotin (hu_of hr) (pv 6) (pv 2))) (pss_cons (ps_dput (hu_of hr) (pv 2) (pv 6) pe_bl rfl)
      (pss_one (ps_expr (pe_bm PySem.F.plainAttrs_list PySem.F.slot_list_append PySem.F.type_list_append mt_append (pv 3) (pa_cons (pv 6) pa_nil))))) pss_nil))))) pss_nil)))
      (pss_one (ps_ret (pe_callB (cr_sortL hr.units) (by rfl) T.sorted bt_sorted (pa_cons (pv 3) pa_nil))))))), ?_⟩
  obtain ⟨a, b, rfl, ha, hb⟩ := id hf
  refine ⟨_, rfl, a, _, 0, _, rfl, rfl, tupT ha, atI_nat (j := 0) rfl, n, rfl, by omega, by omega, fun R hR => ?_⟩
  refine lc_it (n := (n : Int).toNat) walk_range (fun i H' => Kp [] H H' ∧ ∃ lv, H' R = some (.lst lv) ∧ RowsV H' n ps i lv) ⟨Kp.new hR, [], upd_same, rfl, fun x hx => absurd hx (Nat.not_lt_zero _)⟩ (fun _ _ _ _ => trivial) ?_ ?_
  · rintro i y _ H1 hi ⟨k1, lv, hR1, hv1⟩ ⟨rfl, rfl⟩
    have hi2 : i < n := by rw [Int.toNat_natCast] at hi; exact hi
    have e0 : (0 : Int) + (i : Int) = (i : Int) := by omega
    dsimp only [gName]
    rw [e0]
    refine ⟨rfl, _, rfl, _, rfl, by show 1 ≤ sizeLine; decide, fun p hp => ?_⟩
    have k2 : Kp [] H1 (upd H1 p (.tup [.int (i : Int)])) := Kp.new hp
    refine ⟨_, .ref p, n, ps, [i], rfl, hf.kp (k1.trans k2), hok, ⟨p, rfl, upd_same⟩, by simp, fun H3 y k3 hy => ?_⟩
    obtain ⟨t, rfl, ht⟩ := hy
    have k23 := k2.trans k3
    have hR3 := k23.k _ _ (by simp) hR1
    refine ⟨lv, hR3, by rw [hv1.1]; exact small_lt (by omega), (k1.trans k23).put hR, _, upd_same, ?_⟩
    have kw : Kp [R] H3 (upd H3 R (.lst (lv ++ [.ref t]))) := (Kp.refl _ _).wr (by simp) hR3 (by intro xs z; cases z)
    exact ((hv1.kp k23).kp kw).snoc (kw.t _ _ ht)
  rintro H1 ⟨k1, rows, hR1, hv1⟩
  rw [Int.toNat_natCast] at hv1
  refine fun d hd => ?_
  have kd : Kp [] H1 (upd H1 d (.dT [])) := Kp.new hd
  have hd0 : H d = none := k1.n _ hd
  have ha1 := kd.t _ _ (k1.t _ _ ha)
  refine ⟨_, rfl, a, _, 0, _, rfl, rfl, tupT ha1, atI_nat (j := 0) rfl, n, rfl, RgOk.of_le (by omega) (by omega) (by omega) (by omega), fun t ht => ?_⟩
  rw [rgV_nat]
  have kt : Kp [] (upd H1 d (.dT [])) (upd (upd H1 d (.dT [])) t (.tup ((List.range n).map fun k : Nat => V.int k))) := Kp.new ht
  refine ⟨kt.k _ _ (by simp) upd_same, t, kS (List.range n), rfl, by rw [kS_map, upd_same], ?_⟩
  have k2 : Kp [] H1 (upd (upd (upd H1 d (.dT [])) t (.tup ((List.range n).map fun k : Nat => V.int k))) d (.dT [(kS (List.range n), .bl true)])) := (kd.trans kt).put hd
  have hd2 : upd (upd (upd H1 d (.dT [])) t (.tup ((List.range n).map fun k : Nat => V.int k))) d (.dT [(kS (List.range n), .bl true)]) d = some (.dT (kvsT [List.range n])) := upd_same
  generalize upd (upd (upd H1 d (.dT [])) t (.tup ((List.range n).map fun k : Nat => V.int k))) d (.dT [(kS (List.range n), .bl true)]) = H2 at k2 hd2 ⊢
  clear kt ht kd ha1
  have k02 := k1.trans k2
  refine ⟨_, rfl, a, _, 0, _, rfl, rfl, tupT (k02.t _ _ ha), atI_nat (j := 0) rfl, n, rfl, RgOk.of_le (by omega) (by omega) (by omega) (by omega), fun t2 ht2 => ?_⟩
  rw [rgV_nat]
  have k3 : Kp [] H2 (upd H2 t2 (.tup ((List.range n).map fun k : Nat => V.int k))) := Kp.new ht2
  have ht3 : upd H2 t2 (.tup ((List.range n).map fun k : Nat => V.int k)) t2 = some (.tup ((List.range n).map fun k : Nat => V.int k)) := upd_same
  generalize upd H2 t2 (.tup ((List.range n).map fun k : Nat => V.int k)) = H3 at k3 ht3 ⊢
  refine ⟨by show 1 ≤ sizeLine; decide, fun l hl => ⟨_, _, rfl, ?_⟩⟩
  have k4 : Kp [] H3 (upd H3 l (.lst [.ref t2])) := Kp.new hl
  have hl4 : upd H3 l (.lst [.ref t2]) l = some (.lst [.ref t2]) := upd_same
  have ht4 := k4.t _ _ ht3
  generalize upd H3 l (.lst [.ref t2]) = H4 at k4 hl4 ht4 ⊢
  have k04 := (k02.trans k3).trans k4
  have hl0 : H l = none := (k02.trans k3).n _ hl
  have hd4 := k4.k _ _ (by simp) (k3.k _ _ (by simp) hd2)
  have hR4 := k4.k _ _ (by simp) (k3.k _ _ (by simp) (k2.k _ _ (by simp) hR1))
  have hv4 := (hv1.kp k2).kp (k3.trans k4)
  have hld : l ≠ d := fun z => by rw [z, hd4] at hl4; cases hl4
  have hT0 : TupsAre H4 [V.ref t2] ([List.range n].map zv) := ⟨rfl, fun i z hz => by
    cases i with
    | zero => cases hz; exact ⟨t2, rfl, by rw [zv_map]; exact ht4⟩
    | succ i => simp at hz⟩
  have hB0 : BI n ps 0 [List.range n] := ⟨Nat.zero_le _, by simp, fun v hv => by rw [List.mem_singleton.mp hv]; exact clo_every, by simp, fun j v hj => absurd hj (Nat.not_lt_zero _)⟩
  have hlR : l ≠ R := fun z => by
    have := k04.n
    have h1 : H3 R = some (.lst rows) := k3.k _ _ (by simp) (k2.k _ _ (by simp) hR1)
    rw [z, h1] at hl; cases hl
  have hdR : d ≠ R := fun z => by rw [z, hR1] at hd; cases hd
  clear hd hR hl
  refine ⟨5002, rfl, by decide, by decide, ?_⟩
  refine for_it (n := (5002 : Int).toNat) walk_range (fun i σ H' => ∃ (S : List (List Nat)) (lv : List V) (o4 o5 o6 : Option V), σ = [some (.ref a), some (.ref R), some (.ref d), some (.ref l), o4, o5, o6, none] ∧ Kp [] H H' ∧ H' d = some (.dT (kvsT S)) ∧ H' l = some (.lst lv) ∧ TupsAre H' lv (S.map zv) ∧
    H' R = some (.lst rows) ∧ RowsV H' n ps n rows ∧ BI n ps (min i S.length) S) ⟨_, _, none, none, none, rfl, k04, hd4, hl4, hT0, hR4, hv4, by rw [Nat.zero_min]; exact hB0⟩ (fun _ _ _ _ _ => trivial) ?_ ?_
  · rintro i y σ _ H5 hi ⟨S, lv, o4, o5, o6, rfl, k5, hd5, hl5, hT5, hR5, hv5, hB5⟩ ⟨rfl, rfl⟩
    have e0 : (0 : Int) + (i : Int) = (i : Int) := by omega
    dsimp only [gName]
    rw [e0]
    have hll : lv.length = S.length := by rw [hT5.1, List.length_map]
    refine ⟨_, rfl, _, rfl, l, _, rfl, .inl (SqL.of hl5), _, _, rfl, rfl, _, rfl, ?_⟩
    refine ite2 (fun hc => ?_) (fun hc => ?_)
    · have hlt : i < S.length := by
        have := of_decide_eq_true hc
        rw [hll] at this; omega
      rw [Nat.min_eq_left (by omega)] at hB5
      obtain ⟨v, hv⟩ : ∃ v, S[i]? = some v := ⟨_, List.getElem?_eq_getElem hlt⟩
      have ev : v ∈ S := List.mem_of_getElem? hv
      have hvC := hB5.clo v ev
      refine ⟨_, rfl, R, rfl, ⟨_, SqL.of hR5⟩, ?_⟩
      refine for_it (n := rows.length) walk_list (fun j σ H' => ∃ (S' : List (List Nat)) (lv : List V) (o5 o6 : Option V), σ = [some (.ref a), some (.ref R), some (.ref d), some (.ref l), some (.int (i : Int)), o5, o6, none] ∧ Kp [] H H' ∧ H' d = some (.dT (kvsT S')) ∧ H' l = some (.lst lv) ∧ TupsAre H' lv (S'.map zv) ∧
        H' R = some (.lst rows) ∧ RowsV H' n ps n rows ∧ BI n ps i S' ∧ S'[i]? = some v ∧ ∀ x, x < j → cut n ps v x ∈ S') ⟨S, lv, _, _, rfl, k5, hd5, hl5, hT5, hR5, hv5, hB5, hv, fun x hx => absurd hx (Nat.not_lt_zero _)⟩ (fun j σ H' _ ⟨_, _, _, _, _, _, _, _, _, h, _⟩ => SqL.of h) ?_ ?_
      · rintro j y σ _ H6 hj ⟨S', lv, o5, o6, rfl, k6, hd6, hl6, hT6, hR6, hv6, hB6, hvi6, hc6⟩ ⟨rfl, hy⟩
        have hjn : j < n := by rw [← hv6.1]; exact hj
        obtain ⟨tr, e1, e2⟩ := hv6.2 j hjn
        obtain rfl : V.ref tr = y := Option.some.inj (e1.symm.trans hy)
        obtain ⟨tv, g1, g2⟩ := hT6.2 i (zv v) (by rw [List.getElem?_map, hvi6]; rfl)
        rw [zv_map] at g2
        refine ⟨_, rfl, _, rfl, l, _, _, _, rfl, rfl, SqL.of hl6, atI_nat g1, tv, rfl, ⟨_, tupT g2⟩, fun D hD => ?_⟩
        refine lc_it (n := (v.map fun k : Nat => V.int k).length) walk_tup (fun t H' => Kp [] H6 H' ∧ H' D = some (.lst (((v.take t).filter fun x => decide (x ∈ con n ps [j])).map fun k : Nat => V.int k))) ⟨Kp.new hD, upd_same⟩ (fun t H' _ h => tupT (h.1.t _ _ g2)) ?_ ?_
        · rintro t y _ H7 ht ⟨k7, hD7⟩ ⟨rfl, hyt⟩
          rw [List.length_map] at ht
          rw [List.getElem?_map, List.getElem?_eq_getElem ht] at hyt
          obtain rfl := Option.some.inj hyt
          have hvt : v[t]? = some v[t] := List.getElem?_eq_getElem ht
          generalize v[t] = z at hvt
          refine ⟨rfl, _, rfl, _, rfl, tr, _, rfl, .inr (tupT (k7.t _ _ e2)), rfl, flat_ints _, _, rfl, ?_⟩
          have etk : v.take (t + 1) = v.take t ++ [z] := by rw [List.take_add_one, hvt]; rfl
          have hfl := List.length_filter_le (fun x => decide (x ∈ con n ps [j])) (v.take t)
          rw [List.length_take] at hfl
          have hvl := hvC.1.len
          have hb : (if false = true then !inV (V.int (z : Int)) ((con n ps [j]).map fun k : Nat => V.int k) else inV (V.int (z : Int)) ((con n ps [j]).map fun k : Nat => V.int k)) = decide (z ∈ con n ps [j]) := inV_ints
          rw [hb]
          refine ite2 (fun hc2 => ?_) (fun hc2 => ?_)
          · refine ⟨_, rfl, _, hD7, by rw [List.length_map]; exact small_lt (by omega), k7.put hD, ?_⟩
            rw [upd_same, etk, List.filter_append, List.filter_cons, if_pos hc2, List.filter_nil, List.map_append]; rfl
          · refine ⟨k7, ?_⟩
            rw [etk, List.filter_append, List.filter_cons, if_neg hc2, List.filter_nil, List.append_nil]; exact hD7
        · rintro H7 ⟨k7, hD7⟩
          rw [List.length_map, List.take_length] at hD7
          refine ⟨D, _, rfl, .inl ⟨SqL.of hD7, fun p hp => ?_⟩⟩
          have k8 : Kp [] H7 (upd H7 p (.tup ((cut n ps v j).map fun k : Nat => V.int k))) := Kp.new hp
          have hp8 : upd H7 p (.tup ((cut n ps v j).map fun k : Nat => V.int k)) p = some (.tup ((cut n ps v j).map fun k : Nat => V.int k)) := upd_same
          generalize upd H7 p (.tup ((cut n ps v j).map fun k : Nat => V.int k)) = H8 at k8 hp8 ⊢
          have k68 := k7.trans k8
          have hd8 := k68.k _ _ (by simp) hd6
          have hl8 := k68.k _ _ (by simp) hl6
          have hR8 := k68.k _ _ (by simp) hR6
          have hcut : Clo n ps (cut n ps v j) := hvC.cut (clo_con1 fun x hx => by rw [List.mem_singleton.mp hx]; exact hjn)
          have h64' := sets_le hn6 hB6.nd fun v hv => (hB6.clo v hv).1
          have hll6 : lv.length = S'.length := by rw [hT6.1, List.length_map]
          dsimp only [gName]
          refine ⟨_, rfl, _, rfl, d, _, rfl, DGet.t (k := kS (cut n ps v j)) hd8 (by rw [kS_map]; exact hp8), _, rfl, ?_⟩
          rw [kvsT_some]
          refine ite2 (fun hc1 => ?_) (fun hc1 => ?_)
          · have hnw : cut n ps v j ∉ S' := by simpa using hc1
            refine ⟨_, rfl, _, rfl, d, _, rfl, DPut.t (k := kS (cut n ps v j)) hd8 (by rw [kS_map]; exact hp8) (by unfold kvsT; rw [List.length_map]; exact small_lt (by omega)), ?_⟩
            rw [kvsT_put hnw]
            have kw : Kp [d] H8 (upd H8 d (.dT (kvsT (S' ++ [cut n ps v j])))) := (Kp.refl _ _).wr (by simp) hd8 (by intro xs z; cases z)
            have hd9 : upd H8 d (.dT (kvsT (S' ++ [cut n ps v j]))) d = some (.dT (kvsT (S' ++ [cut n ps v j]))) := upd_same
            have k9 : Kp [] H (upd H8 d (.dT (kvsT (S' ++ [cut n ps v j])))) := (k6.trans k68).put hd0
            generalize upd H8 d (.dT (kvsT (S' ++ [cut n ps v j]))) = H9 at kw hd9 k9 ⊢
            have hl9 := kw.k _ _ (by simp [hld]) hl8
            have hR9 := kw.k _ _ (by simp [Ne.symm hdR]) hR8
            refine ⟨_, rfl, .inl ⟨rfl, _, SqL.of hl9⟩, _, rfl, l, _, _, rfl, rfl, hl9, by rw [hll6]; exact small_lt (by omega), ?_⟩
            have kl : Kp [l] H9 (upd H9 l (.lst (lv ++ [.ref p]))) := (Kp.refl _ _).wr (by simp) hl9 (by intro xs z; cases z)
            refine ⟨S' ++ [cut n ps v j], lv ++ [.ref p], _, _, rfl, k9.put hl0, by rw [upd_ne (Ne.symm hld)]; exact hd9, upd_same, ?_, kl.k _ _ (by simp [Ne.symm hlR]) hR9, ((hv6.kp k68).kp kw).kp kl, hB6.add hcut hnw, ?_, fun x hx => ?_⟩
            · rw [List.map_append]
              exact (((hT6.kp k68).kp kw).kp kl).snoc (by rw [zv_map]; exact kl.t _ _ (kw.t _ _ hp8))
            · rw [List.getElem?_append_left (List.getElem?_eq_some_iff.mp hvi6).1]
              exact hvi6
            · by_cases e : x < j
              · exact List.mem_append_left _ (hc6 x e)
              · obtain rfl : x = j := by omega
                exact List.mem_append_right _ (List.mem_singleton.mpr rfl)
          · have hin' : cut n ps v j ∈ S' := by simpa using hc1
            refine ⟨S', lv, _, _, rfl, k6.trans k68, hd8, hl8, hT6.kp k68, hR8, hv6.kp k68, hB6, hvi6, fun x hx => ?_⟩
            by_cases e : x < j
            · exact hc6 x e
            · obtain rfl : x = j := by omega
              exact hin'
      · rintro σ H6 ⟨S', lv, o5, o6, rfl, k6, hd6, hl6, hT6, hR6, hv6, hB6, hvi6, hc6⟩
        refine ⟨S', lv, _, _, _, rfl, k6, hd6, hl6, hT6, hR6, hv6, ?_⟩
        have hi' := (List.getElem?_eq_some_iff.mp hvi6).1
        rw [Nat.min_eq_left (by omega)]
        refine ⟨hi', hB6.nd, hB6.clo, hB6.all, fun j u hj hu x hx => ?_⟩
        by_cases e : j < i
        · exact hB6.done j u e hu x hx
        · obtain rfl : j = i := by omega
          obtain rfl : v = u := Option.some.inj (hvi6.symm.trans hu)
          exact hc6 x (by rw [hv6.1]; exact hx)
    · have hge : S.length ≤ i := by
        have h1 : ¬ (i : Int) < ((lv.length : Nat) : Int) := fun z => hc (decide_eq_true z)
        rw [hll] at h1; omega
      refine ⟨S, lv, _, _, _, rfl, k5, hd5, hl5, hT5, hR5, hv5, ?_⟩
      rw [Nat.min_eq_right hge] at hB5
      rw [Nat.min_eq_right (by omega)]
      exact hB5
  · rintro σ H5 ⟨S, lv, o4, o5, o6, rfl, k5, hd5, hl5, hT5, hR5, hv5, hB5⟩
    have h64 := sets_le hn6 hB5.nd fun v hv => (hB5.clo v hv).1
    rw [Nat.min_eq_right (by show S.length ≤ 5002; omega)] at hB5
    have hS := hB5.fin
    have h0 : [] ∈ S.map zv := List.mem_map.mpr ⟨[], hS.2.2 [] (clo_nil hok), rfl⟩
    refine ⟨_, rfl, sortL_read (SqL.of hl5) hT5 h0 fun zs p us hA hP hPw hn' => ?_⟩
    have k7 : Kp [] H5 (upd H5 p (.lst zs)) := Kp.new hn'
    exact q _ p zs us S (k5.trans k7) (k5.n _ hn') upd_same (hA.kp k7) hP hPw hS
end
end N0

namespace N0
open PySem L2 PySem.Spec PyProof.Rows
/-! ### plain facts of closures -/
theorem con_mem {n : Nat} {ps : List (Nat × Nat)} {v w : List Nat} (h : ∀ x, x ∈ v ↔ x ∈ w) : con n ps v = con n ps w :=
  con_ok.ext con_ok fun y => ⟨con_anti (fun x hx => (h x).mpr hx) y, con_anti (fun x hx => (h x).mp hx) y⟩
theorem clo_mem {n : Nat} {ps : List (Nat × Nat)} {v w : List Nat} (h : ∀ x, x ∈ v ↔ x ∈ w) : clo n ps v = clo n ps w := by unfold clo; rw [con_mem h]
theorem con_app {n : Nat} {ps : List (Nat × Nat)} {v u : List Nat} : con n ps (v ++ u) = (con n ps v).filter fun x => decide (x ∈ con n ps u) := by
  refine con_ok.ext ⟨con_ok.1.filter _, fun y hy => con_lt y (List.mem_filter.mp hy).1⟩ fun y => ?_
  rw [List.mem_filter, decide_eq_true_iff, mem_con, mem_con, mem_con]
  constructor
  · rintro ⟨h1, h2⟩
    exact ⟨⟨h1, fun x hx => h2 x (List.mem_append_left _ hx)⟩, h1, fun x hx => h2 x (List.mem_append_right _ hx)⟩
  · rintro ⟨⟨h1, h2⟩, _, h3⟩
    refine ⟨h1, fun x hx => ?_⟩
    rcases List.mem_append.mp hx with z | z
    · exact h2 x z
    · exact h3 x z
theorem con_disj {n : Nat} {ps : List (Nat × Nat)} {v : List Nat} (h : PsOk n ps) : (v.filter fun x => decide (x ∈ con n ps v)) = [] := by
  rw [List.filter_eq_nil_iff]
  intro x hx hc
  have := (mem_con.mp (of_decide_eq_true hc)).2 x hx
  rw [ap_irr h] at this; cases this
theorem con_clo' {n : Nat} {ps : List (Nat × Nat)} {v : List Nat} : clo n ps v = con n ps (con n ps v) := rfl
theorem zv_mem {v : List Nat} {k : Int} : k ∈ zv v ↔ ∃ x ∈ v, (x : Int) = k := by unfold zv; rw [List.mem_map]
theorem asc_extZ {a b : List Int} (ha : a.Pairwise (· < ·)) (hb : b.Pairwise (· < ·)) (h : ∀ x, x ∈ a ↔ x ∈ b) : a = b := by
  refine List.Perm.eq_of_pairwise (le := (· < ·)) (fun x y _ _ h1 h2 => absurd h1 (by omega)) ha hb ?_
  exact (List.perm_ext_iff_of_nodup (ha.imp fun h => Int.ne_of_lt h) (hb.imp fun h => Int.ne_of_lt h)).mpr h
theorem zv_asc {v : List Nat} (h : v.Pairwise (· < ·)) : (zv v).Pairwise (· < ·) := by
  unfold zv
  rw [List.pairwise_map]
  exact h.imp fun h => by omega
theorem zv_len (v : List Nat) : (zv v).length = v.length := by unfold zv; rw [List.length_map]
/-! ### values as data -/
theorem plAll_ints : ∀ v : List Nat, plAll (v.map fun k : Nat => PyData.int (k : Int)) = true
  | [] => by simp [plAll]
  | k :: v => by rw [List.map_cons, plAll, pl, plAll_ints v]; rfl
theorem pl_vd {v : List Nat} (h : v.length ≤ 1000) : pl (VD v) = true := by
  unfold VD
  rw [pl, plAll_ints, List.length_map, decide_eq_true h]; rfl
theorem depth_vd (v : List Nat) : (VD v).depth = 1 := by
  unfold VD
  rw [PyData.depth, (lay_ints v).2]
theorem ValV.len {n : Nat} {v : List Nat} (h : VOk n v) (hn : n ≤ 600) : v.length ≤ 1000 := by have := h.len; omega
def spVR : Sp := fun vs H Q _ => ∃ (m c g : Addr) (fv : V) (n : Nat) (ps : List (Nat × Nat)) (b : Nat), vs = [.ref m, fv] ∧ DrawAt H m c g b ∧ FrV H n ps fv ∧ FrOk n ps ∧ n ≤ 9 ∧ b + 2000 ≤ 1000000 ∧
  ∀ H', Kp [m, g] H H' → DrawAt H' m c g (b + 22) → Q (.bl true) H'
section
variable {P : Program} {w : World} {K : PySem.W.Frag} {mg : Str → Option Value} {base : Heap} {f C : Addr} {fd : FuncData}
theorem ok_law_values_right (F : Fun K "_law_values_right" "_law_values_right" s_law_values_right f fd) (T : Txt K mg) (D_law_value : Def P w K mg base "_law_value" 3 ["m", "many"] spVal) (D_law_contrary : Def P w K mg base "_law_contrary" 1 ["frame", "value"] (spLC con))
    (D_law_closure : Def P w K mg base "_law_closure" 2 ["frame", "value"] (spLC clo)) (D_contrary_of : Def P w K mg base "contrary_of" 5 ["frame", "points"] (spFV con)) (D_closure_of : Def P w K mg base "closure_of" 5 ["frame", "points"] (spFV clo))
    (D_is_closed : Def P w K mg base "is_closed" 6 ["frame", "points"] spClosed) (D_joined_value : Def P w K mg base "joined_value" 5 ["frame", "points", "other_points"] spJoin) (D_law_same : Def P w K mg base "_law_same" 12 ["told", "due"] (spSame K 12))
    (D_law_draw : Def P w K mg base "_law_draw" 2 ["m", "limit"] spDraw) (D_core_of : Def P w K mg base "core_of" 5 ["frame", "point"] spCore) (D_are_apart : Def P w K mg base "are_apart" 5 ["frame", "point", "other_point"] spApart) :
    FnOk P w K mg base CX0 13 f fd ["m", "frame"] spVR := by
  refine F.ok sc_law_values_right (fun vs H Q E h => ?_) (fun cdv A outer s H vs Q E hr h => ?_)
  · obtain ⟨m, c, g, fv, n, ps, b, rfl, _⟩ := h
    rfl
  obtain ⟨m, c, g, fv, n, ps, b, rfl, hm, hf, hok, hn9, hb, q⟩ := h
  have nd := sc_law_values_right.nd
  have hn600 : n ≤ 600 := by omega
  have hn1 : 0 < n := by have := hok.1; omega
  refine ⟨_, (pss_cons (ps_par (i := 2) (j := 3) rfl nd rfl rfl (by decide) rfl rfl (pa_cons (e_fn D_law_value (hr.mono (by omega)) (pa_cons (pv 0) (pa_cons (pe_ix ix_tup (pv 1) pe_int (fun _ _ => rfl)) pa_nil))) (pa_cons (e_fn D_law_value (hr.mono (by omega)) (pa_cons (pv 0) (pa_cons (pe_ix ix_tup (pv 1) pe_int (fun _ _ => rfl)) pa_nil))) pa_nil)) rfl)
      (pss_cons (ps_set (i := 4) nd rfl (Or.inl rfl) (pe_callTy call_tuple_of (by rfl) T.tuple bt_tuple (pa_cons (pe_callB (cr_sortedSet rfl) (by rfl) T.sorted bt_sorted (pa_cons (pe_callTy (cr_setI rfl) (by rfl) T.set bt_set (pa_cons (pe_op op_catA (pv 2) (pv 3)) pa_nil)) pa_nil)) pa_nil)))
      (pss_cons (ps_asg (pe_tup (pa_cons (e_fn D_law_contrary (hr.mono (by omega)) (pa_cons (pv 1) (pa_cons (pv 2) pa_nil))) (pa_cons (e_fn D_law_contrary (hr.mono (by omega)) (pa_cons (pv 1) (pa_cons (pv 3) pa_nil))) pa_nil))) (pg_tup rfl (pgs_cons (pg_name (i := 5) nd rfl (Or.inr rfl)) (pgs_cons (pg_name (i := 6) nd rfl (Or.inr rfl)) pgs_nil))))
      (pss_cons (ps_set (i := 7) nd rfl (Or.inl rfl) (pe_tup (pa_cons (e_fn D_contrary_of (hr.mono (by omega)) (pa_cons (pv 1) (pa_cons (pv 2) pa_nil))) (pa_cons (e_fn D_closure_of (hr.mono (by omega)) (pa_cons (pv 1) (pa_cons (pv 2) pa_nil))) (pa_cons (e_fn D_is_closed (hr.mono (by omega)) (pa_cons (pv 1) (pa_cons (pv 2) pa_nil))) (pa_cons (e_fn D_joined_value (hr.mono (by omega)) (pa_cons (pv 1) (pa_cons (pv 2) (pa_cons (pv 3) pa_nil)))) pa_nil))))))
      (pss_cons (ps_if (pt_not (pt_val (e_fn D_law_same (hr.mono (by omega)) (pa_cons (pv 7) (pa_cons (pe_tup (pa_cons (pv 5) (pa_cons (e_fn D_law_contrary (hr.mono (by omega)) (pa_cons (pv 1) (pa_cons (pv 5) pa_nil))) (pa_cons (pe_cmpR (op_eqD hr.units) (pv 2) (e_fn D_law_contrary (hr.mono (by omega)) (pa_cons (pv 1) (pa_cons (pv 5) pa_nil))) (nomark _)) (pa_cons (e_fn D_law_closure (hr.mono (by omega)) (pa_cons (pv 1) (pa_cons (pv 4) pa_nil))) pa_nil))))) pa_nil))))) (pss_one (ps_ret pe_bl)) pss_nil)
      (pss_cons (ps_par (i := 8) (j := 9) rfl nd rfl rfl (by decide) rfl rfl (pa_cons (e_fn D_law_draw (hr.mono (by omega)) (pa_cons (pv 0) (pa_cons (pe_ix ix_tup (pv 1) pe_int (fun _ _ => rfl)) pa_nil))) (pa_cons (e_fn D_law_draw (hr.mono (by omega)) (pa_cons (pv 0) (pa_cons (pe_ix ix_tup (pv 1) pe_int (fun _ _ => rfl)) pa_nil))) pa_nil)) rfl)
      (pss_cons (ps_if (pt_not (pt_val (e_fn D_law_same (hr.mono (by omega)) (pa_cons (pe_tup (pa_cons (e_fn D_core_of (hr.mono (by omega)) (pa_cons (pv 1) (pa_cons (pv 8) pa_nil))) (pa_cons (e_fn D_are_apart (hr.mono (by omega)) (pa_cons (pv 1) (pa_cons (pv 8) (pa_cons (pv 9) pa_nil)))) pa_nil))) (pa_cons (pe_tup (pa_cons (e_fn D_law_closure (hr.mono (by omega)) (pa_cons (pv 1) (pa_cons (pe_tup (pa_cons (pv 8) pa_nil)) pa_nil))) (pa_cons (pe_cmpR (op_inDT (hu65 hr)) (pe_tup (pa_cons (pe_callB (call_min2 rfl) (by rfl) T.min bt_min (pa_cons (pv 8) (pa_cons (pv 9) pa_nil))) (pa_cons (pe_callB (call_max2 rfl) (by rfl) T.max bt_max (pa_cons (pv 8) (pa_cons (pv 9) pa_nil))) pa_nil))) (pe_ix ix_tup (pv 1) pe_int (fun _ _ => rfl)) rfl) pa_nil))) pa_nil))))) (pss_one (ps_ret pe_bl)) pss_nil)
      (pss_cons (ps_set (i := 10) nd rfl (Or.inl rfl) (pe_callTy call_tuple_of (by rfl) T.tuple bt_tuple (pa_cons (pe_lc (own := [("spot", 11)]) (g := gName 11) rfl nd (pi_tup (pv 5)) (blkOk_by (N := N_law_values_right) (sc := defScope s_law_values_right) (by decide +kernel)) (fun _ _ _ _ _ => pg_name (i := 11) nd rfl (Or.inl rfl)) (fun _ _ _ _ _ => pts_one (pt_cmpR (op_in_seqk K) (pv 11) (pv 6) rfl)) (fun _ _ _ _ _ => (pv 11))) pa_nil)))
      (pss_cons (ps_set (i := 7) nd rfl (Or.inl rfl) (pe_tup (pa_cons (e_fn D_contrary_of (hr.mono (by omega)) (pa_cons (pv 1) (pa_cons (pv 4) pa_nil))) (pa_cons (e_fn D_is_closed (hr.mono (by omega)) (pa_cons (pv 1) (pa_cons (pv 10) pa_nil))) (pa_cons (e_fn D_contrary_of (hr.mono (by omega)) (pa_cons (pv 1) (pa_cons (e_fn D_closure_of (hr.mono (by omega)) (pa_cons (pv 1) (pa_cons (pv 2) pa_nil))) pa_nil))) (pa_cons (pe_cmpR (op_eqNil hr.units0) (pe_lc (own := [("spot", 11)]) (g := gName 11) rfl nd (pi_tup (pv 2)) (blkOk_by (N := N_law_values_right) (sc := defScope s_law_values_right) (by decide +kernel)) (fun _ _ _ _ _ => pg_name (i := 11) nd rfl (Or.inl rfl)) (fun _ _ _ _ _ => pts_one (pt_cmpR (op_in_seqk K) (pv 11) (pv 5) rfl)) (fun _ _ _ _ _ => (pv 11))) (pe_lst pa_nil) (nomark _)) pa_nil))))))
      (pss_one (ps_ret (e_fn D_law_same (hr.mono (by omega)) (pa_cons (pv 7) (pa_cons (pe_tup (pa_cons (pv 10) (pa_cons pe_bl (pa_cons (pv 5) (pa_cons pe_bl pa_nil))))) pa_nil)))))))))))))), ?_⟩
  obtain ⟨a, pb, rfl, ha, hpb⟩ := id hf
  -- one, other
  refine ⟨_, rfl, _, rfl, a, _, 0, _, rfl, rfl, tupT ha, atI_nat (j := 0) rfl, m, c, g, n, b, rfl, hm, hn600, by omega, fun H1 x1 v k1 hm1 hx1 hv => ?_⟩
  refine ⟨_, rfl, _, rfl, a, _, 0, _, rfl, rfl, tupT (k1.t _ _ ha), atI_nat (j := 0) rfl, m, c, g, n, b + 1 + n, rfl, hm1, hn600, by omega, fun H2 x2 u k2 hm2 hx2 hu => ⟨_, _, rfl, ?_⟩⟩
  have k02 := k1.trans k2
  have hx1 := hx1.kp k2
  obtain ⟨a1, rfl, h1⟩ := id hx1
  obtain ⟨a2, rfl, h2⟩ := id hx2
  have hvl := hv.len
  have hul := hu.len
  -- both
  refine ⟨_, rfl, _, rfl, catT h1 h2 (by rw [List.length_map, List.length_map]; omega) fun cc H3 k3 hcc => ?_⟩
  have ecc : ((v.map fun k : Nat => V.int k) ++ (u.map fun k : Nat => V.int k)) = (zv (v ++ u)).map V.int := by rw [zv_map, List.map_append]
  rw [ecc] at hcc
  refine ⟨cc, zv (v ++ u), rfl, tupT hcc, by rw [zv_len, List.length_append]; omega, fun sa cn hsa hcn => ?_⟩
  rw [zv_len, List.length_append] at hcn
  refine ⟨sa, _, cn, rfl, upd_same, by omega, fun ns p hpw hmem hnl hp => ?_⟩
  refine ⟨p, _, rfl, .inl ⟨SqL.of upd_same, fun pt hpt => ?_⟩⟩
  obtain ⟨bo, hbo⟩ : ∃ bo, bo = vl n fun x => decide (x ∈ v ++ u) := ⟨_, rfl⟩
  have hboM : ∀ x, x ∈ v ++ u ↔ x ∈ bo := fun x => by
    rw [hbo, mem_vl, decide_eq_true_iff]
    refine ⟨fun h => ⟨?_, h⟩, fun h => h.2⟩
    rcases List.mem_append.mp h with z | z
    · exact hv.2 x z
    · exact hu.2 x z
  have hboO : VOk n bo := hbo ▸ vl_ok n _
  have ens : ns = zv bo := by
    refine asc_extZ hpw (zv_asc hboO.1) fun k => ?_
    rw [hmem k, decide_eq_true_iff, zv_mem, zv_mem]
    exact ⟨fun ⟨x, h, e⟩ => ⟨x, (hboM x).mp h, e⟩, fun ⟨x, h, e⟩ => ⟨x, (hboM x).mpr h, e⟩⟩
  rw [ens, zv_map] at hpt ⊢
  have k4' := Kp.add (o := .lst (bo.map fun k : Nat => V.int k)) (Kp.new (S := []) hsa) hp
  generalize upd (upd H3 sa _) p _ = X at k4' hpt ⊢
  have k4 : Kp [] H3 (upd X pt (.tup (bo.map fun k : Nat => V.int k))) := k4'.add hpt
  have g4 : upd X pt (.tup (bo.map fun k : Nat => V.int k)) pt = some (.tup (bo.map fun k : Nat => V.int k)) := upd_same
  generalize upd X pt (.tup (bo.map fun k : Nat => V.int k)) = H4 at k4 g4 ⊢
  clear hp hpt hsa hnl hmem
  have k24 := k3.trans k4
  have k04 := k02.trans k24.mono0
  have hm4 := hm2.kp k24
  have hf4 : FrV H4 n ps (.ref a) := hf.kp k04
  have hx1 := hx1.kp k24
  have hx2 := hx2.kp k24
  have hxb : ValV H4 bo (.ref pt) := ⟨pt, rfl, g4⟩
  have hvl' := ValV.len hv hn600
  have hul' := ValV.len hu hn600
  have hbl' := ValV.len hboO hn600
  have hcl' : ∀ w, (con n ps w).length ≤ 1000 := fun w => ValV.len con_ok hn600
  have hkl' : ∀ w, (clo n ps w).length ≤ 1000 := fun w => ValV.len con_ok hn600
  clear h1 h2 hcc ecc
  -- near, far
  refine ⟨_, rfl, _, rfl, _, .ref a1, n, ps, v, rfl, hf4, hok, hx1, hvl', fun H5 y5 k5 hy5 => ?_⟩
  refine ⟨_, rfl, _, rfl, _, .ref a2, n, ps, u, rfl, hf4.kp k5, hok, hx2.kp k5, hul', fun H6 y6 k6 hy6 => ?_⟩
  refine ⟨by show 2 ≤ sizeLine; decide, fun p2 hp2 => ⟨p2, _, rfl, tupT upd_same, rfl, _, _, rfl, _, _, rfl, rfl, ?_⟩⟩
  have k7 : Kp [] H6 (upd H6 p2 (.tup [y5, y6])) := Kp.new hp2
  generalize upd H6 p2 (.tup [y5, y6]) = H7 at k7 ⊢
  have k47 := (k5.trans k6).trans k7
  have hy5 := hy5.kp (k6.trans k7)
  have hy6 := hy6.kp k7
  have hf7 := hf4.kp k47
  have hx1 := hx1.kp k47
  have hx2 := hx2.kp k47
  have hxb := hxb.kp k47
  -- told
  refine ⟨_, rfl, _, rfl, _, .ref a1, n, ps, v, rfl, hf7, hok, hx1, hv, fun H8 z1 k8 hz1 => ?_⟩
  refine ⟨_, rfl, _, rfl, _, .ref a1, n, ps, v, rfl, hf7.kp k8, hok, hx1.kp k8, hv, fun H9 z2 k9 hz2 => ?_⟩
  have k79 := k8.trans k9
  refine ⟨_, rfl, _, rfl, _, .ref a1, n, ps, v, rfl, hf7.kp k79, hok, hx1.kp k79, hv, fun H10 k10 => ?_⟩
  have k710 := k79.trans k10
  refine ⟨_, rfl, _, rfl, _, rfl, _, .ref a1, .ref a2, n, ps, v, u, rfl, hf7.kp k710, hok, hx1.kp k710, hv, hx2.kp k710, hu, fun H11 z4 k11 hz4 => ?_⟩
  have k711 := k710.trans k11
  refine ⟨by show 4 ≤ sizeLine; decide, fun p3 hp3 => ?_⟩
  have k12 : Kp [] H11 (upd H11 p3 (.tup [z1, z2, .bl (decide (clo n ps v = v)), z4])) := Kp.new hp3
  have g12 : upd H11 p3 (.tup [z1, z2, .bl (decide (clo n ps v = v)), z4]) p3 = some (.tup [z1, z2, .bl (decide (clo n ps v = v)), z4]) := upd_same
  generalize upd H11 p3 (.tup [z1, z2, .bl (decide (clo n ps v = v)), z4]) = H12 at k12 g12 ⊢
  have k712 := k711.trans k12
  have d12 : Dp K H12 (.ref p3) (.tuple [VD (con n ps v), VD (clo n ps v), .bool (decide (clo n ps v = v)), VD (clo n ps (v ++ u))]) :=
    .tup (tupT g12) (.cons (hz1.kp (((k9.trans k10).trans k11).trans k12)).dp (.cons (hz2.kp ((k10.trans k11).trans k12)).dp (.cons (.bl _) (.cons (hz4.kp k12).dp .nil))))
  clear hz1 hz2 hz4 hp3 g12
  have hy5 := hy5.kp k712
  have hy6 := hy6.kp k712
  have hf12 := hf7.kp k712
  have hx1 := hx1.kp k712
  have hx2 := hx2.kp k712
  have hxb := hxb.kp k712
  have k012 := (k04.trans k47.mono0).trans k712.mono0
  have hm12 := (hm4.kp k47).kp k712
  -- same
  refine ⟨_, rfl, _, rfl, _, rfl, _, rfl, _, y5, n, ps, con n ps v, rfl, hf12, hok, hy5, hcl' _, fun H13 z1 k13 hz1 => ?_⟩
  refine ⟨_, rfl, _, rfl, _, rfl, _, y5, n, ps, con n ps v, rfl, hf12.kp k13, hok, hy5.kp k13, hcl' _, fun H14 z2 k14 hz2 => ?_⟩
  have k1214 := k13.trans k14
  refine ⟨VD v, VD (con n ps (con n ps v)), (hx1.kp k1214).dp, hz2.dp, sh_vd _, sh_vd _, ?_⟩
  rw [eqv_vd]
  refine ⟨_, rfl, _, rfl, _, .ref pt, n, ps, bo, rfl, hf12.kp k1214, hok, hxb.kp k1214, hbl', fun H15 z4 k15 hz4 => ?_⟩
  refine ⟨by show 4 ≤ sizeLine; decide, fun p4 hp4 => ?_⟩
  have k16 : Kp [] H15 (upd H15 p4 (.tup [y5, z1, .bl (decide (v = con n ps (con n ps v))), z4])) := Kp.new hp4
  have g16 : upd H15 p4 (.tup [y5, z1, .bl (decide (v = con n ps (con n ps v))), z4]) p4 = some (.tup [y5, z1, .bl (decide (v = con n ps (con n ps v))), z4]) := upd_same
  generalize upd H15 p4 (.tup [y5, z1, .bl (decide (v = con n ps (con n ps v))), z4]) = H16 at k16 g16 ⊢
  have k1216 := (k1214.trans k15).trans k16
  have e1 : clo n ps bo = clo n ps (v ++ u) := clo_mem fun x => (hboM x).symm
  have e2 : decide (v = con n ps (con n ps v)) = decide (clo n ps v = v) := decide_eq_decide.mpr eq_comm
  have d16 : Dp K H16 (.ref p4) (.tuple [VD (con n ps v), VD (clo n ps v), .bool (decide (clo n ps v = v)), VD (clo n ps (v ++ u))]) := by
    rw [← e1, ← e2]
    exact .tup (tupT g16) (.cons (hy5.kp k1216).dp (.cons (hz1.kp ((k14.trans k15).trans k16)).dp (.cons (.bl _) (.cons (hz4.kp k16).dp .nil))))
  refine ⟨_, _, _, rfl, Dp.kp k1216 d12, d16, by simp [pl, plAll, pl_vd, hcl', hkl'], by simp [PyData.depth, PyData.depthAll, depth_vd], fun H17 k17 => ⟨_, rfl, iteF ?_⟩⟩
  have k1217 := k1216.trans k17
  clear hz1 hz2 hz4 hp4 g16 d12 d16 e1 e2
  have hy5 := hy5.kp k1217
  have hy6 := hy6.kp k1217
  have hf17 := hf12.kp k1217
  have hx1 := hx1.kp k1217
  have hx2 := hx2.kp k1217
  have hxb := hxb.kp k1217
  have k017 := k012.trans k1217.mono0
  have hm17 := hm12.kp k1217
  -- point, late
  refine ⟨_, rfl, _, rfl, a, _, 0, _, rfl, rfl, tupT (k017.t _ _ ha), atI_nat (j := 0) rfl, m, c, g, n, _, rfl, hm17, hn1, by omega, by omega, fun H18 x k18 hm18 hxl => ?_⟩
  refine ⟨_, rfl, _, rfl, a, _, 0, _, rfl, rfl, tupT (k18.t _ _ (k017.t _ _ ha)), atI_nat (j := 0) rfl, m, c, g, n, _, rfl, hm18, hn1, by omega, by omega, fun H19 y k19 hm19 hyl => ⟨_, _, rfl, ?_⟩⟩
  have k1719 := k18.trans k19
  have k019 := k017.trans k1719
  have hy5 := hy5.kp k1719
  have hy6 := hy6.kp k1719
  have hf19 := hf17.kp k1719
  have hx1 := hx1.kp k1719
  have hx2 := hx2.kp k1719
  have hxb := hxb.kp k1719
  -- core, apart
  refine ⟨_, rfl, _, rfl, _, n, ps, x, rfl, hf19, hok, hxl, fun H20 z1 k20 hz1 => ?_⟩
  refine ⟨_, rfl, _, rfl, _, rfl, _, n, ps, x, y, rfl, hf19.kp k20, hok, hxl, hyl, fun H21 k21 => ?_⟩
  refine ⟨by show 2 ≤ sizeLine; decide, fun p1 hp1 => ?_⟩
  have k22 : Kp [] H21 (upd H21 p1 (.tup [z1, .bl (ap ps x y)])) := Kp.new hp1
  have g22 : upd H21 p1 (.tup [z1, .bl (ap ps x y)]) p1 = some (.tup [z1, .bl (ap ps x y)]) := upd_same
  generalize upd H21 p1 (.tup [z1, .bl (ap ps x y)]) = H22 at k22 g22 ⊢
  have d22 : Dp K H22 (.ref p1) (.tuple [VD (clo n ps [x]), .bool (ap ps x y)]) := .tup (tupT g22) (.cons (hz1.kp (k21.trans k22)).dp (.cons (.bl _) .nil))
  have k1922 := (k20.trans k21).trans k22
  refine ⟨_, rfl, _, rfl, by show 1 ≤ sizeLine; decide, fun p2 hp2 => ?_⟩
  have k23 : Kp [] H22 (upd H22 p2 (.tup [.int (x : Int)])) := Kp.new hp2
  have g23 : upd H22 p2 (.tup [.int (x : Int)]) p2 = some (.tup [.int (x : Int)]) := upd_same
  generalize upd H22 p2 (.tup [.int (x : Int)]) = H23 at k23 g23 ⊢
  have k1923 := k1922.trans k23
  refine ⟨_, .ref p2, n, ps, [x], rfl, hf19.kp k1923, hok, ⟨p2, rfl, g23⟩, by simp, fun H24 z2 k24' hz2 => ?_⟩
  have k1924 := k1923.trans k24'
  refine ⟨_, rfl, _, rfl, _, _, rfl, _, rfl, _, rfl, _, _, rfl, by show 2 ≤ sizeLine; decide, fun p3 hp3 => ?_⟩
  rw [min_int x y, max_int x y]
  have k25 : Kp [] H24 (upd H24 p3 (.tup [.int ((min x y : Nat) : Int), .int ((max x y : Nat) : Int)])) := Kp.new hp3
  have g25 : upd H24 p3 (.tup [.int ((min x y : Nat) : Int), .int ((max x y : Nat) : Int)]) p3 = some (.tup [.int ((min x y : Nat) : Int), .int ((max x y : Nat) : Int)]) := upd_same
  generalize upd H24 p3 (.tup [.int ((min x y : Nat) : Int), .int ((max x y : Nat) : Int)]) = H25 at k25 g25 ⊢
  have k1925 := k1924.trans k25
  refine ⟨_, rfl, a, _, 1, _, rfl, rfl, tupT (k1925.t _ _ (k019.t _ _ ha)), atI_nat (j := 1) rfl, .tuple [.int ((min x y : Nat) : Int), .int ((max x y : Nat) : Int)], PD ps, .tup (tupT g25) (.cons (.int _) (.cons (.int _) .nil)), ((hpb.kp k019).kp k1925).dp, rfl, sh_ps _, ?_⟩
  have e3 : ((PD ps).any fun z => PyData.eqv z (.tuple [.int ((min x y : Nat) : Int), .int ((max x y : Nat) : Int)])) = ap ps x y := inAny (ps := ps) (m := min x y) (k := max x y)
  rw [e3]
  refine ⟨by show 2 ≤ sizeLine; decide, fun p4 hp4 => ?_⟩
  have k26 : Kp [] H25 (upd H25 p4 (.tup [z2, .bl (ap ps x y)])) := Kp.new hp4
  have g26 : upd H25 p4 (.tup [z2, .bl (ap ps x y)]) p4 = some (.tup [z2, .bl (ap ps x y)]) := upd_same
  generalize upd H25 p4 (.tup [z2, .bl (ap ps x y)]) = H26 at k26 g26 ⊢
  have d26 : Dp K H26 (.ref p4) (.tuple [VD (clo n ps [x]), .bool (ap ps x y)]) := .tup (tupT g26) (.cons (hz2.kp (k25.trans k26)).dp (.cons (.bl _) .nil))
  have k2226 := ((k23.trans k24').trans k25).trans k26
  refine ⟨_, _, _, rfl, Dp.kp k2226 d22, d26, by simp [pl, plAll, pl_vd, hkl'], by simp [PyData.depth, PyData.depthAll, depth_vd], fun H27 k27 => ⟨_, rfl, iteF ?_⟩⟩
  have k1927 := (k1922.trans k2226).trans k27
  clear hz1 hz2 hp1 hp2 hp3 hp4 g22 g23 g25 g26 d22 d26
  obtain ⟨an, rfl, hna⟩ := hy5.kp k1927
  obtain ⟨af, rfl, hfa⟩ := hy6.kp k1927
  have hf27 := hf19.kp k1927
  have hx1 := hx1.kp k1927
  have hx2 := hx2.kp k1927
  have hxb := hxb.kp k1927
  have k027 := k019.trans k1927.mono0
  have hm27 := hm19.kp k1927
  -- common
  refine ⟨_, rfl, an, rfl, ⟨_, tupT hna⟩, fun D hD => ?_⟩
  refine lc_it (n := ((con n ps v).map fun k : Nat => V.int k).length) walk_tup (fun t H' => Kp [] H27 H' ∧ H' D = some (.lst ((((con n ps v).take t).filter fun x => decide (x ∈ con n ps u)).map fun k : Nat => V.int k))) ⟨Kp.new hD, upd_same⟩ (fun t H' _ h => tupT (h.1.t _ _ hna)) ?_ ?_
  · rintro t y _ G1 ht ⟨k7, hD7⟩ ⟨rfl, hyt⟩
    rw [List.length_map] at ht
    rw [List.getElem?_map, List.getElem?_eq_getElem ht] at hyt
    obtain rfl := Option.some.inj hyt
    have hvt : (con n ps v)[t]? = some (con n ps v)[t] := List.getElem?_eq_getElem ht
    generalize (con n ps v)[t] = z at hvt
    refine ⟨rfl, _, rfl, _, rfl, af, _, rfl, .inr (tupT (k7.t _ _ hfa)), rfl, flat_ints _, _, rfl, ?_⟩
    have etk : (con n ps v).take (t + 1) = (con n ps v).take t ++ [z] := by rw [List.take_add_one, hvt]; rfl
    have hfl := List.length_filter_le (fun x => decide (x ∈ con n ps u)) ((con n ps v).take t)
    rw [List.length_take] at hfl
    have hb : (if false = true then !inV (V.int (z : Int)) ((con n ps u).map fun k : Nat => V.int k) else inV (V.int (z : Int)) ((con n ps u).map fun k : Nat => V.int k)) = decide (z ∈ con n ps u) := inV_ints
    rw [hb]
    have := hcl' v
    refine ite2 (fun hc2 => ?_) (fun hc2 => ?_)
    · refine ⟨_, rfl, _, hD7, by rw [List.length_map]; exact small_lt (by omega), k7.put hD, ?_⟩
      rw [upd_same, etk, List.filter_append, List.filter_cons, if_pos hc2, List.filter_nil, List.map_append]; rfl
    · refine ⟨k7, ?_⟩
      rw [etk, List.filter_append, List.filter_cons, if_neg hc2, List.filter_nil, List.append_nil]; exact hD7
  rintro H28 ⟨k28, hD28⟩
  rw [List.length_map, List.take_length, ← con_app] at hD28
  refine ⟨D, _, rfl, .inl ⟨SqL.of hD28, fun pc hpc => ?_⟩⟩
  have k29 : Kp [] H28 (upd H28 pc (.tup ((con n ps (v ++ u)).map fun k : Nat => V.int k))) := Kp.new hpc
  have g29 : upd H28 pc (.tup ((con n ps (v ++ u)).map fun k : Nat => V.int k)) pc = some (.tup ((con n ps (v ++ u)).map fun k : Nat => V.int k)) := upd_same
  generalize upd H28 pc (.tup ((con n ps (v ++ u)).map fun k : Nat => V.int k)) = H29 at k29 g29 ⊢
  have k2729 := k28.trans k29
  have hxc : ValV H29 (con n ps (v ++ u)) (.ref pc) := ⟨pc, rfl, g29⟩
  have hna := k2729.t _ _ hna
  have hf29 := hf27.kp k2729
  have hx1 := hx1.kp k2729
  have hxb := hxb.kp k2729
  have k029 := k027.trans k2729.mono0
  have hm29 := hm27.kp k2729
  have hvu : ∀ x ∈ v ++ u, x < n := fun x hx => by
    rcases List.mem_append.mp hx with z | z
    · exact hv.2 x z
    · exact hu.2 x z
  -- told
  refine ⟨_, rfl, _, rfl, _, .ref pt, n, ps, bo, rfl, hf29, hok, hxb, hboO, fun H30 z1 k30 hz1 => ?_⟩
  refine ⟨_, rfl, _, rfl, _, .ref pc, n, ps, con n ps (v ++ u), rfl, hf29.kp k30, hok, hxc.kp k30, con_ok, fun H31 k31 => ?_⟩
  have k2931 := k30.trans k31
  refine ⟨_, rfl, _, rfl, _, rfl, _, .ref a1, n, ps, v, rfl, hf29.kp k2931, hok, hx1.kp k2931, hv, fun H32 z3 k32 hz3 => ?_⟩
  have k2932 := k2931.trans k32
  refine ⟨_, z3, n, ps, clo n ps v, rfl, hf29.kp k2932, hok, hz3, con_ok, fun H33 z4 k33 hz4 => ?_⟩
  have k2933 := k2932.trans k33
  obtain ⟨a1', e, h1⟩ := hx1.kp k2933
  cases e
  have hna33 := k2933.t _ _ hna
  refine ⟨_, rfl, a1, rfl, ⟨_, tupT h1⟩, fun M hM => ?_⟩
  refine lc_it (n := (v.map fun k : Nat => V.int k).length) walk_tup (fun t H' => Kp [] H33 H' ∧ H' M = some (.lst (((v.take t).filter fun x => decide (x ∈ con n ps v)).map fun k : Nat => V.int k))) ⟨Kp.new hM, upd_same⟩ (fun t H' _ h => tupT (h.1.t _ _ h1)) ?_ ?_
  · rintro t y _ G1 ht ⟨k7, hD7⟩ ⟨rfl, hyt⟩
    rw [List.length_map] at ht
    rw [List.getElem?_map, List.getElem?_eq_getElem ht] at hyt
    obtain rfl := Option.some.inj hyt
    have hvt : v[t]? = some v[t] := List.getElem?_eq_getElem ht
    generalize v[t] = z at hvt
    refine ⟨rfl, _, rfl, _, rfl, an, _, rfl, .inr (tupT (k7.t _ _ hna33)), rfl, flat_ints _, _, rfl, ?_⟩
    have etk : v.take (t + 1) = v.take t ++ [z] := by rw [List.take_add_one, hvt]; rfl
    have hfl := List.length_filter_le (fun x => decide (x ∈ con n ps v)) (v.take t)
    rw [List.length_take] at hfl
    have hb : (if false = true then !inV (V.int (z : Int)) ((con n ps v).map fun k : Nat => V.int k) else inV (V.int (z : Int)) ((con n ps v).map fun k : Nat => V.int k)) = decide (z ∈ con n ps v) := inV_ints
    rw [hb]
    refine ite2 (fun hc2 => ?_) (fun hc2 => ?_)
    · refine ⟨_, rfl, _, hD7, by rw [List.length_map]; exact small_lt (by omega), k7.put hM, ?_⟩
      rw [upd_same, etk, List.filter_append, List.filter_cons, if_pos hc2, List.filter_nil, List.map_append]; rfl
    · refine ⟨k7, ?_⟩
      rw [etk, List.filter_append, List.filter_cons, if_neg hc2, List.filter_nil, List.append_nil]; exact hD7
  rintro H34 ⟨k34, hM34⟩
  rw [List.length_map, List.take_length, con_disj hok.2.2.1] at hM34
  refine ⟨Nat.zero_le _, fun l hl => ?_⟩
  have k35 : Kp [] H34 (upd H34 l (.lst [])) := Kp.new hl
  have g35 : upd H34 l (.lst []) l = some (.lst []) := upd_same
  generalize upd H34 l (.lst []) = H35 at k35 g35 ⊢
  refine ⟨M, l, _, rfl, rfl, SqL.of (k35.k _ _ (by simp) hM34), SqL.of g35, ?_⟩
  refine ⟨by show 4 ≤ sizeLine; decide, fun p5 hp5 => ?_⟩
  have ecl : decide (clo n ps (con n ps (v ++ u)) = con n ps (v ++ u)) = true := decide_eq_true (clo_con' hvu)
  rw [ecl, show (([] : List Nat).map fun k : Nat => V.int k).isEmpty = true from rfl]
  have k36 : Kp [] H35 (upd H35 p5 (.tup [z1, .bl true, z4, .bl true])) := Kp.new hp5
  have g36 : upd H35 p5 (.tup [z1, .bl true, z4, .bl true]) p5 = some (.tup [z1, .bl true, z4, .bl true]) := upd_same
  generalize upd H35 p5 (.tup [z1, .bl true, z4, .bl true]) = H36 at k36 g36 ⊢
  have k3336 := (k34.trans k35).trans k36
  have k2936 := k2933.trans k3336
  have eb1 : con n ps bo = con n ps (v ++ u) := con_mem fun x => (hboM x).symm
  have eb2 : con n ps (clo n ps v) = con n ps v := con_clo hv.2
  rw [eb1] at hz1
  rw [eb2] at hz4
  have d36 : Dp K H36 (.ref p5) (.tuple [VD (con n ps (v ++ u)), .bool true, VD (con n ps v), .bool true]) :=
    .tup (tupT g36) (.cons (hz1.kp (((k31.trans k32).trans k33).trans k3336)).dp (.cons (.bl _) (.cons (hz4.kp k3336).dp (.cons (.bl _) .nil))))
  refine ⟨_, rfl, _, rfl, _, rfl, by show 4 ≤ sizeLine; decide, fun p6 hp6 => ?_⟩
  have k37 : Kp [] H36 (upd H36 p6 (.tup [.ref pc, .bl true, .ref an, .bl true])) := Kp.new hp6
  have g37 : upd H36 p6 (.tup [.ref pc, .bl true, .ref an, .bl true]) p6 = some (.tup [.ref pc, .bl true, .ref an, .bl true]) := upd_same
  generalize upd H36 p6 (.tup [.ref pc, .bl true, .ref an, .bl true]) = H37 at k37 g37 ⊢
  have k2937 := k2936.trans k37
  have d37 : Dp K H37 (.ref p6) (.tuple [VD (con n ps (v ++ u)), .bool true, VD (con n ps v), .bool true]) :=
    .tup (tupT g37) (.cons (hxc.kp k2937).dp (.cons (.bl _) (.cons (ValV.dp ⟨an, rfl, k2937.t _ _ hna⟩) (.cons (.bl _) .nil))))
  refine ⟨_, _, _, rfl, Dp.kp k37 d36, d37, by simp [pl, plAll, pl_vd, hcl'], by simp [PyData.depth, PyData.depthAll, depth_vd], fun H38 k38 => ?_⟩
  exact q _ (k029.trans (k2937.trans k38).mono0) ((hm29.kp (k2937.trans k38)).mono (by omega))
end
end N0

namespace N0
open PySem L2 PySem.Spec PyProof.Rows
def tA : Tm := .letter "a"
def tB2 : Tm := .letter "b"
theorem lets_not : lets (addP [] (.not tA)) = (["a"] : List Str) := by decide +kernel
theorem lets_and : lets (addP [] (.and tA tB2)) = (["a", "b"] : List Str) := by decide +kernel
theorem lets_or : lets (addP [] (.or tA tB2)) = (["a", "b"] : List Str) := by decide +kernel
theorem small_not : Small (.not tA) := ⟨by decide +kernel, by decide, by decide⟩
theorem small_and : Small (.and tA tB2) := ⟨by decide +kernel, by decide, by decide⟩
theorem small_or : Small (.or tA tB2) := ⟨by decide +kernel, by decide, by decide⟩
theorem nm_a : isNameD (.str "a") = true := by decide +kernel
theorem nm_b : isNameD (.str "b") = true := by decide +kernel
theorem ln_a : ("a" : Str).length ≤ 1000 := by decide +kernel
theorem ln_b : ("b" : Str).length ≤ 1000 := by decide +kernel
theorem rd_ab {n : Nat} {ps : List (Nat × Nat)} {v u : List Nat} (hv : Clo n ps v) (hu : Clo n ps u) : RdOk n ps [("a", v), ("b", u)] where
  one := fun r hr => by
    rcases List.mem_cons.mp hr with rfl | hr
    · exact ⟨nm_a, ln_a, hv⟩
    · rw [List.mem_singleton.mp hr]
      exact ⟨nm_b, ln_b, hu⟩
  asc := fun i r s hr hs => by
    match i, hr, hs with
    | 0, hr, hs =>
      cases hr; cases hs
      show (("a" : Str).cps.toList < ("b" : Str).cps.toList)
      decide +kernel
    | 1, hr, hs => simp at hs
    | i + 2, hr, hs => simp at hs
section
variable {P : Program} {w : World} {K : PySem.W.Frag} {mg : Str → Option Value} {base : Heap} {f C : Addr} {fd : FuncData}
theorem ok_law_meant_right (F : Fun K "_law_meant_right" "_law_meant_right" s_law_meant_right f fd) (T : Txt K mg) (D_law_value : Def P w K mg base "_law_value" 3 ["m", "many"] spVal)
    (D_law_closure : Def P w K mg base "_law_closure" 2 ["frame", "value"] (spLC clo)) (D_contrary_of : Def P w K mg base "contrary_of" 5 ["frame", "points"] (spFV con)) (D_meaning_of : Def P w K mg base "meaning_of" 46 ["frame", "reading", "term"] spMO)
    (D_joined_value : Def P w K mg base "joined_value" 5 ["frame", "points", "other_points"] spJoin) (D_law_same : Def P w K mg base "_law_same" 12 ["told", "due"] (spSame K 12)) :
    FnOk P w K mg base CX0 47 f fd ["m", "frame"] spVR := by
  refine F.ok sc_law_meant_right (fun vs H Q E h => ?_) (fun cdv A outer s H vs Q E hr h => ?_)
  · obtain ⟨m, c, g, fv, n, ps, b, rfl, _⟩ := h
    rfl
  obtain ⟨m, c, g, fv, n, ps, b, rfl, hm, hf, hok, hn9, hb, q⟩ := h
  have nd := sc_law_meant_right.nd
  have hn600 : n ≤ 600 := by omega
  have hn1 : 0 < n := by have := hok.1; omega
  refine ⟨_, (pss_cons (ps_asg (pe_tup (pa_cons (e_fn D_law_closure (hr.mono (by omega)) (pa_cons (pv 1) (pa_cons (e_fn D_law_value (hr.mono (by omega)) (pa_cons (pv 0) (pa_cons (pe_ix ix_tup (pv 1) pe_int (fun _ _ => rfl)) pa_nil))) pa_nil))) (pa_cons (e_fn D_law_closure (hr.mono (by omega)) (pa_cons (pv 1) (pa_cons (e_fn D_law_value (hr.mono (by omega)) (pa_cons (pv 0) (pa_cons (pe_ix ix_tup (pv 1) pe_int (fun _ _ => rfl)) pa_nil))) pa_nil))) pa_nil))) (pg_tup rfl (pgs_cons (pg_name (i := 2) nd rfl (Or.inl rfl)) (pgs_cons (pg_name (i := 3) nd rfl (Or.inr rfl)) pgs_nil))))
      (pss_cons (ps_par3 (i := 4) (j := 5) (l := 6) rfl nd rfl rfl rfl (by decide) (by decide) (by decide) rfl rfl rfl (pa_cons (pe_tupZ (pa_cons (pe_tup (pa_cons pe_str (pa_cons (pv 2) pa_nil))) (pa_cons (pe_tup (pa_cons pe_str (pa_cons (pv 3) pa_nil))) pa_nil))) (pa_cons (pe_tup (pa_cons pe_str (pa_cons pe_str pa_nil))) (pa_cons (pe_tup (pa_cons pe_str (pa_cons pe_str pa_nil))) pa_nil))) rfl)
      (pss_cons (ps_set (i := 7) nd rfl (Or.inl rfl) (pe_tup (pa_cons (e_fn D_meaning_of (hr.mono (by omega)) (pa_cons (pv 1) (pa_cons (pv 4) (pa_cons (pe_tup (pa_cons pe_str (pa_cons (pv 5) pa_nil))) pa_nil)))) (pa_cons (e_fn D_meaning_of (hr.mono (by omega)) (pa_cons (pv 1) (pa_cons (pv 4) (pa_cons (pe_tup (pa_cons pe_str (pa_cons (pv 5) (pa_cons (pv 6) pa_nil)))) pa_nil)))) (pa_cons (e_fn D_meaning_of (hr.mono (by omega)) (pa_cons (pv 1) (pa_cons (pv 4) (pa_cons (pe_tup (pa_cons pe_str (pa_cons (pv 5) (pa_cons (pv 6) pa_nil)))) pa_nil)))) pa_nil)))))
      (pss_cons (ps_set (i := 8) nd rfl (Or.inl rfl) (pe_tup (pa_cons (e_fn D_contrary_of (hr.mono (by omega)) (pa_cons (pv 1) (pa_cons (pv 2) pa_nil))) (pa_cons (pe_callTy call_tuple_of (by rfl) T.tuple bt_tuple (pa_cons (pe_lc (own := [("point", 9)]) (g := gName 9) rfl nd (pi_tup (pv 2)) (blkOk_by (N := N_law_meant_right) (sc := defScope s_law_meant_right) (by decide +kernel)) (fun _ _ _ _ _ => pg_name (i := 9) nd rfl (Or.inl rfl)) (fun _ _ _ _ _ => pts_one (pt_cmpR (op_in_seqk K) (pv 9) (pv 3) rfl)) (fun _ _ _ _ _ => (pv 9))) pa_nil)) (pa_cons (e_fn D_joined_value (hr.mono (by omega)) (pa_cons (pv 1) (pa_cons (pv 2) (pa_cons (pv 3) pa_nil)))) pa_nil)))))
      (pss_one (ps_ret (e_fn D_law_same (hr.mono (by omega)) (pa_cons (pv 7) (pa_cons (pv 8) pa_nil))))))))), ?_⟩
  obtain ⟨a, pb, rfl, ha, hpb⟩ := id hf
  refine ⟨_, rfl, _, rfl, _, rfl, a, _, 0, _, rfl, rfl, tupT ha, atI_nat (j := 0) rfl, m, c, g, n, b, rfl, hm, hn600, by omega, fun H1 x1 v k1 hm1 hx1 hv => ?_⟩
  refine ⟨_, x1, n, ps, v, rfl, hf.kp k1, hok, hx1, ValV.len hv hn600, fun H2 y1 k2 hy1 => ?_⟩
  have k02 := k1.trans k2.mono0
  refine ⟨_, rfl, _, rfl, _, rfl, a, _, 0, _, rfl, rfl, tupT (k02.t _ _ ha), atI_nat (j := 0) rfl, m, c, g, n, b + 1 + n, rfl, hm1.kp k2, hn600, by omega, fun H3 x2 u k3 hm3 hx2 hu => ?_⟩
  have k03 := k02.trans k3
  refine ⟨_, x2, n, ps, u, rfl, hf.kp k03, hok, hx2, ValV.len hu hn600, fun H4 y2 k4 hy2 => ?_⟩
  have hy1 := (hy1.kp k3).kp k4
  have hcv : Clo n ps (clo n ps v) := clo_con1 con_lt
  have hcu : Clo n ps (clo n ps u) := clo_con1 con_lt
  generalize clo n ps v = v at hy1 hcv
  generalize clo n ps u = u at hy2 hcu
  have hv := hcv.1
  have hu := hcu.1
  have hvl := ValV.len hv hn600
  have hul := ValV.len hu hn600
  refine ⟨by show 2 ≤ sizeLine; decide, fun p hp => ⟨p, _, rfl, tupT upd_same, rfl, _, _, rfl, _, _, rfl, rfl, ?_⟩⟩
  have k5 : Kp [] H4 (upd H4 p (.tup [y1, y2])) := Kp.new hp
  generalize upd H4 p (.tup [y1, y2]) = H5 at k5 ⊢
  have k05 := k03.trans (k4.trans k5).mono0
  have hm5 := hm3.kp (k4.trans k5)
  have hy1 := hy1.kp k5
  have hy2 := hy2.kp k5
  have hf5 := hf.kp k05
  -- reading, a, b
  refine ⟨_, rfl, by show 2 ≤ sizeLine; decide, fun p1 hp1 => ?_⟩
  have k6 : Kp [] H5 (upd H5 p1 (.tup [.str "a", y1])) := Kp.new hp1
  have g6 : upd H5 p1 (.tup [.str "a", y1]) p1 = some (.tup [.str "a", y1]) := upd_same
  generalize upd H5 p1 (.tup [.str "a", y1]) = H6 at k6 g6 ⊢
  refine ⟨_, rfl, by show 2 ≤ sizeLine; decide, fun p2 hp2 => ?_⟩
  have k7 : Kp [] H6 (upd H6 p2 (.tup [.str "b", y2])) := Kp.new hp2
  have g7 : upd H6 p2 (.tup [.str "b", y2]) p2 = some (.tup [.str "b", y2]) := upd_same
  generalize upd H6 p2 (.tup [.str "b", y2]) = H7 at k7 g7 ⊢
  refine ⟨by show 2 ≤ sizeLine; decide, fun pr o hpr hoc hod => ?_⟩
  have k8 : Kp [] H7 (upd H7 pr (.frz o (.tup [.ref p1, .ref p2]))) := Kp.new hpr
  have g8 : upd H7 pr (.frz o (.tup [.ref p1, .ref p2])) pr = some (.frz o (.tup [.ref p1, .ref p2])) := upd_same
  generalize upd H7 pr (.frz o (.tup [.ref p1, .ref p2])) = H8 at k8 g8 ⊢
  have hrd : RdF H8 [("a", v), ("b", u)] (.ref pr) := ⟨pr, o, _, rfl, g8, hoc, hod, rfl, fun i r hr => by
    match i, hr with
    | 0, hr => cases hr; exact ⟨p1, y1, rfl, (k7.trans k8).t _ _ g6, hy1.kp ((k6.trans k7).trans k8)⟩
    | 1, hr => cases hr; exact ⟨p2, y2, rfl, k8.t _ _ g7, hy2.kp ((k6.trans k7).trans k8)⟩
    | i + 2, hr => simp at hr⟩
  refine ⟨by show 2 ≤ sizeLine; decide, fun la hla => ?_⟩
  have k9 : Kp [] H8 (upd H8 la (.tup [.str "letter", .str "a"])) := Kp.new hla
  have g9 : upd H8 la (.tup [.str "letter", .str "a"]) la = some (.tup [.str "letter", .str "a"]) := upd_same
  generalize upd H8 la (.tup [.str "letter", .str "a"]) = H9 at k9 g9 ⊢
  refine ⟨by show 2 ≤ sizeLine; decide, fun lb hlb => ⟨_, _, _, rfl, ?_⟩⟩
  have k10 : Kp [] H9 (upd H9 lb (.tup [.str "letter", .str "b"])) := Kp.new hlb
  have g10 : upd H9 lb (.tup [.str "letter", .str "b"]) lb = some (.tup [.str "letter", .str "b"]) := upd_same
  generalize upd H9 lb (.tup [.str "letter", .str "b"]) = H10 at k10 g10 ⊢
  have k510 := (((k6.trans k7).trans k8).trans k9).trans k10
  have hrd := (hrd.kp k9).kp k10
  have hA : TmV H10 tA (.ref la) := ⟨la, rfl, k10.t _ _ g9⟩
  have hB : TmV H10 tB2 (.ref lb) := ⟨lb, rfl, g10⟩
  have hy1 := hy1.kp k510
  have hy2 := hy2.kp k510
  have hf10 := hf5.kp k510
  have k010 := k05.trans k510.mono0
  have hm10 := hm5.kp k510
  clear g6 g7 g8 g9 g10 hp1 hp2 hpr hla hlb hoc hod
  obtain ⟨ρ, ρa, ρb⟩ : ∃ ρ : Str → List Nat, ρ "a" = v ∧ ρ "b" = u := ⟨fun s => if s = "a" then v else u, if_pos rfl, if_neg (by decide +kernel)⟩
  have hρ : ∀ r ∈ ([("a", v), ("b", u)] : List (Str × List Nat)), ρ r.1 = r.2 := fun r hr => by
    rcases List.mem_cons.mp hr with rfl | hr
    · exact ρa
    · rw [List.mem_singleton.mp hr]; exact ρb
  have hndn : (([("a", v), ("b", u)] : List (Str × List Nat)).map (·.1)).Nodup := by show (["a", "b"] : List Str).Nodup; decide +kernel
  have hro := rd_ab hcv hcu
  have letA : ∀ s ∈ (["a"] : List Str), ∃ r ∈ ([("a", v), ("b", u)] : List (Str × List Nat)), r.1 = s := fun s hs => ⟨("a", v), by simp, (List.mem_singleton.mp hs).symm⟩
  have letAB : ∀ s ∈ (["a", "b"] : List Str), ∃ r ∈ ([("a", v), ("b", u)] : List (Str × List Nat)), r.1 = s := fun s hs => by
    rcases List.mem_cons.mp hs with rfl | hs
    · exact ⟨("a", v), by simp, rfl⟩
    · rw [List.mem_singleton.mp hs]; exact ⟨("b", u), by simp, rfl⟩
  -- told
  refine ⟨_, rfl, _, rfl, _, rfl, by show 2 ≤ sizeLine; decide, fun t1 ht1 => ?_⟩
  have k11 : Kp [] H10 (upd H10 t1 (.tup [.str "not", .ref la])) := Kp.new ht1
  have g11 : upd H10 t1 (.tup [.str "not", .ref la]) t1 = some (.tup [.str "not", .ref la]) := upd_same
  generalize upd H10 t1 (.tup [.str "not", .ref la]) = H11 at k11 g11 ⊢
  refine ⟨_, .ref pr, .ref t1, n, ps, _, ρ, .not tA, rfl, hf10.kp k11, hok, hrd.kp k11, hro, hρ, hndn, by show 2 ≤ 1000; decide, ⟨t1, _, rfl, g11, hA.kp k11⟩, by decide, small_not, by rw [lets_not]; decide, by rw [lets_not]; exact letA, fun H12 z1 k12 hz1 => ?_⟩
  have k1012 := k11.trans k12
  refine ⟨_, rfl, _, rfl, _, rfl, _, rfl, by show 3 ≤ sizeLine; decide, fun t2 ht2 => ?_⟩
  have k13 : Kp [] H12 (upd H12 t2 (.tup [.str "and", .ref la, .ref lb])) := Kp.new ht2
  have g13 : upd H12 t2 (.tup [.str "and", .ref la, .ref lb]) t2 = some (.tup [.str "and", .ref la, .ref lb]) := upd_same
  generalize upd H12 t2 (.tup [.str "and", .ref la, .ref lb]) = H13 at k13 g13 ⊢
  have k1013 := k1012.trans k13
  refine ⟨_, .ref pr, .ref t2, n, ps, _, ρ, .and tA tB2, rfl, hf10.kp k1013, hok, hrd.kp k1013, hro, hρ, hndn, by show 2 ≤ 1000; decide, ⟨t2, _, _, rfl, g13, hA.kp k1013, hB.kp k1013⟩, by decide, small_and, by rw [lets_and]; decide, by rw [lets_and]; exact letAB, fun H14 z2 k14 hz2 => ?_⟩
  have k1014 := k1013.trans k14
  refine ⟨_, rfl, _, rfl, _, rfl, _, rfl, by show 3 ≤ sizeLine; decide, fun t3 ht3 => ?_⟩
  have k15 : Kp [] H14 (upd H14 t3 (.tup [.str "or", .ref la, .ref lb])) := Kp.new ht3
  have g15 : upd H14 t3 (.tup [.str "or", .ref la, .ref lb]) t3 = some (.tup [.str "or", .ref la, .ref lb]) := upd_same
  generalize upd H14 t3 (.tup [.str "or", .ref la, .ref lb]) = H15 at k15 g15 ⊢
  have k1015 := k1014.trans k15
  refine ⟨_, .ref pr, .ref t3, n, ps, _, ρ, .or tA tB2, rfl, hf10.kp k1015, hok, hrd.kp k1015, hro, hρ, hndn, by show 2 ≤ 1000; decide, ⟨t3, _, _, rfl, g15, hA.kp k1015, hB.kp k1015⟩, by decide, small_or, by rw [lets_or]; decide, by rw [lets_or]; exact letAB, fun H16 z3 k16 hz3 => ?_⟩
  have k1016 := k1015.trans k16
  have em1 : mn n ps ρ (.not tA) = con n ps v := by show con n ps (ρ "a") = _; rw [ρa]
  have em2 : mn n ps ρ (.and tA tB2) = v.filter fun x => decide (x ∈ u) := by show ((ρ "a").filter fun x => decide (x ∈ ρ "b")) = _; rw [ρa, ρb]
  have em3 : mn n ps ρ (.or tA tB2) = clo n ps (v ++ u) := by show clo n ps (ρ "a" ++ ρ "b") = _; rw [ρa, ρb]
  rw [em1] at hz1
  rw [em2] at hz2
  rw [em3] at hz3
  refine ⟨by show 3 ≤ sizeLine; decide, fun p3 hp3 => ?_⟩
  have k17 : Kp [] H16 (upd H16 p3 (.tup [z1, z2, z3])) := Kp.new hp3
  have g17 : upd H16 p3 (.tup [z1, z2, z3]) p3 = some (.tup [z1, z2, z3]) := upd_same
  generalize upd H16 p3 (.tup [z1, z2, z3]) = H17 at k17 g17 ⊢
  have k1017 := k1016.trans k17
  have d17 : Dp K H17 (.ref p3) (.tuple [VD (con n ps v), VD (v.filter fun x => decide (x ∈ u)), VD (clo n ps (v ++ u))]) :=
    .tup (tupT g17) (.cons (hz1.kp ((((k13.trans k14).trans k15).trans k16).trans k17)).dp (.cons (hz2.kp ((k15.trans k16).trans k17)).dp (.cons (hz3.kp k17).dp .nil)))
  clear g11 g13 g15 g17 ht1 ht2 ht3 hp3 hz1 hz2 hz3 em1 em2 em3
  have hy1 := hy1.kp k1017
  have hy2 := hy2.kp k1017
  have hf17 := hf10.kp k1017
  -- due
  refine ⟨_, rfl, _, rfl, _, y1, n, ps, v, rfl, hf17, hok, hy1, hv, fun H18 z1 k18 hz1 => ?_⟩
  obtain ⟨a1, rfl, h1⟩ := id hy1
  obtain ⟨a2, rfl, h2⟩ := id hy2
  have h1 := k18.t _ _ h1
  have h2 := k18.t _ _ h2
  refine ⟨_, rfl, a1, rfl, ⟨_, tupT h1⟩, fun D hD => ?_⟩
  refine lc_it (n := (v.map fun k : Nat => V.int k).length) walk_tup (fun t H' => Kp [] H18 H' ∧ H' D = some (.lst (((v.take t).filter fun x => decide (x ∈ u)).map fun k : Nat => V.int k))) ⟨Kp.new hD, upd_same⟩ (fun t H' _ h => tupT (h.1.t _ _ h1)) ?_ ?_
  · rintro t y _ G1 ht ⟨k7, hD7⟩ ⟨rfl, hyt⟩
    rw [List.length_map] at ht
    rw [List.getElem?_map, List.getElem?_eq_getElem ht] at hyt
    obtain rfl := Option.some.inj hyt
    have hvt : v[t]? = some v[t] := List.getElem?_eq_getElem ht
    generalize v[t] = z at hvt
    refine ⟨rfl, _, rfl, _, rfl, a2, _, rfl, .inr (tupT (k7.t _ _ h2)), rfl, flat_ints _, _, rfl, ?_⟩
    have etk : v.take (t + 1) = v.take t ++ [z] := by rw [List.take_add_one, hvt]; rfl
    have hfl := List.length_filter_le (fun x => decide (x ∈ u)) (v.take t)
    rw [List.length_take] at hfl
    have hb : (if false = true then !inV (V.int (z : Int)) (u.map fun k : Nat => V.int k) else inV (V.int (z : Int)) (u.map fun k : Nat => V.int k)) = decide (z ∈ u) := inV_ints
    rw [hb]
    refine ite2 (fun hc2 => ?_) (fun hc2 => ?_)
    · refine ⟨_, rfl, _, hD7, by rw [List.length_map]; exact small_lt (by omega), k7.put hD, ?_⟩
      rw [upd_same, etk, List.filter_append, List.filter_cons, if_pos hc2, List.filter_nil, List.map_append]; rfl
    · refine ⟨k7, ?_⟩
      rw [etk, List.filter_append, List.filter_cons, if_neg hc2, List.filter_nil, List.append_nil]; exact hD7
  rintro H19 ⟨k19, hD19⟩
  rw [List.length_map, List.take_length] at hD19
  refine ⟨D, _, rfl, .inl ⟨SqL.of hD19, fun pc hpc => ?_⟩⟩
  have k20 : Kp [] H19 (upd H19 pc (.tup ((v.filter fun x => decide (x ∈ u)).map fun k : Nat => V.int k))) := Kp.new hpc
  have g20 : upd H19 pc (.tup ((v.filter fun x => decide (x ∈ u)).map fun k : Nat => V.int k)) pc = some (.tup ((v.filter fun x => decide (x ∈ u)).map fun k : Nat => V.int k)) := upd_same
  generalize upd H19 pc (.tup ((v.filter fun x => decide (x ∈ u)).map fun k : Nat => V.int k)) = H20 at k20 g20 ⊢
  have k1720 := (k18.trans k19).trans k20
  have hxc : ValV H20 (v.filter fun x => decide (x ∈ u)) (.ref pc) := ⟨pc, rfl, g20⟩
  refine ⟨_, rfl, _, rfl, _, rfl, _, .ref a1, .ref a2, n, ps, v, u, rfl, hf17.kp k1720, hok, hy1.kp k1720, hv, hy2.kp k1720, hu, fun H21 z3 k21 hz3 => ?_⟩
  refine ⟨by show 3 ≤ sizeLine; decide, fun p4 hp4 => ?_⟩
  have k22 : Kp [] H21 (upd H21 p4 (.tup [z1, .ref pc, z3])) := Kp.new hp4
  have g22 : upd H21 p4 (.tup [z1, .ref pc, z3]) p4 = some (.tup [z1, .ref pc, z3]) := upd_same
  generalize upd H21 p4 (.tup [z1, .ref pc, z3]) = H22 at k22 g22 ⊢
  have k1722 := (k1720.trans k21).trans k22
  have d22 : Dp K H22 (.ref p4) (.tuple [VD (con n ps v), VD (v.filter fun x => decide (x ∈ u)), VD (clo n ps (v ++ u))]) :=
    .tup (tupT g22) (.cons (hz1.kp (((k19.trans k20).trans k21).trans k22)).dp (.cons (hxc.kp (k21.trans k22)).dp (.cons (hz3.kp k22).dp .nil)))
  have hcl' : ∀ w, (con n ps w).length ≤ 1000 := fun w => ValV.len con_ok hn600
  have hkl' : ∀ w, (clo n ps w).length ≤ 1000 := fun w => ValV.len con_ok hn600
  have hfl : (v.filter fun x => decide (x ∈ u)).length ≤ 1000 := Nat.le_trans (List.length_filter_le _ _) hvl
  refine ⟨_, rfl, _, rfl, _, _, _, rfl, Dp.kp k1722 d17, d22, by simp [pl, plAll, pl_vd, hcl', hkl', hfl], by simp [PyData.depth, PyData.depthAll, depth_vd], fun H23 k23 => ?_⟩
  have k1023 := (k1017.trans k1722).trans k23
  exact q _ (k010.trans k1023.mono0) ((hm10.kp k1023).mono (by omega))
end
end N0

namespace N0
open PySem L2 PySem.Spec PyProof.Rows
theorem e_lenK {X : Cx} (K : PySem.W.Frag) {pos : Pos} {ta : TA} {es : List Expr} {p : Pos} (he : PE X (.Call (.Name "len" p) es [] pos) (tCB (fun xs H Q => ∃ p ys, xs = [.ref p] ∧ (SqL X.K H p ys ∨ SqT X.K H p ys) ∧ Q (.int ys.length) H) ta)) (h : X.K = K := by rfl) :
    PE X (.Call (.Name "len" p) es [] pos) (tCB (fun xs H Q => ∃ p ys, xs = [.ref p] ∧ (SqL K H p ys ∨ SqT K H p ys) ∧ Q (.int ys.length) H) ta) := h ▸ he
/-! ### the least of alike data -/
theorem dlt_trans {a b c : PyData} (h1 : PySem.W.dataLt a b = true) (h2 : PySem.W.dataLt b c = true) : PySem.W.dataLt a c = true := PyProof.Rows.lex_trans _ _ _ h1 h2
theorem dlt_irr (a : PyData) : PySem.W.dataLt a a = false := PyProof.Rows.lex_irrefl _
theorem dlt_neg {a b c : PyData} (h : PySem.W.dataLt a c = true) : PySem.W.dataLt a b = true ∨ PySem.W.dataLt b c = true := PyProof.Rows.lex_negTrans _ _ _ h
theorem minD_le : ∀ (ds : List PyData) (d : PyData), ∀ y ∈ d :: ds, PySem.W.dataLt y (PySem.W.minD d ds) = false
  | [], d, y, hy => by rw [List.mem_singleton.mp hy]; exact dlt_irr d
  | e :: ds, d, y, hy => by
    have step : PySem.W.minD d (e :: ds) = PySem.W.minD (if PySem.W.dataLt e d = true then e else d) ds := rfl
    rw [step]
    have ih := minD_le ds (if PySem.W.dataLt e d = true then e else d)
    have h0 := ih _ (List.mem_cons_self ..)
    generalize hm : PySem.W.minD (if PySem.W.dataLt e d = true then e else d) ds = mm at ih h0 ⊢
    have hd : PySem.W.dataLt d mm = false ∧ PySem.W.dataLt e mm = false := by
      by_cases c : PySem.W.dataLt e d = true
      · rw [if_pos c] at h0
        refine ⟨?_, h0⟩
        cases hx : PySem.W.dataLt d mm with
        | false => rfl
        | true => rw [dlt_trans c hx] at h0; cases h0
      · rw [if_neg c] at h0
        refine ⟨h0, ?_⟩
        cases hx : PySem.W.dataLt e mm with
        | false => rfl
        | true => rcases dlt_neg (b := d) hx with z | z
                  · exact absurd z c
                  · rw [z] at h0; cases h0
    rcases List.mem_cons.mp hy with rfl | hy
    · exact hd.1
    · rcases List.mem_cons.mp hy with rfl | hy
      · exact hd.2
      · exact ih y (List.mem_cons_of_mem _ hy)
def TD (z : List Nat) : PyData := .tuple [.int (z.length : Int), VD z]
theorem alike_ints : ∀ a b : List Nat, PySem.W.alikeAll (a.map fun k : Nat => PyData.int (k : Int)) (b.map fun k : Nat => PyData.int (k : Int)) = true
  | [], _ => by rw [List.map_nil, PySem.W.alikeAll]
  | _ :: _, [] => by rw [List.map_nil, List.map_cons, PySem.W.alikeAll]
  | _ :: a, _ :: b => by rw [List.map_cons, List.map_cons, PySem.W.alikeAll, alike_ints a b, PySem.W.alike]; rfl
theorem alike_vd (a b : List Nat) : PySem.W.alike (VD a) (VD b) = true := by unfold VD; rw [PySem.W.alike]; exact alike_ints a b
theorem alike_td (a b : List Nat) : PySem.W.alike (TD a) (TD b) = true := by
  unfold TD
  rw [PySem.W.alike, PySem.W.alikeAll, PySem.W.alikeAll, PySem.W.alikeAll, alike_vd, PySem.W.alike]; rfl
theorem alikeAll_td (zs : List (List Nat)) : PySem.W.AlikeAll (zs.map TD) := by
  refine ⟨fun x hx y hy => ?_, fun x hx => ?_⟩
  · obtain ⟨a, _, rfl⟩ := List.mem_map.mp hx
    obtain ⟨b, _, rfl⟩ := List.mem_map.mp hy
    exact alike_td a b
  · obtain ⟨a, _, rfl⟩ := List.mem_map.mp hx
    intro z; cases z
theorem depth_td (z : List Nat) : (TD z).depth = 2 := by
  unfold TD
  rw [PyData.depth, PyData.depthAll, PyData.depthAll, PyData.depthAll, depth_vd, PyData.depth]; rfl
theorem depthAll_td : ∀ zs : List (List Nat), PyData.depthAll (zs.map TD) ≤ 2
  | [] => by rw [List.map_nil, PyData.depthAll]; omega
  | z :: zs => by
    have := depthAll_td zs
    rw [List.map_cons, PyData.depthAll, depth_td]; omega
theorem td_lt {a b : List Nat} (h : a.length < b.length) : PySem.W.dataLt (TD a) (TD b) = true := by
  unfold TD
  rw [PySem.W.dataLt_tuple, PySem.W.dataLt_all_no (by rw [PySem.W.alike]) (by rw [PyData.eqv]; simp; omega), PySem.W.dataLt_int]
  exact decide_eq_true (by omega)
theorem td_inj {a b : List Nat} (h : TD a = TD b) : a = b := by
  unfold TD VD at h
  have h1 := (List.cons.inj (List.cons.inj (PyData.tuple.inj h)).2).1
  have h2 := PyData.tuple.inj h1
  have : ∀ {x y : List Nat}, (x.map fun k : Nat => PyData.int (k : Int)) = (y.map fun k : Nat => PyData.int (k : Int)) → x = y := by
    intro x
    induction x with
    | nil => intro y h; cases y with
      | nil => rfl
      | cons _ _ => cases h
    | cons p x ih => intro y h; cases y with
      | nil => cases h
      | cons r y =>
        have e1 := PyData.int.inj (List.cons.inj h).1
        rw [ih (List.cons.inj h).2, show p = r by omega]
  exact this h2
theorem asc_sub_len {n : Nat} {c z : List Nat} (hc : VOk n c) (hz : VOk n z) (h : ∀ x ∈ c, x ∈ z) (hne : c ≠ z) : c.length < z.length := by
  have e : c = z.filter fun x => decide (x ∈ c) := hc.ext ⟨hz.1.filter _, fun x hx => hz.2 x (List.mem_filter.mp hx).1⟩ fun x => by
    rw [List.mem_filter, decide_eq_true_iff]
    exact ⟨fun hx => ⟨h x hx, hx⟩, fun hx => hx.2⟩
  have hex : ∃ x ∈ z, ¬ (decide (x ∈ c) = true) := by
    apply Classical.byContradiction
    intro hno
    refine hne (e.trans (List.filter_eq_self.mpr fun x hx => ?_))
    exact Classical.byContradiction fun hn => hno ⟨x, hx, hn⟩
  have := List.length_filter_lt_length_iff_exists.mpr hex
  rw [← e] at this
  exact this
/-- the least pair is that of the closure -/
theorem min_is {n : Nat} {ps : List (Nat × Nat)} {w : List Nat} {zs : List (List Nat)} {d : PyData} {ds : List PyData} (hw : VOk n w) (hz : ∀ z ∈ zs, Clo n ps z ∧ ∀ x ∈ w, x ∈ z) (hc : clo n ps w ∈ zs) (e : zs.map TD = d :: ds) : PySem.W.minD d ds = TD (clo n ps w) := by
  have hm := minD_mem d ds
  rw [← e] at hm
  obtain ⟨z, hzz, ez⟩ := List.mem_map.mp hm
  have hle := minD_le ds d (TD (clo n ps w)) (by rw [← e]; exact List.mem_map.mpr ⟨_, hc, rfl⟩)
  rw [← ez] at hle ⊢
  by_cases h : clo n ps w = z
  · rw [h]
  · obtain ⟨h1, h2⟩ := hz z hzz
    have hsub : ∀ x ∈ clo n ps w, x ∈ z := fun x hx => by
      have := clo_mono (n := n) (ps := ps) h2 x hx
      rw [h1.2] at this
      exact this
    have := td_lt (asc_sub_len con_ok h1.1 hsub h)
    cases (hle.symm.trans this)
/-! ### all sets of points -/
theorem vok_succ {i : Nat} {v : List Nat} : VOk (i + 1) v ↔ VOk i v ∨ ∃ u, VOk i u ∧ v = u ++ [i] := by
  constructor
  · intro h
    by_cases hi : i ∈ v
    · refine .inr ⟨v.filter fun x => decide (x < i), ⟨h.1.filter _, fun x hx => of_decide_eq_true (List.mem_filter.mp hx).2⟩, ?_⟩
      refine h.ext (n := i + 1) ?_ fun x => ?_
      · refine VOk.snoc ⟨h.1.filter _, fun x hx => of_decide_eq_true (List.mem_filter.mp hx).2⟩
      · rw [List.mem_append, List.mem_filter, decide_eq_true_iff, List.mem_singleton]
        constructor
        · intro hx
          have := h.2 x hx
          by_cases e : x = i
          · exact .inr e
          · exact .inl ⟨hx, by omega⟩
        · rintro (hx | rfl)
          · exact hx.1
          · exact hi
    · refine .inl ⟨h.1, fun x hx => ?_⟩
      have := h.2 x hx
      have : x ≠ i := fun e => hi (e ▸ hx)
      omega
  · rintro (h | ⟨u, h, rfl⟩)
    · exact h.up
    · exact h.snoc
def AllV (i : Nat) (W : List (List Nat)) : Prop := W.Nodup ∧ ∀ v, v ∈ W ↔ VOk i v
theorem AllV.zero : AllV 0 [[]] := by
  refine ⟨by simp, fun v => ?_⟩
  rw [List.mem_singleton]
  constructor
  · rintro rfl
    exact ⟨List.Pairwise.nil, fun x hx => by cases hx⟩
  · intro h
    exact List.eq_nil_iff_forall_not_mem.mpr fun x hx => absurd (h.2 x hx) (Nat.not_lt_zero _)
theorem AllV.succ {i : Nat} {W : List (List Nat)} (h : AllV i W) : AllV (i + 1) (W ++ W.map fun v => v ++ [i]) := by
  refine ⟨List.nodup_append.mpr ⟨h.1, ?_, fun x hx y hy e => ?_⟩, fun v => ?_⟩
  · rw [List.Nodup, List.pairwise_map]
    exact h.1.imp fun hne e => hne (List.append_cancel_right e)
  · subst e
    obtain ⟨u, _, rfl⟩ := List.mem_map.mp hy
    have := ((h.2 _).mp hx).2 i (by simp)
    omega
  · rw [List.mem_append, List.mem_map, vok_succ, h.2]
    constructor
    · rintro (z | ⟨u, hu, rfl⟩)
      · exact .inl z
      · exact .inr ⟨u, (h.2 u).mp hu, rfl⟩
    · rintro (z | ⟨u, hu, rfl⟩)
      · exact .inl z
      · exact .inr ⟨u, (h.2 u).mpr hu, rfl⟩
theorem AllV.len {i : Nat} {W : List (List Nat)} (h : AllV i W) (hi : i ≤ 6) : W.length ≤ 64 := sets_le hi h.1 fun v hv => (h.2 v).mp hv
theorem SetsOk.perm {n : Nat} {ps : List (Nat × Nat)} {S Z : List (List Nat)} (h : SetsOk n ps S) (hp : Z.Perm S) : SetsOk n ps Z :=
  ⟨hp.nodup_iff.mpr h.1, fun v hv => h.2.1 v (hp.mem_iff.mp hv), fun v hv => hp.mem_iff.mpr (h.2.2 v hv)⟩
theorem SetsOk.perm2 {n : Nat} {ps : List (Nat × Nat)} {S Z : List (List Nat)} (h : SetsOk n ps S) (h' : SetsOk n ps Z) : S.Perm Z :=
  (List.perm_ext_iff_of_nodup h.1 h'.1).mpr fun v => ⟨fun hv => h'.2.2 v (h.2.1 v hv), fun hv => h.2.2 v (h'.2.1 v hv)⟩
theorem SetsOk.iff {n : Nat} {ps : List (Nat × Nat)} {S : List (List Nat)} (h : SetsOk n ps S) {w : List Nat} (hw : VOk n w) : decide (w ∈ S) = decide (clo n ps w = w) :=
  decide_eq_decide.mpr ⟨fun hv => (h.2.1 w hv).2, fun e => h.2.2 w ⟨hw, e⟩⟩
theorem count_all {n : Nat} {ps : List (Nat × Nat)} {S W : List (List Nat)} (h : SetsOk n ps S) (hW : AllV n W) : W.countP (fun w => decide (w ∈ S)) = S.length := by
  rw [List.countP_eq_length_filter]
  refine List.Perm.length_eq ((List.perm_ext_iff_of_nodup (hW.1.filter _) h.1).mpr fun v => ?_)
  rw [List.mem_filter, decide_eq_true_iff, hW.2]
  exact ⟨fun z => z.2, fun z => ⟨(h.2.1 v z).1, z⟩⟩
def nz (z : List Int) : List Nat := z.map Int.toNat
theorem nz_zv (v : List Nat) : nz (zv v) = v := by
  unfold nz zv
  rw [List.map_map]
  exact List.map_id'' (fun x => Int.toNat_natCast x) v
theorem perm_back {us : List (List Int)} {S : List (List Nat)} (h : us.Perm (S.map zv)) : ∃ Z : List (List Nat), us = Z.map zv ∧ Z.Perm S := by
  refine ⟨us.map nz, ?_, ?_⟩
  · rw [List.map_map]
    have : us.map (zv ∘ nz) = us.map id := List.map_congr_left fun u hu => by
      obtain ⟨s, _, rfl⟩ := List.mem_map.mp (h.mem_iff.mp hu)
      show zv (nz (zv s)) = zv s
      rw [nz_zv]
    rw [this, List.map_id]
  · have := h.map nz
    rw [List.map_map] at this
    have e : S.map (nz ∘ zv) = S := List.map_id'' (fun x => nz_zv x) S
    rw [e] at this
    exact this
theorem sorted_eq {a b : List (List Int)} (hp : a.Perm b) (ha : a.Pairwise fun x y => ¬ y < x) (hb : b.Pairwise fun x y => ¬ y < x) : a = b :=
  List.Perm.eq_of_pairwise (le := fun x y => ¬ y < x) (fun x y _ _ h1 h2 => List.le_antisymm (List.not_lt.mp h1) (List.not_lt.mp h2)) ha hb hp
/-! ### tuples as data -/
def ZD (z : List Int) : PyData := .tuple (z.map PyData.int)
theorem dpAll_zints {K : PySem.W.Frag} {H : Hp} : ∀ v : List Int, DpAll K H (v.map V.int) (v.map PyData.int)
  | [] => .nil
  | k :: v => .cons (.int _) (dpAll_zints v)
theorem TupsAre.dp {K : PySem.W.Frag} {H : Hp} : ∀ {ys : List V} {us : List (List Int)}, TupsAre H ys us → DpAll K H ys (us.map ZD)
  | [], [], _ => .nil
  | y :: ys, u :: us, h => by
    obtain ⟨t, e1, e2⟩ := h.2 0 u rfl
    cases e1
    exact .cons (.tup (tupT e2) (dpAll_zints u)) (TupsAre.dp ⟨by simpa using h.1, fun i z hz => h.2 (i + 1) z hz⟩)
  | [], _ :: _, h => by simp [TupsAre] at h
  | _ :: _, [], h => by simp [TupsAre] at h
theorem plAll_zints : ∀ v : List Int, plAll (v.map PyData.int) = true
  | [] => by simp [plAll]
  | k :: v => by rw [List.map_cons, plAll, pl, plAll_zints v]; rfl
theorem plAll_zd : ∀ us : List (List Int), (∀ u ∈ us, u.length ≤ 1000) → plAll (us.map ZD) = true
  | [], _ => by simp [plAll]
  | u :: us, h => by
    rw [List.map_cons, plAll, plAll_zd us fun x hx => h x (List.mem_cons_of_mem _ hx)]
    unfold ZD
    rw [pl, plAll_zints, List.length_map, decide_eq_true (h u (List.mem_cons_self ..))]; rfl
theorem depthAll_zints : ∀ v : List Int, PyData.depthAll (v.map PyData.int) = 0
  | [] => by simp [PyData.depthAll]
  | k :: v => by rw [List.map_cons, PyData.depthAll, depthAll_zints v, PyData.depth]; rfl
theorem depthAll_zd : ∀ us : List (List Int), PyData.depthAll (us.map ZD) ≤ 1
  | [] => by simp [PyData.depthAll]
  | u :: us => by
    have := depthAll_zd us
    rw [List.map_cons, PyData.depthAll]
    unfold ZD
    rw [PyData.depth, depthAll_zints]
    exact Nat.max_le.mpr ⟨Nat.le_refl _, this⟩
end N0

namespace N0
open PySem L2 PySem.Spec PyProof.Rows
def spAR : Sp := fun vs H Q _ => ∃ (fv : V) (n : Nat) (ps : List (Nat × Nat)), vs = [fv] ∧ FrV H n ps fv ∧ FrOk n ps ∧ n ≤ 6 ∧ ∀ H', Kp [] H H' → Q (.bl true) H'
theorem kS_zv (v : List Nat) : (zv v).map (Sum.inl : Int → Key) = kS v := by unfold zv kS; rw [List.map_map]; rfl
theorem kvsT_keys (Z : List (List Nat)) : (kvsT Z).map (·.1) = (Z.map zv).map fun l => l.map Sum.inl := by
  unfold kvsT
  rw [List.map_map, List.map_map]
  exact List.map_congr_left fun v _ => (kS_zv v).symm
theorem kvsT_nodup {Z : List (List Nat)} (h : Z.Nodup) : ((kvsT Z).map (·.1)).Nodup := by
  unfold kvsT
  rw [List.map_map, List.Nodup, List.pairwise_map]
  exact h.imp fun hne e => hne (kS_inj e)
section
variable {P : Program} {w : World} {K : PySem.W.Frag} {mg : Str → Option Value} {base : Heap} {f C : Addr} {fd : FuncData}
theorem ok_law_all_right (F : Fun K "_law_all_right" "_law_all_right" s_law_all_right f fd) (T : Txt K mg) (D_law_closed : Def P w K mg base "_law_closed" 2 ["frame"] spCL) (D_is_closed : Def P w K mg base "is_closed" 6 ["frame", "points"] spClosed)
    (D_closure_of : Def P w K mg base "closure_of" 5 ["frame", "points"] (spFV clo)) (D_closed_values : Def P w K mg base "closed_values" 5 ["frame"] spCV) (D_law_same : Def P w K mg base "_law_same" 12 ["told", "due"] (spSame K 12)) :
    FnOk P w K mg base CX0 13 f fd ["frame"] spAR := by
  refine F.ok sc_law_all_right (fun vs H Q E h => ?_) (fun cdv A outer s H vs Q E hr h => ?_)
  · obtain ⟨fv, n, ps, rfl, _⟩ := h
    rfl
  obtain ⟨fv, n, ps, rfl, hf, hok, hn6, q⟩ := h
  have nd := sc_law_all_right.nd
  refine ⟨_, (pss_cons (ps_par (i := 1) (j := 2) rfl nd rfl rfl (by decide) rfl rfl (pa_cons (pe_hold (pe_callTy (call_dictT rfl hr.units) (by rfl) T.dict bt_dict (pa_cons (pe_lc (own := [("value", 5)]) (g := gName 5) (tt := tYes) rfl nd (pi_list (e_fn D_law_closed (hr.mono (by omega)) (pa_cons (pv 0) pa_nil))) (blkOk_by (N := N_law_all_right) (sc := defScope s_law_all_right) (by decide +kernel)) (fun _ _ _ _ _ => pg_name (i := 5) nd rfl (Or.inl rfl)) (fun _ _ _ _ _ => pts_nil) (fun _ _ _ _ _ => (pe_tup (pa_cons (pv 5) (pa_cons pe_bl pa_nil))))) pa_nil))) (pa_cons pe_int pa_nil)) rfl)
      (pss_cons (ps_set (i := 3) nd rfl (Or.inl rfl) (pe_lst (pa_cons (pe_tup pa_nil) pa_nil)))
      (pss_cons (ps_for PassesOwn.never rfl (pi_range1 rfl T.range (pa_cons (pe_ix ix_tup (pv 0) pe_int (fun _ _ => rfl)) pa_nil)) (pg_name (i := 4) nd rfl (Or.inr rfl)) (pss_one (ps_set (i := 3) nd rfl (Or.inl rfl) (pe_op op_cat (pv 3) (pe_lc (own := [("value", 5)]) (g := gName 5) (tt := tYes) rfl nd (pi_list (pv 3)) (blkOk_by (N := N_law_all_right) (sc := defScope s_law_all_right) (by decide +kernel)) (fun _ _ _ _ _ => pg_name (i := 5) nd rfl (Or.inl rfl)) (fun _ _ _ _ _ => pts_nil) (fun _ _ _ _ _ => (pe_op (op_catAk K) (pv 5) (pe_tup (pa_cons (pv 4) pa_nil)))))))))
      (pss_cons (ps_for PassesOwn.never rfl (pi_list (pv 3)) (pg_name (i := 5) nd rfl (Or.inr rfl)) (pss_cons (ps_set (i := 2) nd rfl (Or.inl rfl) (pe_op op_add (pv 2) (pe_callTy call_int1 (by rfl) T.int bt_int (pa_cons (pe_cmp (pc_din (hu_of hr) (pv 5) (pv 1))) pa_nil))))
      (pss_cons (ps_setLc (i := 6) (own := [("one", 7)]) (g := gName 7) rfl nd rfl rfl (sw_true rfl rfl rfl (by decide +kernel)) (pi_keys (pv 1)) (blkOk_by (N := N_law_all_right) (sc := defScope s_law_all_right) (by decide +kernel)) (fun _ _ _ _ _ => pg_name (i := 7) nd rfl (Or.inr rfl)) (fun _ _ _ _ _ => pts_one (pt_cmpR (op_eqNilk K hr.units0) (pe_lc (own := [("point", 4)]) (g := gName 4) rfl nd (pi_tupk K (pi_tup (pv 5))) (blkOk_by (N := N_law_all_right) (sc := { kind := .function, names := [(".0", .local), ("one", .cell), ("value", .cell)], isGenerator := false, isCoroutine := false }) (by decide +kernel)) (fun _ _ _ _ _ => pg_name (i := 4) nd rfl (Or.inl rfl)) (fun _ _ _ _ _ => pts_one (pt_cmpR (op_notIn_seqk K) (pv 4) (pv 7) rfl)) (fun _ _ _ _ _ => pe_int)) (pe_lst pa_nil) (nomark _))) (fun _ _ _ _ _ => (pv 7)))
      (pss_one (ps_if (pt_not (pt_val (e_fn D_law_same (hr.mono (by omega)) (pa_cons (pe_tup (pa_cons (e_fn D_is_closed (hr.mono (by omega)) (pa_cons (pv 0) (pa_cons (pv 5) pa_nil))) (pa_cons (e_fn D_closure_of (hr.mono (by omega)) (pa_cons (pv 0) (pa_cons (pv 5) pa_nil))) pa_nil))) (pa_cons (pe_tup (pa_cons (pe_cmp (pc_din (hu_of hr) (pv 5) (pv 1))) (pa_cons (pe_ix ix_tup (pe_callB (cr_minD rfl hr.units) (by rfl) T.min bt_min (pa_cons (pe_lc (own := [("one", 7)]) (g := gName 7) (tt := tYes) rfl nd (pi_list (pv 6)) (blkOk_by (N := N_law_all_right) (sc := defScope s_law_all_right) (by decide +kernel)) (fun _ _ _ _ _ => pg_name (i := 7) nd rfl (Or.inl rfl)) (fun _ _ _ _ _ => pts_nil) (fun _ _ _ _ _ => (pe_tup (pa_cons (e_lenK K (e_len T (pa_cons (pv 7) pa_nil))) (pa_cons (pv 7) pa_nil))))) pa_nil)) pe_int (fun _ _ => rfl)) pa_nil))) pa_nil))))) (pss_one (ps_ret pe_bl)) pss_nil)))))
      (pss_one (ps_ret (pe_and (pe_cmpR op_eq (pv 2) (pe_callB call_len_dTr (by rfl) T.len PySem.boot_len (pa_cons (pv 1) pa_nil)) (nomark _)) (pe_one (e_fn D_law_same (hr.mono (by omega)) (pa_cons (e_fn D_closed_values (hr.mono (by omega)) (pa_cons (pv 0) pa_nil)) (pa_cons (pe_callTy call_tuple_of (by rfl) T.tuple bt_tuple (pa_cons (pe_callB (cr_sortDT rfl hr.units) (by rfl) T.sorted bt_sorted (pa_cons (pv 1) pa_nil)) pa_nil)) pa_nil))))))))))), ?_⟩
  obtain ⟨a, pb, rfl, ha, hpb⟩ := id hf
  -- closed
  refine ⟨_, rfl, _, n, ps, rfl, hf, hok, hn6, fun H1 L ys us S k1 hLn hL hT hP hPw hS => ⟨L, rfl, ⟨_, SqL.of hL⟩, fun D hD => ?_⟩⟩
  obtain ⟨Z, rfl, hZ⟩ := perm_back hP
  have hZS := hS.perm hZ
  have hZl := sets_le hn6 hZS.1 fun v hv => (hZS.2.1 v hv).1
  clear hP hPw hZ hS
  have hyl : ys.length = Z.length := by rw [hT.1, List.length_map]
  refine lc_it (n := ys.length) walk_list (fun i H' => Kp [] H1 H' ∧ ∃ pas : List Addr, H' D = some (.lst (pas.map V.ref)) ∧ Paired (PairK K H') pas (kvsT (Z.take i))) ⟨Kp.new hD, [], upd_same, .nil⟩ (fun i H' _ h => SqL.of (h.1.k _ _ (by simp) hL)) ?_ ?_
  · rintro i y _ H2 hi ⟨k2, pas, hD2, hP2⟩ ⟨rfl, hy⟩
    have hi2 : i < Z.length := by omega
    have hzi : Z[i]? = some Z[i] := List.getElem?_eq_getElem hi2
    obtain ⟨pc, e1, e2⟩ := hT.2 i (zv Z[i]) (by rw [List.getElem?_map, hzi]; rfl)
    obtain rfl : V.ref pc = y := Option.some.inj (e1.symm.trans hy)
    generalize Z[i] = z at hzi e2
    rw [zv_map, ← kS_map] at e2
    refine ⟨rfl, _, rfl, by show 2 ≤ sizeLine; decide, fun p hp => ?_⟩
    have k3 : Kp [] H2 (upd H2 p (.tup [.ref pc, .bl true])) := Kp.new hp
    have hp2 : upd H2 p (.tup [.ref pc, .bl true]) p = some (.tup [.ref pc, .bl true]) := upd_same
    have hpm := k3.t _ _ (k2.t _ _ e2)
    generalize upd H2 p (.tup [.ref pc, .bl true]) = H3 at k3 hp2 hpm ⊢
    have hD3 := k3.k _ _ (by simp) hD2
    have hlen : pas.length = (Z.take i).length := by rw [Paired.length hP2]; unfold kvsT; rw [List.length_map]
    refine ⟨_, hD3, by rw [List.length_map, hlen, List.length_take]; exact small_lt (by omega), (k2.trans k3).put hD, pas ++ [p], by rw [upd_same, List.map_append]; rfl, ?_⟩
    have kw : Kp [D] H3 (upd H3 D (.lst (pas.map V.ref ++ [.ref p]))) := (Kp.refl _ _).wr (by simp) hD3 (by intro xs z; cases z)
    have e3 : kvsT (Z.take (i + 1)) = kvsT (Z.take i) ++ [(kS z, V.bl true)] := by unfold kvsT; rw [List.take_add_one, hzi, List.map_append]; rfl
    rw [e3]
    refine Paired.snoc (Paired.mapP hP2 fun p' kv ⟨b', h1, h2⟩ => ⟨b', ?_, kw.t _ _ (k3.t _ _ h2)⟩) ⟨pc, tupT (kw.t _ _ hp2), kw.t _ _ hpm⟩
    have h1' := N0.SqT.kp k3 h1
    rcases h1' with (h | ⟨o, h⟩) | h
    · exact .inl (.inl (kw.t _ _ h))
    · refine .inl (.inr ⟨o, kw.k _ _ ?_ h⟩)
      simp only [List.mem_singleton]
      intro z
      rw [z, hD3] at h; cases h
    · exact .inr h
  rintro H2 ⟨k2, pas, hD2, hP2⟩
  rw [List.take_of_length_le (by omega)] at hP2
  refine ⟨D, pas, _, rfl, SqL.of hD2, hP2, fun d hd => ?_⟩
  rw [mergeT_nodup (acc := []) (by rw [List.nil_append]; exact kvsT_nodup hZS.1), List.nil_append]
  refine ⟨d, _, rfl, upd_same, trivial, fun od => ⟨_, _, rfl, ?_⟩⟩
  have k3 : Kp [] H2 (upd (upd H2 d (.dT (kvsT Z))) d (.frz od (.dT (kvsT Z)))) := (Kp.new hd).put hd
  have hd3 : upd (upd H2 d (.dT (kvsT Z))) d (.frz od (.dT (kvsT Z))) d = some (.frz od (.dT (kvsT Z))) := upd_same
  generalize upd (upd H2 d (.dT (kvsT Z))) d (.frz od (.dT (kvsT Z))) = H3 at k3 hd3 ⊢
  have k03 := (k1.trans k2).trans k3
  clear hP2 hD2 hT hL hD hd k1 k2 k3
  -- values
  refine ⟨Nat.zero_le _, fun e he => ?_⟩
  have k4 : Kp [] H3 (upd H3 e (.tup [])) := Kp.new he
  have g4 : upd H3 e (.tup []) e = some (.tup []) := upd_same
  generalize upd H3 e (.tup []) = H4 at k4 g4 ⊢
  refine ⟨by show 1 ≤ sizeLine; decide, fun l0 hl0 => ?_⟩
  have k5 : Kp [] H4 (upd H4 l0 (.lst [.ref e])) := Kp.new hl0
  have g5 : upd H4 l0 (.lst [.ref e]) l0 = some (.lst [.ref e]) := upd_same
  have g5e := k5.t _ _ g4
  generalize upd H4 l0 (.lst [.ref e]) = H5 at k5 g5 g5e ⊢
  have k35 := k4.trans k5
  have k05 := k03.trans k35
  have hd5 := k35.k _ _ (by simp) hd3
  refine ⟨_, rfl, a, _, 0, _, rfl, rfl, tupT (k05.t _ _ ha), atI_nat (j := 0) rfl, n, rfl, by omega, by omega, ?_⟩
  refine for_it (n := (n : Int).toNat) walk_range (fun i σ H' => ∃ (W : List (List Nat)) (l : Addr) (lv : List V) (o4 : Option V), σ = [some (.ref a), some (.ref d), some (.int 0), some (.ref l), o4, none, none, none] ∧ Kp [] H5 H' ∧ H' l = some (.lst lv) ∧ TupsAre H' lv (W.map zv) ∧ AllV i W)
    ⟨[[]], l0, _, none, rfl, Kp.refl _ _, g5, ⟨rfl, fun i z hz => by
      cases i with
      | zero => cases hz; exact ⟨e, rfl, g5e⟩
      | succ i => simp at hz⟩, AllV.zero⟩ (fun _ _ _ _ _ => trivial) ?_ ?_
  · rintro i y σ _ H6 hi ⟨W, l, lv, o4, rfl, k6, hl6, hT6, hW⟩ ⟨rfl, rfl⟩
    have hi2 : i < n := by rw [Int.toNat_natCast] at hi; exact hi
    have e0 : (0 : Int) + (i : Int) = (i : Int) := by omega
    dsimp only [gName]
    rw [e0]
    have hWl := hW.len (by omega)
    have hlvl : lv.length = W.length := by rw [hT6.1, List.length_map]
    refine ⟨_, rfl, _, rfl, l, rfl, ⟨_, SqL.of hl6⟩, fun M hM => ?_⟩
    have hlM : l ≠ M := ne_of_none hl6 hM
    refine lc_it (n := lv.length) walk_list (fun j H' => Kp [] H6 H' ∧ ∃ mv : List V, H' M = some (.lst mv) ∧ TupsAre H' mv (((W.take j).map fun v => v ++ [i]).map zv)) ⟨Kp.new hM, [], upd_same, rfl, fun i z hz => by simp at hz⟩ (fun j H' _ h => SqL.of (h.1.k _ _ (by simp) hl6)) ?_ ?_
    · rintro j y _ H7 hj ⟨k7, mv, hM7, hT7⟩ ⟨rfl, hy⟩
      have hj2 : j < W.length := by omega
      have hwj : W[j]? = some W[j] := List.getElem?_eq_getElem hj2
      obtain ⟨pc, e1, e2⟩ := hT6.2 j (zv W[j]) (by rw [List.getElem?_map, hwj]; rfl)
      obtain rfl : V.ref pc = y := Option.some.inj (e1.symm.trans hy)
      have hwv := (hW.2 W[j]).mp (List.getElem_mem hj2)
      generalize W[j] = v at hwj e2 hwv
      rw [zv_map] at e2
      have hvl := hwv.len
      refine ⟨rfl, _, rfl, _, rfl, by show 1 ≤ sizeLine; decide, fun p hp => ?_⟩
      have k8 : Kp [] H7 (upd H7 p (.tup [.int (i : Int)])) := Kp.new hp
      have g8 : upd H7 p (.tup [.int (i : Int)]) p = some (.tup [.int (i : Int)]) := upd_same
      generalize upd H7 p (.tup [.int (i : Int)]) = H8 at k8 g8 ⊢
      refine catT (k8.t _ _ (k7.t _ _ e2)) g8 (by rw [List.length_map, List.length_singleton]; omega) fun cc H9 k9 hcc => ?_
      have k79 := k8.trans k9
      have hM9 := k79.k _ _ (by simp) hM7
      have hml : mv.length ≤ 64 := by rw [hT7.1, List.length_map, List.length_map, List.length_take]; omega
      refine ⟨mv, hM9, small_lt (by omega), (k7.trans k79).put hM, _, upd_same, ?_⟩
      have kw : Kp [M] H9 (upd H9 M (.lst (mv ++ [.ref cc]))) := (Kp.refl _ _).wr (by simp) hM9 (by intro xs z; cases z)
      rw [List.take_add_one, hwj, List.map_append, List.map_append]
      refine ((hT7.kp k79).kp kw).snoc ?_
      have := kw.t _ _ hcc
      rw [zv_map, List.map_append]
      exact this
    · rintro H7 ⟨k7, mv, hM7, hT7⟩
      rw [List.take_of_length_le (by omega)] at hT7
      have hml : mv.length = W.length := by rw [hT7.1, List.length_map, List.length_map]
      refine ⟨l, M, _, _, rfl, rfl, k7.k _ _ (by simp) hl6, hM7, small_le (by omega), fun l2 hl2 => ?_⟩
      have k8 : Kp [] H7 (upd H7 l2 (.lst (lv ++ mv))) := Kp.new hl2
      refine ⟨_, l2, lv ++ mv, _, rfl, (k6.trans k7).trans k8, upd_same, ?_, hW.succ⟩
      have h1 := (hT6.kp k7).kp k8
      have h2 := hT7.kp k8
      rw [List.map_append]
      refine ⟨by rw [List.length_append, List.length_append, h1.1, h2.1], fun x z hz => ?_⟩
      by_cases ex : x < (W.map zv).length
      · rw [List.getElem?_append_left ex] at hz
        obtain ⟨t, g1, g2⟩ := h1.2 x z hz
        exact ⟨t, by rw [List.getElem?_append_left (by rw [h1.1]; exact ex)]; exact g1, g2⟩
      · rw [List.getElem?_append_right (by omega)] at hz
        obtain ⟨t, g1, g2⟩ := h2.2 _ z hz
        exact ⟨t, by rw [List.getElem?_append_right (by rw [h1.1]; omega), h1.1]; exact g1, g2⟩
  rintro σ H6 ⟨W, l, lv, o4, rfl, k6, hl6, hT6, hW⟩
  rw [Int.toNat_natCast] at hW
  have hWl := hW.len hn6
  have hlvl : lv.length = W.length := by rw [hT6.1, List.length_map]
  have k06 := k05.trans k6
  have hd6 := k6.k _ _ (by simp) hd5
  have hf6 := hf.kp k06
  refine ⟨_, rfl, l, rfl, ⟨_, SqL.of hl6⟩, ?_⟩
  refine for_it (n := lv.length) walk_list (fun i σ H' => ∃ (o5 o6 : Option V), σ = [some (.ref a), some (.ref d), some (.int (((W.take i).countP fun w => decide (w ∈ Z) : Nat) : Int)), some (.ref l), o4, o5, o6, none] ∧ Kp [] H6 H') ⟨none, none, rfl, Kp.refl _ _⟩ (fun i σ H' _ ⟨_, _, _, k⟩ => SqL.of (k.k _ _ (by simp) hl6)) ?_ ?_
  · rintro i y σ _ H7 hi ⟨o5, o6, rfl, k7⟩ ⟨rfl, hy⟩
    have hi2 : i < W.length := by omega
    have hwi : W[i]? = some W[i] := List.getElem?_eq_getElem hi2
    obtain ⟨pc, e1, e2⟩ := hT6.2 i (zv W[i]) (by rw [List.getElem?_map, hwi]; rfl)
    obtain rfl : V.ref pc = y := Option.some.inj (e1.symm.trans hy)
    have hwv := (hW.2 W[i]).mp (List.getElem_mem hi2)
    generalize W[i] = v at hwi e2 hwv
    rw [zv_map] at e2
    have hvl := hwv.len
    have e27 := k7.t _ _ e2
    have hd7 := k7.k _ _ (by simp) hd6
    have hrd : ∀ H', Kp [] H7 H' → DGet H' d (.ref pc) (valV (kvsT Z) (kS v)) := fun H' k => DGet.rt (.inr ⟨od, k.k _ _ (by simp) hd7⟩) (by rw [kS_map]; exact k.t _ _ e27)
    refine ⟨_, rfl, _, rfl, _, rfl, d, _, rfl, hrd H7 (Kp.refl _ _), .inr ⟨_, rfl, _, _, rfl, rfl, ?_⟩⟩
    rw [kvsT_some]
    have ecnt : (((W.take i).countP fun w => decide (w ∈ Z) : Nat) : Int) + (if decide (v ∈ Z) = true then 1 else 0) = (((W.take (i + 1)).countP fun w => decide (w ∈ Z) : Nat) : Int) := by
      rw [List.take_add_one, hwi, List.countP_append]
      show _ = (((W.take i).countP (fun w => decide (w ∈ Z)) + [v].countP (fun w => decide (w ∈ Z)) : Nat) : Int)
      rw [List.countP_cons, List.countP_nil]
      by_cases c : decide (v ∈ Z) = true
      · rw [if_pos c, if_pos c]; omega
      · rw [if_neg c, if_neg c]; omega
    dsimp only
    rw [ecnt]
    -- least
    refine ⟨_, rfl, d, od, rfl, .inr ⟨kvsT Z, hd7, fun N hN => ?_⟩⟩
    have hkl : (kvsT Z).length = Z.length := by unfold kvsT; rw [List.length_map]
    refine lc_it (n := (kvsT Z).length) walk_keysT (fun j H' => Kp [] H7 H' ∧ ∃ lq, H' N = some (.lst lq) ∧ TupsAre H' lq (((Z.take j).filter fun z => v.all fun x => decide (x ∈ z)).map zv)) ⟨Kp.new hN, [], upd_same, rfl, fun i z hz => by simp at hz⟩ (fun j H' _ h => h.1.k _ _ (by simp) hd7) ?_ ?_
    · rintro j y _ H8 hj ⟨k8, lq, hN8, hT8⟩ ⟨rfl, ke, ve, qa, hke, rfl, hqa⟩
      have hj2 : j < Z.length := by omega
      have hzj : Z[j]? = some Z[j] := List.getElem?_eq_getElem hj2
      generalize Z[j] = z at hzj
      have hke' : (kvsT Z)[j]? = some (kS z, V.bl true) := by unfold kvsT; rw [List.getElem?_map, hzj]; rfl
      rw [hke'] at hke
      cases hke
      rw [kS_map] at hqa
      refine ⟨rfl, ?_⟩
      have e28 := k8.t _ _ e27
      refine ⟨_, rfl, pc, rfl, ⟨_, tupT e28⟩, fun M hM => ?_⟩
      refine lc_it (n := (v.map fun k : Nat => V.int k).length) walk_tup (fun t H' => Kp [] H8 H' ∧ H' M = some (.lst (List.replicate ((v.take t).filter fun x => !decide (x ∈ z)).length (V.int 1)))) ⟨Kp.new hM, upd_same⟩ (fun t H' _ h => tupT (h.1.t _ _ e28)) ?_ ?_
      · rintro t y _ H9 ht ⟨k9, hM9⟩ ⟨rfl, hyt⟩
        rw [List.length_map] at ht
        rw [List.getElem?_map, List.getElem?_eq_getElem ht] at hyt
        obtain rfl := Option.some.inj hyt
        have hvt : v[t]? = some v[t] := List.getElem?_eq_getElem ht
        generalize v[t] = x at hvt
        refine ⟨rfl, _, rfl, _, rfl, qa, _, rfl, .inr (tupT (k9.t _ _ hqa)), rfl, flat_ints _, _, rfl, ?_⟩
        have etk : v.take (t + 1) = v.take t ++ [x] := by rw [List.take_add_one, hvt]; rfl
        have hfl := List.length_filter_le (fun x => !decide (x ∈ z)) (v.take t)
        rw [List.length_take] at hfl
        have hb : (if true = true then !inV (V.int (x : Int)) (z.map fun k : Nat => V.int k) else inV (V.int (x : Int)) (z.map fun k : Nat => V.int k)) = !decide (x ∈ z) := by rw [← inV_ints]; rfl
        rw [hb]
        refine ite2 (fun hc2 => ?_) (fun hc2 => ?_)
        · refine ⟨_, hM9, by rw [List.length_replicate]; exact small_lt (by omega), k9.put hM, ?_⟩
          rw [upd_same, etk, List.filter_append, List.filter_cons, if_pos hc2, List.filter_nil, List.length_append, List.length_singleton, List.replicate_succ']
        · refine ⟨k9, ?_⟩
          rw [etk, List.filter_append, List.filter_cons, if_neg hc2, List.filter_nil, List.append_nil]
          exact hM9
      · rintro H9 ⟨k9, hM9⟩
        rw [List.length_map, List.take_length] at hM9
        refine ⟨Nat.zero_le _, fun l2 hl2 => ?_⟩
        have k10 : Kp [] H9 (upd H9 l2 (.lst [])) := Kp.new hl2
        have hl10 : upd H9 l2 (.lst []) l2 = some (.lst []) := upd_same
        generalize upd H9 l2 (.lst []) = H10 at k10 hl10 ⊢
        refine ⟨M, l2, _, rfl, rfl, SqL.of (k10.k _ _ (by simp) hM9), SqL.of hl10, _, rfl, ?_⟩
        have k810 := k9.trans k10
        have hN10 := k810.k _ _ (by simp) hN8
        have hb : ((List.replicate (v.filter fun x => !decide (x ∈ z)).length (V.int 1)).isEmpty = true) ↔ (v.all fun x => decide (x ∈ z)) = true := by
          rw [List.isEmpty_iff, List.replicate_eq_nil_iff, List.length_eq_zero_iff, List.filter_eq_nil_iff, List.all_eq_true]
          simp
        have etk : Z.take (j + 1) = Z.take j ++ [z] := by rw [List.take_add_one, hzj]; rfl
        have hlq : lq.length ≤ 64 := by
          rw [hT8.1, List.length_map]
          have := List.length_filter_le (fun z : List Nat => v.all fun x => decide (x ∈ z)) (Z.take j)
          rw [List.length_take] at this
          omega
        refine ite2 (fun hc => ?_) (fun hc => ?_)
        · have kw : Kp [N] H10 (upd H10 N (.lst (lq ++ [.ref qa]))) := (Kp.refl _ _).wr (by simp) hN10 (by intro xs z; cases z)
          refine ⟨_, rfl, _, hN10, small_lt (by omega), (k8.trans k810).put hN, _, upd_same, ?_⟩
          rw [etk, List.filter_append, List.filter_cons, if_pos (hb.mp hc), List.filter_nil, List.map_append]
          exact ((hT8.kp k810).kp kw).snoc (by rw [zv_map]; exact kw.t _ _ (k810.t _ _ hqa))
        · refine ⟨k8.trans k810, lq, hN10, ?_⟩
          rw [etk, List.filter_append, List.filter_cons, if_neg (fun z => hc (hb.mpr z)), List.filter_nil, List.append_nil]
          exact hT8.kp k810
    rintro H8 ⟨k8, lq, hN8, hT8⟩
    rw [hkl, List.take_length] at hT8
    have hzs : ∀ z ∈ Z.filter (fun z => v.all fun x => decide (x ∈ z)), Clo n ps z ∧ ∀ x ∈ v, x ∈ z := fun z hz => by
      obtain ⟨h1, h2⟩ := List.mem_filter.mp hz
      rw [List.all_eq_true] at h2
      exact ⟨hZS.2.1 z h1, fun x hx => of_decide_eq_true (h2 x hx)⟩
    have hcin : clo n ps v ∈ Z.filter (fun z => v.all fun x => decide (x ∈ z)) := by
      refine List.mem_filter.mpr ⟨hZS.2.2 _ (clo_con1 con_lt), ?_⟩
      rw [List.all_eq_true]
      exact fun x hx => decide_eq_true (sub_clo hwv.2 x hx)
    have hzl : (Z.filter fun z => v.all fun x => decide (x ∈ z)).length ≤ 64 := Nat.le_trans (List.length_filter_le _ _) hZl
    generalize Z.filter (fun z => v.all fun x => decide (x ∈ z)) = zs at hT8 hzs hcin hzl
    have hlql : lq.length = zs.length := by rw [hT8.1, List.length_map]
    have k78 := k7.trans k8
    have hd8 := k8.k _ _ (by simp) hd7
    have hf8 := hf6.kp k78
    have hxv : ValV H8 v (.ref pc) := ⟨pc, rfl, k8.t _ _ e27⟩
    -- told
    refine ⟨_, rfl, _, rfl, _, .ref pc, n, ps, v, rfl, hf8, hok, hxv, hwv, fun H9 k9 => ?_⟩
    refine ⟨_, rfl, _, rfl, _, .ref pc, n, ps, v, rfl, hf8.kp k9, hok, hxv.kp k9, hwv, fun H10 z1 k10 hz1 => ?_⟩
    refine ⟨by show 2 ≤ sizeLine; decide, fun p1 hp1 => ?_⟩
    have k11 : Kp [] H10 (upd H10 p1 (.tup [.bl (decide (clo n ps v = v)), z1])) := Kp.new hp1
    have g11 : upd H10 p1 (.tup [.bl (decide (clo n ps v = v)), z1]) p1 = some (.tup [.bl (decide (clo n ps v = v)), z1]) := upd_same
    generalize upd H10 p1 (.tup [.bl (decide (clo n ps v = v)), z1]) = H11 at k11 g11 ⊢
    have k811 := (k9.trans k10).trans k11
    have d11 : Dp K H11 (.ref p1) (.tuple [.bool (decide (clo n ps v = v)), VD (clo n ps v)]) := .tup (tupT g11) (.cons (.bl _) (.cons (hz1.kp k11).dp .nil))
    refine ⟨_, rfl, _, rfl, d, _, rfl, hrd H11 (k8.trans k811), ?_⟩
    rw [kvsT_some, hZS.iff hwv]
    have hN11 := k811.k _ _ (by simp) hN8
    have hT11 := hT8.kp k811
    refine ⟨_, rfl, N, rfl, ⟨_, SqL.of hN11⟩, fun M hM => ?_⟩
    refine lc_it (n := lq.length) walk_list (fun t H' => Kp [] H11 H' ∧ ∃ mv : List V, H' M = some (.lst mv) ∧ mv.length = t ∧ ∀ (j : Nat) (z : List Nat), j < t → zs[j]? = some z → ∃ pq qa, mv[j]? = some (.ref pq) ∧ H' pq = some (.tup [.int (z.length : Int), .ref qa]) ∧ H' qa = some (.tup (z.map fun k : Nat => V.int k)))
      ⟨Kp.new hM, [], upd_same, rfl, fun j z hj => absurd hj (Nat.not_lt_zero _)⟩ (fun t H' _ h => SqL.of (h.1.k _ _ (by simp) hN11)) ?_ ?_
    · rintro t y _ H12 ht ⟨k12, mv, hM12, hml, hmv⟩ ⟨rfl, hyt⟩
      have ht2 : t < zs.length := by omega
      have hzt : zs[t]? = some zs[t] := List.getElem?_eq_getElem ht2
      obtain ⟨qa, g1, g2⟩ := hT11.2 t (zv zs[t]) (by rw [List.getElem?_map, hzt]; rfl)
      obtain rfl : V.ref qa = y := Option.some.inj (g1.symm.trans hyt)
      generalize zs[t] = z at hzt g2
      rw [zv_map] at g2
      have g3 := k12.t _ _ g2
      refine ⟨rfl, _, rfl, qa, _, rfl, .inr (tupT g3), _, rfl, by show 2 ≤ sizeLine; decide, fun p hp => ?_⟩
      rw [List.length_map]
      have k13 : Kp [] H12 (upd H12 p (.tup [.int (z.length : Int), .ref qa])) := Kp.new hp
      have g13 : upd H12 p (.tup [.int (z.length : Int), .ref qa]) p = some (.tup [.int (z.length : Int), .ref qa]) := upd_same
      generalize upd H12 p (.tup [.int (z.length : Int), .ref qa]) = H13 at k13 g13 ⊢
      have hM13 := k13.k _ _ (by simp) hM12
      have kw : Kp [M] H13 (upd H13 M (.lst (mv ++ [.ref p]))) := (Kp.refl _ _).wr (by simp) hM13 (by intro xs z; cases z)
      refine ⟨_, hM13, by rw [hml]; exact small_lt (by omega), (k12.trans k13).put hM, _, upd_same, by simp [hml], fun j z' hj hzj => ?_⟩
      by_cases ej : j < t
      · obtain ⟨pq, qa', h1, h2, h3⟩ := hmv j z' ej hzj
        exact ⟨pq, qa', by rw [List.getElem?_append_left (by omega)]; exact h1, kw.t _ _ (k13.t _ _ h2), kw.t _ _ (k13.t _ _ h3)⟩
      · obtain rfl : j = t := by omega
        obtain rfl : z = z' := Option.some.inj (hzt.symm.trans hzj)
        exact ⟨p, qa, by rw [← hml, List.getElem?_append_right (Nat.le_refl _), Nat.sub_self]; rfl, kw.t _ _ g13, kw.t _ _ (k13.t _ _ g3)⟩
    rintro H12 ⟨k12, mv, hM12, hml, hmv⟩
    rw [hlql] at hml hmv
    obtain ⟨d0, ds0, e0⟩ : ∃ d0 ds0, zs.map TD = d0 :: ds0 := by
      cases hz : zs with
      | nil => rw [hz] at hcin; cases hcin
      | cons z r => exact ⟨_, _, rfl⟩
    have hdp : DpAll K H12 mv (d0 :: ds0) := by
      rw [← e0]
      clear e0 hcin hzs hT8 hT11 hlql hM12 hzl
      have key : ∀ (zs : List (List Nat)) (mv : List V), mv.length = zs.length → (∀ (j : Nat) (z : List Nat), zs[j]? = some z → ∃ pq qa, mv[j]? = some (.ref pq) ∧ H12 pq = some (.tup [.int (z.length : Int), .ref qa]) ∧ H12 qa = some (.tup (z.map fun k : Nat => V.int k))) → DpAll K H12 mv (zs.map TD) := by
        intro zs
        induction zs with
        | nil => intro mv h _; rw [List.length_eq_zero_iff.mp h]; exact .nil
        | cons z zs ih =>
          intro mv h hh
          cases mv with
          | nil => simp at h
          | cons x mv =>
            obtain ⟨pq, qa, h1, h2, h3⟩ := hh 0 z rfl
            cases h1
            exact .cons (.tup (tupT h2) (.cons (.int _) (.cons (.tup (tupT h3) (dpAll_ints z)) .nil))) (ih mv (by simpa using h) fun j z' hz => hh (j + 1) z' hz)
      exact key zs mv hml fun j z hz => hmv j z (by exact (List.getElem?_eq_some_iff.mp hz).1) hz
    refine ⟨M, mv, d0, ds0, rfl, SqL.of hM12, hdp, by rw [← e0]; exact alikeAll_td zs, by rw [← e0]; have := depthAll_td zs; omega, fun j x hx hj => ?_⟩
    rw [min_is hwv hzs hcin e0, ← e0, List.getElem?_map] at hj
    obtain ⟨z, hzj, ez⟩ := Option.map_eq_some_iff.mp hj
    obtain rfl := td_inj ez
    obtain ⟨pq, qa, h1, h2, h3⟩ := hmv j _ (by exact (List.getElem?_eq_some_iff.mp hzj).1) hzj
    rw [h1] at hx
    cases hx
    refine ⟨pq, _, 1, _, rfl, rfl, tupT h2, atI_nat (j := 1) rfl, ?_⟩
    refine ⟨by show 2 ≤ sizeLine; decide, fun p2 hp2 => ?_⟩
    have k13 : Kp [] H12 (upd H12 p2 (.tup [.bl (decide (clo n ps v = v)), .ref qa])) := Kp.new hp2
    have g13 : upd H12 p2 (.tup [.bl (decide (clo n ps v = v)), .ref qa]) p2 = some (.tup [.bl (decide (clo n ps v = v)), .ref qa]) := upd_same
    generalize upd H12 p2 (.tup [.bl (decide (clo n ps v = v)), .ref qa]) = H13 at k13 g13 ⊢
    have d13 : Dp K H13 (.ref p2) (.tuple [.bool (decide (clo n ps v = v)), VD (clo n ps v)]) := .tup (tupT g13) (.cons (.bl _) (.cons (ValV.dp ⟨qa, rfl, k13.t _ _ h3⟩) .nil))
    have hkl' : (clo n ps v).length ≤ 1000 := ValV.len con_ok hok.2.1
    refine ⟨_, _, _, rfl, Dp.kp (k12.trans k13) d11, d13, by simp [pl, plAll, pl_vd, hkl'], by simp [PyData.depth, PyData.depthAll, depth_vd], fun H14 k14 => ⟨_, rfl, iteF ?_⟩⟩
    exact ⟨_, _, rfl, (k78.trans k811).trans ((k12.trans k13).trans k14)⟩
  · rintro σ H7 ⟨o5, o6, rfl, k7⟩
    have hd7 := k7.k _ _ (by simp) hd6
    have hcnt : (W.take lv.length).countP (fun w => decide (w ∈ Z)) = Z.length := by rw [hlvl, List.take_length]; exact count_all hZS hW
    refine ⟨_, rfl, _, rfl, d, _, rfl, .inr ⟨od, hd7⟩, rfl, ?_⟩
    have hkl : (kvsT Z).length = Z.length := by unfold kvsT; rw [List.length_map]
    refine ⟨_, rfl, iteT' (decide_eq_true (by rw [hcnt, hkl])) ?_⟩
    refine ⟨_, rfl, _, n, ps, rfl, hf6.kp k7, hok, hn6, fun H8 L2 ys2 us2 S2 k8 hL2 hT2 hP2 hPw2 hS2 => ?_⟩
    have hd8 := k8.k _ _ (by simp) hd7
    have h0 : [] ∈ Z.map zv := List.mem_map.mpr ⟨[], hZS.2.2 [] (clo_nil hok), rfl⟩
    refine ⟨_, rfl, d, kvsT Z, Z.map zv, rfl, .inr ⟨od, hd8⟩, kvsT_keys Z, h0, fun ys3 p3 us3 hT3 hP3 hPw3 hp3 => ?_⟩
    have k9 : Kp [] H8 (upd H8 p3 (.lst ys3)) := Kp.new hp3
    have g9 : upd H8 p3 (.lst ys3) p3 = some (.lst ys3) := upd_same
    generalize upd H8 p3 (.lst ys3) = H9 at k9 g9 ⊢
    refine ⟨p3, ys3, rfl, .inl ⟨SqL.of g9, fun p4 hp4 => ?_⟩⟩
    have k10 : Kp [] H9 (upd H9 p4 (.tup ys3)) := Kp.new hp4
    have g10 : upd H9 p4 (.tup ys3) p4 = some (.tup ys3) := upd_same
    generalize upd H9 p4 (.tup ys3) = H10 at k10 g10 ⊢
    have e23 : us2 = us3 := sorted_eq (hP2.trans (((hS2.perm2 hZS).map zv).trans hP3.symm)) hPw2 hPw3
    subst e23
    have k810 := k9.trans k10
    have hul : us2.length ≤ 64 := by rw [hP3.length_eq, List.length_map]; exact hZl
    have hue : ∀ u ∈ us2, u.length ≤ 1000 := fun u hu => by
      obtain ⟨v, hv, rfl⟩ := List.mem_map.mp (hP3.mem_iff.mp hu)
      rw [zv_len]
      exact ValV.len (hZS.2.1 v hv).1 hok.2.1
    have dA : Dp K H10 (.ref L2) (.tuple (us2.map ZD)) := .tup (tupT (k810.t _ _ hL2)) (hT2.kp k810).dp
    have dB : Dp K H10 (.ref p4) (.tuple (us2.map ZD)) := .tup (tupT g10) (hT3.kp k810).dp
    refine ⟨_, _, _, rfl, dA, dB, ?_, ?_, fun H11 k11 => q _ (((k06.trans k7).trans (k8.trans k810)).trans k11)⟩
    · rw [pl, plAll_zd _ hue, List.length_map, decide_eq_true (by omega)]; rfl
    · have := depthAll_zd us2
      rw [PyData.depth]; omega
end
end N0

namespace N0
open PySem L2 PySem.Spec PyProof.Rows
theorem PairsL.app {H : Hp} {ps qs : List (Nat × Nat)} {lv mv : List V} (h : PairsL H ps lv) (h' : PairsL H qs mv) : PairsL H (ps ++ qs) (lv ++ mv) := by
  refine ⟨by rw [List.length_append, List.length_append, h.1, h'.1], fun i p hp => ?_⟩
  by_cases e : i < ps.length
  · rw [List.getElem?_append_left e] at hp
    obtain ⟨c, e1, e2⟩ := h.2 i p hp
    exact ⟨c, by rw [List.getElem?_append_left (by rw [h.1]; exact e)]; exact e1, e2⟩
  · rw [List.getElem?_append_right (by omega)] at hp
    obtain ⟨c, e1, e2⟩ := h'.2 _ p hp
    exact ⟨c, by rw [List.getElem?_append_right (by rw [h.1]; omega), h.1]; exact e1, e2⟩
def spGreat : Sp := fun vs H Q _ => ∃ (m c g : Addr) (b : Nat), vs = [.ref m] ∧ DrawAt H m c g b ∧ b + 10 ≤ 1000000 ∧
  ∀ H' x n ps, Kp [m, g] H H' → DrawAt H' m c g (b + 3) → FrV H' n ps x → FrOk n ps → Q x H'
section
variable {P : Program} {w : World} {K : PySem.W.Frag} {mg : Str → Option Value} {base : Heap} {f C : Addr} {fd : FuncData}
theorem ok_law_great (F : Fun K "_law_great" "_law_great" s_law_great f fd) (T : Txt K mg) (D_law_draw : Def P w K mg base "_law_draw" 2 ["m", "limit"] spDraw) : FnOk P w K mg base CX0 3 f fd ["m"] spGreat := by
  refine F.ok sc_law_great (fun vs H Q E h => ?_) (fun cdv A outer s H vs Q E hr h => ?_)
  · obtain ⟨m, c, g, b, rfl, _⟩ := h
    rfl
  obtain ⟨m, c, g, b, rfl, hm, hb, q⟩ := h
  have nd := sc_law_great.nd
  refine ⟨_, (pss_cons (ps_asg (pe_tup (pa_cons (pe_op op_add pe_int (e_fn D_law_draw (hr.mono (by omega)) (pa_cons (pv 0) (pa_cons pe_int pa_nil)))) (pa_cons (pe_op op_add pe_int (e_fn D_law_draw (hr.mono (by omega)) (pa_cons (pv 0) (pa_cons pe_int pa_nil)))) (pa_cons (e_fn D_law_draw (hr.mono (by omega)) (pa_cons (pv 0) (pa_cons pe_int pa_nil))) pa_nil)))) (pg_tup rfl (pgs_cons (pg_name (i := 1) nd rfl (Or.inl rfl)) (pgs_cons (pg_name (i := 2) nd rfl (Or.inr rfl)) (pgs_cons (pg_name (i := 3) nd rfl (Or.inr rfl)) pgs_nil)))))
      (pss_cons (ps_set (i := 4) nd rfl (Or.inl rfl) (pe_lst pa_nil))
      (pss_cons (ps_for PassesOwn.never rfl (pi_range1 rfl T.range (pa_cons (pv 1) pa_nil)) (pg_name (i := 5) nd rfl (Or.inr rfl)) (pss_one (ps_set (i := 4) nd rfl (Or.inl rfl) (pe_op op_cat (pv 4) (pe_lc (own := [("far", 6)]) (g := gName 6) rfl nd (pi_range2 rfl T.range (pa_cons (pe_op op_add (pv 5) pe_int) (pa_cons (pv 1) pa_nil))) (blkOk_by (N := N_law_great) (sc := defScope s_law_great) (by decide +kernel)) (fun _ _ _ _ _ => pg_name (i := 6) nd rfl (Or.inl rfl)) (fun _ _ _ _ _ => pts_one (pt_cmpR op_eq (pe_op op_mod (pe_callTy call_int1 (by rfl) T.int bt_int (pa_cons (pe_op op_add (pv 5) (pv 6)) pa_nil)) (pv 2)) (pv 3) (nomark _))) (fun _ _ _ _ _ => (pe_tup (pa_cons (pv 5) (pa_cons (pv 6) pa_nil)))))))))
      (pss_one (ps_ret (pe_tup (pa_cons (pv 1) (pa_cons (pe_callTy call_tuple_of (by rfl) T.tuple bt_tuple (pa_cons (pv 4) pa_nil)) pa_nil)))))))), ?_⟩
  refine ⟨_, rfl, m, c, g, 541, b, rfl, hm, by decide, by decide, by omega, fun H1 d1 k1 hm1 hd1 => ⟨_, _, rfl, rfl, ?_⟩⟩
  refine ⟨_, rfl, m, c, g, 9, b + 1, rfl, hm1, by decide, by decide, by omega, fun H2 d2 k2 hm2 hd2 => ⟨_, _, rfl, rfl, ?_⟩⟩
  refine ⟨_, rfl, m, c, g, 3, b + 2, rfl, hm2, by decide, by decide, by omega, fun H3' rt k3' hm3' hrt => ⟨by show 3 ≤ sizeLine; decide, fun tp htp => ⟨tp, _, rfl, tupT upd_same, rfl, _, _, rfl, _, _, rfl, _, _, rfl, rfl, ?_⟩⟩⟩
  obtain ⟨n, hn⟩ : ∃ n : Nat, n = 60 + d1 := ⟨_, rfl⟩
  obtain ⟨st, hst⟩ : ∃ st : Nat, st = 2 + d2 := ⟨_, rfl⟩
  have en : (60 : Int) + (d1 : Int) = (n : Int) := by omega
  have es : (2 : Int) + (d2 : Int) = (st : Int) := by omega
  dsimp only
  rw [en, es]
  have kT : Kp [] H3' (upd H3' tp (.tup [.int (n : Int), .int (st : Int), .int (rt : Int)])) := Kp.new htp
  have k3 := k3'.trans kT.mono0
  have hm3 := hm3'.kp kT
  generalize upd H3' tp (.tup [.int (n : Int), .int (st : Int), .int (rt : Int)]) = H3 at k3 hm3 ⊢
  have k03 := (k1.trans k2).trans k3
  refine ⟨Nat.zero_le _, fun l0 hl0 => ?_⟩
  have k4 : Kp [] H3 (upd H3 l0 (.lst [])) := Kp.new hl0
  have g4 : upd H3 l0 (.lst []) l0 = some (.lst []) := upd_same
  generalize upd H3 l0 (.lst []) = H4 at k4 g4 ⊢
  refine ⟨_, rfl, n, rfl, by omega, by omega, ?_⟩
  refine for_it (n := (n : Int).toNat) walk_range (fun i σ H' => ∃ (ps : List (Nat × Nat)) (l : Addr) (lv : List V) (o5 : Option V), σ = [some (.ref m), some (.int (n : Int)), some (.int (st : Int)), some (.int (rt : Int)), some (.ref l), o5, none] ∧ Kp [] H4 H' ∧ H' l = some (.lst lv) ∧ PairsL H' ps lv ∧ PsB n i 0 ps ∧ ps.length ≤ 600 * i)
    ⟨[], l0, [], none, rfl, Kp.refl _ _, g4, ⟨rfl, fun i p hp => by simp at hp⟩, ⟨⟨(fun p hp => by cases hp), List.Pairwise.nil⟩, (fun p hp => by cases hp)⟩, Nat.le_refl _⟩ (fun _ _ _ _ _ => trivial) ?_ ?_
  · rintro i y σ _ H5 hi ⟨ps, l, lv, o5, rfl, k5, hl5, hL5, hB5, hlen⟩ ⟨rfl, rfl⟩
    have hi2 : i < n := by rw [Int.toNat_natCast] at hi; exact hi
    have e0 : (0 : Int) + (i : Int) = (i : Int) := by omega
    dsimp only [gName]
    rw [e0]
    refine ⟨_, rfl, _, rfl, _, _, rfl, rfl, _, rfl, _, _, rfl, ⟨by omega, by omega, by omega, by omega⟩, fun M hM => ?_⟩
    have e1 : ((n : Int) - ((i : Int) + 1)).toNat = n - (i + 1) := by omega
    rw [e1]
    have hlM : l ≠ M := ne_of_none hl5 hM
    refine lc_it (n := n - (i + 1)) walk_range (fun j H' => Kp [] H5 H' ∧ ∃ (qs : List (Nat × Nat)) (mv : List V), H' M = some (.lst mv) ∧ PairsL H' qs mv ∧ PsB n i (i + 1 + j) (ps ++ qs) ∧ qs.length ≤ j) ⟨Kp.new hM, [], [], upd_same, ⟨rfl, fun i p hp => by simp at hp⟩, by rw [List.append_nil]; exact ⟨hB5.1, fun p hp => (hB5.2 p hp).imp id fun z => ⟨z.1, by omega⟩⟩, Nat.le_refl _⟩ (fun _ _ _ _ => trivial) ?_ ?_
    · rintro j y _ H6 hj ⟨k6, qs, mv, hM6, hL6, hB6, hq6⟩ ⟨rfl, rfl⟩
      have ej : (i : Int) + 1 + (j : Int) = ((i + 1 + j : Nat) : Int) := by omega
      dsimp only [gName]
      rw [ej]
      refine ⟨rfl, _, rfl, _, rfl, _, _, rfl, rfl, .inl ⟨_, rfl, _, rfl, _, _, rfl, rfl, by omega, _, rfl, rfl, _, rfl, ?_⟩⟩
      refine ite2 (fun hc => ?_) (fun hc => ?_)
      · refine ⟨_, rfl, _, rfl, by show 2 ≤ sizeLine; decide, fun p hp => ?_⟩
        have k7 : Kp [] H6 (upd H6 p (.tup [.int (i : Int), .int ((i + 1 + j : Nat) : Int)])) := Kp.new hp
        have g7 : upd H6 p (.tup [.int (i : Int), .int ((i + 1 + j : Nat) : Int)]) p = some (.tup [.int (i : Int), .int ((i + 1 + j : Nat) : Int)]) := upd_same
        generalize upd H6 p (.tup [.int (i : Int), .int ((i + 1 + j : Nat) : Int)]) = H7 at k7 g7 ⊢
        have hM7 := k7.k _ _ (by simp) hM6
        have kw : Kp [M] H7 (upd H7 M (.lst (mv ++ [.ref p]))) := (Kp.refl _ _).wr (by simp) hM7 (by intro xs z; cases z)
        refine ⟨_, hM7, by rw [hL6.1]; exact small_lt (by omega), (k6.trans k7).put hM, qs ++ [(i, i + 1 + j)], _, upd_same, ((hL6.kp k7).kp kw).snoc (kw.t _ _ g7), ?_, by rw [List.length_append, List.length_singleton]; omega⟩
        rw [← List.append_assoc]
        exact hB6.snoc (by omega) (by omega)
      · exact ⟨k6, qs, mv, hM6, hL6, hB6.up, by omega⟩
    · rintro H6 ⟨k6, qs, mv, hM6, hL6, hB6, hq6⟩
      refine ⟨l, M, _, _, rfl, rfl, k6.k _ _ (by simp) hl5, hM6, by rw [hL5.1, hL6.1, sizeLine_eq]; omega, fun l2 hl2 => ?_⟩
      have k7 : Kp [] H6 (upd H6 l2 (.lst (lv ++ mv))) := Kp.new hl2
      exact ⟨ps ++ qs, l2, lv ++ mv, _, rfl, (k5.trans k6).trans k7, upd_same, ((hL5.kp k6).app hL6).kp k7, hB6.next, by rw [List.length_append]; omega⟩
  · rintro σ H5 ⟨ps, l, lv, o5, rfl, k5, hl5, hL5, hB5, hlen⟩
    rw [Int.toNat_natCast] at hB5 hlen
    refine ⟨_, rfl, _, rfl, l, _, rfl, .inl ⟨SqL.of hl5, fun p hp => ?_⟩⟩
    have k6 : Kp [] H5 (upd H5 p (.tup lv)) := Kp.new hp
    have g6 : upd H5 p (.tup lv) p = some (.tup lv) := upd_same
    generalize upd H5 p (.tup lv) = H6 at k6 g6 ⊢
    refine ⟨by show 2 ≤ sizeLine; decide, fun p2 hp2 => ?_⟩
    have k7 : Kp [] H6 (upd H6 p2 (.tup [.int (n : Int), .ref p])) := Kp.new hp2
    have k47 := ((k4.trans k5).trans k6).trans k7
    have hv7 : PairsL (upd H6 p2 (.tup [.int (n : Int), .ref p])) ps lv := (hL5.kp k6).kp k7
    exact q _ _ n ps (k03.trans k47.mono0) (hm3.kp k47) ⟨p2, p, rfl, upd_same, lv, k7.t _ _ g6, hv7.1, hv7.2⟩ ⟨by omega, by omega, hB5.1, by omega⟩
end
end N0

namespace N0
open PySem L2 PySem.Spec PyProof.Rows
def spLaw (K : PySem.W.Frag) : Sp := fun vs H Q _ => ∃ (a : Addr) (ns : List Int), vs = [.ref a] ∧ SqL K H a (ns.map V.int) ∧ ns.length ≤ 63 ∧ ∀ H', Q (.bl true) H'
theorem con_one {n : Nat} {ps : List (Nat × Nat)} {x : Nat} : con n ps [x] = vl n fun y => ap ps x y := by
  unfold con
  exact vl_ext fun y _ => by simp
def rps : List (Nat × Nat) := [(0, 2), (1, 3)]
theorem rok : FrOk 4 rps := ⟨by decide, by decide, ⟨by decide, by decide⟩, by decide⟩
theorem r1 : con 4 rps [] = [0, 1, 2, 3] := by decide
theorem r2 : con 4 rps [0] = [2] := by decide
theorem r3 : clo 4 rps [0, 1] = [0, 1, 2, 3] := by decide
theorem r4 : clo 4 rps [3] = [3] := by decide
theorem r5 : con 4 rps [0, 1, 2, 3] = [] := by decide
theorem vok4 {v : List Nat} (h1 : v.Pairwise (· < ·)) (h2 : ∀ x ∈ v, x < 4) : VOk 4 v := ⟨h1, h2⟩
section
variable {P : Program} {w : World} {K : PySem.W.Frag} {mg : Str → Option Value} {base : Heap} {f C : Addr} {fd : FuncData}
theorem ok_law (F : Fun K "law" "law" s_law f fd) (T : Txt K mg) (D_law_begun : Def P w K mg base "_law_begun" 2 ["script"] (spBegun K)) (D_law_frame : Def P w K mg base "_law_frame" 3 ["m", "most"] spFrame)
    (D_law_values_right : Def P w K mg base "_law_values_right" 13 ["m", "frame"] spVR) (D_law_meant_right : Def P w K mg base "_law_meant_right" 47 ["m", "frame"] spVR) (D_law_all_right : Def P w K mg base "_law_all_right" 13 ["frame"] spAR)
    (D_law_draw : Def P w K mg base "_law_draw" 2 ["m", "limit"] spDraw) (D_law_great : Def P w K mg base "_law_great" 3 ["m"] spGreat) (D_law_same : Def P w K mg base "_law_same" 12 ["told", "due"] (spSame K 12))
    (D_contrary_of : Def P w K mg base "contrary_of" 5 ["frame", "points"] (spFV con)) (D_closure_of : Def P w K mg base "closure_of" 5 ["frame", "points"] (spFV clo)) (D_core_of : Def P w K mg base "core_of" 5 ["frame", "point"] spCore) :
    FnOk P w K mg base CX0 48 f fd ["script"] (spLaw K) := by
  refine F.ok sc_law (fun vs H Q E h => ?_) (fun cdv A outer s H vs Q E hr h => ?_)
  · obtain ⟨a, ns, rfl, _⟩ := h
    rfl
  obtain ⟨a, ns, rfl, ha, hn, q⟩ := h
  have nd := sc_law.nd
  refine ⟨_, (pss_cons (ps_set (i := 1) nd rfl (Or.inl rfl) (e_fn D_law_begun (hr.mono (by omega)) (pa_cons (pv 0) pa_nil)))
      (pss_cons (ps_for PassesOwn.never rfl (pi_range1 rfl T.range (pa_cons pe_int pa_nil)) (pg_name (i := 2) nd rfl (Or.inl rfl)) (pss_cons (ps_set (i := 3) nd rfl (Or.inl rfl) (e_fn D_law_frame (hr.mono (by omega)) (pa_cons (pv 1) (pa_cons pe_int pa_nil))))
      (pss_one (ps_for PassesOwn.never rfl (pi_range1 rfl T.range (pa_cons pe_int pa_nil)) (pg_name (i := 4) nd rfl (Or.inl rfl)) (pss_one (ps_if (PW.pt (pw_or (pt_not (pt_val (e_fn D_law_values_right (hr.mono (by omega)) (pa_cons (pv 1) (pa_cons (pv 3) pa_nil))))) (pw_or1 (pt_not (pt_val (e_fn D_law_meant_right (hr.mono (by omega)) (pa_cons (pv 1) (pa_cons (pv 3) pa_nil)))))))) (pss_one (ps_ret pe_bl)) pss_nil))))))
      (pss_cons (ps_if (pt_not (pt_val (e_fn D_law_all_right (hr.mono (by omega)) (pa_cons (e_fn D_law_frame (hr.mono (by omega)) (pa_cons (pv 1) (pa_cons pe_int pa_nil))) pa_nil)))) (pss_one (ps_ret pe_bl)) pss_nil)
      (pss_cons (ps_if (pt_cmpR op_eq (e_fn D_law_draw (hr.mono (by omega)) (pa_cons (pv 1) (pa_cons pe_int pa_nil))) pe_int (nomark _)) (pss_cons (ps_set (i := 3) nd rfl (Or.inl rfl) (e_fn D_law_great (hr.mono (by omega)) (pa_cons (pv 1) pa_nil)))
      (pss_cons (ps_set (i := 5) nd rfl (Or.inr rfl) (e_fn D_law_draw (hr.mono (by omega)) (pa_cons (pv 1) (pa_cons (pe_ix ix_tup (pv 3) pe_int (fun _ _ => rfl)) pa_nil))))
      (pss_cons (ps_set (i := 6) nd rfl (Or.inr rfl) (pe_callTy (call_dictT rfl hr.units) (by rfl) T.dict bt_dict (pa_cons (pe_lc (own := [("pair", 9)]) (g := gName 9) (tt := tYes) rfl nd (pi_tup (pe_ix ix_tup (pv 3) pe_int (fun _ _ => rfl))) (blkOk_by (N := N_law) (sc := defScope s_law) (by decide +kernel)) (fun _ _ _ _ _ => pg_name (i := 9) nd rfl (Or.inl rfl)) (fun _ _ _ _ _ => pts_nil) (fun _ _ _ _ _ => (pe_tup (pa_cons (pv 9) (pa_cons pe_bl pa_nil))))) pa_nil)))
      (pss_cons (ps_set (i := 7) nd rfl (Or.inl rfl) (pe_callTy call_tuple_of (by rfl) T.tuple bt_tuple (pa_cons (pe_lc (own := [("far", 10)]) (g := gName 10) rfl nd (pi_range1 rfl T.range (pa_cons (pe_ix ix_tup (pv 3) pe_int (fun _ _ => rfl)) pa_nil)) (blkOk_by (N := N_law) (sc := defScope s_law) (by decide +kernel)) (fun _ _ _ _ _ => pg_name (i := 10) nd rfl (Or.inl rfl)) (fun _ _ _ _ _ => pts_one (pt_cmp (pc_din (hu_of hr) (pe_tup (pa_cons (pe_callB (call_min2 rfl) (by rfl) T.min bt_min (pa_cons (pv 5) (pa_cons (pv 10) pa_nil))) (pa_cons (pe_callB (call_max2 rfl) (by rfl) T.max bt_max (pa_cons (pv 5) (pa_cons (pv 10) pa_nil))) pa_nil))) (pv 6)))) (fun _ _ _ _ _ => (pv 10))) pa_nil)))
      (pss_one (ps_if (PW.pt (pw_or (pt_not (pt_val (e_fn D_law_same (hr.mono (by omega)) (pa_cons (e_fn D_contrary_of (hr.mono (by omega)) (pa_cons (pv 3) (pa_cons (pe_tup (pa_cons (pv 5) pa_nil)) pa_nil))) (pa_cons (pv 7) pa_nil))))) (pw_or1 (pt_cmpR op_notIn_seq (pv 5) (e_fn D_core_of (hr.mono (by omega)) (pa_cons (pv 3) (pa_cons (pv 5) pa_nil))) rfl)))) (pss_one (ps_ret pe_bl)) pss_nil)))))) pss_nil)
      (pss_cons (ps_set (i := 3) nd rfl (Or.inl rfl) (pe_tup (pa_cons pe_int (pa_cons (pe_tup (pa_cons (pe_tup (pa_cons pe_int (pa_cons pe_int pa_nil))) (pa_cons (pe_tup (pa_cons pe_int (pa_cons pe_int pa_nil))) pa_nil))) pa_nil))))
      (pss_cons (ps_set (i := 8) nd rfl (Or.inl rfl) (pe_tup (pa_cons (e_fn D_contrary_of (hr.mono (by omega)) (pa_cons (pv 3) (pa_cons (pe_tup pa_nil) pa_nil))) (pa_cons (e_fn D_contrary_of (hr.mono (by omega)) (pa_cons (pv 3) (pa_cons (pe_tup (pa_cons pe_int pa_nil)) pa_nil))) (pa_cons (e_fn D_closure_of (hr.mono (by omega)) (pa_cons (pv 3) (pa_cons (pe_tup (pa_cons pe_int (pa_cons pe_int pa_nil))) pa_nil))) (pa_cons (e_fn D_core_of (hr.mono (by omega)) (pa_cons (pv 3) (pa_cons pe_int pa_nil))) (pa_cons (e_fn D_contrary_of (hr.mono (by omega)) (pa_cons (pv 3) (pa_cons (pe_tup (pa_cons pe_int (pa_cons pe_int (pa_cons pe_int (pa_cons pe_int pa_nil))))) pa_nil))) pa_nil)))))))
      (pss_one (ps_ret (e_fn D_law_same (hr.mono (by omega)) (pa_cons (pv 8) (pa_cons (pe_tup (pa_cons (pe_tup (pa_cons pe_int (pa_cons pe_int (pa_cons pe_int (pa_cons pe_int pa_nil))))) (pa_cons (pe_tup (pa_cons pe_int pa_nil)) (pa_cons (pe_tup (pa_cons pe_int (pa_cons pe_int (pa_cons pe_int (pa_cons pe_int pa_nil))))) (pa_cons (pe_tup (pa_cons pe_int pa_nil)) (pa_cons (pe_tup pa_nil) pa_nil)))))) pa_nil))))))))))), ?_⟩
  refine ⟨_, rfl, a, ns, rfl, ha, hn, fun H1 m c g k1 hm0 hg0 hm1 => ?_⟩
  refine ⟨3, rfl, by decide, by decide, ?_⟩
  refine for_it (n := (3 : Int).toNat) walk_range (fun i σ H' => ∃ (o2 o3 o4 : Option V), σ = [some (.ref a), some (.ref m), o2, o3, o4, none, none, none, none, none, none] ∧ DrawAt H' m c g (300 * i)) ⟨none, none, none, rfl, hm1⟩ (fun _ _ _ _ _ => trivial) ?_ ?_
  · rintro i y σ _ H2 hi ⟨o2, o3, o4, rfl, hm2⟩ ⟨rfl, rfl⟩
    have hi2 : i < 3 := hi
    refine ⟨_, rfl, m, c, g, 9, 300 * i, rfl, hm2, by decide, by decide, by omega, fun H3 x n ps k3 hm3 hf3 hok hn9 => ?_⟩
    refine ⟨4, rfl, by decide, by decide, ?_⟩
    refine for_it (n := (4 : Int).toNat) walk_range (fun j σ H' => ∃ (o2 o4 : Option V), σ = [some (.ref a), some (.ref m), o2, some x, o4, none, none, none, none, none, none] ∧ DrawAt H' m c g (300 * i + 100 + 44 * j) ∧ FrV H' n ps x) ⟨_, _, rfl, hm3, hf3⟩ (fun _ _ _ _ _ => trivial) ?_ ?_
    · rintro j y σ _ H4 hj ⟨o2, o4, rfl, hm4, hf4⟩ ⟨rfl, rfl⟩
      have hj2 : j < 4 := hj
      refine ⟨_, rfl, _, rfl, m, c, g, x, n, ps, _, rfl, hm4, hf4, hok, hn9, by omega, fun H5 k5 hm5 => ⟨_, rfl, iteF ?_⟩⟩
      refine ⟨_, rfl, _, rfl, m, c, g, x, n, ps, _, rfl, hm5, hf4.kp k5, hok, hn9, by omega, fun H6 k6 hm6 => ⟨_, rfl, iteF ?_⟩⟩
      exact ⟨_, _, rfl, hm6.mono (by omega), (hf4.kp k5).kp k6⟩
    · rintro σ H4 ⟨o2, o4, rfl, hm4, hf4⟩
      have e4 : (4 : Int).toNat = 4 := rfl
      rw [e4] at hm4
      exact ⟨_, _, _, rfl, hm4.mono (by omega)⟩
  rintro σ H2 ⟨o2, o3, o4, rfl, hm2⟩
  have e3 : (3 : Int).toNat = 3 := rfl
  rw [e3] at hm2
  refine ⟨_, rfl, m, c, g, 6, _, rfl, hm2, by decide, by decide, by omega, fun H3 x n ps k3 hm3 hf3 hok hn6 => ⟨x, n, ps, rfl, hf3, hok, hn6, fun H4 k4 => ⟨_, rfl, iteF ?_⟩⟩⟩
  have hm4 := hm3.kp k4
  dsimp only [tNext]
  refine seqR (fun σ H' => ∃ o3 o5 o6 o7 : Option V, σ = [some (.ref a), some (.ref m), o2, o3, o4, o5, o6, o7, none, none, none]) (fun N hN => ?_) ?_
  · refine ⟨_, rfl, m, c, g, 4, _, rfl, hm4, by decide, by decide, by omega, fun H5 i k5 hm5 hi => ⟨rfl, _, rfl, ?_⟩⟩
    refine ite2 (fun hc => ?_) (fun hc => hN _ _ ⟨_, _, _, _, rfl⟩)
    refine ⟨_, rfl, m, c, g, _, rfl, hm5, by omega, fun H6 x n ps k6 hm6 hf6 hok => ?_⟩
    obtain ⟨fa, pb, rfl, hfa, hpb⟩ := id hf6
    have hn1 : 0 < n := by have := hok.1; omega
    refine ⟨_, rfl, _, rfl, fa, _, 0, _, rfl, rfl, tupT hfa, atI_nat (j := 0) rfl, m, c, g, n, _, rfl, hm6, hn1, by have := hok.2.1; omega, by omega, fun H7 pt k7 hm7 hpt => ?_⟩
    have hfa7 := k7.t _ _ hfa
    have hf7 := hf6.kp k7
    have hpb7 := hpb.kp k7
    clear hm6 hm5 hm4 hm3 hm2 hm1 k6 k5 k4 k3 hf6 hf3 hpb hfa
    obtain ⟨ys, hys, hyl, hyp⟩ := id hpb7
    refine ⟨_, rfl, fa, _, 1, _, rfl, rfl, tupT hfa7, atI_nat (j := 1) rfl, pb, rfl, ⟨_, tupT hys⟩, fun D hD => ?_⟩
    refine lc_it (n := ys.length) walk_tup (fun i H' => Kp [] H7 H' ∧ ∃ pas : List Addr, H' D = some (.lst (pas.map V.ref)) ∧ Paired (PairK K H') pas ((ps.take i).map pK)) ⟨Kp.new hD, [], upd_same, .nil⟩ (fun i H' _ h => tupT (h.1.t _ _ hys)) ?_ ?_
    · rintro i y _ H1 hi ⟨k1, pas, hD1, hP1⟩ ⟨rfl, hy⟩
      have hi2 : i < ps.length := by omega
      have hpi : ps[i]? = some ps[i] := List.getElem?_eq_getElem hi2
      obtain ⟨pc, e1, e2⟩ := hyp i _ hpi
      obtain rfl : V.ref pc = y := Option.some.inj (e1.symm.trans hy)
      have hpl := hok.2.2.2
      refine ⟨rfl, _, rfl, by show 2 ≤ sizeLine; decide, fun p hp => ?_⟩
      have k2 : Kp [] H1 (upd H1 p (.tup [.ref pc, .bl true])) := Kp.new hp
      have hp2 : upd H1 p (.tup [.ref pc, .bl true]) p = some (.tup [.ref pc, .bl true]) := upd_same
      have hpm := k2.t _ _ (k1.t _ _ e2)
      generalize upd H1 p (.tup [.ref pc, .bl true]) = H2 at k2 hp2 hpm ⊢
      have hD2 := k2.k _ _ (by simp) hD1
      have hlen : pas.length = (ps.take i).length := by rw [Paired.length hP1, List.length_map]
      refine ⟨_, hD2, by rw [List.length_map, hlen, List.length_take, sizeLine_eq]; omega, (k1.trans k2).put hD, pas ++ [p], by rw [upd_same, List.map_append]; rfl, ?_⟩
      have kw : Kp [D] H2 (upd H2 D (.lst (pas.map V.ref ++ [.ref p]))) := (Kp.refl _ _).wr (by simp) hD2 (by intro xs z; cases z)
      rw [List.take_add_one, hpi, List.map_append]
      refine Paired.snoc (Paired.mapP hP1 fun p' kv ⟨b', h1, h2⟩ => ⟨b', ?_, kw.t _ _ (k2.t _ _ h2)⟩) ⟨pc, tupT (kw.t _ _ hp2), kw.t _ _ hpm⟩
      have h1' := N0.SqT.kp k2 h1
      rcases h1' with (h | ⟨o, h⟩) | h
      · exact .inl (.inl (kw.t _ _ h))
      · refine .inl (.inr ⟨o, kw.k _ _ ?_ h⟩)
        simp only [List.mem_singleton]
        intro z
        rw [z, hD2] at h; cases h
      · exact .inr h
    rintro H8 ⟨k8, pas, hD8, hP8⟩
    rw [List.take_of_length_le (by omega)] at hP8
    refine ⟨D, pas, _, rfl, SqL.of hD8, hP8, fun d hd => ?_⟩
    rw [mergeT_nodup (acc := []) (by rw [List.nil_append]; exact pK_nodup hok.2.2.1.nodup), List.nil_append]
    have k9 : Kp [] H8 (upd H8 d (.dT (ps.map pK))) := Kp.new hd
    have hd9 : upd H8 d (.dT (ps.map pK)) d = some (.dT (ps.map pK)) := upd_same
    generalize upd H8 d (.dT (ps.map pK)) = H9 at k9 hd9 ⊢
    have k79 := k8.trans k9
    clear hP8 hD8 hD hd
    refine ⟨_, rfl, fa, _, 0, _, rfl, rfl, tupT (k79.t _ _ hfa7), atI_nat (j := 0) rfl, n, rfl, by omega, by have := hok.2.1; omega, fun L hL => ?_⟩
    have hn600 := hok.2.1
    refine lc_it (n := (n : Int).toNat) walk_range (fun i H' => Kp [] H9 H' ∧ H' L = some (.lst ((vl i fun y => ap ps pt y).map fun k : Nat => V.int k))) ⟨Kp.new hL, upd_same⟩ (fun _ _ _ _ => trivial) ?_ ?_
    · rintro i y _ H10 hi ⟨k10, hL10⟩ ⟨rfl, rfl⟩
      have hi2 : i < n := by rw [Int.toNat_natCast] at hi; exact hi
      have e0 : (0 : Int) + (i : Int) = (i : Int) := by omega
      dsimp only [gName]
      rw [e0]
      refine ⟨rfl, _, rfl, _, rfl, _, _, rfl, _, rfl, _, rfl, _, _, rfl, by show 2 ≤ sizeLine; decide, fun p hp => ?_⟩
      rw [min_int pt i, max_int pt i]
      have k11 : Kp [] H10 (upd H10 p (.tup [.int ((min pt i : Nat) : Int), .int ((max pt i : Nat) : Int)])) := Kp.new hp
      have hp11 : upd H10 p (.tup [.int ((min pt i : Nat) : Int), .int ((max pt i : Nat) : Int)]) p = some (.tup [.int ((min pt i : Nat) : Int), .int ((max pt i : Nat) : Int)]) := upd_same
      generalize upd H10 p (.tup [.int ((min pt i : Nat) : Int), .int ((max pt i : Nat) : Int)]) = H11 at k11 hp11 ⊢
      have hL11 := k11.k _ _ (by simp) hL10
      refine ⟨_, rfl, d, _, rfl, DGet.t (k := [Sum.inl ((min pt i : Nat) : Int), Sum.inl ((max pt i : Nat) : Int)]) (k11.k _ _ (by simp) (k10.k _ _ (by simp) hd9)) hp11, _, rfl, ?_⟩
      rw [pK_some]
      have eap : decide ((min pt i, max pt i) ∈ ps) = ap ps pt i := rfl
      rw [eap]
      have hvn := vl_len i fun y => ap ps pt y
      refine ite2 (fun hc => ?_) (fun hc => ?_)
      · refine ⟨_, rfl, _, hL11, by rw [List.length_map]; exact small_lt (by omega), (k10.trans k11).put hL, ?_⟩
        rw [upd_same, vl_succ, if_pos hc, List.map_append]; rfl
      · refine ⟨k10.trans k11, ?_⟩
        rw [vl_succ, if_neg hc, List.append_nil]; exact hL11
    rintro H10 ⟨k10, hL10⟩
    rw [Int.toNat_natCast, ← con_one] at hL10
    refine ⟨L, _, rfl, .inl ⟨SqL.of hL10, fun p hp => ?_⟩⟩
    have k11 : Kp [] H10 (upd H10 p (.tup ((con n ps [pt]).map fun k : Nat => V.int k))) := Kp.new hp
    have hp11 : upd H10 p (.tup ((con n ps [pt]).map fun k : Nat => V.int k)) p = some (.tup ((con n ps [pt]).map fun k : Nat => V.int k)) := upd_same
    generalize upd H10 p (.tup ((con n ps [pt]).map fun k : Nat => V.int k)) = H11 at k11 hp11 ⊢
    have k711 := (k79.trans k10).trans k11
    have hf11 := hf7.kp k711
    -- same
    refine ⟨_, rfl, _, rfl, by show 1 ≤ sizeLine; decide, fun p2 hp2 => ?_⟩
    have k12 : Kp [] H11 (upd H11 p2 (.tup [.int (pt : Int)])) := Kp.new hp2
    have g12 : upd H11 p2 (.tup [.int (pt : Int)]) p2 = some (.tup [.int (pt : Int)]) := upd_same
    generalize upd H11 p2 (.tup [.int (pt : Int)]) = H12 at k12 g12 ⊢
    refine ⟨_, .ref p2, n, ps, [pt], rfl, hf11.kp k12, hok, ⟨p2, rfl, g12⟩, VOk.one hpt, fun H13 z1 k13 hz1 => ?_⟩
    have k1113 := k12.trans k13
    have hcl : (con n ps [pt]).length ≤ 1000 := ValV.len con_ok hn600
    refine ⟨_, rfl, z1, .ref p, VD (con n ps [pt]), rfl, hz1.dp, ValV.dp ⟨p, rfl, k1113.t _ _ hp11⟩, pl_vd hcl, by rw [depth_vd]; decide, fun H14 k14 => ⟨_, rfl, iteF ?_⟩⟩
    have k1114 := k1113.trans k14
    refine ⟨_, rfl, _, rfl, _, rfl, _, n, ps, pt, rfl, hf11.kp k1114, hok, hpt, fun H15 z2 k15 hz2 => ?_⟩
    obtain ⟨pz, rfl, hpz⟩ := hz2
    refine ⟨pz, _, rfl, .inr (tupT hpz), rfl, flat_ints _, _, rfl, ?_⟩
    have hin : pt ∈ clo n ps [pt] := sub_clo (fun x hx => by rw [List.mem_singleton.mp hx]; exact hpt) pt (by simp)
    have hb : (if true = true then !inV (V.int (pt : Int)) ((clo n ps [pt]).map fun k : Nat => V.int k) else inV (V.int (pt : Int)) ((clo n ps [pt]).map fun k : Nat => V.int k)) = false := by
      rw [if_pos rfl, inV_ints, decide_eq_true hin]; rfl
    exact iteF' hb (hN _ _ ⟨_, _, _, _, rfl⟩)
  · rintro σ H5 ⟨o3, o5, o6, o7, rfl⟩
    -- frame
    refine ⟨by show 2 ≤ sizeLine; decide, fun p1 hp1 => ?_⟩
    have k1 : Kp [] H5 (upd H5 p1 (.tup [.int 0, .int 2])) := Kp.new hp1
    have g1 : upd H5 p1 (.tup [.int 0, .int 2]) p1 = some (.tup [.int 0, .int 2]) := upd_same
    generalize upd H5 p1 (.tup [.int 0, .int 2]) = G1 at k1 g1 ⊢
    refine ⟨by show 2 ≤ sizeLine; decide, fun p2 hp2 => ?_⟩
    have k2 : Kp [] G1 (upd G1 p2 (.tup [.int 1, .int 3])) := Kp.new hp2
    have g2 : upd G1 p2 (.tup [.int 1, .int 3]) p2 = some (.tup [.int 1, .int 3]) := upd_same
    generalize upd G1 p2 (.tup [.int 1, .int 3]) = G2 at k2 g2 ⊢
    refine ⟨by show 2 ≤ sizeLine; decide, fun p3 hp3 => ?_⟩
    have k3 : Kp [] G2 (upd G2 p3 (.tup [.ref p1, .ref p2])) := Kp.new hp3
    have g3 : upd G2 p3 (.tup [.ref p1, .ref p2]) p3 = some (.tup [.ref p1, .ref p2]) := upd_same
    generalize upd G2 p3 (.tup [.ref p1, .ref p2]) = G3 at k3 g3 ⊢
    refine ⟨by show 2 ≤ sizeLine; decide, fun p4 hp4 => ?_⟩
    have k4 : Kp [] G3 (upd G3 p4 (.tup [.int 4, .ref p3])) := Kp.new hp4
    have g4 : upd G3 p4 (.tup [.int 4, .ref p3]) p4 = some (.tup [.int 4, .ref p3]) := upd_same
    generalize upd G3 p4 (.tup [.int 4, .ref p3]) = G4 at k4 g4 ⊢
    have hf : FrV G4 4 rps (.ref p4) := ⟨p4, p3, rfl, g4, [.ref p1, .ref p2], k4.t _ _ g3, rfl, fun i p hp => by
      match i, hp with
      | 0, hp => cases hp; exact ⟨p1, rfl, ((k2.trans k3).trans k4).t _ _ g1⟩
      | 1, hp => cases hp; exact ⟨p2, rfl, (k3.trans k4).t _ _ g2⟩
      | i + 2, hp => simp [rps] at hp⟩
    clear g1 g2 g3 g4
    -- told
    refine ⟨_, rfl, Nat.zero_le _, fun t1 ht1 => ?_⟩
    have k5 : Kp [] G4 (upd G4 t1 (.tup [])) := Kp.new ht1
    have g5 : upd G4 t1 (.tup []) t1 = some (.tup []) := upd_same
    generalize upd G4 t1 (.tup []) = G5 at k5 g5 ⊢
    refine ⟨_, .ref t1, 4, rps, [], rfl, hf.kp k5, rok, ⟨t1, rfl, g5⟩, vok4 (by decide) (by decide), fun G6 z1 k6 hz1 => ?_⟩
    have k46 := k5.trans k6
    refine ⟨_, rfl, by show 1 ≤ sizeLine; decide, fun t2 ht2 => ?_⟩
    have k7 : Kp [] G6 (upd G6 t2 (.tup [.int 0])) := Kp.new ht2
    have g7 : upd G6 t2 (.tup [.int 0]) t2 = some (.tup [.int 0]) := upd_same
    generalize upd G6 t2 (.tup [.int 0]) = G7 at k7 g7 ⊢
    have k47 := k46.trans k7
    refine ⟨_, .ref t2, 4, rps, [0], rfl, hf.kp k47, rok, ⟨t2, rfl, g7⟩, vok4 (by decide) (by decide), fun G8 z2 k8 hz2 => ?_⟩
    have k48 := k47.trans k8
    refine ⟨_, rfl, by show 2 ≤ sizeLine; decide, fun t3 ht3 => ?_⟩
    have k9 : Kp [] G8 (upd G8 t3 (.tup [.int 0, .int 1])) := Kp.new ht3
    have g9 : upd G8 t3 (.tup [.int 0, .int 1]) t3 = some (.tup [.int 0, .int 1]) := upd_same
    generalize upd G8 t3 (.tup [.int 0, .int 1]) = G9 at k9 g9 ⊢
    have k49 := k48.trans k9
    refine ⟨_, .ref t3, 4, rps, [0, 1], rfl, hf.kp k49, rok, ⟨t3, rfl, g9⟩, vok4 (by decide) (by decide), fun G10 z3 k10 hz3 => ?_⟩
    have k410 := k49.trans k10
    refine ⟨_, rfl, _, 4, rps, 3, rfl, hf.kp k410, rok, by decide, fun G11 z4 k11 hz4 => ?_⟩
    have k411 := k410.trans k11
    refine ⟨_, rfl, by show 4 ≤ sizeLine; decide, fun t5 ht5 => ?_⟩
    have k12 : Kp [] G11 (upd G11 t5 (.tup [.int 0, .int 1, .int 2, .int 3])) := Kp.new ht5
    have g12 : upd G11 t5 (.tup [.int 0, .int 1, .int 2, .int 3]) t5 = some (.tup [.int 0, .int 1, .int 2, .int 3]) := upd_same
    generalize upd G11 t5 (.tup [.int 0, .int 1, .int 2, .int 3]) = G12 at k12 g12 ⊢
    have k412 := k411.trans k12
    refine ⟨_, .ref t5, 4, rps, [0, 1, 2, 3], rfl, hf.kp k412, rok, ⟨t5, rfl, g12⟩, vok4 (by decide) (by decide), fun G13 z5 k13 hz5 => ?_⟩
    rw [r1] at hz1
    rw [r2] at hz2
    rw [r3] at hz3
    rw [r4] at hz4
    rw [r5] at hz5
    refine ⟨by show 5 ≤ sizeLine; decide, fun p5 hp5 => ?_⟩
    have k14 : Kp [] G13 (upd G13 p5 (.tup [z1, z2, z3, z4, z5])) := Kp.new hp5
    have g14 : upd G13 p5 (.tup [z1, z2, z3, z4, z5]) p5 = some (.tup [z1, z2, z3, z4, z5]) := upd_same
    generalize upd G13 p5 (.tup [z1, z2, z3, z4, z5]) = G14 at k14 g14 ⊢
    have d14 : Dp K G14 (.ref p5) (.tuple [VD [0, 1, 2, 3], VD [2], VD [0, 1, 2, 3], VD [3], VD []]) :=
      .tup (tupT g14) (.cons (hz1.kp (((((((k7.trans k8).trans k9).trans k10).trans k11).trans k12).trans k13).trans k14)).dp (.cons (hz2.kp (((((k9.trans k10).trans k11).trans k12).trans k13).trans k14)).dp (.cons (hz3.kp (((k11.trans k12).trans k13).trans k14)).dp
        (.cons (hz4.kp ((k12.trans k13).trans k14)).dp (.cons (hz5.kp k14).dp .nil)))))
    clear hz1 hz2 hz3 hz4 hz5
    -- due
    refine ⟨_, rfl, by show 4 ≤ sizeLine; decide, fun u1 hu1 => ?_⟩
    have j1 : Kp [] G14 (upd G14 u1 (.tup [.int 0, .int 1, .int 2, .int 3])) := Kp.new hu1
    have h1 : upd G14 u1 (.tup [.int 0, .int 1, .int 2, .int 3]) u1 = some (.tup [.int 0, .int 1, .int 2, .int 3]) := upd_same
    generalize upd G14 u1 (.tup [.int 0, .int 1, .int 2, .int 3]) = J1 at j1 h1 ⊢
    refine ⟨by show 1 ≤ sizeLine; decide, fun u2 hu2 => ?_⟩
    have j2 : Kp [] J1 (upd J1 u2 (.tup [.int 2])) := Kp.new hu2
    have h2 : upd J1 u2 (.tup [.int 2]) u2 = some (.tup [.int 2]) := upd_same
    generalize upd J1 u2 (.tup [.int 2]) = J2 at j2 h2 ⊢
    refine ⟨by show 4 ≤ sizeLine; decide, fun u3 hu3 => ?_⟩
    have j3 : Kp [] J2 (upd J2 u3 (.tup [.int 0, .int 1, .int 2, .int 3])) := Kp.new hu3
    have h3 : upd J2 u3 (.tup [.int 0, .int 1, .int 2, .int 3]) u3 = some (.tup [.int 0, .int 1, .int 2, .int 3]) := upd_same
    generalize upd J2 u3 (.tup [.int 0, .int 1, .int 2, .int 3]) = J3 at j3 h3 ⊢
    refine ⟨by show 1 ≤ sizeLine; decide, fun u4 hu4 => ?_⟩
    have j4 : Kp [] J3 (upd J3 u4 (.tup [.int 3])) := Kp.new hu4
    have h4 : upd J3 u4 (.tup [.int 3]) u4 = some (.tup [.int 3]) := upd_same
    generalize upd J3 u4 (.tup [.int 3]) = J4 at j4 h4 ⊢
    refine ⟨Nat.zero_le _, fun u5 hu5 => ?_⟩
    have j5 : Kp [] J4 (upd J4 u5 (.tup [])) := Kp.new hu5
    have h5 : upd J4 u5 (.tup []) u5 = some (.tup []) := upd_same
    generalize upd J4 u5 (.tup []) = J5 at j5 h5 ⊢
    refine ⟨by show 5 ≤ sizeLine; decide, fun u6 hu6 => ?_⟩
    have j6 : Kp [] J5 (upd J5 u6 (.tup [.ref u1, .ref u2, .ref u3, .ref u4, .ref u5])) := Kp.new hu6
    have h6 : upd J5 u6 (.tup [.ref u1, .ref u2, .ref u3, .ref u4, .ref u5]) u6 = some (.tup [.ref u1, .ref u2, .ref u3, .ref u4, .ref u5]) := upd_same
    generalize upd J5 u6 (.tup [.ref u1, .ref u2, .ref u3, .ref u4, .ref u5]) = J6 at j6 h6 ⊢
    have v1 : ValV J6 [0, 1, 2, 3] (.ref u1) := ⟨u1, rfl, ((((j2.trans j3).trans j4).trans j5).trans j6).t _ _ h1⟩
    have v2 : ValV J6 [2] (.ref u2) := ⟨u2, rfl, (((j3.trans j4).trans j5).trans j6).t _ _ h2⟩
    have v3 : ValV J6 [0, 1, 2, 3] (.ref u3) := ⟨u3, rfl, ((j4.trans j5).trans j6).t _ _ h3⟩
    have v4 : ValV J6 [3] (.ref u4) := ⟨u4, rfl, (j5.trans j6).t _ _ h4⟩
    have v5 : ValV J6 [] (.ref u5) := ⟨u5, rfl, j6.t _ _ h5⟩
    have dJ : Dp K J6 (.ref u6) (.tuple [VD [0, 1, 2, 3], VD [2], VD [0, 1, 2, 3], VD [3], VD []]) := .tup (tupT h6) (.cons v1.dp (.cons v2.dp (.cons v3.dp (.cons v4.dp (.cons v5.dp .nil)))))
    exact ⟨_, _, _, rfl, Dp.kp (((((j1.trans j2).trans j3).trans j4).trans j5).trans j6) d14, dJ, by simp [pl, plAll, pl_vd], by simp [PyData.depth, PyData.depthAll, depth_vd], fun J7 _ => q _⟩
end
end N0

namespace N0
open PySem L2 PySem.Spec PyProof.Rows
/-- a def of the text, under its name -/
structure FG (K : PySem.W.Frag) (mg : Str → Option Value) (x : Str) (st : Stmt) : Prop where
  ex : ∃ (f : Addr) (fd : FuncData), Fun K x x st f fd ∧ mg x = some (.ref f) ∧ PySem.W.keepIn K (.ref f) = true
theorem fnG {K : PySem.W.Frag} {h : Heap} {mg : Str → Option Value} {x : Str} {st : Stmt} {f : Addr} {oc : Value} {od an : Option Addr} {osl : Array (Option Value)} {kV doc pm cdv ct : Value} (X : K.In h) (G : h.Ns mainGlobals mg)
    (a : PySem.W.nsIn K mainGlobals x = some (some (.ref f))) (l : K.lookup f = some ⟨oc, od, .func (PySem.W.fnOf x x (defArgs st) (defBody st) (defScope st) .none kV doc pm an cdv ct), osl⟩)
    (c : PySem.W.codeIn K cdv x = true) (k : PySem.W.keepIn K (.ref f) = true) : FG K mg x st := ⟨f, _, fun_mk (st := st) l c k, PySem.W.mg_of X G a, k⟩
theorem _root_.L2.Fun.law1 {K : PySem.W.Frag} {f : Addr} {fd : FuncData} (F : Fun K "law" "law" s_law f fd) : ∀ (s : Shared) (v : Value), BindsTo s fd ⟨[v], []⟩ [("script", v)] := by
  obtain ⟨oc, od, kV, doc, pm, an, cdv, ct, osl, rfl, lk, hcd⟩ := F.ex
  exact fun s v => .of_eq rfl
theorem vac {P : Program} {w : World} {K : PySem.W.Frag} {mg : Str → Option Value} {base : Heap} {k : Nat} {f : Addr} {fd : FuncData} {ps : List Str} {sp : Sp} (h : ∀ vs H Q E, ¬ sp vs H Q E) : FnOk P w K mg base CX0 k f fd ps sp :=
  ⟨fun vs H Q E q => (h vs H Q E q).elim, fun A outer s H args us vs Q E _ _ _ _ q => (h vs H Q E q).elim⟩
theorem kept_of {x : Str} {n : Int} {mg : Str → Option Value} {h : Heap} (L : PySem.W.LooseAre [(x, .int n)] mg h) : ∃ t, mg x = some (.int n t) := by
  obtain ⟨v, h1, h2⟩ := L.val _ (List.mem_singleton.mpr rfl)
  cases h2
  exact ⟨_, h1⟩
theorem txt_go {R : Prop} {K : PySem.W.Frag} {h : Heap} {mg : Str → Option Value} (X : K.In h) (G : h.Ns mainGlobals mg) {t_MOST_NAME : Tok} {t_MOST_DEEP : Tok} {t_MOST_SIZE : Tok} {t_SMALL_LETTERS : Tok} {u0_WORDS u1_WORDS u2_WORDS u3_WORDS u4_WORDS : Tok} {a_WORDS : Addr} {d_WORDS : Option Addr} {n_WORDS : Nat} {l_WORDS : Array (Option Value)} {t_MOST_POINTS : Tok} {t_MOST_CLOSED : Tok}
    (z_isinstance : PySem.W.nsIn K mainGlobals "isinstance" = some none)
    (z_len : PySem.W.nsIn K mainGlobals "len" = some none)
    (z_str : PySem.W.nsIn K mainGlobals "str" = some none)
    (z_tuple : PySem.W.nsIn K mainGlobals "tuple" = some none)
    (z_list : PySem.W.nsIn K mainGlobals "list" = some none)
    (z_int : PySem.W.nsIn K mainGlobals "int" = some none)
    (z_bool : PySem.W.nsIn K mainGlobals "bool" = some none)
    (z_all : PySem.W.nsIn K mainGlobals "all" = some none)
    (z_range : PySem.W.nsIn K mainGlobals "range" = some none)
    (z_max : PySem.W.nsIn K mainGlobals "max" = some none)
    (z_min : PySem.W.nsIn K mainGlobals "min" = some none)
    (z_sum : PySem.W.nsIn K mainGlobals "sum" = some none)
    (z_sorted : PySem.W.nsIn K mainGlobals "sorted" = some none)
    (z_enumerate : PySem.W.nsIn K mainGlobals "enumerate" = some none)
    (z_zip : PySem.W.nsIn K mainGlobals "zip" = some none)
    (z_dict : PySem.W.nsIn K mainGlobals "dict" = some none)
    (z_set : PySem.W.nsIn K mainGlobals "set" = some none)
    (c_MOST_NAME : PySem.W.nsIn K mainGlobals "MOST_NAME" = some (some (.int 8 t_MOST_NAME)))
    (c_MOST_DEEP : PySem.W.nsIn K mainGlobals "MOST_DEEP" = some (some (.int 40 t_MOST_DEEP)))
    (c_MOST_SIZE : PySem.W.nsIn K mainGlobals "MOST_SIZE" = some (some (.int 2000 t_MOST_SIZE)))
    (c_MOST_KEPT : ∃ t, mg "MOST_KEPT" = some (.int 1000000 t))
    (c_SMALL_LETTERS : PySem.W.nsIn K mainGlobals "SMALL_LETTERS" = some (some (.str "abcdefghijklmnopqrstuvwxyz" t_SMALL_LETTERS)))
    (c_WORDS : PySem.W.nsIn K mainGlobals "WORDS" = some (some (.ref a_WORDS))) (e_WORDS : K.lookup a_WORDS = some ⟨.type "tuple", d_WORDS, .seq #[.str "and" u0_WORDS, .str "or" u1_WORDS, .str "not" u2_WORDS, .str "yes" u3_WORDS, .str "no" u4_WORDS] n_WORDS, l_WORDS⟩)
    (c_MOST_POINTS : PySem.W.nsIn K mainGlobals "MOST_POINTS" = some (some (.int 600 t_MOST_POINTS)))
    (c_MOST_CLOSED : PySem.W.nsIn K mainGlobals "MOST_CLOSED" = some (some (.int 5000 t_MOST_CLOSED))) (go : Txt K mg → R) : R := go {
  isinstance := PySem.W.mg_none_of X G z_isinstance
  len := PySem.W.mg_none_of X G z_len
  str := PySem.W.mg_none_of X G z_str
  tuple := PySem.W.mg_none_of X G z_tuple
  list := PySem.W.mg_none_of X G z_list
  int := PySem.W.mg_none_of X G z_int
  bool := PySem.W.mg_none_of X G z_bool
  all := PySem.W.mg_none_of X G z_all
  range := PySem.W.mg_none_of X G z_range
  max := PySem.W.mg_none_of X G z_max
  min := PySem.W.mg_none_of X G z_min
  sum := PySem.W.mg_none_of X G z_sum
  sorted := PySem.W.mg_none_of X G z_sorted
  enumerate := PySem.W.mg_none_of X G z_enumerate
  zip := PySem.W.mg_none_of X G z_zip
  dict := PySem.W.mg_none_of X G z_dict
  set := PySem.W.mg_none_of X G z_set
  MOST_NAME := ⟨_, PySem.W.mg_of X G c_MOST_NAME, _, rfl⟩
  MOST_DEEP := ⟨_, PySem.W.mg_of X G c_MOST_DEEP, _, rfl⟩
  MOST_SIZE := ⟨_, PySem.W.mg_of X G c_MOST_SIZE, _, rfl⟩
  MOST_KEPT := let ⟨t, e⟩ := c_MOST_KEPT; ⟨_, e, t, rfl⟩
  SMALL_LETTERS := ⟨_, PySem.W.mg_of X G c_SMALL_LETTERS, _, rfl⟩
  WORDS := ⟨a_WORDS, PySem.W.mg_of X G c_WORDS, fun H => .inr ⟨_, _, _, e_WORDS, rfl, rfl, small_le (by simp), (.cons ⟨_, rfl⟩ (.cons ⟨_, rfl⟩ (.cons ⟨_, rfl⟩ (.cons ⟨_, rfl⟩ (.cons ⟨_, rfl⟩ .nil)))))⟩⟩
  MOST_POINTS := ⟨_, PySem.W.mg_of X G c_MOST_POINTS, _, rfl⟩
  MOST_CLOSED := ⟨_, PySem.W.mg_of X G c_MOST_CLOSED, _, rfl⟩ }
theorem cls_TermLines {K : PySem.W.Frag} {h : Heap} {mg : Str → Option Value} {R : Prop} (X : K.In h) (G : h.Ns mainGlobals mg) {C : Addr} {f___init__ : Addr} {od___init__ an___init__ : Option Addr} {sl___init__ : Array (Option Value)} {oc___init__ kV___init__ dc___init__ pm___init__ cd___init__ ct___init__ : Value} {f_line_number : Addr} {od_line_number an_line_number : Option Addr} {sl_line_number : Array (Option Value)} {oc_line_number kV_line_number dc_line_number pm_line_number cd_line_number ct_line_number : Value} {f_term_number : Addr} {od_term_number an_term_number : Option Addr} {sl_term_number : Array (Option Value)} {oc_term_number kV_term_number dc_term_number pm_term_number cd_term_number ct_term_number : Value}
    (aC : PySem.W.nsIn K mainGlobals "TermLines" = some (some (.ref C))) (pg : PySem.W.plainGet K C Str.empty = true) (hd : PySem.W.hasDictIn K C = true) (po : PySem.W.plainOver K C = true) (sa : PySem.W.findIn K (.ref C) "__setattr__" = some (some (.builtin "object.__setattr__"))) (mk : PySem.W.makesIn K C = true) (kc : PySem.W.keepIn K (.ref C) = true)
    (x_lines : PySem.W.findIn K (.ref C) "lines" = some none)
    (x_numbers : PySem.W.findIn K (.ref C) "numbers" = some none)
    (x_sizes : PySem.W.findIn K (.ref C) "sizes" = some none)
    (a___init__ : PySem.W.findIn K (.ref C) "__init__" = some (some (.ref f___init__))) (i___init__ : PySem.W.isFn K (.ref f___init__) = true) (l___init__ : K.lookup f___init__ = some ⟨oc___init__, od___init__, .func (PySem.W.fnOf "__init__" "TermLines.__init__" (defArgs s_TermLines___init__) (defBody s_TermLines___init__) (defScope s_TermLines___init__) .none kV___init__ dc___init__ pm___init__ an___init__ cd___init__ ct___init__), sl___init__⟩) (c___init__ : PySem.W.codeIn K cd___init__ "TermLines.__init__" = true) (k___init__ : PySem.W.keepIn K (.ref f___init__) = true)
    (a_line_number : PySem.W.findIn K (.ref C) "line_number" = some (some (.ref f_line_number))) (i_line_number : PySem.W.isFn K (.ref f_line_number) = true) (l_line_number : K.lookup f_line_number = some ⟨oc_line_number, od_line_number, .func (PySem.W.fnOf "line_number" "TermLines.line_number" (defArgs s_TermLines_line_number) (defBody s_TermLines_line_number) (defScope s_TermLines_line_number) .none kV_line_number dc_line_number pm_line_number an_line_number cd_line_number ct_line_number), sl_line_number⟩) (c_line_number : PySem.W.codeIn K cd_line_number "TermLines.line_number" = true) (k_line_number : PySem.W.keepIn K (.ref f_line_number) = true)
    (a_term_number : PySem.W.findIn K (.ref C) "term_number" = some (some (.ref f_term_number))) (i_term_number : PySem.W.isFn K (.ref f_term_number) = true) (l_term_number : K.lookup f_term_number = some ⟨oc_term_number, od_term_number, .func (PySem.W.fnOf "term_number" "TermLines.term_number" (defArgs s_TermLines_term_number) (defBody s_TermLines_term_number) (defScope s_TermLines_term_number) .none kV_term_number dc_term_number pm_term_number an_term_number cd_term_number ct_term_number), sl_term_number⟩) (c_term_number : PySem.W.codeIn K cd_term_number "TermLines.term_number" = true) (k_term_number : PySem.W.keepIn K (.ref f_term_number) = true)
    (go : ∀ (C f___init__ f_line_number f_term_number : Addr) (fd___init__ fd_line_number fd_term_number : FuncData), TLc K mg C → Fun K "__init__" "TermLines.__init__" s_TermLines___init__ f___init__ fd___init__ → Mk K C f___init__ → Fun K "line_number" "TermLines.line_number" s_TermLines_line_number f_line_number fd_line_number → Meth K C "line_number" f_line_number → Fun K "term_number" "TermLines.term_number" s_TermLines_term_number f_term_number fd_term_number → Meth K C "term_number" f_term_number → R) : R :=
  go C f___init__ f_line_number f_term_number _ _ _ ⟨⟨pg, hd, po, sa⟩, x_lines, x_numbers, x_sizes, PySem.W.mg_of X G aC⟩ (fun_mk (st := s_TermLines___init__) l___init__ c___init__ k___init__) ⟨mk, a___init__, i___init__, kc⟩ (fun_mk (st := s_TermLines_line_number) l_line_number c_line_number k_line_number) ⟨a_line_number, i_line_number, k_line_number⟩ (fun_mk (st := s_TermLines_term_number) l_term_number c_term_number k_term_number) ⟨a_term_number, i_term_number, k_term_number⟩
theorem cls_Sides {K : PySem.W.Frag} {h : Heap} {mg : Str → Option Value} {R : Prop} (X : K.In h) (G : h.Ns mainGlobals mg) {C : Addr} {f___init__ : Addr} {od___init__ an___init__ : Option Addr} {sl___init__ : Array (Option Value)} {oc___init__ kV___init__ dc___init__ pm___init__ cd___init__ ct___init__ : Value} {f_contrary : Addr} {od_contrary an_contrary : Option Addr} {sl_contrary : Array (Option Value)} {oc_contrary kV_contrary dc_contrary pm_contrary cd_contrary ct_contrary : Value} {f_closure : Addr} {od_closure an_closure : Option Addr} {sl_closure : Array (Option Value)} {oc_closure kV_closure dc_closure pm_closure cd_closure ct_closure : Value}
    (aC : PySem.W.nsIn K mainGlobals "Sides" = some (some (.ref C))) (pg : PySem.W.plainGet K C Str.empty = true) (hd : PySem.W.hasDictIn K C = true) (po : PySem.W.plainOver K C = true) (sa : PySem.W.findIn K (.ref C) "__setattr__" = some (some (.builtin "object.__setattr__"))) (mk : PySem.W.makesIn K C = true) (kc : PySem.W.keepIn K (.ref C) = true)
    (x_points : PySem.W.findIn K (.ref C) "points" = some none)
    (x_every : PySem.W.findIn K (.ref C) "every" = some none)
    (x_apart : PySem.W.findIn K (.ref C) "apart" = some none)
    (a___init__ : PySem.W.findIn K (.ref C) "__init__" = some (some (.ref f___init__))) (i___init__ : PySem.W.isFn K (.ref f___init__) = true) (l___init__ : K.lookup f___init__ = some ⟨oc___init__, od___init__, .func (PySem.W.fnOf "__init__" "Sides.__init__" (defArgs s_Sides___init__) (defBody s_Sides___init__) (defScope s_Sides___init__) .none kV___init__ dc___init__ pm___init__ an___init__ cd___init__ ct___init__), sl___init__⟩) (c___init__ : PySem.W.codeIn K cd___init__ "Sides.__init__" = true) (k___init__ : PySem.W.keepIn K (.ref f___init__) = true)
    (a_contrary : PySem.W.findIn K (.ref C) "contrary" = some (some (.ref f_contrary))) (i_contrary : PySem.W.isFn K (.ref f_contrary) = true) (l_contrary : K.lookup f_contrary = some ⟨oc_contrary, od_contrary, .func (PySem.W.fnOf "contrary" "Sides.contrary" (defArgs s_Sides_contrary) (defBody s_Sides_contrary) (defScope s_Sides_contrary) .none kV_contrary dc_contrary pm_contrary an_contrary cd_contrary ct_contrary), sl_contrary⟩) (c_contrary : PySem.W.codeIn K cd_contrary "Sides.contrary" = true) (k_contrary : PySem.W.keepIn K (.ref f_contrary) = true)
    (a_closure : PySem.W.findIn K (.ref C) "closure" = some (some (.ref f_closure))) (i_closure : PySem.W.isFn K (.ref f_closure) = true) (l_closure : K.lookup f_closure = some ⟨oc_closure, od_closure, .func (PySem.W.fnOf "closure" "Sides.closure" (defArgs s_Sides_closure) (defBody s_Sides_closure) (defScope s_Sides_closure) .none kV_closure dc_closure pm_closure an_closure cd_closure ct_closure), sl_closure⟩) (c_closure : PySem.W.codeIn K cd_closure "Sides.closure" = true) (k_closure : PySem.W.keepIn K (.ref f_closure) = true)
    (go : ∀ (C f___init__ f_contrary f_closure : Addr) (fd___init__ fd_contrary fd_closure : FuncData), SCc K mg C → Fun K "__init__" "Sides.__init__" s_Sides___init__ f___init__ fd___init__ → Mk K C f___init__ → Fun K "contrary" "Sides.contrary" s_Sides_contrary f_contrary fd_contrary → Meth K C "contrary" f_contrary → Fun K "closure" "Sides.closure" s_Sides_closure f_closure fd_closure → Meth K C "closure" f_closure → R) : R :=
  go C f___init__ f_contrary f_closure _ _ _ ⟨⟨pg, hd, po, sa⟩, x_points, x_every, x_apart, PySem.W.mg_of X G aC⟩ (fun_mk (st := s_Sides___init__) l___init__ c___init__ k___init__) ⟨mk, a___init__, i___init__, kc⟩ (fun_mk (st := s_Sides_contrary) l_contrary c_contrary k_contrary) ⟨a_contrary, i_contrary, k_contrary⟩ (fun_mk (st := s_Sides_closure) l_closure c_closure k_closure) ⟨a_closure, i_closure, k_closure⟩
theorem walkX {l : PySem.W.OpenLaw} {q : Program} {loose : List Str} {XP : (Str → Option Value) → Heap → Prop} {YP : World → Heap → Prop} {d : DefRec} {K : Params → PySem.W.Frag} (hn : l.most = some 63) (hdf : d.params.defaults = [])
    (hY : ∀ (w : World) (h : Heap), YP w h → (K w.params).In h)
    (F : ∀ (w : World) (mg : Str → Option Value) (fa : Addr) (h : Heap), (K w.params).In h → h.Ns mainGlobals mg → XP mg h → mg d.name = some (.ref fa) →
      ∃ fd : FuncData, (∀ (s : Shared) (u : Value), BindsTo s fd ⟨[u], []⟩ [("script", u)]) ∧ ∀ base : Heap, (K w.params).In base → base.Ns mainGlobals mg → FnOk l.prog w (K w.params) mg base CX0 48 fa fd ["script"] (spLaw (K w.params))) :
    PySem.W.WalkO q loose XP YP l.row.toRowW d [] (fun f vs => PySem.call f vs) := by
  refine Att.attach_call hn hdf fun w s₀ s₁ mg mb fa o pm cd doc a vs ns G Y ho hd hcd hmg hobj hints hlen hg => ?_
  have KX := hY w _ Y
  obtain ⟨fd, hb, hF⟩ := F w mg fa _ KX G.T.g G.X hmg
  exact law_call KX G.T.g G.T.b G.T.builtins G.T.nolimit hg hobj hints (Nat.le_trans hlen (by decide)) ⟨rfl, by decide, by decide⟩ hF hb (fun H hO hS => ⟨a, ns, rfl, hS, hlen, fun _ => rfl⟩) fun H e s' z => z
theorem all_mk {l : PySem.W.OpenLaw} {w : World} {K : PySem.W.Frag} {h : Heap} {mg : Str → Option Value} {fa : Addr} (X : K.In h) (G : h.Ns mainGlobals mg) (hfa : mg "law" = some (.ref fa)) (T : Txt K mg)
    {C_TermLines f_TermLines___init__ f_TermLines_line_number f_TermLines_term_number : Addr} {fd_TermLines___init__ fd_TermLines_line_number fd_TermLines_term_number : FuncData} (TC_TermLines : TLc K mg C_TermLines)
    (F_TermLines___init__ : Fun K "__init__" "TermLines.__init__" s_TermLines___init__ f_TermLines___init__ fd_TermLines___init__) (M_TermLines___init__ : Mk K C_TermLines f_TermLines___init__)
    (F_TermLines_line_number : Fun K "line_number" "TermLines.line_number" s_TermLines_line_number f_TermLines_line_number fd_TermLines_line_number) (M_TermLines_line_number : Meth K C_TermLines "line_number" f_TermLines_line_number)
    (F_TermLines_term_number : Fun K "term_number" "TermLines.term_number" s_TermLines_term_number f_TermLines_term_number fd_TermLines_term_number) (M_TermLines_term_number : Meth K C_TermLines "term_number" f_TermLines_term_number)
    {C_Sides f_Sides___init__ f_Sides_contrary f_Sides_closure : Addr} {fd_Sides___init__ fd_Sides_contrary fd_Sides_closure : FuncData} (TC_Sides : SCc K mg C_Sides)
    (F_Sides___init__ : Fun K "__init__" "Sides.__init__" s_Sides___init__ f_Sides___init__ fd_Sides___init__) (M_Sides___init__ : Mk K C_Sides f_Sides___init__)
    (F_Sides_contrary : Fun K "contrary" "Sides.contrary" s_Sides_contrary f_Sides_contrary fd_Sides_contrary) (M_Sides_contrary : Meth K C_Sides "contrary" f_Sides_contrary)
    (F_Sides_closure : Fun K "closure" "Sides.closure" s_Sides_closure f_Sides_closure fd_Sides_closure) (M_Sides_closure : Meth K C_Sides "closure" f_Sides_closure)
    (G_is_name : FG K mg "is_name" s_is_name)
    (G_is_node : FG K mg "is_node" s_is_node)
    (G_terms_of : FG K mg "terms_of" s_terms_of)
    (G_wrong_place : FG K mg "wrong_place" s_wrong_place)
    (G_size_and_depth : FG K mg "size_and_depth" s_size_and_depth)
    (G_need_small : FG K mg "need_small" s_need_small)
    (G_need_term_at : FG K mg "need_term_at" s_need_term_at)
    (G_need_term : FG K mg "need_term" s_need_term)
    (G_number_parts : FG K mg "number_parts" s_number_parts)
    (G_letters_in : FG K mg "letters_in" s_letters_in)
    (G_is_integer : FG K mg "is_integer" s_is_integer)
    (G_is_within : FG K mg "is_within" s_is_within)
    (G_value_bits : FG K mg "value_bits" s_value_bits)
    (G_bits_value : FG K mg "bits_value" s_bits_value)
    (G_is_point_pair : FG K mg "is_point_pair" s_is_point_pair)
    (G_need_frame : FG K mg "need_frame" s_need_frame)
    (G_is_value : FG K mg "is_value" s_is_value)
    (G_need_value : FG K mg "need_value" s_need_value)
    (G_need_point : FG K mg "need_point" s_need_point)
    (G_contrary_of : FG K mg "contrary_of" s_contrary_of)
    (G_closure_by : FG K mg "closure_by" s_closure_by)
    (G_closure_of : FG K mg "closure_of" s_closure_of)
    (G_core_of : FG K mg "core_of" s_core_of)
    (G_joined_value : FG K mg "joined_value" s_joined_value)
    (G_is_closed : FG K mg "is_closed" s_is_closed)
    (G_are_apart : FG K mg "are_apart" s_are_apart)
    (G_all_closed : FG K mg "all_closed" s_all_closed)
    (G_closed_list : FG K mg "closed_list" s_closed_list)
    (G_closed_values : FG K mg "closed_values" s_closed_values)
    (G_is_entry : FG K mg "is_entry" s_is_entry)
    (G_need_reading : FG K mg "need_reading" s_need_reading)
    (G_need_reading_of : FG K mg "need_reading_of" s_need_reading_of)
    (G_lacking_name : FG K mg "lacking_name" s_lacking_name)
    (G_need_letters : FG K mg "need_letters" s_need_letters)
    (G_line_bits : FG K mg "line_bits" s_line_bits)
    (G_meaning_by : FG K mg "meaning_by" s_meaning_by)
    (G_meaning_of : FG K mg "meaning_of" s_meaning_of)
    (G_law_mixed : FG K mg "_law_mixed" s_law_mixed)
    (G_law_draw : FG K mg "_law_draw" s_law_draw)
    (G_law_folded : FG K mg "_law_folded" s_law_folded)
    (G_law_begun : FG K mg "_law_begun" s_law_begun)
    (G_law_value : FG K mg "_law_value" s_law_value)
    (G_law_frame : FG K mg "_law_frame" s_law_frame)
    (G_law_same : FG K mg "_law_same" s_law_same)
    (G_law_contrary : FG K mg "_law_contrary" s_law_contrary)
    (G_law_closure : FG K mg "_law_closure" s_law_closure)
    (G_law_closed : FG K mg "_law_closed" s_law_closed)
    (G_law_values_right : FG K mg "_law_values_right" s_law_values_right)
    (G_law_meant_right : FG K mg "_law_meant_right" s_law_meant_right)
    (G_law_all_right : FG K mg "_law_all_right" s_law_all_right)
    (G_law_great : FG K mg "_law_great" s_law_great)
    (G_law : FG K mg "law" s_law) : ∃ fd : FuncData, (∀ (s : Shared) (v : Value), BindsTo s fd ⟨[v], []⟩ [("script", v)]) ∧ ∀ base : Heap, K.In base → base.Ns mainGlobals mg → FnOk l.prog w K mg base CX0 48 fa fd ["script"] (spLaw K) := by
  obtain ⟨f0, fd0, F0, m0, k0⟩ := G_law.ex
  have e0 := hfa.symm.trans m0
  cases e0
  refine ⟨fd0, F0.law1, fun base _ _ => ?_⟩
  obtain ⟨f_is_name, fd_is_name, F_is_name, m_is_name, k_is_name⟩ := G_is_name.ex
  have b_D_is_name := F_is_name.binds (ps := ["value"]) fun _ _ _ _ _ _ us hl => match us, hl with | [_], _ => rfl
  have D_is_name := (⟨f_is_name, fd_is_name, (ok_is_name F_is_name T), m_is_name, k_is_name, b_D_is_name⟩ : Def l.prog w K mg base "is_name" 1 ["value"] (spIsName K))
  obtain ⟨f_is_node, fd_is_node, F_is_node, m_is_node, k_is_node⟩ := G_is_node.ex
  have b_D_is_node := F_is_node.binds (ps := ["value"]) fun _ _ _ _ _ _ us hl => match us, hl with | [_], _ => rfl
  have D_is_node := (⟨f_is_node, fd_is_node, (ok_is_node F_is_node T D_is_name), m_is_node, k_is_node, b_D_is_node⟩ : Def l.prog w K mg base "is_node" 2 ["value"] (spIsNode K))
  obtain ⟨f_terms_of, fd_terms_of, F_terms_of, m_terms_of, k_terms_of⟩ := G_terms_of.ex
  have b_D_terms_of := F_terms_of.binds (ps := ["term"]) fun _ _ _ _ _ _ us hl => match us, hl with | [_], _ => rfl
  have D_terms_of := (⟨f_terms_of, fd_terms_of, (ok_terms_of F_terms_of T), m_terms_of, k_terms_of, b_D_terms_of⟩ : Def l.prog w K mg base "terms_of" 1 ["term"] (spTermsOf K))
  obtain ⟨f_wrong_place, fd_wrong_place, F_wrong_place, m_wrong_place, k_wrong_place⟩ := G_wrong_place.ex
  have b_D_wrong_place := F_wrong_place.binds (ps := ["value"]) fun _ _ _ _ _ _ us hl => match us, hl with | [_], _ => rfl
  have D_wrong_place := (⟨f_wrong_place, fd_wrong_place, (ok_wrong_place F_wrong_place T D_is_node D_terms_of), m_wrong_place, k_wrong_place, b_D_wrong_place⟩ : Def l.prog w K mg base "wrong_place" 3 ["value"] (spWrong K))
  obtain ⟨f_size_and_depth, fd_size_and_depth, F_size_and_depth, m_size_and_depth, k_size_and_depth⟩ := G_size_and_depth.ex
  have b_D_size_and_depth := F_size_and_depth.binds (ps := ["term"]) fun _ _ _ _ _ _ us hl => match us, hl with | [_], _ => rfl
  have D_size_and_depth := (⟨f_size_and_depth, fd_size_and_depth, (ok_size_and_depth F_size_and_depth T D_terms_of), m_size_and_depth, k_size_and_depth, b_D_size_and_depth⟩ : Def l.prog w K mg base "size_and_depth" 2 ["term"] spSD)
  obtain ⟨f_need_small, fd_need_small, F_need_small, m_need_small, k_need_small⟩ := G_need_small.ex
  have b_D_need_small := F_need_small.binds (ps := ["size", "deep"]) fun _ _ _ _ _ _ us hl => match us, hl with | [_, _], _ => rfl
  have D_need_small := (⟨f_need_small, fd_need_small, (ok_need_small F_need_small T), m_need_small, k_need_small, b_D_need_small⟩ : Def l.prog w K mg base "need_small" 1 ["size", "deep"] spNS)
  obtain ⟨f_need_term_at, fd_need_term_at, F_need_term_at, m_need_term_at, k_need_term_at⟩ := G_need_term_at.ex
  have b_D_need_term_at := F_need_term_at.binds (ps := ["term", "place"]) fun _ _ _ _ _ _ us hl => match us, hl with | [_, _], _ => rfl
  have D_need_term_at := (⟨f_need_term_at, fd_need_term_at, (ok_need_term_at F_need_term_at T D_wrong_place D_size_and_depth D_need_small), m_need_term_at, k_need_term_at, b_D_need_term_at⟩ : Def l.prog w K mg base "need_term_at" 4 ["term", "place"] spNTA)
  obtain ⟨f_need_term, fd_need_term, F_need_term, m_need_term, k_need_term⟩ := G_need_term.ex
  have b_D_need_term := F_need_term.binds (ps := ["term"]) fun _ _ _ _ _ _ us hl => match us, hl with | [_], _ => rfl
  have D_need_term := (⟨f_need_term, fd_need_term, (ok_need_term F_need_term T D_need_term_at), m_need_term, k_need_term, b_D_need_term⟩ : Def l.prog w K mg base "need_term" 5 ["term"] spNT)
  have b_D_init := F_TermLines___init__.binds (ps := ["self"]) fun _ _ _ _ _ _ us hl => match us, hl with | [_], _ => rfl
  have D_init := (⟨f_TermLines___init__, fd_TermLines___init__, (ok_init F_TermLines___init__ T TC_TermLines), M_TermLines___init__, b_D_init⟩ : IDef l.prog w K mg base C_TermLines 1 ["self"] (spInit C_TermLines))
  have b_D_line_number := F_TermLines_line_number.binds (ps := ["self", "line"]) fun _ _ _ _ _ _ us hl => match us, hl with | [_, _], _ => rfl
  have D_line_number := (⟨f_TermLines_line_number, fd_TermLines_line_number, (ok_line_number F_TermLines_line_number T TC_TermLines), M_TermLines_line_number, b_D_line_number⟩ : MDef l.prog w K mg base C_TermLines "line_number" 1 ["self", "line"] (spLN C_TermLines))
  have b_D_term_number := F_TermLines_term_number.binds (ps := ["self", "term"]) fun _ _ _ _ _ _ us hl => match us, hl with | [_, _], _ => rfl
  have S_D_term_number : ∀ n : Nat, FnOk l.prog w K mg base CX0 (n + 1) f_TermLines_term_number fd_TermLines_term_number ["self", "term"] (spTN C_TermLines n) := fun n => by
    induction n with
    | zero => exact vac fun vs H Q E ⟨_, _, _, _, _, _, _, _, _, _, hd, _⟩ => absurd hd (Nat.not_lt_zero _)
    | succ n ih =>
      have D := (⟨f_TermLines_term_number, fd_TermLines_term_number, ih, M_TermLines_term_number, b_D_term_number⟩ : MDef l.prog w K mg base C_TermLines "term_number" (n + 1) ["self", "term"] (spTN C_TermLines n))
      have R := ok_term_number F_TermLines_term_number T TC_TermLines D_line_number D_terms_of D
      exact (show (n + 2) = ((n + 1) + 1) by omega) ▸ R
  have D_term_number := (⟨f_TermLines_term_number, fd_TermLines_term_number, (S_D_term_number 40), M_TermLines_term_number, b_D_term_number⟩ : MDef l.prog w K mg base C_TermLines "term_number" (40 + 1) ["self", "term"] (spTN C_TermLines 40))
  obtain ⟨f_number_parts, fd_number_parts, F_number_parts, m_number_parts, k_number_parts⟩ := G_number_parts.ex
  have b_D_number_parts := F_number_parts.binds (ps := ["term"]) fun _ _ _ _ _ _ us hl => match us, hl with | [_], _ => rfl
  have D_number_parts := (⟨f_number_parts, fd_number_parts, (ok_number_parts F_number_parts T TC_TermLines D_init D_term_number), m_number_parts, k_number_parts, b_D_number_parts⟩ : Def l.prog w K mg base "number_parts" 42 ["term"] spNP)
  obtain ⟨f_letters_in, fd_letters_in, F_letters_in, m_letters_in, k_letters_in⟩ := G_letters_in.ex
  have b_D_letters_in := F_letters_in.binds (ps := ["term"]) fun _ _ _ _ _ _ us hl => match us, hl with | [_], _ => rfl
  have D_letters_in := (⟨f_letters_in, fd_letters_in, (ok_letters_in F_letters_in T D_number_parts), m_letters_in, k_letters_in, b_D_letters_in⟩ : Def l.prog w K mg base "letters_in" 43 ["term"] (spLI false))
  obtain ⟨f_is_integer, fd_is_integer, F_is_integer, m_is_integer, k_is_integer⟩ := G_is_integer.ex
  have b_D_is_integer := F_is_integer.binds (ps := ["value"]) fun _ _ _ _ _ _ us hl => match us, hl with | [_], _ => rfl
  have D_is_integer := (⟨f_is_integer, fd_is_integer, (ok_is_integer F_is_integer T), m_is_integer, k_is_integer, b_D_is_integer⟩ : Def l.prog w K mg base "is_integer" 1 ["value"] spIsInt)
  obtain ⟨f_is_within, fd_is_within, F_is_within, m_is_within, k_is_within⟩ := G_is_within.ex
  have b_D_is_within := F_is_within.binds (ps := ["value", "least", "most"]) fun _ _ _ _ _ _ us hl => match us, hl with | [_, _, _], _ => rfl
  have D_is_within := (⟨f_is_within, fd_is_within, (ok_is_within F_is_within T D_is_integer), m_is_within, k_is_within, b_D_is_within⟩ : Def l.prog w K mg base "is_within" 2 ["value", "least", "most"] spWithin)
  obtain ⟨f_value_bits, fd_value_bits, F_value_bits, m_value_bits, k_value_bits⟩ := G_value_bits.ex
  have b_D_value_bits := F_value_bits.binds (ps := ["value"]) fun _ _ _ _ _ _ us hl => match us, hl with | [_], _ => rfl
  have D_value_bits := (⟨f_value_bits, fd_value_bits, (ok_value_bits F_value_bits T), m_value_bits, k_value_bits, b_D_value_bits⟩ : Def l.prog w K mg base "value_bits" 1 ["value"] spVB)
  obtain ⟨f_bits_value, fd_bits_value, F_bits_value, m_bits_value, k_bits_value⟩ := G_bits_value.ex
  have b_D_bits_value := F_bits_value.binds (ps := ["bits", "points"]) fun _ _ _ _ _ _ us hl => match us, hl with | [_, _], _ => rfl
  have D_bits_value := (⟨f_bits_value, fd_bits_value, (ok_bits_value F_bits_value T), m_bits_value, k_bits_value, b_D_bits_value⟩ : Def l.prog w K mg base "bits_value" 1 ["bits", "points"] spBV)
  have b_D_sinit := F_Sides___init__.binds (ps := ["self", "frame"]) fun _ _ _ _ _ _ us hl => match us, hl with | [_, _], _ => rfl
  have D_sinit := (⟨f_Sides___init__, fd_Sides___init__, (FnOk.mono (ok_sinit F_Sides___init__ T TC_Sides) (by decide)), M_Sides___init__, b_D_sinit⟩ : IDef l.prog w K mg base C_Sides 2 ["self", "frame"] (spSInit C_Sides))
  have b_D_contrary := F_Sides_contrary.binds (ps := ["self", "bits"]) fun _ _ _ _ _ _ us hl => match us, hl with | [_, _], _ => rfl
  have D_contrary := (⟨f_Sides_contrary, fd_Sides_contrary, (ok_contrary F_Sides_contrary T TC_Sides), M_Sides_contrary, b_D_contrary⟩ : MDef l.prog w K mg base C_Sides "contrary" 1 ["self", "bits"] (spCon C_Sides))
  have b_D_closure := F_Sides_closure.binds (ps := ["self", "bits"]) fun _ _ _ _ _ _ us hl => match us, hl with | [_, _], _ => rfl
  have D_closure := (⟨f_Sides_closure, fd_Sides_closure, (ok_closure F_Sides_closure T TC_Sides D_contrary), M_Sides_closure, b_D_closure⟩ : MDef l.prog w K mg base C_Sides "closure" 2 ["self", "bits"] (spClo C_Sides))
  obtain ⟨f_is_point_pair, fd_is_point_pair, F_is_point_pair, m_is_point_pair, k_is_point_pair⟩ := G_is_point_pair.ex
  have b_D_is_point_pair := F_is_point_pair.binds (ps := ["points", "value"]) fun _ _ _ _ _ _ us hl => match us, hl with | [_, _], _ => rfl
  have D_is_point_pair := (⟨f_is_point_pair, fd_is_point_pair, (ok_is_point_pair F_is_point_pair T D_is_within), m_is_point_pair, k_is_point_pair, b_D_is_point_pair⟩ : Def l.prog w K mg base "is_point_pair" 3 ["points", "value"] spPP)
  obtain ⟨f_need_frame, fd_need_frame, F_need_frame, m_need_frame, k_need_frame⟩ := G_need_frame.ex
  have b_D_need_frame := F_need_frame.binds (ps := ["frame"]) fun _ _ _ _ _ _ us hl => match us, hl with | [_], _ => rfl
  have D_need_frame := (⟨f_need_frame, fd_need_frame, (ok_need_frame F_need_frame T D_is_within D_is_point_pair), m_need_frame, k_need_frame, b_D_need_frame⟩ : Def l.prog w K mg base "need_frame" 4 ["frame"] spNF)
  obtain ⟨f_is_value, fd_is_value, F_is_value, m_is_value, k_is_value⟩ := G_is_value.ex
  have b_D_is_value := F_is_value.binds (ps := ["points", "value"]) fun _ _ _ _ _ _ us hl => match us, hl with | [_, _], _ => rfl
  have D_is_value := (⟨f_is_value, fd_is_value, (ok_is_value F_is_value T D_is_within), m_is_value, k_is_value, b_D_is_value⟩ : Def l.prog w K mg base "is_value" 3 ["points", "value"] spIV)
  obtain ⟨f_need_value, fd_need_value, F_need_value, m_need_value, k_need_value⟩ := G_need_value.ex
  have b_D_need_value := F_need_value.binds (ps := ["frame", "value"]) fun _ _ _ _ _ _ us hl => match us, hl with | [_, _], _ => rfl
  have D_need_value := (⟨f_need_value, fd_need_value, (ok_need_value F_need_value T D_is_value), m_need_value, k_need_value, b_D_need_value⟩ : Def l.prog w K mg base "need_value" 4 ["frame", "value"] spNV)
  obtain ⟨f_need_point, fd_need_point, F_need_point, m_need_point, k_need_point⟩ := G_need_point.ex
  have b_D_need_point := F_need_point.binds (ps := ["frame", "point"]) fun _ _ _ _ _ _ us hl => match us, hl with | [_, _], _ => rfl
  have D_need_point := (⟨f_need_point, fd_need_point, (ok_need_point F_need_point T D_is_within), m_need_point, k_need_point, b_D_need_point⟩ : Def l.prog w K mg base "need_point" 3 ["frame", "point"] spNPo)
  obtain ⟨f_contrary_of, fd_contrary_of, F_contrary_of, m_contrary_of, k_contrary_of⟩ := G_contrary_of.ex
  have b_D_contrary_of := F_contrary_of.binds (ps := ["frame", "points"]) fun _ _ _ _ _ _ us hl => match us, hl with | [_, _], _ => rfl
  have D_contrary_of := (⟨f_contrary_of, fd_contrary_of, (ok_contrary_of F_contrary_of T TC_Sides D_need_frame D_need_value D_value_bits D_bits_value D_sinit D_contrary), m_contrary_of, k_contrary_of, b_D_contrary_of⟩ : Def l.prog w K mg base "contrary_of" 5 ["frame", "points"] (spFV con))
  obtain ⟨f_closure_by, fd_closure_by, F_closure_by, m_closure_by, k_closure_by⟩ := G_closure_by.ex
  have b_D_closure_by := F_closure_by.binds (ps := ["frame", "points"]) fun _ _ _ _ _ _ us hl => match us, hl with | [_, _], _ => rfl
  have D_closure_by := (⟨f_closure_by, fd_closure_by, (ok_closure_by F_closure_by T TC_Sides D_value_bits D_bits_value D_sinit D_closure), m_closure_by, k_closure_by, b_D_closure_by⟩ : Def l.prog w K mg base "closure_by" 4 ["frame", "points"] (spFV clo))
  obtain ⟨f_closure_of, fd_closure_of, F_closure_of, m_closure_of, k_closure_of⟩ := G_closure_of.ex
  have b_D_closure_of := F_closure_of.binds (ps := ["frame", "points"]) fun _ _ _ _ _ _ us hl => match us, hl with | [_, _], _ => rfl
  have D_closure_of := (⟨f_closure_of, fd_closure_of, (ok_closure_of F_closure_of T D_need_frame D_need_value D_closure_by), m_closure_of, k_closure_of, b_D_closure_of⟩ : Def l.prog w K mg base "closure_of" 5 ["frame", "points"] (spFV clo))
  obtain ⟨f_core_of, fd_core_of, F_core_of, m_core_of, k_core_of⟩ := G_core_of.ex
  have b_D_core_of := F_core_of.binds (ps := ["frame", "point"]) fun _ _ _ _ _ _ us hl => match us, hl with | [_, _], _ => rfl
  have D_core_of := (⟨f_core_of, fd_core_of, (ok_core_of F_core_of T D_need_frame D_need_point D_closure_by), m_core_of, k_core_of, b_D_core_of⟩ : Def l.prog w K mg base "core_of" 5 ["frame", "point"] spCore)
  obtain ⟨f_joined_value, fd_joined_value, F_joined_value, m_joined_value, k_joined_value⟩ := G_joined_value.ex
  have b_D_joined_value := F_joined_value.binds (ps := ["frame", "points", "other_points"]) fun _ _ _ _ _ _ us hl => match us, hl with | [_, _, _], _ => rfl
  have D_joined_value := (⟨f_joined_value, fd_joined_value, (ok_joined_value F_joined_value T TC_Sides D_need_frame D_need_value D_value_bits D_bits_value D_sinit D_closure), m_joined_value, k_joined_value, b_D_joined_value⟩ : Def l.prog w K mg base "joined_value" 5 ["frame", "points", "other_points"] spJoin)
  obtain ⟨f_is_closed, fd_is_closed, F_is_closed, m_is_closed, k_is_closed⟩ := G_is_closed.ex
  have b_D_is_closed := F_is_closed.binds (ps := ["frame", "points"]) fun _ _ _ _ _ _ us hl => match us, hl with | [_, _], _ => rfl
  have D_is_closed := (⟨f_is_closed, fd_is_closed, (ok_is_closed F_is_closed T D_closure_of), m_is_closed, k_is_closed, b_D_is_closed⟩ : Def l.prog w K mg base "is_closed" 6 ["frame", "points"] spClosed)
  obtain ⟨f_are_apart, fd_are_apart, F_are_apart, m_are_apart, k_are_apart⟩ := G_are_apart.ex
  have b_D_are_apart := F_are_apart.binds (ps := ["frame", "point", "other_point"]) fun _ _ _ _ _ _ us hl => match us, hl with | [_, _, _], _ => rfl
  have D_are_apart := (⟨f_are_apart, fd_are_apart, (ok_are_apart F_are_apart T D_need_frame D_need_point), m_are_apart, k_are_apart, b_D_are_apart⟩ : Def l.prog w K mg base "are_apart" 5 ["frame", "point", "other_point"] spApart)
  obtain ⟨f_all_closed, fd_all_closed, F_all_closed, m_all_closed, k_all_closed⟩ := G_all_closed.ex
  have b_D_all_closed := F_all_closed.binds (ps := ["sides"]) fun _ _ _ _ _ _ us hl => match us, hl with | [_], _ => rfl
  have D_all_closed := (⟨f_all_closed, fd_all_closed, (ok_all_closed F_all_closed T TC_Sides), m_all_closed, k_all_closed, b_D_all_closed⟩ : Def l.prog w K mg base "all_closed" 1 ["sides"] (spAC C_Sides))
  obtain ⟨f_closed_list, fd_closed_list, F_closed_list, m_closed_list, k_closed_list⟩ := G_closed_list.ex
  have b_D_closed_list := F_closed_list.binds (ps := ["frame"]) fun _ _ _ _ _ _ us hl => match us, hl with | [_], _ => rfl
  have D_closed_list := (⟨f_closed_list, fd_closed_list, (ok_closed_list F_closed_list T TC_Sides D_sinit D_all_closed D_bits_value), m_closed_list, k_closed_list, b_D_closed_list⟩ : Def l.prog w K mg base "closed_list" 4 ["frame"] spCL)
  obtain ⟨f_closed_values, fd_closed_values, F_closed_values, m_closed_values, k_closed_values⟩ := G_closed_values.ex
  have b_D_closed_values := F_closed_values.binds (ps := ["frame"]) fun _ _ _ _ _ _ us hl => match us, hl with | [_], _ => rfl
  have D_closed_values := (⟨f_closed_values, fd_closed_values, (ok_closed_values F_closed_values T D_need_frame D_closed_list), m_closed_values, k_closed_values, b_D_closed_values⟩ : Def l.prog w K mg base "closed_values" 5 ["frame"] spCV)
  obtain ⟨f_is_entry, fd_is_entry, F_is_entry, m_is_entry, k_is_entry⟩ := G_is_entry.ex
  have b_D_is_entry := F_is_entry.binds (ps := ["sides", "value"]) fun _ _ _ _ _ _ us hl => match us, hl with | [_, _], _ => rfl
  have D_is_entry := (⟨f_is_entry, fd_is_entry, (ok_is_entry F_is_entry T TC_Sides D_is_name D_is_value D_value_bits D_closure), m_is_entry, k_is_entry, b_D_is_entry⟩ : Def l.prog w K mg base "is_entry" 4 ["sides", "value"] (spIsEnt C_Sides))
  obtain ⟨f_need_reading_of, fd_need_reading_of, F_need_reading_of, m_need_reading_of, k_need_reading_of⟩ := G_need_reading_of.ex
  have b_D_need_reading_of := F_need_reading_of.binds (ps := ["frame", "reading"]) fun _ _ _ _ _ _ us hl => match us, hl with | [_, _], _ => rfl
  have D_need_reading_of := (⟨f_need_reading_of, fd_need_reading_of, (ok_need_reading_of F_need_reading_of T TC_Sides D_sinit D_is_entry), m_need_reading_of, k_need_reading_of, b_D_need_reading_of⟩ : Def l.prog w K mg base "need_reading_of" 5 ["frame", "reading"] spNRO)
  obtain ⟨f_lacking_name, fd_lacking_name, F_lacking_name, m_lacking_name, k_lacking_name⟩ := G_lacking_name.ex
  have b_D_lacking_name := F_lacking_name.binds (ps := ["names", "terms"]) fun _ _ _ _ _ _ us hl => match us, hl with | [_, _], _ => rfl
  have D_lacking_name := (⟨f_lacking_name, fd_lacking_name, (ok_lacking_name F_lacking_name T D_letters_in), m_lacking_name, k_lacking_name, b_D_lacking_name⟩ : Def l.prog w K mg base "lacking_name" 44 ["names", "terms"] spLack)
  obtain ⟨f_need_letters, fd_need_letters, F_need_letters, m_need_letters, k_need_letters⟩ := G_need_letters.ex
  have b_D_need_letters := F_need_letters.binds (ps := ["names", "terms"]) fun _ _ _ _ _ _ us hl => match us, hl with | [_, _], _ => rfl
  have D_need_letters := (⟨f_need_letters, fd_need_letters, (ok_need_letters F_need_letters T D_lacking_name), m_need_letters, k_need_letters, b_D_need_letters⟩ : Def l.prog w K mg base "need_letters" 45 ["names", "terms"] spNL)
  obtain ⟨f_line_bits, fd_line_bits, F_line_bits, m_line_bits, k_line_bits⟩ := G_line_bits.ex
  have b_D_line_bits := F_line_bits.binds (ps := ["sides", "values", "lines"]) fun _ _ _ _ _ _ us hl => match us, hl with | [_, _, _], _ => rfl
  have D_line_bits := (⟨f_line_bits, fd_line_bits, (ok_line_bits F_line_bits T TC_Sides D_contrary D_closure), m_line_bits, k_line_bits, b_D_line_bits⟩ : Def l.prog w K mg base "line_bits" 3 ["sides", "values", "lines"] (spLB C_Sides))
  obtain ⟨f_meaning_by, fd_meaning_by, F_meaning_by, m_meaning_by, k_meaning_by⟩ := G_meaning_by.ex
  have b_D_meaning_by := F_meaning_by.binds (ps := ["frame", "values", "term"]) fun _ _ _ _ _ _ us hl => match us, hl with | [_, _, _], _ => rfl
  have D_meaning_by := (⟨f_meaning_by, fd_meaning_by, (ok_meaning_by F_meaning_by T TC_TermLines TC_Sides D_init D_sinit D_term_number D_line_bits D_value_bits D_bits_value), m_meaning_by, k_meaning_by, b_D_meaning_by⟩ : Def l.prog w K mg base "meaning_by" 42 ["frame", "values", "term"] spMB)
  obtain ⟨f_law_mixed, fd_law_mixed, F_law_mixed, m_law_mixed, k_law_mixed⟩ := G_law_mixed.ex
  have b_D_law_mixed := F_law_mixed.binds (ps := ["cell", "n"]) fun _ _ _ _ _ _ us hl => match us, hl with | [_, _], _ => rfl
  have D_law_mixed := (⟨f_law_mixed, fd_law_mixed, (ok_law_mixed F_law_mixed T), m_law_mixed, k_law_mixed, b_D_law_mixed⟩ : Def l.prog w K mg base "_law_mixed" 1 ["cell", "n"] spMixed)
  obtain ⟨f_law_draw, fd_law_draw, F_law_draw, m_law_draw, k_law_draw⟩ := G_law_draw.ex
  have b_D_law_draw := F_law_draw.binds (ps := ["m", "limit"]) fun _ _ _ _ _ _ us hl => match us, hl with | [_, _], _ => rfl
  have D_law_draw := (⟨f_law_draw, fd_law_draw, (ok_law_draw F_law_draw T D_law_mixed), m_law_draw, k_law_draw, b_D_law_draw⟩ : Def l.prog w K mg base "_law_draw" 2 ["m", "limit"] spDraw)
  obtain ⟨f_law_folded, fd_law_folded, F_law_folded, m_law_folded, k_law_folded⟩ := G_law_folded.ex
  have b_D_law_folded := F_law_folded.binds (ps := ["script"]) fun _ _ _ _ _ _ us hl => match us, hl with | [_], _ => rfl
  have D_law_folded := (⟨f_law_folded, fd_law_folded, (ok_law_folded F_law_folded T), m_law_folded, k_law_folded, b_D_law_folded⟩ : Def l.prog w K mg base "_law_folded" 1 ["script"] (spFolded K))
  obtain ⟨f_law_begun, fd_law_begun, F_law_begun, m_law_begun, k_law_begun⟩ := G_law_begun.ex
  have b_D_law_begun := F_law_begun.binds (ps := ["script"]) fun _ _ _ _ _ _ us hl => match us, hl with | [_], _ => rfl
  have D_law_begun := (⟨f_law_begun, fd_law_begun, (ok_law_begun F_law_begun T D_law_folded), m_law_begun, k_law_begun, b_D_law_begun⟩ : Def l.prog w K mg base "_law_begun" 2 ["script"] (spBegun K))
  obtain ⟨f_law_value, fd_law_value, F_law_value, m_law_value, k_law_value⟩ := G_law_value.ex
  have b_D_law_value := F_law_value.binds (ps := ["m", "many"]) fun _ _ _ _ _ _ us hl => match us, hl with | [_, _], _ => rfl
  have D_law_value := (⟨f_law_value, fd_law_value, (ok_law_value F_law_value T D_law_draw), m_law_value, k_law_value, b_D_law_value⟩ : Def l.prog w K mg base "_law_value" 3 ["m", "many"] spVal)
  obtain ⟨f_law_frame, fd_law_frame, F_law_frame, m_law_frame, k_law_frame⟩ := G_law_frame.ex
  have b_D_law_frame := F_law_frame.binds (ps := ["m", "most"]) fun _ _ _ _ _ _ us hl => match us, hl with | [_, _], _ => rfl
  have D_law_frame := (⟨f_law_frame, fd_law_frame, (ok_law_frame F_law_frame T D_law_draw), m_law_frame, k_law_frame, b_D_law_frame⟩ : Def l.prog w K mg base "_law_frame" 3 ["m", "most"] spFrame)
  obtain ⟨f_law_same, fd_law_same, F_law_same, m_law_same, k_law_same⟩ := G_law_same.ex
  have b_D_law_same := F_law_same.binds (ps := ["told", "due"]) fun _ _ _ _ _ _ us hl => match us, hl with | [_, _], _ => rfl
  have S_D_law_same : ∀ n : Nat, FnOk l.prog w K mg base CX0 n f_law_same fd_law_same ["told", "due"] (spSame K n) := fun n => by
    induction n with
    | zero => exact vac fun vs H Q E ⟨_, _, _, _, _, _, _, hd, _⟩ => absurd hd (Nat.not_lt_zero _)
    | succ n ih =>
      have D := (⟨f_law_same, fd_law_same, ih, m_law_same, k_law_same, b_D_law_same⟩ : Def l.prog w K mg base "_law_same" n ["told", "due"] (spSame K n))
      have R := ok_law_same F_law_same T D
      exact (show (n + 1) = (n + 1) by omega) ▸ R
  have D_law_same := (⟨f_law_same, fd_law_same, (S_D_law_same 12), m_law_same, k_law_same, b_D_law_same⟩ : Def l.prog w K mg base "_law_same" 12 ["told", "due"] (spSame K 12))
  obtain ⟨f_law_contrary, fd_law_contrary, F_law_contrary, m_law_contrary, k_law_contrary⟩ := G_law_contrary.ex
  have b_D_law_contrary := F_law_contrary.binds (ps := ["frame", "value"]) fun _ _ _ _ _ _ us hl => match us, hl with | [_, _], _ => rfl
  have D_law_contrary := (⟨f_law_contrary, fd_law_contrary, (ok_law_contrary F_law_contrary T), m_law_contrary, k_law_contrary, b_D_law_contrary⟩ : Def l.prog w K mg base "_law_contrary" 1 ["frame", "value"] (spLC con))
  obtain ⟨f_law_closure, fd_law_closure, F_law_closure, m_law_closure, k_law_closure⟩ := G_law_closure.ex
  have b_D_law_closure := F_law_closure.binds (ps := ["frame", "value"]) fun _ _ _ _ _ _ us hl => match us, hl with | [_, _], _ => rfl
  have D_law_closure := (⟨f_law_closure, fd_law_closure, (ok_law_closure F_law_closure T D_law_contrary), m_law_closure, k_law_closure, b_D_law_closure⟩ : Def l.prog w K mg base "_law_closure" 2 ["frame", "value"] (spLC clo))
  obtain ⟨f_law_closed, fd_law_closed, F_law_closed, m_law_closed, k_law_closed⟩ := G_law_closed.ex
  have b_D_law_closed := F_law_closed.binds (ps := ["frame"]) fun _ _ _ _ _ _ us hl => match us, hl with | [_], _ => rfl
  have D_law_closed := (⟨f_law_closed, fd_law_closed, (ok_law_closed F_law_closed T D_law_contrary), m_law_closed, k_law_closed, b_D_law_closed⟩ : Def l.prog w K mg base "_law_closed" 2 ["frame"] spCL)
  obtain ⟨f_law_values_right, fd_law_values_right, F_law_values_right, m_law_values_right, k_law_values_right⟩ := G_law_values_right.ex
  have b_D_law_values_right := F_law_values_right.binds (ps := ["m", "frame"]) fun _ _ _ _ _ _ us hl => match us, hl with | [_, _], _ => rfl
  have D_law_values_right := (⟨f_law_values_right, fd_law_values_right, (ok_law_values_right F_law_values_right T D_law_value D_law_contrary D_law_closure D_contrary_of D_closure_of D_is_closed D_joined_value D_law_same D_law_draw D_core_of D_are_apart), m_law_values_right, k_law_values_right, b_D_law_values_right⟩ : Def l.prog w K mg base "_law_values_right" 13 ["m", "frame"] spVR)
  obtain ⟨f_law_all_right, fd_law_all_right, F_law_all_right, m_law_all_right, k_law_all_right⟩ := G_law_all_right.ex
  have b_D_law_all_right := F_law_all_right.binds (ps := ["frame"]) fun _ _ _ _ _ _ us hl => match us, hl with | [_], _ => rfl
  have D_law_all_right := (⟨f_law_all_right, fd_law_all_right, (ok_law_all_right F_law_all_right T D_law_closed D_is_closed D_closure_of D_closed_values D_law_same), m_law_all_right, k_law_all_right, b_D_law_all_right⟩ : Def l.prog w K mg base "_law_all_right" 13 ["frame"] spAR)
  obtain ⟨f_law_great, fd_law_great, F_law_great, m_law_great, k_law_great⟩ := G_law_great.ex
  have b_D_law_great := F_law_great.binds (ps := ["m"]) fun _ _ _ _ _ _ us hl => match us, hl with | [_], _ => rfl
  have D_law_great := (⟨f_law_great, fd_law_great, (ok_law_great F_law_great T D_law_draw), m_law_great, k_law_great, b_D_law_great⟩ : Def l.prog w K mg base "_law_great" 3 ["m"] spGreat)
  obtain ⟨f_need_reading, fd_need_reading, F_need_reading, m_need_reading, k_need_reading⟩ := G_need_reading.ex
  have b_D_need_reading := F_need_reading.binds (ps := ["frame", "reading"]) fun _ _ _ _ _ _ us hl => match us, hl with | [_, _], _ => rfl
  have D_need_reading := (⟨f_need_reading, fd_need_reading, (ok_need_reading F_need_reading T D_need_frame D_need_reading_of), m_need_reading, k_need_reading, b_D_need_reading⟩ : Def l.prog w K mg base "need_reading" 6 ["frame", "reading"] spNR)
  obtain ⟨f_meaning_of, fd_meaning_of, F_meaning_of, m_meaning_of, k_meaning_of⟩ := G_meaning_of.ex
  have b_D_meaning_of := F_meaning_of.binds (ps := ["frame", "reading", "term"]) fun _ _ _ _ _ _ us hl => match us, hl with | [_, _, _], _ => rfl
  have D_meaning_of := (⟨f_meaning_of, fd_meaning_of, (ok_meaning_of F_meaning_of T D_need_reading D_need_term D_need_letters D_meaning_by), m_meaning_of, k_meaning_of, b_D_meaning_of⟩ : Def l.prog w K mg base "meaning_of" 46 ["frame", "reading", "term"] spMO)
  obtain ⟨f_law_meant_right, fd_law_meant_right, F_law_meant_right, m_law_meant_right, k_law_meant_right⟩ := G_law_meant_right.ex
  have b_D_law_meant_right := F_law_meant_right.binds (ps := ["m", "frame"]) fun _ _ _ _ _ _ us hl => match us, hl with | [_, _], _ => rfl
  have D_law_meant_right := (⟨f_law_meant_right, fd_law_meant_right, (ok_law_meant_right F_law_meant_right T D_law_value D_law_closure D_contrary_of D_meaning_of D_joined_value D_law_same), m_law_meant_right, k_law_meant_right, b_D_law_meant_right⟩ : Def l.prog w K mg base "_law_meant_right" 47 ["m", "frame"] spVR)
  exact ok_law F0 T D_law_begun D_law_frame D_law_values_right D_law_meant_right D_law_all_right D_law_draw D_law_great D_law_same D_contrary_of D_closure_of D_core_of
end N0

open PySem PySem.W PyProof.Rows in
set_option maxRecDepth 100000 in
set_option maxHeartbeats 0 in
theorem PySem.Challenge.cw_nocases_k10_whole_contraries_and_closure_holds : PySem.Challenge.rw_nocases_k10_whole_contraries_and_closure.Holds := by
  w_on; o_law; k_head; (case hw => w_witness2)
  k_fill
  refine N0.walkX (l := PySem.Challenge.rw_nocases_k10_whole_contraries_and_closure) rfl rfl (fun w h Y => PySem.W.kIn_of Y) ?F
  case F =>
    intro w mg fa h KX G XL hmg
    refine' N0.txt_go KX G ?z_isinstance ?z_len ?z_str ?z_tuple ?z_list ?z_int ?z_bool ?z_all ?z_range ?z_max ?z_min ?z_sum ?z_sorted ?z_enumerate ?z_zip ?z_dict ?z_set ?c_MOST_NAME ?c_MOST_DEEP ?c_MOST_SIZE (N0.kept_of XL.2) ?c_SMALL_LETTERS ?c_WORDS ?e_WORDS ?c_MOST_POINTS ?c_MOST_CLOSED ?gt
    (case z_isinstance => k_is)
    (case z_len => k_is)
    (case z_str => k_is)
    (case z_tuple => k_is)
    (case z_list => k_is)
    (case z_int => k_is)
    (case z_bool => k_is)
    (case z_all => k_is)
    (case z_range => k_is)
    (case z_max => k_is)
    (case z_min => k_is)
    (case z_sum => k_is)
    (case z_sorted => k_is)
    (case z_enumerate => k_is)
    (case z_zip => k_is)
    (case z_dict => k_is)
    (case z_set => k_is)
    (case c_MOST_NAME => k_is)
    (case c_MOST_DEEP => k_is)
    (case c_MOST_SIZE => k_is)
    (case c_SMALL_LETTERS => k_is)
    (case c_WORDS => k_is)
    (case e_WORDS => k_is)
    (case c_MOST_POINTS => k_is)
    (case c_MOST_CLOSED => k_is)
    case gt =>
    intro T
    refine' N0.cls_TermLines KX G ?aC_TermLines ?pg_TermLines ?hd_TermLines ?po_TermLines ?sa_TermLines ?mk_TermLines ?kc_TermLines ?x_lines_TermLines ?x_numbers_TermLines ?x_sizes_TermLines ?a___init___TermLines ?i___init___TermLines ?l___init___TermLines ?c___init___TermLines ?k___init___TermLines ?a_line_number_TermLines ?i_line_number_TermLines ?l_line_number_TermLines ?c_line_number_TermLines ?k_line_number_TermLines ?a_term_number_TermLines ?i_term_number_TermLines ?l_term_number_TermLines ?c_term_number_TermLines ?k_term_number_TermLines ?go_TermLines
    (case aC_TermLines => k_is)
    (case pg_TermLines => k_is)
    (case hd_TermLines => k_is)
    (case po_TermLines => k_is)
    (case sa_TermLines => k_is)
    (case mk_TermLines => k_is)
    (case kc_TermLines => k_is)
    (case x_lines_TermLines => k_is)
    (case x_numbers_TermLines => k_is)
    (case x_sizes_TermLines => k_is)
    (case a___init___TermLines => k_is)
    (case i___init___TermLines => k_is)
    (case l___init___TermLines => k_is)
    (case c___init___TermLines => k_is)
    (case k___init___TermLines => k_is)
    (case a_line_number_TermLines => k_is)
    (case i_line_number_TermLines => k_is)
    (case l_line_number_TermLines => k_is)
    (case c_line_number_TermLines => k_is)
    (case k_line_number_TermLines => k_is)
    (case a_term_number_TermLines => k_is)
    (case i_term_number_TermLines => k_is)
    (case l_term_number_TermLines => k_is)
    (case c_term_number_TermLines => k_is)
    (case k_term_number_TermLines => k_is)
    case go_TermLines =>
    intro C_TermLines f_TermLines___init__ f_TermLines_line_number f_TermLines_term_number fd_TermLines___init__ fd_TermLines_line_number fd_TermLines_term_number TC_TermLines F_TermLines___init__ M_TermLines___init__ F_TermLines_line_number M_TermLines_line_number F_TermLines_term_number M_TermLines_term_number
    refine' N0.cls_Sides KX G ?aC_Sides ?pg_Sides ?hd_Sides ?po_Sides ?sa_Sides ?mk_Sides ?kc_Sides ?x_points_Sides ?x_every_Sides ?x_apart_Sides ?a___init___Sides ?i___init___Sides ?l___init___Sides ?c___init___Sides ?k___init___Sides ?a_contrary_Sides ?i_contrary_Sides ?l_contrary_Sides ?c_contrary_Sides ?k_contrary_Sides ?a_closure_Sides ?i_closure_Sides ?l_closure_Sides ?c_closure_Sides ?k_closure_Sides ?go_Sides
    (case aC_Sides => k_is)
    (case pg_Sides => k_is)
    (case hd_Sides => k_is)
    (case po_Sides => k_is)
    (case sa_Sides => k_is)
    (case mk_Sides => k_is)
    (case kc_Sides => k_is)
    (case x_points_Sides => k_is)
    (case x_every_Sides => k_is)
    (case x_apart_Sides => k_is)
    (case a___init___Sides => k_is)
    (case i___init___Sides => k_is)
    (case l___init___Sides => k_is)
    (case c___init___Sides => k_is)
    (case k___init___Sides => k_is)
    (case a_contrary_Sides => k_is)
    (case i_contrary_Sides => k_is)
    (case l_contrary_Sides => k_is)
    (case c_contrary_Sides => k_is)
    (case k_contrary_Sides => k_is)
    (case a_closure_Sides => k_is)
    (case i_closure_Sides => k_is)
    (case l_closure_Sides => k_is)
    (case c_closure_Sides => k_is)
    (case k_closure_Sides => k_is)
    case go_Sides =>
    intro C_Sides f_Sides___init__ f_Sides_contrary f_Sides_closure fd_Sides___init__ fd_Sides_contrary fd_Sides_closure TC_Sides F_Sides___init__ M_Sides___init__ F_Sides_contrary M_Sides_contrary F_Sides_closure M_Sides_closure
    refine' N0.all_mk KX G hmg T TC_TermLines F_TermLines___init__ M_TermLines___init__ F_TermLines_line_number M_TermLines_line_number F_TermLines_term_number M_TermLines_term_number TC_Sides F_Sides___init__ M_Sides___init__ F_Sides_contrary M_Sides_contrary F_Sides_closure M_Sides_closure ?g_is_name ?g_is_node ?g_terms_of ?g_wrong_place ?g_size_and_depth ?g_need_small ?g_need_term_at ?g_need_term ?g_number_parts ?g_letters_in ?g_is_integer ?g_is_within ?g_value_bits ?g_bits_value ?g_is_point_pair ?g_need_frame ?g_is_value ?g_need_value ?g_need_point ?g_contrary_of ?g_closure_by ?g_closure_of ?g_core_of ?g_joined_value ?g_is_closed ?g_are_apart ?g_all_closed ?g_closed_list ?g_closed_values ?g_is_entry ?g_need_reading ?g_need_reading_of ?g_lacking_name ?g_need_letters ?g_line_bits ?g_meaning_by ?g_meaning_of ?g_law_mixed ?g_law_draw ?g_law_folded ?g_law_begun ?g_law_value ?g_law_frame ?g_law_same ?g_law_contrary ?g_law_closure ?g_law_closed ?g_law_values_right ?g_law_meant_right ?g_law_all_right ?g_law_great ?g_law
    (case g_is_name => (refine' N0.fnG KX G ?a ?l ?c ?k; (case a => k_is); (case l => k_is); (case c => k_is); (case k => k_is)))
    (case g_is_node => (refine' N0.fnG KX G ?a ?l ?c ?k; (case a => k_is); (case l => k_is); (case c => k_is); (case k => k_is)))
    (case g_terms_of => (refine' N0.fnG KX G ?a ?l ?c ?k; (case a => k_is); (case l => k_is); (case c => k_is); (case k => k_is)))
    (case g_wrong_place => (refine' N0.fnG KX G ?a ?l ?c ?k; (case a => k_is); (case l => k_is); (case c => k_is); (case k => k_is)))
    (case g_size_and_depth => (refine' N0.fnG KX G ?a ?l ?c ?k; (case a => k_is); (case l => k_is); (case c => k_is); (case k => k_is)))
    (case g_need_small => (refine' N0.fnG KX G ?a ?l ?c ?k; (case a => k_is); (case l => k_is); (case c => k_is); (case k => k_is)))
    (case g_need_term_at => (refine' N0.fnG KX G ?a ?l ?c ?k; (case a => k_is); (case l => k_is); (case c => k_is); (case k => k_is)))
    (case g_need_term => (refine' N0.fnG KX G ?a ?l ?c ?k; (case a => k_is); (case l => k_is); (case c => k_is); (case k => k_is)))
    (case g_number_parts => (refine' N0.fnG KX G ?a ?l ?c ?k; (case a => k_is); (case l => k_is); (case c => k_is); (case k => k_is)))
    (case g_letters_in => (refine' N0.fnG KX G ?a ?l ?c ?k; (case a => k_is); (case l => k_is); (case c => k_is); (case k => k_is)))
    (case g_is_integer => (refine' N0.fnG KX G ?a ?l ?c ?k; (case a => k_is); (case l => k_is); (case c => k_is); (case k => k_is)))
    (case g_is_within => (refine' N0.fnG KX G ?a ?l ?c ?k; (case a => k_is); (case l => k_is); (case c => k_is); (case k => k_is)))
    (case g_value_bits => (refine' N0.fnG KX G ?a ?l ?c ?k; (case a => k_is); (case l => k_is); (case c => k_is); (case k => k_is)))
    (case g_bits_value => (refine' N0.fnG KX G ?a ?l ?c ?k; (case a => k_is); (case l => k_is); (case c => k_is); (case k => k_is)))
    (case g_is_point_pair => (refine' N0.fnG KX G ?a ?l ?c ?k; (case a => k_is); (case l => k_is); (case c => k_is); (case k => k_is)))
    (case g_need_frame => (refine' N0.fnG KX G ?a ?l ?c ?k; (case a => k_is); (case l => k_is); (case c => k_is); (case k => k_is)))
    (case g_is_value => (refine' N0.fnG KX G ?a ?l ?c ?k; (case a => k_is); (case l => k_is); (case c => k_is); (case k => k_is)))
    (case g_need_value => (refine' N0.fnG KX G ?a ?l ?c ?k; (case a => k_is); (case l => k_is); (case c => k_is); (case k => k_is)))
    (case g_need_point => (refine' N0.fnG KX G ?a ?l ?c ?k; (case a => k_is); (case l => k_is); (case c => k_is); (case k => k_is)))
    (case g_contrary_of => (refine' N0.fnG KX G ?a ?l ?c ?k; (case a => k_is); (case l => k_is); (case c => k_is); (case k => k_is)))
    (case g_closure_by => (refine' N0.fnG KX G ?a ?l ?c ?k; (case a => k_is); (case l => k_is); (case c => k_is); (case k => k_is)))
    (case g_closure_of => (refine' N0.fnG KX G ?a ?l ?c ?k; (case a => k_is); (case l => k_is); (case c => k_is); (case k => k_is)))
    (case g_core_of => (refine' N0.fnG KX G ?a ?l ?c ?k; (case a => k_is); (case l => k_is); (case c => k_is); (case k => k_is)))
    (case g_joined_value => (refine' N0.fnG KX G ?a ?l ?c ?k; (case a => k_is); (case l => k_is); (case c => k_is); (case k => k_is)))
    (case g_is_closed => (refine' N0.fnG KX G ?a ?l ?c ?k; (case a => k_is); (case l => k_is); (case c => k_is); (case k => k_is)))
    (case g_are_apart => (refine' N0.fnG KX G ?a ?l ?c ?k; (case a => k_is); (case l => k_is); (case c => k_is); (case k => k_is)))
    (case g_all_closed => (refine' N0.fnG KX G ?a ?l ?c ?k; (case a => k_is); (case l => k_is); (case c => k_is); (case k => k_is)))
    (case g_closed_list => (refine' N0.fnG KX G ?a ?l ?c ?k; (case a => k_is); (case l => k_is); (case c => k_is); (case k => k_is)))
    (case g_closed_values => (refine' N0.fnG KX G ?a ?l ?c ?k; (case a => k_is); (case l => k_is); (case c => k_is); (case k => k_is)))
    (case g_is_entry => (refine' N0.fnG KX G ?a ?l ?c ?k; (case a => k_is); (case l => k_is); (case c => k_is); (case k => k_is)))
    (case g_need_reading => (refine' N0.fnG KX G ?a ?l ?c ?k; (case a => k_is); (case l => k_is); (case c => k_is); (case k => k_is)))
    (case g_need_reading_of => (refine' N0.fnG KX G ?a ?l ?c ?k; (case a => k_is); (case l => k_is); (case c => k_is); (case k => k_is)))
    (case g_lacking_name => (refine' N0.fnG KX G ?a ?l ?c ?k; (case a => k_is); (case l => k_is); (case c => k_is); (case k => k_is)))
    (case g_need_letters => (refine' N0.fnG KX G ?a ?l ?c ?k; (case a => k_is); (case l => k_is); (case c => k_is); (case k => k_is)))
    (case g_line_bits => (refine' N0.fnG KX G ?a ?l ?c ?k; (case a => k_is); (case l => k_is); (case c => k_is); (case k => k_is)))
    (case g_meaning_by => (refine' N0.fnG KX G ?a ?l ?c ?k; (case a => k_is); (case l => k_is); (case c => k_is); (case k => k_is)))
    (case g_meaning_of => (refine' N0.fnG KX G ?a ?l ?c ?k; (case a => k_is); (case l => k_is); (case c => k_is); (case k => k_is)))
    (case g_law_mixed => (refine' N0.fnG KX G ?a ?l ?c ?k; (case a => k_is); (case l => k_is); (case c => k_is); (case k => k_is)))
    (case g_law_draw => (refine' N0.fnG KX G ?a ?l ?c ?k; (case a => k_is); (case l => k_is); (case c => k_is); (case k => k_is)))
    (case g_law_folded => (refine' N0.fnG KX G ?a ?l ?c ?k; (case a => k_is); (case l => k_is); (case c => k_is); (case k => k_is)))
    (case g_law_begun => (refine' N0.fnG KX G ?a ?l ?c ?k; (case a => k_is); (case l => k_is); (case c => k_is); (case k => k_is)))
    (case g_law_value => (refine' N0.fnG KX G ?a ?l ?c ?k; (case a => k_is); (case l => k_is); (case c => k_is); (case k => k_is)))
    (case g_law_frame => (refine' N0.fnG KX G ?a ?l ?c ?k; (case a => k_is); (case l => k_is); (case c => k_is); (case k => k_is)))
    (case g_law_same => (refine' N0.fnG KX G ?a ?l ?c ?k; (case a => k_is); (case l => k_is); (case c => k_is); (case k => k_is)))
    (case g_law_contrary => (refine' N0.fnG KX G ?a ?l ?c ?k; (case a => k_is); (case l => k_is); (case c => k_is); (case k => k_is)))
    (case g_law_closure => (refine' N0.fnG KX G ?a ?l ?c ?k; (case a => k_is); (case l => k_is); (case c => k_is); (case k => k_is)))
    (case g_law_closed => (refine' N0.fnG KX G ?a ?l ?c ?k; (case a => k_is); (case l => k_is); (case c => k_is); (case k => k_is)))
    (case g_law_values_right => (refine' N0.fnG KX G ?a ?l ?c ?k; (case a => k_is); (case l => k_is); (case c => k_is); (case k => k_is)))
    (case g_law_meant_right => (refine' N0.fnG KX G ?a ?l ?c ?k; (case a => k_is); (case l => k_is); (case c => k_is); (case k => k_is)))
    (case g_law_all_right => (refine' N0.fnG KX G ?a ?l ?c ?k; (case a => k_is); (case l => k_is); (case c => k_is); (case k => k_is)))
    (case g_law_great => (refine' N0.fnG KX G ?a ?l ?c ?k; (case a => k_is); (case l => k_is); (case c => k_is); (case k => k_is)))
    (case g_law => (refine' N0.fnG KX G ?a ?l ?c ?k; (case a => k_is); (case l => k_is); (case c => k_is); (case k => k_is)))
